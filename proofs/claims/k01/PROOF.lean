import PyProof.Rows.All
import Wide.All
import OpenK.AllK
import Wide.FinOn
import HandS.ForMost
import HandS.Defaults
import HandS.Flow
import HandS.Wide
import HandS.WideBits
import HandS.Walk
import HandS.IsInst
import HandS.StrMore
import HandS.Style
import HandS.TupAny
import HandS.Deep
import HandS.Lambda
import HandS.ExcInit
import HandS.ExcField
import HandS.ExcIs
import KE.KExcIs
import HandS.ClsMeth
import HandS.SortRule
import PyProof.ListStr
import HandS.Conv
import KE.KDictCopyH
import PyProof.NeKinds
import PyProof.EqAt
import PyProof.SliceStr2
import KE.IntTextLaws
import HandS.HeadEnd
import HandS.Iter
import PyProof.Draws
import PyProof.EnumMake
import HandS.Small
import KE.KRevSl
import KE.KSortTup
import PyProof.Rows.SortKeyStr
import PyProof.Rows.SortStr
import HandS.More
import HandS.SortInts
import HandS.Dict
import PyProof.ReprRoads
import PyProof.SumWalkG
import PyProof.Rows.SumAny
import HandS.Sort
import HandS.DictComp
import HandS.HeadHook4
import HandS.Star
import HandS.CallRecv
import HandS.ExcValue
import PyProof.Rows.SetFrom
import HandS.Strs
import HandS.Zip
import HandS.Set
import HandS.TupLe
import HandS.Replace
import HandS.Nested
import KE.SortKeyHeap
import HandS.EndTab
import KE.KOpsOwn
import PyProof.Rows.ReprOcc
import KE.KStateDown
import Lean
import HandS.Exc
import HandS.Head0
import HandS.Head1
import HandS.Head2
import HandS.HeadHook1
import HandS.HeadHook2
import PySem.Challenge.RW_takennames_k01_errors_made
set_option Elab.async false
set_option linter.all false
set_option maxRecDepth 1000000
set_option maxHeartbeats 0
set_option exponentiation.threshold 3000
namespace Ti
open PySem

inductive HK where
  | non | int (i : Int) | str (x : Str) | tup (ks : List HK)

inductive W where
  | non | bl (b : Bool) | int (i : Int) | str (x : Str)
  | tup (ws : List W) | lst (ws : List W) | dic (kd : Bool) (kvs : List (HK × W))
  | obj (c : Nat) (fs : List (Str × W))
  | err (c : Nat) (fs : List (Str × W))
  | ref (i : Nat)
  | scr (ns : List Int)

inductive Cell where
  | lst (ws : List W) | dic (kd : Bool) (kvs : List (HK × W)) | obj (c : Nat) (fs : List (Str × W)) | frz (w : W)

abbrev Hh := List Cell
abbrev Env := List (Option W)

inductive Res (α : Type) where
  | ok (a : α) | exc (e : W) (h : Hh) | bad

def Res.bind {α β : Type} (r : Res α) (f : α → Res β) : Res β := match r with
  | .ok a => f a
  | .exc e h => .exc e h
  | .bad => .bad
@[simp] theorem Res.bind_ok {α β : Type} (a : α) (f : α → Res β) : (Res.ok a).bind f = f a := rfl
@[simp] theorem Res.bind_exc {α β : Type} (e : W) (h : Hh) (f : α → Res β) : (Res.exc e h : Res α).bind f = .exc e h := rfl
@[simp] theorem Res.bind_bad {α β : Type} (f : α → Res β) : (Res.bad : Res α).bind f = .bad := rfl
theorem Res.bind_eq_ok {α β : Type} {r : Res α} {f : α → Res β} {b : β} (h : r.bind f = .ok b) : ∃ a, r = .ok a ∧ f a = .ok b := by
  cases r with
  | ok a => exact ⟨a, rfl, h⟩
  | exc e h' => cases h
  | bad => cases h
def ofO {α : Type} : Option α → Res α
  | some a => .ok a
  | none => .bad
@[simp] theorem ofO_some {α : Type} (a : α) : ofO (some a) = .ok a := rfl
@[simp] theorem ofO_none {α : Type} : (ofO none : Res α) = .bad := rfl
theorem ofO_eq_ok {α : Type} {o : Option α} {a : α} (h : ofO o = .ok a) : o = some a := by
  cases o with
  | none => cases h
  | some b => cases h; rfl

abbrev R1 := Res (W × Hh)
abbrev DE := Env → Hh → R1
abbrev Fn := List W → Hh → R1
abbrev F1 := W → Hh → R1
abbrev F2 := W → W → Hh → R1
abbrev F3 := W → W → W → Hh → R1
abbrev DT := W → Env → Hh → Res (Env × Hh)
inductive Fl where
  | nx | rt (w : W) | bk | ct
abbrev DS := Env → Hh → Res (Fl × Env × Hh)

def lineW : Nat := 2 ^ 24

mutual
def nor : W → Bool
  | .non | .bl _ | .int _ | .str _ | .scr _ => true
  | .tup ws | .lst ws => nors ws
  | .dic _ kvs => norK kvs
  | .obj _ fs => norF fs
  | .err _ fs => norF fs
  | .ref _ => false
def nors : List W → Bool
  | [] => true
  | w :: ws => nor w && nors ws
def norK : List (HK × W) → Bool
  | [] => true
  | (_, w) :: ws => nor w && norK ws
def norF : List (Str × W) → Bool
  | [] => true
  | (_, w) :: ws => nor w && norF ws
end
def Cell.tree : Cell → W
  | .lst ws => .lst ws
  | .dic kd kvs => .dic kd kvs
  | .obj c fs => .obj c fs
  | .frz w => w
mutual
def thaw (n : Nat) (h : Hh) : W → Option W
  | .non => some .non
  | .bl b => some (.bl b)
  | .int i => some (.int i)
  | .str x => some (.str x)
  | .scr ns => some (.scr ns)
  | .tup ws => (thaws n h ws).map .tup
  | .lst ws => (thaws n h ws).map .lst
  | .dic kd kvs => if norK kvs then some (.dic kd kvs) else none
  | .obj c fs => if norF fs then some (.obj c fs) else none
  | .err c fs => if norF fs then some (.err c fs) else none
  | .ref i => if i < n then some (.ref i) else (h[i]?).map Cell.tree
def thaws (n : Nat) (h : Hh) : List W → Option (List W)
  | [] => some []
  | w :: ws => match thaw n h w, thaws n h ws with
    | some a, some b => some (a :: b)
    | _, _ => none
end
mutual
theorem thaw_nor {n : Nat} {h : Hh} : ∀ {w : W}, nor w = true → thaw n h w = some w
  | .non, _ => rfl
  | .bl _, _ => rfl
  | .int _, _ => rfl
  | .str _, _ => rfl
  | .scr _, _ => rfl
  | .tup ws, e => by
    have e : nors ws = true := e
    unfold thaw
    rw [thaws_nor e] <;> rfl
  | .lst ws, e => by
    have e : nors ws = true := e
    unfold thaw
    rw [thaws_nor e] <;> rfl
  | .dic kd kvs, e => by
    have e : norK kvs = true := e
    unfold thaw
    rw [if_pos e]
  | .obj c fs, e => by
    have e : norF fs = true := e
    unfold thaw
    rw [if_pos e]
  | .err c fs, e => by
    have e : norF fs = true := e
    unfold thaw
    rw [if_pos e]
  | .ref _, e => by cases e
theorem thaws_nor {n : Nat} {h : Hh} : ∀ {ws : List W}, nors ws = true → thaws n h ws = some ws
  | [], _ => rfl
  | w :: ws, e => by
    have e : (nor w && nors ws) = true := e
    rw [Bool.and_eq_true] at e
    unfold thaws
    rw [thaw_nor e.1, thaws_nor e.2]
end
inductive Mode where
  | deep | top | raw
def fin (m : Mode) (n : Nat) (w : W) (h : Hh) : R1 := match m with
  | .deep => (ofO (thaw n h w)).bind fun t => .ok (t, h.take n)
  | .top => match w with
    | .ref i => if i < n then .bad else (ofO h[i]?).bind fun c => .ok (.ref n, h.take n ++ [c])
    | _ => .bad
  | .raw => .ok (w, h)

def asL (h : Hh) : W → Option (List W)
  | .lst ws => some ws
  | .ref i => match h[i]? with
    | some (.lst ws) => some ws
    | some (.frz (.lst ws)) => some ws
    | _ => none
  | _ => none
def asD (h : Hh) : W → Option (Bool × List (HK × W))
  | .dic kd kvs => some (kd, kvs)
  | .ref i => match h[i]? with
    | some (.dic kd kvs) => some (kd, kvs)
    | some (.frz (.dic kd kvs)) => some (kd, kvs)
    | _ => none
  | _ => none
def look (h : Hh) : W → W
  | .ref i => match h[i]? with
    | some c => c.tree
    | none => .ref i
  | w => w

mutual
def keyOf : W → Option HK
  | .non => some .non
  | .int i => some (.int i)
  | .str x => some (.str x)
  | .tup ws => (keysOf ws).map .tup
  | _ => none
def keysOf : List W → Option (List HK)
  | [] => some []
  | w :: ws => match keyOf w, keysOf ws with
    | some a, some b => some (a :: b)
    | _, _ => none
end
mutual
def HK.w : HK → W
  | .non => .non
  | .int i => .int i
  | .str x => .str x
  | .tup ks => .tup (HK.ws ks)
def HK.ws : List HK → List W
  | [] => []
  | k :: ks => HK.w k :: HK.ws ks
end
mutual
def HK.beq : HK → HK → Bool
  | .non, .non => true
  | .int i, .int j => i == j
  | .str x, .str y => decide (x = y)
  | .tup a, .tup b => HK.beqs a b
  | _, _ => false
def HK.beqs : List HK → List HK → Bool
  | [], [] => true
  | a :: as, b :: bs => HK.beq a b && HK.beqs as bs
  | _, _ => false
end
mutual
theorem HK.beq_eq : ∀ {a b : HK}, HK.beq a b = true → a = b
  | .non, b, e => by cases b <;> first | rfl | cases e
  | .int i, b, e => by
    cases b <;> first | cases e | skip
    have e : (i == _) = true := e
    rw [eq_of_beq e]
  | .str x, b, e => by
    cases b <;> first | cases e | skip
    rw [of_decide_eq_true (show decide (x = _) = true from e)]
  | .tup as, b, e => by
    cases b <;> first | cases e | skip
    rw [HK.beqs_eq (show HK.beqs as _ = true from e)]
theorem HK.beqs_eq : ∀ {a b : List HK}, HK.beqs a b = true → a = b
  | [], b, e => by cases b <;> first | rfl | cases e
  | a :: as, b, e => by
    cases b <;> first | cases e | skip
    have e : (HK.beq a _ && HK.beqs as _) = true := e
    rw [Bool.and_eq_true] at e
    rw [HK.beq_eq e.1, HK.beqs_eq e.2]
end
mutual
theorem HK.beq_self : ∀ a : HK, HK.beq a a = true
  | .non => rfl
  | .int i => beq_self_eq_true i
  | .str x => decide_eq_true rfl
  | .tup ks => HK.beqs_self ks
theorem HK.beqs_self : ∀ a : List HK, HK.beqs a a = true
  | [] => rfl
  | a :: as => by
    show (HK.beq a a && HK.beqs as as) = true
    rw [HK.beq_self a, HK.beqs_self as]
    rfl
end
instance : DecidableEq HK := fun a b => if e : HK.beq a b = true then .isTrue (HK.beq_eq e) else .isFalse fun q => e (by rw [q]; exact HK.beq_self b)
def HK.flat : HK → Bool
  | .int _ | .str _ => true
  | _ => false
def HK.fits (kd : Bool) : HK → Bool
  | .int _ | .str _ => !kd
  | .tup ks => kd && ks.all HK.flat
  | .non => false
def dget {β : Type} (kvs : List (HK × β)) (k : HK) : Option β := (kvs.find? fun kv => decide (kv.1 = k)).map (·.2)
def dput {β : Type} (kvs : List (HK × β)) (k : HK) (v : β) : List (HK × β) :=
  if (kvs.any fun kv => decide (kv.1 = k)) = true then kvs.map fun kv => if kv.1 = k then (kv.1, v) else kv else kvs ++ [(k, v)]
mutual
def beq : W → W → Bool
  | .non, .non => true
  | .bl a, .bl b => a == b
  | .bl a, .int j => (if a then 1 else 0) == j
  | .int i, .bl b => i == (if b then 1 else 0)
  | .int i, .int j => i == j
  | .str x, .str y => decide (x = y)
  | .tup xs, .tup ys => beqs xs ys
  | .lst xs, .lst ys => beqs xs ys
  | _, _ => false
def beqs : List W → List W → Bool
  | [], [] => true
  | x :: xs, y :: ys => beq x y && beqs xs ys
  | _, _ => false
end
def strFine (x : Str) : Bool := x.cps.all (fun c => decide (c < 128)) && decide (x.length ≤ 1000000)
mutual
def isDat (d : Nat) : W → Bool
  | .non | .bl _ | .int _ => true
  | .str x => strFine x
  | .tup ws | .lst ws => match d with
    | 0 => false
    | d + 1 => areDat d ws
  | _ => false
def areDat (d : Nat) : List W → Bool
  | [] => true
  | w :: ws => isDat d w && areDat d ws
end
def truthy (h : Hh) (w : W) : Option Bool := match w with
  | .non => some false
  | .bl b => some b
  | .int i => some (i != 0)
  | .str x => if x.length ≤ lineW then some (x.length != 0) else none
  | .tup ws => some (!ws.isEmpty)
  | w => (asL h w).map fun ws => !ws.isEmpty

def eV (i : Nat) : DE := fun ρ h => match ρ[i]? with
  | some (some w) => .ok (w, h)
  | _ => .bad
def eK (w : W) : DE := fun _ h => .ok (w, h)
def e1 (f : F1) (a : DE) : DE := fun ρ h => (a ρ h).bind fun p => f p.1 p.2
def e2 (f : F2) (a b : DE) : DE := fun ρ h => (a ρ h).bind fun p => (b ρ p.2).bind fun q => f p.1 q.1 q.2
def e3 (f : F3) (a b c : DE) : DE := fun ρ h => (a ρ h).bind fun p => (b ρ p.2).bind fun q => (c ρ q.2).bind fun r => f p.1 q.1 r.1 r.2
def eL : List DE → Env → Hh → Res (List W × Hh)
  | [], _, h => .ok ([], h)
  | e :: es, ρ, h => (e ρ h).bind fun p => (eL es ρ p.2).bind fun q => .ok (p.1 :: q.1, q.2)
def eF (f : Fn) (es : List DE) : DE := fun ρ h => (eL es ρ h).bind fun p => f p.1 p.2
def eAnd (a b : DE) : DE := fun ρ h => (a ρ h).bind fun p => (ofO (truthy p.2 p.1)).bind fun k => if k = true then b ρ p.2 else .ok p
def eOr (a b : DE) : DE := fun ρ h => (a ρ h).bind fun p => (ofO (truthy p.2 p.1)).bind fun k => if k = true then .ok p else b ρ p.2
def eNot (a : DE) : DE := fun ρ h => (a ρ h).bind fun p => (ofO (truthy p.2 p.1)).bind fun k => .ok (.bl (!k), p.2)
def eIf (c a b : DE) : DE := fun ρ h => (c ρ h).bind fun p => (ofO (truthy p.2 p.1)).bind fun k => if k = true then a ρ p.2 else b ρ p.2
def eChain (f g : F2) (a b c : DE) : DE := fun ρ h => (a ρ h).bind fun p => (b ρ p.2).bind fun q => (f p.1 q.1 q.2).bind fun r =>
  match r.1 with
  | .bl k => if k = true then (c ρ r.2).bind fun s => g q.1 s.1 s.2 else .ok (.bl false, r.2)
  | _ => .bad
def eTree (a : DE) : DE := fun ρ h => (a ρ h).bind fun p => fin .deep h.length p.1 p.2
def mkL (c : Bool) (ws : List W) (h : Hh) : R1 := if ws.length ≤ lineW then (if c then (if nors ws then .ok (.ref h.length, h ++ [.lst ws]) else .bad) else .ok (.lst ws, h)) else .bad
def mkD (c : Bool) (kd : Bool) (kvs : List (HK × W)) (h : Hh) : R1 := if kvs.length ≤ lineW then (if norK kvs then (if c then .ok (.ref h.length, h ++ [.dic kd kvs]) else .ok (.dic kd kvs, h)) else .bad) else .bad
def eLst (c : Bool) (es : List DE) : DE := fun ρ h => (eL es ρ h).bind fun p => mkL c p.1 p.2
def eTup (es : List DE) : DE := fun ρ h => (eL es ρ h).bind fun p => if p.1.length ≤ lineW then .ok (.tup p.1, p.2) else .bad
def eDic (c : Bool) (kd : Bool) : DE := fun _ h => mkD c kd [] h

def tN (i : Nat) : DT := fun w ρ h => .ok (ρ.set i (some w), h)
def tL : List DT → List W → Env → Hh → Res (Env × Hh)
  | [], [], ρ, h => .ok (ρ, h)
  | t :: ts, w :: ws, ρ, h => (t w ρ h).bind fun p => tL ts ws p.1 p.2
  | _, _, _, _ => .bad
def tT (ts : List DT) : DT := fun w ρ h => match w with
  | .tup ws => tL ts ws ρ h
  | _ => .bad

structure Src where
  items : List W
  keep : Hh → Bool
abbrev FI := List W → Hh → Option Src
def wipeW (ρ : Env) : List Nat → Env
  | [] => ρ
  | v :: vs => (wipeW ρ vs).set v none
def compG (keep : Hh → Bool) (own : List Nat) (tg : DT) (cd : Option DE) (elt : DE) (ρ : Env) : List W → List W → Hh → Res (List W × Hh)
  | [], acc, h => if keep h then .ok (acc, h) else .bad
  | x :: xs, acc, h => if keep h then (tg x (wipeW ρ own) h).bind fun p =>
      (match cd with
        | none => (elt p.1 p.2).bind fun q => if acc.length < lineW then compG keep own tg cd elt ρ xs (acc ++ [q.1]) q.2 else .bad
        | some c => (c p.1 p.2).bind fun q => (ofO (truthy q.2 q.1)).bind fun k => if k = true then
            (elt p.1 q.2).bind fun r => if acc.length < lineW then compG keep own tg cd elt ρ xs (acc ++ [r.1]) r.2 else .bad
          else compG keep own tg cd elt ρ xs acc q.2)
    else .bad
def eComp (c : Bool) (own : List Nat) (tg : DT) (fi : FI) (src : List DE) (cd : Option DE) (elt : DE) : DE := fun ρ h =>
  (eL src ρ h).bind fun p => (ofO (fi p.1 p.2)).bind fun s => (compG s.keep own tg cd elt ρ s.items [] p.2).bind fun q => mkL c q.1 q.2
def forG (keep : Hh → Bool) (tg : DT) (b : DS) : List W → DS
  | [], ρ, h => if keep h then .ok (.nx, ρ, h) else .bad
  | x :: xs, ρ, h => if keep h then (tg x ρ h).bind fun p => (b p.1 p.2).bind fun q => match q.1 with
      | .nx => forG keep tg b xs q.2.1 q.2.2
      | .ct => forG keep tg b xs q.2.1 q.2.2
      | .bk => .ok (.nx, q.2)
      | .rt w => .ok (.rt w, q.2)
    else .bad
def bigFuel : Nat := 1000000000000000000
def whileG (c : DE) (b : DS) : Nat → DS
  | 0, _, _ => .bad
  | n + 1, ρ, h => (c ρ h).bind fun p => (ofO (truthy p.2 p.1)).bind fun k => if k = true then (b ρ p.2).bind fun q => (match q.1 with
      | .nx => whileG c b n q.2.1 q.2.2
      | .ct => whileG c b n q.2.1 q.2.2
      | .bk => .ok (.nx, q.2)
      | .rt w => .ok (.rt w, q.2))
    else .ok (.nx, ρ, p.2)

def sNil : DS := fun ρ h => .ok (.nx, ρ, h)
def sCons (a b : DS) : DS := fun ρ h => (a ρ h).bind fun q => match q.1 with
  | .nx => b q.2.1 q.2.2
  | f => .ok (f, q.2)
def sPass : DS := sNil
def sE (e : DE) : DS := fun ρ h => (e ρ h).bind fun p => .ok (.nx, ρ, p.2)
def sAsg (t : DT) (e : DE) : DS := fun ρ h => (e ρ h).bind fun p => (t p.1 ρ p.2).bind fun q => .ok (.nx, q)
def sRet (e : DE) : DS := fun ρ h => (e ρ h).bind fun p => .ok (.rt p.1, ρ, p.2)
def sRetN : DS := fun ρ h => .ok (.rt .non, ρ, h)
def sIf (c : DE) (a b : DS) : DS := fun ρ h => (c ρ h).bind fun p => (ofO (truthy p.2 p.1)).bind fun k => if k = true then a ρ p.2 else b ρ p.2
def sBrk : DS := fun ρ h => .ok (.bk, ρ, h)
def sCnt : DS := fun ρ h => .ok (.ct, ρ, h)
def sWhile (c : DE) (b : DS) : DS := whileG c b bigFuel
def sFor (tg : DT) (fi : FI) (src : List DE) (b : DS) : DS := fun ρ h =>
  (eL src ρ h).bind fun p => (ofO (fi p.1 p.2)).bind fun s => forG s.keep tg b s.items ρ p.2
def sSet (f : F3) (o i e : DE) : DS := fun ρ h => (e ρ h).bind fun p => (o ρ p.2).bind fun q => (i ρ q.2).bind fun r => (f q.1 r.1 p.1 r.2).bind fun s => .ok (.nx, ρ, s.2)
def sNev : DS := fun _ _ => .bad

def runDef (n : Nat) (m : Mode) (b : DS) : Fn := fun ws h => (b (ws.map some ++ List.replicate (n - ws.length) none) h).bind fun q => match q.1 with
  | .nx => fin m h.length .non q.2.2
  | .rt w => fin m h.length w q.2.2
  | _ => .bad
end Ti


namespace Ti
open PySem

abbrev sg (x : Str) : List Nat := x.cps.toList
def mkS (l : List Nat) : Str := ⟨l.toArray⟩
theorem sg_mkS (l : List Nat) : sg (mkS l) = l := rfl
theorem len_sg (x : Str) : x.length = (sg x).length := by simp [sg, Str.length]
theorem mkS_inj {a b : List Nat} (h : mkS a = mkS b) : a = b := by
  have := congrArg sg h
  exact this
def clampI (n : Nat) (i : Int) : Nat := if i < 0 then (i + (n : Int)).toNat else min i.toNat n
def loI (n : Nat) : Option Int → Nat
  | none => 0
  | some i => clampI n i
def hiI (n : Nat) : Option Int → Nat
  | none => n
  | some i => clampI n i
def cutL {α : Type} (l : List α) (lo hi : Option Int) : List α := (l.take (hiI l.length hi)).drop (loI l.length lo)
def placeI (n : Nat) (i : Int) : Option Nat := if 0 ≤ i then (if i < (n : Int) then some i.toNat else none) else (if -(n : Int) ≤ i then some (i + (n : Int)).toNat else none)
def isDig (c : Nat) : Bool := decide (48 ≤ c) && decide (c ≤ 57)
def digsVal (l : List Nat) : Nat := l.foldl (fun a c => a * 10 + (c - 48)) 0
def numL (n : Nat) : List Nat := (Nat.toDigits 10 n).map Char.toNat

def pAdd (c : Bool) : F2 := fun x y h => match x, y with
  | .int i, .int j => .ok (.int (i + j), h)
  | .str a, .str b => if a.length + b.length ≤ lineW then .ok (.str (a ++ b), h) else .bad
  | .tup a, .tup b => if a.length + b.length ≤ lineW then .ok (.tup (a ++ b), h) else .bad
  | a, b => match asL h a, asL h b with
    | some as, some bs => mkL c (as ++ bs) h
    | _, _ => .bad
def pSub : F2 := fun x y h => match x, y with
  | .int i, .int j => .ok (.int (i - j), h)
  | _, _ => .bad
def mulOk (i j : Int) : Bool := decide (i.natAbs.log2 + j.natAbs.log2 < 1000000)
def pMul (c : Bool) : F2 := fun x y h => match x, y with
  | .int i, .int j => if mulOk i j then .ok (.int (i * j), h) else .bad
  | .str a, .int n => if a.length * n.toNat ≤ 1000000 ∧ -1000000 ≤ n ∧ n ≤ 1000000 then .ok (.str (mkS (List.replicate n.toNat (sg a)).flatten), h) else .bad
  | a, .int n => match asL h a with
    | some as => if as.length * n.toNat ≤ 1000000 ∧ -1000000 ≤ n ∧ n ≤ 1000000 then mkL c (List.replicate n.toNat as).flatten h else .bad
    | none => .bad
  | _, _ => .bad
def pMod : F2 := fun x y h => match x, y with
  | .int i, .int j => if j = 0 then .bad else .ok (.int (i.fmod j), h)
  | _, _ => .bad
def pFdv : F2 := fun x y h => match x, y with
  | .int i, .int j => if 0 < j ∧ j.natAbs.log2 < 9000 then .ok (.int (i / j), h) else .bad
  | _, _ => .bad
def pPow : F2 := fun x y h => match x, y with
  | .int i, .int j => if 0 ≤ j ∧ j ≤ 1000 ∧ i.natAbs.log2 < 1000 then .ok (.int (i ^ j.toNat), h) else .bad
  | _, _ => .bad
def pNeg : F1 := fun x h => match x with
  | .int i => .ok (.int (-i), h)
  | _ => .bad

def lenNe (h : Hh) (x y : W) : Option Bool := match asL h x, asL h y with
  | some xs, some ys => if xs.length = ys.length then none else some false
  | _, _ => match asD h x, y with
    | some (false, _), .str _ => some false
    | _, _ => none
def eqB (h : Hh) (x y : W) : Option Bool :=
  if isDat 60 (look h x) && isDat 60 (look h y) then some (beq (look h x) (look h y)) else lenNe h x y
def pEq : F2 := fun x y h => (ofO (eqB h x y)).bind fun k => .ok (.bl k, h)
def pNe : F2 := fun x y h => (ofO (eqB h x y)).bind fun k => .ok (.bl (!k), h)
def pLt : F2 := fun x y h => match x, y with
  | .int i, .int j => .ok (.bl (decide (i < j)), h)
  | _, _ => .bad
def pLe : F2 := fun x y h => match x, y with
  | .int i, .int j => .ok (.bl (decide (i ≤ j)), h)
  | _, _ => .bad
def pGt : F2 := fun x y h => match x, y with
  | .int i, .int j => .ok (.bl (decide (j < i)), h)
  | _, _ => .bad
def pGe : F2 := fun x y h => match x, y with
  | .int i, .int j => .ok (.bl (decide (j ≤ i)), h)
  | _, _ => .bad
def isNon : W → Bool
  | .non => true
  | _ => false
def pIs : F2 := fun x y h => match y with
  | .non => .ok (.bl (isNon x), h)
  | .bl b => match x with
    | .bl a => .ok (.bl (decide (a = b)), h)
    | _ => .bad
  | _ => .bad
def pIsN : F2 := fun x y h => match y with
  | .non => .ok (.bl (!isNon x), h)
  | .bl b => match x with
    | .bl a => .ok (.bl (!decide (a = b)), h)
    | _ => .bad
  | _ => .bad
def inB (h : Hh) (x y : W) : Option Bool := match y with
  | .str z => match x with
    | .str c => match sg c with
      | [k] => some (decide (k ∈ sg z))
      | _ => none
    | _ => none
  | .tup ws => if isDat 0 (look h x) && areDat 0 ws then some (ws.any fun w => beq w (look h x)) else none
  | y => match asL h y with
    | some ws => if isDat 60 (look h x) && areDat 60 ws then some (ws.any fun w => beq w (look h x)) else none
    | none => match asD h y with
      | some (kd, kvs) => if isNon x then (if kd then none else some false) else match keyOf x with
        | some k => if k.fits kd then some (dget kvs k).isSome else none
        | none => none
      | none => none
def pIn : F2 := fun x y h => (ofO (inB h x y)).bind fun k => .ok (.bl k, h)
def pNi : F2 := fun x y h => (ofO (inB h x y)).bind fun k => .ok (.bl (!k), h)

def itemW (ws : List W) : W → Option W
  | .int i => (placeI ws.length i).bind fun j => ws[j]?
  | _ => none
def entryW (kd : Bool) (kvs : List (HK × W)) (y : W) : Option W := match keyOf y with
  | some k => if k.fits kd then dget kvs k else none
  | none => none
def ixW (h : Hh) (x y : W) : Option W := match x with
  | .str z => match y with
    | .int i => if z.length ≤ lineW then (placeI (sg z).length i).bind fun j => (sg z)[j]?.map fun c => .str (mkS [c]) else none
    | _ => none
  | .tup ws => itemW ws y
  | x => match asL h x with
    | some ws => itemW ws y
    | none => match asD h x with
      | some (kd, kvs) => entryW kd kvs y
      | none => none
def pIx : F2 := fun x y h => (ofO (ixW h x y)).bind fun w => .ok (w, h)
def partI (b : Bool) (w : W) : Option (Option Int) := if b then (match w with | .int i => some (some i) | _ => none) else some none
def pSl (c bl bh : Bool) : F3 := fun x lo hi h => match partI bl lo, partI bh hi with
  | some l, some r => match x with
    | .str z => if z.length ≤ lineW then .ok (.str (mkS (cutL (sg z) l r)), h) else .bad
    | .tup ws => .ok (.tup (cutL ws l r), h)
    | .scr ns => mkL c ((cutL ns l r).map .int) h
    | x => match asL h x with
      | some ws => mkL c (cutL ws l r) h
      | none => .bad
  | _, _ => .bad
def pRev (c : Bool) : F1 := fun x h => match x with
  | .str z => if z.length ≤ 1000000 then .ok (.str (mkS (sg z).reverse), h) else .bad
  | x => match asL h x with
    | some ws => mkL c ws.reverse h
    | none => .bad

def pLen : F1 := fun x h => match x with
  | .str z => if z.length ≤ lineW then .ok (.int z.length, h) else .bad
  | .tup ws => .ok (.int ws.length, h)
  | .scr ns => .ok (.int ns.length, h)
  | x => match asL h x with
    | some ws => .ok (.int ws.length, h)
    | none => match asD h x with
      | some (kd, kvs) => if kd then .bad else .ok (.int kvs.length, h)
      | none => .bad
def pInt : F1 := fun x h => match x with
  | .int i => .ok (.int i, h)
  | .bl b => .ok (.int (if b then 1 else 0), h)
  | .str z => if (sg z).all isDig = true ∧ sg z ≠ [] ∧ z.length ≤ 640 then .ok (.int (digsVal (sg z)), h) else .bad
  | _ => .bad
def pStr : F1 := fun x h => match x with
  | .int i => if 0 ≤ i ∧ i.natAbs.log2 < 1920 then .ok (.str (mkS (numL i.toNat)), h) else .bad
  | _ => .bad
def pMax : F2 := fun x y h => match x, y with
  | .int i, .int j => .ok (.int (if j > i then j else i), h)
  | _, _ => .bad
def pMin : F2 := fun x y h => match x, y with
  | .int i, .int j => .ok (.int (if j < i then j else i), h)
  | _, _ => .bad
def intsOf : List W → Option (List Int)
  | [] => some []
  | .int i :: ws => (intsOf ws).map (i :: ·)
  | _ => none
def pSum : F1 := fun x h => (ofO (asL h x)).bind fun ws => (ofO (intsOf ws)).bind fun ns => .ok (.int ns.sum, h)
def pBits : F1 := fun x h => match x with
  | .int i => if 0 < i then .ok (.int (i.natAbs.log2 + 1 : Nat), h) else .bad
  | _ => .bad
inductive Kd where
  | non | bool | int | str | list | tuple | dict
  deriving DecidableEq
def kindT : W → Option Kd
  | .non => some .non
  | .bl _ => some .bool
  | .int _ => some .int
  | .str _ => some .str
  | .tup _ => some .tuple
  | .lst _ => some .list
  | .scr _ => some .list
  | .dic kd _ => if kd then none else some .dict
  | _ => none
def kindW (h : Hh) : W → Option Kd
  | .ref i => match h[i]? with
    | some (.lst _) => some .list
    | some (.dic kd _) => if kd then none else some .dict
    | _ => none
  | w => kindT w
def isK (u t : Kd) : Bool := decide (u = t) || (decide (u = .bool) && decide (t = .int))
def pIsi (t : Kd) : F1 := fun x h => (ofO (kindW h x)).bind fun u => .ok (.bl (isK u t), h)
def seqOf (h : Hh) : W → Option (List W)
  | .tup ws => some ws
  | x => asL h x
def pList (c : Bool) : F1 := fun x h => match seqOf h x with
  | some ws => mkL c ws h
  | none => match asD h x with
    | some (false, kvs) => mkL c (kvs.map fun kv => kv.1.w) h
    | some (true, _) => .bad
    | none => match x with
      | .str z => if z.length ≤ lineW then mkL c ((sg z).map fun k => .str (mkS [k])) h else .bad
      | _ => .bad

def pAppend : F2 := fun x y h => match x with
  | .ref i => match h[i]? with
    | some (.lst ws) => if ws.length < lineW ∧ nor y = true then .ok (.non, h.set i (.lst (ws ++ [y]))) else .bad
    | _ => .bad
  | _ => .bad
def pLstrip : F2 := fun x y h => match x, y with
  | .str a, .str b => if a.length ≤ lineW then .ok (.str (mkS ((sg a).dropWhile fun c => (sg b).contains c)), h) else .bad
  | _, _ => .bad
def pRstrip : F2 := fun x y h => match x, y with
  | .str a, .str b => if a.length ≤ lineW then .ok (.str (mkS ((sg a).reverse.dropWhile fun c => (sg b).contains c).reverse), h) else .bad
  | _, _ => .bad
def pSet : F3 := fun o i e h => match o with
  | .ref p => match h[p]? with
    | some (.lst ws) => match i with
      | .int k => match placeI ws.length k with
        | some j => if nor e then .ok (.non, h.set p (.lst (ws.set j e))) else .bad
        | none => .bad
      | _ => .bad
    | some (.dic kd kvs) => match keyOf i with
      | some k => if k.fits kd && nor e && decide (kvs.length < lineW) then .ok (.non, h.set p (.dic kd (dput kvs k e))) else .bad
      | none => .bad
    | _ => .bad
  | _ => .bad

def l1 (g : F1) : Fn := fun ws h => match ws with
  | [a] => g a h
  | _ => .bad
def l2 (g : F2) : Fn := fun ws h => match ws with
  | [a, b] => g a b h
  | _ => .bad
def l3 (g : F3) : Fn := fun ws h => match ws with
  | [a, b, c] => g a b c h
  | _ => .bad
inductive MTy where
  | str | list | dict
def isMT (t : MTy) (h : Hh) (w : W) : Bool := match t with
  | .str => (match w with | .str _ => true | _ => false)
  | .list => (asL h w).isSome
  | .dict => (match w with | .ref i => (match h[i]? with | some (.dic _ _) => true | _ => false) | _ => false)
def eM (t : MTy) (g : Fn) (a : DE) (es : List DE) : DE := fun ρ h => (a ρ h).bind fun p => if isMT t p.2 p.1 = true then (eL es ρ p.2).bind fun q => g (p.1 :: q.1) q.2 else .bad

def rangeW (lo : Int) (n : Nat) : List W := (List.range n).map fun (k : Nat) => .int (lo + (k : Int))
def okR (i : Int) : Bool := decide (i.natAbs < 4000000000000000000)
def fiR : FI := fun ws _ => match ws with
  | [.int n] => if okR n then some ⟨rangeW 0 n.toNat, fun _ => true⟩ else none
  | [.int a, .int b] => if okR a && okR b then some ⟨rangeW a (b - a).toNat, fun _ => true⟩ else none
  | _ => none
mutual
/-- the same data -/
def same : W → W → Bool
  | .non, .non => true
  | .bl a, .bl b => a == b
  | .int i, .int j => i == j
  | .str x, .str y => decide (x = y)
  | .tup xs, .tup ys => sames xs ys
  | .lst xs, .lst ys => sames xs ys
  | .dic a xs, .dic b ys => a == b && samek xs ys
  | _, _ => false
def sames : List W → List W → Bool
  | [], [] => true
  | x :: xs, y :: ys => same x y && sames xs ys
  | _, _ => false
def samek : List (HK × W) → List (HK × W) → Bool
  | [], [] => true
  | (k, x) :: xs, (l, y) :: ys => decide (k = l) && (same x y && samek xs ys)
  | _, _ => false
end
mutual
theorem same_eq : ∀ {a b : W}, same a b = true → a = b
  | .non, b, e => by cases b <;> first | rfl | cases e
  | .bl x, b, e => by
    cases b <;> first | cases e | skip
    rw [eq_of_beq (show (x == _) = true from e)]
  | .int x, b, e => by
    cases b <;> first | cases e | skip
    rw [eq_of_beq (show (x == _) = true from e)]
  | .str x, b, e => by
    cases b <;> first | cases e | skip
    rw [of_decide_eq_true (show decide (x = _) = true from e)]
  | .tup xs, b, e => by
    cases b <;> first | cases e | skip
    rw [sames_eq (show sames xs _ = true from e)]
  | .lst xs, b, e => by
    cases b <;> first | cases e | skip
    rw [sames_eq (show sames xs _ = true from e)]
  | .dic k xs, b, e => by
    cases b <;> first | cases e | skip
    have e : (k == _ && samek xs _) = true := e
    rw [Bool.and_eq_true] at e
    rw [eq_of_beq e.1, samek_eq e.2]
  | .obj _ _, b, e => by cases b <;> cases e
  | .err _ _, b, e => by cases b <;> cases e
  | .ref _, b, e => by cases b <;> cases e
  | .scr _, b, e => by cases b <;> cases e
theorem sames_eq : ∀ {a b : List W}, sames a b = true → a = b
  | [], b, e => by cases b <;> first | rfl | cases e
  | x :: xs, b, e => by
    cases b <;> first | cases e | skip
    have e : (same x _ && sames xs _) = true := e
    rw [Bool.and_eq_true] at e
    rw [same_eq e.1, sames_eq e.2]
theorem samek_eq : ∀ {a b : List (HK × W)}, samek a b = true → a = b
  | [], b, e => by cases b <;> first | rfl | cases e
  | (k, x) :: xs, b, e => by
    cases b <;> first | cases e | skip
    rename_i p ys
    obtain ⟨l, y⟩ := p
    have e : (decide (k = l) && (same x y && samek xs ys)) = true := e
    rw [Bool.and_eq_true, Bool.and_eq_true, decide_eq_true_eq] at e
    rw [e.1, same_eq e.2.1, samek_eq e.2.2]
end
def keepL (x : W) (ws : List W) : Hh → Bool := match x with
  | .ref _ => fun h => match asL h x with
    | some us => sames us ws
    | none => false
  | _ => fun _ => true
def HK.toW : HK → W
  | .int i => .int i
  | .str x => .str x
  | _ => .non
def fiL : FI := fun ws h => match ws with
  | [.str z] => some ⟨(sg z).map fun c => .str (mkS [c]), fun _ => true⟩
  | [.tup us] => some ⟨us, fun _ => true⟩
  | [.dic false kvs] => some ⟨kvs.map fun p => p.1.toW, fun _ => true⟩
  | [x] => (asL h x).map fun us => ⟨us, keepL x us⟩
  | _ => none
def fiI : FI := fun ws _ => match ws with
  | [.dic false kvs] => some ⟨kvs.map fun p => .tup [p.1.toW, p.2], fun _ => true⟩
  | _ => none
def fiV : FI := fun ws _ => match ws with
  | [.dic false kvs] => some ⟨kvs.map (·.2), fun _ => true⟩
  | _ => none
def enumW (us : List W) : List W := us.zipIdx.map fun p => .tup [.int (p.2 : Nat), p.1]
def fiE : FI := fun ws h => match ws with
  | [.str z] => some ⟨enumW ((sg z).map fun c => .str (mkS [c])), fun _ => true⟩
  | [x] => (asL h x).map fun us => ⟨enumW us, keepL x us⟩
  | _ => none
def fiZ : FI := fun ws h => match ws with
  | [x, y] => match asL h x, asL h y with
    | some us, some vs => some ⟨(us.zip vs).map fun p => .tup [p.1, p.2], fun h => keepL x us h && keepL y vs h⟩
    | _, _ => none
  | _ => none
end Ti


namespace Ti
open PySem PySem.Spec PyProof.Rows L2

structure Cm where
  cls : Nat → Addr
  tab : List (Addr × Str)
instance : CoeFun Cm fun _ => Nat → Addr := ⟨Cm.cls⟩
def Tame (o : HO) : Prop := (∀ ps, o ≠ .tbl ps) ∧ ∀ φ, o ≠ .ext φ
def NT (H : Hp) (p : Addr) : Prop := ∀ u, H p = some u → Tame u
theorem NT.none {H : Hp} {p : Addr} (e : H p = none) : NT H p := fun u q => by rw [e] at q; cases q
theorem NT.some {H : Hp} {p : Addr} {o : HO} (e : H p = some o) (n : Tame o) : NT H p := fun u q => by rw [e] at q; cases q; exact n
theorem NT.upd {H : Hp} {p a : Addr} {o : HO} (h : NT H a) (n : Tame o) : NT (L2.upd H p o) a := fun u e => by
  by_cases ap : a = p
  · rw [ap, upd_same] at e
    cases e
    exact n
  · rw [upd_ne ap] at e
    exact h u e
theorem tabs_upd {T : List (Addr × Str)} {H : Hp} {p : Addr} {o : HO} (t : LamX.Tabs T H) (n : NT H p) : LamX.Tabs T (L2.upd H p o) := fun x hx => by
  obtain ⟨ps, h1, h2, h3⟩ := t x hx
  refine ⟨ps, ?_, h2, fun pos cv hc => ?_⟩
  · rw [upd_ne fun z => (n _ (by rw [← z]; exact h1)).1 ps rfl]
    exact h1
  · obtain ⟨c, e1, e2⟩ := h3 pos cv hc
    refine ⟨c, e1, ?_⟩
    rw [upd_ne fun z => (n _ (by rw [← z]; exact e2)).2 _ rfl]
    exact e2
def noTbl (H : Hp) : Hp := fun a => match H a with
  | some (.tbl _) => none
  | some (.ext _) => none
  | u => u
theorem noTbl_of {H : Hp} {a : Addr} {u : HO} (e : noTbl H a = some u) : H a = some u := by
  unfold noTbl at e
  split at e
  · cases e
  · cases e
  · exact e
theorem noTbl_at {H : Hp} {a : Addr} {u : HO} (e : H a = some u) (n : Tame u) : noTbl H a = some u := by
  unfold noTbl
  rw [e]
  cases u <;> first | rfl | exact absurd rfl (n.1 _) | exact absurd rfl (n.2 _)
theorem noTbl_nt (H : Hp) (a : Addr) : NT (noTbl H) a := fun u e => by
  unfold noTbl at e
  split at e
  · cases e
  · cases e
  · rename_i n1 n2
    exact ⟨fun ps z => n1 ps (by rw [e, z]), fun φ z => n2 φ (by rw [e, z])⟩
structure TabR (T : List (Addr × Str)) (mu : List Addr) (Z H : Hp) : Prop where
  t : LamX.Tabs T H
  z : ∀ p ∈ T, Z p.1 = none
  nt : ∀ a, NT Z a
  nm : ∀ a ∈ mu, NT H a
section
variable {T : List (Addr × Str)} {mu mu' : List Addr} {Z Z' H : Hp} {p : Addr} {o : HO}
theorem TabR.ne (r : TabR T mu Z H) {q : Addr × Str} (hq : q ∈ T) (n : NT H p) : q.1 ≠ p := fun z => by
  obtain ⟨ps, h1, _⟩ := r.t q hq
  rw [z] at h1
  exact (n _ h1).1 ps rfl
theorem TabR.upd (r : TabR T mu Z H) (n : NT H p) (ho : p ∈ mu → Tame o) : TabR T mu Z (L2.upd H p o) := ⟨tabs_upd r.t n, r.z, r.nt, fun a ha u e => by
  by_cases ap : a = p
  · rw [ap, upd_same] at e
    cases e
    exact ho (ap ▸ ha)
  · rw [upd_ne ap] at e
    exact r.nm a ha u e⟩
theorem TabR.frz {u : HO} (r : TabR T mu Z H) (n : NT H p) (m : Tame u := by exact ⟨fun _ z => (by cases z), fun _ z => (by cases z)⟩) : TabR T mu (L2.upd Z p u) H := ⟨r.t, fun q hq => (by rw [upd_ne (r.ne hq n)]; exact r.z q hq), fun a => (r.nt a).upd m, r.nm⟩
theorem TabR.snoc (r : TabR T mu Z H) (n : NT H p) : TabR T (mu ++ [p]) Z H := ⟨r.t, r.z, r.nt, fun a ha => (List.mem_append.mp ha).elim (r.nm a) fun h => (List.mem_singleton.mp h) ▸ n⟩
theorem TabR.newZ {u : HO} (r : TabR T mu Z H) (e : H p = none) (hp : p ∉ mu) (n : Tame u) : TabR T mu (L2.upd Z p u) (L2.upd H p o) :=
  ⟨tabs_upd r.t (.none e), fun q hq => (by rw [upd_ne (r.ne hq (.none e))]; exact r.z q hq), fun a => (r.nt a).upd n, fun a ha u h => by
    rw [upd_ne (show a ≠ p from fun z => hp (z ▸ ha))] at h
    exact r.nm a ha u h⟩
theorem TabR.newC (r : TabR T mu Z H) (e : H p = none) (n : Tame o) : TabR T (mu ++ [p]) Z (L2.upd H p o) := (r.snoc (.none e)).upd (.none e) fun _ => n
end
def HK.key : HK → Option Key
  | .int i => some (.inl i)
  | .str x => some (.inr x)
  | _ => none
def KeysK : List HK → List Key → Prop := Paired fun k q => k.key = some q
def KeysT : List HK → List (List Key) → Prop := Paired fun k q => ∃ ks, k = .tup ks ∧ KeysK ks q
mutual
/-- w stands at v: mu the cells' addresses, Z what never changes -/
def RW (K : PySem.W.Frag) (cm : Cm) (mu : List Addr) (Z : Hp) : W → V → Prop
  | .non, v => v = .non
  | .bl b, v => v = .bl b
  | .int i, v => v = .int i
  | .str x, v => v = .str x
  | .tup ws, v => ∃ a vs, v = .ref a ∧ Z a = some (.tup vs) ∧ RWs K cm mu Z ws vs
  | .lst ws, v => ∃ a vs, v = .ref a ∧ Z a = some (.lst vs) ∧ RWs K cm mu Z ws vs
  | .dic kd kvs, v => ∃ a, v = .ref a ∧ if kd then ∃ ks vs, KeysT (kvs.map (·.1)) ks ∧ Z a = some (.dT (ks.zip vs)) ∧ ks.length = vs.length ∧ RWk K cm mu Z kvs vs
      else ∃ ks vs, KeysK (kvs.map (·.1)) ks ∧ Z a = some (.dK (ks.zip vs)) ∧ ks.length = vs.length ∧ RWk K cm mu Z kvs vs
  | .obj c fs, v => ∃ a dx fvs, v = .ref a ∧ Z a = some (.ins (cm c) dx ((fs.map (·.1)).zip fvs)) ∧ RWf K cm mu Z fs fvs
  | .err c fs, v => ∃ a oe, v = .ref a ∧ Z a = some (.frz oe (.own a)) ∧ oe.cls = .ref (cm c) ∧ (∃ vs, oe.data = .fields vs) ∧
      ((oe.dict = none ∧ fs = []) ∨ ∃ dx fvs, oe.dict = some dx ∧ Z dx = some (.xd ((fs.map (·.1)).zip fvs)) ∧ RWf K cm mu Z fs fvs)
  | .ref i, v => ∃ a, v = .ref a ∧ mu[i]? = some a
  | .scr ns, v => ∃ a, v = .ref a ∧ SqL K Z a (ns.map .int)
def RWs (K : PySem.W.Frag) (cm : Cm) (mu : List Addr) (Z : Hp) : List W → List V → Prop
  | [], vs => vs = []
  | w :: ws, vs => ∃ v r, vs = v :: r ∧ RW K cm mu Z w v ∧ RWs K cm mu Z ws r
def RWk (K : PySem.W.Frag) (cm : Cm) (mu : List Addr) (Z : Hp) : List (HK × W) → List V → Prop
  | [], vs => vs = []
  | (_, w) :: ws, vs => ∃ v r, vs = v :: r ∧ RW K cm mu Z w v ∧ RWk K cm mu Z ws r
def RWf (K : PySem.W.Frag) (cm : Cm) (mu : List Addr) (Z : Hp) : List (Str × W) → List V → Prop
  | [], vs => vs = []
  | (_, w) :: ws, vs => ∃ v r, vs = v :: r ∧ RW K cm mu Z w v ∧ RWf K cm mu Z ws r
end
def Le (Z Z' : Hp) : Prop := ∀ a u, Z a = some u → Z' a = some u
theorem Le.refl (Z : Hp) : Le Z Z := fun _ _ h => h
theorem Le.trans {Z Z1 Z2 : Hp} (a : Le Z Z1) (b : Le Z1 Z2) : Le Z Z2 := fun x u h => b x u (a x u h)
theorem SqL.le {K : PySem.W.Frag} {Z Z' : Hp} (l : Le Z Z') {a : Addr} {xs : List V} (h : SqL K Z a xs) : SqL K Z' a xs := by
  rcases h with (h | ⟨o, h⟩) | h
  · exact .inl (.inl (l _ _ h))
  · exact .inl (.inr ⟨o, l _ _ h⟩)
  · exact .inr h
section
variable {K : PySem.W.Frag} {cm : Cm} {mu mu' : List Addr} {Z Z' : Hp}
mutual
theorem RW.mono (l : Le Z Z') (m : ∀ (i : Nat) (a : Addr), mu[i]? = some a → mu'[i]? = some a) : ∀ {w : W} {v : V}, RW K cm mu Z w v → RW K cm mu' Z' w v
  | .non, _, h => h
  | .bl _, _, h => h
  | .int _, _, h => h
  | .str _, _, h => h
  | .tup ws, _, h => by
    obtain ⟨a, vs, e, z, r⟩ := h
    exact ⟨a, vs, e, l _ _ z, RWs.mono l m r⟩
  | .lst ws, _, h => by
    obtain ⟨a, vs, e, z, r⟩ := h
    exact ⟨a, vs, e, l _ _ z, RWs.mono l m r⟩
  | .dic kd kvs, _, h => by
    obtain ⟨a, e, h⟩ := h
    refine ⟨a, e, ?_⟩
    cases kd with
    | true =>
      obtain ⟨ks, vs, h1, h2, h3, h4⟩ := (show ∃ ks vs, KeysT (kvs.map (·.1)) ks ∧ Z a = some (.dT (ks.zip vs)) ∧ ks.length = vs.length ∧ RWk K cm mu Z kvs vs from h)
      exact ⟨ks, vs, h1, l _ _ h2, h3, RWk.mono l m h4⟩
    | false =>
      obtain ⟨ks, vs, h1, h2, h3, h4⟩ := (show ∃ ks vs, KeysK (kvs.map (·.1)) ks ∧ Z a = some (.dK (ks.zip vs)) ∧ ks.length = vs.length ∧ RWk K cm mu Z kvs vs from h)
      exact ⟨ks, vs, h1, l _ _ h2, h3, RWk.mono l m h4⟩
  | .obj c fs, _, h => by
    obtain ⟨a, dx, fvs, e, z, r⟩ := h
    exact ⟨a, dx, fvs, e, l _ _ z, RWf.mono l m r⟩
  | .err c fs, _, h => by
    obtain ⟨a, oe, e, z, h1, h2, h3⟩ := h
    refine ⟨a, oe, e, l _ _ z, h1, h2, ?_⟩
    rcases h3 with h3 | ⟨dx, fvs, h3, h4, r⟩
    · exact .inl h3
    · exact .inr ⟨dx, fvs, h3, l _ _ h4, RWf.mono l m r⟩
  | .ref i, _, h => by
    obtain ⟨a, e, q⟩ := h
    exact ⟨a, e, m _ _ q⟩
  | .scr ns, _, h => by
    obtain ⟨a, e, q⟩ := h
    exact ⟨a, e, SqL.le l q⟩
theorem RWs.mono (l : Le Z Z') (m : ∀ (i : Nat) (a : Addr), mu[i]? = some a → mu'[i]? = some a) : ∀ {ws : List W} {vs : List V}, RWs K cm mu Z ws vs → RWs K cm mu' Z' ws vs
  | [], _, h => h
  | w :: ws, _, h => by
    obtain ⟨v, r, e, h1, h2⟩ := h
    exact ⟨v, r, e, RW.mono l m h1, RWs.mono l m h2⟩
theorem RWk.mono (l : Le Z Z') (m : ∀ (i : Nat) (a : Addr), mu[i]? = some a → mu'[i]? = some a) : ∀ {ws : List (HK × W)} {vs : List V}, RWk K cm mu Z ws vs → RWk K cm mu' Z' ws vs
  | [], _, h => h
  | (k, w) :: ws, _, h => by
    obtain ⟨v, r, e, h1, h2⟩ := h
    exact ⟨v, r, e, RW.mono l m h1, RWk.mono l m h2⟩
theorem RWf.mono (l : Le Z Z') (m : ∀ (i : Nat) (a : Addr), mu[i]? = some a → mu'[i]? = some a) : ∀ {ws : List (Str × W)} {vs : List V}, RWf K cm mu Z ws vs → RWf K cm mu' Z' ws vs
  | [], _, h => h
  | (k, w) :: ws, _, h => by
    obtain ⟨v, r, e, h1, h2⟩ := h
    exact ⟨v, r, e, RW.mono l m h1, RWf.mono l m h2⟩
end
mutual
/-- without references the cells do not matter -/
theorem RW.any : ∀ {w : W} {v : V}, nor w = true → RW K cm mu Z w v → RW K cm mu' Z w v
  | .non, _, _, h => h
  | .bl _, _, _, h => h
  | .int _, _, _, h => h
  | .str _, _, _, h => h
  | .tup ws, _, n, h => by
    obtain ⟨a, vs, e, z, r⟩ := h
    exact ⟨a, vs, e, z, RWs.any (show nors ws = true from n) r⟩
  | .lst ws, _, n, h => by
    obtain ⟨a, vs, e, z, r⟩ := h
    exact ⟨a, vs, e, z, RWs.any (show nors ws = true from n) r⟩
  | .dic kd kvs, _, n, h => by
    have n : norK kvs = true := n
    obtain ⟨a, e, h⟩ := h
    refine ⟨a, e, ?_⟩
    cases kd with
    | true =>
      obtain ⟨ks, vs, h1, h2, h3, h4⟩ := (show ∃ ks vs, KeysT (kvs.map (·.1)) ks ∧ Z a = some (.dT (ks.zip vs)) ∧ ks.length = vs.length ∧ RWk K cm mu Z kvs vs from h)
      exact ⟨ks, vs, h1, h2, h3, RWk.any n h4⟩
    | false =>
      obtain ⟨ks, vs, h1, h2, h3, h4⟩ := (show ∃ ks vs, KeysK (kvs.map (·.1)) ks ∧ Z a = some (.dK (ks.zip vs)) ∧ ks.length = vs.length ∧ RWk K cm mu Z kvs vs from h)
      exact ⟨ks, vs, h1, h2, h3, RWk.any n h4⟩
  | .obj c fs, _, n, h => by
    obtain ⟨a, dx, fvs, e, z, r⟩ := h
    exact ⟨a, dx, fvs, e, z, RWf.any (show norF fs = true from n) r⟩
  | .err c fs, _, n, h => by
    obtain ⟨a, oe, e, z, h1, h2, h3⟩ := h
    refine ⟨a, oe, e, z, h1, h2, ?_⟩
    rcases h3 with h3 | ⟨dx, fvs, h3, h4, r⟩
    · exact .inl h3
    · exact .inr ⟨dx, fvs, h3, h4, RWf.any (show norF fs = true from n) r⟩
  | .ref i, _, n, h => by cases n
  | .scr ns, _, _, h => h
theorem RWs.any : ∀ {ws : List W} {vs : List V}, nors ws = true → RWs K cm mu Z ws vs → RWs K cm mu' Z ws vs
  | [], _, _, h => h
  | w :: ws, _, n, h => by
    have n : (nor w && nors ws) = true := n
    rw [Bool.and_eq_true] at n
    obtain ⟨v, r, e, h1, h2⟩ := h
    exact ⟨v, r, e, RW.any n.1 h1, RWs.any n.2 h2⟩
theorem RWk.any : ∀ {ws : List (HK × W)} {vs : List V}, norK ws = true → RWk K cm mu Z ws vs → RWk K cm mu' Z ws vs
  | [], _, _, h => h
  | (k, w) :: ws, _, n, h => by
    have n : (nor w && norK ws) = true := n
    rw [Bool.and_eq_true] at n
    obtain ⟨v, r, e, h1, h2⟩ := h
    exact ⟨v, r, e, RW.any n.1 h1, RWk.any n.2 h2⟩
theorem RWf.any : ∀ {ws : List (Str × W)} {vs : List V}, norF ws = true → RWf K cm mu Z ws vs → RWf K cm mu' Z ws vs
  | [], _, _, h => h
  | (k, w) :: ws, _, n, h => by
    have n : (nor w && norF ws) = true := n
    rw [Bool.and_eq_true] at n
    obtain ⟨v, r, e, h1, h2⟩ := h
    exact ⟨v, r, e, RW.any n.1 h1, RWf.any n.2 h2⟩
end
end

def ZIn (H : Hp) (a : Addr) : HO → Prop
  | .dK kvs => Rd H a (.dK kvs)
  | .dT kvs => Rd H a (.dT kvs)
  | u => H a = some u
def CellR (K : PySem.W.Frag) (cm : Cm) (Z H : Hp) (a : Addr) : Cell → Prop
  | .lst ws => Z a = none ∧ nors ws = true ∧ ∃ vs, H a = some (.lst vs) ∧ RWs K cm [] Z ws vs
  | .dic kd kvs => Z a = none ∧ norK kvs = true ∧ if kd then ∃ ks vs, KeysT (kvs.map (·.1)) ks ∧ H a = some (.dT (ks.zip vs)) ∧ ks.length = vs.length ∧ RWk K cm [] Z kvs vs
      else ∃ ks vs, KeysK (kvs.map (·.1)) ks ∧ H a = some (.dK (ks.zip vs)) ∧ ks.length = vs.length ∧ RWk K cm [] Z kvs vs
  | .obj c fs => Z a = none ∧ norF fs = true ∧ ∃ dx fvs, H a = some (.ins (cm c) dx ((fs.map (·.1)).zip fvs)) ∧ RWf K cm [] Z fs fvs
  | .frz w => nor w = true ∧ RW K cm [] Z w (.ref a)
structure RelH (K : PySem.W.Frag) (cm : Cm) (mu : List Addr) (Z H : Hp) (h : Hh) : Prop where
  len : mu.length = h.length
  nd : mu.Nodup
  zh : ∀ a u, Z a = some u → ZIn H a u
  mh : ∀ a ∈ mu, H a ≠ none
  cell : ∀ (i : Nat) (a : Addr) (c : Cell), mu[i]? = some a → h[i]? = some c → CellR K cm Z H a c
  tb : TabR cm.tab mu Z H
structure Ext (mu : List Addr) (Z H : Hp) (mu' : List Addr) (Z' H' : Hp) : Prop where
  m : ∀ (i : Nat) (a : Addr), mu[i]? = some a → mu'[i]? = some a
  z : Le Z Z'
  fr : ∀ a u, a ∉ mu → Z a = none → H a = some u → (∀ ps, u ≠ .tbl ps) → H' a = some u
  th : ∀ a u, a ∉ mu → H a = some u → H' a ≠ none
  nm : ∀ a ∈ mu', a ∈ mu ∨ H a = none
  nz : ∀ a, Z' a ≠ none → Z a ≠ none ∨ a ∈ mu ∨ H a = none
  fz : ∀ a o u, H a = some (.frz o u) → H' a = some (.frz o u)
section
variable {K : PySem.W.Frag} {cm : Cm} {mu mu1 mu2 : List Addr} {Z H Z1 H1 Z2 H2 : Hp} {h h' : Hh}
theorem Ext.refl : Ext mu Z H mu Z H := ⟨fun _ _ e => e, Le.refl Z, fun _ _ _ _ e _ => e, fun _ _ _ e => (by rw [e]; exact fun z => nomatch z), fun _ e => .inl e, fun _ e => .inl e, fun _ _ _ e => e⟩
theorem Ext.trans (a : Ext mu Z H mu1 Z1 H1) (b : Ext mu1 Z1 H1 mu2 Z2 H2) : Ext mu Z H mu2 Z2 H2 := by
  have key : ∀ x, H1 x = none → x ∈ mu ∨ H x = none := fun x e => by
    by_cases hx : x ∈ mu
    · exact .inl hx
    · refine .inr ?_
      cases q : H x with
      | none => rfl
      | some u => exact absurd e (a.th x u hx q)
  have nin : ∀ x u, x ∉ mu → H x = some u → x ∉ mu1 := fun x u n e hm => by
    rcases a.nm x hm with q | q
    · exact n q
    · rw [q] at e; cases e
  refine ⟨fun i x e => b.m i x (a.m i x e), a.z.trans b.z, fun x u n z e t => ?_, fun x u n e => ?_, fun x e => ?_, fun x e => ?_, fun x o u e => b.fz x o u (a.fz x o u e)⟩
  · refine b.fr x u (nin x u n e) ?_ (a.fr x u n z e t) t
    cases q : Z1 x with
    | none => rfl
    | some w =>
      rcases a.nz x (by rw [q]; exact fun z => nomatch z) with k | k | k
      · exact absurd z k
      · exact absurd k n
      · rw [k] at e; cases e
  · cases q : H1 x with
    | none => exact absurd q (a.th x u n e)
    | some w => exact b.th x w (nin x u n e) q
  · rcases b.nm x e with q | q
    · exact a.nm x q
    · exact key x q
  · rcases b.nz x e with q | q | q
    · exact a.nz x q
    · exact .inr (a.nm x q)
    · exact .inr (key x q)
structure Exw (mu : List Addr) (Z H : Hp) (mu' : List Addr) (Z' H' : Hp) : Prop where
  m : ∀ (i : Nat) (a : Addr), mu[i]? = some a → mu'[i]? = some a
  z : Le Z Z'
  fz : ∀ a o u, H a = some (.frz o u) → H' a = some (.frz o u)
theorem Ext.w (x : Ext mu Z H mu1 Z1 H1) : Exw mu Z H mu1 Z1 H1 := ⟨x.m, x.z, x.fz⟩
theorem Exw.trans (a : Exw mu Z H mu1 Z1 H1) (b : Exw mu1 Z1 H1 mu2 Z2 H2) : Exw mu Z H mu2 Z2 H2 := ⟨fun i x e => b.m i x (a.m i x e), a.z.trans b.z, fun x o u e => b.fz x o u (a.fz x o u e)⟩
theorem ZIn.some {a : Addr} {u : HO} (z : ZIn H a u) : ∃ o, H a = some o := by
  cases u with
  | dK kvs => rcases z with e | ⟨o, e⟩ <;> exact ⟨_, e⟩
  | dT kvs => rcases z with e | ⟨o, e⟩ <;> exact ⟨_, e⟩
  | _ => exact ⟨_, z⟩
theorem RelH.zfree (r : RelH K cm mu Z H h) {p : Addr} (e : H p = none) : Z p = none := by
  cases q : Z p with
  | none => rfl
  | some u =>
    obtain ⟨o, q2⟩ := (r.zh p u q).some
    rw [e] at q2; cases q2
theorem RelH.mfree (r : RelH K cm mu Z H h) {p : Addr} (e : H p = none) : p ∉ mu := fun hm => r.mh p hm e
theorem ZIn.upd {a p : Addr} {u o : HO} (n : a ≠ p) (z : ZIn H a u) : ZIn (upd H p o) a u := by
  cases u with
  | dK kvs => rcases z with e | ⟨ob, e⟩; exact .inl (by rw [upd_ne n]; exact e); exact .inr ⟨ob, by rw [upd_ne n]; exact e⟩
  | dT kvs => rcases z with e | ⟨ob, e⟩; exact .inl (by rw [upd_ne n]; exact e); exact .inr ⟨ob, by rw [upd_ne n]; exact e⟩
  | _ => exact (upd_ne n).trans z
theorem CellR.mono (l : Le Z Z1) {a : Addr} {c : Cell} (hz : Z a = none → Z1 a = none) (hh : ∀ u, Z a = none → H a = some u → H1 a = some u) (q : CellR K cm Z H a c) : CellR K cm Z1 H1 a c := by
  have m0 : ∀ (i : Nat) (a : Addr), ([] : List Addr)[i]? = some a → ([] : List Addr)[i]? = some a := fun _ _ e => e
  cases c with
  | lst ws =>
    obtain ⟨z, n, vs, e, r⟩ := q
    exact ⟨hz z, n, vs, hh _ z e, RWs.mono l m0 r⟩
  | dic kd kvs =>
    obtain ⟨z, n, q⟩ := q
    refine ⟨hz z, n, ?_⟩
    cases kd with
    | true =>
      obtain ⟨ks, vs, h1, h2, h3, h4⟩ := (show ∃ ks vs, KeysT (kvs.map (·.1)) ks ∧ H a = some (.dT (ks.zip vs)) ∧ ks.length = vs.length ∧ RWk K cm [] Z kvs vs from q)
      exact ⟨ks, vs, h1, hh _ z h2, h3, RWk.mono l m0 h4⟩
    | false =>
      obtain ⟨ks, vs, h1, h2, h3, h4⟩ := (show ∃ ks vs, KeysK (kvs.map (·.1)) ks ∧ H a = some (.dK (ks.zip vs)) ∧ ks.length = vs.length ∧ RWk K cm [] Z kvs vs from q)
      exact ⟨ks, vs, h1, hh _ z h2, h3, RWk.mono l m0 h4⟩
  | obj c fs =>
    obtain ⟨z, n, dx, fvs, e, r⟩ := q
    exact ⟨hz z, n, dx, fvs, hh _ z e, RWf.mono l m0 r⟩
  | frz w => exact ⟨q.1, RW.mono l m0 q.2⟩
theorem RelH.newZ (r : RelH K cm mu Z H h) {p : Addr} {o : HO} (e : H p = none) (hz : ZIn (L2.upd H p o) p o) (nt : Tame o := by exact ⟨fun _ z => (by cases z), fun _ z => (by cases z)⟩) : RelH K cm mu (L2.upd Z p o) (L2.upd H p o) h ∧ Ext mu Z H mu (L2.upd Z p o) (L2.upd H p o) := by
  have zp := r.zfree e
  have le : Le Z (L2.upd Z p o) := fun a u q => by
    rw [upd_ne (show a ≠ p from fun z => by rw [z, zp] at q; cases q)]
    exact q
  refine ⟨⟨r.len, r.nd, fun a u q => ?_, fun a ha => ?_, fun i a c hm hc => ?_, r.tb.newZ e (r.mfree e) nt⟩, fun _ _ q => q, le, fun a u _ _ q _ => ?_, fun a u _ q => ?_, fun a ha => .inl ha, fun a ha => ?_, fun a o' u q => (by rw [upd_ne (show a ≠ p from fun z => by rw [z, e] at q; cases q)]; exact q)⟩
  · by_cases ap : a = p
    · subst ap
      rw [upd_same] at q; cases q
      exact hz
    · rw [upd_ne ap] at q
      exact (r.zh a u q).upd ap
  · by_cases ap : a = p
    · subst ap; rw [upd_same]; exact fun z => nomatch z
    · rw [upd_ne ap]; exact r.mh a ha
  · have ap : a ≠ p := fun z => r.mh a (List.mem_of_getElem? hm) (by rw [z]; exact e)
    exact (r.cell i a c hm hc).mono le (fun z => by rw [upd_ne ap]; exact z) fun u _ q => by rw [upd_ne ap]; exact q
  · rw [upd_ne (show a ≠ p from fun z => by rw [z, e] at q; cases q)]
    exact q
  · rw [upd_ne (show a ≠ p from fun z => by rw [z, e] at q; cases q), q]
    exact fun z => nomatch z
  · by_cases ap : a = p
    · subst ap; exact .inr (.inr e)
    · rw [upd_ne ap] at ha
      exact .inl ha
theorem RelH.newC (r : RelH K cm mu Z H h) {p : Addr} {o : HO} {c : Cell} (e : H p = none) (hc : CellR K cm Z (L2.upd H p o) p c) (nt : Tame o := by exact ⟨fun _ z => (by cases z), fun _ z => (by cases z)⟩) : RelH K cm (mu ++ [p]) Z (L2.upd H p o) (h ++ [c]) ∧ Ext mu Z H (mu ++ [p]) Z (L2.upd H p o) := by
  have nm := r.mfree e
  have mm : ∀ (i : Nat) (a : Addr), mu[i]? = some a → (mu ++ [p])[i]? = some a := fun i a q => by
    rw [List.getElem?_append_left (List.getElem?_eq_some_iff.mp q).1]
    exact q
  have ne : ∀ {a : Addr} {u : HO}, H a = some u → a ≠ p := fun {a u} q z => by rw [z, e] at q; cases q
  refine ⟨⟨by rw [List.length_append, List.length_append, r.len]; rfl, ?_, fun a u q => ?_, fun a ha => ?_, fun i a d hm hd => ?_, r.tb.newC e nt⟩, mm, Le.refl Z, fun a u _ _ q _ => ?_, fun a u _ q => ?_, fun a ha => ?_, fun a ha => .inl ha, fun a o' u q => (by rw [upd_ne (ne q)]; exact q)⟩
  · rw [List.nodup_append]
    exact ⟨r.nd, by simp, fun a ha b hb z => by
      rw [List.mem_singleton] at hb
      subst hb z
      exact nm ha⟩
  · obtain ⟨o', q2⟩ := (r.zh a u q).some
    exact (r.zh a u q).upd (ne q2)
  · rcases List.mem_append.mp ha with ha | ha
    · cases q : H a with
      | none => exact absurd q (r.mh a ha)
      | some u => rw [upd_ne (ne q), q]; exact fun z => nomatch z
    · rw [List.mem_singleton] at ha
      subst ha
      rw [upd_same]; exact fun z => nomatch z
  · by_cases hi : i < mu.length
    · rw [List.getElem?_append_left hi] at hm
      rw [List.getElem?_append_left (by rw [← r.len]; exact hi)] at hd
      have ap : a ≠ p := fun z => r.mh a (List.mem_of_getElem? hm) (by rw [z]; exact e)
      exact (r.cell i a d hm hd).mono (Le.refl Z) (fun z => z) fun u _ q => by rw [upd_ne ap]; exact q
    · have hi' : mu.length ≤ i := Nat.le_of_not_lt hi
      rw [List.getElem?_append_right hi'] at hm
      rw [List.getElem?_append_right (by rw [← r.len]; exact hi'), ← r.len] at hd
      cases k : i - mu.length with
      | zero =>
        rw [k] at hm hd
        cases hm; cases hd
        exact hc
      | succ k' =>
        rw [k] at hm
        cases hm
  · rw [upd_ne (ne q)]; exact q
  · rw [upd_ne (ne q), q]; exact fun z => nomatch z
  · rcases List.mem_append.mp ha with ha | ha
    · exact .inl ha
    · rw [List.mem_singleton] at ha
      subst ha
      exact .inr e
theorem RelH.lock (r : RelH K cm mu Z H h) {d : Addr} {o : Obj} {kvs : List (Key × V)} (z : Z d = some (.dK kvs)) (e : H d = some (.dK kvs)) : RelH K cm mu Z (L2.upd H d (.frz o (.dK kvs))) h ∧ Ext mu Z H mu Z (L2.upd H d (.frz o (.dK kvs))) := by
  refine ⟨⟨r.len, r.nd, fun a u q => ?_, fun a ha => ?_, fun i a c hm hc => ?_, r.tb.upd (.some e (by exact ⟨fun _ z => (by cases z), fun _ z => (by cases z)⟩)) fun _ => (by exact ⟨fun _ z => (by cases z), fun _ z => (by cases z)⟩)⟩, fun _ _ q => q, Le.refl Z, fun a u _ zn q _ => ?_, fun a u _ q => ?_, fun a ha => .inl ha, fun a ha => .inl ha, fun a o' u q => ?_⟩
  · by_cases ad : a = d
    · subst ad
      rw [z] at q; cases q
      exact .inr ⟨o, upd_same⟩
    · exact (r.zh a u q).upd ad
  · by_cases ad : a = d
    · subst ad; rw [upd_same]; exact fun z => nomatch z
    · rw [upd_ne ad]; exact r.mh a ha
  · refine (r.cell i a c hm hc).mono (Le.refl Z) (fun z => z) fun u zn q => ?_
    rw [upd_ne (show a ≠ d from fun k => by rw [k, z] at zn; cases zn)]; exact q
  · rw [upd_ne (show a ≠ d from fun k => by rw [k, z] at zn; cases zn)]; exact q
  · by_cases ad : a = d
    · subst ad; rw [upd_same]; exact fun z => nomatch z
    · rw [upd_ne ad, q]; exact fun z => nomatch z
  · rw [upd_ne (show a ≠ d from fun k => by rw [k, e] at q; cases q)]; exact q
theorem nodup_ix1 {N : List Addr} (hN : N.Nodup) {i j : Nat} {x : Addr} (a : N[i]? = some x) (b : N[j]? = some x) : i = j := by
  obtain ⟨h1, e1⟩ := List.getElem?_eq_some_iff.mp a
  obtain ⟨h2, e2⟩ := List.getElem?_eq_some_iff.mp b
  exact (List.getElem_inj hN).mp (e1.trans e2.symm)
theorem RelH.wr (r : RelH K cm mu Z H h) {i : Nat} {a : Addr} {c : Cell} {o o0 : HO} (hm : mu[i]? = some a) (hz : Z a = none) (h0 : H a = some o0) (hc : CellR K cm Z (L2.upd H a o) a c) (n0 : ∀ q u, o0 ≠ .frz q u := by intro _ _ z; cases z) (t0 : Tame o0 := by exact ⟨fun _ z => (by cases z), fun _ z => (by cases z)⟩) (t1 : Tame o := by exact ⟨fun _ z => (by cases z), fun _ z => (by cases z)⟩) : RelH K cm mu Z (L2.upd H a o) (h.set i c) ∧ Ext mu Z H mu Z (L2.upd H a o) := by
  have hma := List.mem_of_getElem? hm
  refine ⟨⟨by rw [List.length_set]; exact r.len, r.nd, fun b u q => ?_, fun b hb => ?_, fun j b d hj hd => ?_, r.tb.upd (.some h0 t0) fun _ => t1⟩, fun _ _ q => q, Le.refl Z, fun b u n _ q _ => ?_, fun b u n q => ?_, fun b hb => .inl hb, fun b hb => .inl hb, fun b o' u q => (by rw [upd_ne (show b ≠ a from fun z => by rw [z, h0] at q; cases q; exact n0 _ _ rfl)]; exact q)⟩
  · exact (r.zh b u q).upd fun z => by rw [z, hz] at q; cases q
  · by_cases ba : b = a
    · subst ba; rw [upd_same]; exact fun z => nomatch z
    · rw [upd_ne ba]; exact r.mh b hb
  · by_cases ij : i = j
    · subst ij
      rw [hm] at hj; cases hj
      rw [List.getElem?_set_self (by rw [← r.len]; exact (List.getElem?_eq_some_iff.mp hm).1)] at hd
      cases hd
      exact hc
    · rw [List.getElem?_set_ne ij] at hd
      have ba : b ≠ a := fun z => by
        subst z
        exact ij (nodup_ix1 r.nd hm hj)
      exact (r.cell j b d hj hd).mono (Le.refl Z) (fun z => z) fun u _ q => by rw [upd_ne ba]; exact q
  · rw [upd_ne (show b ≠ a from fun z => n (by rw [z]; exact hma))]; exact q
  · rw [upd_ne (show b ≠ a from fun z => n (by rw [z]; exact hma)), q]; exact fun z => nomatch z
end
end Ti


namespace L2
open PySem PySem.Spec PyProof.Rows
section
variable {X : Cx} {pins : List (Addr × Obj)} {σ : St} {H : Hp} {s : Shared}
end
section
variable {X : Cx} {x n y : Str} {c : Value} {i j : Nat} {body : List Stmt} {np py pn2 apos pos pos' : Pos} {tb : WX → TS} {Wout : WX}
end
end L2


namespace Ti
open PySem PySem.Spec PyProof.Rows L2

structure Sl (K : PySem.W.Frag) (cm : Cm) (mu : List Addr) (Z : Hp) (ρ : Env) (σ : L2.St) : Prop where
  len : ρ.length = σ.length
  at_ : ∀ (i : Nat) (w : W), ρ[i]? = some (some w) → ∃ v, σ[i]? = some (some v) ∧ RW K cm mu Z w v
def Fin (K : PySem.W.Frag) (cm : Cm) (mu : List Addr) (Z H : Hp) (w : W) (h' : Hh) (Q : VK) : Prop :=
  ∀ mu' Z' H' v, Ext mu Z H mu' Z' H' → RelH K cm mu' Z' H' h' → RW K cm mu' Z' w v → Q v H'
def FinT (K : PySem.W.Frag) (cm : Cm) (mu : List Addr) (Z H : Hp) (b : Bool) (h' : Hh) (Q : Bool → Hp → Prop) : Prop :=
  ∀ mu' Z' H', Ext mu Z H mu' Z' H' → RelH K cm mu' Z' H' h' → Q b H'
def FinL (K : PySem.W.Frag) (cm : Cm) (mu : List Addr) (Z H : Hp) (ws : List W) (h' : Hh) (Q : List V → Hp → Prop) : Prop :=
  ∀ mu' Z' H' vs, Ext mu Z H mu' Z' H' → RelH K cm mu' Z' H' h' → RWs K cm mu' Z' ws vs → Q vs H'
section
variable {K : PySem.W.Frag} {cm : Cm} {mu mu' : List Addr} {Z Z' H H' : Hp} {ρ : Env} {σ : L2.St} {h h' h2 : Hh} {w : W} {v : V} {Q : VK}
theorem Sl.ext (s : Sl K cm mu Z ρ σ) (x : Ext mu Z H mu' Z' H') : Sl K cm mu' Z' ρ σ := ⟨s.len, fun i w e => by
  obtain ⟨v, e1, r⟩ := s.at_ i w e
  exact ⟨v, e1, r.mono x.z x.m⟩⟩
theorem Sl.set (s : Sl K cm mu Z ρ σ) (i : Nat) (r : RW K cm mu Z w v) : Sl K cm mu Z (ρ.set i (some w)) (σ.set i (some v)) := by
  refine ⟨by rw [List.length_set, List.length_set]; exact s.len, fun j u e => ?_⟩
  by_cases ij : i = j
  · subst ij
    have hi : i < ρ.length := by
      have := (List.getElem?_eq_some_iff.mp e).1
      rwa [List.length_set] at this
    rw [List.getElem?_set_self hi] at e
    cases e
    exact ⟨v, List.getElem?_set_self (by rw [← s.len]; exact hi), r⟩
  · rw [List.getElem?_set_ne ij] at e
    rw [List.getElem?_set_ne ij]
    exact s.at_ j u e
theorem Fin.here (f : Fin K cm mu Z H w h Q) (r : RelH K cm mu Z H h) (q : RW K cm mu Z w v) : Q v H := f mu Z H v Ext.refl r q
theorem Fin.ext (x : Ext mu Z H mu' Z' H') (f : Fin K cm mu Z H w h Q) : Fin K cm mu' Z' H' w h Q := fun m z hh v e r q => f m z hh v (x.trans e) r q
end

def tO (K : PySem.W.Frag) (cm : Cm) (m : DE) : TE := fun σ H Q => ∃ mu Z ρ h w h', RelH K cm mu Z H h ∧ Sl K cm mu Z ρ σ ∧ m ρ h = .ok (w, h') ∧ Fin K cm mu Z H w h' Q
def tOT (K : PySem.W.Frag) (cm : Cm) (m : DE) : TT := fun σ H Q => ∃ mu Z ρ h w h' b, RelH K cm mu Z H h ∧ Sl K cm mu Z ρ σ ∧ m ρ h = .ok (w, h') ∧ truthy h' w = some b ∧ FinT K cm mu Z H b h' Q
def tOL (K : PySem.W.Frag) (cm : Cm) (ms : List DE) : TA := fun σ H Q => ∃ mu Z ρ h ws h', RelH K cm mu Z H h ∧ Sl K cm mu Z ρ σ ∧ eL ms ρ h = .ok (ws, h') ∧ FinL K cm mu Z H ws h' Q
def Fl.post (K : PySem.W.Frag) (cm : Cm) (mu : List Addr) (Z H : Hp) (D : Ends) (f : Fl) (ρ' : Env) (h' : Hh) : Prop :=
  ∀ mu' Z' H', Ext mu Z H mu' Z' H' → RelH K cm mu' Z' H' h' → match f with
    | .nx => ∀ σ', Sl K cm mu' Z' ρ' σ' → D.nx σ' H'
    | .bk => ∀ σ', Sl K cm mu' Z' ρ' σ' → D.bk σ' H'
    | .ct => ∀ σ', Sl K cm mu' Z' ρ' σ' → D.ct σ' H'
    | .rt w => ∀ v, RW K cm mu' Z' w v → D.rt v H'
def tOS (K : PySem.W.Frag) (cm : Cm) (m : DS) : TS := fun D σ H => ∃ mu Z ρ h f ρ' h', RelH K cm mu Z H h ∧ Sl K cm mu Z ρ σ ∧ m ρ h = .ok (f, ρ', h') ∧ f.post K cm mu Z H D ρ' h'
def But (own : List Nat) (σ σ' : L2.St) : Prop := ∀ vs : List Nat, (∀ i ∈ own, i ∈ vs) → wipe σ' vs = wipe σ vs
def tOG (K : PySem.W.Frag) (cm : Cm) (own : List Nat) (t : DT) : TG := fun v σ H Q => ∃ mu Z ρ h w ρ' h', RelH K cm mu Z H h ∧ Sl K cm mu Z ρ σ ∧ RW K cm mu Z w v ∧ t w ρ h = .ok (ρ', h') ∧
  ∀ mu' Z' H' σ', Ext mu Z H mu' Z' H' → RelH K cm mu' Z' H' h' → Sl K cm mu' Z' ρ' σ' → But own σ σ' → Q σ' H'
def tOGs (K : PySem.W.Frag) (cm : Cm) (own : List Nat) (ts : List DT) : TGs := fun vs σ H Q => ∃ mu Z ρ h ws ρ' h', RelH K cm mu Z H h ∧ Sl K cm mu Z ρ σ ∧ RWs K cm mu Z ws vs ∧ tL ts ws ρ h = .ok (ρ', h') ∧
  ∀ mu' Z' H' σ', Ext mu Z H mu' Z' H' → RelH K cm mu' Z' H' h' → Sl K cm mu' Z' ρ' σ' → But own σ σ' → Q σ' H'
abbrev QE (X : Cx) (cm : Cm) (e : Expr) (m : DE) : Prop := PE X e (tO X.K cm m)
abbrev QT (X : Cx) (cm : Cm) (e : Expr) (m : DE) : Prop := PT X e (tOT X.K cm m)
abbrev QL (X : Cx) (cm : Cm) (es : List Expr) (ms : List DE) : Prop := PA X es (tOL X.K cm ms)
abbrev QS (X : Cx) (cm : Cm) (s : Stmt) (m : DS) : Prop := PS X s (tOS X.K cm m)
abbrev QSs (X : Cx) (cm : Cm) (s : List Stmt) (m : DS) : Prop := PSs X s (tOS X.K cm m)
abbrev QG (X : Cx) (cm : Cm) (own : List Nat) (e : Expr) (t : DT) : Prop := PG X e (tOG X.K cm own t)
abbrev QGs (X : Cx) (cm : Cm) (own : List Nat) (es : List Expr) (ts : List DT) : Prop := PGs X es (tOGs X.K cm own ts)

section
variable {X : Cx}
theorem PE.wk {e : Expr} {t t' : TE} (h : PE X e t) (i : ∀ σ H Q, t' σ H Q → t σ H Q) : PE X e t' := ⟨fun pins s σ H Q I q => h.run pins s σ H Q I (i σ H Q q)⟩
theorem PT.wk {e : Expr} {t t' : TT} (h : PT X e t) (i : ∀ σ H Q, t' σ H Q → t σ H Q) : PT X e t' := ⟨fun pins s σ H Q I q => h.run pins s σ H Q I (i σ H Q q)⟩
theorem PW.wk {e : Expr} {t t' : TT} (h : PW X e t) (i : ∀ σ H Q, t' σ H Q → t σ H Q) : PW X e t' := ⟨fun wh pins s σ H Q I q => h.run wh pins s σ H Q I (i σ H Q q)⟩
theorem PA.wk {es : List Expr} {t t' : TA} (h : PA X es t) (i : ∀ σ H Q, t' σ H Q → t σ H Q) : PA X es t' := ⟨fun pos pins s σ H Q I q => h.run pos pins s σ H Q I (i σ H Q q)⟩
theorem PS.wk {s : Stmt} {t t' : TS} (h : PS X s t) (i : ∀ D σ H, t' D σ H → t D σ H) : PS X s t' := ⟨fun pins s σ H D I q => h.run pins s σ H D I (i D σ H q)⟩
theorem PSs.wk {s : List Stmt} {t t' : TS} (h : PSs X s t) (i : ∀ D σ H, t' D σ H → t D σ H) : PSs X s t' := ⟨fun pins s σ H D I q => h.run pins s σ H D I (i D σ H q)⟩
theorem PG.wk {e : Expr} {t t' : TG} (h : PG X e t) (i : ∀ v σ H Q, t' v σ H Q → t v σ H Q) : PG X e t' := ⟨fun pins s σ H v u Q I r q => h.run pins s σ H v u Q I r (i v σ H Q q)⟩
theorem PGs.wk {e : List Expr} {t t' : TGs} (h : PGs X e t) (i : ∀ v σ H Q, t' v σ H Q → t v σ H Q) : PGs X e t' := ⟨fun pins s σ H v u Q I r q => h.run pins s σ H v u Q I r (i v σ H Q q)⟩
variable {cm : Cm}

theorem q_var {i : Nat} {x : Str} {pos : Pos} (hN : X.N[i]? = some x) (hv : Vis X.env.scope x) (hd : (x == ("__debug__" : Str)) = false) (hcd : (x == ("__classdict__" : Str)) = false) : QE X cm (.Name x pos) (eV i) := by
  refine PE.wk (pe_var hN hv hd hcd) fun σ H Q q => ?_
  obtain ⟨mu, Z, ρ, h, w, h', r, s, e, f⟩ := q
  unfold eV at e
  split at e
  · rename_i w0 e0
    cases e
    obtain ⟨v, e1, q⟩ := s.at_ i w e0
    exact ⟨v, e1, f.here r q⟩
  · cases e
def plainK : W → V → Bool
  | .non, .non => true
  | .bl a, .bl b => a == b
  | .int a, .int b => a == b
  | .str a, .str b => decide (a = b)
  | _, _ => false
theorem plainK_ok {K : PySem.W.Frag} {mu : List Addr} {Z : Hp} {w : W} {v : V} (e : plainK w v = true) : RW K cm mu Z w v := by
  cases w <;> cases v <;> first | cases e | skip
  · rfl
  · exact congrArg V.bl (eq_of_beq (show (_ == _) = true from e)).symm
  · exact congrArg V.int (eq_of_beq (show (_ == _) = true from e)).symm
  · exact congrArg V.str (of_decide_eq_true (show decide (_ = _) = true from e)).symm
theorem q_const {e : Expr} {w : W} {v : V} (h : PE X e (tC v)) (k : plainK w v = true) : QE X cm e (eK w) := by
  refine PE.wk h fun σ H Q q => ?_
  obtain ⟨mu, Z, ρ, h, w', h', r, s, e, f⟩ := q
  cases e
  exact f.here r (plainK_ok k)

def Ok1 (K : PySem.W.Frag) (cm : Cm) (g : F1) (r : V → Hp → VK → Prop) : Prop :=
  ∀ mu Z H h w1 w h' v1 Q, RelH K cm mu Z H h → RW K cm mu Z w1 v1 → g w1 h = .ok (w, h') → Fin K cm mu Z H w h' Q → r v1 H Q
def Ok2 (K : PySem.W.Frag) (cm : Cm) (g : F2) (r : R2) : Prop :=
  ∀ mu Z H h w1 w2 w h' v1 v2 Q, RelH K cm mu Z H h → RW K cm mu Z w1 v1 → RW K cm mu Z w2 v2 → g w1 w2 h = .ok (w, h') → Fin K cm mu Z H w h' Q → r v1 v2 H Q
def OkL (K : PySem.W.Frag) (cm : Cm) (g : Fn) (r : List V → Hp → VK → Prop) : Prop :=
  ∀ mu Z H h ws w h' vs Q, RelH K cm mu Z H h → RWs K cm mu Z ws vs → g ws h = .ok (w, h') → Fin K cm mu Z H w h' Q → r vs H Q
theorem tO_bin {K : PySem.W.Frag} {ma mb : DE} {g : F2} {r : R2} (k : Ok2 K cm g r) (σ : L2.St) (H : Hp) (Q : VK) (q : tO K cm (e2 g ma mb) σ H Q) : tOp r (tO K cm ma) (tO K cm mb) σ H Q := by
  obtain ⟨mu, Z, ρ, h, w, h', rl, s, e, f⟩ := q
  obtain ⟨p, e1, e⟩ := Res.bind_eq_ok e
  obtain ⟨p2, e2, e⟩ := Res.bind_eq_ok e
  refine ⟨mu, Z, ρ, h, p.1, p.2, rl, s, e1, fun mu1 Z1 H1 v1 x1 r1 w1 => ?_⟩
  refine ⟨mu1, Z1, ρ, p.2, p2.1, p2.2, r1, s.ext x1, e2, fun mu2 Z2 H2 v2 x2 r2 w2 => ?_⟩
  exact k mu2 Z2 H2 p2.2 p.1 p2.1 w h' v1 v2 Q r2 (w1.mono x2.z x2.m) w2 e (f.ext (x1.trans x2))
theorem q_bin {op : Operator} {r : R2} {g : F2} {a b : Expr} {ma mb : DE} {pos : Pos} (ho : OpR X (binaryOp op) r) (k : Ok2 X.K cm g r) (ha : QE X cm a ma) (hb : QE X cm b mb) : QE X cm (.BinOp a op b pos) (e2 g ma mb) :=
  PE.wk (pe_op ho ha hb) fun σ H Q q => tO_bin k σ H Q q
theorem q_cmp {op : CmpOp} {r : R2} {g : F2} {a b : Expr} {ma mb : DE} {pos : Pos} (ho : OpR X (compareOp op) r) (k : Ok2 X.K cm g r) (ha : QE X cm a ma) (hb : QE X cm b mb) (hm : behindInMarks op b = false) : QE X cm (.Compare a [op] [b] pos) (e2 g ma mb) :=
  PE.wk (pe_cmpR ho ha hb hm) fun σ H Q q => tO_bin k σ H Q q
theorem q_un {op : UnaryOp} {r : V → Hp → VK → Prop} {g : F1} {a : Expr} {ma : DE} {pos : Pos} (ho : UnR X (unaryOp op) r) (k : Ok1 X.K cm g r) (ha : QE X cm a ma) : QE X cm (.UnaryOp op a pos) (e1 g ma) := by
  refine PE.wk (pe_un ho ha) fun σ H Q q => ?_
  obtain ⟨mu, Z, ρ, h, w, h', rl, s, e, f⟩ := q
  obtain ⟨p, e1, e⟩ := Res.bind_eq_ok e
  exact ⟨mu, Z, ρ, h, p.1, p.2, rl, s, e1, fun mu1 Z1 H1 v1 x1 r1 w1 => k mu1 Z1 H1 p.2 p.1 w h' v1 Q r1 w1 e (f.ext x1)⟩
theorem q_ix {r : R2} {g : F2} {a b : Expr} {ma mb : DE} {pos : Pos} (ho : IxR X r) (k : Ok2 X.K cm g r) (ha : QE X cm a ma) (hb : QE X cm b mb) (hs : PlainIx b) : QE X cm (.Subscript a b pos) (e2 g ma mb) :=
  PE.wk (pe_ix ho ha hb hs) fun σ H Q q => tO_bin k σ H Q q

theorem ql_nil : QL X cm [] [] := by
  refine PA.wk pa_nil fun σ H Q q => ?_
  obtain ⟨mu, Z, ρ, h, ws, h', rl, s, e, f⟩ := q
  cases e
  exact f mu Z H [] Ext.refl rl rfl
theorem ql_cons {e : Expr} {es : List Expr} {m : DE} {ms : List DE} (ha : QE X cm e m) (hr : QL X cm es ms) (hs : starEach (e :: es) X.env = (false, eval e X.env) :: starEach es X.env) : QL X cm (e :: es) (m :: ms) := by
  refine PA.wk (pa_cons ha hr hs) fun σ H Q q => ?_
  obtain ⟨mu, Z, ρ, h, ws, h', rl, s, e, f⟩ := q
  obtain ⟨p, e1, e⟩ := Res.bind_eq_ok e
  obtain ⟨p2, e2, e⟩ := Res.bind_eq_ok e
  cases e
  refine ⟨mu, Z, ρ, h, p.1, p.2, rl, s, e1, fun mu1 Z1 H1 v1 x1 r1 w1 => ?_⟩
  refine ⟨mu1, Z1, ρ, p.2, p2.1, p2.2, r1, s.ext x1, e2, fun mu2 Z2 H2 vs x2 r2 ws2 => ?_⟩
  exact f mu2 Z2 H2 (v1 :: vs) (x1.trans x2) r2 ⟨v1, vs, rfl, w1.mono x2.z x2.m, ws2⟩
theorem RWs.one {K : PySem.W.Frag} {mu : List Addr} {Z : Hp} {w : W} {vs : List V} (h : RWs K cm mu Z [w] vs) : ∃ v, vs = [v] ∧ RW K cm mu Z w v := by
  obtain ⟨v, r, e, h1, h2⟩ := h
  have h2 : r = [] := h2
  subst h2
  exact ⟨v, e, h1⟩
theorem RWs.two {K : PySem.W.Frag} {mu : List Addr} {Z : Hp} {w u : W} {vs : List V} (h : RWs K cm mu Z [w, u] vs) : ∃ v x, vs = [v, x] ∧ RW K cm mu Z w v ∧ RW K cm mu Z u x := by
  obtain ⟨v, r, e, h1, h2⟩ := h
  obtain ⟨x, rfl, h3⟩ := h2.one
  exact ⟨v, x, e, h1, h3⟩
theorem RWs.length {K : PySem.W.Frag} {mu : List Addr} {Z : Hp} : ∀ {ws : List W} {vs : List V}, RWs K cm mu Z ws vs → vs.length = ws.length
  | [], vs, h => by
    have h : vs = [] := h
    rw [h] <;> rfl
  | w :: ws, vs, h => by
    obtain ⟨v, r, e, _, h2⟩ := h
    rw [e, List.length_cons, List.length_cons, RWs.length h2]
theorem RWs.get {K : PySem.W.Frag} {mu : List Addr} {Z : Hp} : ∀ {ws : List W} {vs : List V} {i : Nat} {w : W}, RWs K cm mu Z ws vs → ws[i]? = some w → ∃ v, vs[i]? = some v ∧ RW K cm mu Z w v
  | [], _, _, _, _, e => by cases e
  | w :: ws, _, 0, _, h, e => by
    obtain ⟨v, r, rfl, h1, _⟩ := h
    cases e
    exact ⟨v, rfl, h1⟩
  | w :: ws, _, i + 1, u, h, e => by
    obtain ⟨v, r, rfl, _, h2⟩ := h
    exact RWs.get (i := i) h2 e
theorem RWs.append {K : PySem.W.Frag} {mu : List Addr} {Z : Hp} : ∀ {ws us : List W} {vs xs : List V}, RWs K cm mu Z ws vs → RWs K cm mu Z us xs → RWs K cm mu Z (ws ++ us) (vs ++ xs)
  | [], us, vs, xs, h, g => by
    have h : vs = [] := h
    subst h
    exact g
  | w :: ws, us, _, xs, h, g => by
    obtain ⟨v, r, rfl, h1, h2⟩ := h
    exact ⟨v, r ++ xs, rfl, h1, RWs.append h2 g⟩
theorem RWs.set {K : PySem.W.Frag} {mu : List Addr} {Z : Hp} {u : W} {x : V} (q : RW K cm mu Z u x) : ∀ {ws : List W} {vs : List V} (i : Nat), RWs K cm mu Z ws vs → RWs K cm mu Z (ws.set i u) (vs.set i x)
  | [], vs, i, h => by
    have h : vs = [] := h
    subst h
    exact rfl
  | w :: ws, _, 0, h => by
    obtain ⟨v, r, rfl, h1, h2⟩ := h
    exact ⟨x, r, rfl, q, h2⟩
  | w :: ws, _, i + 1, h => by
    obtain ⟨v, r, rfl, h1, h2⟩ := h
    exact ⟨v, r.set i x, rfl, h1, RWs.set q i h2⟩
theorem RWs.take {K : PySem.W.Frag} {mu : List Addr} {Z : Hp} : ∀ {ws : List W} {vs : List V} (i : Nat), RWs K cm mu Z ws vs → RWs K cm mu Z (ws.take i) (vs.take i)
  | [], vs, i, h => by
    have h : vs = [] := h
    subst h
    simp [RWs]
  | w :: ws, _, 0, h => rfl
  | w :: ws, _, i + 1, h => by
    obtain ⟨v, r, rfl, h1, h2⟩ := h
    exact ⟨v, r.take i, rfl, h1, RWs.take i h2⟩
theorem RWs.drop {K : PySem.W.Frag} {mu : List Addr} {Z : Hp} : ∀ {ws : List W} {vs : List V} (i : Nat), RWs K cm mu Z ws vs → RWs K cm mu Z (ws.drop i) (vs.drop i)
  | [], vs, i, h => by
    have h : vs = [] := h
    subst h
    simp [RWs]
  | w :: ws, _, 0, h => h
  | w :: ws, _, i + 1, h => by
    obtain ⟨v, r, rfl, h1, h2⟩ := h
    exact RWs.drop i h2
theorem RWs.reverse {K : PySem.W.Frag} {mu : List Addr} {Z : Hp} : ∀ {ws : List W} {vs : List V}, RWs K cm mu Z ws vs → RWs K cm mu Z ws.reverse vs.reverse
  | [], vs, h => by
    have h : vs = [] := h
    subst h
    exact rfl
  | w :: ws, _, h => by
    obtain ⟨v, r, rfl, h1, h2⟩ := h
    rw [List.reverse_cons, List.reverse_cons]
    exact RWs.append (RWs.reverse h2) ⟨v, [], rfl, h1, rfl⟩

theorem q_one {op : BoolOp} {e : Expr} {m : DE} {pos : Pos} (h : QE X cm e m) : QE X cm (.BoolOp op [e] pos) m := pe_one h
end
end Ti


namespace Ti
open PySem PySem.Spec PyProof.Rows L2
section
variable {K : PySem.W.Frag} {cm : Cm} {mu : List Addr} {Z H : Hp} {h : Hh} {w : W} {v : V} {ws : List W} {kd : Bool} {kvs : List (HK × W)}
theorem RelH.lstZ (r : RelH K cm mu Z H h) {a : Addr} {vs : List V} (e : Z a = some (.lst vs)) : H a = some (.lst vs) := r.zh a _ e
theorem RelH.tupZ (r : RelH K cm mu Z H h) {a : Addr} {vs : List V} (e : Z a = some (.tup vs)) : H a = some (.tup vs) := r.zh a _ e
theorem RelH.at_ (r : RelH K cm mu Z H h) {i : Nat} {a : Addr} {c : Cell} (m : mu[i]? = some a) (e : h[i]? = some c) : CellR K cm Z H a c := r.cell i a c m e
theorem asL_ok (r : RelH K cm mu Z H h) (q : RW K cm mu Z w v) (e : asL h w = some ws) : ∃ a vs, v = .ref a ∧ H a = some (.lst vs) ∧ RWs K cm mu Z ws vs := by
  cases w with
  | lst us =>
    cases e
    obtain ⟨a, vs, e1, z, rs⟩ := q
    exact ⟨a, vs, e1, r.lstZ z, rs⟩
  | ref i =>
    obtain ⟨a, e1, m⟩ := q
    have e : (match h[i]? with | some (.lst ws) => some ws | some (.frz (.lst ws)) => some ws | _ => none) = some ws := e
    split at e
    · rename_i e2
      cases e
      obtain ⟨_, n, vs, e3, rs⟩ := (show Z a = none ∧ nors ws = true ∧ ∃ vs, H a = some (.lst vs) ∧ RWs K cm [] Z ws vs from r.at_ m e2)
      exact ⟨a, vs, e1, e3, RWs.any n rs⟩
    · rename_i e2
      cases e
      obtain ⟨n, q2⟩ := (show nor (.lst ws) = true ∧ RW K cm [] Z (.lst ws) (.ref a) from r.at_ m e2)
      obtain ⟨a', vs, e3, z, rs⟩ := q2
      cases e3
      exact ⟨a, vs, e1, r.lstZ z, RWs.any n rs⟩
    · cases e
  | _ => cases e
theorem asD_ok (r : RelH K cm mu Z H h) (q : RW K cm mu Z w v) (e : asD h w = some (kd, kvs)) : ∃ a, v = .ref a ∧ norK kvs = norK kvs ∧ if kd then ∃ ks vs, KeysT (kvs.map (·.1)) ks ∧ Rd H a (.dT (ks.zip vs)) ∧ ks.length = vs.length ∧ RWk K cm mu Z kvs vs
      else ∃ ks vs, KeysK (kvs.map (·.1)) ks ∧ Rd H a (.dK (ks.zip vs)) ∧ ks.length = vs.length ∧ RWk K cm mu Z kvs vs := by
  have zk : ∀ {a : Addr} {kd : Bool} {kvs : List (HK × W)} {m : List Addr}, (if kd then ∃ ks vs, KeysT (kvs.map (·.1)) ks ∧ Z a = some (.dT (ks.zip vs)) ∧ ks.length = vs.length ∧ RWk K cm m Z kvs vs
      else ∃ ks vs, KeysK (kvs.map (·.1)) ks ∧ Z a = some (.dK (ks.zip vs)) ∧ ks.length = vs.length ∧ RWk K cm m Z kvs vs) →
      (m = mu ∨ norK kvs = true) → (if kd then ∃ ks vs, KeysT (kvs.map (·.1)) ks ∧ Rd H a (.dT (ks.zip vs)) ∧ ks.length = vs.length ∧ RWk K cm mu Z kvs vs
      else ∃ ks vs, KeysK (kvs.map (·.1)) ks ∧ Rd H a (.dK (ks.zip vs)) ∧ ks.length = vs.length ∧ RWk K cm mu Z kvs vs) := by
    intro a kd kvs m q hm
    have mv : ∀ vs, RWk K cm m Z kvs vs → RWk K cm mu Z kvs vs := fun vs q => by
      rcases hm with e | n
      · rw [← e]; exact q
      · exact RWk.any n q
    cases kd with
    | true =>
      obtain ⟨ks, vs, h1, h2, h3, h4⟩ := (show ∃ ks vs, KeysT (kvs.map (·.1)) ks ∧ Z a = some (.dT (ks.zip vs)) ∧ ks.length = vs.length ∧ RWk K cm m Z kvs vs from q)
      exact ⟨ks, vs, h1, r.zh a _ h2, h3, mv vs h4⟩
    | false =>
      obtain ⟨ks, vs, h1, h2, h3, h4⟩ := (show ∃ ks vs, KeysK (kvs.map (·.1)) ks ∧ Z a = some (.dK (ks.zip vs)) ∧ ks.length = vs.length ∧ RWk K cm m Z kvs vs from q)
      exact ⟨ks, vs, h1, r.zh a _ h2, h3, mv vs h4⟩
  cases w with
  | dic kd' us =>
    cases e
    obtain ⟨a, e1, q⟩ := q
    exact ⟨a, e1, rfl, zk q (.inl rfl)⟩
  | ref i =>
    obtain ⟨a, e1, m⟩ := q
    have e : (match h[i]? with | some (.dic kd kvs) => some (kd, kvs) | some (.frz (.dic kd kvs)) => some (kd, kvs) | _ => none) = some (kd, kvs) := e
    split at e
    · rename_i e2
      cases e
      refine ⟨a, e1, rfl, ?_⟩
      obtain ⟨_, n, q⟩ := (show Z a = none ∧ norK kvs = true ∧ if kd then ∃ ks vs, KeysT (kvs.map (·.1)) ks ∧ H a = some (.dT (ks.zip vs)) ∧ ks.length = vs.length ∧ RWk K cm [] Z kvs vs
        else ∃ ks vs, KeysK (kvs.map (·.1)) ks ∧ H a = some (.dK (ks.zip vs)) ∧ ks.length = vs.length ∧ RWk K cm [] Z kvs vs from r.at_ m e2)
      cases kd with
      | true =>
        obtain ⟨ks, vs, h1, h2, h3, h4⟩ := (show ∃ ks vs, KeysT (kvs.map (·.1)) ks ∧ H a = some (.dT (ks.zip vs)) ∧ ks.length = vs.length ∧ RWk K cm [] Z kvs vs from q)
        exact ⟨ks, vs, h1, .inl h2, h3, RWk.any n h4⟩
      | false =>
        obtain ⟨ks, vs, h1, h2, h3, h4⟩ := (show ∃ ks vs, KeysK (kvs.map (·.1)) ks ∧ H a = some (.dK (ks.zip vs)) ∧ ks.length = vs.length ∧ RWk K cm [] Z kvs vs from q)
        exact ⟨ks, vs, h1, .inl h2, h3, RWk.any n h4⟩
    · rename_i e2
      cases e
      obtain ⟨n, a', e3, q2⟩ := (show nor (.dic kd kvs) = true ∧ RW K cm [] Z (.dic kd kvs) (.ref a) from r.at_ m e2)
      cases e3
      exact ⟨a, e1, rfl, zk q2 (.inr n)⟩
    · cases e
  | _ => cases e
theorem truthy_ok (r : RelH K cm mu Z H h) (q : RW K cm mu Z w v) {k : Bool} (e : truthy h w = some k) : TruV K v H k := by
  have lst : ∀ {us : List W}, asL h w = some us → k = !us.isEmpty → TruV K v H k := fun {us} e1 e2 => by
    obtain ⟨a, vs, rfl, e3, rs⟩ := asL_ok r q e1
    refine .inl ⟨vs, SqL.of e3, ?_⟩
    rw [e2]
    have := rs.length
    cases us <;> cases vs <;> first | rfl | cases this
  cases w with
  | non => cases e; cases q; rfl
  | bl b => cases e; cases q; rfl
  | int i => cases e; cases q; rfl
  | str x =>
    have q : v = .str x := q
    subst q
    have e : (if x.length ≤ lineW then some (x.length != 0) else none) = some k := e
    split at e
    · rename_i hl
      cases e
      refine ⟨hl, ?_⟩
      cases hx : x.length with
      | zero => rfl
      | succ n => rfl
    · cases e
  | tup us =>
    cases e
    obtain ⟨a, vs, rfl, z, rs⟩ := q
    refine .inr (.inl ⟨vs, SqT.of (r.tupZ z), ?_⟩)
    have := rs.length
    cases us <;> cases vs <;> first | rfl | cases this
  | lst us =>
    cases e
    exact lst rfl rfl
  | ref i =>
    have e : (asL h (.ref i)).map (fun ws => !ws.isEmpty) = some k := e
    cases e1 : asL h (.ref i) with
    | none => rw [e1] at e; cases e
    | some us =>
      rw [e1] at e
      cases e
      exact lst e1 rfl
  | _ => cases e
end
section
variable {X : Cx} {cm : Cm} {a b c : Expr} {ma mb mc : DE} {rest : List Expr} {pos : Pos}
theorem q_and (ha : QE X cm a ma) (hb : QE X cm (.BoolOp .And (b :: rest) pos) mb) : QE X cm (.BoolOp .And (a :: b :: rest) pos) (eAnd ma mb) := by
  refine PE.wk (pe_andT ha hb) fun σ H Q q => ?_
  obtain ⟨mu, Z, ρ, h, w, h', rl, s, e, f⟩ := q
  obtain ⟨p, e1, e⟩ := Res.bind_eq_ok e
  obtain ⟨k, e2, e⟩ := Res.bind_eq_ok e
  refine ⟨mu, Z, ρ, h, p.1, p.2, rl, s, e1, fun mu1 Z1 H1 v1 x1 r1 w1 => ⟨k, truthy_ok r1 w1 (ofO_eq_ok e2), ?_⟩⟩
  cases k with
  | true => exact ⟨mu1, Z1, ρ, p.2, w, h', r1, s.ext x1, e, f.ext x1⟩
  | false =>
    have e : Res.ok p = .ok (w, h') := e
    cases e
    exact f _ _ _ _ x1 r1 w1
theorem q_or (ha : QE X cm a ma) (hb : QE X cm (.BoolOp .Or (b :: rest) pos) mb) : QE X cm (.BoolOp .Or (a :: b :: rest) pos) (eOr ma mb) := by
  refine PE.wk (pe_orT ha hb) fun σ H Q q => ?_
  obtain ⟨mu, Z, ρ, h, w, h', rl, s, e, f⟩ := q
  obtain ⟨p, e1, e⟩ := Res.bind_eq_ok e
  obtain ⟨k, e2, e⟩ := Res.bind_eq_ok e
  refine ⟨mu, Z, ρ, h, p.1, p.2, rl, s, e1, fun mu1 Z1 H1 v1 x1 r1 w1 => ⟨k, truthy_ok r1 w1 (ofO_eq_ok e2), ?_⟩⟩
  cases k with
  | true =>
    have e : Res.ok p = .ok (w, h') := e
    cases e
    exact f _ _ _ _ x1 r1 w1
  | false => exact ⟨mu1, Z1, ρ, p.2, w, h', r1, s.ext x1, e, f.ext x1⟩
theorem q_not (ha : QE X cm a ma) : QE X cm (.UnaryOp .Not a pos) (eNot ma) := by
  refine PE.wk (pe_notT ha) fun σ H Q q => ?_
  obtain ⟨mu, Z, ρ, h, w, h', rl, s, e, f⟩ := q
  obtain ⟨p, e1, e⟩ := Res.bind_eq_ok e
  obtain ⟨k, e2, e⟩ := Res.bind_eq_ok e
  cases e
  exact ⟨mu, Z, ρ, h, p.1, p.2, rl, s, e1, fun mu1 Z1 H1 v1 x1 r1 w1 => ⟨k, truthy_ok r1 w1 (ofO_eq_ok e2), f _ _ _ _ x1 r1 rfl⟩⟩
theorem q_if (hc : QT X cm c mc) (ha : QE X cm a ma) (hb : QE X cm b mb) : QE X cm (.IfExp c a b pos) (eIf mc ma mb) := by
  refine PE.wk (pe_ifExp hc ha hb) fun σ H Q q => ?_
  obtain ⟨mu, Z, ρ, h, w, h', rl, s, e, f⟩ := q
  obtain ⟨p, e1, e⟩ := Res.bind_eq_ok e
  obtain ⟨k, e2, e⟩ := Res.bind_eq_ok e
  refine ⟨mu, Z, ρ, h, p.1, p.2, k, rl, s, e1, ofO_eq_ok e2, fun mu1 Z1 H1 x1 r1 => ?_⟩
  cases k with
  | true => exact ⟨mu1, Z1, ρ, p.2, w, h', r1, s.ext x1, e, f.ext x1⟩
  | false => exact ⟨mu1, Z1, ρ, p.2, w, h', r1, s.ext x1, e, f.ext x1⟩
theorem qt_truth (ha : QE X cm a ma) (he : ∀ whole, isTrue a X.env whole = (do let v ← whole; standAt a.pos; holding [v] (PySem.truthy v))) : QT X cm a ma := by
  refine PT.wk (pt_truth ha he) fun σ H Q q => ?_
  obtain ⟨mu, Z, ρ, h, w, h', k, rl, s, e, t, f⟩ := q
  exact ⟨mu, Z, ρ, h, w, h', rl, s, e, fun mu1 Z1 H1 v1 x1 r1 w1 => ⟨k, truthy_ok r1 w1 t, f _ _ _ x1 r1⟩⟩
def BoolG (g : F2) : Prop := ∀ x y h w h', g x y h = .ok (w, h') → ∃ k, w = .bl k
theorem qt_cmp {op : CmpOp} {r : R2} {g : F2} (ho : OpR X (compareOp op) r) (k : Ok2 X.K cm g r) (kb : BoolG g) (ha : QE X cm a ma) (hb : QE X cm b mb) (hm : behindInMarks op b = false) : QT X cm (.Compare a [op] [b] pos) (e2 g ma mb) := by
  refine PT.wk (pt_cmpR ho ha hb hm) fun σ H Q q => ?_
  obtain ⟨mu, Z, ρ, h, w, h', t, rl, s, e, tt, f⟩ := q
  refine tO_bin k σ H _ ⟨mu, Z, ρ, h, w, h', rl, s, e, fun mu1 Z1 H1 v1 x1 r1 w1 => ?_⟩
  obtain ⟨p, e1, e⟩ := Res.bind_eq_ok e
  obtain ⟨p2, e2, e⟩ := Res.bind_eq_ok e
  obtain ⟨d, rfl⟩ := kb _ _ _ _ _ e
  cases tt
  exact ⟨_, w1, f _ _ _ x1 r1⟩
theorem qt_not (ha : QT X cm a ma) : QT X cm (.UnaryOp .Not a pos) (eNot ma) := by
  refine PT.wk (pt_not ha) fun σ H Q q => ?_
  obtain ⟨mu, Z, ρ, h, w, h', k, rl, s, e, tt, f⟩ := q
  obtain ⟨p, e1, e⟩ := Res.bind_eq_ok e
  obtain ⟨k2, e2, e⟩ := Res.bind_eq_ok e
  cases e
  cases tt
  exact ⟨mu, Z, ρ, h, p.1, p.2, k2, rl, s, e1, ofO_eq_ok e2, fun mu1 Z1 H1 x1 r1 => f _ _ _ x1 r1⟩
abbrev QW (X : Cx) (cm : Cm) (e : Expr) (m : DE) : Prop := PW X e (tOT X.K cm m)
theorem qw_and1 (ha : QT X cm a ma) : QW X cm (.BoolOp .And [a] pos) ma := pw_and1 ha
theorem qw_or1 (ha : QT X cm a ma) : QW X cm (.BoolOp .Or [a] pos) ma := pw_or1 ha
theorem qw_and (ha : QT X cm a ma) (hb : QW X cm (.BoolOp .And (b :: rest) pos) mb) : QW X cm (.BoolOp .And (a :: b :: rest) pos) (eAnd ma mb) := by
  refine PW.wk (pw_and ha hb) fun σ H Q q => ?_
  obtain ⟨mu, Z, ρ, h, w, h', k, rl, s, e, tt, f⟩ := q
  obtain ⟨p, e1, e⟩ := Res.bind_eq_ok e
  obtain ⟨k2, e2, e⟩ := Res.bind_eq_ok e
  refine ⟨mu, Z, ρ, h, p.1, p.2, k2, rl, s, e1, ofO_eq_ok e2, fun mu1 Z1 H1 x1 r1 => ?_⟩
  cases k2 with
  | true => exact ⟨mu1, Z1, ρ, p.2, w, h', k, r1, s.ext x1, e, tt, fun m z hh x r => f m z hh (x1.trans x) r⟩
  | false =>
    have e : Res.ok p = .ok (w, h') := e
    cases e
    have := (ofO_eq_ok e2).symm.trans tt
    cases this
    exact f _ _ _ x1 r1
theorem qw_or (ha : QT X cm a ma) (hb : QW X cm (.BoolOp .Or (b :: rest) pos) mb) : QW X cm (.BoolOp .Or (a :: b :: rest) pos) (eOr ma mb) := by
  refine PW.wk (pw_or ha hb) fun σ H Q q => ?_
  obtain ⟨mu, Z, ρ, h, w, h', k, rl, s, e, tt, f⟩ := q
  obtain ⟨p, e1, e⟩ := Res.bind_eq_ok e
  obtain ⟨k2, e2, e⟩ := Res.bind_eq_ok e
  refine ⟨mu, Z, ρ, h, p.1, p.2, k2, rl, s, e1, ofO_eq_ok e2, fun mu1 Z1 H1 x1 r1 => ?_⟩
  cases k2 with
  | true =>
    have e : Res.ok p = .ok (w, h') := e
    cases e
    have := (ofO_eq_ok e2).symm.trans tt
    cases this
    exact f _ _ _ x1 r1
  | false => exact ⟨mu1, Z1, ρ, p.2, w, h', k, r1, s.ext x1, e, tt, fun m z hh x r => f m z hh (x1.trans x) r⟩
theorem tO_chain {K : PySem.W.Frag} {g g' : F2} {r r' : R2} (k : Ok2 K cm g r) (k' : Ok2 K cm g' r') (σ : L2.St) (H : Hp) (Q : VK) (q : tO K cm (eChain g g' ma mb mc) σ H Q) : tChain r r' (tO K cm ma) (tO K cm mb) (tO K cm mc) σ H Q := by
  obtain ⟨mu, Z, ρ, h, w, h', rl, s, e, f⟩ := q
  obtain ⟨p, e1, e⟩ := Res.bind_eq_ok e
  obtain ⟨p2, e2, e⟩ := Res.bind_eq_ok e
  obtain ⟨p3, e3, e⟩ := Res.bind_eq_ok e
  refine ⟨mu, Z, ρ, h, p.1, p.2, rl, s, e1, fun mu1 Z1 H1 v1 x1 r1 w1 => ?_⟩
  refine ⟨mu1, Z1, ρ, p.2, p2.1, p2.2, r1, s.ext x1, e2, fun mu2 Z2 H2 v2 x2 r2 w2 => ?_⟩
  refine k mu2 Z2 H2 p2.2 p.1 p2.1 p3.1 p3.2 v1 v2 _ r2 (w1.mono x2.z x2.m) w2 e3 fun mu3 Z3 H3 v3 x3 r3 w3 => ?_
  obtain ⟨u3, h3⟩ := p3
  cases u3 with
  | bl d =>
    refine ⟨d, w3, ?_⟩
    cases d with
    | true =>
      have e : ((mc ρ h3).bind fun s => g' p2.1 s.1 s.2) = .ok (w, h') := e
      obtain ⟨p4, e4, e⟩ := Res.bind_eq_ok e
      have x13 := x1.trans (x2.trans x3)
      refine ⟨mu3, Z3, ρ, h3, p4.1, p4.2, r3, s.ext x13, e4, fun mu4 Z4 H4 v4 x4 r4 w4 => ?_⟩
      exact k' mu4 Z4 H4 p4.2 p2.1 p4.1 w h' v2 v4 Q r4 ((w2.mono x3.z x3.m).mono x4.z x4.m) w4 e (f.ext (x13.trans x4))
    | false =>
      have e : Res.ok (W.bl false, h3) = .ok (w, h') := e
      cases e
      exact f _ _ _ _ (x1.trans (x2.trans x3)) r3 rfl
  | _ => cases e
theorem q_chain {op op' : CmpOp} {r r' : R2} {g g' : F2} (ho : OpR X (compareOp op) r) (ho' : OpR X (compareOp op') r') (k : Ok2 X.K cm g r) (k' : Ok2 X.K cm g' r') (ha : QE X cm a ma) (hb : QE X cm b mb) (hc : QE X cm c mc)
    (hm : lastMarks [op, op'] [b, c] = false) : QE X cm (.Compare a [op, op'] [b, c] pos) (eChain g g' ma mb mc) :=
  PE.wk (pe_chain ho ho' ha hb hc hm) fun σ H Q q => tO_chain k k' σ H Q q
theorem qt_chain {op op' : CmpOp} {r r' : R2} {g g' : F2} (ho : OpR X (compareOp op) r) (ho' : OpR X (compareOp op') r') (k : Ok2 X.K cm g r) (k' : Ok2 X.K cm g' r') (kb : BoolG g') (ha : QE X cm a ma) (hb : QE X cm b mb) (hc : QE X cm c mc)
    (hm : lastMarks [op, op'] [b, c] = false) : QT X cm (.Compare a [op, op'] [b, c] pos) (eChain g g' ma mb mc) := by
  refine PT.wk (pt_chain ho ho' ha hb hc hm) fun σ H Q q => ?_
  obtain ⟨mu, Z, ρ, h, w, h', t, rl, s, e, tt, f⟩ := q
  refine tO_chain k k' σ H _ ⟨mu, Z, ρ, h, w, h', rl, s, e, fun mu1 Z1 H1 v1 x1 r1 w1 => ?_⟩
  have : ∃ d, w = .bl d := by
    obtain ⟨p, e1, e⟩ := Res.bind_eq_ok e
    obtain ⟨p2, e2, e⟩ := Res.bind_eq_ok e
    obtain ⟨p3, e3, e⟩ := Res.bind_eq_ok e
    obtain ⟨u3, h3⟩ := p3
    cases u3 with
    | bl d =>
      cases d with
      | true =>
        have e : ((mc ρ h3).bind fun s => g' p2.1 s.1 s.2) = .ok (w, h') := e
        obtain ⟨p4, e4, e⟩ := Res.bind_eq_ok e
        exact kb _ _ _ _ _ e
      | false =>
        have e : Res.ok (W.bl false, h3) = .ok (w, h') := e
        cases e
        exact ⟨_, rfl⟩
    | _ => cases e
  obtain ⟨d, rfl⟩ := this
  cases tt
  exact ⟨_, w1, f _ _ _ x1 r1⟩
end

section
variable {X : Cx} {cm : Cm} {e : Expr} {m : DE} {st : Stmt} {rest : List Stmt} {ms mr : DS} {pos : Pos}
theorem Fl.post.ext {K : PySem.W.Frag} {mu mu' : List Addr} {Z H Z' H' : Hp} {D : Ends} {f : Fl} {ρ' : Env} {h' : Hh} (x : Ext mu Z H mu' Z' H') (p : f.post K cm mu Z H D ρ' h') : f.post K cm mu' Z' H' D ρ' h' :=
  fun m z hh e r => p m z hh (x.trans e) r
theorem qs_nil : QSs X cm [] sNil := by
  refine PSs.wk pss_nil fun D σ H q => ?_
  obtain ⟨mu, Z, ρ, h, f, ρ', h', rl, s, e, p⟩ := q
  cases e
  exact p mu Z H Ext.refl rl σ s
theorem qs_cons (h1 : QS X cm st ms) (h2 : QSs X cm rest mr) : QSs X cm (st :: rest) (sCons ms mr) := by
  refine PSs.wk (pss_cons h1 h2) fun D σ H q => ?_
  obtain ⟨mu, Z, ρ, h, f, ρ', h', rl, s, e, p⟩ := q
  obtain ⟨q, e1, e⟩ := Res.bind_eq_ok e
  obtain ⟨f1, ρ1, h1⟩ := q
  refine ⟨mu, Z, ρ, h, f1, ρ1, h1, rl, s, e1, fun mu1 Z1 H1 x1 r1 => ?_⟩
  cases f1 with
  | nx => exact fun σ1 s1 => ⟨mu1, Z1, ρ1, h1, f, ρ', h', r1, s1, e, p.ext x1⟩
  | rt w =>
    cases e
    exact p _ _ _ x1 r1
  | bk =>
    cases e
    exact p _ _ _ x1 r1
  | ct =>
    cases e
    exact p _ _ _ x1 r1
theorem qs_one (h1 : QS X cm st ms) : QSs X cm [st] ms := pss_one h1
theorem qs_pass : QS X cm (.Pass pos) sPass := by
  refine PS.wk ps_pass fun D σ H q => ?_
  obtain ⟨mu, Z, ρ, h, f, ρ', h', rl, s, e, p⟩ := q
  cases e
  exact p mu Z H Ext.refl rl σ s
theorem qs_brk : QS X cm (.Break pos) sBrk := by
  refine PS.wk ps_break fun D σ H q => ?_
  obtain ⟨mu, Z, ρ, h, f, ρ', h', rl, s, e, p⟩ := q
  cases e
  exact p mu Z H Ext.refl rl σ s
theorem qs_cnt : QS X cm (.Continue pos) sCnt := by
  refine PS.wk ps_continue fun D σ H q => ?_
  obtain ⟨mu, Z, ρ, h, f, ρ', h', rl, s, e, p⟩ := q
  cases e
  exact p mu Z H Ext.refl rl σ s
theorem qs_nev : QS X cm st sNev := by
  refine PS.wk ps_never fun D σ H q => ?_
  obtain ⟨mu, Z, ρ, h, f, ρ', h', rl, s, e, p⟩ := q
  cases e
theorem qs_expr (he : QE X cm e m) (hs : swapsWith e none pos.line X.env = pure false) : QS X cm (.Expr e pos) (sE m) := by
  refine PS.wk (ps_expr he hs) fun D σ H q => ?_
  obtain ⟨mu, Z, ρ, h, f, ρ', h', rl, s, e, p⟩ := q
  obtain ⟨q, e1, e⟩ := Res.bind_eq_ok e
  cases e
  exact ⟨mu, Z, ρ, h, q.1, q.2, rl, s, e1, fun mu1 Z1 H1 v1 x1 r1 w1 => p _ _ _ x1 r1 σ (s.ext x1)⟩
theorem qs_ret (he : QE X cm e m) : QS X cm (.Return (some e) pos) (sRet m) := by
  refine PS.wk (ps_ret he) fun D σ H q => ?_
  obtain ⟨mu, Z, ρ, h, f, ρ', h', rl, s, e, p⟩ := q
  obtain ⟨q, e1, e⟩ := Res.bind_eq_ok e
  cases e
  exact ⟨mu, Z, ρ, h, q.1, q.2, rl, s, e1, fun mu1 Z1 H1 v1 x1 r1 w1 => p _ _ _ x1 r1 v1 w1⟩
theorem qs_retN : QS X cm (.Return none pos) sRetN := by
  refine PS.wk ps_retN fun D σ H q => ?_
  obtain ⟨mu, Z, ρ, h, f, ρ', h', rl, s, e, p⟩ := q
  cases e
  exact p mu Z H Ext.refl rl .non rfl
theorem qs_if {c : Expr} {mc : DE} {a b : List Stmt} {ma mb : DS} (hc : QT X cm c mc) (ha : QSs X cm a ma) (hb : QSs X cm b mb) : QS X cm (.If c a b pos) (sIf mc ma mb) := by
  refine PS.wk (ps_if hc ha hb) fun D σ H q => ?_
  obtain ⟨mu, Z, ρ, h, f, ρ', h', rl, s, e, p⟩ := q
  obtain ⟨q, e1, e⟩ := Res.bind_eq_ok e
  obtain ⟨k, e2, e⟩ := Res.bind_eq_ok e
  refine ⟨mu, Z, ρ, h, q.1, q.2, k, rl, s, e1, ofO_eq_ok e2, fun mu1 Z1 H1 x1 r1 => ?_⟩
  cases k with
  | true => exact ⟨mu1, Z1, ρ, q.2, f, ρ', h', r1, s.ext x1, e, p.ext x1⟩
  | false => exact ⟨mu1, Z1, ρ, q.2, f, ρ', h', r1, s.ext x1, e, p.ext x1⟩
theorem wipe_set {σ : L2.St} {i : Nat} {y : Option V} : ∀ {vs : List Nat}, i ∈ vs → wipe (σ.set i y) vs = wipe σ vs := by
  have comm : ∀ (vs : List Nat) (σ : L2.St) (i : Nat) (y : Option V), i ∉ vs → wipe (σ.set i y) vs = (wipe σ vs).set i y := by
    intro vs
    induction vs with
    | nil => intros; rfl
    | cons v vs ih =>
      intro σ i y hn
      rw [List.mem_cons, not_or] at hn
      show (wipe (σ.set i y) vs).set v none = ((wipe σ vs).set v none).set i y
      rw [ih σ i y hn.2, List.set_comm _ _ hn.1]
  intro vs
  induction vs with
  | nil => intro h; cases h
  | cons v vs ih =>
    intro h
    show (wipe (σ.set i y) vs).set v none = (wipe σ vs).set v none
    by_cases hi : i ∈ vs
    · rw [ih hi]
    · rcases List.mem_cons.mp h with e | e
      · subst e
        rw [comm vs σ i y hi, List.set_set]
      · exact absurd e hi
theorem qg_name {i : Nat} {x : Str} (hN : X.N.Nodup) (hi : X.N[i]? = some x) (hx : Loc X.env.scope x) (hf : X.fn x = true ∨ X.env.scope.names.lookup x = some .local) : QG X cm [i] (.Name x pos) (tN i) := by
  refine PG.wk (pg_name hN hi hx hf) fun v σ H Q q => ?_
  obtain ⟨mu, Z, ρ, h, w, ρ', h', rl, s, rw_, e, f⟩ := q
  cases e
  refine f mu Z H _ Ext.refl rl (s.set i rw_) fun vs hv => ?_
  exact wipe_set (hv i List.mem_cons_self)
theorem qgs_nil : QGs X cm [] [] [] := by
  refine PGs.wk pgs_nil fun vs σ H Q q => ?_
  obtain ⟨mu, Z, ρ, h, ws, ρ', h', rl, s, rw_, e, f⟩ := q
  cases ws with
  | nil =>
    cases e
    exact ⟨rw_, f mu Z H _ Ext.refl rl s fun _ _ => rfl⟩
  | cons _ _ => cases e
theorem qgs_cons {e : Expr} {es : List Expr} {t : DT} {ts : List DT} {o1 o2 : List Nat} (h1 : QG X cm o1 e t) (h2 : QGs X cm o2 es ts) (hs : (assignEach (e :: es) X.env).map (·.2) = assign e X.env :: (assignEach es X.env).map (·.2)) : QGs X cm (o1 ++ o2) (e :: es) (t :: ts) := by
  refine PGs.wk (pgs_cons h1 h2 hs) fun vs σ H Q q => ?_
  obtain ⟨mu, Z, ρ, h, ws, ρ', h', rl, s, rw_, e, f⟩ := q
  cases ws with
  | nil => cases e
  | cons w ws =>
    obtain ⟨v, r, rfl, w1, w2⟩ := rw_
    obtain ⟨p, e1, e⟩ := Res.bind_eq_ok e
    refine ⟨v, r, rfl, mu, Z, ρ, h, w, p.1, p.2, rl, s, w1, e1, fun mu1 Z1 H1 σ1 x1 r1 s1 b1 => ?_⟩
    exact ⟨mu1, Z1, p.1, p.2, ws, ρ', h', r1, s1, w2.mono x1.z x1.m, e, fun m z hh σ2 x2 r2 s2 b2 => f m z hh σ2 (x1.trans x2) r2 s2 fun vs hv =>
      (b2 vs fun i hi => hv i (List.mem_append_right _ hi)).trans (b1 vs fun i hi => hv i (List.mem_append_left _ hi))⟩
theorem tL_len : ∀ {ts : List DT} {ws : List W} {ρ : Env} {h : Hh} {p : Env × Hh}, tL ts ws ρ h = .ok p → ts.length = ws.length
  | [], [], _, _, _, _ => rfl
  | [], _ :: _, _, _, _, e => by cases e
  | _ :: _, [], _, _, _, e => by cases e
  | t :: ts, w :: ws, ρ, h, p, e => by
    obtain ⟨q, e1, e⟩ := Res.bind_eq_ok e
    rw [List.length_cons, List.length_cons, tL_len e]
theorem qg_tup {es : List Expr} {k : Nat} {ts : List DT} {own : List Nat} (hc : X.calm = true) (h : QGs X cm own es ts) (hn : (assignEach es X.env).length = ts.length) (hst : (assignEach es X.env).findIdx? (·.1) = none) : QG X cm own (.Tuple es k pos) (tT ts) := by
  refine PG.wk (pg_tup hc h hn hst) fun v σ H Q q => ?_
  obtain ⟨mu, Z, ρ, h, w, ρ', h', rl, s, rw_, e, f⟩ := q
  cases w with
  | tup ws =>
    have e : tL ts ws ρ h = .ok (ρ', h') := e
    obtain ⟨a, vs, rfl, z, rs⟩ := rw_
    refine ⟨a, vs, rfl, SqT.of (rl.tupZ z), ?_, mu, Z, ρ, h, ws, ρ', h', rl, s, rs, e, f⟩
    rw [rs.length, tL_len e]
  | _ => cases e
theorem qs_asg {tg : Expr} {t : DT} {own : List Nat} (he : QE X cm e m) (hg : QG X cm own tg t) (hs : swapsWithSole [tg] e pos.line X.env = pure false) (hw : swappedStores [tg] e X.env = pure none)
    (h1 : (assignEach [tg] X.env).map (·.2) = [assign tg X.env]) : QS X cm (.Assign [tg] e pos) (sAsg t m) := by
  refine PS.wk (ps_asg he hg hs hw h1) fun D σ H q => ?_
  obtain ⟨mu, Z, ρ, h, f, ρ', h', rl, s, e, p⟩ := q
  obtain ⟨q, e1, e⟩ := Res.bind_eq_ok e
  obtain ⟨q2, e2, e⟩ := Res.bind_eq_ok e
  cases e
  refine ⟨mu, Z, ρ, h, q.1, q.2, rl, s, e1, fun mu1 Z1 H1 v1 x1 r1 w1 => ?_⟩
  exact ⟨mu1, Z1, ρ, q.2, q.1, ρ', h', r1, s.ext x1, w1, e2, fun mu2 Z2 H2 σ2 x2 r2 s2 _ => p _ _ _ (x1.trans x2) r2 σ2 s2⟩
theorem qs_set {i : Nat} {x : Str} {pos' : Pos} (hN : X.N.Nodup) (hi : X.N[i]? = some x) (hx : Loc X.env.scope x) (he : QE X cm e m) (hs : swapsWith e (some (.Name x pos')) pos.line X.env = pure false) (hf : X.fn x = true ∨ X.env.scope.names.lookup x = some .local) :
    QS X cm (.Assign [.Name x pos'] e pos) (sAsg (tN i) m) := by
  refine PS.wk (ps_set hN hi hx he hs hf) fun D σ H q => ?_
  obtain ⟨mu, Z, ρ, h, f, ρ', h', rl, s, e, p⟩ := q
  obtain ⟨q, e1, e⟩ := Res.bind_eq_ok e
  obtain ⟨q2, e2, e⟩ := Res.bind_eq_ok e
  cases e
  cases e2
  exact ⟨mu, Z, ρ, h, q.1, q.2, rl, s, e1, fun mu1 Z1 H1 v1 x1 r1 w1 => p _ _ _ x1 r1 _ ((s.ext x1).set i w1)⟩
theorem qs_while {c : Expr} {mc : DE} {body : List Stmt} {mb : DS} (hp : PassesOwn (model X.prog X.w) X.A X.env X.xe) (hc : QT X cm c mc) (hb : QSs X cm body mb) : QS X cm (.While c body [] pos) (sWhile mc mb) := by
  refine PS.wk (ps_while hp hc hb) fun D σ H q => ?_
  obtain ⟨mu, Z, ρ, h, f, ρ', h', rl, s, e, p⟩ := q
  refine ⟨fun n σ H => ∃ mu Z ρ h, RelH X.K cm mu Z H h ∧ Sl X.K cm mu Z ρ σ ∧ whileG mc mb n ρ h = .ok (f, ρ', h') ∧ f.post X.K cm mu Z H D ρ' h', ⟨bigFuel, mu, Z, ρ, h, rl, s, e, p⟩, ?_⟩
  clear rl s e p
  rintro n σ H ⟨mu, Z, ρ, h, rl, s, e, p⟩
  cases n with
  | zero => cases e
  | succ n =>
    obtain ⟨q, e1, e⟩ := Res.bind_eq_ok e
    obtain ⟨k, e2, e⟩ := Res.bind_eq_ok e
    refine ⟨mu, Z, ρ, h, q.1, q.2, k, rl, s, e1, ofO_eq_ok e2, fun mu1 Z1 H1 x1 r1 => ?_⟩
    cases k with
    | false =>
      cases e
      exact p _ _ _ x1 r1 σ (s.ext x1)
    | true =>
      rw [if_pos rfl] at e ⊢
      obtain ⟨q2, e3, e⟩ := Res.bind_eq_ok e
      obtain ⟨f2, ρ2, h2⟩ := q2
      refine ⟨fun σ' H' => ∃ m, m < n + 1 ∧ ∃ mu Z ρ h, RelH X.K cm mu Z H' h ∧ Sl X.K cm mu Z ρ σ' ∧ whileG mc mb m ρ h = .ok (f, ρ', h') ∧ f.post X.K cm mu Z H' D ρ' h', fun σ' H' z => z, ?_⟩
      refine ⟨mu1, Z1, ρ, q.2, f2, ρ2, h2, r1, s.ext x1, e3, fun mu2 Z2 H2 x2 r2 => ?_⟩
      have x12 := x1.trans x2
      cases f2 with
      | nx => exact fun σ' s' => ⟨n, Nat.lt_succ_self n, mu2, Z2, ρ2, h2, r2, s', e, p.ext x12⟩
      | ct => exact fun σ' s' => ⟨n, Nat.lt_succ_self n, mu2, Z2, ρ2, h2, r2, s', e, p.ext x12⟩
      | bk =>
        cases e
        exact fun σ' s' => p _ _ _ x12 r2 σ' s'
      | rt w =>
        cases e
        exact fun v wv => p _ _ _ x12 r2 v wv
end
end Ti


namespace Ti
open PySem PySem.Spec PyProof.Rows L2
section
variable {K : PySem.W.Frag} {cm : Cm} {mu mu1 : List Addr} {Z H Z1 H1 : Hp} {h h1 h' : Hh} {w w1 : W} {v : V} {Q : VK}
def frzZ (n : Nat) (mu : List Addr) (Z H : Hp) : Hp := fun a => if a ∈ mu.drop n then (match Z a with | none => noTbl H a | some u => some u) else Z a
theorem frzZ_le (n : Nat) (mu : List Addr) (Z H : Hp) : Le Z (frzZ n mu Z H) := fun a u e => by
  unfold frzZ
  split
  · rw [e]
  · exact e
theorem frzZ_new {n : Nat} {a : Addr} {u : HO} (hm : a ∈ mu.drop n) (hz : Z a = none) (hh : H a = some u) (nt : Tame u := by exact ⟨fun _ z => (by cases z), fun _ z => (by cases z)⟩) : frzZ n mu Z H a = some u := by
  unfold frzZ
  rw [if_pos hm, hz]
  exact noTbl_at hh nt
theorem frzZ_nt {n : Nat} (t : ∀ a, NT Z a) (a : Addr) : NT (frzZ n mu Z H) a := fun u e => by
  unfold frzZ at e
  split at e
  · split at e
    · exact noTbl_nt H a u e
    · rename_i u' q
      cases e
      exact t a u q
  · exact t a u e
theorem mem_drop {n i : Nat} {a : Addr} (e : mu[i]? = some a) (hi : n ≤ i) : a ∈ mu.drop n := by
  apply List.mem_of_getElem? (i := i - n)
  rw [List.getElem?_drop, show n + (i - n) = i by omega]
  exact e
theorem cell_tree {n i : Nat} {a : Addr} {c : Cell} {m : List Addr} (hm : a ∈ mu.drop n) (q : CellR K cm Z H a c) : RW K cm m (frzZ n mu Z H) c.tree (.ref a) := by
  have le := frzZ_le n mu Z H
  have m0 : ∀ (i : Nat) (a : Addr), m[i]? = some a → m[i]? = some a := fun _ _ e => e
  cases c with
  | lst ws =>
    obtain ⟨z, n, vs, e, r⟩ := q
    exact ⟨a, vs, rfl, frzZ_new hm z e, (RWs.any n r).mono le m0⟩
  | dic kd kvs =>
    obtain ⟨z, n, q⟩ := q
    refine ⟨a, rfl, ?_⟩
    cases kd with
    | true =>
      obtain ⟨ks, vs, h1, h2, h3, h4⟩ := (show ∃ ks vs, KeysT (kvs.map (·.1)) ks ∧ H a = some (.dT (ks.zip vs)) ∧ ks.length = vs.length ∧ RWk K cm [] Z kvs vs from q)
      exact ⟨ks, vs, h1, frzZ_new hm z h2, h3, (RWk.any n h4).mono le m0⟩
    | false =>
      obtain ⟨ks, vs, h1, h2, h3, h4⟩ := (show ∃ ks vs, KeysK (kvs.map (·.1)) ks ∧ H a = some (.dK (ks.zip vs)) ∧ ks.length = vs.length ∧ RWk K cm [] Z kvs vs from q)
      exact ⟨ks, vs, h1, frzZ_new hm z h2, h3, (RWk.any n h4).mono le m0⟩
  | obj c fs =>
    obtain ⟨z, n, dx, fvs, e, r⟩ := q
    exact ⟨a, dx, fvs, rfl, frzZ_new hm z e, (RWf.any n r).mono le m0⟩
  | frz w => exact (RW.any q.1 q.2).mono le m0
variable {n : Nat}
mutual
theorem thaw_ok (rl : RelH K cm mu1 Z H h) (hn : ∀ i a, i < n → mu1[i]? = some a → mu[i]? = some a) : ∀ {w t : W} {v : V}, thaw n h w = some t → RW K cm mu1 Z w v → RW K cm mu (frzZ n mu1 Z H) t v
  | .non, _, _, e, q => by cases e; exact q
  | .bl _, _, _, e, q => by cases e; exact q
  | .int _, _, _, e, q => by cases e; exact q
  | .str _, _, _, e, q => by cases e; exact q
  | .scr _, _, _, e, q => by
    cases e
    obtain ⟨a, e1, q⟩ := q
    exact ⟨a, e1, SqL.le (frzZ_le n mu1 Z H) q⟩
  | .tup ws, _, _, e, q => by
    unfold thaw at e
    cases e1 : thaws n h ws with
    | none => rw [e1] at e; cases e
    | some ts =>
      rw [e1] at e
      cases e
      obtain ⟨a, vs, e2, z, r⟩ := q
      exact ⟨a, vs, e2, frzZ_le n mu1 Z H _ _ z, thaws_ok rl hn e1 r⟩
  | .lst ws, _, _, e, q => by
    unfold thaw at e
    cases e1 : thaws n h ws with
    | none => rw [e1] at e; cases e
    | some ts =>
      rw [e1] at e
      cases e
      obtain ⟨a, vs, e2, z, r⟩ := q
      exact ⟨a, vs, e2, frzZ_le n mu1 Z H _ _ z, thaws_ok rl hn e1 r⟩
  | .dic kd kvs, _, _, e, q => by
    unfold thaw at e
    split at e
    · rename_i nn
      cases e
      exact (RW.any (w := .dic kd kvs) nn q).mono (frzZ_le n mu1 Z H) fun _ _ e => e
    · cases e
  | .obj c fs, _, _, e, q => by
    unfold thaw at e
    split at e
    · rename_i nn
      cases e
      exact (RW.any (w := .obj c fs) nn q).mono (frzZ_le n mu1 Z H) fun _ _ e => e
    · cases e
  | .err c fs, _, _, e, q => by
    unfold thaw at e
    split at e
    · rename_i nn
      cases e
      exact (RW.any (w := .err c fs) nn q).mono (frzZ_le n mu1 Z H) fun _ _ e => e
    · cases e
  | .ref i, _, _, e, q => by
    unfold thaw at e
    obtain ⟨a, e1, m⟩ := q
    split at e
    · rename_i hi
      cases e
      exact ⟨a, e1, hn i a hi m⟩
    · rename_i hi
      cases e2 : h[i]? with
      | none => rw [e2] at e; cases e
      | some c =>
        rw [e2] at e
        cases e
        subst e1
        exact cell_tree (i := i) (mem_drop m (by omega)) (rl.at_ m e2)
theorem thaws_ok (rl : RelH K cm mu1 Z H h) (hn : ∀ i a, i < n → mu1[i]? = some a → mu[i]? = some a) : ∀ {ws ts : List W} {vs : List V}, thaws n h ws = some ts → RWs K cm mu1 Z ws vs → RWs K cm mu (frzZ n mu1 Z H) ts vs
  | [], _, _, e, q => by cases e; exact q
  | w :: ws, _, _, e, q => by
    unfold thaws at e
    split at e
    · rename_i a b e1 e2
      cases e
      obtain ⟨v, r, e3, h1, h2⟩ := q
      exact ⟨v, r, e3, thaw_ok rl hn e1 h1, thaws_ok rl hn e2 h2⟩
    · cases e
end
theorem take_mu (rl : RelH K cm mu Z H h) (x : Ext mu Z H mu1 Z1 H1) : mu1.take mu.length = mu := by
  apply List.ext_getElem?
  intro i
  rw [List.getElem?_take]
  by_cases hi : i < mu.length
  · rw [if_pos hi, List.getElem?_eq_getElem hi]
    exact x.m i mu[i] (List.getElem?_eq_getElem hi)
  · rw [if_neg hi, List.getElem?_eq_none (by omega)]
theorem fin_ok {m : Mode} (rl : RelH K cm mu Z H h) (x : Ext mu Z H mu1 Z1 H1) (r1 : RelH K cm mu1 Z1 H1 h1) (q : RW K cm mu1 Z1 w1 v) (e : fin m h.length w1 h1 = .ok (w, h')) (f : Fin K cm mu Z H w h' Q) : Q v H1 := by
  have tk := take_mu rl x
  have low : ∀ i a, i < h.length → mu1[i]? = some a → mu[i]? = some a := fun i a hi e => by
    rw [← tk, List.getElem?_take, if_pos (by rw [rl.len]; exact hi)]
    exact e
  have nin : ∀ a, a ∈ mu → a ∉ mu1.drop h.length := fun a ha hb => by
    have nd := r1.nd
    rw [← List.take_append_drop mu.length mu1, tk, rl.len, List.nodup_append] at nd
    exact nd.2.2 a ha a hb rfl
  have inm : ∀ a, a ∈ mu → a ∈ mu1 := fun a ha => by
    obtain ⟨i, hi⟩ := List.mem_iff_getElem?.mp ha
    exact List.mem_of_getElem? (x.m i a hi)
  cases m with
  | deep =>
    obtain ⟨t, e1, e⟩ := Res.bind_eq_ok e
    cases e
    have e1 := ofO_eq_ok e1
    refine f mu (frzZ h.length mu1 Z1 H1) H1 v ⟨fun _ _ e => e, x.z.trans (frzZ_le _ _ _ _), x.fr, x.th, fun a ha => .inl ha, fun a ha => ?_, x.fz⟩ ⟨?_, rl.nd, fun a u z => ?_, fun a ha => ?_, fun i a c hm hc => ?_, ⟨r1.tb.t, fun q hq => ?_, frzZ_nt r1.tb.nt, fun a ha => r1.tb.nm a (inm a ha)⟩⟩ (thaw_ok r1 low e1 q)
    · unfold frzZ at ha
      split at ha
      · rename_i hm
        rcases x.nm a (List.mem_of_mem_drop hm) with k | k
        · exact .inr (.inl k)
        · exact .inr (.inr k)
      · exact x.nz a ha
    · rw [List.length_take, ← r1.len, rl.len]
      have : mu.length ≤ mu1.length := by
        have := congrArg List.length tk
        rw [List.length_take] at this
        omega
      rw [rl.len] at this
      omega
    · unfold frzZ at z
      split at z
      · rename_i hm
        cases k : Z1 a with
        | none =>
          rw [k] at z
          have z := noTbl_of z
          cases u with
          | dK kvs => exact .inl z
          | dT kvs => exact .inl z
          | _ => exact z
        | some u' =>
          rw [k] at z
          cases z
          exact r1.zh a _ k
      · exact r1.zh a u z
    · obtain ⟨i, hi⟩ := List.mem_iff_getElem?.mp ha
      exact r1.mh a (List.mem_of_getElem? (x.m i a hi))
    · have hi : i < h.length := by
        have := (List.getElem?_eq_some_iff.mp hm).1
        rwa [rl.len] at this
      rw [List.getElem?_take, if_pos hi] at hc
      refine (r1.at_ (x.m i a hm) hc).mono (frzZ_le _ _ _ _) (fun z => ?_) fun u _ q => q
      unfold frzZ
      rw [if_neg (nin a (List.mem_of_getElem? hm))]
      exact z
    · unfold frzZ
      split
      · obtain ⟨ps, e, _⟩ := r1.tb.t q hq
        rw [r1.tb.z q hq]
        show noTbl H1 q.1 = none
        unfold noTbl
        rw [e]
      · exact r1.tb.z q hq
  | top =>
    cases w1 with
    | ref i =>
      have e : (if i < h.length then Res.bad else (ofO h1[i]?).bind fun c => .ok (W.ref h.length, h1.take h.length ++ [c])) = .ok (w, h') := e
      split at e
      · cases e
      · rename_i hi
        obtain ⟨c, e1, e⟩ := Res.bind_eq_ok e
        cases e
        have e1 := ofO_eq_ok e1
        obtain ⟨a, ev, m⟩ := q
        have ham : a ∈ mu1.drop h.length := mem_drop m (by omega)
        have lenh : (h1.take h.length).length = h.length := by
          rw [List.length_take, ← r1.len]
          have := congrArg List.length tk
          rw [List.length_take, rl.len] at this
          omega
        refine f (mu ++ [a]) Z1 H1 v ⟨fun i b e => ?_, x.z, x.fr, x.th, fun b hb => ?_, x.nz, x.fz⟩ ⟨?_, ?_, r1.zh, fun b hb => ?_, fun j b d hm hd => ?_, (⟨r1.tb.t, r1.tb.z, r1.tb.nt, fun b hb => (List.mem_append.mp hb).elim (fun h => r1.tb.nm b (inm b h)) fun h => (List.mem_singleton.mp h) ▸ r1.tb.nm a (List.mem_of_mem_drop ham)⟩ : TabR _ _ _ _)⟩ ⟨a, ev, ?_⟩
        · rw [List.getElem?_append_left (List.getElem?_eq_some_iff.mp e).1]
          exact e
        · rcases List.mem_append.mp hb with hb | hb
          · exact .inl hb
          · rw [List.mem_singleton] at hb
            subst hb
            exact x.nm _ (List.mem_of_mem_drop ham)
        · rw [List.length_append, List.length_append, lenh, rl.len]; rfl
        · rw [List.nodup_append]
          exact ⟨rl.nd, by simp, fun b hb d hd z => by
            rw [List.mem_singleton] at hd
            subst hd z
            exact nin _ hb ham⟩
        · rcases List.mem_append.mp hb with hb | hb
          · obtain ⟨i, hi⟩ := List.mem_iff_getElem?.mp hb
            exact r1.mh b (List.mem_of_getElem? (x.m i b hi))
          · rw [List.mem_singleton] at hb
            subst hb
            exact r1.mh _ (List.mem_of_mem_drop ham)
        · by_cases hj : j < h.length
          · rw [List.getElem?_append_left (by rw [rl.len]; exact hj)] at hm
            rw [List.getElem?_append_left (by rw [lenh]; exact hj), List.getElem?_take, if_pos hj] at hd
            exact r1.at_ (x.m j b hm) hd
          · have hj' : h.length ≤ j := Nat.le_of_not_lt hj
            rw [List.getElem?_append_right (by rw [rl.len]; exact hj'), rl.len] at hm
            rw [List.getElem?_append_right (by rw [lenh]; exact hj'), lenh] at hd
            cases k : j - h.length with
            | zero =>
              rw [k] at hm hd
              cases hm; cases hd
              exact r1.at_ m e1
            | succ k' => rw [k] at hm; cases hm
        · rw [List.getElem?_append_right (by rw [rl.len]; exact Nat.le_refl _), rl.len, Nat.sub_self]; rfl
    | _ => cases e
  | raw =>
    cases e
    exact f mu1 Z1 H1 v x r1 q
end
section
variable {X : Cx} {cm : Cm}
theorem q_tree {e : Expr} {m : DE} (he : QE X cm e m) : QE X cm e (eTree m) := by
  refine PE.wk he fun σ H Q q => ?_
  obtain ⟨mu, Z, ρ, h, w, h', rl, s, e, f⟩ := q
  obtain ⟨p, e1, e⟩ := Res.bind_eq_ok e
  exact ⟨mu, Z, ρ, h, p.1, p.2, rl, s, e1, fun mu1 Z1 H1 v x1 r1 w1 => fin_ok rl x1 r1 w1 e f⟩

theorem mkL_ok {K : PySem.W.Frag} {c : Bool} {mu : List Addr} {Z H : Hp} {h h' : Hh} {ws : List W} {vs : List V} {w : W} {Q : VK} (r : RelH K cm mu Z H h) (q : RWs K cm mu Z ws vs) (e : mkL c ws h = .ok (w, h')) (f : Fin K cm mu Z H w h' Q) : vs.length ≤ sizeLine ∧ ∀ p, H p = none → Q (.ref p) (L2.upd H p (.lst vs)) := by
  unfold mkL at e
  split at e
  · rename_i hl
    refine ⟨by rw [q.length]; exact hl, fun p hp => ?_⟩
    cases c with
    | true =>
      have e : (if nors ws = true then Res.ok (W.ref h.length, h ++ [Cell.lst ws]) else .bad) = .ok (w, h') := e
      split at e
      · rename_i nn
        cases e
        obtain ⟨r', x⟩ := r.newC (c := .lst ws) (o := .lst vs) hp ⟨r.zfree hp, nn, vs, upd_same, RWs.any nn q⟩
        refine f _ _ _ _ x r' ⟨p, rfl, ?_⟩
        rw [List.getElem?_append_right (by rw [r.len]; exact Nat.le_refl _), r.len, Nat.sub_self]
        rfl
      · cases e
    | false =>
      cases e
      obtain ⟨r', x⟩ := r.newZ (o := .lst vs) hp upd_same
      exact f _ _ _ _ x r' ⟨p, vs, rfl, upd_same, q.mono x.z x.m⟩
  · cases e
theorem q_lst {c : Bool} {es : List Expr} {ms : List DE} {pos : Pos} (h : QL X cm es ms) : QE X cm (.List es pos) (eLst c ms) := by
  refine PE.wk (pe_lst h) fun σ H Q q => ?_
  obtain ⟨mu, Z, ρ, h, w, h', rl, s, e, f⟩ := q
  obtain ⟨p, e1, e⟩ := Res.bind_eq_ok e
  exact ⟨mu, Z, ρ, h, p.1, p.2, rl, s, e1, fun mu1 Z1 H1 vs x1 r1 w1 => mkL_ok r1 w1 e (f.ext x1)⟩
theorem q_tup {es : List Expr} {ms : List DE} {k : Nat} {pos : Pos} (h : QL X cm es ms) : QE X cm (.Tuple es k pos) (eTup ms) := by
  refine PE.wk (pe_tup h) fun σ H Q q => ?_
  obtain ⟨mu, Z, ρ, h, w, h', rl, s, e, f⟩ := q
  obtain ⟨p, e1, e⟩ := Res.bind_eq_ok e
  split at e
  · rename_i hl
    cases e
    refine ⟨mu, Z, ρ, h, p.1, p.2, rl, s, e1, fun mu1 Z1 H1 vs x1 r1 w1 => ⟨by rw [w1.length]; exact hl, fun a ha => ?_⟩⟩
    obtain ⟨r', x⟩ := r1.newZ (o := .tup vs) ha upd_same
    exact f _ _ _ _ (x1.trans x) r' ⟨a, vs, rfl, upd_same, w1.mono x.z x.m⟩
  · cases e

def tOI (K : PySem.W.Frag) (cm : Cm) (fi : FI) (ms : List DE) : TI := fun σ H R => ∃ mu Z ρ h p s, RelH K cm mu Z H h ∧ Sl K cm mu Z ρ σ ∧ eL ms ρ h = .ok p ∧ fi p.1 p.2 = some s ∧
  ∀ mu' Z' H' J, Ext mu Z H mu' Z' H' → RelH K cm mu' Z' H' p.2 →
    (∃ G Y, Walk J s.items.length G Y ∧ (∀ mu2 Z2 H2 h2, Exw mu' Z' H' mu2 Z2 H2 → RelH K cm mu2 Z2 H2 h2 → s.keep h2 = true → G H2) ∧
      ∀ i mu2 Z2 H2 h2 x H3, Exw mu' Z' H' mu2 Z2 H2 → RelH K cm mu2 Z2 H2 h2 → s.keep h2 = true → Y i H2 x H3 → ∃ w Z3, s.items[i]? = some w ∧ Ext mu2 Z2 H2 mu2 Z3 H3 ∧ RelH K cm mu2 Z3 H3 h2 ∧ RW K cm mu2 Z3 w x) → R J H'
abbrev QI (X : Cx) (cm : Cm) (tg it : Expr) (fi : FI) (ms : List DE) : Prop := PI X tg it (tOI X.K cm fi ms)
theorem PI.wk {tg it : Expr} {t t' : TI} (h : PI X tg it t) (i : ∀ σ H R, t' σ H R → t σ H R) : PI X tg it t' := ⟨fun pins s σ H R I q => h.run pins s σ H R I (i σ H R q)⟩
theorem qs_for {tg it : Expr} {tgm : DT} {own : List Nat} {fi : FI} {src : List DE} {body : List Stmt} {mb : DS} {pos : Pos} (hp : PassesOwn (model X.prog X.w) X.A X.env X.xe) (hc : X.calm = true) (hi : QI X cm tg it fi src) (hg : QG X cm own tg tgm) (hb : QSs X cm body mb)
    (hs : ∀ x, foldedSetIterable it X.env x = pure x) : QS X cm (.For tg it body [] pos) (sFor tgm fi src mb) := by
  refine PS.wk (ps_for hp hc hi hg hb hs) fun D σ H q => ?_
  obtain ⟨mu, Z, ρ, h, f, ρ', h', rl, s, e, p⟩ := q
  obtain ⟨q, e1, e⟩ := Res.bind_eq_ok e
  obtain ⟨sr, e2, e⟩ := Res.bind_eq_ok e
  refine ⟨mu, Z, ρ, h, q, sr, rl, s, e1, ofO_eq_ok e2, fun mu1 Z1 H1 J x1 r1 hW => ?_⟩
  obtain ⟨G, Y, wk, hG, hY⟩ := hW
  -- the word: from turn i on the rest of the items is gone through
  refine ⟨fun i n σ H => n = sr.items.length - i ∧ i ≤ sr.items.length ∧ ∃ mu2 Z2 ρ2 h2, Ext mu1 Z1 H1 mu2 Z2 H ∧ RelH X.K cm mu2 Z2 H h2 ∧ Sl X.K cm mu2 Z2 ρ2 σ ∧ forG sr.keep tgm mb (sr.items.drop i) ρ2 h2 = .ok (f, ρ', h') ∧ f.post X.K cm mu2 Z2 H D ρ' h',
    ⟨sr.items.length, rfl, Nat.zero_le _, mu1, Z1, ρ, q.2, Ext.refl, r1, s.ext x1, e, p.ext x1⟩, ?_⟩
  rintro i n σ2 H2 ⟨rfl, hi, mu2, Z2, ρ2, h2, x2, r2, s2, e, p2⟩
  by_cases hlt : i < sr.items.length
  · rw [List.drop_eq_getElem_cons hlt] at e
    have e : (if sr.keep h2 = true then (tgm sr.items[i] ρ2 h2).bind fun p => (mb p.1 p.2).bind fun q => match q.1 with
      | .nx => forG sr.keep tgm mb (sr.items.drop (i + 1)) q.2.1 q.2.2
      | .ct => forG sr.keep tgm mb (sr.items.drop (i + 1)) q.2.1 q.2.2
      | .bk => .ok (.nx, q.2)
      | .rt w => .ok (.rt w, q.2)
      else .bad) = .ok (f, ρ', h') := e
    split at e
    · rename_i hk
      obtain ⟨q3, e3, e⟩ := Res.bind_eq_ok e
      obtain ⟨q4, e4, e⟩ := Res.bind_eq_ok e
      obtain ⟨f4, ρ4, h4⟩ := q4
      refine .inr ⟨wk.goes i H2 hlt (hG mu2 Z2 H2 h2 x2.w r2 hk), fun σ' H' => i + 1 ≤ sr.items.length ∧ ∃ mu2 Z2 ρ2 h2, Ext mu1 Z1 H1 mu2 Z2 H' ∧ RelH X.K cm mu2 Z2 H' h2 ∧ Sl X.K cm mu2 Z2 ρ2 σ' ∧ forG sr.keep tgm mb (sr.items.drop (i + 1)) ρ2 h2 = .ok (f, ρ', h') ∧ f.post X.K cm mu2 Z2 H' D ρ' h',
        fun σ' H' z => ⟨sr.items.length - (i + 1), by omega, rfl, z.1, z.2⟩, fun x H3 y => ?_⟩
      obtain ⟨w, Z3, e5, x3, r3, w3⟩ := hY i mu2 Z2 H2 h2 x H3 x2.w r2 hk (wk.yields i H2 x H3 hlt (hG mu2 Z2 H2 h2 x2.w r2 hk) y)
      rw [List.getElem?_eq_getElem hlt] at e5
      cases e5
      refine ⟨mu2, Z3, ρ2, h2, sr.items[i], q3.1, q3.2, r3, s2.ext x3, w3, e3, fun mu4 Z4 H4 σ4 x4 r4 s4 _ => ?_⟩
      refine ⟨mu4, Z4, q3.1, q3.2, f4, ρ4, h4, r4, s4, e4, fun mu5 Z5 H5 x5 r5 => ?_⟩
      have x25 := x3.trans (x4.trans x5)
      cases f4 with
      | nx => exact fun σ5 s5 => ⟨hlt, mu5, Z5, ρ4, h4, x2.trans x25, r5, s5, e, p2.ext x25⟩
      | ct => exact fun σ5 s5 => ⟨hlt, mu5, Z5, ρ4, h4, x2.trans x25, r5, s5, e, p2.ext x25⟩
      | bk =>
        cases e
        exact fun σ5 s5 => p2 _ _ _ x25 r5 σ5 s5
      | rt w =>
        cases e
        exact fun v wv => p2 _ _ _ x25 r5 v wv
    · cases e
  · have hi' : i = sr.items.length := by omega
    subst hi'
    rw [List.drop_length] at e
    have e : (if sr.keep h2 = true then Res.ok (Fl.nx, ρ2, h2) else .bad) = .ok (f, ρ', h') := e
    split at e
    · rename_i hk
      cases e
      exact .inl ⟨wk.stops H2 (hG mu2 Z2 H2 _ x2.w r2 hk), p2 _ _ _ Ext.refl r2 σ2 s2⟩
    · cases e
end
end Ti


namespace Ti
open PySem PySem.Spec PyProof.Rows L2
section
variable {K : PySem.W.Frag} {cm : Cm} {mu mu1 mu0 : List Addr} {Z H Z1 H1 Z0 H0 : Hp} {h h1 h' : Hh} {D : Addr} {o : HO}
theorem RelH.side (r : RelH K cm mu Z H h) (hm : D ∉ mu) (hz : Z D = none) (hn : NT H D) : RelH K cm mu Z (L2.upd H D o) h := by
  have nz : ∀ a u, Z a = some u → a ≠ D := fun a u q z => by rw [z, hz] at q; cases q
  refine ⟨r.len, r.nd, fun a u q => (r.zh a u q).upd (nz a u q), fun a ha => ?_, fun i a c hi hc => ?_, r.tb.upd hn fun h => absurd h hm⟩
  · rw [upd_ne (show a ≠ D from fun z => hm (by rw [← z]; exact ha))]
    exact r.mh a ha
  · have ne : a ≠ D := fun z => hm (by rw [← z]; exact List.mem_of_getElem? hi)
    exact (r.at_ hi hc).mono (Le.refl Z) (fun z => z) fun u _ q => by rw [upd_ne ne]; exact q
theorem Ext.side (x : Ext mu Z H mu1 Z1 H1) (hD : H D = none) : Ext mu Z H mu1 Z1 (L2.upd H1 D o) := by
  have ne : ∀ a u, H a = some u → a ≠ D := fun a u q z => by rw [z, hD] at q; cases q
  exact ⟨x.m, x.z, fun a u n z e t => by rw [upd_ne (ne a u e)]; exact x.fr a u n z e t, fun a u n e => by rw [upd_ne (ne a u e)]; exact x.th a u n e, x.nm, x.nz, fun a o' u e => (by rw [upd_ne (ne a _ e)]; exact x.fz a o' u e)⟩
theorem Ext.keepS (x : Ext mu Z H mu1 Z1 H1) (hm : D ∉ mu) (hz : Z D = none) (hD : H D = some o) (ho : ∀ ps, o ≠ .tbl ps := by intro _ z; cases z) : D ∉ mu1 ∧ Z1 D = none ∧ H1 D = some o := by
  refine ⟨fun hd => ?_, ?_, x.fr D o hm hz hD ho⟩
  · rcases x.nm D hd with k | k
    · exact hm k
    · rw [hD] at k; cases k
  · cases q : Z1 D with
    | none => rfl
    | some u =>
      rcases x.nz D (by rw [q]; exact fun z => nomatch z) with k | k | k
      · exact absurd hz k
      · exact absurd k hm
      · rw [hD] at k; cases k
theorem mkL_at {c : Bool} {ws : List W} {vs : List V} {w : W} (r : RelH K cm mu Z H h) (hm : D ∉ mu) (hz : Z D = none) (hD : H D = some (.lst vs)) (q : RWs K cm mu Z ws vs) (e : mkL c ws h = .ok (w, h')) :
    ∃ mu' Z', RelH K cm mu' Z' H h' ∧ RW K cm mu' Z' w (.ref D) ∧ ∀ mu0 Z0 H0, Ext mu0 Z0 H0 mu Z H → H0 D = none → Ext mu0 Z0 H0 mu' Z' H := by
  unfold mkL at e
  split at e
  · rename_i hl
    have mm : ∀ (i : Nat) (a : Addr), mu[i]? = some a → (mu ++ [D])[i]? = some a := fun i a q => by
      rw [List.getElem?_append_left (List.getElem?_eq_some_iff.mp q).1]
      exact q
    cases c with
    | true =>
      have e : (if nors ws = true then Res.ok (W.ref h.length, h ++ [Cell.lst ws]) else .bad) = .ok (w, h') := e
      split at e
      · rename_i nn
        cases e
        refine ⟨mu ++ [D], Z, ⟨?_, ?_, r.zh, fun b hb => ?_, fun j b d hj hd => ?_, r.tb.snoc (.some hD (by exact ⟨fun _ z => (by cases z), fun _ z => (by cases z)⟩))⟩, ⟨D, rfl, ?_⟩, fun mu0 Z0 H0 x n => ⟨fun i a q => mm i a (x.m i a q), x.z, x.fr, x.th, fun a ha => ?_, x.nz, x.fz⟩⟩
        · rw [List.length_append, List.length_append, r.len]; rfl
        · rw [List.nodup_append]
          exact ⟨r.nd, by simp, fun b hb d hd z => by
            rw [List.mem_singleton] at hd
            subst hd z
            exact hm hb⟩
        · rcases List.mem_append.mp hb with hb | hb
          · exact r.mh b hb
          · rw [List.mem_singleton] at hb
            subst hb
            rw [hD]; exact fun z => nomatch z
        · by_cases hj' : j < mu.length
          · rw [List.getElem?_append_left hj'] at hj
            rw [List.getElem?_append_left (by rw [← r.len]; exact hj')] at hd
            exact r.at_ hj hd
          · have hj2 : mu.length ≤ j := Nat.le_of_not_lt hj'
            rw [List.getElem?_append_right hj2] at hj
            rw [List.getElem?_append_right (by rw [← r.len]; exact hj2), ← r.len] at hd
            cases k : j - mu.length with
            | zero =>
              rw [k] at hj hd
              cases hj; cases hd
              exact ⟨hz, nn, vs, hD, RWs.any nn q⟩
            | succ k' => rw [k] at hj; cases hj
        · rw [List.getElem?_append_right (by rw [r.len]; exact Nat.le_refl _), r.len, Nat.sub_self]; rfl
        · rcases List.mem_append.mp ha with ha | ha
          · exact x.nm a ha
          · rw [List.mem_singleton] at ha
            subst ha
            exact .inr n
      · cases e
    | false =>
      cases e
      have le : Le Z (L2.upd Z D (.lst vs)) := fun a u k => by
        rw [upd_ne (show a ≠ D from fun z => by rw [z, hz] at k; cases k)]
        exact k
      refine ⟨mu, L2.upd Z D (.lst vs), ⟨r.len, r.nd, fun a u k => ?_, r.mh, fun i a d hi hd => ?_, r.tb.frz (.some hD (by exact ⟨fun _ z => (by cases z), fun _ z => (by cases z)⟩))⟩, ⟨D, vs, rfl, upd_same, q.mono le fun _ _ e => e⟩, fun mu0 Z0 H0 x n => ⟨x.m, x.z.trans le, x.fr, x.th, x.nm, fun a ha => ?_, x.fz⟩⟩
      · by_cases aD : a = D
        · subst aD
          rw [upd_same] at k; cases k
          exact hD
        · rw [upd_ne aD] at k
          exact r.zh a u k
      · have ne : a ≠ D := fun z => hm (by rw [← z]; exact List.mem_of_getElem? hi)
        exact (r.at_ hi hd).mono le (fun z => by rw [upd_ne ne]; exact z) fun u _ k => k
      · by_cases aD : a = D
        · subst aD; exact .inr (.inr n)
        · rw [upd_ne aD] at ha
          exact x.nz a ha
  · cases e
end
theorem wipeW_sl {K : PySem.W.Frag} {cm : Cm} {mu : List Addr} {Z : Hp} {ρ : Env} {σ : L2.St} (s : Sl K cm mu Z ρ σ) : ∀ vs : List Nat, Sl K cm mu Z (wipeW ρ vs) (wipe σ vs)
  | [] => s
  | v :: vs => by
    have ih := wipeW_sl s vs
    refine ⟨by show ((wipeW ρ vs).set v none).length = ((wipe σ vs).set v none).length; rw [List.length_set, List.length_set]; exact ih.len, fun i w e => ?_⟩
    have e : ((wipeW ρ vs).set v none)[i]? = some (some w) := e
    show ∃ x, ((wipe σ vs).set v none)[i]? = some (some x) ∧ _
    by_cases iv : v = i
    · subst iv
      by_cases hl : v < (wipeW ρ vs).length
      · rw [List.getElem?_set_self hl] at e; cases e
      · rw [List.getElem?_eq_none (by rw [List.length_set]; omega)] at e; cases e
    · rw [List.getElem?_set_ne iv] at e
      rw [List.getElem?_set_ne iv]
      exact ih.at_ i w e
theorem wipe_twice (σ : L2.St) (vs : List Nat) : wipe (wipe σ vs) vs = wipe σ vs := by
  apply List.ext_getElem?
  intro i
  have out : ∀ {τ : L2.St} (hi : i ∉ vs), (wipe τ vs)[i]? = τ[i]? := fun {τ} hi => wipe_out hi
  by_cases hi : i ∈ vs
  · have inn : ∀ {τ : L2.St} {us : List Nat}, i ∈ us → (wipe τ us)[i]? = if i < τ.length then some none else none := by
      intro τ us
      induction us with
      | nil => intro k; cases k
      | cons u us ih =>
        intro k
        show ((wipe τ us).set u none)[i]? = _
        by_cases ui : u = i
        · subst ui
          by_cases hl : u < τ.length
          · rw [List.getElem?_set_self (by rw [wipe_length]; exact hl), if_pos hl]
          · rw [List.getElem?_eq_none (by rw [List.length_set, wipe_length]; omega), if_neg hl]
        · rw [List.getElem?_set_ne ui]
          rcases List.mem_cons.mp k with k | k
          · exact absurd k.symm ui
          · exact ih k
    rw [inn hi, inn hi, wipe_length]
  · rw [out hi]
def tCd (K : PySem.W.Frag) (cm : Cm) : Option DE → TT
  | none => tYes
  | some m => tOT K cm m
theorem tLc_of {K : PySem.W.Frag} {cm : Cm} {c : Bool} {own own' : List Nat} {tg : DT} {fi : FI} {src : List DE} {cd : Option DE} {elt : DE} (ho : ∀ i ∈ own', i ∈ own) (σ : L2.St) (H : Hp) (Q : VK) (q : tO K cm (eComp c own tg fi src cd elt) σ H Q) :
    tLc (tOI K cm fi src) (tOG K cm own' tg) (tCd K cm cd) (tO K cm elt) own σ H Q := by
  obtain ⟨mu, Z, ρ, h, w, h', rl, s, e, f⟩ := q
  obtain ⟨q, e1, e⟩ := Res.bind_eq_ok e
  obtain ⟨sr, e2, e⟩ := Res.bind_eq_ok e
  obtain ⟨q5, e3, e⟩ := Res.bind_eq_ok e
  refine ⟨mu, Z, ρ, h, q, sr, rl, s, e1, ofO_eq_ok e2, fun mu1 Z1 H1 J x1 r1 hW D hD => ?_⟩
  obtain ⟨G, Y, wk, hG, hY⟩ := hW
  refine ⟨fun i n H => n = sr.items.length - i ∧ i ≤ sr.items.length ∧ ∃ mu2 Z2 h2 acc accV, Ext mu1 Z1 H1 mu2 Z2 H ∧ RelH K cm mu2 Z2 H h2 ∧ D ∉ mu2 ∧ Z2 D = none ∧ H D = some (.lst accV) ∧ RWs K cm mu2 Z2 acc accV ∧
      compG sr.keep own tg cd elt ρ (sr.items.drop i) acc h2 = .ok q5,
    ⟨sr.items.length, rfl, Nat.zero_le _, mu1, Z1, q.2, [], [], Ext.refl.side hD, r1.side (r1.mfree hD) (r1.zfree hD) (.none hD), r1.mfree hD, r1.zfree hD, upd_same, rfl, e3⟩, ?_⟩
  rintro i n H2 ⟨rfl, hi, mu2, Z2, h2, acc, accV, x2, r2, hm, hz, hDD, wa, e3⟩
  by_cases hlt : i < sr.items.length
  · rw [List.drop_eq_getElem_cons hlt] at e3
    have e3 : (if sr.keep h2 = true then (tg sr.items[i] (wipeW ρ own) h2).bind fun p =>
      (match cd with
        | none => (elt p.1 p.2).bind fun q => if acc.length < lineW then compG sr.keep own tg cd elt ρ (sr.items.drop (i + 1)) (acc ++ [q.1]) q.2 else .bad
        | some c => (c p.1 p.2).bind fun q => (ofO (truthy q.2 q.1)).bind fun k => if k = true then
            (elt p.1 q.2).bind fun r => if acc.length < lineW then compG sr.keep own tg cd elt ρ (sr.items.drop (i + 1)) (acc ++ [r.1]) r.2 else .bad
          else compG sr.keep own tg cd elt ρ (sr.items.drop (i + 1)) acc q.2)
      else .bad) = .ok q5 := e3
    split at e3
    · rename_i hk
      obtain ⟨q3, e4, e3⟩ := Res.bind_eq_ok e3
      refine .inr ⟨wk.goes i H2 hlt (hG mu2 Z2 H2 h2 x2.w r2 hk), fun H' => i + 1 ≤ sr.items.length ∧ ∃ mu2 Z2 h2 acc accV, Ext mu1 Z1 H1 mu2 Z2 H' ∧ RelH K cm mu2 Z2 H' h2 ∧ D ∉ mu2 ∧ Z2 D = none ∧ H' D = some (.lst accV) ∧ RWs K cm mu2 Z2 acc accV ∧
          compG sr.keep own tg cd elt ρ (sr.items.drop (i + 1)) acc h2 = .ok q5, fun H' z => ⟨sr.items.length - (i + 1), by omega, rfl, z.1, z.2⟩, fun x H3 y => ?_⟩
      obtain ⟨w3, Z3, e5, x3, r3, w3q⟩ := hY i mu2 Z2 H2 h2 x H3 x2.w r2 hk (wk.yields i H2 x H3 hlt (hG mu2 Z2 H2 h2 x2.w r2 hk) y)
      rw [List.getElem?_eq_getElem hlt] at e5
      cases e5
      have x13 := x2.trans x3
      refine ⟨mu2, Z3, wipeW ρ own, h2, sr.items[i], q3.1, q3.2, r3, wipeW_sl (s.ext (x1.trans x13)) own, w3q, e4, fun mu4 Z4 H4 σ4 x4 r4 s4 b4 => ⟨?_, ?_⟩⟩
      · rw [b4 own ho]
        exact wipe_twice σ own
      have k3 := x3.keepS hm hz hDD
      have k4 := x4.keepS k3.1 k3.2.1 k3.2.2
      have x14 := x13.trans x4
      -- an item that is kept
      have step : ∀ (mu6 : List Addr) (Z6 H6 : Hp) (h6 : Hh), Ext mu1 Z1 H1 mu6 Z6 H6 → Ext mu4 Z4 H4 mu6 Z6 H6 → RelH K cm mu6 Z6 H6 h6 →
          ((elt q3.1 h6).bind fun r => if acc.length < lineW then compG sr.keep own tg cd elt ρ (sr.items.drop (i + 1)) (acc ++ [r.1]) r.2 else .bad) = .ok q5 →
          tO K cm elt σ4 H6 fun y H4 => ∃ acc, H4 D = some (.lst acc) ∧ acc.length < sizeLine ∧ (i + 1 ≤ sr.items.length ∧ ∃ mu2 Z2 h2 acc' accV, Ext mu1 Z1 H1 mu2 Z2 (L2.upd H4 D (.lst (acc ++ [y]))) ∧ RelH K cm mu2 Z2 (L2.upd H4 D (.lst (acc ++ [y]))) h2 ∧ D ∉ mu2 ∧ Z2 D = none ∧ (L2.upd H4 D (.lst (acc ++ [y]))) D = some (.lst accV) ∧ RWs K cm mu2 Z2 acc' accV ∧
            compG sr.keep own tg cd elt ρ (sr.items.drop (i + 1)) acc' h2 = .ok q5) := by
        intro mu6 Z6 H6 h6 x16 x46 r6 e6
        obtain ⟨r, e7, e6⟩ := Res.bind_eq_ok e6
        have k6 := x46.keepS k4.1 k4.2.1 k4.2.2
        split at e6
        · rename_i hl
          refine ⟨mu6, Z6, q3.1, h6, r.1, r.2, r6, s4.ext x46, e7, fun mu8 Z8 H8 v8 x8 r8 w8 => ?_⟩
          have k8 := x8.keepS k6.1 k6.2.1 k6.2.2
          refine ⟨accV, k8.2.2, by rw [wa.length]; exact hl, hlt, mu8, Z8, r.2, acc ++ [r.1], accV ++ [v8], (x16.trans x8).side hD, r8.side k8.1 k8.2.1 (.some k8.2.2 (by exact ⟨fun _ z => (by cases z), fun _ z => (by cases z)⟩)), k8.1, k8.2.1, upd_same, ?_, e6⟩
          have x48 := x46.trans x8
          exact RWs.append (wa.mono (x3.z.trans (x4.z.trans x48.z)) fun i a k => x48.m i a (x4.m i a (x3.m i a k))) ⟨v8, [], rfl, w8, rfl⟩
        · cases e6
      cases cd with
      | none => exact step mu4 Z4 H4 q3.2 x14 Ext.refl r4 e3
      | some mc =>
        obtain ⟨q6, e6, e3⟩ := Res.bind_eq_ok e3
        obtain ⟨k, e7, e3⟩ := Res.bind_eq_ok e3
        refine ⟨mu4, Z4, q3.1, q3.2, q6.1, q6.2, k, r4, s4, e6, ofO_eq_ok e7, fun mu6 Z6 H6 x6 r6 => ?_⟩
        cases k with
        | true => exact step mu6 Z6 H6 q6.2 (x14.trans x6) x6 r6 e3
        | false =>
          have k6 := x6.keepS k4.1 k4.2.1 k4.2.2
          refine ⟨hlt, mu6, Z6, q6.2, acc, accV, x14.trans x6, r6, k6.1, k6.2.1, k6.2.2, ?_, e3⟩
          exact wa.mono (x3.z.trans (x4.z.trans x6.z)) fun i a k => x6.m i a (x4.m i a (x3.m i a k))
    · cases e3
  · have hi' : i = sr.items.length := by omega
    subst hi'
    rw [List.drop_length] at e3
    have e3 : (if sr.keep h2 = true then Res.ok (acc, h2) else .bad) = .ok q5 := e3
    split at e3
    · rename_i hk
      cases e3
      refine .inl ⟨wk.stops H2 (hG mu2 Z2 H2 _ x2.w r2 hk), ?_⟩
      obtain ⟨mu', Z', r', w', k'⟩ := mkL_at r2 hm hz hDD wa e
      exact f mu' Z' H2 (.ref D) (x1.trans (k' mu1 Z1 H1 x2 hD)) r' w'
    · cases e3
section
variable {X : Cx} {cm : Cm}
inductive QC (X : Cx) (cm : Cm) : List Expr → Option DE → Prop where
  | nil : QC X cm [] none
  | one {c : Expr} {m : DE} (h : QT X cm c m) : QC X cm [c] (some m)
theorem QC.pts {X : Cx} {ifs : List Expr} {cd : Option DE} (h : QC X cm ifs cd) : PTs X ifs (tCd X.K cm cd) := by
  cases h with
  | nil => exact pts_nil
  | one h => exact pts_one h
variable {c : Bool} {elt tg iter : Expr} {ifs : List Expr} {scope : Scope} {own : List (Str × Nat)} {own' : List Nat} {pos : Pos} {fi : FI} {src : List DE} {cd : Option DE} {me : DE} {tgm : DT}
theorem q_comp (hc : X.calm = true) (hN : X.N.Nodup) (hi : QI X cm tg iter fi src) (ok : BlkOk X.N X.env.scope scope own) (ho : ∀ i ∈ own', i ∈ own.map (·.2))
    (hg : ∀ (s : Shared) (H : Hp) (C : Addr) (cl : List (Str × Addr)) (fp : List Addr), QG (X.blk s H scope (compEnvC scope cl C X.env) fp) cm own' tg tgm)
    (ht : ∀ (s : Shared) (H : Hp) (C : Addr) (cl : List (Str × Addr)) (fp : List Addr), QC (X.blk s H scope (compEnvC scope cl C X.env) fp) cm ifs cd)
    (he : ∀ (s : Shared) (H : Hp) (C : Addr) (cl : List (Str × Addr)) (fp : List Addr), QE (X.blk s H scope (compEnvC scope cl C X.env) fp) cm elt me) (hs : ∀ x, foldedSetIterable iter X.env x = pure x) :
    QE X cm (.ListComp elt [⟨tg, iter, ifs, 0⟩] scope pos) (eComp c (own.map (·.2)) tgm fi src cd me) :=
  PE.wk (pe_lc (te := tO X.K cm me) (g := tOG X.K cm own' tgm) (tt := tCd X.K cm cd) hc hN hi ok hg (fun s H C cl fp => (ht s H C cl fp).pts) he hs) fun σ H Q q => tLc_of ho σ H Q q
theorem qs_setLc {i : Nat} {y : Str} {py spos : Pos} (hc : X.calm = true) (hN : X.N.Nodup) (hy : X.N[i]? = some y) (hyl : X.env.scope.names.lookup y = some .local)
    (hsw : swapsWith (.ListComp elt [⟨tg, iter, ifs, 0⟩] scope pos) (some (.Name y py)) spos.line X.env = pure true) (hi : QI X cm tg iter fi src) (ok : BlkOk X.N X.env.scope scope own) (ho : ∀ i ∈ own', i ∈ own.map (·.2))
    (hg : ∀ (s : Shared) (H : Hp) (C : Addr) (cl : List (Str × Addr)) (fp : List Addr), QG (X.blk s H scope (compEnvC scope cl C X.env) fp) cm own' tg tgm)
    (ht : ∀ (s : Shared) (H : Hp) (C : Addr) (cl : List (Str × Addr)) (fp : List Addr), QC (X.blk s H scope (compEnvC scope cl C X.env) fp) cm ifs cd)
    (he : ∀ (s : Shared) (H : Hp) (C : Addr) (cl : List (Str × Addr)) (fp : List Addr), QE (X.blk s H scope (compEnvC scope cl C X.env) fp) cm elt me) (hs : ∀ x, foldedSetIterable iter X.env x = pure x) :
    QS X cm (.Assign [.Name y py] (.ListComp elt [⟨tg, iter, ifs, 0⟩] scope pos) spos) (sAsg (tN i) (eComp c (own.map (·.2)) tgm fi src cd me)) := by
  refine PS.wk (ps_setLc (te := tO X.K cm me) (g := tOG X.K cm own' tgm) (tt := tCd X.K cm cd) hc hN hy hyl hsw hi ok hg (fun s H C cl fp => (ht s H C cl fp).pts) he hs) fun D σ H q => ?_
  obtain ⟨mu, Z, ρ, h, f, ρ', h', rl, s, e, p⟩ := q
  obtain ⟨q, e1, e⟩ := Res.bind_eq_ok e
  obtain ⟨q2, e2, e⟩ := Res.bind_eq_ok e
  cases e
  cases e2
  exact tLc_of ho σ H _ ⟨mu, Z, ρ, h, q.1, q.2, rl, s, e1, fun mu1 Z1 H1 v1 x1 r1 w1 => p _ _ _ x1 r1 _ ((s.ext x1).set i w1)⟩
end
end Ti


namespace Ti
open PySem PySem.Spec PyProof.Rows L2
section
variable {X : Cx} {K : PySem.W.Frag} {cm : Cm} {mu : List Addr} {Z H : Hp} {h h' : Hh} {w w1 w2 : W} {v v1 v2 : V} {Q : VK}

def rAddT (K : PySem.W.Frag) : R2 := fun x y H Q => ((rI0 (fun i j => .int (i + j)) x y H Q ∨ (∃ i j, x = .str i ∧ y = .str j ∧ i.length + j.length ≤ sizeLine ∧ Q (.str (i ++ j)) H)) ∨ rCat x y H Q) ∨ rCatA K x y H Q
theorem op_addT : OpR X (binaryOp .Add) (rAddT X.K) := ((op_add.or op_add_str).or op_cat).or op_catA
theorem cat_ok (r : RelH K cm mu Z H h) {as bs : List W} (q1 : RW K cm mu Z w1 v1) (q2 : RW K cm mu Z w2 v2) (e1 : asL h w1 = some as) (e2 : asL h w2 = some bs) {c : Bool} (e : mkL c (as ++ bs) h = .ok (w, h')) (f : Fin K cm mu Z H w h' Q) : rCat v1 v2 H Q := by
  obtain ⟨a, xs, rfl, ha, ra⟩ := asL_ok r q1 e1
  obtain ⟨b, ys, rfl, hb, rb⟩ := asL_ok r q2 e2
  obtain ⟨hl, hp⟩ := mkL_ok r (RWs.append ra rb) e f
  exact ⟨a, b, xs, ys, rfl, rfl, ha, hb, by rw [List.length_append] at hl; exact hl, hp⟩
theorem ok_add {c : Bool} : Ok2 K cm (pAdd c) (rAddT K) := by
  intro mu Z H h w1 w2 w h' v1 v2 Q r q1 q2 e f
  have gen : ∀ {u1 u2 : W}, RW K cm mu Z u1 v1 → RW K cm mu Z u2 v2 → (match asL h u1, asL h u2 with | some as, some bs => mkL c (as ++ bs) h | _, _ => .bad) = .ok (w, h') → rAddT K v1 v2 H Q := fun {u1 u2} q1 q2 e => by
    split at e
    · rename_i as bs e1 e2
      exact .inl (.inr (cat_ok r q1 q2 e1 e2 e f))
    · cases e
  cases w1 with
  | int i =>
    cases w2 with
    | int j =>
      cases e; cases q1; cases q2
      exact .inl (.inl (.inl ⟨i, j, rfl, rfl, f.here r rfl⟩))
    | _ => exact gen q1 q2 e
  | str x =>
    cases w2 with
    | str y =>
      cases q1; cases q2
      have e : (if x.length + y.length ≤ lineW then Res.ok (W.str (x ++ y), h) else .bad) = .ok (w, h') := e
      split at e
      · rename_i hl
        cases e
        exact .inl (.inl (.inr ⟨x, y, rfl, rfl, hl, f.here r rfl⟩))
      · cases e
    | _ => exact gen q1 q2 e
  | tup as =>
    cases w2 with
    | tup bs =>
      have e : (if as.length + bs.length ≤ lineW then Res.ok (W.tup (as ++ bs), h) else .bad) = .ok (w, h') := e
      split at e
      · rename_i hc
        cases e
        obtain ⟨a, xs, rfl, za, ra⟩ := q1
        obtain ⟨b, ys, rfl, zb, rb⟩ := q2
        have la := ra.length
        have lb := rb.length
        refine .inr ⟨a, b, xs, ys, rfl, rfl, SqT.of (r.tupZ za), SqT.of (r.tupZ zb), by rw [la, lb]; exact hc, fun z => ?_, fun _ z => ?_, fun _ _ p hp => ?_⟩
        · rw [z] at la
          cases as with
          | nil => exact f.here r ⟨b, ys, rfl, zb, rb⟩
          | cons _ _ => cases la
        · rw [z] at lb
          cases bs with
          | nil => exact f.here r ⟨a, xs, rfl, za, by rw [List.append_nil]; exact ra⟩
          | cons _ _ => cases lb
        · obtain ⟨r', x⟩ := r.newZ (o := .tup (xs ++ ys)) hp upd_same
          exact f _ _ _ _ x r' ⟨p, xs ++ ys, rfl, upd_same, (RWs.append ra rb).mono x.z x.m⟩
      · cases e
    | _ => exact gen q1 q2 e
  | _ => exact gen q1 q2 e
theorem ok_sub : Ok2 K cm pSub (rI0 fun i j => .int (i - j)) := by
  intro mu Z H h w1 w2 w h' v1 v2 Q r q1 q2 e f
  cases w1 with
  | int i =>
    cases w2 with
    | int j =>
      cases e; cases q1; cases q2
      exact ⟨i, j, rfl, rfl, f.here r rfl⟩
    | _ => cases e
  | _ => cases e
def rMulS : R2 := fun x y H Q => ∃ a n, x = .str a ∧ y = .int n ∧ a.length * n.toNat ≤ 1000000 ∧ -1000000 ≤ n ∧ n ≤ 1000000 ∧ Q (.str (mkS (List.replicate n.toNat (sg a)).flatten)) H
theorem rep_cps (x : Array Nat) : ∀ n : Nat, ((List.replicate n x).foldl (· ++ ·) #[]).toList = (List.replicate n x.toList).flatten := by
  have key : ∀ (n : Nat) (acc : Array Nat), ((List.replicate n x).foldl (· ++ ·) acc).toList = acc.toList ++ (List.replicate n x.toList).flatten := by
    intro n
    induction n with
    | zero => intro acc; simp
    | succ n ih =>
      intro acc
      rw [List.replicate_succ, List.foldl_cons, ih, List.replicate_succ, List.flatten_cons, Array.toList_append, List.append_assoc]
  intro n
  rw [key] <;> simp
theorem op_mulS : OpR X (binaryOp .Mult) rMulS := by
  intro pins s σ H x y v u Q I rx ry hq
  obtain ⟨a, n, rfl, rfl, hl, h1, h2, q⟩ := hq
  obtain ⟨t, rfl⟩ := rx
  obtain ⟨t', rfl⟩ := ry
  have two : (2 : Int) ^ 63 = 9223372036854775808 := by decide
  refine PySem.P.mul_str (by rw [two]; simp only [Bool.or_eq_false_iff, decide_eq_false_iff_not]; omega) (fun hn _ => ?_) (fun hn _ => ?_) ?_
  · rw [two]
    have hn' : 0 < n := by omega
    have ea : (a.length : Int) ≤ (a.length : Int) * n := by
      have : (a.length : Int) * 1 ≤ (a.length : Int) * n := Int.mul_le_mul_of_nonneg_left (by omega) (by omega)
      omega
    have eb : ((a.length * n.toNat : Nat) : Int) = (a.length : Int) * n := by
      rw [Int.natCast_mul, Int.toNat_of_nonneg (by omega)]
    have : (9223372036854775808 - 1) / n ≥ 1000000 := by
      rw [ge_iff_le, Int.le_ediv_iff_mul_le hn']
      omega
    omega
  · show decide (a.length * n.toNat > sizeLine) = false
    rw [sizeLine_eq]
    simp only [decide_eq_false_iff_not]
    omega
  · have res : ∀ z : Str, sg z = (List.replicate n.toNat (sg a)).flatten → z = mkS (List.replicate n.toNat (sg a)).flatten := fun z e => by
      rw [← e]
      rfl
    split
    · rename_i hn
      have e0 : n.toNat = 0 := by omega
      rw [← res Str.empty (by rw [e0]; rfl)] at q
      exact ⟨by decide, ⟨.str Str.empty, H, I.tok _, ⟨_, rfl⟩, q⟩⟩
    · split
      · rename_i hn hc
        rw [← res a ?_] at q
        · exact ⟨.str a, H, I, ⟨_, rfl⟩, q⟩
        · rw [Bool.or_eq_true, beq_iff_eq, beq_iff_eq] at hc
          rcases hc with hc | hc
          · rw [hc]
            show _ = (List.replicate 1 (sg a)).flatten
            simp
          · have : sg a = [] := by
              rw [len_sg] at hc
              exact List.eq_nil_of_length_eq_zero hc
            rw [this]
            symm
            rw [List.flatten_eq_nil_iff]
            intro l hl
            exact List.eq_of_mem_replicate hl
      · rw [← res ⟨(List.replicate n.toNat a.cps).foldl (· ++ ·) #[]⟩ (rep_cps a.cps n.toNat)] at q
        refine ⟨?_, ⟨.str _, H, I.tok _, ⟨_, rfl⟩, q⟩⟩
        have : ((List.replicate n.toNat a.cps).foldl (· ++ ·) #[]).size = n.toNat * a.cps.size := by
          rw [← Array.length_toList, rep_cps]
          simp
        have e3 : (⟨(List.replicate n.toNat a.cps).foldl (· ++ ·) #[]⟩ : Str).length = ((List.replicate n.toNat a.cps).foldl (· ++ ·) #[]).size := rfl
        rw [e3, this, sizeLine_eq, Nat.mul_comm]
        exact Nat.le_trans hl (by decide)
def rMulT : R2 := fun x y H Q => ((rI CMulW fun i j => .int (i * j)) x y H Q ∨ rMulS x y H Q) ∨ rRep x y H Q
theorem op_mulT : OpR X (binaryOp .Mult) rMulT := (op_mulW.or op_mulS).or op_rep
theorem ok_mul {c : Bool} : Ok2 K cm (pMul c) rMulT := by
  intro mu Z H h w1 w2 w h' v1 v2 Q r q1 q2 e f
  cases w2 with
  | int n =>
    have gen : ∀ {u1 : W}, RW K cm mu Z u1 v1 → (match asL h u1 with
        | some as => if as.length * n.toNat ≤ 1000000 ∧ -1000000 ≤ n ∧ n ≤ 1000000 then mkL c (List.replicate n.toNat as).flatten h else .bad
        | none => .bad) = .ok (w, h') → rMulT v1 v2 H Q := fun {u1} q1 e => by
      split at e
      · rename_i as e1
        split at e
        · rename_i hc
          cases q2
          obtain ⟨a, xs, rfl, ha, ra⟩ := asL_ok r q1 e1
          have rr : RWs K cm mu Z (List.replicate n.toNat as).flatten (List.replicate n.toNat xs).flatten := by
            generalize n.toNat = k
            induction k with
            | zero => exact rfl
            | succ k ih =>
              rw [List.replicate_succ, List.replicate_succ, List.flatten_cons, List.flatten_cons]
              exact RWs.append ra ih
          obtain ⟨hl, hp⟩ := mkL_ok r rr e f
          have two : (2 : Int) ^ 63 = 9223372036854775808 := by decide
          refine .inr ⟨a, n, xs, rfl, rfl, ha, by rw [two]; omega, by rw [two]; omega, ?_, hp⟩
          rw [ra.length, sizeLine_eq]
          omega
        · cases e
      · cases e
    cases w1 with
    | int i =>
      have e : (if mulOk i n = true then Res.ok (W.int (i * n), h) else .bad) = .ok (w, h') := e
      split at e
      · rename_i hc
        cases e; cases q1; cases q2
        exact .inl (.inl ⟨i, n, rfl, rfl, (show i.natAbs.log2 + n.natAbs.log2 < 1000000 from of_decide_eq_true hc), f.here r rfl⟩)
      · cases e
    | str a =>
      have e : (if a.length * n.toNat ≤ 1000000 ∧ -1000000 ≤ n ∧ n ≤ 1000000 then Res.ok (W.str (mkS (List.replicate n.toNat (sg a)).flatten), h) else .bad) = .ok (w, h') := e
      split at e
      · rename_i hc
        cases e; cases q1; cases q2
        exact .inl (.inr ⟨a, n, rfl, rfl, hc.1, hc.2.1, hc.2.2, f.here r rfl⟩)
      · cases e
    | _ => exact gen q1 e
  | _ => cases w1 <;> cases e
theorem ok_mod : Ok2 K cm pMod (rI (fun _ j => j ≠ 0) fun i j => .int (i.fmod j)) := by
  intro mu Z H h w1 w2 w h' v1 v2 Q r q1 q2 e f
  cases w1 with
  | int i =>
    cases w2 with
    | int j =>
      have e : (if j = 0 then Res.bad else .ok (W.int (i.fmod j), h)) = .ok (w, h') := e
      split at e
      · cases e
      · rename_i hj
        cases e; cases q1; cases q2
        exact ⟨i, j, rfl, rfl, hj, f.here r rfl⟩
    | _ => cases e
  | _ => cases e
theorem ok_fdv : Ok2 K cm pFdv (rI CDivW fun i j => .int (i / j)) := by
  intro mu Z H h w1 w2 w h' v1 v2 Q r q1 q2 e f
  cases w1 with
  | int i =>
    cases w2 with
    | int j =>
      have e : (if 0 < j ∧ j.natAbs.log2 < 9000 then Res.ok (W.int (i / j), h) else .bad) = .ok (w, h') := e
      split at e
      · rename_i hj
        cases e; cases q1; cases q2
        exact ⟨i, j, rfl, rfl, hj, f.here r rfl⟩
      · cases e
    | _ => cases e
  | _ => cases e
def CPowW (i j : Int) : Prop := 0 ≤ j ∧ (Builtin.Int.intBits i : Int) * j ≤ 2 ^ 27
theorem op_powW : OpR X (binaryOp .Pow) (rI CPowW fun i j => .int (i ^ j.toNat)) := opI fun _ _ _ _ _ _ _ hc q => pow_int hc.1 hc.2 q
theorem ok_pow : Ok2 K cm pPow (rI CPowW fun i j => .int (i ^ j.toNat)) := by
  intro mu Z H h w1 w2 w h' v1 v2 Q r q1 q2 e f
  cases w1 with
  | int i =>
    cases w2 with
    | int j =>
      have e : (if 0 ≤ j ∧ j ≤ 1000 ∧ i.natAbs.log2 < 1000 then Res.ok (W.int (i ^ j.toNat), h) else .bad) = .ok (w, h') := e
      split at e
      · rename_i hj
        cases e; cases q1; cases q2
        refine ⟨i, j, rfl, rfl, ⟨hj.1, ?_⟩, f.here r rfl⟩
        have b : (Builtin.Int.intBits i : Int) ≤ 1000 := by
          have : Builtin.Int.intBits i ≤ i.natAbs.log2 + 1 := by
            unfold Builtin.Int.intBits
            split <;> omega
          omega
        have : (Builtin.Int.intBits i : Int) * j ≤ 1000 * 1000 := Int.mul_le_mul b hj.2.1 hj.1 (by decide)
        exact Int.le_trans this (by decide)
      · cases e
    | _ => cases e
  | _ => cases e
theorem ok_neg : Ok1 K cm pNeg (rU fun i => .int (-i)) := by
  intro mu Z H h w1 w h' v1 Q r q1 e f
  cases w1 with
  | int i => cases e; cases q1; exact ⟨i, rfl, f.here r rfl⟩
  | _ => cases e

theorem ok_ints {g : F2} {p : Int → Int → Bool} (hg : ∀ x y h w h', g x y h = .ok (w, h') → ∃ i j, x = .int i ∧ y = .int j ∧ w = .bl (p i j) ∧ h' = h) : Ok2 K cm g (rI0 fun i j => .bl (p i j)) := by
  intro mu Z H h w1 w2 w h' v1 v2 Q r q1 q2 e f
  obtain ⟨i, j, rfl, rfl, rfl, rfl⟩ := hg _ _ _ _ _ e
  cases q1; cases q2
  exact ⟨i, j, rfl, rfl, f.here r rfl⟩
theorem lt_g : ∀ x y h w h', pLt x y h = .ok (w, h') → ∃ i j : Int, x = .int i ∧ y = .int j ∧ w = .bl (decide (i < j)) ∧ h' = h := by
  intro x y h w h' e
  cases x <;> first | (cases e; done) | (cases y <;> first | (cases e; done) | (cases e; exact ⟨_, _, rfl, rfl, rfl, rfl⟩))
theorem le_g : ∀ x y h w h', pLe x y h = .ok (w, h') → ∃ i j : Int, x = .int i ∧ y = .int j ∧ w = .bl (decide (i ≤ j)) ∧ h' = h := by
  intro x y h w h' e
  cases x <;> first | (cases e; done) | (cases y <;> first | (cases e; done) | (cases e; exact ⟨_, _, rfl, rfl, rfl, rfl⟩))
theorem gt_g : ∀ x y h w h', pGt x y h = .ok (w, h') → ∃ i j : Int, x = .int i ∧ y = .int j ∧ w = .bl (decide (j < i)) ∧ h' = h := by
  intro x y h w h' e
  cases x <;> first | (cases e; done) | (cases y <;> first | (cases e; done) | (cases e; exact ⟨_, _, rfl, rfl, rfl, rfl⟩))
theorem ge_g : ∀ x y h w h', pGe x y h = .ok (w, h') → ∃ i j : Int, x = .int i ∧ y = .int j ∧ w = .bl (decide (j ≤ i)) ∧ h' = h := by
  intro x y h w h' e
  cases x <;> first | (cases e; done) | (cases y <;> first | (cases e; done) | (cases e; exact ⟨_, _, rfl, rfl, rfl, rfl⟩))
theorem ok_lt : Ok2 K cm pLt (rI0 fun i j => .bl (decide (i < j))) := ok_ints lt_g
theorem ok_le : Ok2 K cm pLe (rI0 fun i j => .bl (decide (i ≤ j))) := ok_ints le_g
theorem ok_gt : Ok2 K cm pGt (rI0 fun i j => .bl (decide (j < i))) := ok_ints gt_g
theorem ok_ge : Ok2 K cm pGe (rI0 fun i j => .bl (decide (j ≤ i))) := ok_ints ge_g
theorem bg_of {g : F2} {p : Int → Int → Bool} (hg : ∀ x y h w h', g x y h = .ok (w, h') → ∃ i j, x = .int i ∧ y = .int j ∧ w = .bl (p i j) ∧ h' = h) : BoolG g := fun x y h w h' e => by
  obtain ⟨i, j, _, _, e, _⟩ := hg x y h w h' e
  exact ⟨_, e⟩
theorem bg_o {o : Option Bool} {f : Bool → Bool} {h h' : Hh} {w : W} (e : (ofO o).bind (fun k => Res.ok (W.bl (f k), h)) = .ok (w, h')) : ∃ k, o = some k ∧ w = .bl (f k) ∧ h' = h := by
  obtain ⟨k, e1, e⟩ := Res.bind_eq_ok e
  cases e
  exact ⟨k, ofO_eq_ok e1, rfl, rfl⟩
theorem bg_eq : BoolG pEq := fun _ _ _ _ _ e => let ⟨k, _, e, _⟩ := bg_o (f := id) e; ⟨_, e⟩
theorem bg_ne : BoolG pNe := fun _ _ _ _ _ e => let ⟨k, _, e, _⟩ := bg_o (f := (! ·)) e; ⟨_, e⟩
theorem bg_in : BoolG pIn := fun _ _ _ _ _ e => let ⟨k, _, e, _⟩ := bg_o (f := id) e; ⟨_, e⟩
theorem bg_ni : BoolG pNi := fun _ _ _ _ _ e => let ⟨k, _, e, _⟩ := bg_o (f := (! ·)) e; ⟨_, e⟩
theorem bg_is : BoolG pIs := fun x y h w h' e => by
  cases y with
  | non => cases e; exact ⟨_, rfl⟩
  | bl b => cases x <;> first | (cases e; done) | (cases e; exact ⟨_, rfl⟩)
  | _ => cases e
theorem bg_isN : BoolG pIsN := fun x y h w h' e => by
  cases y with
  | non => cases e; exact ⟨_, rfl⟩
  | bl b => cases x <;> first | (cases e; done) | (cases e; exact ⟨_, rfl⟩)
  | _ => cases e
theorem isNon_ok (q : RW K cm mu Z w v) : decide (v = V.non) = isNon w := by
  have no : ∀ {x : V}, x ≠ .non → decide (x = V.non) = false := fun h => decide_eq_false h
  cases w with
  | non => cases q; rfl
  | bl _ => cases q; rfl
  | int _ => cases q; rfl
  | str _ => cases q; rfl
  | tup _ => obtain ⟨a, vs, rfl, _⟩ := q; rfl
  | lst _ => obtain ⟨a, vs, rfl, _⟩ := q; rfl
  | dic _ _ => obtain ⟨a, rfl, _⟩ := q; rfl
  | obj _ _ => obtain ⟨a, dx, fvs, rfl, _⟩ := q; rfl
  | err _ _ => obtain ⟨a, oe, rfl, _⟩ := q; rfl
  | ref _ => obtain ⟨a, rfl, _⟩ := q; rfl
  | scr _ => obtain ⟨a, rfl, _⟩ := q; rfl
theorem ok_is : Ok2 K cm pIs (fun x y H Q => (y = .non ∧ Q (.bl (decide (x = .non))) H) ∨ ∃ a b, x = .bl a ∧ y = .bl b ∧ Q (.bl (decide (a = b))) H) := by
  intro mu Z H h w1 w2 w h' v1 v2 Q r q1 q2 e f
  cases w2 with
  | non =>
    cases e
    have q2 : v2 = .non := q2
    exact .inl ⟨q2, f.here r (by rw [isNon_ok q1]; exact rfl)⟩
  | bl b =>
    cases w1 with
    | bl a =>
      cases e
      exact .inr ⟨a, b, q1, q2, f.here r rfl⟩
    | _ => cases e
  | _ => cases e
theorem ok_isN : Ok2 K cm pIsN (fun x y H Q => (y = .non ∧ Q (.bl (!decide (x = .non))) H) ∨ ∃ a b, x = .bl a ∧ y = .bl b ∧ Q (.bl (!decide (a = b))) H) := by
  intro mu Z H h w1 w2 w h' v1 v2 Q r q1 q2 e f
  cases w2 with
  | non =>
    cases e
    have q2 : v2 = .non := q2
    exact .inl ⟨q2, f.here r (by rw [isNon_ok q1]; exact rfl)⟩
  | bl b =>
    cases w1 with
    | bl a =>
      cases e
      exact .inr ⟨a, b, q1, q2, f.here r rfl⟩
    | _ => cases e
  | _ => cases e

mutual
def toP : W → PyData
  | .non => .none
  | .bl b => .bool b
  | .int i => .int i
  | .str x => .str x
  | .tup ws => .tuple (toPs ws)
  | .lst ws => .list (toPs ws)
  | _ => .none
def toPs : List W → List PyData
  | [] => []
  | w :: ws => toP w :: toPs ws
end
theorem strFine_ok {x : Str} (e : strFine x = true) : PyData.strOk x = true := by
  unfold strFine at e
  rw [Bool.and_eq_true] at e
  unfold PyData.strOk
  rw [Array.all_eq_true] at e ⊢
  intro i hi
  have := of_decide_eq_true (e.1 i hi)
  exact decide_eq_true (by omega)
mutual
theorem toP_eqv {d1 d2 : Nat} : ∀ {a b : W}, isDat d1 a = true → isDat d2 b = true → PyData.eqv (toP a) (toP b) = beq a b
  | .non, b, _, hb => by cases b <;> first | rfl | (cases hb; done)
  | .bl _, b, _, hb => by cases b <;> first | rfl | (cases hb; done)
  | .int _, b, _, hb => by cases b <;> first | rfl | (cases hb; done)
  | .str x, b, _, hb => by
    cases b <;> first | rfl | (cases hb; done)
  | .tup xs, b, ha, hb => by
    cases b <;> first | rfl | (cases hb; done) | skip
    cases d1 with
    | zero => cases ha
    | succ d1 =>
      cases d2 with
      | zero => cases hb
      | succ d2 => exact toPs_eqv (show areDat d1 xs = true from ha) (show areDat d2 _ = true from hb)
  | .lst xs, b, ha, hb => by
    cases b <;> first | rfl | (cases hb; done) | skip
    cases d1 with
    | zero => cases ha
    | succ d1 =>
      cases d2 with
      | zero => cases hb
      | succ d2 => exact toPs_eqv (show areDat d1 xs = true from ha) (show areDat d2 _ = true from hb)
  | .dic _ _, _, ha, _ => by cases ha
  | .obj _ _, _, ha, _ => by cases ha
  | .err _ _, _, ha, _ => by cases ha
  | .ref _, _, ha, _ => by cases ha
  | .scr _, _, ha, _ => by cases ha
theorem toPs_eqv {d1 d2 : Nat} : ∀ {a b : List W}, areDat d1 a = true → areDat d2 b = true → PyData.eqvAll (toPs a) (toPs b) = beqs a b
  | [], b, _, _ => by cases b <;> rfl
  | x :: xs, b, ha, hb => by
    cases b with
    | nil => rfl
    | cons y ys =>
      have ha : (isDat d1 x && areDat d1 xs) = true := ha
      have hb : (isDat d2 y && areDat d2 ys) = true := hb
      rw [Bool.and_eq_true] at ha hb
      show (PyData.eqv (toP x) (toP y) && PyData.eqvAll (toPs xs) (toPs ys)) = (beq x y && beqs xs ys)
      rw [toP_eqv ha.1 hb.1, toPs_eqv ha.2 hb.2]
end
mutual
theorem toP_can : ∀ {d : Nat} {a : W}, isDat d a = true → (toP a).canLay0 = true
  | _, .non, _ => rfl
  | _, .bl _, _ => rfl
  | _, .int _, _ => rfl
  | _, .str x, h => strFine_ok h
  | d, .tup xs, h => by
    cases d with
    | zero => cases h
    | succ d => exact toPs_can (show areDat d xs = true from h)
  | d, .lst xs, h => by
    cases d with
    | zero => cases h
    | succ d => exact toPs_can (show areDat d xs = true from h)
  | _, .dic _ _, h => by cases h
  | _, .obj _ _, h => by cases h
  | _, .err _ _, h => by cases h
  | _, .ref _, h => by cases h
  | _, .scr _, h => by cases h
theorem toPs_can : ∀ {d : Nat} {a : List W}, areDat d a = true → PyData.canLayAll0 (toPs a) = true
  | _, [], _ => rfl
  | d, x :: xs, h => by
    have h : (isDat d x && areDat d xs) = true := h
    rw [Bool.and_eq_true] at h
    show (PyData.canLay0 (toP x) && PyData.canLayAll0 (toPs xs)) = true
    rw [toP_can h.1, toPs_can h.2]
    rfl
end
mutual
theorem toP_Dp (r : RelH K cm mu Z H h) : ∀ {d : Nat} {a : W} {v : V}, isDat d a = true → RW K cm mu Z a v → Dp K H v (toP a)
  | _, .non, _, _, q => by cases q; exact .non
  | _, .bl _, _, _, q => by cases q; exact .bl _
  | _, .int _, _, _, q => by cases q; exact .int _
  | _, .str x, _, h, q => by cases q; exact .str _
  | d, .tup xs, _, h, q => by
    cases d with
    | zero => cases h
    | succ d =>
      obtain ⟨a, vs, rfl, z, rs⟩ := q
      exact .tup (SqT.of (r.tupZ z)) (toPs_Dp r (show areDat d xs = true from h) rs)
  | d, .lst xs, _, h, q => by
    cases d with
    | zero => cases h
    | succ d =>
      obtain ⟨a, vs, rfl, z, rs⟩ := q
      exact .lst (SqL.of (r.lstZ z)) (toPs_Dp r (show areDat d xs = true from h) rs)
  | _, .dic _ _, _, h, _ => by cases h
  | _, .obj _ _, _, h, _ => by cases h
  | _, .err _ _, _, h, _ => by cases h
  | _, .ref _, _, h, _ => by cases h
  | _, .scr _, _, h, _ => by cases h
theorem toPs_Dp (r : RelH K cm mu Z H h) : ∀ {d : Nat} {a : List W} {vs : List V}, areDat d a = true → RWs K cm mu Z a vs → DpAll K H vs (toPs a)
  | _, [], _, _, q => by
    cases (show _ = [] from q)
    exact .nil
  | d, x :: xs, _, h, q => by
    have h : (isDat d x && areDat d xs) = true := h
    rw [Bool.and_eq_true] at h
    obtain ⟨v, rs, rfl, q1, q2⟩ := q
    exact .cons (toP_Dp r h.1 q1) (toPs_Dp r h.2 q2)
end
end
end Ti


namespace L2
open PySem PySem.Spec PyProof.Rows
def rEqL (K : PySem.W.Frag) (k : Bool) : R2 := fun x y H Q => ∃ a b xs ys, x = .ref a ∧ y = .ref b ∧ SqL K H a xs ∧ SqL K H b ys ∧ xs.length ≠ ys.length ∧ Q (.bl k) H
def rEqDS (k : Bool) : R2 := fun x y H Q => ∃ a kvs t, x = .ref a ∧ y = .str t ∧ Rd H a (.dK kvs) ∧ Q (.bl k) H
section
variable {X : Cx}
theorem op_eqL (hu : X.A.units < cLine) : OpR X (compareOp .Eq) (rEqL X.K false) := by
  intro pins s σ H x y v u Q I rx ry h
  obtain ⟨a, b, xs, ys, rfl, rfl, ha, hb, hl, q⟩ := h
  obtain ⟨i1, r1, l1, _⟩ := I.list ha
  obtain ⟨i2, r2, l2, _⟩ := I.list hb
  obtain rfl : v = Value.ref a := rx
  obtain rfl : u = Value.ref b := ry
  have e1 := Paired.length r1
  have e2 := Paired.length r2
  refine PySem.SeqAt.eq_list_lengthsAt l1.isList l2.isList ?_ hu ⟨.bl _, H, I, rfl, q⟩
  rw [List.size_toArray, List.size_toArray, ← e1, ← e2, bne_iff_ne]
  exact hl
theorem op_neL (hu : X.A.units < cLine) : OpR X (compareOp .NotEq) (rEqL X.K true) := by
  intro pins s σ H x y v u Q I rx ry h
  obtain ⟨a, b, xs, ys, rfl, rfl, ha, hb, hl, q⟩ := h
  obtain ⟨i1, r1, l1, _⟩ := I.list ha
  obtain ⟨i2, r2, l2, _⟩ := I.list hb
  obtain rfl : v = Value.ref a := rx
  obtain rfl : u = Value.ref b := ry
  have e1 := Paired.length r1
  have e2 := Paired.length r2
  refine PySem.SeqAt.RcNeAt.lists_lengths l1.isList l2.isList ?_ hu _ _ _ _ ⟨.bl _, H, I, rfl, q⟩
  rw [List.size_toArray, List.size_toArray, ← e1, ← e2, bne_iff_ne]
  exact hl
theorem Rd.dictAt {pins : List (Addr × Obj)} {σ : St} {H : Hp} {s : Shared} {a : Addr} {kvs : List (Key × V)} (I : Inv X pins σ H s) (r : Rd H a (.dK kvs)) : ∃ o es ep, s.heap.get? a = some o ∧ o.cls = .type "dict" ∧ o.data = .dict es ep := by
  rcases r with ea | ⟨ob, ea⟩
  · obtain ⟨_, _, vs, _, o, es, ep, h1, h2, h3, _⟩ := (show ObjOk X.prog X.w H s.heap a (.dK kvs) from I.hok a _ ea)
    exact ⟨o, es, ep, h1, h2.1, h3⟩
  · obtain ⟨_, _, _, vs, _, o, es, ep, h1, h2, h3, _⟩ := (show ObjOk X.prog X.w H s.heap a (.frz ob (.dK kvs)) from I.hok a _ ea)
    exact ⟨o, es, ep, h1, h2.1, h3⟩
theorem str_ne_declines_obj (b : Str) (u : Tok) (l : Addr) (c : Value) (dd : Option Addr) (es : Array DictEntry) (ep : Nat) (sl : Array (Option Value)) : Meets (Builtin.«str.__ne__» ⟨[.str b u, .ref l], []⟩) (fun _ R s => s.heap.get? l = some { cls := c, dict := dd, data := .dict es ep, slots := sl } ∧ R (.ok (.ret .notImplemented)) s) :=
  .of_wp fun prog w A R s h => by
    obtain ⟨hp, g, d, tk, os⟩ := s; obtain ⟨hl, h⟩ := h
    wp_walk using wpAny_load hl
    exact ⟨_, rfl, h⟩
theorem op_neDS (hu : X.A.units < cLine) : OpR X (compareOp .NotEq) (rEqDS true) := by
  intro pins s σ H x y v u Q I rx ry h
  obtain ⟨a, kvs, t, rfl, rfl, ha, q⟩ := h
  obtain ⟨⟨cls, dd, data, sl⟩, es, ep, ho, hc, hd⟩ := ha.dictAt I
  simp only at hc hd
  subst hc hd
  obtain rfl : v = Value.ref a := rx
  obtain ⟨tk, rfl⟩ := (show ∃ tk, u = Value.str t tk from ry)
  refine PySem.SeqAt.rc_ne_decline_or (k := false) (Ta := "dict") (Tb := "str") ⟨_, ho, rfl⟩ (PySem.typeIs_str s t tk) (by decide) PySem.F.sub_str_dict PySem.F.slot_dict_ne PySem.F.slot_str_ne_refl
    (fun Q' hq => PySem.wpAny_call_entry PySem.F.slot_dict_ne ⟨_, ho, rfl⟩ PySem.F.entry_dict_ne ?_ (PySem.F.args_dict_ne_2 _ _))
    (fun Q' hq => PySem.call_meets PySem.F.slot_str_ne_refl (PySem.typeIs_str s t tk) PySem.F.entry_str_ne (PySem.F.args_str_ne_2 _ _) (str_ne_declines_obj t tk a _ dd es ep sl) ⟨ho, hq⟩)
    (fun Q' hq => PySem.wpAny_of_eq (rfl : isSame (.ref a) (.str t tk) = pure false) hq) (.inr hu) ⟨.bl _, H, I, rfl, q⟩
  show wpAny _ _ (Builtin.Dict.dictSlotArgs "__ne__" ⟨[.ref a, .str t tk], []⟩ >>= _) _ _ s
  refine wpAny_bind ?_
  unfold Builtin.Dict.dictSlotArgs
  refine wpAny_bind (wpAny_notOrdered_dict ⟨_, ho, rfl⟩ ?_)
  show wpAny _ _ (pure (Value.ref a, Value.str t tk)) _ _ s
  refine wpAny_pure ?_
  refine wpAny_bind (wpAny_isInstance (T := "str") (PySem.typeIs_str s t tk) PySem.F.sub_str_dict ?_)
  simp only [Bool.not_false, if_true]
  refine wpAny_bind (wpAny_rule ?_)
  exact wpAny_bind (wpAny_pure (wpAny_pure ⟨_, rfl, hq⟩))
theorem str_eq_declines_obj (b : Str) (u : Tok) (l : Addr) (c : Value) (dd : Option Addr) (es : Array DictEntry) (ep : Nat) (sl : Array (Option Value)) : Meets (Builtin.«str.__eq__» ⟨[.str b u, .ref l], []⟩) (fun _ R s => s.heap.get? l = some { cls := c, dict := dd, data := .dict es ep, slots := sl } ∧ R (.ok (.ret .notImplemented)) s) :=
  .of_wp fun prog w A R s h => by
    obtain ⟨hp, g, d, tk, os⟩ := s; obtain ⟨hl, h⟩ := h
    wp_walk using wpAny_load hl
    exact ⟨_, rfl, h⟩
theorem op_eqDS (hu : X.A.units < cLine) : OpR X (compareOp .Eq) (rEqDS false) := by
  intro pins s σ H x y v u Q I rx ry h
  obtain ⟨a, kvs, t, rfl, rfl, ha, q⟩ := h
  obtain ⟨⟨cls, dd, data, sl⟩, es, ep, ho, hc, hd⟩ := ha.dictAt I
  simp only at hc hd
  subst hc hd
  obtain rfl : v = Value.ref a := rx
  obtain ⟨tk, rfl⟩ := (show ∃ tk, u = Value.str t tk from ry)
  refine PySem.SeqAt.rc_eq_decline_or (k := false) (Ta := "dict") (Tb := "str") ⟨_, ho, rfl⟩ (PySem.typeIs_str s t tk) (by decide) PySem.F.sub_str_dict PySem.F.slot_dict_eq PySem.F.slot_str_eq_refl
    (fun Q' hq => PySem.wpAny_call_entry PySem.F.slot_dict_eq ⟨_, ho, rfl⟩ PySem.F.entry_dict_eq ?_ (PySem.F.args_dict_eq_2 _ _))
    (fun Q' hq => PySem.call_meets PySem.F.slot_str_eq_refl (PySem.typeIs_str s t tk) PySem.F.entry_str_eq (PySem.F.args_str_eq_2 _ _) (str_eq_declines_obj t tk a _ dd es ep sl) ⟨ho, hq⟩)
    (fun Q' hq => PySem.wpAny_of_eq (rfl : isSame (.ref a) (.str t tk) = pure false) hq) (.inr hu) ⟨.bl _, H, I, rfl, q⟩
  show wpAny _ _ (Builtin.Dict.dictSlotArgs "__eq__" ⟨[.ref a, .str t tk], []⟩ >>= _) _ _ s
  refine wpAny_bind ?_
  unfold Builtin.Dict.dictSlotArgs
  refine wpAny_bind (wpAny_notOrdered_dict ⟨_, ho, rfl⟩ ?_)
  show wpAny _ _ (pure (Value.ref a, Value.str t tk)) _ _ s
  refine wpAny_pure ?_
  refine wpAny_bind (wpAny_isInstance (T := "str") (PySem.typeIs_str s t tk) PySem.F.sub_str_dict ?_)
  simp only [Bool.not_false, if_true]
  refine wpAny_bind (wpAny_rule ?_)
  exact wpAny_bind (wpAny_pure (wpAny_pure ⟨_, rfl, hq⟩))
end
end L2


namespace Ti
open PySem PySem.Spec PyProof.Rows L2
mutual
theorem toP_depth : ∀ {d : Nat} {a : W}, isDat d a = true → (toP a).depth ≤ d
  | _, .non, _ => Nat.zero_le _
  | _, .bl _, _ => Nat.zero_le _
  | _, .int _, _ => Nat.zero_le _
  | _, .str x, h => Nat.zero_le _
  | d, .tup xs, h => by
    cases d with
    | zero => cases h
    | succ d => exact Nat.succ_le_succ (toPs_depth (show areDat d xs = true from h))
  | d, .lst xs, h => by
    cases d with
    | zero => cases h
    | succ d => exact Nat.succ_le_succ (toPs_depth (show areDat d xs = true from h))
  | _, .dic _ _, h => by cases h
  | _, .obj _ _, h => by cases h
  | _, .err _ _, h => by cases h
  | _, .ref _, h => by cases h
  | _, .scr _, h => by cases h
theorem toPs_depth : ∀ {d : Nat} {a : List W}, areDat d a = true → PyData.depthAll (toPs a) ≤ d
  | _, [], _ => Nat.zero_le _
  | d, x :: xs, h => by
    have h : (isDat d x && areDat d xs) = true := h
    rw [Bool.and_eq_true] at h
    exact Nat.max_le.mpr ⟨toP_depth h.1, toPs_depth h.2⟩
end
theorem toP_shaped {d : Nat} {a : W} (hd : d ≤ 64) (h : isDat d a = true) : SeqAt.shaped (toP a) = true := by
  unfold SeqAt.shaped
  rw [toP_can h, decide_eq_true (Nat.le_trans (toP_depth h) hd)]
  rfl
section
variable {X : Cx} {K : PySem.W.Frag} {cm : Cm} {mu : List Addr} {Z H : Hp} {h h' : Hh} {w w1 w2 : W} {v v1 v2 : V} {Q : VK}
theorem look_Dp (r : RelH K cm mu Z H h) {d : Nat} (q : RW K cm mu Z w v) (e : isDat d (look h w) = true) : Dp K H v (toP (look h w)) := by
  cases w with
  | ref i =>
    obtain ⟨a, rfl, m⟩ := q
    have e : isDat d (match h[i]? with | some c => c.tree | none => W.ref i) = true := e
    show Dp K H (.ref a) (toP (match h[i]? with | some c => c.tree | none => W.ref i))
    cases e1 : h[i]? with
    | none => rw [e1] at e; cases e
    | some c =>
      rw [e1] at e
      have cr := r.at_ m e1
      cases c with
      | lst ws =>
        obtain ⟨_, n, vs, e2, rs⟩ := (show Z a = none ∧ nors ws = true ∧ ∃ vs, H a = some (.lst vs) ∧ RWs K cm [] Z ws vs from cr)
        cases d with
        | zero => cases e
        | succ d => exact .lst (SqL.of e2) (toPs_Dp (cm := cm) r (show areDat d ws = true from e) (RWs.any n rs))
      | dic _ _ => cases e
      | obj _ _ => cases e
      | frz w =>
        obtain ⟨n, q2⟩ := (show nor w = true ∧ RW K cm [] Z w (.ref a) from cr)
        exact toP_Dp (cm := cm) r e (RW.any n q2)
  | _ => exact toP_Dp (cm := cm) r e q
theorem len_ne (r : RelH K cm mu Z H h) (q1 : RW K cm mu Z w1 v1) (q2 : RW K cm mu Z w2 v2) {k : Bool} (e : lenNe h w1 w2 = some k) : k = false ∧ ((∃ a b xs ys, v1 = .ref a ∧ v2 = .ref b ∧ SqL K H a xs ∧ SqL K H b ys ∧ xs.length ≠ ys.length) ∨ ∃ a kvs t, v1 = .ref a ∧ v2 = .str t ∧ Rd H a (.dK kvs)) := by
  unfold lenNe at e
  split at e
  · rename_i xs ys e1 e2
    split at e
    · cases e
    · rename_i hl
      cases e
      obtain ⟨a, vs, rfl, z1, s1⟩ := asL_ok r q1 e1
      obtain ⟨b, us, rfl, z2, s2⟩ := asL_ok r q2 e2
      exact ⟨rfl, .inl ⟨a, b, vs, us, rfl, rfl, SqL.of z1, SqL.of z2, fun z => hl (by rw [← s1.length, ← s2.length, z])⟩⟩
  · split at e
    · rename_i kvs t e1 _
      cases e
      obtain ⟨a, rfl, _, q⟩ := asD_ok r q1 e1
      obtain ⟨ks, vs, _, q3, _, _⟩ := (show ∃ ks vs, KeysK (kvs.map (·.1)) ks ∧ Rd H a (.dK (ks.zip vs)) ∧ ks.length = vs.length ∧ RWk K cm mu Z kvs vs from q)
      exact ⟨rfl, .inr ⟨a, _, t, rfl, q2, q3⟩⟩
    · cases e
def rEqX (K : PySem.W.Frag) : R2 := fun x y H Q => rEqD K x y H Q ∨ (rEqL K false x y H Q ∨ rEqDS false x y H Q)
def rNeX (K : PySem.W.Frag) : R2 := fun x y H Q => rNeD K x y H Q ∨ (rEqL K true x y H Q ∨ rEqDS true x y H Q)
theorem op_eqX (hu : X.A.units + 64 < cLine) : OpR X (compareOp .Eq) (rEqX X.K) := by
  intro pins s σ H x y v u Q I rx ry h
  rcases h with h | h | h
  · exact op_eqD hu pins s σ H x y v u Q I rx ry h
  · exact op_eqL (by omega) pins s σ H x y v u Q I rx ry h
  · exact op_eqDS (by omega) pins s σ H x y v u Q I rx ry h
theorem op_neX (hu : X.A.units + 64 < cLine) : OpR X (compareOp .NotEq) (rNeX X.K) := by
  intro pins s σ H x y v u Q I rx ry h
  rcases h with h | h | h
  · exact op_neD hu pins s σ H x y v u Q I rx ry h
  · exact op_neL (by omega) pins s σ H x y v u Q I rx ry h
  · exact op_neDS (by omega) pins s σ H x y v u Q I rx ry h
theorem ok_eq : Ok2 K cm pEq (rEqX K) := by
  intro mu Z H h w1 w2 w h' v1 v2 Q r q1 q2 e f
  obtain ⟨k, e1, rfl, rfl⟩ := bg_o (f := id) e
  unfold eqB at e1
  split at e1
  · rename_i hd
    cases e1
    rw [Bool.and_eq_true] at hd
    refine .inl ⟨_, _, look_Dp r q1 hd.1, look_Dp r q2 hd.2, toP_shaped (by decide) hd.1, toP_shaped (by decide) hd.2, ?_⟩
    rw [toP_eqv hd.1 hd.2]
    exact f.here r rfl
  · obtain ⟨rfl, ⟨a, b, xs, ys, rfl, rfl, s1, s2, hl⟩ | ⟨a, kvs, t, rfl, rfl, s1⟩⟩ := len_ne r q1 q2 e1
    · exact .inr (.inl ⟨a, b, xs, ys, rfl, rfl, s1, s2, hl, f.here r rfl⟩)
    · exact .inr (.inr ⟨a, kvs, t, rfl, rfl, s1, f.here r rfl⟩)
theorem ok_ne : Ok2 K cm pNe (rNeX K) := by
  intro mu Z H h w1 w2 w h' v1 v2 Q r q1 q2 e f
  obtain ⟨k, e1, rfl, rfl⟩ := bg_o (f := (! ·)) e
  unfold eqB at e1
  split at e1
  · rename_i hd
    cases e1
    rw [Bool.and_eq_true] at hd
    refine .inl ⟨_, _, look_Dp r q1 hd.1, look_Dp r q2 hd.2, toP_shaped (by decide) hd.1, toP_shaped (by decide) hd.2, ?_⟩
    rw [toP_eqv hd.1 hd.2]
    exact f.here r rfl
  · obtain ⟨rfl, ⟨a, b, xs, ys, rfl, rfl, s1, s2, hl⟩ | ⟨a, kvs, t, rfl, rfl, s1⟩⟩ := len_ne r q1 q2 e1
    · exact .inr (.inl ⟨a, b, xs, ys, rfl, rfl, s1, s2, hl, f.here r rfl⟩)
    · exact .inr (.inr ⟨a, kvs, t, rfl, rfl, s1, f.here r rfl⟩)

mutual
theorem key_flat {q : Key} : ∀ {w : W} {v : V} {k : HK}, RW K cm mu Z w v → keyOf w = some k → k.key = some q → v = kV q
  | .int i, _, _, h, e, eq => by cases h; cases e; cases eq; rfl
  | .str x, _, _, h, e, eq => by cases h; cases e; cases eq; rfl
  | .non, _, _, _, e, eq => by cases e; cases eq
  | .tup ws, _, _, _, e, eq => by
    unfold keyOf at e
    cases e1 : keysOf ws with
    | none => rw [e1] at e; cases e
    | some ks => rw [e1] at e; cases e; cases eq
  | .bl _, _, _, _, e, _ => by cases e
  | .lst _, _, _, _, e, _ => by cases e
  | .dic _ _, _, _, _, e, _ => by cases e
  | .obj _ _, _, _, _, e, _ => by cases e
  | .err _ _, _, _, _, e, _ => by cases e
  | .ref _, _, _, _, e, _ => by cases e
  | .scr _, _, _, _, e, _ => by cases e
end
theorem keys_flat : ∀ {ws : List W} {vs : List V} {ks : List HK} {qs : List Key}, RWs K cm mu Z ws vs → keysOf ws = some ks → KeysK ks qs → vs = qs.map kV
  | [], _, _, _, h, e, r => by
    cases e
    cases (show _ = [] from h)
    cases r
    rfl
  | w :: ws, _, _, _, h, e, r => by
    unfold keysOf at e
    split at e
    · rename_i a b e1 e2
      cases e
      obtain ⟨v, vr, rfl, h1, h2⟩ := h
      cases r with
      | cons r1 r2 => rw [List.map_cons, key_flat h1 e1 r1, keys_flat h2 e2 r2]
    · cases e
theorem fits_key {k : HK} (e : k.fits false = true) : ∃ q, k.key = some q := by
  cases k with
  | int i => exact ⟨_, rfl⟩
  | str x => exact ⟨_, rfl⟩
  | tup ks => cases e
  | non => cases e
theorem flat_keys : ∀ {ks : List HK}, ks.all HK.flat = true → ∃ qs, KeysK ks qs
  | [], _ => ⟨[], .nil⟩
  | k :: ks, e => by
    rw [List.all_cons, Bool.and_eq_true] at e
    obtain ⟨qs, r⟩ := flat_keys e.2
    cases k with
    | int i => exact ⟨_, .cons rfl r⟩
    | str x => exact ⟨_, .cons rfl r⟩
    | _ => cases e.1
theorem fits_keys {k : HK} (e : k.fits true = true) : ∃ ks qs, k = .tup ks ∧ KeysK ks qs := by
  cases k with
  | tup ks =>
    obtain ⟨qs, r⟩ := flat_keys (show ks.all HK.flat = true from e)
    exact ⟨ks, qs, rfl, r⟩
  | _ => cases e
theorem key_inj : ∀ {a b : HK} {p : Key}, a.key = some p → b.key = some p → a = b := by
  intro a b p ha hb
  cases a <;> first | (cases ha; done) | (cases ha; cases b <;> first | (cases hb; done) | (cases hb; rfl))
theorem keysK_inj : ∀ {a b : List HK} {p : List Key}, KeysK a p → KeysK b p → a = b
  | [], _, _, .nil, r => by cases r; rfl
  | _ :: _, _, _, .cons h1 h2, r => by
    cases r with
    | cons g1 g2 => rw [key_inj h1 g1, keysK_inj h2 g2]
theorem keysK_fun : ∀ {a : List HK} {p q : List Key}, KeysK a p → KeysK a q → p = q
  | [], _, _, .nil, r => by cases r; rfl
  | _ :: _, _, _, .cons h1 h2, r => by
    cases r with
    | cons g1 g2 => rw [Option.some.inj (h1.symm.trans g1), keysK_fun h2 g2]
def RO (K : PySem.W.Frag) (cm : Cm) (mu : List Addr) (Z : Hp) : Option W → Option V → Prop
  | some w, some v => RW K cm mu Z w v
  | none, none => True
  | _, _ => False
theorem dget_K {k : HK} {q : Key} (hk : k.key = some q) : ∀ {kvs : List (HK × W)} {ks : List Key} {vs : List V}, KeysK (kvs.map (·.1)) ks → ks.length = vs.length → RWk K cm mu Z kvs vs → RO K cm mu Z (dget kvs k) (valV (ks.zip vs) q)
  | [], _, _, .nil, _, r => by
    cases (show _ = [] from r)
    exact True.intro
  | (k0, w0) :: kvs, _, _, .cons h1 h2, hl, r => by
    obtain ⟨v, vr, rfl, r1, r2⟩ := r
    rename_i q0 qs
    have ih := dget_K hk h2 (Nat.succ.inj hl) r2
    rw [List.zip_cons_cons]
    by_cases e : k0 = k
    · subst e
      have eq : q0 = q := Option.some.inj (h1.symm.trans hk)
      subst eq
      rw [valV_pos rfl]
      unfold dget
      rw [List.find?_cons, decide_eq_true rfl]
      exact r1
    · have ne : ¬ q0 = q := fun z => by
        subst z
        exact e (key_inj h1 hk)
      rw [valV_neg ne]
      unfold dget
      rw [List.find?_cons, decide_eq_false (show ¬ ((k0, w0) : HK × W).1 = k from e)]
      exact ih
theorem dget_T {ks0 : List HK} {q : List Key} (hk : KeysK ks0 q) : ∀ {kvs : List (HK × W)} {ks : List (List Key)} {vs : List V}, KeysT (kvs.map (·.1)) ks → ks.length = vs.length → RWk K cm mu Z kvs vs → RO K cm mu Z (dget kvs (.tup ks0)) (valV (ks.zip vs) q)
  | [], _, _, .nil, _, r => by
    cases (show _ = [] from r)
    exact True.intro
  | (k0, w0) :: kvs, _, _, .cons h1 h2, hl, r => by
    obtain ⟨v, vr, rfl, r1, r2⟩ := r
    obtain ⟨l0, e0, h1⟩ := h1
    have e0 : k0 = .tup l0 := e0
    rename_i q0 qs0 _
    have ih := dget_T hk h2 (Nat.succ.inj hl) r2
    rw [List.zip_cons_cons]
    by_cases e : l0 = ks0
    · subst e
      have eq : q0 = q := keysK_fun h1 hk
      subst eq
      rw [valV_pos rfl]
      unfold dget
      rw [List.find?_cons, decide_eq_true (show ((k0, w0) : HK × W).1 = _ from e0)]
      exact r1
    · have ne : ¬ q0 = q := fun z => by
        subst z
        exact e (keysK_inj h1 hk)
      rw [valV_neg ne]
      unfold dget
      rw [List.find?_cons, decide_eq_false (show ¬ ((k0, w0) : HK × W).1 = .tup ks0 from fun z => by
        rw [show ((k0, w0) : HK × W).1 = .tup l0 from e0] at z
        exact e (HK.tup.inj z))]
      exact ih
theorem dic_get (r : RelH K cm mu Z H h) (q1 : RW K cm mu Z w1 v1) (q2 : RW K cm mu Z w2 v2) {kd : Bool} {kvs : List (HK × W)} {k : HK} (e1 : asD h w1 = some (kd, kvs)) (e2 : keyOf w2 = some k) (e3 : k.fits kd = true) :
    ∃ a o, v1 = .ref a ∧ DGet H a v2 o ∧ RO K cm mu Z (dget kvs k) o := by
  obtain ⟨a, ev, _, hd⟩ := asD_ok r q1 e1
  cases kd with
  | false =>
    obtain ⟨ks, vs, h1, h2, h3, h4⟩ := (show ∃ ks vs, KeysK (kvs.map (·.1)) ks ∧ Rd H a (.dK (ks.zip vs)) ∧ ks.length = vs.length ∧ RWk K cm mu Z kvs vs from hd)
    obtain ⟨q, hq⟩ := fits_key e3
    exact ⟨a, _, ev, .inl ⟨_, q, h2, key_flat q2 e2 hq, rfl⟩, dget_K hq h1 h3 h4⟩
  | true =>
    obtain ⟨ks, vs, h1, h2, h3, h4⟩ := (show ∃ ks vs, KeysT (kvs.map (·.1)) ks ∧ Rd H a (.dT (ks.zip vs)) ∧ ks.length = vs.length ∧ RWk K cm mu Z kvs vs from hd)
    obtain ⟨l, q, rfl, hq⟩ := fits_keys e3
    cases w2 with
    | tup ws =>
      unfold keyOf at e2
      cases e4 : keysOf ws with
      | none => rw [e4] at e2; cases e2
      | some ks2 =>
        rw [e4] at e2
        cases e2
        obtain ⟨b, xs, rfl, z, rs⟩ := q2
        refine ⟨a, _, ev, .inr ⟨_, q, b, h2, rfl, ?_, rfl⟩, dget_T hq h1 h3 h4⟩
        rw [r.tupZ z, keys_flat rs e4 hq]
    | _ => cases e2

def rInX (K : PySem.W.Frag) (neg : Bool) : R2 := fun x y H Q => ((∃ (c : Nat) (z : Str), x = .str ⟨#[c]⟩ ∧ y = .str z ∧ Q (.bl (if neg then !decide (c ∈ z.cps.toList) else decide (c ∈ z.cps.toList))) H) ∨
  (∃ d ds, Dp K H x d ∧ Dp K H y (.list ds) ∧ SeqAt.shaped d = true ∧ SeqAt.shaped (.list ds) = true ∧ Q (.bl (if neg then !(ds.any fun z => PyData.eqv z d) else ds.any fun z => PyData.eqv z d)) H)) ∨
  rIn K neg x y H Q ∨ (∃ a o, y = .ref a ∧ DGet H a x o ∧ Q (.bl (if neg then !o.isSome else o.isSome)) H) ∨ ∃ a kvs, x = .non ∧ y = .ref a ∧ Rd H a (.dK kvs) ∧ Q (.bl neg) H
theorem leaf_map {P : Program} {w : World} {h : Heap} {a : Addr} {f : Key → Option Value} (m : h.MapOf (mixKind P w) a f) : ∃ g, h.MapOf (leafKind P w) a g ∧ g .none = none := by
  obtain ⟨o, es, ep, h1, h2, h3, h4, _⟩ := m
  refine ⟨fun k => findBy (leafKind P w).is es k, ⟨o, es, ep, h1, h2, h3, fun e he => ?_, fun k => rfl⟩, ?_⟩
  · obtain ⟨k, k1, k2⟩ := h4 e he
    rcases keyIs_shape k1 with ⟨i, t, rfl, ev⟩ | ⟨x, t, rfl, ev⟩
    · exact ⟨.num i, by rw [ev]; exact decide_eq_true rfl, k2⟩
    · exact ⟨.text x, by rw [ev]; show Value.isStrOf x (.str x t) = true; simp [Value.isStrOf], k2⟩
  · show (es.find? fun e => (leafKind P w).is .none e.key).map (·.val) = none
    rw [Option.map_eq_none_iff, Array.find?_eq_none]
    intro e he
    obtain ⟨k, k1, _⟩ := h4 e he
    rcases keyIs_shape k1 with ⟨i, t, rfl, ev⟩ | ⟨x, t, rfl, ev⟩
    · rw [ev]; exact Bool.false_ne_true
    · rw [ev]; exact Bool.false_ne_true
theorem d_inNon {neg : Bool} {op : CmpOp} (ho : op = if neg then .NotIn else .In) {pins : List (Addr × Obj)} {σ : L2.St} {s : Shared} {H : Hp} {a : Addr} {kvs : List (Key × V)} {Q : Value → Shared → Prop} {E : Value → Shared → Prop} (I : Inv X pins σ H s) (e : Rd H a (.dK kvs)) (h : ∀ s', Inv X pins σ H s' → Q (.bool neg) s') :
    wpAny (model X.prog X.w) X.A (compareOp op .none (.ref a)) Q E s := by
  obtain ⟨z, hd, vs, rel, dd⟩ := dk_rd I.hok e
  obtain ⟨g, hm, hg⟩ := leaf_map dd.mapOf
  cases neg with
  | false =>
    subst ho
    refine wpAny_in_of (knd := leafKind X.prog X.w) (key := .none) (k := .none) rfl hd hm ?_
    rw [hg]
    exact h _ (I.tok _)
  | true =>
    subst ho
    refine wpAny_notIn_of (knd := leafKind X.prog X.w) (key := .none) (k := .none) rfl hd hm ?_
    rw [hg]
    exact h _ (I.tok _)
theorem op_inX (hu : X.A.units + 65 < cLine) : OpR X (compareOp .In) (rInX X.K false) := by
  intro pins s σ H x y v u Q I rx ry q
  rcases q with (q | q) | q | ⟨a, o, rfl, g, q⟩ | ⟨a, kvs, rfl, rfl, g, q⟩
  · exact op_in_sign pins s σ H x y v u Q I rx ry q
  · exact op_inD hu pins s σ H x y v u Q I rx ry q
  · exact op_in_seq pins s σ H x y v u Q I rx ry q
  · cases (show u = Value.ref a from ry)
    exact d_in (by omega) I g rx fun s' I' => ⟨.bl o.isSome, H, I', rfl, q⟩
  · cases (show u = Value.ref a from ry)
    cases (show v = Value.none from rx)
    exact d_inNon (neg := false) rfl I g fun s' I' => ⟨.bl false, H, I', rfl, q⟩
theorem op_niX (hu : X.A.units + 65 < cLine) : OpR X (compareOp .NotIn) (rInX X.K true) := by
  intro pins s σ H x y v u Q I rx ry q
  rcases q with (q | q) | q | ⟨a, o, rfl, g, q⟩ | ⟨a, kvs, rfl, rfl, g, q⟩
  · exact op_notIn_sign pins s σ H x y v u Q I rx ry q
  · exact op_notInD hu pins s σ H x y v u Q I rx ry q
  · exact op_notIn_seq pins s σ H x y v u Q I rx ry q
  · cases (show u = Value.ref a from ry)
    exact d_notIn (by omega) I g rx fun s' I' => ⟨.bl (!o.isSome), H, I', rfl, q⟩
  · cases (show u = Value.ref a from ry)
    cases (show v = Value.none from rx)
    exact d_inNon (neg := true) rfl I g fun s' I' => ⟨.bl true, H, I', rfl, q⟩
theorem any_P {d : Nat} {u : W} (hu : isDat 60 u = true) : ∀ {ws : List W}, areDat 60 ws = true → ((toPs ws).any fun z => PyData.eqv z (toP u)) = ws.any fun w => beq w u
  | [], _ => rfl
  | w :: ws, h => by
    have h : (isDat 60 w && areDat 60 ws) = true := h
    rw [Bool.and_eq_true] at h
    show (PyData.eqv (toP w) (toP u) || (toPs ws).any _) = (beq w u || ws.any _)
    rw [toP_eqv h.1 hu, any_P (d := d) hu h.2]
theorem flat_V {w : W} {v : V} (e : isDat 0 w = true) (q : RW K cm mu Z w v) : flatV v = true := by
  cases w with
  | non => cases q; rfl
  | bl _ => cases q; rfl
  | int _ => cases q; rfl
  | str _ => cases q; rfl
  | _ => cases e
theorem beq_V {w u : W} {v x : V} (e1 : isDat 0 w = true) (e2 : isDat 0 u = true) (q1 : RW K cm mu Z w v) (q2 : RW K cm mu Z u x) : eqV v x = beq w u := by
  cases w <;> first | (cases e1; done) | (cases u <;> first | (cases e2; done) | (cases q1; cases q2; first | rfl | skip))
theorem any_V {u : W} {x : V} (e2 : isDat 0 u = true) (q2 : RW K cm mu Z u x) : ∀ {ws : List W} {vs : List V}, areDat 0 ws = true → RWs K cm mu Z ws vs → vs.all flatV = true ∧ inV x vs = ws.any fun w => beq w u
  | [], _, _, q => by
    cases (show _ = [] from q)
    exact ⟨rfl, rfl⟩
  | w :: ws, _, h, q => by
    have h : (isDat 0 w && areDat 0 ws) = true := h
    rw [Bool.and_eq_true] at h
    obtain ⟨v, r, rfl, r1, r2⟩ := q
    obtain ⟨i1, i2⟩ := any_V e2 q2 h.2 r2
    refine ⟨?_, ?_⟩
    · rw [List.all_cons, flat_V h.1 r1, i1]
      rfl
    · show (eqV v x || inV x r) = (beq w u || _)
      rw [beq_V h.1 e2 r1 q2, i2]
end
end Ti


namespace Ti
open PySem PySem.Spec PyProof.Rows L2
section
variable {X : Cx} {K : PySem.W.Frag} {cm : Cm} {mu : List Addr} {Z H : Hp} {h h' : Hh} {w w1 w2 : W} {v v1 v2 : V} {Q : VK}
theorem RelH.scrZ (r : RelH K cm mu Z H h) {a : Addr} {xs : List V} (q : SqL K Z a xs) : SqL K H a xs := by
  rcases q with (q | ⟨o, q⟩) | q
  · exact .inl (.inl (r.zh a _ q))
  · exact .inl (.inr ⟨o, r.zh a _ q⟩)
  · exact .inr q
theorem RWs.ints : ∀ ns : List Int, RWs K cm mu Z (ns.map W.int) (ns.map V.int)
  | [] => rfl
  | n :: ns => ⟨.int n, ns.map V.int, rfl, rfl, RWs.ints ns⟩
theorem in_core {neg : Bool} {k : Bool} (r : RelH K cm mu Z H h) (q1 : RW K cm mu Z w1 v1) (q2 : RW K cm mu Z w2 v2) (e : inB h w1 w2 = some k) (f : Q (.bl (if neg then !k else k)) H) : rInX K neg v1 v2 H Q := by
  have gen : ∀ {u : W}, RW K cm mu Z u v2 → (match asL h u with
      | some ws => if isDat 60 (look h w1) && areDat 60 ws then some (ws.any fun w => beq w (look h w1)) else none
      | none => match asD h u with
        | some (kd, kvs) => if isNon w1 then (if kd then none else some false) else match keyOf w1 with
          | some k => if k.fits kd then some (dget kvs k).isSome else none
          | none => none
        | none => none) = some k → rInX K neg v1 v2 H Q := fun {u} q2 e => by
    split at e
    · rename_i ws e1
      split at e
      · rename_i hd
        cases e
        rw [Bool.and_eq_true] at hd
        obtain ⟨a, vs, rfl, ha, rs⟩ := asL_ok r q2 e1
        refine .inl (.inr ⟨toP (look h w1), toPs ws, look_Dp r q1 hd.1, .lst (SqL.of ha) (toPs_Dp r hd.2 rs), toP_shaped (by decide) hd.1, toP_shaped (d := 61) (a := .lst ws) (by decide) hd.2, ?_⟩)
        rw [any_P (d := 60) hd.1 hd.2]
        exact f
      · cases e
    · split at e
      · rename_i kd kvs e2
        split at e
        · rename_i hn
          cases kd with
          | true => cases e
          | false =>
            cases e
            have hw : w1 = .non := by cases w1 <;> first | rfl | cases hn
            subst hw
            cases q1
            obtain ⟨a, ev, _, hd⟩ := asD_ok r q2 e2
            obtain ⟨ks, vs, h1, h2, h3, h4⟩ := (show ∃ ks vs, KeysK (kvs.map (·.1)) ks ∧ Rd H a (.dK (ks.zip vs)) ∧ ks.length = vs.length ∧ RWk K cm mu Z kvs vs from hd)
            exact .inr (.inr (.inr ⟨a, _, rfl, ev, h2, by cases neg <;> exact f⟩))
        split at e
        · rename_i hk e3
          split at e
          · rename_i e4
            cases e
            obtain ⟨a, o, ev, g, ro⟩ := dic_get r q2 q1 e2 e3 e4
            refine .inr (.inr (.inl ⟨a, o, ev, g, ?_⟩))
            have : (dget kvs hk).isSome = o.isSome := by
              cases e5 : dget kvs hk <;> cases o <;> rw [e5] at ro <;> first | rfl | cases ro
            rw [← this]
            exact f
          · cases e
        · cases e
      · cases e
  cases w2 with
  | str z =>
    cases w1 with
    | str c =>
      have e : (match sg c with | [k] => some (decide (k ∈ sg z)) | _ => none) = some k := e
      split at e
      · rename_i n e1
        cases e; cases q1; cases q2
        refine .inl (.inl ⟨n, z, ?_, rfl, f⟩)
        have : c = ⟨#[n]⟩ := by
          have : mkS (sg c) = mkS [n] := by rw [e1]
          exact this
        rw [this]
      · cases e
    | _ => cases e
  | tup ws =>
    have e : (if isDat 0 (look h w1) && areDat 0 ws then some (ws.any fun w => beq w (look h w1)) else none) = some k := e
    split at e
    · rename_i hd
      cases e
      rw [Bool.and_eq_true] at hd
      obtain ⟨a, vs, rfl, z, rs⟩ := q2
      have q1' : RW K cm mu Z (look h w1) v1 := by
        cases w1 with
        | ref i =>
          obtain ⟨b, rfl, m⟩ := q1
          have hd1 : isDat 0 (match h[i]? with | some c => c.tree | none => W.ref i) = true := hd.1
          show RW K cm mu Z (match h[i]? with | some c => c.tree | none => W.ref i) (.ref b)
          cases e1 : h[i]? with
          | none => rw [e1] at hd1; cases hd1
          | some c =>
            rw [e1] at hd1
            cases c with
            | frz u =>
              obtain ⟨n, q3⟩ := (show nor u = true ∧ RW K cm [] Z u (.ref b) from r.at_ m e1)
              exact RW.any n q3
            | _ => cases hd1
        | _ => exact q1
      obtain ⟨i1, i2⟩ := any_V hd.1 q1' hd.2 rs
      refine .inr (.inl ⟨a, vs, rfl, .inr (SqT.of (r.tupZ z)), flat_V hd.1 q1', i1, ?_⟩)
      rw [i2]
      exact f
    · cases e
  | _ => exact gen q2 e
theorem ok_in : Ok2 K cm pIn (rInX K false) := by
  intro mu Z H h w1 w2 w h' v1 v2 Q r q1 q2 e f
  obtain ⟨k, e1, rfl, rfl⟩ := bg_o (f := id) e
  exact in_core r q1 q2 e1 (f.here r rfl)
theorem ok_ni : Ok2 K cm pNi (rInX K true) := by
  intro mu Z H h w1 w2 w h' v1 v2 Q r q1 q2 e f
  obtain ⟨k, e1, rfl, rfl⟩ := bg_o (f := (! ·)) e
  exact in_core r q1 q2 e1 (f.here r rfl)

def rIxD : R2 := fun x y H Q => ∃ a v, x = .ref a ∧ DGet H a y (some v) ∧ Q v H
theorem ix_dict (hu : X.A.units + 1 < cLine) : IxR X rIxD := by
  intro value slice pins s σ H x y v u Q I rx ry hq hs
  obtain ⟨a, z, rfl, g, q⟩ := hq
  cases (show v = Value.ref a from rx)
  exact tail_any (dict_typeIs I g) (PySem.F.slot_dict_getitem.lookup) (d_getItem hu I g ry fun w' s' I' rw' => ⟨z, H, I', rw', q⟩) hs
def rIxX (K : PySem.W.Frag) : R2 := fun x y H Q => rIx K x y H Q ∨ rIxD x y H Q
theorem ix_X (hu : X.A.units + 1 < cLine) : IxR X (rIxX X.K) := ix_seq.or (ix_dict hu)
theorem place_at {α : Type} {xs : List α} {i : Int} {j : Nat} {v : α} (e : placeI xs.length i = some j) (e2 : xs[j]? = some v) : atI xs i = some v := by
  have : ixN xs.length i = some j := e
  unfold atI
  rw [this]
  exact e2
theorem ok_ix : Ok2 K cm pIx (rIxX K) := by
  intro mu Z H h w1 w2 w h' v1 v2 Q r q1 q2 e f
  obtain ⟨u, e1, e⟩ := Res.bind_eq_ok e
  cases e
  have e1 := ofO_eq_ok e1
  have gen : ∀ {u : W}, RW K cm mu Z u v1 → (match asL h u with
      | some ws => itemW ws w2
      | none => match asD h u with
        | some (kd, kvs) => entryW kd kvs w2
        | none => none) = some w → rIxX K v1 v2 H Q := fun {u} q1 e => by
    split at e
    · rename_i ws e2
      cases w2 with
      | int i =>
        obtain ⟨j, e3, e4⟩ := Option.bind_eq_some_iff.mp (show (placeI ws.length i).bind (fun j => ws[j]?) = some w from e)
        cases q2
        obtain ⟨a, vs, rfl, ha, rs⟩ := asL_ok r q1 e2
        obtain ⟨z, e5, qz⟩ := rs.get e4
        exact .inl (.inl ⟨a, vs, i, z, rfl, rfl, SqL.of ha, place_at (by rw [rs.length]; exact e3) e5, f.here r qz⟩)
      | _ => cases e
    · split at e
      · rename_i kd kvs e2
        unfold entryW at e
        split at e
        · rename_i hk e3
          split at e
          · rename_i e4
            obtain ⟨a, o, ev, g, ro⟩ := dic_get r q1 q2 e2 e3 e4
            rw [e] at ro
            cases o with
            | none => cases ro
            | some z => exact .inr ⟨a, z, ev, g, f.here r ro⟩
          · cases e
        · cases e
      · cases e
  cases w1 with
  | str z =>
    cases w2 with
    | int i =>
      have e1 : (if z.length ≤ lineW then (placeI (sg z).length i).bind fun j => (sg z)[j]?.map fun c => W.str (mkS [c]) else none) = some w := e1
      split at e1
      · rename_i hl
        obtain ⟨j, e3, e4⟩ := Option.bind_eq_some_iff.mp e1
        obtain ⟨c, e5, rfl⟩ := Option.map_eq_some_iff.mp e4
        cases q1; cases q2
        exact .inl (.inr (.inr ⟨z, i, c, rfl, rfl, hl, place_at e3 e5, f.here r rfl⟩))
      · cases e1
    | _ => cases e1
  | tup ws =>
    cases w2 with
    | int i =>
      obtain ⟨j, e3, e4⟩ := Option.bind_eq_some_iff.mp (show (placeI ws.length i).bind (fun j => ws[j]?) = some w from e1)
      cases q2
      obtain ⟨a, vs, rfl, z, rs⟩ := q1
      obtain ⟨y, e5, qz⟩ := rs.get e4
      exact .inl (.inr (.inl ⟨a, vs, i, y, rfl, rfl, SqT.of (r.tupZ z), place_at (by rw [rs.length]; exact e3) e5, f.here r qz⟩))
    | _ => cases e1
  | _ => exact gen q1 e1

theorem clamp_sIx (n d : Nat) (i : Int) : min n (clampI n i) = HT.sIx n d (some i) := by
  have e := HT.clip_eq i n d
  unfold clampI
  split at e <;> split <;> omega
theorem cutL_eq {α : Type} (l : List α) (lo hi : Option Int) : cutL l lo hi = (l.drop (HT.sIx l.length 0 lo)).take (HT.sIx l.length l.length hi - HT.sIx l.length 0 lo) := by
  have tk : ∀ n, l.take n = l.take (min l.length n) := fun n => by
    rcases Nat.le_total n l.length with h | h
    · rw [Nat.min_eq_right h]
    · rw [Nat.min_eq_left h, List.take_of_length_le h, List.take_length]
  have ehi : l.take (hiI l.length hi) = l.take (HT.sIx l.length l.length hi) := by
    cases hi with
    | none => rfl
    | some j => rw [tk]; rw [show hiI l.length (some j) = clampI l.length j from rfl, clamp_sIx l.length l.length j]
  unfold cutL
  rw [ehi]
  have dr : ∀ (m : List α) (n : Nat), m.length ≤ l.length → m.drop n = m.drop (min l.length n) := fun m n hm => by
    rcases Nat.le_total n l.length with h | h
    · rw [Nat.min_eq_right h]
    · rw [Nat.min_eq_left h, List.drop_of_length_le (by omega), List.drop_of_length_le (by omega)]
  have elo : (l.take (HT.sIx l.length l.length hi)).drop (loI l.length lo) = (l.take (HT.sIx l.length l.length hi)).drop (HT.sIx l.length 0 lo) := by
    cases lo with
    | none => rfl
    | some j => rw [dr _ _ (by rw [List.length_take]; omega), show loI l.length (some j) = clampI l.length j from rfl, clamp_sIx l.length 0 j]
  rw [elo, List.drop_take]
theorem cutL_map {α β : Type} (g : α → β) (l : List α) (lo hi : Option Int) : cutL (l.map g) lo hi = (cutL l lo hi).map g := by
  unfold cutL
  rw [List.map_drop, List.map_take, List.length_map]
theorem RWs.cut {ws : List W} {vs : List V} (q : RWs K cm mu Z ws vs) (lo hi : Option Int) : RWs K cm mu Z (cutL ws lo hi) (cutV vs lo hi) := by
  rw [cutL_eq]
  unfold cutV
  rw [q.length]
  exact (q.drop _).take _
def rSlX (K : PySem.W.Frag) : V → Option Int → Option Int → Hp → VK → Prop := fun x lo hi H Q => (rSlS x lo hi H Q ∨ rSlL K x lo hi H Q) ∨ rSlA K x lo hi H Q
theorem sl_X : SlR X (rSlX X.K) := (sl_str.or sl_list).or sl_tupA
inductive QO (X : Cx) (cm : Cm) : Option Expr → Bool → DE → Prop where
  | none {w : W} : QO X cm none false (eK w)
  | some {e : Expr} {m : DE} (h : QE X cm e m) : QO X cm (some e) true m
def tOO (K : PySem.W.Frag) (cm : Cm) (b : Bool) (m : DE) : TO := fun σ H Q => ∃ mu Z ρ h w h' o, RelH K cm mu Z H h ∧ Sl K cm mu Z ρ σ ∧ m ρ h = .ok (w, h') ∧ partI b w = some o ∧
  ∀ mu' Z' H', Ext mu Z H mu' Z' H' → RelH K cm mu' Z' H' h' → Q o H'
theorem PO.wk {e : Option Expr} {t t' : TO} (h : PO X e t) (i : ∀ σ H Q, t' σ H Q → t σ H Q) : PO X e t' := ⟨fun pins s σ H Q I q => h.run pins s σ H Q I (i σ H Q q)⟩
theorem QO.po {e : Option Expr} {b : Bool} {m : DE} (q : QO X cm e b m) : PO X e (tOO X.K cm b m) := by
  cases q with
  | none =>
    refine PO.wk po_none fun σ H Q q => ?_
    obtain ⟨mu, Z, ρ, h, w, h', o, rl, s, e, ep, f⟩ := q
    cases e
    cases ep
    exact f _ _ _ Ext.refl rl
  | some he =>
    refine PO.wk (po_some he) fun σ H Q q => ?_
    obtain ⟨mu, Z, ρ, h, w, h', o, rl, s, e, ep, f⟩ := q
    refine ⟨mu, Z, ρ, h, w, h', rl, s, e, fun mu1 Z1 H1 v1 x1 r1 w1 => ?_⟩
    cases w with
    | int i =>
      cases ep
      cases w1
      exact ⟨i, rfl, f _ _ _ x1 r1⟩
    | _ => cases ep
theorem q_sl {c : Bool} {a : Expr} {lo hi : Option Expr} {ma ml mh : DE} {bl bh : Bool} {p2 pos : Pos} (ha : QE X cm a ma) (hl : QO X cm lo bl ml) (hh : QO X cm hi bh mh) : QE X cm (.Subscript a (.Slice lo hi none p2) pos) (e3 (pSl c bl bh) ma ml mh) := by
  refine PE.wk (pe_slice sl_X ha hl.po hh.po) fun σ H Q q => ?_
  obtain ⟨mu, Z, ρ, h, w, h', rl, s, e, f⟩ := q
  obtain ⟨p1, e1, e⟩ := Res.bind_eq_ok e
  obtain ⟨p2, e2, e⟩ := Res.bind_eq_ok e
  obtain ⟨p3, e3, e⟩ := Res.bind_eq_ok e
  unfold pSl at e
  split at e
  · rename_i l r el er
    refine ⟨mu, Z, ρ, h, p1.1, p1.2, rl, s, e1, fun mu1 Z1 H1 v1 x1 r1 w1 => ?_⟩
    refine ⟨mu1, Z1, ρ, p1.2, p2.1, p2.2, l, r1, s.ext x1, e2, el, fun mu2 Z2 H2 x2 r2 => ?_⟩
    refine ⟨mu2, Z2, ρ, p2.2, p3.1, p3.2, r, r2, s.ext (x1.trans x2), e3, er, fun mu3 Z3 H3 x3 r3 => ?_⟩
    have w1 := w1.mono (x2.trans x3).z (x2.trans x3).m
    have f := f.ext (x1.trans (x2.trans x3))
    obtain ⟨u1, h1⟩ := p1
    have gen : ∀ {u : W}, RW X.K cm mu3 Z3 u v1 → (match asL p3.2 u with | some ws => mkL c (cutL ws l r) p3.2 | none => .bad) = .ok (w, h') → rSlX X.K v1 l r H3 Q := fun {u} q1 e => by
      split at e
      · rename_i ws e4
        obtain ⟨a, vs, rfl, ha, rs⟩ := asL_ok r3 q1 e4
        obtain ⟨_, hp⟩ := mkL_ok r3 (rs.cut l r) e f
        exact .inl (.inr ⟨a, vs, rfl, SqL.of ha, hp⟩)
      · cases e
    cases u1 with
    | str z =>
      have e : (if z.length ≤ lineW then Res.ok (W.str (mkS (cutL (sg z) l r)), p3.2) else .bad) = .ok (w, h') := e
      split at e
      · rename_i hz
        cases e; cases w1
        refine .inl (.inl ⟨z, rfl, hz, ?_⟩)
        have : cutS z l r = mkS (cutL (sg z) l r) := by
          rw [cutL_eq, ← len_sg]
          rfl
        rw [this]
        exact f.here r3 rfl
      · cases e
    | tup ws =>
      cases e
      obtain ⟨a, vs, rfl, z, rs⟩ := w1
      refine .inr ⟨a, vs, rfl, SqT.of (r3.tupZ z), fun hw => f.here r3 ⟨a, vs, rfl, z, ?_⟩, fun hw p hp => ?_⟩
      · have := rs.cut l r
        unfold cutV at this
        rw [hw.1, hw.2, List.drop_zero, Nat.sub_zero, List.take_length] at this
        exact this
      · obtain ⟨r', x⟩ := r3.newZ (o := .tup (cutV vs l r)) hp upd_same
        exact f _ _ _ _ x r' ⟨p, _, rfl, upd_same, (rs.cut l r).mono x.z x.m⟩
    | scr ns =>
      obtain ⟨a, rfl, q⟩ := w1
      have e : mkL c ((cutL ns l r).map .int) p3.2 = .ok (w, h') := e
      have : cutV (ns.map V.int) l r = (cutL ns l r).map V.int := by
        rw [← cutL_map, cutL_eq]
        rfl
      refine .inl (.inr ⟨a, ns.map V.int, rfl, r3.scrZ q, ?_⟩)
      rw [this]
      exact (mkL_ok r3 (RWs.ints _) e f).2
    | _ => exact gen w1 e
  · cases e
end
end Ti


namespace Ti
open PySem PySem.Spec PyProof.Rows L2
section
variable {X : Cx} {K : PySem.W.Frag} {cm : Cm} {mu : List Addr} {Z H : Hp} {h h' : Hh} {w w1 w2 : W} {v v1 v2 : V} {Q : VK}
theorem OkL.of1 {g : F1} {r : List V → Hp → VK → Prop} (k : Ok1 K cm g fun v H Q => r [v] H Q) : OkL K cm (l1 g) r := by
  intro mu Z H h ws w h' vs Q rl q e f
  match ws, e, q with
  | [a], e, q =>
    obtain ⟨v, rfl, q1⟩ := q.one
    exact k mu Z H h a w h' v Q rl q1 e f
  | [], e, _ => cases e
  | _ :: _ :: _, e, _ => cases e
theorem OkL.of2 {g : F2} {r : List V → Hp → VK → Prop} (k : Ok2 K cm g fun x y H Q => r [x, y] H Q) : OkL K cm (l2 g) r := by
  intro mu Z H h ws w h' vs Q rl q e f
  match ws, e, q with
  | [a, b], e, q =>
    obtain ⟨v, x, rfl, q1, q2⟩ := q.two
    exact k mu Z H h a b w h' v x Q rl q1 q2 e f
  | [], e, _ => cases e
  | [_], e, _ => cases e
  | _ :: _ :: _ :: _, e, _ => cases e
theorem tO_call {g : Fn} {ms : List DE} {r : List V → Hp → VK → Prop} (k : OkL K cm g r) (σ : L2.St) (H : Hp) (Q : VK) (q : tO K cm (eF g ms) σ H Q) : tCB r (tOL K cm ms) σ H Q := by
  obtain ⟨mu, Z, ρ, h, w, h', rl, s, e, f⟩ := q
  obtain ⟨p, e1, e⟩ := Res.bind_eq_ok e
  exact ⟨mu, Z, ρ, h, p.1, p.2, rl, s, e1, fun mu1 Z1 H1 vs x1 r1 w1 => k mu1 Z1 H1 p.2 p.1 w h' vs Q r1 w1 e (f.ext x1)⟩
theorem q_callB {id : String} {g : Fn} {r : List V → Hp → VK → Prop} {x : Str} {e : Expr} {es : List Expr} {ms : List DE} {p pos : Pos} (hc : CallR X (.builtin id) r) (k : OkL X.K cm g r) (hg : Gl X x) (hm : X.mg x = none) (hv : bootBuiltins x = some (.builtin id)) (ha : QL X cm (e :: es) ms) (hn : x ≠ "__name__") (hdb : (x == ("__debug__" : Str)) = false)
    (he : starEach (e :: es) X.env = (false, eval e X.env) :: starEach es X.env) (hpl : (backTo pos (starEach es X.env)).any (·.1) = false) : QE X cm (.Call (.Name x p) (e :: es) [] pos) (eF g ms) :=
  PE.wk (pe_callB hc hg hm hv ha hn hdb he hpl) fun σ H Q q => tO_call k σ H Q q
theorem q_callTy {T : String} {g : Fn} {r : List V → Hp → VK → Prop} {x : Str} {e : Expr} {es : List Expr} {ms : List DE} {p pos : Pos} (hc : CallR X (.type T) r) (k : OkL X.K cm g r) (hg : Gl X x) (hm : X.mg x = none) (hv : bootBuiltins x = some (.type T)) (ha : QL X cm (e :: es) ms) (hn : x ≠ "__name__") (hdb : (x == ("__debug__" : Str)) = false)
    (he : starEach (e :: es) X.env = (false, eval e X.env) :: starEach es X.env) (hpl : (backTo pos (starEach es X.env)).any (·.1) = false) : QE X cm (.Call (.Name x p) (e :: es) [] pos) (eF g ms) :=
  PE.wk (pe_callTy hc hg hm hv ha hn hdb he hpl) fun σ H Q q => tO_call k σ H Q q

def rLenD : List V → Hp → VK → Prop := fun xs H Q => ∃ d kvs, xs = [.ref d] ∧ Rd H d (.dK kvs) ∧ Q (.int kvs.length) H
theorem call_lenDk : CallR X (.builtin "len") rLenD := by
  intro pins s σ H xs us Q I r hq
  obtain ⟨d, kvs, rfl, hd, q⟩ := hq
  rw [Vals.ref1 r]
  exact d_len I hd fun t s' I' => ⟨.int kvs.length, H, I', ⟨_, rfl⟩, q⟩
def rLenX (K : PySem.W.Frag) : List V → Hp → VK → Prop := fun xs H Q => (∃ x n, xs = [x] ∧ LenV K x H n ∧ Q (.int n) H) ∨ rLenD xs H Q
theorem call_lenX : CallR X (.builtin "len") (rLenX X.K) := call_len.or call_lenDk
theorem ok_len : Ok1 K cm pLen fun v H Q => rLenX K [v] H Q := by
  intro mu Z H h w1 w h' v1 Q r q1 e f
  have gen : ∀ {u : W}, RW K cm mu Z u v1 → (match asL h u with
      | some ws => Res.ok (W.int ws.length, h)
      | none => match asD h u with
        | some (kd, kvs) => if kd then .bad else .ok (.int kvs.length, h)
        | none => .bad) = .ok (w, h') → rLenX K [v1] H Q := fun {u} q1 e => by
    split at e
    · rename_i ws e1
      cases e
      obtain ⟨a, vs, rfl, ha, rs⟩ := asL_ok r q1 e1
      refine .inl ⟨.ref a, ws.length, rfl, .inl ⟨vs, SqL.of ha, rs.length.symm⟩, f.here r rfl⟩
    · split at e
      · rename_i kd kvs e2
        split at e
        · cases e
        · rename_i hk
          cases e
          have hk : kd = false := by
            cases kd with
            | true => exact absurd rfl hk
            | false => rfl
          subst hk
          obtain ⟨a, rfl, _, hd⟩ := asD_ok r q1 e2
          obtain ⟨ks, vs, h1, h2, h3, h4⟩ := (show ∃ ks vs, KeysK (kvs.map (·.1)) ks ∧ Rd H a (.dK (ks.zip vs)) ∧ ks.length = vs.length ∧ RWk K cm mu Z kvs vs from hd)
          refine .inr ⟨a, _, rfl, h2, ?_⟩
          have : (ks.zip vs).length = kvs.length := by
            rw [List.length_zip, ← h3, Nat.min_self]
            have := Paired.length h1
            rw [List.length_map] at this
            exact this.symm
          rw [this]
          exact f.here r rfl
      · cases e
  cases w1 with
  | str z =>
    have e : (if z.length ≤ lineW then Res.ok (W.int z.length, h) else .bad) = .ok (w, h') := e
    split at e
    · rename_i hl
      cases e; cases q1
      exact .inl ⟨.str z, z.length, rfl, ⟨hl, rfl⟩, f.here r rfl⟩
    · cases e
  | tup ws =>
    cases e
    obtain ⟨a, vs, rfl, z, rs⟩ := q1
    exact .inl ⟨.ref a, ws.length, rfl, .inr ⟨vs, SqT.of (r.tupZ z), rs.length.symm⟩, f.here r rfl⟩
  | scr ns =>
    cases e
    obtain ⟨a, rfl, q⟩ := q1
    exact .inl ⟨.ref a, ns.length, rfl, .inl ⟨_, r.scrZ q, by rw [List.length_map]⟩, f.here r rfl⟩
  | _ => exact gen q1 e
def rIntX : List V → Hp → VK → Prop := fun xs H Q => ((∃ i, xs = [.int i] ∧ Q (.int i) H) ∨ ∃ k, xs = [.bl k] ∧ Q (.int (if k then 1 else 0)) H) ∨ ∃ a n, xs = [.str a] ∧ PySem.intText? a = some n ∧ a.length ≤ 640 ∧ Q (.int n) H
theorem call_intX : CallR X (.type "int") rIntX := call_int1.or call_int_str
theorem ok_int : Ok1 K cm pInt fun v H Q => rIntX [v] H Q := by
  intro mu Z H h w1 w h' v1 Q r q1 e f
  cases w1 with
  | int i => cases e; cases q1; exact .inl (.inl ⟨i, rfl, f.here r rfl⟩)
  | bl b => cases e; cases q1; exact .inl (.inr ⟨b, rfl, f.here r rfl⟩)
  | str z =>
    have e : (if (sg z).all isDig = true ∧ sg z ≠ [] ∧ z.length ≤ 640 then Res.ok (W.int (digsVal (sg z)), h) else .bad) = .ok (w, h') := e
    split at e
    · rename_i hc
      cases e; cases q1
      obtain ⟨h1, h2, h3⟩ := hc
      have ad : NumText.AllDigits z.cps.toList := fun c hcm => by
        have := List.all_eq_true.mp h1 c hcm
        unfold isDig at this
        rw [Bool.and_eq_true, decide_eq_true_eq, decide_eq_true_eq] at this
        exact this
      exact .inr ⟨z, _, rfl, PySem.intText_digits ad h2 (by omega), h3, f.here r rfl⟩
    · cases e
  | _ => cases e
theorem ok_str : Ok1 K cm pStr fun v H Q => (fun xs H Q => ∃ i : Int, xs = [V.int i] ∧ i.natAbs.log2 < 1920 ∧ Q (.str (toString i)) H) [v] H Q := by
  intro mu Z H h w1 w h' v1 Q r q1 e f
  cases w1 with
  | int i =>
    have e : (if 0 ≤ i ∧ i.natAbs.log2 < 1920 then Res.ok (W.str (mkS (Ti.numL i.toNat)), h) else .bad) = .ok (w, h') := e
    split at e
    · rename_i hc
      cases e; cases q1
      refine ⟨i, rfl, hc.2, ?_⟩
      have : (Str.ofString (toString i)) = mkS (Ti.numL i.toNat) := by
        have e1 := TL.tl_num i.toNat
        rw [Int.toNat_of_nonneg hc.1] at e1
        have : mkS (TL.tl (Str.ofString (toString i))) = mkS (Ti.numL i.toNat) := by
          rw [e1]
          rfl
        exact this
      have q := f.here (v := .str (mkS (Ti.numL i.toNat))) r rfl
      rw [← this] at q
      exact q
    · cases e
  | _ => cases e
theorem ok_max : Ok2 K cm pMax fun x y H Q => (fun xs H Q => ∃ i j : Int, xs = [V.int i, V.int j] ∧ Q (.int (if j > i then j else i)) H) [x, y] H Q := by
  intro mu Z H h w1 w2 w h' v1 v2 Q r q1 q2 e f
  cases w1 with
  | int i =>
    cases w2 with
    | int j => cases e; cases q1; cases q2; exact ⟨i, j, rfl, f.here r rfl⟩
    | _ => cases e
  | _ => cases e
theorem ok_min : Ok2 K cm pMin fun x y H Q => (fun xs H Q => ∃ i j : Int, xs = [V.int i, V.int j] ∧ Q (.int (if j < i then j else i)) H) [x, y] H Q := by
  intro mu Z H h w1 w2 w h' v1 v2 Q r q1 q2 e f
  cases w1 with
  | int i =>
    cases w2 with
    | int j => cases e; cases q1; cases q2; exact ⟨i, j, rfl, f.here r rfl⟩
    | _ => cases e
  | _ => cases e
theorem intsOf_ok : ∀ {ws : List W} {ns : List Int} {vs : List V}, intsOf ws = some ns → RWs K cm mu Z ws vs → vs = ns.map V.int
  | [], _, _, e, q => by cases e; exact q
  | .int i :: ws, _, _, e, q => by
    obtain ⟨ns, e1, rfl⟩ := Option.map_eq_some_iff.mp (show (intsOf ws).map (i :: ·) = some _ from e)
    obtain ⟨v, r, rfl, q1, q2⟩ := q
    cases q1
    rw [intsOf_ok e1 q2]
    rfl
  | .non :: _, _, _, e, _ => by cases e
  | .bl _ :: _, _, _, e, _ => by cases e
  | .str _ :: _, _, _, e, _ => by cases e
  | .tup _ :: _, _, _, e, _ => by cases e
  | .lst _ :: _, _, _, e, _ => by cases e
  | .dic _ _ :: _, _, _, e, _ => by cases e
  | .obj _ _ :: _, _, _, e, _ => by cases e
  | .err _ _ :: _, _, _, e, _ => by cases e
  | .ref _ :: _, _, _, e, _ => by cases e
  | .scr _ :: _, _, _, e, _ => by cases e
theorem ok_sum : Ok1 K cm pSum fun v H Q => rSum K [v] H Q := by
  intro mu Z H h w1 w h' v1 Q r q1 e f
  obtain ⟨ws, e1, e⟩ := Res.bind_eq_ok e
  obtain ⟨ns, e2, e⟩ := Res.bind_eq_ok e
  cases e
  obtain ⟨a, vs, rfl, ha, rs⟩ := asL_ok r q1 (ofO_eq_ok e1)
  have := intsOf_ok (ofO_eq_ok e2) rs
  subst this
  exact ⟨a, ns, rfl, SqL.of ha, f.here r rfl⟩
theorem keys_ws : ∀ {kvs : List HK} {ks : List Key}, KeysK kvs ks → RWs K cm mu Z (kvs.map HK.w) (ks.map kV)
  | [], _, h => by cases h; rfl
  | k :: kvs, _, h => by
    cases h with
    | cons e t =>
      rename_i q qs
      refine ⟨kV q, qs.map kV, rfl, ?_, keys_ws t⟩
      cases k with
      | int i => cases e; rfl
      | str x => cases e; rfl
      | _ => cases e
def rListS : List V → Hp → VK → Prop := fun xs H Q => ∃ x : Str, xs = [.str x] ∧ x.length ≤ sizeLine ∧ ∀ l, H l = none → Q (.ref l) (L2.upd H l (.lst (x.cps.toList.map fun c => V.str ⟨#[c]⟩)))
theorem call_listS {X : Cx} (hc : X.calm = true) : CallR X (.type "list") rListS := by
  intro pins s σ H xs us Q I r q
  obtain ⟨x, ex, hz, q⟩ := q
  subst ex
  obtain ⟨u, eu, rx⟩ := vals1 r
  subst eu
  obtain ⟨t, rfl⟩ := rx
  refine PySem.call_list_str (I.ok.hd hc) x t (fun h' tk acc c' hk hS hacc => ?_) (hn := hz)
  have hl : acc.toList.length = x.cps.size := by rw [Array.length_toList, hacc.1]
  have hv : Vals (x.cps.toList.map fun c => V.str ⟨#[c]⟩) acc.toList := vals_of_at (by rw [List.length_map, Array.length_toList, hl]) fun j v w h1 h2 => by
    obtain ⟨c, u, e1, e2⟩ := hacc.2 j w (by rw [← Array.getElem?_toList]; exact h2)
    rw [List.getElem?_map, Array.getElem?_toList, e1] at h1
    cases h1
    exact ⟨u, e2⟩
  exact ⟨.ref s.heap.objs.size, _, I.laid (t' := tk) hk (Nat.le_refl _)
    (show ObjOk X.prog X.w _ _ _ (.lst (x.cps.toList.map fun c => V.str ⟨#[c]⟩)) from ⟨by rw [List.length_map, Array.length_toList]; exact hz, acc.toList, c', hv, by rw [Array.toArray_toList]; exact hS⟩), rfl, q _ (I.hok.fresh (Nat.le_refl _))⟩
theorem ok_list {c : Bool} : Ok1 K cm (pList c) fun v H Q => (fun xs H Q => ((∃ p ys, xs = [V.ref p] ∧ (SqL K H p ys ∨ SqT K H p ys) ∧ ∀ l, H l = none → Q (.ref l) (L2.upd H l (.lst ys))) ∨
    ∃ (a : Addr) (kvs : List (Key × V)), xs = [.ref a] ∧ Rd H a (.dK kvs) ∧ ∀ p, H p = none → Q (.ref p) (L2.upd H p (.lst (kvs.map fun kv => kV kv.1)))) ∨ rListS xs H Q) [v] H Q := by
  intro mu Z H h w1 w h' v1 Q r q1 e f
  unfold pList at e
  split at e
  · rename_i ws e1
    have gen : asL h w1 = some ws → (∃ p ys, [v1] = [V.ref p] ∧ (SqL K H p ys ∨ SqT K H p ys) ∧ ∀ l, H l = none → Q (.ref l) (L2.upd H l (.lst ys))) := fun e1 => by
      obtain ⟨a, vs, rfl, ha, rs⟩ := asL_ok r q1 e1
      exact ⟨a, vs, rfl, .inl (SqL.of ha), (mkL_ok r rs e f).2⟩
    cases w1 with
    | tup us =>
      cases e1
      obtain ⟨a, vs, rfl, z, rs⟩ := q1
      exact .inl (.inl ⟨a, vs, rfl, .inr (SqT.of (r.tupZ z)), (mkL_ok r rs e f).2⟩)
    | _ => exact .inl (.inl (gen e1))
  · split at e
    · rename_i kvs ed
      obtain ⟨a, ev, _, hd⟩ := asD_ok r q1 ed
      obtain ⟨ks, vs, h1, h2, h3, h4⟩ := (show ∃ ks vs, KeysK (kvs.map (·.1)) ks ∧ Rd H a (.dK (ks.zip vs)) ∧ ks.length = vs.length ∧ RWk K cm mu Z kvs vs from hd)
      subst ev
      refine .inl (.inr ⟨a, ks.zip vs, rfl, h2, ?_⟩)
      have em : ((ks.zip vs).map fun kv => kV kv.1) = ks.map kV := by
        have : (ks.zip vs).map Prod.fst = ks := List.map_fst_zip (Nat.le_of_eq h3)
        conv => rhs; rw [← this]
        rw [List.map_map]
        rfl
      rw [em]
      have rk := keys_ws (K := K) (cm := cm) (mu := mu) (Z := Z) h1
      rw [List.map_map] at rk
      exact (mkL_ok r rk e f).2
    · cases e
    · split at e
      · rename_i z hz0 hz1
        split at e
        · rename_i hl
          cases q1
          have rs : RWs K cm mu Z ((sg z).map fun k => W.str (mkS [k])) (z.cps.toList.map fun c => V.str ⟨#[c]⟩) := by
            have : ∀ l : List Nat, RWs K cm mu Z (l.map fun k => W.str (mkS [k])) (l.map fun c => V.str ⟨#[c]⟩) := by
              intro l
              induction l with
              | nil => rfl
              | cons c l ih => exact ⟨_, _, rfl, rfl, ih⟩
            exact this _
          exact .inr ⟨z, rfl, hl, (mkL_ok r rs e f).2⟩
        · cases e
      · cases e

def Kd.name : Kd → String
  | .non => "NoneType"
  | .bool => "bool"
  | .int => "int"
  | .str => "str"
  | .list => "list"
  | .tuple => "tuple"
  | .dict => "dict"
theorem kit4 (K : PySem.W.Frag) (u t : Kd) (ht : t ≠ .non) : PySem.W.kitOne K (.type u.name) (.type t.name) = some (isK u t) := by
  refine kit_ty ?_
  cases t <;> first | exact absurd rfl ht | (cases u <;> decide +kernel)
end
end Ti


namespace Ti
open PySem PySem.Spec PyProof.Rows L2
section
variable {X : Cx} {K : PySem.W.Frag} {cm : Cm} {mu : List Addr} {Z H : Hp} {h h' : Hh} {w w1 w2 : W} {v v1 v2 : V} {Q : VK}
theorem kindT_of (r : RelH K cm mu Z H h) (q : RW K cm mu Z w v) {u : Kd} (e : kindT w = some u) : TyX K H v (.type u.name) := by
  cases w with
  | non => cases q; cases e; exact .base .non
  | bl x => cases q; cases e; exact .base (.bl x)
  | int x => cases q; cases e; exact .base (.int x)
  | str x => cases q; cases e; exact .base (.str x)
  | tup ws =>
    cases e
    obtain ⟨a, vs, rfl, z, rs⟩ := q
    exact .base (.tup (r.tupZ z))
  | lst ws =>
    cases e
    obtain ⟨a, vs, rfl, z, rs⟩ := q
    exact .base (.lst (r.lstZ z))
  | scr ns =>
    cases e
    obtain ⟨a, rfl, q⟩ := q
    rcases q with (q | ⟨o, q⟩) | ⟨o, its, n, q, c, _⟩
    · exact .base (.lst (r.zh a _ q))
    · exact .base (.frz (r.zh a _ q))
    · exact .kList q c
  | dic kd kvs =>
    cases kd with
    | true => cases e
    | false =>
      cases e
      obtain ⟨a, rfl, q⟩ := q
      obtain ⟨ks, vs, h1, h2, h3, h4⟩ := (show ∃ ks vs, KeysK (kvs.map (·.1)) ks ∧ Z a = some (.dK (ks.zip vs)) ∧ ks.length = vs.length ∧ RWk K cm mu Z kvs vs from q)
      rcases (show Rd H a (.dK (ks.zip vs)) from r.zh a _ h2) with h2 | ⟨o, h2⟩
      · exact .base (.dK h2)
      · exact .fDict h2
  | obj _ _ => cases e
  | err _ _ => cases e
  | ref _ => cases e
theorem kindW_of (r : RelH K cm mu Z H h) (q : RW K cm mu Z w v) {u : Kd} (e : kindW h w = some u) : TyX K H v (.type u.name) := by
  cases w with
  | ref i =>
    obtain ⟨a, rfl, m⟩ := q
    have e : (match h[i]? with | some (.lst _) => some Kd.list | some (.dic kd _) => if kd then none else some Kd.dict | _ => none) = some u := e
    split at e
    · rename_i ws e1
      cases e
      obtain ⟨_, n, vs, e2, rs⟩ := (show Z a = none ∧ nors ws = true ∧ ∃ vs, H a = some (.lst vs) ∧ RWs K cm [] Z ws vs from r.at_ m e1)
      exact .base (.lst e2)
    · rename_i kd kvs e1
      cases kd with
      | true => cases e
      | false =>
        cases e
        obtain ⟨_, n, q⟩ := r.at_ m e1
        obtain ⟨ks, vs, h1, h2, h3, h4⟩ := (show ∃ ks vs, KeysK (kvs.map (·.1)) ks ∧ H a = some (.dK (ks.zip vs)) ∧ ks.length = vs.length ∧ RWk K cm [] Z kvs vs from q)
        exact .base (.dK h2)
    · cases e
  | _ => exact kindT_of r q e
theorem q_isi {x U : Str} {t : Kd} {e : Expr} {m : DE} {p p2 pos : Pos} (ht : t ≠ .non) (hg : Gl X x) (hm : X.mg x = none) (hv : bootBuiltins x = some (.builtin "isinstance")) (ha : QE X cm e m) (hn : x ≠ "__name__") (hdb : (x == ("__debug__" : Str)) = false)
    (hgT : Gl X U) (hmT : X.mg U = none) (hvT : bootBuiltins U = some (.type t.name)) (hnT : U ≠ "__name__") (hdT : (U == ("__debug__" : Str)) = false) (h1 : starEach [e, .Name U p2] X.env = (false, eval e X.env) :: starEach [.Name U p2] X.env) :
    QE X cm (.Call (.Name x p) [e, .Name U p2] [] pos) (e1 (pIsi t) m) := by
  have hT : PE X (.Name U p2) (tC (.ty t.name)) := pe_bltn hgT hmT hvT rfl hnT hdT
  refine PE.wk (pe_callB call_isi hg hm hv (pa_cons ha (pa_cons hT pa_nil rfl) h1) hn hdb h1 rfl) fun σ H Q q => ?_
  obtain ⟨mu, Z, ρ, h, w, h', rl, s, e, f⟩ := q
  obtain ⟨p, e1, e⟩ := Res.bind_eq_ok e
  refine ⟨mu, Z, ρ, h, p.1, p.2, rl, s, e1, fun mu1 Z1 H1 v1 x1 r1 w1 => ?_⟩
  obtain ⟨u, e2, e⟩ := Res.bind_eq_ok e
  cases e
  exact ⟨v1, .ty t.name, .type u.name, .type t.name, isK u t, rfl, .ty t.name, kindW_of r1 w1 (ofO_eq_ok e2), kit4 X.K u t ht, f _ _ _ _ x1 r1 rfl⟩

def mtName : MTy → String
  | .str => "str"
  | .list => "list"
  | .dict => "dict"
theorem mt_ty (r : RelH K cm mu Z H h) (q : RW K cm mu Z w v) {t : MTy} (e : isMT t h w = true) : tyV K (mtName t) v H := by
  cases t with
  | str =>
    cases w <;> first | (cases e; done) | skip
    cases q
    rfl
  | list =>
    cases e1 : asL h w with
    | none =>
      have e : (asL h w).isSome = true := e
      rw [e1] at e; cases e
    | some ws =>
      obtain ⟨a, vs, rfl, ha, rs⟩ := asL_ok r q e1
      exact .inl ⟨rfl, vs, SqL.of ha⟩
  | dict =>
    cases w <;> first | (cases e; done) | skip
    rename_i i
    obtain ⟨a, rfl, m⟩ := q
    have e : (match h[i]? with | some (.dic _ _) => true | _ => false) = true := e
    split at e
    · rename_i kd kvs e1
      obtain ⟨_, n, q⟩ := r.at_ m e1
      refine .inr (.inr (.inl ⟨rfl, ?_⟩))
      cases kd with
      | true =>
        obtain ⟨ks, vs, h1, h2, h3, h4⟩ := (show ∃ ks vs, KeysT (kvs.map (·.1)) ks ∧ H a = some (.dT (ks.zip vs)) ∧ ks.length = vs.length ∧ RWk K cm [] Z kvs vs from q)
        exact .inr ⟨_, h2⟩
      | false =>
        obtain ⟨ks, vs, h1, h2, h3, h4⟩ := (show ∃ ks vs, KeysK (kvs.map (·.1)) ks ∧ H a = some (.dK (ks.zip vs)) ∧ ks.length = vs.length ∧ RWk K cm [] Z kvs vs from q)
        exact .inl ⟨_, h2⟩
    · cases e
def OkM (K : PySem.W.Frag) (cm : Cm) (g : Fn) (r : V → List V → Hp → VK → Prop) : Prop :=
  ∀ mu Z H h w1 ws w h' v1 vs Q, RelH K cm mu Z H h → RW K cm mu Z w1 v1 → RWs K cm mu Z ws vs → g (w1 :: ws) h = .ok (w, h') → Fin K cm mu Z H w h' Q → r v1 vs H Q
theorem OkM.of1 {g : F1} {r : V → List V → Hp → VK → Prop} (k : Ok1 K cm g fun v H Q => r v [] H Q) : OkM K cm (l1 g) r := by
  intro mu Z H h w1 ws w h' v1 vs Q rl q1 q e f
  cases ws with
  | nil =>
    cases (show vs = [] from q)
    exact k mu Z H h w1 w h' v1 Q rl q1 e f
  | cons _ _ => cases e
theorem OkM.of2 {g : F2} {r : V → List V → Hp → VK → Prop} (k : Ok2 K cm g fun x y H Q => r x [y] H Q) : OkM K cm (l2 g) r := by
  intro mu Z H h w1 ws w h' v1 vs Q rl q1 q e f
  match ws, e, q with
  | [b], e, q =>
    obtain ⟨v, rfl, q2⟩ := q.one
    exact k mu Z H h w1 b w h' v1 v Q rl q1 q2 e f
  | [], e, _ => cases e
  | _ :: _ :: _, e, _ => cases e
theorem q_m0 {t : MTy} {id : String} {name : Str} {r : V → List V → Hp → VK → Prop} {g : Fn} {o : Expr} {m : DE} {apos cpos : Pos} (pa : PlainAttrs (mtName t)) (slot : Slot (mtName t) name id) (hty : typeOf (.builtin id) = pure (.type "method_descriptor")) (hm : MtR X id r) (k : OkM X.K cm g r) (ho : QE X cm o m)
    (hbase : attributeBase o name X.env (eval o X.env) = eval o X.env) (hline : (apos.endLine == cpos.line) = true) : QE X cm (.Call (.Attribute o name apos) [] [] cpos) (eM t g m []) := by
  refine PE.wk (pe_bm0 pa slot hty hm ho hbase hline) fun σ H Q q => ?_
  obtain ⟨mu, Z, ρ, h, w, h', rl, s, e, f⟩ := q
  obtain ⟨p, e1, e⟩ := Res.bind_eq_ok e
  split at e
  · rename_i ht
    refine ⟨mu, Z, ρ, h, p.1, p.2, rl, s, e1, fun mu1 Z1 H1 v1 x1 r1 w1 => ⟨mt_ty r1 w1 ht, ?_⟩⟩
    exact k mu1 Z1 H1 p.2 p.1 [] w h' v1 [] Q r1 w1 rfl e (f.ext x1)
  · cases e
theorem q_m {t : MTy} {id : String} {name : Str} {r : V → List V → Hp → VK → Prop} {g : Fn} {o e : Expr} {es : List Expr} {m : DE} {ms : List DE} {apos cpos : Pos} (pa : PlainAttrs (mtName t)) (slot : Slot (mtName t) name id) (hty : typeOf (.builtin id) = pure (.type "method_descriptor")) (hm : MtR X id r) (k : OkM X.K cm g r) (ho : QE X cm o m) (ha : QL X cm (e :: es) ms)
    (hbase : attributeBase o name X.env (eval o X.env) = eval o X.env)
    (hfew : ((backTo cpos (starEach (e :: es) X.env)).all (fun x => !x.1) && (backToKw cpos (keywordEach [] X.env)).all (fun x => x.1.isSome)
      && decide ((e :: es).length + ([] : List Keyword).length + (if ([] : List Keyword).isEmpty then 0 else 1) < 30)) = true)
    (hline : (apos.endLine == cpos.line) = true) (hs : starEach (e :: es) X.env = (false, eval e X.env) :: starEach es X.env) (hplain : (backTo cpos (starEach es X.env)).any (·.1) = false) :
    QE X cm (.Call (.Attribute o name apos) (e :: es) [] cpos) (eM t g m ms) := by
  refine PE.wk (pe_bm pa slot hty hm ho ha hbase hfew hline hs hplain) fun σ H Q q => ?_
  obtain ⟨mu, Z, ρ, h, w, h', rl, s, e, f⟩ := q
  obtain ⟨p, e1, e⟩ := Res.bind_eq_ok e
  split at e
  · rename_i ht
    obtain ⟨p2, e2, e⟩ := Res.bind_eq_ok e
    refine ⟨mu, Z, ρ, h, p.1, p.2, rl, s, e1, fun mu1 Z1 H1 v1 x1 r1 w1 => ⟨mt_ty r1 w1 ht, ?_⟩⟩
    refine ⟨mu1, Z1, ρ, p.2, p2.1, p2.2, r1, s.ext x1, e2, fun mu2 Z2 H2 vs x2 r2 w2 => ?_⟩
    exact k mu2 Z2 H2 p2.2 p.1 p2.1 w h' v1 vs Q r2 (w1.mono x2.z x2.m) w2 e (f.ext (x1.trans x2))
  · cases e
theorem ok_append : Ok2 K cm pAppend fun x y H Q => rAppend x [y] H Q := by
  intro mu Z H h w1 w2 w h' v1 v2 Q r q1 q2 e f
  cases w1 with
  | ref i =>
    have e : (match h[i]? with | some (.lst ws) => if ws.length < lineW ∧ nor w2 = true then Res.ok (W.non, h.set i (.lst (ws ++ [w2]))) else .bad | _ => .bad) = .ok (w, h') := e
    split at e
    · rename_i ws e1
      split at e
      · rename_i hc
        cases e
        obtain ⟨a, rfl, m⟩ := q1
        obtain ⟨z, n, vs, e2, rs⟩ := (show Z a = none ∧ nors ws = true ∧ ∃ vs, H a = some (.lst vs) ∧ RWs K cm [] Z ws vs from r.at_ m e1)
        refine ⟨a, vs, v2, rfl, rfl, e2, by rw [rs.length]; exact hc.1, ?_⟩
        have nn : nors (ws ++ [w2]) = true := by
          have : ∀ l : List W, nors l = true → nors (l ++ [w2]) = true := by
            intro l
            induction l with
            | nil => intro _; show (nor w2 && true) = true; rw [hc.2]; rfl
            | cons x l ih =>
              intro hx
              have hx : (nor x && nors l) = true := hx
              rw [Bool.and_eq_true] at hx
              show (nor x && nors (l ++ [w2])) = true
              rw [hx.1, ih hx.2]
              rfl
          exact this ws n
        obtain ⟨r', x⟩ := r.wr (c := .lst (ws ++ [w2])) (o := .lst (vs ++ [v2])) m z e2 ⟨z, nn, vs ++ [v2], upd_same, RWs.append rs ⟨v2, [], rfl, RW.any hc.2 q2, rfl⟩⟩
        exact f _ _ _ _ x r' rfl
      · cases e
    · cases e
  | _ => cases e
theorem lstrip_eq (a b : Str) : Txt.lstripChars a b = mkS ((sg a).dropWhile fun c => (sg b).contains c) := by
  have e1 : Txt.lstripChars a b = Builtin.Str.strSub a (((sg a).takeWhile fun c => b.cps.contains c).length) a.length := by
    show Txt.stripBy _ true false a = _
    rw [PyProof.Rows.stripBy_eq]
    rfl
  have e2 : (fun c => b.cps.contains c) = fun c => (sg b).contains c := by
    funext c
    exact (Array.contains_toList ..).symm
  rw [e1, e2]
  have : sg (Builtin.Str.strSub a (((sg a).takeWhile fun c => (sg b).contains c).length) a.length) = (sg a).dropWhile fun c => (sg b).contains c := by
    rw [show sg (Builtin.Str.strSub a (((sg a).takeWhile fun c => (sg b).contains c).length) a.length) = (sg a).drop (((sg a).takeWhile fun c => (sg b).contains c).length) from TL.tl_strSub_end a _]
    generalize (fun c => (sg b).contains c) = p
    induction sg a with
    | nil => rfl
    | cons x l ih =>
      rw [List.takeWhile_cons, List.dropWhile_cons]
      split
      · rw [List.length_cons, List.drop_succ_cons]
        exact ih
      · rfl
  rw [← this]
  rfl
theorem rstrip_eq (a b : Str) : Txt.rstripChars a b = mkS ((sg a).reverse.dropWhile fun c => (sg b).contains c).reverse := by
  have e2 : (fun c => b.cps.contains c) = fun c => (sg b).contains c := by
    funext c
    exact (Array.contains_toList ..).symm
  have e1 : Txt.rstripChars a b = Builtin.Str.strSub a 0 (a.length - ((sg a).reverse.takeWhile fun c => b.cps.contains c).length) := by
    show Txt.stripBy _ false true a = _
    rw [PyProof.Rows.stripBy_eq]
    rfl
  rw [e1, e2]
  have : sg (Builtin.Str.strSub a 0 (a.length - ((sg a).reverse.takeWhile fun c => (sg b).contains c).length)) = ((sg a).reverse.dropWhile fun c => (sg b).contains c).reverse := by
    rw [show sg (Builtin.Str.strSub a 0 (a.length - ((sg a).reverse.takeWhile fun c => (sg b).contains c).length)) = ((sg a).drop 0).take (a.length - ((sg a).reverse.takeWhile fun c => (sg b).contains c).length - 0) from TL.tl_strSub a 0 _]
    rw [List.drop_zero, Nat.sub_zero, len_sg]
    generalize (fun c => (sg b).contains c) = p
    have key : ∀ l : List Nat, l.reverse.dropWhile p = l.reverse.drop (l.reverse.takeWhile p).length := by
      intro l
      generalize l.reverse = m
      induction m with
      | nil => rfl
      | cons x l ih =>
        rw [List.takeWhile_cons, List.dropWhile_cons]
        split
        · rw [List.length_cons, List.drop_succ_cons]
          exact ih
        · rfl
    rw [key, List.drop_reverse, List.reverse_reverse]
  rw [← this]
  rfl
theorem ok_lstrip : Ok2 K cm pLstrip fun x y H Q => (fun x xs H Q => ∃ a b, x = V.str a ∧ xs = [V.str b] ∧ a.length ≤ sizeLine ∧ Q (.str (Txt.lstripChars a b)) H) x [y] H Q := by
  intro mu Z H h w1 w2 w h' v1 v2 Q r q1 q2 e f
  cases w1 with
  | str a =>
    cases w2 with
    | str b =>
      have e : (if a.length ≤ lineW then Res.ok (W.str (mkS ((sg a).dropWhile fun c => (sg b).contains c)), h) else .bad) = .ok (w, h') := e
      split at e
      · rename_i hl
        cases e; cases q1; cases q2
        exact ⟨a, b, rfl, rfl, hl, by rw [lstrip_eq]; exact f.here r rfl⟩
      · cases e
    | _ => cases e
  | _ => cases e
theorem ok_rstrip : Ok2 K cm pRstrip fun x y H Q => (fun x xs H Q => ∃ a b, x = V.str a ∧ xs = [V.str b] ∧ a.length ≤ sizeLine ∧ Q (.str (Txt.rstripChars a b)) H) x [y] H Q := by
  intro mu Z H h w1 w2 w h' v1 v2 Q r q1 q2 e f
  cases w1 with
  | str a =>
    cases w2 with
    | str b =>
      have e : (if a.length ≤ lineW then Res.ok (W.str (mkS ((sg a).reverse.dropWhile fun c => (sg b).contains c).reverse), h) else .bad) = .ok (w, h') := e
      split at e
      · rename_i hl
        cases e; cases q1; cases q2
        exact ⟨a, b, rfl, rfl, hl, by rw [rstrip_eq]; exact f.here r rfl⟩
      · cases e
    | _ => cases e
  | _ => cases e
theorem q_bits {o : Expr} {m : DE} {apos cpos : Pos} (ho : QE X cm o m) (hbase : attributeBase o "bit_length" X.env (eval o X.env) = eval o X.env) (hline : (apos.endLine == cpos.line) = true) : QE X cm (.Call (.Attribute o "bit_length" apos) [] [] cpos) (e1 pBits m) := by
  refine PE.wk (pe_bits ho hbase hline) fun σ H Q q => ?_
  obtain ⟨mu, Z, ρ, h, w, h', rl, s, e, f⟩ := q
  obtain ⟨p, e1, e⟩ := Res.bind_eq_ok e
  refine ⟨mu, Z, ρ, h, p.1, p.2, rl, s, e1, fun mu1 Z1 H1 v1 x1 r1 w1 => ?_⟩
  obtain ⟨u, h2⟩ := p
  cases u with
  | int i =>
    have e : (if 0 < i then Res.ok (W.int (i.natAbs.log2 + 1 : Nat), h2) else .bad) = .ok (w, h') := e
    split at e
    · rename_i hi
      cases e; cases w1
      refine ⟨i, rfl, ?_⟩
      have : Builtin.Int.intBits i = i.natAbs.log2 + 1 := by
        unfold Builtin.Int.intBits
        rw [if_neg (by rw [beq_iff_eq]; omega)]
      rw [this]
      exact f _ _ _ _ x1 r1 rfl
    · cases e
  | _ => cases e
end
end Ti


namespace Ti
open PySem PySem.Spec PyProof.Rows L2

structure FnG (P : Program) (w : World) (K : PySem.W.Frag) (mg : Str → Option Value) (base : Heap) (CX : CXT) (k : Nat) (f : Addr) (fd : FuncData) (ps : List Str) (sp : Sp) : Prop where
  len : ∀ vs H Q E, sp vs H Q E → vs.length = ps.length
  run : ∀ (A : Around) (outer : List PySem.Env) (s : Shared) (H : Hp) (args : Args) (us : List Value) (vs : List V) (Q : VK) (E : XK),
    A.guards = some [] → Room k A → Env0 P w K mg base A outer s H → BindsTo s fd args (ps.zip us) → Vals vs us → sp vs H Q E →
      codeAny (model P w) A (.call (.ref f) args) (CR CX outer P w H s Q E) s
theorem FnG.mono {P : Program} {w : World} {K : PySem.W.Frag} {mg : Str → Option Value} {base : Heap} {CX : CXT} {j k : Nat} {f : Addr} {fd : FuncData} {ps : List Str} {sp : Sp} (F : FnG P w K mg base CX j f fd ps sp) (h : j ≤ k) :
    FnG P w K mg base CX k f fd ps sp := ⟨F.len, fun A o s H g us vs Q E hg hr => F.run A o s H g us vs Q E hg (hr.mono h)⟩

section
variable {X : Cx} {CX : CXT} {k : Nat} {f : Addr} {fd : FuncData} {ps : List Str} {sp : Sp} {dvs : List V} {ds : List Value} {E : XK} {x : Str} {p pos : Pos} {e : Expr} {es : List Expr} {t : TA}
theorem ends_of {pins : List (Addr × Obj)} {σ : L2.St} {H : Hp} {s s' : Shared} {Q : VK} {r : Result} (hx : Passes CX X E) (I : Inv X pins σ H s) (c : CR CX X.stack X.prog X.w H s Q E r s') :
    (match r with | .ok (.ret v) => EP X pins σ Q v s' | .ok _ => False | .error u => X.xe u s') := by
  rcases r with u | fl
  · exact hx pins σ H s u s' I c
  · rcases fl with _ | _ | _ | _
    all_goals first | exact False.elim c | exact I.after c
theorem run_G {pins : List (Addr × Obj)} {σ : L2.St} {H : Hp} {s : Shared} {Q : VK} {args : Args} {us' : List Value} {vs' : List V} (F : FnG X.prog X.w X.K X.mg X.base CX k f fd ps sp) (hr : Room k X.A) (gd : X.A.guards = some [])
    (hb : BindsTo s fd args (ps.zip us')) (r2 : Vals vs' us') (hx : Passes CX X E) (I : Inv X pins σ H s) (h : sp vs' H Q E) : wpAny (model X.prog X.w) X.A (call (.ref f) args.pos args.kw) (EP X pins σ Q) X.xe s := by
  refine wpAny_call (codeAny_mono (F.run X.A X.stack s H args us' vs' Q E gd hr I.env0 hb r2 h) fun r s' hq => ?_)
  have := ends_of hx I hq
  rcases r with u | fl
  · exact this
  · rcases fl with _ | _ | _ | _
    all_goals first | exact False.elim this | exact this
theorem pe_callG (F : FnG X.prog X.w X.K X.mg X.base CX k f fd ps sp) (hr : Room k X.A) (gd : X.A.guards = some []) (hg : Gl X x) (hm : X.mg x = some (.ref f)) (hk : PySem.W.keepIn X.K (.ref f) = true)
    (hb : Binds X.K fd ps ds) (hd : Vals dvs ds) (hx : Passes CX X E) (ha : PA X (e :: es) t) (hdb : (x == ("__debug__" : Str)) = false)
    (he : starEach (e :: es) X.env = (false, eval e X.env) :: starEach es X.env) (hpl : (backTo pos (starEach es X.env)).any (·.1) = false) : PE X (.Call (.Name x p) (e :: es) [] pos) (tCall sp dvs E t) := by
  constructor
  intro pins s σ H Q I hq
  apply wpAny_Call_Name_kw
  refine ld_glob I hg hm (PySem.W.callWith_K (h₀ := X.base) I.ok.mod.kin hk (thn (ha.run pos pins s σ H _ I hq) ?_) he hpl) hdb
  rintro us s1 ⟨vs, H1, I1, r, q⟩
  refine ⟨I1.kIn, ?_⟩
  have r2 := r.append hd
  have hl : (us ++ ds).length = ps.length := r2.length.symm.trans (F.len _ _ _ _ q)
  exact run_G (args := ⟨us, []⟩) F hr gd (hb s1 us I1.kIn hl) r2 hx I1 q
theorem pe_callG0 (F : FnG X.prog X.w X.K X.mg X.base CX k f fd ps sp) (hr : Room k X.A) (gd : X.A.guards = some []) (hg : Gl X x) (hm : X.mg x = some (.ref f)) (hk : PySem.W.keepIn X.K (.ref f) = true)
    (hb : Binds X.K fd ps ds) (hd : Vals dvs ds) (hx : Passes CX X E) (hdb : (x == ("__debug__" : Str)) = false) : PE X (.Call (.Name x p) [] [] pos) (tCall sp dvs E tNil) := by
  constructor
  intro pins s σ H Q I hq
  apply wpAny_Call_Name_kw
  have hl : (([] : List Value) ++ ds).length = ps.length := hd.length.symm.trans (F.len _ _ _ _ hq)
  exact ld_glob I hg hm (PySem.W.callWith_K0 I.kIn hk (run_G (args := ⟨[], []⟩) F hr gd (hb s [] I.kIn hl) hd hx I hq)) hdb
structure KwB (K : PySem.W.Frag) (fd : FuncData) (ps ks : List Str) (g : List Value → List Value) (gV : List V → List V) : Prop where
  to : ∀ (s : Shared) (ws : List Value), K.In s.heap → ws.length = ks.length → BindsTo s fd ⟨[], ks.zip ws⟩ (ps.zip (g ws))
  rel : ∀ {zs : List V} {ws : List Value}, Vals zs ws → Vals (gV zs) (g ws)
def tCallK (m : Nat) (sp : Sp) (gV : List V → List V) (E : XK) (t : TA) : TE := fun σ H Q => t σ H fun zs H2 => zs.length = m ∧ sp (gV zs) H2 Q E
theorem pe_callGK {ks : List Str} {g : List Value → List Value} {gV : List V → List V} {kws : List Keyword} (F : FnG X.prog X.w X.K X.mg X.base CX k f fd ps sp) (hr : Room k X.A) (gd : X.A.guards = some []) (hg : Gl X x) (hm : X.mg x = some (.ref f))
    (hk : PySem.W.keepIn X.K (.ref f) = true) (hb : KwB X.K fd ps ks g gV) (hx : Passes CX X E) (hkw : PK X kws t) (hdb : (x == ("__debug__" : Str)) = false)
    (hall : ∀ pos, (backToKw pos (keywordEach kws X.env)).all (·.1.isSome) = true) (hks : ∀ pos, (backToKw pos (keywordEach kws X.env)).filterMap (·.1) = ks) (hno : ∀ pos, (backToKw pos (keywordEach kws X.env)).any (·.1.isNone) = false) :
    PE X (.Call (.Name x p) [] kws pos) (tCallK ks.length sp gV E t) := by
  constructor
  intro pins s σ H Q I hq
  apply wpAny_Call_Name_kw
  refine ld_glob I hg hm (PySem.W.callWith_KW0 (h₀ := X.base) I.ok.mod.kin hk (hall pos) (thn (hkw.run pos pins s σ H _ I hq) ?_) ?_) hdb
  · rintro ws s2 ⟨zs, H2, I2, rz, l, q⟩
    refine ⟨I2.kIn, ?_⟩
    rw [hks pos]
    exact run_G (args := ⟨[], ks.zip ws⟩) F hr gd (hb.to s2 ws I2.kIn (rz.length.symm.trans l)) (hb.rel rz) hx I2 q
  · rw [hno pos]
    rfl
end
theorem fnG_of {CX : CXT} {P : Program} {w : World} {K : PySem.W.Frag} {mg : Str → Option Value} {base : Heap} {k : Nat} {x qual : Str} {params : Arguments} {body : List Stmt} {scope : Scope} {dvs : List V} {kws : List (Str × V)} {f : Addr} {fd : FuncData} {N ps : List Str} {sp : Sp}
    (F : FunD K x qual params body scope dvs kws f fd) (S : FnScope N ps scope) (len : ∀ vs H Q E, sp vs H Q E → vs.length = ps.length)
    (hbody : ∀ (cdv : Value) (A : Around) (outer : List PySem.Env) (s : Shared) (H : Hp) (vs : List V) (Q : VK) (E : XK), A.guards = some [] → Room k (A.deeper (envOfC qual scope s.heap.objs.size f cdv)) → sp vs H Q E →
      ∃ t, PSs (cxOf CX P w K mg base N qual scope f cdv A outer s H E) body t ∧ t { nx := fun _ H' => Q .non H', rt := Q } (L2.start N vs) H) : FnG P w K mg base CX (k + 1) f fd ps sp := by
  obtain ⟨oc, od, dV, kV, doc, pm, an, cdv, ct, osl, rfl, lk, hcd, _, _⟩ := F.ex
  refine ⟨len, fun A outer s H args us vs Q E gd hr e0 hb r hsp => ?_⟩
  have kept : ∀ b o, base.get? b = some o → s.heap.get? b = some o := fun b o e => (e0.bs b o e).1
  have KX := e0.mod.kin.keeps kept
  have lim := e0.mod.nolimit.keeps kept
  refine codeAny_call_function hr.depth (KX _ _ lk) rfl S.co S.gen rfl (PySem.W.codeRec_of KX hcd) (hb _ _ _ _ (wpAny_newFunctionEnv_cells S.kind ?_ ?_))
  · rintro ⟨n, v⟩ hy
    rcases S.par n (List.of_mem_zip hy).1 with q | q
    · exact .inl q
    · exact .inr ⟨q, PySem.W.cellsFrom_some _ _ _ (.inl q)⟩
  · rintro env rfl s1 new
    refine ⟨lim.keeps new.toInCall.keep, codeAny_func ?_⟩
    obtain ⟨t, ht, hq⟩ := hbody cdv A outer s H vs Q E gd (hr.deeper _) hsp
    have I := inv_start (CX := CX) (E := E) (cd := cdv) S hr.hd e0 (len _ _ _ _ hsp) r new
    refine wpAny_mono (ht.run [] s1 (L2.start N vs) H _ I hq) ?_ fun e s' hs => hs
    rintro (_ | _ | _ | u) s' hs
    · obtain ⟨σ', H', J, q⟩ := hs
      exact ⟨V.non, H', J.os, J.bare, J.base, J.hok, rfl, q⟩
    · exact False.elim hs.choose_spec.choose_spec.2
    · exact False.elim hs.choose_spec.choose_spec.2
    · obtain ⟨v, σ', H', J, rv, q⟩ := hs
      exact ⟨v, H', J.os, J.bare, J.base, J.hok, rv, q⟩
theorem callG_law {P : Program} {w : World} {K : PySem.W.Frag} {mg mb : Str → Option Value} {CX : CXT} {k : Nat} {fa a : Addr} {fd : FuncData} {x : Str} {sp : Sp} {s₁ : Shared} {vs : List Value} {ns : List Int}
    (KX : K.In s₁.heap) (hns : s₁.heap.Ns mainGlobals mg) (hb : s₁.heap.Ns builtinsNs mb) (hbb : ∀ x : Str, x ≠ "__name__" → mb x = bootBuiltins x) (hlim : s₁.heap.NoLimit) (hg : s₁.gens = #[])
    (ha : s₁.heap.get? a = some { cls := .type "list", data := .seq vs.toArray }) (hi : IntsAre vs ns) (hl : ns.length ≤ sizeLine) (hr : Room k callerA)
    (F : ∀ base : Heap, K.In base → base.Ns mainGlobals mg → FnG P w K mg base CX k fa fd [x] sp) (hbind : ∀ (s : Shared) (u : Value), BindsTo s fd ⟨[u], []⟩ [(x, u)])
    (hsp : ∀ H : Hp, Only H → SqL K H a (ns.map V.int) → sp [.ref a] H (fun v _ => v = .bl true) fun _ _ _ => False) (hCX : ∀ H e s', CX [] H s₁ (fun _ _ _ => False) e s' → False) :
    codeAny (model P w) callerA (.call (.ref fa) ⟨[.ref a], []⟩) (fun r s' => r = .ok (.ret (.bool true)) ∧ OldK s₁.heap s'.heap ∧ s'.os = s₁.os ∧ AllBare s'.gens) s₁ := by
  have rv := vals_ints hi
  have lenV := hi.length
  have core : ∀ H : Hp, Only H → SqL K H a (ns.map V.int) → HOk P w H s₁.heap → (∀ b, H b ≠ none → b = a) → (H a ≠ none → K.lookup a = none) →
      codeAny (model P w) callerA (.call (.ref fa) ⟨[.ref a], []⟩) (fun r s' => r = .ok (.ret (.bool true)) ∧ OldK s₁.heap s'.heap ∧ s'.os = s₁.os ∧ AllBare s'.gens) s₁ := by
    intro H hO hS hok only nok
    have isA : ∀ {b : Addr} {u : HO}, H b = some u → b = a := fun {b u} q => only b (by rw [q]; exact fun z => nomatch z)
    have freeNs : ∀ {b : Addr} {o : Obj} {es : Array DictEntry} {ep : Nat}, s₁.heap.get? b = some o → o.data = .dict es ep → H b = none := by
      intro b o es ep e d
      cases q : H b with
      | none => rfl
      | some u =>
        have eb := isA q
        rw [eb, ha] at e
        cases e
        cases d
    have keepNs : ∀ {b : Addr} {m : Str → Option Value}, s₁.heap.Ns b m → (hidT s₁.heap H).Ns b m := by
      rintro b m ⟨o, es, ep, e, d, r⟩
      exact ⟨o, es, ep, hidT_get e (freeNs e d), d, r⟩
    have KX' : K.In (hidT s₁.heap H) := by
      intro b o e
      refine hidT_get (KX b o e) ?_
      cases q : H b with
      | none => rfl
      | some u =>
        have eb := isA q
        subst eb
        rw [nok (by rw [q]; exact fun z => nomatch z)] at e
        cases e
    have modH : Mod K mg (hidT s₁.heap H) := by
      obtain ⟨mc, l1, l2⟩ := hlim
      exact ⟨KX', keepNs hns, ⟨mb, keepNs hb, hbb⟩, mc, keepNs l1, l2⟩
    have env0 : Env0 P w K mg (hidT s₁.heap H) callerA [] s₁ H :=
      ⟨rfl, modH, fun b o e => of_hidT e, Nat.le_of_eq (hidT_size _ _), trivial, fun b hb' => (List.not_mem_nil hb').elim, hok, .of_eq hg⟩
    have ran := (F _ KX' (keepNs hns)).run callerA [] s₁ H ⟨[.ref a], []⟩ [.ref a] [.ref a] _ _ rfl hr env0 (hbind s₁ (.ref a)) (.cons rfl .nil) (hsp H hO hS)
    refine codeAny_mono ran ?_
    rintro (e | fl) s' h
    · exact (hCX H e s' h).elim
    · rcases fl with _ | _ | _ | u
      · exact False.elim h
      · exact False.elim h
      · exact False.elim h
      · obtain ⟨v, H', os, bare, un, hok', r', q⟩ := h
        have q : v = .bl true := q
        subst q
        have r' : u = Value.bool true := r'
        subst r'
        refine ⟨rfl, OldK.of_keep ?_, os, bare⟩
        intro b o e
        cases q : H b with
        | none => exact un.keep b o e q (List.not_mem_nil) (List.not_mem_nil)
        | some u =>
          rcases hO b with z | ⟨ob, xs, z⟩
          · rw [q] at z
            cases z
          · have w1 := (hok b _ z).1
            have w2 := (hok' b _ (un.frzs b ob _ z)).1
            rw [e] at w1
            cases w1
            exact w2
  cases hk : K.lookup a with
  | some o =>
    have e := KX a o hk
    rw [ha] at e
    cases e
    refine core (fun _ => none) (fun _ => .inl rfl) (.inr ⟨_, vs.toArray, _, hk, rfl, rfl, rfl, ?_, ?_⟩) (fun b u z => (nomatch z)) (fun b z => absurd rfl z) fun z => absurd rfl z
    · rw [List.size_toArray, lenV]
      exact hl
    · exact rv
  | none =>
    let H0 : Hp := fun b => if b = a then some (.frz { cls := .type "list", data := .seq vs.toArray } (.lst (ns.map V.int))) else none
    have at_a : H0 a = some (.frz { cls := .type "list", data := .seq vs.toArray } (.lst (ns.map V.int))) := if_pos rfl
    have off : ∀ {b : Addr}, ¬ b = a → H0 b = none := fun h => if_neg h
    refine core H0 (fun b => ?_) (.inl (.inr ⟨_, at_a⟩)) (fun b u z => ?_) (fun b z => ?_) fun _ => hk
    · by_cases hb' : b = a
      · subst hb'
        exact .inr ⟨_, _, at_a⟩
      · exact .inl (off hb')
    · by_cases hb' : b = a
      · subst hb'
        rw [at_a] at z
        cases z
        exact ⟨ha, by rw [List.length_map]; exact hl, vs, _, rv, ha⟩
      · rw [off hb'] at z
        cases z
    · exact Decidable.byContradiction fun hb' => z (off hb')
theorem walk_G {l : PySem.W.OpenLaw} {n k : Nat} {q : Program} {loose : List Str} {XP : (Str → Option Value) → Heap → Prop} {YP : World → Heap → Prop} {d : DefRec} {CX : CXT} {x : Str}
    (hn : l.most = some n) (hn2 : n ≤ sizeLine) (hdf : d.params.defaults = []) (hr : Room k callerA)
    (F : ∀ (w : World) (mg : Str → Option Value) (fa : Addr) (h : Heap), YP w h → h.Ns mainGlobals mg → mg d.name = some (.ref fa) →
      ∃ (K : PySem.W.Frag) (fd : FuncData) (sp : Sp), K.In h ∧ (∀ (s : Shared) (u : Value), BindsTo s fd ⟨[u], []⟩ [(x, u)]) ∧
        (∀ (H : Hp) (a : Addr) (ns : List Int), ns.length ≤ n → Only H → SqL K H a (ns.map V.int) → sp [.ref a] H (fun v _ => v = .bl true) fun _ _ _ => False) ∧
        ∀ base : Heap, K.In base → base.Ns mainGlobals mg → FnG l.prog w K mg base CX k fa fd [x] sp)
    (hCX : ∀ (H : Hp) (s : Shared) (e : Value) (s' : Shared), CX [] H s (fun _ _ _ => False) e s' → False) : PySem.W.WalkO q loose XP YP l.row.toRowW d [] (fun f vs => PySem.call f vs) := by
  apply Att.attach_call hn hdf
  intro w s₀ s₁ mg mb fa o pm cd doc a vs ns G Y ho hd hcd hmg hobj hints hlen hg
  obtain ⟨K, fd, sp, KX, hb, hsp, hF⟩ := F w mg fa _ Y G.T.g hmg
  exact callG_law KX G.T.g G.T.b G.T.builtins G.T.nolimit hg hobj hints (Nat.le_trans hlen hn2) hr hF hb (fun H hO hS => hsp H a ns hlen hO hS) (fun H e s' => hCX H s₁ e s')
end Ti


namespace Ti
open PySem PySem.Spec PyProof.Rows L2

def ItS (x : Str) : It := ⟨fun i _ => i < x.cps.size, fun i H v H' => ∃ (T : Addr) (c : Nat), v = .ref T ∧ H T = none ∧ H' = L2.upd H T (.tup [.int (i : Nat), .str ⟨#[c]⟩]) ∧ x.cps[i]? = some c, fun i _ => i = x.cps.size⟩
theorem turn_enumS {P : Program} {w : World} {K : PySem.W.Frag} {elts : List Expr} {kk : Nat} {tpos : Pos} {x : Str} {St : Nat → Heap → Prop} {fpi : List Addr} (e it : Addr) (hne : e ≠ it) (hef : e ∉ fpi) (hfp : fpi = [it])
    (D : ∀ {A : Around}, A.handled = none → Draws P w A it fpi x.cps.size (fun i v => ∃ c u, x.cps[i]? = some c ∧ v = .str ⟨#[c]⟩ u) St) (hob : ∀ i h, St i h → ∃ o, h.get? it = some o ∧ ∀ v, o.data ≠ .cell v) :
    Turn P w K (.Tuple elts kk tpos) (ItS x) [e, it] e (fun i h => (∃ old, IsEnum h e it ((i : Nat) : Int) old) ∧ St i h ∧ (∀ h', (∀ b ∈ fpi, ∀ o, h.get? b = some o → h'.get? b = some o) → St i h')) where
  mem := by simp
  obj := fun i h st b hb => by
    obtain ⟨⟨old, he⟩, hs, _⟩ := st
    have e' : b = e ∨ b = it := by simpa using hb
    rcases e' with z | z
    · rw [z]; exact ⟨_, he, fun v q => nomatch q⟩
    · rw [z]; exact hob i h hs
  keep := fun i h h' st k => by
    obtain ⟨⟨old, he⟩, hs, hk⟩ := st
    refine ⟨⟨old, k e (by simp) _ he⟩, hk h' fun b hb o q => ?_, fun h2 k2 => ?_⟩
    · rw [hfp] at hb
      exact k b (by rw [List.mem_singleton.mp hb]; simp) o q
    · exact (D (A := callerA) rfl).frame i h h2 hs fun b hb o q => k2 b hb o (by
        have hb' := hb
        rw [hfp] at hb'
        exact k b (by rw [List.mem_singleton.mp hb']; simp) o q)
  item := by
    intro X hP hw hK hc i pins s σ H E I hf st hg
    subst hP hw hK
    obtain ⟨⟨old, he⟩, hs, _⟩ := st
    have hel : e < s.heap.objs.size := Heap.lt_size he
    obtain ⟨oi, hoi, _⟩ := hob i _ hs
    have hil : it < s.heap.objs.size := Heap.lt_size hoi
    refine wpAny_pyNext_enum_itemD (D (I.ok.hd hc)) he hs hg hne hef fun u h' tk hP ho hs' hT hsz hk => ?_
    obtain ⟨c, tu, hx, rfl⟩ := hP
    refine ⟨_, rfl, wpAny_letOwnedTupleGo_enum (s := { s with heap := h', toks := tk + 1 }) ho fun h'' he' sb => ?_⟩
    have hT2 : h''.get? s.heap.objs.size = some { cls := .type "tuple", data := .seq #[.int i tk, .str ⟨#[c]⟩ tu] } := (sb.2 _ (Nat.ne_of_gt hel)).trans hT
    have new : ObjOk X.prog X.w (L2.upd H s.heap.objs.size (.tup [.int (i : Nat), .str ⟨#[c]⟩])) h'' s.heap.objs.size (.tup [.int (i : Nat), .str ⟨#[c]⟩]) :=
      ⟨by show 2 ≤ sizeLine; decide, [.int i tk, .str ⟨#[c]⟩ tu], .cons ⟨_, rfl⟩ (.cons ⟨_, rfl⟩ .nil), ⟨_, hT2, rfl, _, rfl⟩⟩
    have I1 : Inv X pins σ (L2.upd H s.heap.objs.size (.tup [.int (i : Nat), .str ⟨#[c]⟩])) { s with heap := h'', toks := tk + 1 } :=
      I.turnedNew (ch := [e, it]) (fun b ob hb q => (sb.2 b (fun z => hb (by simp [z]))).trans (hk b ob (fun z => hb (by simp [z])) (fun z => hb (by simp [z])) q)) hf (Nat.le_refl _) new
    have st2 : St (i + 1) h'' := (D (A := callerA) rfl).frame (i + 1) h' h'' hs' fun b hb o q => by
      have hb' := hb
      rw [hfp] at hb'
      rw [List.mem_singleton.mp hb'] at q ⊢
      exact (sb.2 it (Ne.symm hne)).trans q
    refine ⟨.ref s.heap.objs.size, _, I1, rfl, ⟨_, c, rfl, I.hok.fresh (Nat.le_refl _), rfl, hx⟩, ⟨⟨.str ⟨#[c]⟩ tu, ?_⟩, st2, fun h2 k2 => (D (A := callerA) rfl).frame (i + 1) h'' h2 st2 k2⟩, fun b hb => ?_⟩
    · have e1 : ((i + 1 : Nat) : Int) = (i : Int) + 1 := by omega
      rw [e1]; exact he'
    · have hb' : b < s.heap.objs.size := by
        have e' : b = e ∨ b = it := by simpa using hb
        rcases e' with z | z
        · rw [z]; exact hel
        · rw [z]; exact hil
      rw [L2.upd_ne (Nat.ne_of_lt hb')]
      exact (hf b hb).1
  done := by
    intro X hP hw hK hc i pins s σ H E I hf st hg
    subst hP hw hK
    obtain ⟨⟨old, he⟩, hs, _⟩ := st
    have hg : i = x.cps.size := hg
    rw [hg] at hs
    obtain ⟨f0, f1, f2, f3, f4, f5⟩ := hf it (by simp)
    exact wpAny_pyNext_enum_endD (D (I.ok.hd hc)) he hs fun h' eb => ⟨rfl, I.turned (t' := s.toks) (fun b o hb q => eb b o hb q) f0 f1 f3 f4 f5⟩
  self := fun A i s Q E st h => let ⟨⟨_, he⟩, _⟩ := st; wpAny_pyIter_enum he h
def iEnumS (ta : TA) : TI := fun σ H R => ta σ H fun vs H1 => ∃ x, vs = [.str x] ∧ R (ItS x) H1
theorem pi_enumS {X : Cx} {e : Expr} {ta : TA} {p pos tpos : Pos} {elts : List Expr} {kk : Nat} (hg : Gl X "enumerate") (hm : X.mg "enumerate" = none) (ha : PA X [e] ta) (hs : starEach [e] X.env = [(false, eval e X.env)]) :
    PI X (.Tuple elts kk tpos) (.Call (.Name "enumerate" p) [e] [] pos) (iEnumS ta) := by
  refine ⟨fun pins s σ H R I h => ?_⟩
  refine Call_ (ld_blt I hg hm boot_enumerate (PyProof.Rows.callWith_type1 (thn (ha.run pos pins s σ H _ I h) fun us s1 ⟨vs, H1, I1, r1, q1⟩ => ?_) hs rfl))
  obtain ⟨x, ex, q⟩ := q1
  subst ex
  cases r1 with
  | cons r rr =>
    cases rr
    obtain ⟨t, rfl⟩ := (show ∃ t, _ = Value.str x t from r)
    refine call_enumerate_str fun h' he hit hsz hk => wpAny_pyIter_enum he ?_
    have I2 : Inv X pins σ H1 { s1 with heap := h' } := I1.kept (t' := s1.toks) hk
    have fo : ∀ b ∈ [s1.heap.objs.size + 1, s1.heap.objs.size], FpOk X pins H1 b := fun b hb => by
      have e' : b = s1.heap.objs.size + 1 ∨ b = s1.heap.objs.size := by simpa using hb
      have hle : s1.heap.objs.size ≤ b := by
        rcases e' with z | z
        · rw [z]; exact Nat.le_add_right _ _
        · rw [z]; exact Nat.le_refl _
      exact I1.fpOk hle (I1.hok.fresh hle)
    have side : s1.heap.objs.size + 1 ∉ [s1.heap.objs.size] := fun z => Nat.succ_ne_self _ (List.mem_singleton.mp z)
    have ob : ∀ (ty : String) (i : Nat) (h : Heap), h.IsStrIter s1.heap.objs.size ty x t i → ∃ o, h.get? s1.heap.objs.size = some o ∧ ∀ v, o.data ≠ .cell v := fun ty i h st => by
      obtain ⟨o, ho, hc, hd⟩ := st
      exact ⟨o, ho, fun v q => by rw [hd] at q; cases q⟩
    cases ha' : x.cps.all (· < 128)
    · have hit' : h'.IsStrIter s1.heap.objs.size "str_iterator" x t 0 := by simpa [strIterType, ha'] using hit
      exact ⟨s1.heap.objs.size + 1, [s1.heap.objs.size + 1, s1.heap.objs.size], _, _, H1, rfl, I2, turn_enumS (St := fun i h => h.IsStrIter s1.heap.objs.size "str_iterator" x t i) (s1.heap.objs.size + 1) s1.heap.objs.size (Nat.succ_ne_self _) side rfl (fun {A} hh => Draws.strWide (A := A) hh s1.heap.objs.size x t) (ob _),
        ⟨⟨.none, he⟩, hit', fun h2 k2 => (Draws.strWide (prog := X.prog) (w := X.w) (A := callerA) rfl s1.heap.objs.size x t).frame 0 h' h2 hit' k2⟩, fo, q⟩
    · have hit' : h'.IsStrIter s1.heap.objs.size "str_ascii_iterator" x t 0 := by simpa [strIterType, ha'] using hit
      exact ⟨s1.heap.objs.size + 1, [s1.heap.objs.size + 1, s1.heap.objs.size], _, _, H1, rfl, I2, turn_enumS (St := fun i h => h.IsStrIter s1.heap.objs.size "str_ascii_iterator" x t i) (s1.heap.objs.size + 1) s1.heap.objs.size (Nat.succ_ne_self _) side rfl (fun {A} hh => Draws.strAscii (A := A) hh s1.heap.objs.size x t) (ob _),
        ⟨⟨.none, he⟩, hit', fun h2 k2 => (Draws.strAscii (prog := X.prog) (w := X.w) (A := callerA) rfl s1.heap.objs.size x t).frame 0 h' h2 hit' k2⟩, fo, q⟩
end Ti


namespace Ti
open PySem PySem.Spec PyProof.Rows L2
theorem piOr {X : Cx} {tg it : Expr} {t u : TI} (h : PI X tg it t) (g : PI X tg it u) : PI X tg it (fun σ H R => t σ H R ∨ u σ H R) := ⟨fun pins s σ H R I q => by
  rcases q with q | q
  · exact h.run pins s σ H R I q
  · exact g.run pins s σ H R I q⟩
section
variable {K : PySem.W.Frag} {cm : Cm} {mu mu2 : List Addr} {Z H Z2 H2 : Hp} {h h2 : Hh} {w : W} {v : V}
theorem walk_listE {a : Addr} {n : Nat} : Walk (Itl K a) n (fun H => ∃ xs, SqL K H a xs ∧ xs.length = n) (fun i H x H' => H' = H ∧ ∀ xs, SqL K H a xs → xs[i]? = some x) :=
  ⟨fun i H hi q => by
    obtain ⟨xs, q, e⟩ := q
    exact ⟨xs, xs[i]'(by omega), q, List.getElem?_eq_getElem _⟩, fun H q => by
    obtain ⟨xs, q, e⟩ := q
    exact ⟨xs, q, by omega⟩, fun i H x H' _ q y => y⟩
theorem walk_enumE {a : Addr} {n : Nat} : Walk (Ite K a) n (fun H => ∃ xs, SqL K H a xs ∧ xs.length = n) (fun i H v H' => ∃ T x, v = .ref T ∧ H T = none ∧ H' = L2.upd H T (.tup [.int (i : Nat), x]) ∧ ∀ xs, SqL K H a xs → xs[i]? = some x) := by
  refine ⟨fun i H hi q => ?_, fun H q => ?_, fun i H v H' hi q y => ?_⟩
  · obtain ⟨xs, q, e⟩ := q
    exact ⟨xs, xs[i]'(by omega), q, List.getElem?_eq_getElem _⟩
  · obtain ⟨xs, q, e⟩ := q
    exact ⟨xs, q, by omega⟩
  · obtain ⟨T, x, h1, h2, h3, h4⟩ := y
    exact ⟨T, x, h1, h2, h3, h4⟩
theorem walk_zipE {a b : Addr} {n m : Nat} : Walk (Itz K a b) (min n m) (fun H => (∃ xs, SqL K H a xs ∧ xs.length = n) ∧ ∃ ys, SqL K H b ys ∧ ys.length = m) (fun i H v H' => ∃ T x y, v = .ref T ∧ H T = none ∧ H' = L2.upd H T (.tup [x, y]) ∧ (∀ xs, SqL K H a xs → xs[i]? = some x) ∧ ∀ ys, SqL K H b ys → ys[i]? = some y) := by
  refine ⟨fun i H hi q => ?_, fun H q => ?_, fun i H v H' hi q y => ?_⟩
  · obtain ⟨⟨xs, q1, e1⟩, ys, q2, e2⟩ := q
    have h1 : i < xs.length := by omega
    have h2 : i < ys.length := by omega
    exact ⟨xs, ys, xs[i], ys[i], q1, q2, List.getElem?_eq_getElem h1, List.getElem?_eq_getElem h2⟩
  · obtain ⟨⟨xs, q1, e1⟩, ys, q2, e2⟩ := q
    exact ⟨xs, ys, q1, q2, by omega⟩
  · obtain ⟨T, x, z, h1, h2, h3, h4, h5⟩ := y
    exact ⟨T, x, z, h1, h2, h3, h4, h5⟩
theorem keep_ok {ws : List W} {a : Addr} (r : RelH K cm mu Z H h) (q : RW K cm mu Z w (.ref a)) (e : asL h w = some ws) (x : Exw mu Z H mu2 Z2 H2) (r2 : RelH K cm mu2 Z2 H2 h2) (k : keepL w ws h2 = true) : ∃ vs, H2 a = some (.lst vs) ∧ RWs K cm mu2 Z2 ws vs := by
  have q2 := q.mono x.z x.m
  cases w with
  | ref i =>
    have k : (match asL h2 (.ref i) with | some us => sames us ws | none => false) = true := k
    split at k
    · rename_i us e2
      have := sames_eq k
      subst this
      obtain ⟨b, vs, eb, hb, rs⟩ := asL_ok r2 q2 e2
      cases eb
      exact ⟨vs, hb, rs⟩
    · cases k
  | lst us =>
    cases e
    obtain ⟨b, vs, eb, z, rs⟩ := q2
    cases eb
    exact ⟨vs, r2.lstZ z, rs⟩
  | _ => cases e
end
section
variable {X : Cx} {cm : Cm}
def tOId (K : PySem.W.Frag) (cm : Cm) (fi : FI) (ms : List DE) : TI := fun σ H R => ∃ mu Z ρ h p s, RelH K cm mu Z H h ∧ Sl K cm mu Z ρ σ ∧ eL ms ρ h = .ok p ∧ fi p.1 p.2 = some s ∧ (¬ ∃ kvs, p.1 = [.dic false kvs]) ∧
  ∀ mu' Z' H' J, Ext mu Z H mu' Z' H' → RelH K cm mu' Z' H' p.2 →
    (∃ G Y, Walk J s.items.length G Y ∧ (∀ mu2 Z2 H2 h2, Exw mu' Z' H' mu2 Z2 H2 → RelH K cm mu2 Z2 H2 h2 → s.keep h2 = true → G H2) ∧
      ∀ i mu2 Z2 H2 h2 x H3, Exw mu' Z' H' mu2 Z2 H2 → RelH K cm mu2 Z2 H2 h2 → s.keep h2 = true → Y i H2 x H3 → ∃ w Z3, s.items[i]? = some w ∧ Ext mu2 Z2 H2 mu2 Z3 H3 ∧ RelH K cm mu2 Z3 H3 h2 ∧ RW K cm mu2 Z3 w x) → R J H'
theorem qi_seq {tg e : Expr} {m : DE} (he : QE X cm e m) : PI X tg e (tOId X.K cm fiL [m]) := by
  refine PI.wk (piOr (pi_list he) (piOr (pi_tup he) (pi_str he))) fun σ H R q => ?_
  obtain ⟨mu, Z, ρ, h, p, s, rl, sl, e, es, nd, hR⟩ := q
  obtain ⟨q, e1, e⟩ := Res.bind_eq_ok e
  obtain ⟨q2, e2, e⟩ := Res.bind_eq_ok e
  cases e2
  cases e
  obtain ⟨w, h1⟩ := q
  have lst : (asL h1 w).map (fun us => (⟨us, keepL w us⟩ : Src)) = some s → iList X.K (tO X.K cm m) σ H R := fun e2 => by
    obtain ⟨ws, e3, rfl⟩ := Option.map_eq_some_iff.mp e2
    refine ⟨mu, Z, ρ, h, w, h1, rl, sl, e1, fun mu1 Z1 H1 v1 x1 r1 w1 => ?_⟩
    obtain ⟨a, vs, rfl, ha, rs⟩ := asL_ok r1 w1 e3
    refine ⟨a, rfl, ⟨vs, SqL.of ha⟩, hR mu1 Z1 H1 _ x1 r1 ⟨_, _, walk_listE, fun mu2 Z2 H2 h2 x2 r2 k => ?_, fun i mu2 Z2 H2 h2 x H3 x2 r2 k y => ?_⟩⟩
    · obtain ⟨vs2, h3, rs2⟩ := keep_ok r1 w1 e3 x2 r2 k
      exact ⟨vs2, SqL.of h3, rs2.length⟩
    · obtain ⟨vs2, h3, rs2⟩ := keep_ok r1 w1 e3 x2 r2 k
      obtain ⟨rfl, y⟩ := y
      have y := y vs2 (SqL.of h3)
      have hi : i < ws.length := by
        rw [← rs2.length]
        exact (List.getElem?_eq_some_iff.mp y).1
      obtain ⟨v', e5, q5⟩ := rs2.get (List.getElem?_eq_getElem hi)
      rw [y] at e5
      cases e5
      exact ⟨ws[i], Z2, List.getElem?_eq_getElem hi, Ext.refl, r2, q5⟩
  cases w with
  | str z =>
    cases es
    refine .inr (.inr ⟨mu, Z, ρ, h, .str z, h1, rl, sl, e1, fun mu1 Z1 H1 v1 x1 r1 w1 => ?_⟩)
    cases w1
    refine ⟨z, rfl, hR mu1 Z1 H1 _ x1 r1 ⟨fun _ => True, fun i H v H' => H' = H ∧ ∃ c, z.cps[i]? = some c ∧ v = .str ⟨#[c]⟩, ?_, fun _ _ _ _ _ _ _ => trivial, fun i mu2 Z2 H2 h2 x H3 x2 r2 k y => ?_⟩⟩
    · have := walk_str (z := z)
      have el : z.cps.size = ((sg z).map fun c => W.str (mkS [c])).length := by
        rw [List.length_map]
        exact (Array.length_toList).symm
      rw [el] at this
      exact this
    · obtain ⟨rfl, c, e2, rfl⟩ := y
      refine ⟨.str (mkS [c]), Z2, ?_, Ext.refl, r2, rfl⟩
      rw [List.getElem?_map, show (sg z)[i]? = some c from by rw [Array.getElem?_toList]; exact e2]
      rfl
  | tup ws =>
    cases es
    refine .inr (.inl ⟨mu, Z, ρ, h, .tup ws, h1, rl, sl, e1, fun mu1 Z1 H1 v1 x1 r1 w1 => ?_⟩)
    obtain ⟨a, vs, rfl, z, rs⟩ := w1
    refine ⟨a, rfl, ⟨vs, SqT.of (r1.tupZ z)⟩, hR mu1 Z1 H1 _ x1 r1 ⟨fun H => SqT X.K H a vs, YAt vs, ?_, fun mu2 Z2 H2 h2 x2 r2 k => SqT.of (r2.tupZ (x2.z _ _ z)), fun i mu2 Z2 H2 h2 x H3 x2 r2 k y => ?_⟩⟩
    · have := walk_tup (K := X.K) (a := a) (xs := vs)
      rw [rs.length] at this
      exact this
    · obtain ⟨rfl, y⟩ := y
      have hi : i < ws.length := by
        rw [← rs.length]
        exact (List.getElem?_eq_some_iff.mp y).1
      obtain ⟨v', e5, q5⟩ := rs.get (List.getElem?_eq_getElem hi)
      rw [y] at e5
      cases e5
      exact ⟨ws[i], Z2, List.getElem?_eq_getElem hi, Ext.refl, r2, q5.mono x2.z x2.m⟩
  | dic kd kvs =>
    cases kd with
    | false => exact absurd ⟨kvs, rfl⟩ nd
    | true => exact .inl (lst es)
  | _ => exact .inl (lst es)
theorem range_items {lo : Int} {n i : Nat} (hi : i < n) : (rangeW lo n)[i]? = some (.int (lo + (i : Int))) := by
  unfold rangeW
  rw [List.getElem?_map, List.getElem?_range hi]
  rfl
theorem okR_ok {i : Int} (e : okR i = true) : -(2 ^ 62) ≤ i ∧ i < 2 ^ 62 := by
  unfold okR at e
  have e := of_decide_eq_true e
  omega
theorem range_R {K : PySem.W.Frag} {lo : Int} {n : Nat} {mu : List Addr} {Z H : Hp} : ∃ G Y, Walk (Itr lo n) (rangeW lo n).length G Y ∧ (∀ mu2 Z2 H2 h2, Exw mu Z H mu2 Z2 H2 → RelH K cm mu2 Z2 H2 h2 → true = true → G H2) ∧
      ∀ i mu2 Z2 H2 h2 x H3, Exw mu Z H mu2 Z2 H2 → RelH K cm mu2 Z2 H2 h2 → true = true → Y i H2 x H3 → ∃ w Z3, (rangeW lo n)[i]? = some w ∧ Ext mu2 Z2 H2 mu2 Z3 H3 ∧ RelH K cm mu2 Z3 H3 h2 ∧ RW K cm mu2 Z3 w x := by
  have el : (rangeW lo n).length = n := by unfold rangeW; rw [List.length_map, List.length_range]
  refine ⟨fun _ => True, fun i H x H' => i < n ∧ H' = H ∧ x = .int (lo + i), ?_, fun _ _ _ _ _ _ _ => trivial, fun i mu2 Z2 H2 h2 x H3 x2 r2 k y => ?_⟩
  · rw [el]
    exact ⟨fun i H hi _ => walk_range.goes i H hi trivial, fun H _ => walk_range.stops H trivial, fun i H x H' hi _ y => ⟨hi, walk_range.yields i H x H' hi trivial y⟩⟩
  · obtain ⟨hi, rfl, rfl⟩ := y
    exact ⟨_, Z2, range_items hi, Ext.refl, r2, rfl⟩
theorem qi_range1 {tg a : Expr} {m : DE} {p pos : Pos} (hg : Gl X "range") (hm : X.mg "range" = none) (ha : QL X cm [a] [m]) (hs : starEach [a] X.env = [(false, eval a X.env)]) : QI X cm tg (.Call (.Name "range" p) [a] [] pos) fiR [m] := by
  refine PI.wk (pi_range1 hg hm ha hs) fun σ H R q => ?_
  obtain ⟨mu, Z, ρ, h, p, s, rl, sl, e, es, hR⟩ := q
  refine ⟨mu, Z, ρ, h, p.1, p.2, rl, sl, e, fun mu1 Z1 H1 vs x1 r1 w1 => ?_⟩
  obtain ⟨ws, h1⟩ := p
  have one : ∃ w, ws = [w] := by
    obtain ⟨q, e1, e⟩ := Res.bind_eq_ok e
    obtain ⟨q2, e2, e⟩ := Res.bind_eq_ok e
    cases e2
    cases e
    exact ⟨_, rfl⟩
  obtain ⟨w, rfl⟩ := one
  obtain ⟨v, rfl, wv⟩ := w1.one
  cases w with
  | int n =>
    cases wv
    have es : (if okR n then some (⟨rangeW 0 n.toNat, fun _ => true⟩ : Src) else none) = some s := es
    split at es
    · rename_i hk
      cases es
      obtain ⟨k1, k2⟩ := okR_ok hk
      exact ⟨n, rfl, k1, k2, hR mu1 Z1 H1 _ x1 r1 range_R⟩
    · cases es
  | _ => cases es
theorem qi_range2 {tg a b : Expr} {m mb : DE} {p pos : Pos} (hg : Gl X "range") (hm : X.mg "range" = none) (ha : QL X cm [a, b] [m, mb]) (hs : starEach [a, b] X.env = [(false, eval a X.env), (false, eval b X.env)]) (hs2 : starEach [b] X.env = [(false, eval b X.env)]) : QI X cm tg (.Call (.Name "range" p) [a, b] [] pos) fiR [m, mb] := by
  refine PI.wk (pi_range2 hg hm ha hs hs2) fun σ H R q => ?_
  obtain ⟨mu, Z, ρ, h, p, s, rl, sl, e, es, hR⟩ := q
  refine ⟨mu, Z, ρ, h, p.1, p.2, rl, sl, e, fun mu1 Z1 H1 vs x1 r1 w1 => ?_⟩
  obtain ⟨ws, h1⟩ := p
  have two : ∃ w u, ws = [w, u] := by
    obtain ⟨q, e1, e⟩ := Res.bind_eq_ok e
    obtain ⟨q2, e2, e⟩ := Res.bind_eq_ok e
    obtain ⟨q3, e3, e2⟩ := Res.bind_eq_ok e2
    obtain ⟨q4, e4, e2⟩ := Res.bind_eq_ok e2
    cases e4
    cases e2
    cases e
    exact ⟨_, _, rfl⟩
  obtain ⟨w, u, rfl⟩ := two
  obtain ⟨v, v2, rfl, wv, wv2⟩ := w1.two
  cases w with
  | int i =>
    cases u with
    | int j =>
      cases wv
      cases wv2
      have es : (if okR i && okR j then some (⟨rangeW i (j - i).toNat, fun _ => true⟩ : Src) else none) = some s := es
      split at es
      · rename_i hk
        cases es
        rw [Bool.and_eq_true] at hk
        obtain ⟨k1, k2⟩ := okR_ok hk.1
        obtain ⟨k3, k4⟩ := okR_ok hk.2
        exact ⟨i, j, rfl, ⟨k1, k2, k3, k4⟩, hR mu1 Z1 H1 _ x1 r1 range_R⟩
      · cases es
    | _ => cases es
  | _ => cases es
theorem walk_enumS {x : Str} : Walk (ItS x) x.cps.size (fun _ => True) (fun i H v H' => ∃ (T : Addr) (c : Nat), v = .ref T ∧ H T = none ∧ H' = L2.upd H T (.tup [.int (i : Nat), .str ⟨#[c]⟩]) ∧ x.cps[i]? = some c) :=
  ⟨fun i H hi _ => hi, fun H _ => rfl, fun i H v H' hi _ y => y⟩
theorem qi_enum {a : Expr} {elts : List Expr} {kk : Nat} {m : DE} {p pos tpos : Pos} (hg : Gl X "enumerate") (hm : X.mg "enumerate" = none) (ha : QL X cm [a] [m]) (hs : starEach [a] X.env = [(false, eval a X.env)]) : QI X cm (.Tuple elts kk tpos) (.Call (.Name "enumerate" p) [a] [] pos) fiE [m] := by
  refine PI.wk (piOr (pi_enum hg hm ha hs) (pi_enumS hg hm ha hs)) fun σ H R q => ?_
  obtain ⟨mu, Z, ρ, h, p, s, rl, sl, e, es, hR⟩ := q
  obtain ⟨ws, h1⟩ := p
  have one : ∃ w, ws = [w] := by
    obtain ⟨q, e1, e⟩ := Res.bind_eq_ok e
    obtain ⟨q2, e2, e⟩ := Res.bind_eq_ok e
    cases e2
    cases e
    exact ⟨_, rfl⟩
  obtain ⟨w, rfl⟩ := one
  by_cases hw : ∃ z, w = .str z
  · obtain ⟨z, rfl⟩ := hw
    right
    refine ⟨mu, Z, ρ, h, [.str z], h1, rl, sl, e, fun mu1 Z1 H1 vs x1 r1 w1 => ?_⟩
    obtain ⟨v, rfl, wv⟩ := w1.one
    cases wv
    cases es
    have sz : z.cps.size = (enumW ((sg z).map fun c => W.str (mkS [c]))).length := by
      unfold enumW
      rw [List.length_map, List.length_zipIdx, List.length_map]
      rfl
    refine ⟨z, rfl, hR mu1 Z1 H1 _ x1 r1 ⟨_, _, by rw [← sz]; exact walk_enumS, fun mu2 Z2 H2 h2 x2 r2 k => trivial, fun i mu2 Z2 H2 h2 x H3 x2 r2 k y => ?_⟩⟩
    obtain ⟨T, c, rfl, hT, rfl, y⟩ := y
    obtain ⟨r', x'⟩ := r2.newZ (o := .tup [.int (i : Nat), .str ⟨#[c]⟩]) hT upd_same
    refine ⟨.tup [.int (i : Nat), .str (mkS [c])], _, ?_, x', r', ⟨T, _, rfl, upd_same, .int (i : Nat), [.str ⟨#[c]⟩], rfl, rfl, .str ⟨#[c]⟩, [], rfl, rfl, rfl⟩⟩
    unfold enumW
    have yc : (sg z)[i]? = some c := by
      show z.cps.toList[i]? = some c
      rw [Array.getElem?_toList]
      exact y
    rw [List.getElem?_map, List.getElem?_zipIdx, List.getElem?_map, yc]
    simp
  have esl : fiE [w] h1 = (asL h1 w).map fun us => (⟨enumW us, keepL w us⟩ : Src) := by
    cases w <;> first | rfl | exact absurd ⟨_, rfl⟩ hw
  left
  refine ⟨mu, Z, ρ, h, [w], h1, rl, sl, e, fun mu1 Z1 H1 vs x1 r1 w1 => ?_⟩
  obtain ⟨v, rfl, wv⟩ := w1.one
  rw [esl] at es
  obtain ⟨us, e3, rfl⟩ := Option.map_eq_some_iff.mp (show (asL h1 w).map (fun us => (⟨enumW us, keepL w us⟩ : Src)) = some s from es)
  obtain ⟨a, vs, rfl, hA, rs⟩ := asL_ok r1 wv e3
  have el : (enumW us).length = us.length := by unfold enumW; rw [List.length_map, List.length_zipIdx]
  refine ⟨a, vs, rfl, SqL.of hA, hR mu1 Z1 H1 _ x1 r1 ⟨_, _, by rw [el]; exact walk_enumE, fun mu2 Z2 H2 h2 x2 r2 k => ?_, fun i mu2 Z2 H2 h2 x H3 x2 r2 k y => ?_⟩⟩
  · obtain ⟨vs2, h3, rs2⟩ := keep_ok r1 wv e3 x2 r2 k
    exact ⟨vs2, SqL.of h3, rs2.length⟩
  · obtain ⟨vs2, h3, rs2⟩ := keep_ok r1 wv e3 x2 r2 k
    obtain ⟨T, z, rfl, hT, rfl, y⟩ := y
    have y := y vs2 (SqL.of h3)
    have hi : i < us.length := by
      rw [← rs2.length]
      exact (List.getElem?_eq_some_iff.mp y).1
    obtain ⟨v', e5, q5⟩ := rs2.get (List.getElem?_eq_getElem hi)
    rw [y] at e5
    cases e5
    obtain ⟨r', x'⟩ := r2.newZ (o := .tup [.int (i : Nat), z]) hT upd_same
    refine ⟨.tup [.int (i : Nat), us[i]], _, ?_, x', r', ⟨T, _, rfl, upd_same, .int (i : Nat), [z], rfl, rfl, z, [], rfl, q5.mono x'.z x'.m, rfl⟩⟩
    unfold enumW
    rw [List.getElem?_map, List.getElem?_zipIdx, List.getElem?_eq_getElem hi]
    simp
theorem qi_zip {a b : Expr} {elts : List Expr} {kk : Nat} {m mb : DE} {p pos tpos : Pos} (hg : Gl X "zip") (hm : X.mg "zip" = none) (ha : QL X cm [a, b] [m, mb]) (hs : starEach [a, b] X.env = (false, eval a X.env) :: starEach [b] X.env) (hpl : (backTo pos (starEach [b] X.env)).any (·.1) = false) : QI X cm (.Tuple elts kk tpos) (.Call (.Name "zip" p) [a, b] [] pos) fiZ [m, mb] := by
  refine PI.wk (pi_zip hg hm ha hs hpl) fun σ H R q => ?_
  obtain ⟨mu, Z, ρ, h, p, s, rl, sl, e, es, hR⟩ := q
  refine ⟨mu, Z, ρ, h, p.1, p.2, rl, sl, e, fun mu1 Z1 H1 vs x1 r1 w1 => ?_⟩
  obtain ⟨ws, h1⟩ := p
  have two : ∃ w u, ws = [w, u] := by
    obtain ⟨q, e1, e⟩ := Res.bind_eq_ok e
    obtain ⟨q2, e2, e⟩ := Res.bind_eq_ok e
    obtain ⟨q3, e3, e2⟩ := Res.bind_eq_ok e2
    obtain ⟨q4, e4, e2⟩ := Res.bind_eq_ok e2
    cases e4
    cases e2
    cases e
    exact ⟨_, _, rfl⟩
  obtain ⟨w, u, rfl⟩ := two
  obtain ⟨v, v2, rfl, wv, wv2⟩ := w1.two
  have es : (match asL h1 w, asL h1 u with
    | some us, some vs => some (⟨(us.zip vs).map fun p => .tup [p.1, p.2], fun h => keepL w us h && keepL u vs h⟩ : Src)
    | _, _ => none) = some s := es
  split at es
  · rename_i us ts e3 e4
    cases es
    obtain ⟨a, xs, rfl, hA, rs⟩ := asL_ok r1 wv e3
    obtain ⟨b, ys, rfl, hB, rt⟩ := asL_ok r1 wv2 e4
    have el : ((us.zip ts).map fun p => W.tup [p.1, p.2]).length = min us.length ts.length := by rw [List.length_map, List.length_zip]
    refine ⟨a, b, xs, ys, rfl, SqL.of hA, SqL.of hB, hR mu1 Z1 H1 _ x1 r1 ⟨_, _, by rw [el]; exact walk_zipE, fun mu2 Z2 H2 h2 x2 r2 k => ?_, fun i mu2 Z2 H2 h2 x H3 x2 r2 k y => ?_⟩⟩
    · rw [Bool.and_eq_true] at k
      obtain ⟨vs2, h3, rs2⟩ := keep_ok r1 wv e3 x2 r2 k.1
      obtain ⟨vs3, h4, rs3⟩ := keep_ok r1 wv2 e4 x2 r2 k.2
      exact ⟨⟨vs2, SqL.of h3, rs2.length⟩, vs3, SqL.of h4, rs3.length⟩
    · rw [Bool.and_eq_true] at k
      obtain ⟨vs2, h3, rs2⟩ := keep_ok r1 wv e3 x2 r2 k.1
      obtain ⟨vs3, h4, rs3⟩ := keep_ok r1 wv2 e4 x2 r2 k.2
      obtain ⟨T, z, z2, rfl, hT, rfl, y1, y2⟩ := y
      have y1 := y1 vs2 (SqL.of h3)
      have y2 := y2 vs3 (SqL.of h4)
      have hi : i < us.length := by
        rw [← rs2.length]
        exact (List.getElem?_eq_some_iff.mp y1).1
      have hj : i < ts.length := by
        rw [← rs3.length]
        exact (List.getElem?_eq_some_iff.mp y2).1
      obtain ⟨v', e5, q5⟩ := rs2.get (List.getElem?_eq_getElem hi)
      obtain ⟨v6, e6, q6⟩ := rs3.get (List.getElem?_eq_getElem hj)
      rw [y1] at e5
      rw [y2] at e6
      cases e5
      cases e6
      obtain ⟨r', x'⟩ := r2.newZ (o := .tup [z, z2]) hT upd_same
      refine ⟨.tup [us[i], ts[i]], _, ?_, x', r', ⟨T, _, rfl, upd_same, z, [z2], rfl, q5.mono x'.z x'.m, z2, [], rfl, q6.mono x'.z x'.m, rfl⟩⟩
      have ez : (us.zip ts)[i]? = some (us[i], ts[i]) := List.getElem?_zip_eq_some.mpr ⟨List.getElem?_eq_getElem hi, List.getElem?_eq_getElem hj⟩
      rw [List.getElem?_map, ez]
      rfl
  · cases es
end

def spRun (K : PySem.W.Frag) (cm : Cm) (n : Nat) (f : Fn) : Sp := fun vs H Q _ => ∃ mu Z h ws w h', RelH K cm mu Z H h ∧ RWs K cm mu Z ws vs ∧ ws.length = n ∧ f ws h = .ok (w, h') ∧ Fin K cm mu Z H w h' Q
def eCall (f : Fn) (n : Nat) (ds : List W) (es : List DE) : DE := fun ρ h => (eL es ρ h).bind fun p => if (p.1 ++ ds).length = n then f (p.1 ++ ds) p.2 else .bad
section
variable {X : Cx} {cm : Cm} {k n : Nat} {f C : Addr} {fd : FuncData} {ps : List Str} {dvs : List V} {ds : List Value} {x : Str} {p pos : Pos} {e : Expr} {es : List Expr} {g : Fn} {dw : List W} {ms : List DE}
theorem tO_def (hd : ∀ mu Z, RWs X.K cm mu Z dw dvs) (σ : L2.St) (H : Hp) (Q : VK) (q : tO X.K cm (eCall g n dw ms) σ H Q) : tCall (spRun X.K cm n g) dvs E0 (tOL X.K cm ms) σ H Q := by
  obtain ⟨mu, Z, ρ, h, w, h', rl, s, e, f⟩ := q
  obtain ⟨p, e1, e⟩ := Res.bind_eq_ok e
  refine ⟨mu, Z, ρ, h, p.1, p.2, rl, s, e1, fun mu1 Z1 H1 vs x1 r1 w1 => ?_⟩
  split at e
  · rename_i hn
    exact ⟨mu1, Z1, p.2, p.1 ++ dw, w, h', r1, RWs.append w1 (hd mu1 Z1), hn, e, f.ext x1⟩
  · cases e
theorem q_def (F : FnG X.prog X.w X.K X.mg X.base CX0 k f fd ps (spRun X.K cm n g)) (hr : Room k X.A) (gd : X.A.guards = some []) (hg : Gl X x) (hm : X.mg x = some (.ref f)) (hk : PySem.W.keepIn X.K (.ref f) = true) (hb : Binds X.K fd ps ds) (hv : Vals dvs ds) (hd : ∀ mu Z, RWs X.K cm mu Z dw dvs)
    (ha : QL X cm (e :: es) ms) (hdb : (x == ("__debug__" : Str)) = false) (he : starEach (e :: es) X.env = (false, eval e X.env) :: starEach es X.env) (hpl : (backTo pos (starEach es X.env)).any (·.1) = false) : QE X cm (.Call (.Name x p) (e :: es) [] pos) (eCall g n dw ms) :=
  PE.wk (pe_callG F hr gd hg hm hk hb hv pass0 ha hdb he hpl) fun σ H Q q => tO_def hd σ H Q q
theorem q_def0 (F : FnG X.prog X.w X.K X.mg X.base CX0 k f fd ps (spRun X.K cm n g)) (hr : Room k X.A) (gd : X.A.guards = some []) (hg : Gl X x) (hm : X.mg x = some (.ref f)) (hk : PySem.W.keepIn X.K (.ref f) = true) (hb : Binds X.K fd ps ds) (hv : Vals dvs ds) (hd : ∀ mu Z, RWs X.K cm mu Z dw dvs)
    (hdb : (x == ("__debug__" : Str)) = false) : QE X cm (.Call (.Name x p) [] [] pos) (eCall g n dw []) := by
  refine PE.wk (pe_callG0 F hr gd hg hm hk hb hv pass0 hdb) fun σ H Q q => ?_
  obtain ⟨mu, Z, ρ, h, w, h', rl, s, e, f⟩ := q
  obtain ⟨p, e1, e⟩ := Res.bind_eq_ok e
  cases e1
  split at e
  · rename_i hn
    exact ⟨mu, Z, h, dw, w, h', rl, hd mu Z, hn, e, f⟩
  · cases e
def permV (ix : List Nat) (zs : List V) : List V := ix.map fun i => zs.getD i .non
def permU (ix : List Nat) (ws : List Value) : List Value := ix.map fun i => ws.getD i .none
def permW (ix : List Nat) (ws : List W) : List W := ix.map fun i => ws.getD i .non
theorem Vals.getD : ∀ {zs : List V} {ws : List Value}, Vals zs ws → ∀ i, L2.RelV (zs.getD i .non) (ws.getD i .none)
  | _, _, .nil, i => by simp [L2.RelV]
  | _, _, .cons r t, 0 => by simpa using r
  | _, _, .cons r t, i + 1 => by simpa using Vals.getD t i
theorem perm_rel {ix : List Nat} {zs : List V} {ws : List Value} (r : Vals zs ws) : Vals (permV ix zs) (permU ix ws) := by
  induction ix with
  | nil => exact .nil
  | cons i ix ih => exact .cons (Vals.getD r i) ih
theorem RWs.getD {K : PySem.W.Frag} {mu : List Addr} {Z : Hp} : ∀ {ws : List W} {vs : List V}, RWs K cm mu Z ws vs → ∀ i, RW K cm mu Z (ws.getD i .non) (vs.getD i .non)
  | [], vs, h, i => by
    have h : vs = [] := h
    subst h
    simp [RW]
  | w :: ws, _, ⟨v, r, rfl, h1, h2⟩, 0 => by simpa using h1
  | w :: ws, _, ⟨v, r, rfl, h1, h2⟩, i + 1 => by simpa using RWs.getD h2 i
theorem perm_rw {K : PySem.W.Frag} {mu : List Addr} {Z : Hp} {ix : List Nat} {ws : List W} {vs : List V} (r : RWs K cm mu Z ws vs) : RWs K cm mu Z (permW ix ws) (permV ix vs) := by
  induction ix with
  | nil => exact rfl
  | cons i ix ih => exact ⟨_, _, rfl, RWs.getD r i, ih⟩
def eKw (f : Fn) (n m : Nat) (ix : List Nat) (es : List DE) : DE := fun ρ h => (eL es ρ h).bind fun p => if ix.length = n ∧ p.1.length = m then f (permW ix p.1) p.2 else .bad
theorem q_kw {kws : List Keyword} {ks : List Str} {ix : List Nat} (F : FnG X.prog X.w X.K X.mg X.base CX0 k f fd ps (spRun X.K cm n g)) (hr : Room k X.A) (gd : X.A.guards = some []) (hg : Gl X x) (hm : X.mg x = some (.ref f)) (hk : PySem.W.keepIn X.K (.ref f) = true)
    (hb : KwB X.K fd ps ks (permU ix) (permV ix)) (ha : PK X kws (tOL X.K cm ms)) (hdb : (x == ("__debug__" : Str)) = false) (hall : ∀ pos, (backToKw pos (keywordEach kws X.env)).all (·.1.isSome) = true)
    (hks : ∀ pos, (backToKw pos (keywordEach kws X.env)).filterMap (·.1) = ks) (hno : ∀ pos, (backToKw pos (keywordEach kws X.env)).any (·.1.isNone) = false) : QE X cm (.Call (.Name x p) [] kws pos) (eKw g n ks.length ix ms) := by
  refine PE.wk (pe_callGK F hr gd hg hm hk hb pass0 ha hdb hall hks hno) fun σ H Q q => ?_
  obtain ⟨mu, Z, ρ, h, w, h', rl, s, e, f⟩ := q
  obtain ⟨p, e1, e⟩ := Res.bind_eq_ok e
  refine ⟨mu, Z, ρ, h, p.1, p.2, rl, s, e1, fun mu1 Z1 H1 vs x1 r1 w1 => ?_⟩
  split at e
  · rename_i hn
    exact ⟨w1.length.trans hn.2, mu1, Z1, p.2, permW ix p.1, w, h', r1, perm_rw w1, (List.length_map _).trans hn.1, e, f.ext x1⟩
  · cases e
theorem pk_nilQ : PK X [] (tOL X.K cm []) := ⟨fun pos pins s σ H Q I q => pk_nil.run pos pins s σ H Q I (by
  obtain ⟨mu, Z, ρ, h, ws, h', rl, s, e, f⟩ := q
  cases e
  exact f mu Z H [] Ext.refl rl rfl)⟩
theorem pk_consQ {nm : Option Str} {kpos : Pos} {kws : List Keyword} {m : DE} (ha : QE X cm e m) (hr : PK X kws (tOL X.K cm ms)) : PK X (⟨nm, e, kpos⟩ :: kws) (tOL X.K cm (m :: ms)) := ⟨fun pos pins s σ H Q I q => (pk_cons ha hr).run pos pins s σ H Q I (by
  obtain ⟨mu, Z, ρ, h, ws, h', rl, s, e, f⟩ := q
  obtain ⟨p, e1, e⟩ := Res.bind_eq_ok e
  obtain ⟨p2, e2, e⟩ := Res.bind_eq_ok e
  cases e
  refine ⟨mu, Z, ρ, h, p.1, p.2, rl, s, e1, fun mu1 Z1 H1 v1 x1 r1 w1 => ?_⟩
  refine ⟨mu1, Z1, ρ, p.2, p2.1, p2.2, r1, s.ext x1, e2, fun mu2 Z2 H2 vs x2 r2 ws2 => ?_⟩
  exact f mu2 Z2 H2 (v1 :: vs) (x1.trans x2) r2 ⟨v1, vs, rfl, w1.mono x2.z x2.m, ws2⟩)⟩
theorem body_ok {K : PySem.W.Frag} {N : List Str} {np : Nat} {md : Mode} {m : DS} {vs : List V} {H : Hp} {Q : VK} {E : XK} (h : spRun K cm np (runDef N.length md m) vs H Q E) (hN : np ≤ N.length) :
    tOS K cm m { nx := fun _ H' => Q .non H', rt := Q } (start N vs) H := by
  obtain ⟨mu, Z, h, ws, w, h', rl, rs, hl, e, f⟩ := h
  obtain ⟨q, e1, e⟩ := Res.bind_eq_ok e
  obtain ⟨fl, ρ', h1⟩ := q
  have lv := rs.length
  refine ⟨mu, Z, _, h, fl, ρ', h1, rl, ⟨?_, fun i u ei => ?_⟩, e1, fun mu1 Z1 H1 x1 r1 => ?_⟩
  · show (ws.map some ++ List.replicate (N.length - ws.length) none).length = (vs.map some ++ List.replicate (N.length - vs.length) none).length
    simp [lv]
  · show ∃ v, (vs.map some ++ List.replicate (N.length - vs.length) none)[i]? = some (some v) ∧ _
    by_cases hi : i < ws.length
    · rw [List.getElem?_append_left (by rw [List.length_map]; exact hi), List.getElem?_map] at ei
      cases e2 : ws[i]? with
      | none => rw [e2] at ei; cases ei
      | some u' =>
        rw [e2] at ei
        cases ei
        obtain ⟨v, e3, q⟩ := rs.get e2
        refine ⟨v, ?_, q⟩
        rw [List.getElem?_append_left (by rw [List.length_map, lv]; exact hi), List.getElem?_map, e3]
        rfl
    · rw [List.getElem?_append_right (by rw [List.length_map]; omega), List.getElem?_replicate] at ei
      split at ei <;> cases ei
  · cases fl with
    | nx => exact fun σ' s' => fin_ok rl x1 r1 (w1 := .non) (v := .non) rfl e f
    | rt u => exact fun v wv => fin_ok rl x1 r1 wv e f
    | bk => cases e
    | ct => cases e
end
end Ti


namespace Ti
open PySem PySem.Spec PyProof.Rows L2
section
variable {X : Cx} {cm : Cm}
theorem rev_made (z : Str) (t u : Tok) : PySem.sliceMade z t none none (some (-1, u)) = .str (mkS (sg z).reverse) := by
  have e0 : (((some ((-1 : Int), u)).map (·.1)).getD 1 == 1) = false := rfl
  have e1 : slicePicked z none none (some (-1, u)) = (List.range z.cps.size).reverse := by
    show Builtin.Str.strSliceIndices none none (-1) z.length = _
    show sliceRange (((z.cps.size : Nat) : Int) - 1) (-1) (-1) = _
    rw [PySem.W.krv_sliceRange, PySem.W.krv_range]
  unfold PySem.sliceMade
  rw [e0, e1, Bool.false_and, if_neg (by decide), List.filterMap_reverse, PySem.W.krv_all]
  rfl
def tRevS (te : TE) : TE := fun σ H Q => te σ H fun x H1 => ∃ z, x = .str z ∧ z.length ≤ sizeLine ∧ Q (.str (mkS (sg z).reverse)) H1
theorem pe_revS {e : Expr} {te : TE} {k : Nat} {p1 p2 p3 pos : Pos} (he : PE X e te) : PE X (.Subscript e (.Slice none none (some (.UnaryOp .USub (.Constant (.int 1) k p1) p2)) p3) pos) (tRevS te) := by
  refine ⟨fun pins s σ H Q I h => ?_⟩
  refine Subscript_ (thn (he.run pins s σ H _ I h) fun v s1 ⟨x, H1, I1, r1, q1⟩ => ?_)
  obtain ⟨z, ex, hz, q⟩ := q1
  subst ex
  obtain ⟨t, rfl⟩ := r1
  have hst : PO X (some (.UnaryOp .USub (.Constant (.int 1) k p1) p2)) (tPart (tUn (rU fun i => .int (-i)) (tC (.int 1)))) := po_some (pe_un un_neg pe_int)
  refine wpAny_Slice (thn (po_none.run pins s1 σ H1 (fun o H2 => o = none ∧ H2 = H1) I1 ⟨rfl, rfl⟩) fun vl s2 ⟨l, H2, I2, pl, el, e2⟩ => ?_)
  subst el e2
  refine thn (po_none.run pins s2 σ H2 (fun o H3 => o = none ∧ H3 = H2) I2 ⟨rfl, rfl⟩) fun vu s3 ⟨u, H3, I3, pu, eu, e3⟩ => ?_
  subst eu e3
  refine thn (hst.run pins s3 σ H3 (fun o H4 => o = some (-1) ∧ H4 = H3) I3 ⟨1, rfl, -1, rfl, rfl, rfl⟩) fun vs s4 ⟨o, H4, I4, ps, eo, e4⟩ => ?_
  subst eo e4
  have I5 : Inv X pins σ H4 { s4 with heap := s4.heap.push { cls := .type "slice", data := .fields #[vl, vu, vs] } } := I4.kept (t' := s4.toks) fun b ob q => Heap.get?_push_of_some _ q
  refine tail_any (ops := [.str z t, .ref s4.heap.objs.size]) (typeIs_str _ z t) PySem.F.slot_str_getitem.lookup ?_ (by with_unfolding_all rfl)
  cases pl
  cases pu
  obtain ⟨t3, rfl⟩ : ∃ t3, vs = .int (-1) t3 := by
    cases ps with
    | int _ t => exact ⟨t, rfl⟩
  refine wpAny_getItem_str_slice (l := none) (u := none) (st := some (-1, t3)) ⟨_, Heap.get?_push_size _ rfl, rfl, rfl⟩ rfl ?_
  rw [rev_made]
  exact ⟨by show (sg z).reverse.toArray.size ≤ sizeLine; rw [List.size_toArray, List.length_reverse, ← len_sg]; exact hz, .str _, H4, I5.tok _, ⟨_, rfl⟩, q⟩
theorem pe_either {e : Expr} {t u : TE} (h : PE X e t) (g : PE X e u) : PE X e (fun σ H Q => t σ H Q ∨ u σ H Q) := ⟨fun pins s σ H Q I q => by
  rcases q with q | q
  · exact h.run pins s σ H Q I q
  · exact g.run pins s σ H Q I q⟩
theorem q_rev {c : Bool} {e : Expr} {m : DE} {k : Nat} {p1 p2 p3 pos : Pos} (he : QE X cm e m) : QE X cm (.Subscript e (.Slice none none (some (.UnaryOp .USub (.Constant (.int 1) k p1) p2)) p3) pos) (e1 (pRev c) m) := by
  refine PE.wk (pe_either (pe_revS he) (pe_revL he)) fun σ H Q q => ?_
  obtain ⟨mu, Z, ρ, h, w, h', rl, s, e, f⟩ := q
  obtain ⟨p, e1, e⟩ := Res.bind_eq_ok e
  obtain ⟨u, h1⟩ := p
  have gen : (match asL h1 u with | some ws => mkL c ws.reverse h1 | none => .bad) = .ok (w, h') → tRevL X.K (tO X.K cm m) σ H Q := fun e => by
    refine ⟨mu, Z, ρ, h, u, h1, rl, s, e1, fun mu1 Z1 H1 v1 x1 r1 w1 => ?_⟩
    split at e
    · rename_i ws e4
      obtain ⟨a, vs, rfl, ha, rs⟩ := asL_ok r1 w1 e4
      exact ⟨a, vs, rfl, SqL.of ha, (mkL_ok r1 rs.reverse e (f.ext x1)).2⟩
    · cases e
  cases u with
  | str z =>
    have e : (if z.length ≤ 1000000 then Res.ok (W.str (mkS (sg z).reverse), h1) else .bad) = .ok (w, h') := e
    split at e
    · rename_i hz
      cases e
      refine .inl ⟨mu, Z, ρ, h, .str z, _, rl, s, e1, fun mu1 Z1 H1 v1 x1 r1 w1 => ?_⟩
      cases w1
      exact ⟨z, rfl, Nat.le_trans hz (by decide), f _ _ _ _ x1 r1 rfl⟩
    · cases e
  | _ => exact .inr (gen e)

def rSetX : TSet := fun o i v H Q => rSetL o i v H Q ∨ rSetD o i v H Q
theorem set_X (hu : X.A.units + 1 < cLine) : PSet X rSetX := fun pins s σ H o i v ov iv u Q I r1 r2 r3 q => by
  rcases q with q | q
  · exact set_list pins s σ H o i v ov iv u Q I r1 r2 r3 q
  · exact set_dict hu pins s σ H o i v ov iv u Q I r1 r2 r3 q
theorem nors_set {e : W} (he : nor e = true) : ∀ {ws : List W} (j : Nat), nors ws = true → nors (ws.set j e) = true
  | [], _, _ => rfl
  | w :: ws, 0, h => by
    have h : (nor w && nors ws) = true := h
    rw [Bool.and_eq_true] at h
    show (nor e && nors ws) = true
    rw [he, h.2]; rfl
  | w :: ws, j + 1, h => by
    have h : (nor w && nors ws) = true := h
    rw [Bool.and_eq_true] at h
    show (nor w && nors (ws.set j e)) = true
    rw [h.1, nors_set he j h.2]; rfl
theorem norK_map {e : W} {k : HK} (he : nor e = true) : ∀ {kvs : List (HK × W)}, norK kvs = true → norK (kvs.map fun kv => if kv.1 = k then (kv.1, e) else kv) = true
  | [], _ => rfl
  | p :: r, h => by
    have h : (nor p.2 && norK r) = true := h
    rw [Bool.and_eq_true] at h
    rw [List.map_cons]
    split
    · show (nor e && norK _) = true
      rw [he, norK_map he h.2]; rfl
    · show (nor p.2 && norK _) = true
      rw [h.1, norK_map he h.2]; rfl
theorem norK_app {e : W} {k : HK} (he : nor e = true) : ∀ {kvs : List (HK × W)}, norK kvs = true → norK (kvs ++ [(k, e)]) = true
  | [], _ => by show (nor e && true) = true; rw [he]; rfl
  | p :: r, h => by
    have h : (nor p.2 && norK r) = true := h
    rw [Bool.and_eq_true] at h
    show (nor p.2 && norK (r ++ _)) = true
    rw [h.1, norK_app he h.2]; rfl
theorem norK_put {e : W} {k : HK} (he : nor e = true) {kvs : List (HK × W)} (h : norK kvs = true) : norK (dput kvs k e) = true := by
  unfold dput
  split
  · exact norK_map he h
  · exact norK_app he h
theorem paired_snoc {κ : Type} {R : HK → κ → Prop} {k : HK} {q : κ} (hk : R k q) : ∀ {l : List HK} {ks : List κ}, Paired R l ks → Paired R (l ++ [k]) (ks ++ [q])
  | _, _, .nil => .cons hk .nil
  | _, _, .cons a r => .cons a (paired_snoc hk r)
theorem RWk.snoc {K : PySem.W.Frag} {cm : Cm} {mu : List Addr} {Z : Hp} {k : HK} {w : W} {v : V} (hw : RW K cm mu Z w v) : ∀ {kvs : List (HK × W)} {vs : List V}, RWk K cm mu Z kvs vs → RWk K cm mu Z (kvs ++ [(k, w)]) (vs ++ [v])
  | [], vs, h => by
    cases (show vs = [] from h)
    exact ⟨v, [], rfl, hw, rfl⟩
  | p :: r, vs, h => by
    obtain ⟨v0, vr, rfl, r1, r2⟩ := h
    exact ⟨v0, vr ++ [v], rfl, r1, RWk.snoc hw r2⟩
theorem put_gen {κ : Type} [DecidableEq κ] {R : HK → κ → Prop} (hi : ∀ a b p, R a p → R b p → a = b) (hf : ∀ a p q, R a p → R a q → p = q) {K : PySem.W.Frag} {mu : List Addr} {Z : Hp} {k : HK} {q : κ} {w : W} {v : V} (hk : R k q) (hw : RW K cm mu Z w v) {kvs : List (HK × W)} {ks : List κ} {vs : List V}
    (h1 : Paired R (kvs.map (·.1)) ks) (h2 : ks.length = vs.length) (h3 : RWk K cm mu Z kvs vs) : ∃ ks' vs', Paired R ((dput kvs k w).map (·.1)) ks' ∧ ks'.length = vs'.length ∧ putK (ks.zip vs) q v = ks'.zip vs' ∧ RWk K cm mu Z (dput kvs k w) vs' := by
  have anyE : ∀ {kvs : List (HK × W)} {ks : List κ} {vs : List V}, Paired R (kvs.map (·.1)) ks → ks.length = vs.length → RWk K cm mu Z kvs vs → ((ks.zip vs).any fun kv => decide (kv.1 = q)) = kvs.any fun kv => decide (kv.1 = k) := by
    intro kvs
    induction kvs with
    | nil => intro ks vs h1 h2 h3; cases h1; rfl
    | cons p r ih =>
      intro ks vs h1 h2 h3
      obtain ⟨k0, w0⟩ := p
      obtain ⟨v0, vr, rfl, r1, r2⟩ := h3
      cases h1 with
      | cons g1 g2 =>
        rename_i q0 qs
        rw [List.zip_cons_cons, List.any_cons, List.any_cons, ih g2 (Nat.succ.inj h2) r2]
        congr 1
        by_cases e : k0 = k
        · subst e
          rw [decide_eq_true (hf _ _ _ g1 hk), decide_eq_true rfl]
        · rw [decide_eq_false (show ¬ q0 = q from fun z => e (hi _ _ _ g1 (by rw [z]; exact hk))), decide_eq_false (show ¬ ((k0, w0) : HK × W).1 = k from e)]
  have mapE : ∀ {kvs : List (HK × W)} {ks : List κ} {vs : List V}, Paired R (kvs.map (·.1)) ks → ks.length = vs.length → RWk K cm mu Z kvs vs → ∃ vs', Paired R ((kvs.map fun kv => if kv.1 = k then (kv.1, w) else kv).map (·.1)) ks ∧ ks.length = vs'.length ∧ ((ks.zip vs).map fun kv => if kv.1 = q then (kv.1, v) else kv) = ks.zip vs' ∧ RWk K cm mu Z (kvs.map fun kv => if kv.1 = k then (kv.1, w) else kv) vs' := by
    intro kvs
    induction kvs with
    | nil => intro ks vs h1 h2 h3; cases h1; exact ⟨[], .nil, rfl, rfl, rfl⟩
    | cons p r ih =>
      intro ks vs h1 h2 h3
      obtain ⟨k0, w0⟩ := p
      obtain ⟨v0, vr, rfl, r1, r2⟩ := h3
      cases h1 with
      | cons g1 g2 =>
        rename_i q0 qs
        obtain ⟨vs', i1, i2, i3, i4⟩ := ih g2 (Nat.succ.inj h2) r2
        by_cases e : k0 = k
        · subst e
          have eq : q0 = q := hf _ _ _ g1 hk
          subst eq
          refine ⟨v :: vs', ?_, by rw [List.length_cons, List.length_cons, i2], ?_, ?_⟩
          · rw [List.map_cons, if_pos rfl, List.map_cons]
            exact .cons g1 i1
          · rw [List.zip_cons_cons, List.map_cons, if_pos rfl, i3]
            rfl
          · rw [List.map_cons, if_pos rfl]
            exact ⟨v, vs', rfl, hw, i4⟩
        · have ne : ¬ q0 = q := fun z => e (hi _ _ _ g1 (by rw [z]; exact hk))
          refine ⟨v0 :: vs', ?_, by rw [List.length_cons, List.length_cons, i2], ?_, ?_⟩
          · rw [List.map_cons, if_neg e, List.map_cons]
            exact .cons g1 i1
          · rw [List.zip_cons_cons, List.map_cons, if_neg ne, i3]
            rfl
          · rw [List.map_cons, if_neg e]
            exact ⟨v0, vs', rfl, r1, i4⟩
  unfold dput putK
  rw [anyE h1 h2 h3]
  split
  · obtain ⟨vs', i1, i2, i3, i4⟩ := mapE h1 h2 h3
    exact ⟨ks, vs', i1, i2, i3, i4⟩
  · refine ⟨ks ++ [q], vs ++ [v], ?_, by rw [List.length_append, List.length_append, h2]; rfl, ?_, ?_⟩
    · rw [List.map_append]
      exact paired_snoc hk h1
    · rw [List.zip_append h2]
      rfl
    · exact RWk.snoc hw h3
theorem ok_set {K : PySem.W.Frag} {mu : List Addr} {Z H : Hp} {h h' : Hh} {w1 w2 w3 w : W} {v1 v2 v3 : V} {Q : Hp → Prop} (r : RelH K cm mu Z H h) (q1 : RW K cm mu Z w1 v1) (q2 : RW K cm mu Z w2 v2) (q3 : RW K cm mu Z w3 v3) (e : pSet w1 w2 w3 h = .ok (w, h'))
    (f : ∀ mu' Z' H', Ext mu Z H mu' Z' H' → RelH K cm mu' Z' H' h' → Q H') : rSetX v1 v2 v3 H Q := by
  cases w1 with
  | ref p =>
    obtain ⟨a, rfl, m⟩ := q1
    unfold pSet at e
    simp only at e
    split at e
    · rename_i ws e1
      split at e
      · rename_i k
        split at e
        · rename_i j ej
          split at e
          · rename_i hn
            cases e
            cases q2
            obtain ⟨z, n, vs, e2, rs⟩ := (show Z a = none ∧ nors ws = true ∧ ∃ vs, H a = some (.lst vs) ∧ RWs K cm [] Z ws vs from r.at_ m e1)
            refine .inl ⟨a, vs, k, j, rfl, rfl, e2, by rw [rs.length]; exact ej, ?_⟩
            obtain ⟨r', x⟩ := r.wr (c := .lst (ws.set j w3)) (o := .lst (vs.set j v3)) m z e2 ⟨z, nors_set hn j n, vs.set j v3, upd_same, RWs.set (RW.any hn q3) j rs⟩
            exact f _ _ _ x r'
          · cases e
        · cases e
      · cases e
    · rename_i kd kvs e1
      split at e
      · rename_i k ek
        split at e
        · rename_i hn
          cases e
          rw [Bool.and_eq_true, Bool.and_eq_true, decide_eq_true_eq] at hn
          obtain ⟨⟨hf, hn⟩, hl⟩ := hn
          obtain ⟨z, n, q⟩ := r.at_ m e1
          have n' : norK (dput kvs k w3) = true := norK_put hn n
          have len : ∀ {κ : Type} {R : HK → κ → Prop} {ks : List κ} {vs : List V}, Paired R (kvs.map (·.1)) ks → ks.length = vs.length → (ks.zip vs).length < sizeLine := fun {κ R ks vs} g1 g2 => by
            have : ∀ {l : List HK} {ks : List κ}, Paired R l ks → l.length = ks.length := by
              intro l ks g
              induction g with
              | nil => rfl
              | cons _ _ ih => rw [List.length_cons, List.length_cons, ih]
            rw [List.length_zip, ← g2, Nat.min_self, ← this g1, List.length_map]
            exact hl
          cases kd with
          | false =>
            obtain ⟨ks, vs, h1, h2, h3, h4⟩ := (show ∃ ks vs, KeysK (kvs.map (·.1)) ks ∧ H a = some (.dK (ks.zip vs)) ∧ ks.length = vs.length ∧ RWk K cm [] Z kvs vs from q)
            obtain ⟨k', hk⟩ := fits_key hf
            obtain ⟨ks', vs', i1, i2, i3, i4⟩ := put_gen (R := fun k q => k.key = some q) (fun _ _ _ => key_inj) (fun _ _ _ g g' => Option.some.inj (g.symm.trans g')) hk (RW.any (mu' := []) hn q3) h1 h3 h4
            refine .inr ⟨a, _, rfl, .inl ⟨_, k', h2, key_flat q2 ek hk, len h1 h3, rfl⟩, ?_⟩
            rw [i3]
            obtain ⟨r', x⟩ := r.wr (c := .dic false (dput kvs k w3)) (o := .dK (ks'.zip vs')) m z h2 ⟨z, n', ks', vs', i1, upd_same, i2, i4⟩
            exact f _ _ _ x r'
          | true =>
            obtain ⟨ks, vs, h1, h2, h3, h4⟩ := (show ∃ ks vs, KeysT (kvs.map (·.1)) ks ∧ H a = some (.dT (ks.zip vs)) ∧ ks.length = vs.length ∧ RWk K cm [] Z kvs vs from q)
            obtain ⟨l, k', rfl, hk⟩ := fits_keys hf
            obtain ⟨ks', vs', i1, i2, i3, i4⟩ := put_gen (R := fun k q => ∃ ks, k = .tup ks ∧ KeysK ks q) (fun a b p g g' => by
              obtain ⟨x, rfl, g⟩ := g
              obtain ⟨y, rfl, g'⟩ := g'
              rw [keysK_inj g g']) (fun a p q g g' => by
              obtain ⟨x, rfl, g⟩ := g
              obtain ⟨y, e, g'⟩ := g'
              cases e
              exact keysK_fun g g') ⟨l, rfl, hk⟩ (RW.any (mu' := []) hn q3) h1 h3 h4
            cases w2 with
            | tup ws =>
              unfold keyOf at ek
              cases e4 : keysOf ws with
              | none => rw [e4] at ek; cases ek
              | some ks2 =>
                rw [e4] at ek
                cases ek
                obtain ⟨b, xs, rfl, zb, rs⟩ := q2
                refine .inr ⟨a, _, rfl, .inr ⟨_, k', b, h2, rfl, ?_, len h1 h3, rfl⟩, ?_⟩
                · rw [r.tupZ zb, keys_flat rs e4 hk]
                · rw [i3]
                  obtain ⟨r', x⟩ := r.wr (c := .dic true (dput kvs (.tup l) w3)) (o := .dT (ks'.zip vs')) m z h2 ⟨z, n', ks', vs', i1, upd_same, i2, i4⟩
                  exact f _ _ _ x r'
            | _ => cases ek
        · cases e
      · cases e
    · cases e
  | _ => cases e
theorem qs_setItem {o i v : Expr} {mo mi mv : DE} {tpos pos : Pos} (hu : X.A.units + 65 < cLine) (ho : QE X cm o mo) (hi : QE X cm i mi) (hv : QE X cm v mv) (hs : swapsWithSole [.Subscript o i tpos] v pos.line X.env = pure false) (hw : swappedStores [.Subscript o i tpos] v X.env = pure none)
    (ha : ∀ v, assign (.Subscript o i tpos) X.env v = (do
      let ov ← holding [v] (eval o X.env)
      let iv ← holding [v, ov] (eval i X.env)
      standAt tpos
      holding [v, ov, iv] (setItem ov iv v)
      release [v, ov, iv] [])) : QS X cm (.Assign [.Subscript o i tpos] v pos) (sSet pSet mo mi mv) := by
  refine PS.wk (ps_asg hv (pg_sub ho hi (set_X (by omega)) ha) hs hw rfl) fun D σ H q => ?_
  obtain ⟨mu, Z, ρ, h, f, ρ', h', rl, s, e, p⟩ := q
  obtain ⟨q1, e1, e⟩ := Res.bind_eq_ok e
  obtain ⟨q2, e2, e⟩ := Res.bind_eq_ok e
  obtain ⟨q3, e3, e⟩ := Res.bind_eq_ok e
  obtain ⟨q4, e4, e⟩ := Res.bind_eq_ok e
  cases e
  refine ⟨mu, Z, ρ, h, q1.1, q1.2, rl, s, e1, fun mu1 Z1 H1 v1 x1 r1 w1 => ?_⟩
  refine ⟨mu1, Z1, ρ, q1.2, q2.1, q2.2, r1, s.ext x1, e2, fun mu2 Z2 H2 v2 x2 r2 w2 => ?_⟩
  refine ⟨mu2, Z2, ρ, q2.2, q3.1, q3.2, r2, s.ext (x1.trans x2), e3, fun mu3 Z3 H3 v3 x3 r3 w3 => ?_⟩
  refine ok_set r3 (w2.mono x3.z x3.m) w3 ((w1.mono x2.z x2.m).mono x3.z x3.m) e4 fun mu4 Z4 H4 x4 r4 => ?_
  have x := x1.trans (x2.trans (x3.trans x4))
  exact p _ _ _ x r4 σ (s.ext x)
end
end Ti


namespace SrtO
open PySem PyProof.Rows Srt
def lexS (p q : PySem.Str × Int) : Bool := if p.1 = q.1 then decide (p.2 < q.2) else decide (p.1.cps.toList < q.1.cps.toList)
theorem str_of {a b : PySem.Str} (h : a.cps.toList = b.cps.toList) : a = b := by
  cases a; cases b
  simp at h
  rw [h]
theorem lexS_iff {p q : PySem.Str × Int} : lexS p q = true ↔ p.1.cps.toList < q.1.cps.toList ∨ (p.1 = q.1 ∧ p.2 < q.2) := by
  unfold lexS
  by_cases e : p.1 = q.1
  · rw [if_pos e, decide_eq_true_eq]
    refine ⟨fun h => .inr ⟨e, h⟩, fun h => ?_⟩
    rcases h with h | h
    · rw [e] at h
      exact absurd h (List.lt_irrefl _)
    · exact h.2
  · rw [if_neg e, decide_eq_true_eq]
    exact ⟨.inl, fun h => h.resolve_right fun z => e z.1⟩
theorem lexS_no {p q : PySem.Str × Int} : lexS p q = false ↔ ¬ (p.1.cps.toList < q.1.cps.toList ∨ (p.1 = q.1 ∧ p.2 < q.2)) := by
  rw [← lexS_iff]
  cases lexS p q <;> simp
theorem swo_lexS {α : Type} (k : α → PySem.Str × Int) : Swo fun v u => lexS (k v) (k u) := by
  refine ⟨fun x y h => ?_, fun x y z h1 h2 => ?_⟩
  · have a := lexS_iff.mp h
    refine lexS_no.mpr ?_
    rintro (b | b)
    · rcases a with a | a
      · exact List.lt_asymm a b
      · rw [a.1] at b
        exact List.lt_irrefl _ b
    · rcases a with a | a
      · rw [b.1] at a
        exact List.lt_irrefl _ a
      · have := a.2
        have := b.2
        omega
  · have a := lexS_no.mp h1
    have b := lexS_no.mp h2
    refine lexS_no.mpr ?_
    have a1 : ¬ (k y).1.cps.toList < (k x).1.cps.toList := fun z => a (.inl z)
    have b1 : ¬ (k z).1.cps.toList < (k y).1.cps.toList := fun z => b (.inl z)
    have c1 : (k x).1.cps.toList ≤ (k z).1.cps.toList := List.le_trans (List.not_lt.mp a1) (List.not_lt.mp b1)
    rintro (c | c)
    · exact List.not_lt.mpr c1 c
    · have e1 : (k x).1 = (k y).1 := str_of (List.le_antisymm (List.not_lt.mp a1) (by rw [← c.1]; exact List.not_lt.mp b1))
      have a2 : ¬ (k y).2 < (k x).2 := fun q => a (.inr ⟨e1.symm, q⟩)
      have b2 : ¬ (k z).2 < (k y).2 := fun q => b (.inr ⟨by rw [← e1, c.1], q⟩)
      have := c.2
      omega
def IsPairS (h : Heap) (v : Value) (x : PySem.Str) (y : Int) : Prop := ∃ a o t u n, v = .ref a ∧ h.get? a = some o ∧ o.cls = .type "tuple" ∧ o.data = .seq #[.str x t, .int y u] n
theorem IsPairS.keeps {h h' : Heap} {v : Value} {x : PySem.Str} {y : Int} (p : IsPairS h v x y) (k : ∀ b o, h.get? b = some o → o.cls = .type "tuple" → h'.get? b = some o) : IsPairS h' v x y := by
  obtain ⟨a, o, t, u, n, e, ho, hc, hd⟩ := p
  exact ⟨a, o, t, u, n, e, k _ _ ho hc, hc, hd⟩
theorem firstsS_of {h : Heap} : ∀ {vs : List Value}, (∀ v ∈ vs, ∃ x y, IsPairS h v x y) → ∃ fs : List Value, PySem.W.KatTups h vs fs ∧ fs.length = vs.length ∧ ∀ f ∈ fs, ∃ x t, f = Value.str x t
  | [], _ => ⟨[], PySem.W.KatTups.nil, rfl, fun _ hm => by simp at hm⟩
  | v :: vs, hp => by
    obtain ⟨fs, h1, h2, h3⟩ := firstsS_of (vs := vs) fun v' hm => hp v' (List.mem_cons_of_mem _ hm)
    obtain ⟨x, y, a, o, t, u, n, e, ho, hc, hd⟩ := hp v (List.mem_cons_self ..)
    subst e
    refine ⟨.str x t :: fs, PySem.W.KatTups.cons ho hc hd rfl h1, by rw [List.length_cons, List.length_cons, h2], fun f hm => ?_⟩
    rcases List.mem_cons.mp hm with rfl | hm
    · exact ⟨x, t, rfl⟩
    · exact h3 f hm
section
variable {prog : Program} {w : World} {A : Around} {E : Value → Shared → Prop} {s : Shared}
theorem pair_cmpS {vs : List Value} {k : Value → PySem.Str × Int} (hp : ∀ v ∈ vs, IsPairS s.heap v (k v).1 (k v).2) : Cmp prog w A s (tuples' true) (fun p => p.1 ∈ vs) (lt2 fun v u => lexS (k v) (k u)) := by
  intro p q hm hm'
  have h1 := hp _ hm
  have h2 := hp _ hm'
  show wpAny (model prog w) A (keyLt' (tuples' true) p.1 q.1) (fun r s' => s' = s ∧ r = lexS (k p.1) (k q.1)) (fun _ _ => False) s
  unfold lexS
  generalize (k p.1).1 = x at h1 ⊢
  generalize (k p.1).2 = y at h1 ⊢
  generalize (k q.1).1 = x' at h2 ⊢
  generalize (k q.1).2 = y' at h2 ⊢
  obtain ⟨a, o, t, u, n, e, ho, hc, hd⟩ := h1
  obtain ⟨a', o', t', u', n', e', ho', hc', hd'⟩ := h2
  rw [e, e']
  refine PySem.W.kat_lt ho hd ho' hd' ?_
  show PySem.W.KatLex prog w A true (decide (2 < 2)) _ [(.str x t, .str x' t'), (.int y u, .int y' u')] 0 s
  refine PySem.W.kat_cons (SeqAt.EqAt.str_str x t x' t' prog w _ _ ?_)
  refine PySem.W.kat_go (fun e1 => ?_) (fun e1 => ?_)
  · have ex : x = x' := by simpa using e1
    refine PySem.W.kat_yes (PySem.W.kat_cons (SeqAt.EqAt.int_int y u y' u' prog w _ _ ?_))
    refine PySem.W.kat_go (fun e2 => ?_) (fun e2 => ?_)
    · have ey : y = y' := by simpa using e2
      have e3 : (if x = x' then decide (y < y') else decide (x.cps.toList < x'.cps.toList)) = false := by
        rw [if_pos ex, ey]
        exact decide_eq_false (Int.lt_irrefl _)
      exact PySem.W.kat_yes (PySem.W.kat_nil ⟨rfl, e3.symm⟩)
    · have e3 : (if x = x' then decide (y < y') else decide (x.cps.toList < x'.cps.toList)) = decide (y < y') := if_pos ex
      refine PySem.W.kat_no (PySem.W.kat_one _ _ (PyProof.Rows.lt_int ?_))
      exact (show s = s ∧ decide (y < y') = (if x = x' then decide (y < y') else decide (x.cps.toList < x'.cps.toList)) from ⟨rfl, e3.symm⟩)
  · have ex : ¬ x = x' := by simpa using e1
    have e3 : (if x = x' then decide (y < y') else decide (x.cps.toList < x'.cps.toList)) = decide (x.cps.toList < x'.cps.toList) := if_neg ex
    exact PySem.W.kat_no (oneLt_str ⟨rfl, e3.symm⟩)
theorem pairs_sortableS {a : Addr} {vs : List Value} {k : Value → PySem.Str × Int} (h0 : 0 < vs.length) (hp : ∀ v ∈ vs, IsPairS s.heap v (k v).1 (k v).2) (ha : ∀ o, s.heap.get? a = some o → o.cls ≠ .type "tuple") : SortableO prog w A s a vs fun v u => lexS (k v) (k u) := by
  intro h' keep
  have hp' : ∀ v ∈ vs, IsPairS h' v (k v).1 (k v).2 := fun v hm => (hp v hm).keeps fun b o e c => keep b o (fun z => by subst z; exact ha o e c) e
  obtain ⟨fs, h1, h2, h3⟩ := firstsS_of fun v hm => ⟨_, _, hp' v hm⟩
  refine ⟨tuples' true, fun Q E hq => ?_, pair_cmpS hp'⟩
  refine PySem.W.kat_kind (T := .type "str") h1 (by omega) (fun f hm => ?_) (by rfl) ?_
  · obtain ⟨x, t, rfl⟩ := h3 f hm
    exact PySem.W.Looks.now
  · have e : (Value.type "str" != Value.type "tuple") = true := by first | decide +kernel | rfl | decide
    rw [e]
    exact hq
theorem sorted_pairsS {l : Addr} {vs : List Value} {k : Value → PySem.Str × Int} {Q : Value → Shared → Prop} (hl : s.heap.IsList l vs.toArray) (hz : vs.length ≤ sizeLine) (hp : ∀ v ∈ vs, IsPairS s.heap v (k v).1 (k v).2)
    (h : ∀ (h' : Heap) (d : Addr) (out : List Value), Srtd (fun v u => lexS (k v) (k u)) out → Stb (fun v u => lexS (k v) (k u)) out vs → (∀ b o, s.heap.get? b = some o → h'.get? b = some o) → s.heap.objs.size ≤ d → (∃ n, h'.get? d = some (seqObj "list" out.toArray n)) → Q (.ref d) { s with heap := h' }) :
    wpAny (model prog w) A (call (.builtin "sorted") [.ref l]) Q E s := by
  refine sorted_ord (swo_lexS k) hl hz (fun h2 h₁ a ha kk => ?_) fun out hs hb => ?_
  · refine pairs_sortableS (s := { s with heap := h₁ }) (by omega) (fun v hm => (hp v hm).keeps fun b o e _ => (kk b o e).2) fun o e => ?_
    have e' : some o = some (seqObj "list" vs.toArray 0) := e.symm.trans ha
    cases e'
    intro c
    exact absurd (Value.type.inj c) (by decide)
  · exact h _ _ out hs hb (fun b o e => sortedAll_old e) (Nat.le_succ _) (sortedAll_at s.heap vs out.toArray)
end
end SrtO
namespace L2
open PySem PySem.Spec PyProof.Rows
abbrev ltPS (k : V → Str × Int) (x y : V) : Bool := SrtO.lexS (k x) (k y)
def rSortedPS (K : PySem.W.Frag) : List V → Hp → VK → Prop := fun vs H Q => ∃ (a : Addr) (xs : List V) (k : V → Str × Int), vs = [V.ref a] ∧ SqL K H a xs ∧ (∀ x ∈ xs, ∃ t, x = V.ref t ∧ H t = some (.tup [.str (k x).1, .int (k x).2])) ∧
  ∀ ys p, SrtO.Srtd (ltPS k) ys → SrtO.Stb (ltPS k) ys xs → H p = none → Q (.ref p) (upd H p (.lst ys))
section
variable {X : Cx}
theorem cr_sortedPS : CallR X (.builtin "sorted") (rSortedPS X.K) := by
  intro pins s σ H vs us Q I r h
  obtain ⟨a, xs, k, rfl, hs, hx, q⟩ := h
  obtain ⟨its, rv, hl, hz⟩ := I.list hs
  obtain ⟨u, rfl, ru⟩ := vals1 r
  obtain rfl : u = Value.ref a := ru
  obtain ⟨e1, e2⟩ := refs_back rv fun x m => by
    obtain ⟨t, e, _⟩ := hx x m
    exact ⟨t, e⟩
  refine SrtO.sorted_pairsS (k := fun u => k (backV u)) hl.isList (by rw [← rv.length]; exact hz) (fun v hv => ?_) fun h' d out h1 h2 kp hd hn => ?_
  · obtain ⟨t, rfl⟩ := e2 v hv
    have hm : V.ref t ∈ xs := by rw [e1]; exact List.mem_map.mpr ⟨_, hv, rfl⟩
    obtain ⟨t', e, ht⟩ := hx _ hm
    cases e
    obtain ⟨_, its2, r2, o, ho, hc, n, hd⟩ := I.hok _ _ ht
    obtain ⟨u1, u2, rfl, ri, rj⟩ := vals2 r2
    obtain ⟨t1, rfl⟩ := ri
    obtain ⟨t2, rfl⟩ := rj
    exact ⟨t, o, t1, t2, n, rfl, ho, hc, hd⟩
  · have h3 : ∀ u ∈ out, ∃ a, u = Value.ref a := fun u hu => e2 u (h2.perm.mem_iff.mp hu)
    obtain ⟨n, hn⟩ := hn
    have hb : SrtO.Stb (ltPS k) (out.map backV) xs := by
      rw [e1]
      exact SrtO.Stb.map (SrtO.swo_lexS k) backV h2
    refine ⟨.ref d, upd H d (.lst (out.map backV)), I.laid (t' := s.toks) kp hd ⟨?_, out, n, vals_back h3, hn⟩, rfl, q _ d (SrtO.srtd_map h1) hb (I.hok.fresh hd)⟩
    rw [hb.len]
    exact hz
end
end L2


namespace Ti
open PySem PySem.Spec PyProof.Rows L2

def pGet2 : F3 := fun x k d h => match asD h x with
  | some (kd, kvs) => (match keyOf k with
    | some q => if q.fits kd then .ok ((dget kvs q).getD d, h) else .bad
    | none => .bad)
  | none => .bad
def pPop0 : F1 := fun x h => match x with
  | .ref i => (match h[i]? with
    | some (.lst ws) => (match ws[ws.length - 1]? with
      | some y => .ok (y, h.set i (.lst ws.dropLast))
      | none => .bad)
    | _ => .bad)
  | _ => .bad
def pInsert : F3 := fun x k y h => match x, k with
  | .ref i, .int n => (match h[i]? with
    | some (.lst ws) => if ws.length < lineW ∧ nor y = true ∧ 0 ≤ n ∧ n < 1000000000000 then .ok (.non, h.set i (.lst (ws.take n.toNat ++ [y] ++ ws.drop n.toNat))) else .bad
    | _ => .bad)
  | _, _ => .bad
def findW (u : W) : List W → Option Nat
  | [] => none
  | w :: ws => if beq w u = true then some 0 else (findW u ws).map (· + 1)
def pIndex : F2 := fun x y h => match asL h x with
  | some ws => if areDat 60 ws && isDat 60 (look h y) then (match findW (look h y) ws with
    | some j => .ok (.int (j : Nat), h)
    | none => .bad) else .bad
  | none => .bad
def pIsdigit : F1 := fun x h => match x with
  | .str a => .ok (.bl (Txt.isdigit a), h)
  | _ => .bad
def pUpper : F1 := fun x h => match x with
  | .str a => if a.length ≤ 1000000 then .ok (.str (Txt.upper a), h) else .bad
  | _ => .bad
def pStarts : F2 := fun x y h => match x, y with
  | .str a, .str b => .ok (.bl (Txt.startswith a b), h)
  | _, _ => .bad
def pSIndex : F2 := fun x y h => match x, y with
  | .str a, .str b => (match Builtin.Str.occurrences a b 0 a.length 1 with
    | i :: _ => .ok (.int (i : Nat), h)
    | [] => .bad)
  | _, _ => .bad
def pEnds : F2 := fun x y h => match x, y with
  | .str a, .str b => .ok (.bl (Txt.endswith a b), h)
  | _, _ => .bad
def strsOf : List W → Option (List Str)
  | [] => some []
  | .str x :: ws => (strsOf ws).map (x :: ·)
  | _ => none
def pJoin : F2 := fun x y h => match x with
  | .str a => (match (asL h y).bind strsOf with
    | some ys => if (ys.map (·.length)).sum + ys.length * a.length ≤ 10000000 then .ok (.str (Txt.join a ys), h) else .bad
    | none => .bad)
  | _ => .bad
def pRepr : F1 := fun x h => if isDat 60 (look h x) && (toP (look h x)).showable && decide ((toP (look h x)).shown.length ≤ 10000000) then .ok (.str (toP (look h x)).shown, h) else .bad
def strLe (a b : Str) : Bool := !ltCps b.cps.toList a.cps.toList
def srtS (l : List Str) : List Str := l.mergeSort strLe
def srtI (l : List Int) : List Int := l.mergeSort fun a b => decide (a ≤ b)
def keyStrs : List HK → Option (List Str)
  | [] => some []
  | .str x :: ks => (keyStrs ks).map (x :: ·)
  | _ => none

def prLe (p q : Int × Int) : Bool := decide (p.1 < q.1 ∨ (p.1 = q.1 ∧ p.2 ≤ q.2))
def srtP (l : List (Int × Int)) : List (Int × Int) := l.mergeSort prLe
def pairW (p : Int × Int) : W := .tup [.int p.1, .int p.2]
def pairsOf : List W → Option (List (Int × Int))
  | [] => some []
  | .tup [.int a, .int b] :: r => (pairsOf r).map ((a, b) :: ·)
  | _ => none
def prLeS (p q : Str × Int) : Bool := !SrtO.lexS q p
def srtQ (l : List (Str × Int)) : List (Str × Int) := l.mergeSort prLeS
def spairW (p : Str × Int) : W := .tup [.str p.1, .int p.2]
def spairsOf : List W → Option (List (Str × Int))
  | [] => some []
  | .tup [.str a, .int b] :: r => (spairsOf r).map ((a, b) :: ·)
  | _ => none
def pSorted (c : Bool) : F1 := fun x h => match asL h x with
  | some ws => (match strsOf ws with
    | some ys => if ys.length < 64 then mkL c ((srtS ys).map .str) h else .bad
    | none => (match intsOf ws with
      | some ns => mkL c ((srtI ns).map .int) h
      | none => (match pairsOf ws with
        | some ps => mkL c ((srtP ps).map pairW) h
        | none => (match spairsOf ws with
          | some ps => mkL c ((srtQ ps).map spairW) h
          | none => .bad))))
  | none => (match asD h x with
    | some (false, kvs) => (match keyStrs (kvs.map (·.1)) with
      | some ys => if ys.length < 64 then mkL c ((srtS ys).map .str) h else .bad
      | none => .bad)
    | _ => .bad)
section
variable {X : Cx} {K : PySem.W.Frag} {cm : Cm} {mu : List Addr} {Z H : Hp} {h h' : Hh} {w w1 w2 : W} {v v1 v2 : V} {Q : VK}
def eGet (mo me mf : DE) : DE := fun ρ h => (mo ρ h).bind fun p => if (asD p.2 p.1).isSome = true then (me ρ p.2).bind fun q => (mf ρ q.2).bind fun r => pGet2 p.1 q.1 r.1 r.2 else .bad
theorem isD_of (r : RelH K cm mu Z H h) (q : RW K cm mu Z w v) (e : (asD h w).isSome = true) : ∃ a, v = .ref a ∧ IsD H a := by
  obtain ⟨⟨kd, kvs⟩, e1⟩ := Option.isSome_iff_exists.mp e
  obtain ⟨a, rfl, _, q⟩ := asD_ok r q e1
  refine ⟨a, rfl, ?_⟩
  cases kd with
  | true =>
    obtain ⟨ks, vs, _, h2, _⟩ := (show ∃ ks vs, KeysT (kvs.map (·.1)) ks ∧ Rd H a (.dT (ks.zip vs)) ∧ ks.length = vs.length ∧ RWk K cm mu Z kvs vs from q)
    exact .inr ⟨_, h2⟩
  | false =>
    obtain ⟨ks, vs, _, h2, _⟩ := (show ∃ ks vs, KeysK (kvs.map (·.1)) ks ∧ Rd H a (.dK (ks.zip vs)) ∧ ks.length = vs.length ∧ RWk K cm mu Z kvs vs from q)
    exact .inl ⟨_, h2⟩
theorem q_get2 {o e f : Expr} {mo me mf : DE} {apos cpos : Pos} (hu : X.A.units + 1 < cLine) (ho : QE X cm o mo) (he : QE X cm e me) (hf : QE X cm f mf) (m : M2 X o "get" apos e f cpos) : QE X cm (.Call (.Attribute o "get" apos) [e, f] [] cpos) (eGet mo me mf) := by
  refine PE.wk (pe_dget2 hu ho he hf m) fun σ H Q q => ?_
  obtain ⟨mu, Z, ρ, h, w, h', rl, s, e, ff⟩ := q
  obtain ⟨p, e1, e⟩ := Res.bind_eq_ok e
  split at e
  · rename_i hd
    obtain ⟨p2, e2, e⟩ := Res.bind_eq_ok e
    obtain ⟨p3, e3, e⟩ := Res.bind_eq_ok e
    refine ⟨mu, Z, ρ, h, p.1, p.2, rl, s, e1, fun mu1 Z1 H1 v1 x1 r1 w1 => ?_⟩
    obtain ⟨a, rfl, da⟩ := isD_of r1 w1 hd
    refine ⟨a, rfl, da, mu1, Z1, ρ, p.2, p2.1, p2.2, r1, s.ext x1, e2, fun mu2 Z2 H2 v2 x2 r2 w2 => ?_⟩
    refine ⟨mu2, Z2, ρ, p2.2, p3.1, p3.2, r2, s.ext (x1.trans x2), e3, fun mu3 Z3 H3 v3 x3 r3 w3 => ?_⟩
    unfold pGet2 at e
    split at e
    · rename_i kd kvs e4
      split at e
      · rename_i k e5
        split at e
        · rename_i hk
          cases e
          have x23 := x2.trans x3
          obtain ⟨b, ov, eb, dg, ro⟩ := dic_get r3 (w1.mono x23.z x23.m) (w2.mono x3.z x3.m) e4 e5 hk
          cases eb
          refine ⟨ov, dg, ?_⟩
          refine ff _ _ _ _ (x1.trans x23) r3 ?_
          cases hg : dget kvs k with
          | none =>
            rw [hg] at ro
            cases ov with
            | none => exact w3
            | some u => cases ro
          | some u =>
            rw [hg] at ro
            cases ov with
            | none => cases ro
            | some u' => exact ro
        · cases e
      · cases e
    · cases e
  · cases e
theorem OkM.of3 {g : F3} {r : V → List V → Hp → VK → Prop} (k : ∀ mu Z H h w1 w2 w3 w h' v1 v2 v3 Q, RelH K cm mu Z H h → RW K cm mu Z w1 v1 → RW K cm mu Z w2 v2 → RW K cm mu Z w3 v3 → g w1 w2 w3 h = .ok (w, h') → Fin K cm mu Z H w h' Q → r v1 [v2, v3] H Q) : OkM K cm (l3 g) r := by
  intro mu Z H h w1 ws w h' v1 vs Q rl q1 q e f
  match ws, e, q with
  | [b, c], e, q =>
    obtain ⟨v2, v3, rfl, h2, h3⟩ := q.two
    exact k mu Z H h w1 b c w h' v1 v2 v3 Q rl q1 h2 h3 e f
  | [], e, _ => cases e
  | [_], e, _ => cases e
  | _ :: _ :: _ :: _, e, _ => cases e
theorem ok_pop0 : OkM K cm (l1 pPop0) rPop := by
  refine OkM.of1 ?_
  intro mu Z H h w1 w h' v1 Q r q1 e f
  cases w1 with
  | ref i =>
    have e : (match h[i]? with | some (.lst ws) => (match ws[ws.length - 1]? with | some y => Res.ok (y, h.set i (.lst ws.dropLast)) | none => .bad) | _ => .bad) = .ok (w, h') := e
    split at e
    · rename_i ws e1
      split at e
      · rename_i y ey
        cases e
        obtain ⟨a, rfl, m⟩ := q1
        obtain ⟨z, n, vs, e2, rs⟩ := (show Z a = none ∧ nors ws = true ∧ ∃ vs, H a = some (.lst vs) ∧ RWs K cm [] Z ws vs from r.at_ m e1)
        obtain ⟨u, eu, ru⟩ := rs.get ey
        have ny : nor w = true := by
          have : ∀ (l : List W) (i : Nat) (y : W), nors l = true → l[i]? = some y → nor y = true := by
            intro l
            induction l with
            | nil => intro i y _ h; cases h
            | cons x l ih =>
              intro i y hn hi
              have hn : (nor x && nors l) = true := hn
              rw [Bool.and_eq_true] at hn
              cases i with
              | zero => cases hi; exact hn.1
              | succ i => exact ih i y hn.2 hi
          exact this ws _ w n ey
        have nd : nors ws.dropLast = true := by
          have : ∀ l : List W, nors l = true → nors l.dropLast = true := by
            intro l
            induction l with
            | nil => exact fun h => h
            | cons x l ih =>
              intro hn
              have hn : (nor x && nors l) = true := hn
              rw [Bool.and_eq_true] at hn
              cases l with
              | nil => rfl
              | cons y l =>
                show (nor x && nors (y :: l).dropLast) = true
                rw [hn.1, ih hn.2]
                rfl
          exact this ws n
        have rd : RWs K cm [] Z ws.dropLast vs.dropLast := by
          rw [List.dropLast_eq_take, List.dropLast_eq_take, rs.length]
          exact rs.take _
        obtain ⟨r', x⟩ := r.wr (c := .lst ws.dropLast) (o := .lst vs.dropLast) m z e2 ⟨z, nd, vs.dropLast, upd_same, rd⟩
        refine ⟨a, vs, u, rfl, rfl, e2, by rw [rs.length]; exact eu, ?_⟩
        exact f _ _ _ _ x r' (RW.any ny ru)
      · cases e
    · cases e
  | _ => cases e
theorem nors_app {a b : List W} : nors (a ++ b) = (nors a && nors b) := by
  induction a with
  | nil => rfl
  | cons x a ih =>
    show (nor x && nors (a ++ b)) = (nor x && nors a && nors b)
    rw [ih, Bool.and_assoc]
theorem nors_take {a : List W} (n : Nat) (h : nors a = true) : nors (a.take n) = true := by
  have : nors (a.take n ++ a.drop n) = true := by rw [List.take_append_drop]; exact h
  rw [nors_app, Bool.and_eq_true] at this
  exact this.1
theorem nors_drop {a : List W} (n : Nat) (h : nors a = true) : nors (a.drop n) = true := by
  have : nors (a.take n ++ a.drop n) = true := by rw [List.take_append_drop]; exact h
  rw [nors_app, Bool.and_eq_true] at this
  exact this.2
def rInsert : V → List V → Hp → VK → Prop := fun x vs H Q => ∃ (l : Addr) (xs : List V) (i : Int) (y : V), x = .ref l ∧ vs = [.int i, y] ∧ H l = some (.lst xs) ∧ xs.length < sizeLine ∧ 0 ≤ i ∧ i < 2 ^ 63 ∧ Q .non (upd H l (.lst (xs.take i.toNat ++ [y] ++ xs.drop i.toNat)))
theorem ok_insert : OkM K cm (l3 pInsert) rInsert := by
  refine OkM.of3 fun mu Z H h w1 w2 w3 w h' v1 v2 v3 Q r q1 q2 q3 e f => ?_
  unfold pInsert at e
  split at e
  · rename_i i n
    split at e
    · rename_i ws e1
      split at e
      · rename_i hc
        obtain ⟨hl, hy, h0, hn⟩ := hc
        cases e
        obtain ⟨a, rfl, m⟩ := q1
        cases q2
        obtain ⟨z, nn, vs, e2, rs⟩ := (show Z a = none ∧ nors ws = true ∧ ∃ vs, H a = some (.lst vs) ∧ RWs K cm [] Z ws vs from r.at_ m e1)
        have rn : RWs K cm [] Z (ws.take n.toNat ++ [w3] ++ ws.drop n.toNat) (vs.take n.toNat ++ [v3] ++ vs.drop n.toNat) := RWs.append (RWs.append (rs.take _) ⟨v3, [], rfl, RW.any hy q3, rfl⟩) (rs.drop _)
        have nn2 : nors (ws.take n.toNat ++ [w3] ++ ws.drop n.toNat) = true := by
          rw [nors_app, nors_app, nors_take _ nn, nors_drop _ nn]
          show (true && (nor w3 && true) && true) = true
          rw [hy]
          rfl
        obtain ⟨r', x⟩ := r.wr (c := .lst (ws.take n.toNat ++ [w3] ++ ws.drop n.toNat)) (o := .lst (vs.take n.toNat ++ [v3] ++ vs.drop n.toNat)) m z e2 ⟨z, nn2, _, upd_same, rn⟩
        exact ⟨a, vs, n, v3, rfl, rfl, e2, by rw [rs.length]; exact hl, h0, Int.lt_trans hn (by decide), f _ _ _ _ x r' rfl⟩
      · cases e
    · cases e
  · cases e
theorem findW_ok {u : W} : ∀ {ws : List W} {j : Nat}, findW u ws = some j → (∃ w, ws[j]? = some w ∧ beq w u = true) ∧ ∀ (m : Nat) (z : W), m < j → ws[m]? = some z → beq z u = false
  | [], j, h => by cases h
  | w :: ws, j, h => by
    unfold findW at h
    split at h
    · rename_i hb
      cases h
      exact ⟨⟨w, rfl, hb⟩, fun m z hm => absurd hm (Nat.not_lt_zero m)⟩
    · rename_i hb
      obtain ⟨i, e1, rfl⟩ := Option.map_eq_some_iff.mp h
      obtain ⟨h1, h2⟩ := findW_ok e1
      refine ⟨h1, fun m z hm hz => ?_⟩
      cases m with
      | zero =>
        cases hz
        exact Bool.eq_false_iff.mpr hb
      | succ m => exact h2 m z (by omega) hz
theorem toPs_get : ∀ {ws : List W} {j : Nat}, (toPs ws)[j]? = (ws[j]?).map toP
  | [], j => rfl
  | w :: ws, 0 => rfl
  | w :: ws, j + 1 => by
    show (toPs ws)[j]? = _
    rw [toPs_get]
    rfl
theorem areDat_get {d : Nat} : ∀ {ws : List W} {j : Nat} {w : W}, areDat d ws = true → ws[j]? = some w → isDat d w = true
  | [], _, _, _, h => by cases h
  | x :: ws, j, w, h, e => by
    have h : (isDat d x && areDat d ws) = true := h
    rw [Bool.and_eq_true] at h
    cases j with
    | zero => cases e; exact h.1
    | succ j => exact areDat_get h.2 e
theorem ok_index : OkM K cm (l2 pIndex) (rIndexD K) := by
  refine OkM.of2 ?_
  intro mu Z H h w1 w2 w h' v1 v2 Q r q1 q2 e f
  unfold pIndex at e
  split at e
  · rename_i ws e1
    split at e
    · rename_i hd
      rw [Bool.and_eq_true] at hd
      split at e
      · rename_i j e2
        cases e
        obtain ⟨a, vs, rfl, ha, rs⟩ := asL_ok r q1 e1
        obtain ⟨⟨u, eu, hu⟩, hno⟩ := findW_ok e2
        have hsh : SeqAt.shaped (toP (.lst ws)) = true := toP_shaped (d := 61) (by decide) hd.1
        refine ⟨a, v2, toP (look h w2), toPs ws, j, toP u, rfl, rfl, .lst (SqL.of ha) (toPs_Dp r hd.1 rs), look_Dp r q2 hd.2, hsh, toP_shaped (by decide) hd.2, by rw [toPs_get, eu]; rfl, ?_, fun m z' hm hz => ?_, f.here r rfl⟩
        · rw [toP_eqv (areDat_get hd.1 eu) hd.2]
          exact hu
        · rw [toPs_get] at hz
          obtain ⟨z, ez, rfl⟩ := Option.map_eq_some_iff.mp hz
          rw [toP_eqv (areDat_get hd.1 ez) hd.2]
          exact hno m z hm ez
      · cases e
    · cases e
  · cases e
theorem ok_isdigit : OkM K cm (l1 pIsdigit) (fun x xs H Q => ∃ a, x = .str a ∧ xs = [] ∧ True ∧ Q (.bl (Txt.isdigit a)) H) := by
  refine OkM.of1 ?_
  intro mu Z H h w1 w h' v1 Q r q1 e f
  unfold pIsdigit at e
  split at e
  · cases e; cases q1
    exact ⟨_, rfl, rfl, trivial, f.here r rfl⟩
  · cases e
theorem ok_upper : OkM K cm (l1 pUpper) (fun x xs H Q => ∃ a, x = .str a ∧ xs = [] ∧ a.length ≤ 5592405 ∧ Q (.str (Txt.upper a)) H) := by
  refine OkM.of1 ?_
  intro mu Z H h w1 w h' v1 Q r q1 e f
  unfold pUpper at e
  split at e
  · split at e
    · rename_i hl
      cases e; cases q1
      exact ⟨_, rfl, rfl, by omega, f.here r rfl⟩
    · cases e
  · cases e
theorem ok_starts : OkM K cm (l2 pStarts) (fun x xs H Q => ∃ a b, x = .str a ∧ xs = [.str b] ∧ Q (.bl (Txt.startswith a b)) H) := by
  refine OkM.of2 ?_
  intro mu Z H h w1 w2 w h' v1 v2 Q r q1 q2 e f
  unfold pStarts at e
  split at e
  · cases e; cases q1; cases q2
    exact ⟨_, _, rfl, rfl, f.here r rfl⟩
  · cases e
theorem ok_sindex : OkM K cm (l2 pSIndex) (fun x xs H Q => ∃ a b i rest, x = .str a ∧ xs = [.str b] ∧ Builtin.Str.occurrences a b 0 a.length 1 = i :: rest ∧ Q (.int (i : Nat)) H) := by
  refine OkM.of2 ?_
  intro mu Z H h w1 w2 w h' v1 v2 Q r q1 q2 e f
  unfold pSIndex at e
  split at e
  · split at e
    · rename_i i rest eo
      cases e; cases q1; cases q2
      exact ⟨_, _, i, rest, rfl, rfl, eo, f.here r rfl⟩
    · cases e
  · cases e
theorem ok_ends : OkM K cm (l2 pEnds) (fun x xs H Q => ∃ a b, x = .str a ∧ xs = [.str b] ∧ Q (.bl (Txt.endswith a b)) H) := by
  refine OkM.of2 ?_
  intro mu Z H h w1 w2 w h' v1 v2 Q r q1 q2 e f
  unfold pEnds at e
  split at e
  · cases e; cases q1; cases q2
    exact ⟨_, _, rfl, rfl, f.here r rfl⟩
  · cases e
theorem strsOf_ok : ∀ {ws : List W} {ys : List Str} {vs : List V}, strsOf ws = some ys → RWs K cm mu Z ws vs → vs = ys.map V.str
  | [], ys, vs, h, q => by
    cases h
    exact q
  | w :: ws, ys, vs, h, q => by
    cases w <;> first | (cases h; done) | skip
    rename_i x
    obtain ⟨r, e1, rfl⟩ := Option.map_eq_some_iff.mp (show (strsOf ws).map (x :: ·) = some ys from h)
    obtain ⟨v, vs', rfl, h1, h2⟩ := q
    cases h1
    rw [strsOf_ok e1 h2]
    rfl
def rJoin (K : PySem.W.Frag) : V → List V → Hp → VK → Prop := fun x xs H Q => ∃ a p, ∃ ys : List Str, x = .str a ∧ xs = [.ref p] ∧ (SqL K H p (ys.map V.str) ∨ SqT K H p (ys.map V.str)) ∧ (ys.map (·.length)).sum + ys.length * a.length ≤ 16777216 ∧ Q (.str (Txt.join a ys)) H
theorem ok_join : OkM K cm (l2 pJoin) (rJoin K) := by
  refine OkM.of2 ?_
  intro mu Z H h w1 w2 w h' v1 v2 Q r q1 q2 e f
  unfold pJoin at e
  split at e
  · rename_i a
    split at e
    · rename_i ys e1
      split at e
      · rename_i hl
        cases e; cases q1
        obtain ⟨ws, e2, e3⟩ := Option.bind_eq_some_iff.mp e1
        obtain ⟨p, vs, rfl, hp, rs⟩ := asL_ok r q2 e2
        have := strsOf_ok e3 rs
        subst this
        exact ⟨a, p, ys, rfl, rfl, .inl (SqL.of hp), by omega, f.here r rfl⟩
      · cases e
    · cases e
  · cases e

def rRepr (K : PySem.W.Frag) : List V → Hp → VK → Prop := fun xs H Q => ∃ x d, xs = [x] ∧ Dp K H x d ∧ d.showable = true ∧ d.hasDict = false ∧ d.depth ≤ 60 ∧ d.shown.length ≤ sizeLine ∧ Q (.str d.shown) H
theorem call_repr (gd : X.A.guards = some []) (hu : X.A.units + 65 < cLine) : CallR X (.builtin "repr") (rRepr X.K) := by
  intro pins s σ H xs us Q I r q
  obtain ⟨x, d, rfl, hd, hs, hn, hdp, hl, q⟩ := q
  obtain ⟨u, rfl, rx⟩ := vals1 r
  obtain ⟨as, rd⟩ := Dp.reads I d x u hd rx
  have plain : ∀ {t : Tok} {s' : Shared}, Inv X pins σ H s' → EP X pins σ Q (.str d.shown t) s' := fun {t s'} J => ⟨.str d.shown, H, J, ⟨t, rfl⟩, q⟩
  cases x with
  | ref a =>
    cases rx
    refine repr_of_reads' rd hs (PyData.noDict_hsm hn) gd (by omega) (fun _ _ e => e) (fun h' u tk hk => plain (I.kept hk)) hl
  | non =>
    cases hd
    cases rx
    have e : (PyData.none).shown = ("None" : Str) := PyData.shown_none
    rw [e] at plain
    exact PySem.P.repr_of_none (plain (I.tok _))
  | bl b =>
    cases hd
    cases rx
    have e : (PyData.bool b).shown = (if b then "True" else "False" : Str) := PyData.shown_bool b
    rw [e] at plain
    exact PySem.P.repr_of_bool (plain (I.tok _))
  | int i =>
    cases hd
    obtain ⟨t, rfl⟩ := rx
    have e : (PyData.int i).shown = ((toString i : String) : Str) := PyData.shown_int i
    rw [e] at plain
    refine PySem.P.repr_of_int ?_ (plain (I.tok _))
    simpa [PyData.showable] using hs
  | str x =>
    cases hd
    obtain ⟨t, rfl⟩ := rx
    have e : (PyData.str x).shown = reprText x := PyData.shown_str x
    rw [e] at plain hl
    exact PySem.P.repr_of_str (plain (I.tok _)) hl
  | _ => cases hd
mutual
theorem toP_noDict : ∀ a : W, (toP a).hasDict = false
  | .non => rfl
  | .bl _ => rfl
  | .int _ => rfl
  | .str _ => rfl
  | .tup ws => toPs_noDict ws
  | .lst ws => toPs_noDict ws
  | .dic _ _ => rfl
  | .obj _ _ => rfl
  | .err _ _ => rfl
  | .ref _ => rfl
  | .scr _ => rfl
theorem toPs_noDict : ∀ a : List W, PyData.hasDictAll (toPs a) = false
  | [] => rfl
  | w :: ws => by
    show ((toP w).hasDict || PyData.hasDictAll (toPs ws)) = false
    rw [toP_noDict w, toPs_noDict ws]
    rfl
end
theorem ltC {a b : Str} : ltCps a.cps.toList b.cps.toList = decide (a.cps.toList < b.cps.toList) := ltCps_eq _ _
theorem strLe_eq {a b : Str} : strLe a b = true ↔ ¬ b.cps.toList < a.cps.toList := by
  unfold strLe
  rw [ltC]
  simp
theorem strLe_trans (a b c : Str) (h1 : strLe a b = true) (h2 : strLe b c = true) : strLe a c = true := by
  rw [strLe_eq] at h1 h2 ⊢
  exact List.not_lt.mpr (List.le_trans (List.not_lt.mp h1) (List.not_lt.mp h2))
theorem strLe_total (a b : Str) : (strLe a b || strLe b a) = true := by
  rw [Bool.or_eq_true, strLe_eq, strLe_eq]
  rcases List.le_total a.cps.toList b.cps.toList with h | h
  · exact .inl (List.not_lt.mpr h)
  · exact .inr (List.not_lt.mpr h)
theorem strLe_anti {a b : Str} (h1 : strLe a b = true) (h2 : strLe b a = true) : a = b := by
  rw [strLe_eq] at h1 h2
  have := List.le_antisymm (List.not_lt.mp h1) (List.not_lt.mp h2)
  cases a; cases b
  simp at this
  rw [this]
theorem rising_pw : ∀ (x : Str) (l : List Str), risingS x l = true → (x :: l).Pairwise (fun a b => strLe a b = true)
  | x, [], _ => List.pairwise_singleton _ _
  | x, y :: l, h => by
    have h : (!ltCps y.cps.toList x.cps.toList && risingS y l) = true := h
    rw [Bool.and_eq_true] at h
    have ih := rising_pw y l h.2
    refine List.pairwise_cons.mpr ⟨fun z hz => ?_, ih⟩
    rcases List.mem_cons.mp hz with q | q
    · rw [q]; exact h.1
    · exact strLe_trans _ _ _ h.1 ((List.pairwise_cons.mp ih).1 z q)
theorem sorted_is {ys xs : List Str} (hp : ys.Perm xs) (hs : sortedS ys = true) : ys = srtS xs := by
  have pw : ys.Pairwise (fun a b => strLe a b = true) := by
    cases ys with
    | nil => exact .nil
    | cons x l => exact rising_pw x l hs
  have pw2 : (srtS xs).Pairwise (fun a b => strLe a b = true) := List.pairwise_mergeSort strLe_trans strLe_total xs
  exact List.Perm.eq_of_pairwise (fun a b _ _ h1 h2 => strLe_anti h1 h2) pw pw2 (hp.trans (List.mergeSort_perm xs strLe).symm)
theorem sortedI_is {ys xs : List Int} (hp : ys.Perm xs) (hs : ys.Pairwise (· ≤ ·)) : ys = srtI xs := by
  have pw : ys.Pairwise (fun a b => decide (a ≤ b) = true) := hs.imp fun h => decide_eq_true h
  have pw2 : (srtI xs).Pairwise (fun a b => decide (a ≤ b) = true) := List.pairwise_mergeSort (fun a b c h1 h2 => by
    rw [decide_eq_true_eq] at *
    omega) (fun a b => by
    rw [Bool.or_eq_true, decide_eq_true_eq, decide_eq_true_eq]
    omega) xs
  exact List.Perm.eq_of_pairwise (fun a b _ _ h1 h2 => by rw [decide_eq_true_eq] at h1 h2; omega) pw pw2 (hp.trans (List.mergeSort_perm xs _).symm)
theorem keyStrs_ok : ∀ {ks : List HK} {ys : List Str} {qs : List Key}, keyStrs ks = some ys → KeysK ks qs → qs = ys.map Sum.inr
  | [], ys, qs, h, q => by
    cases h
    cases q
    rfl
  | k :: ks, ys, qs, h, q => by
    cases k <;> first | (cases h; done) | skip
    rename_i x
    obtain ⟨r, e1, rfl⟩ := Option.map_eq_some_iff.mp (show (keyStrs ks).map (x :: ·) = some ys from h)
    cases q with
    | cons h1 h2 =>
      cases h1
      rw [keyStrs_ok e1 h2]
      rfl
def rSortD : List V → Hp → VK → Prop := fun xs H Q => ∃ (a : Addr) (kvs : List (Key × V)) (ks : List Str), xs = [.ref a] ∧ Rd H a (.dK kvs) ∧ kvs.map (·.1) = ks.map Sum.inr ∧ ks.length < 64 ∧ ∀ ys p, ys.Perm ks → sortedS ys = true → H p = none → Q (.ref p) (L2.upd H p (.lst (ys.map V.str)))
def rSortX (K : PySem.W.Frag) : List V → Hp → VK → Prop := fun xs H Q => (((rSortedS K xs H Q ∨ rSortedI K xs H Q) ∨ rSortD xs H Q) ∨ rSortedPO K xs H Q) ∨ rSortedPS K xs H Q
theorem call_sortX (hc : X.calm = true) : CallR X (.builtin "sorted") (rSortX X.K) := (((cr_sortedS.or cr_sortedI).or (call_sortedD hc)).or cr_sortedPO).or cr_sortedPS
def kAt (H : Hp) (x : V) : Int × Int := match x with
  | .ref t => (match H t with | some (.tup [.int a, .int b]) => (a, b) | _ => (0, 0))
  | _ => (0, 0)
theorem pairsOf_ok (r : RelH K cm mu Z H h) : ∀ {ws : List W} {vs : List V} {ps : List (Int × Int)}, pairsOf ws = some ps → RWs K cm mu Z ws vs →
    vs.map (kAt H) = ps ∧ ∀ x ∈ vs, (∃ t, x = .ref t ∧ H t = some (.tup [.int (kAt H x).1, .int (kAt H x).2])) ∧ RW K cm mu Z (pairW (kAt H x)) x
  | [], vs, ps, e, q => by
    cases e
    cases (show vs = [] from q)
    exact ⟨rfl, fun _ hx => nomatch hx⟩
  | w :: ws, vs, ps, e, q => by
    unfold pairsOf at e
    split at e
    · rename_i h0; cases h0
    · rename_i a b r' h0
      cases h0
      obtain ⟨ps', e1, rfl⟩ := Option.map_eq_some_iff.mp e
      obtain ⟨v, vr, rfl, q1, q2⟩ := q
      obtain ⟨i1, i2⟩ := pairsOf_ok r e1 q2
      obtain ⟨t, xs, rfl, z, q3⟩ := q1
      obtain ⟨v1, r1, rfl, g1, q3⟩ := q3
      obtain ⟨v2, r2, rfl, g2, q3⟩ := q3
      cases g1; cases g2
      cases (show r2 = [] from q3)
      have hH : H t = some (.tup [.int a, .int b]) := r.tupZ z
      have hk : kAt H (.ref t) = (a, b) := by
        show (match H t with | some (.tup [.int a, .int b]) => (a, b) | _ => (0, 0)) = (a, b)
        rw [hH]
      refine ⟨by rw [List.map_cons, hk, i1], fun x hx => ?_⟩
      rcases List.mem_cons.mp hx with hx | hx
      · subst hx
        rw [hk]
        exact ⟨⟨t, rfl, hH⟩, t, _, rfl, z, .int a, [.int b], rfl, rfl, .int b, [], rfl, rfl, rfl⟩
      · exact i2 x hx
    · cases e
theorem sortedP_is {ys xs : List (Int × Int)} (hp : ys.Perm xs) (hs : ys.Pairwise (fun a b => prLe a b = true)) : ys = srtP xs := by
  have tr : ∀ a b c : Int × Int, prLe a b = true → prLe b c = true → prLe a c = true := fun a b c h1 h2 => by
    unfold prLe at *
    rw [decide_eq_true_eq] at *
    omega
  have pw2 : (srtP xs).Pairwise (fun a b => prLe a b = true) := List.pairwise_mergeSort tr (fun a b => by
    unfold prLe
    rw [Bool.or_eq_true, decide_eq_true_eq, decide_eq_true_eq]
    omega) xs
  refine List.Perm.eq_of_pairwise (fun a b _ _ h1 h2 => ?_) hs pw2 (hp.trans (List.mergeSort_perm xs _).symm)
  unfold prLe at h1 h2
  rw [decide_eq_true_eq] at h1 h2
  obtain ⟨a1, a2⟩ := a
  obtain ⟨b1, b2⟩ := b
  have : a1 = b1 ∧ a2 = b2 := by
    simp only at h1 h2
    omega
  rw [this.1, this.2]
theorem pairs_rw {H : Hp} : ∀ {ys : List V}, (∀ x ∈ ys, RW K cm mu Z (pairW (kAt H x)) x) → RWs K cm mu Z ((ys.map (kAt H)).map pairW) ys
  | [], _ => rfl
  | y :: ys, q => ⟨y, ys, rfl, q y List.mem_cons_self, pairs_rw fun x hx => q x (List.mem_cons_of_mem _ hx)⟩
theorem strs_rw : ∀ ys : List Str, RWs K cm mu Z (ys.map W.str) (ys.map V.str)
  | [] => rfl
  | x :: ys => ⟨_, _, rfl, rfl, strs_rw ys⟩
theorem zip_fst {α β : Type} : ∀ {ks : List α} {vs : List β}, ks.length = vs.length → (ks.zip vs).map (·.1) = ks
  | [], vs, _ => by simp
  | k :: ks, [], h => by simp at h
  | k :: ks, v :: vs, h => by
    rw [List.zip_cons_cons, List.map_cons, zip_fst (by simpa using h)]
def kAtS (H : Hp) (x : V) : Str × Int := match x with
  | .ref t => (match H t with | some (.tup [.str a, .int b]) => (a, b) | _ => ("", 0))
  | _ => ("", 0)
theorem spairsOf_ok (r : RelH K cm mu Z H h) : ∀ {ws : List W} {vs : List V} {ps : List (Str × Int)}, spairsOf ws = some ps → RWs K cm mu Z ws vs →
    vs.map (kAtS H) = ps ∧ ∀ x ∈ vs, (∃ t, x = .ref t ∧ H t = some (.tup [.str (kAtS H x).1, .int (kAtS H x).2])) ∧ RW K cm mu Z (spairW (kAtS H x)) x
  | [], vs, ps, e, q => by
    cases e
    cases (show vs = [] from q)
    exact ⟨rfl, fun _ hx => nomatch hx⟩
  | w :: ws, vs, ps, e, q => by
    unfold spairsOf at e
    split at e
    · rename_i h0; cases h0
    · rename_i a b r' h0
      cases h0
      obtain ⟨ps', e1, rfl⟩ := Option.map_eq_some_iff.mp e
      obtain ⟨v, vr, rfl, q1, q2⟩ := q
      obtain ⟨i1, i2⟩ := spairsOf_ok r e1 q2
      obtain ⟨t, xs, rfl, z, q3⟩ := q1
      obtain ⟨v1, r1, rfl, g1, q3⟩ := q3
      obtain ⟨v2, r2, rfl, g2, q3⟩ := q3
      cases g1; cases g2
      cases (show r2 = [] from q3)
      have hH : H t = some (.tup [.str a, .int b]) := r.tupZ z
      have hk : kAtS H (.ref t) = (a, b) := by
        show (match H t with | some (.tup [.str a, .int b]) => (a, b) | _ => (("" : Str), (0 : Int))) = (a, b)
        rw [hH]
      refine ⟨by rw [List.map_cons, hk, i1], fun x hx => ?_⟩
      rcases List.mem_cons.mp hx with hx | hx
      · subst hx
        rw [hk]
        exact ⟨⟨t, rfl, hH⟩, t, _, rfl, z, .str a, [.int b], rfl, rfl, .int b, [], rfl, rfl, rfl⟩
      · exact i2 x hx
    · cases e
theorem prLeS_iff {p q : Str × Int} : prLeS p q = true ↔ SrtO.lexS q p = false := by
  unfold prLeS
  cases SrtO.lexS q p <;> simp
theorem sortedQ_is {ys xs : List (Str × Int)} (hp : ys.Perm xs) (hs : ys.Pairwise (fun a b => prLeS a b = true)) : ys = srtQ xs := by
  have O := SrtO.swo_lexS (fun p : Str × Int => p)
  have tr : ∀ a b c : Str × Int, prLeS a b = true → prLeS b c = true → prLeS a c = true := fun a b c h1 h2 => by
    rw [prLeS_iff] at *
    exact O.2 a b c h1 h2
  have pw2 : (srtQ xs).Pairwise (fun a b => prLeS a b = true) := List.pairwise_mergeSort tr (fun a b => by
    rw [Bool.or_eq_true, prLeS_iff, prLeS_iff]
    cases q : SrtO.lexS b a with
    | false => exact .inl rfl
    | true => exact .inr (O.1 b a q)) xs
  refine List.Perm.eq_of_pairwise (fun a b _ _ h1 h2 => ?_) hs pw2 (hp.trans (List.mergeSort_perm xs _).symm)
  rw [prLeS_iff] at h1 h2
  have h1 := SrtO.lexS_no.mp h1
  have h2 := SrtO.lexS_no.mp h2
  have e1 : a.1 = b.1 := SrtO.str_of (List.le_antisymm (List.not_lt.mp fun z => h1 (.inl z)) (List.not_lt.mp fun z => h2 (.inl z)))
  have n1 : ¬ b.2 < a.2 := fun z => h1 (.inr ⟨e1.symm, z⟩)
  have n2 : ¬ a.2 < b.2 := fun z => h2 (.inr ⟨e1, z⟩)
  exact Prod.ext e1 (by omega)
theorem spairs_rw {H : Hp} : ∀ {ys : List V}, (∀ x ∈ ys, RW K cm mu Z (spairW (kAtS H x)) x) → RWs K cm mu Z ((ys.map (kAtS H)).map spairW) ys
  | [], _ => rfl
  | y :: ys, q => ⟨y, ys, rfl, q y List.mem_cons_self, spairs_rw fun x hx => q x (List.mem_cons_of_mem _ hx)⟩
theorem ok_sorted {c : Bool} : OkL K cm (l1 (pSorted c)) (rSortX K) := by
  refine OkL.of1 ?_
  intro mu Z H h w1 w h' v1 Q r q1 e f
  unfold pSorted at e
  split at e
  · rename_i ws e1
    obtain ⟨a, vs, rfl, ha, rs⟩ := asL_ok r q1 e1
    split at e
    · rename_i ys e2
      split at e
      · rename_i hl
        have := strsOf_ok e2 rs
        subst this
        refine .inl (.inl (.inl (.inl ⟨a, ys, rfl, SqL.of ha, hl, fun zs p hp hs hn => ?_⟩)))
        rw [sorted_is hp hs]
        exact (mkL_ok r (strs_rw _) e f).2 p hn
      · cases e
    · split at e
      · rename_i ns e2
        have := intsOf_ok e2 rs
        subst this
        refine .inl (.inl (.inl (.inr ⟨a, ns, rfl, SqL.of ha, fun zs p hp hs hn => ?_⟩)))
        rw [sortedI_is hp hs]
        exact (mkL_ok r (RWs.ints _) e f).2 p hn
      · split at e
        · rename_i ps e3
          obtain ⟨i1, i2⟩ := pairsOf_ok r e3 rs
          refine .inl (.inr ⟨a, vs, kAt H, rfl, SqL.of ha, fun x hx => (i2 x hx).1, fun ys p hs hb hn => ?_⟩)
          have e4 : ys.map (kAt H) = srtP ps := by
            rw [← i1]
            refine sortedP_is (hb.perm.map _) (List.pairwise_map.mpr (hs.imp fun {x y} hxy => ?_))
            have := SrtO.lexB_no.mp hxy
            unfold prLe
            rw [decide_eq_true_eq]
            omega
          have rw1 : RWs K cm mu Z ((srtP ps).map pairW) ys := by
            rw [← e4]
            exact pairs_rw fun x hx => (i2 x (hb.perm.mem_iff.mp hx)).2
          exact (mkL_ok r rw1 e f).2 p hn
        · split at e
          · rename_i ps e3
            obtain ⟨i1, i2⟩ := spairsOf_ok r e3 rs
            refine .inr ⟨a, vs, kAtS H, rfl, SqL.of ha, fun x hx => (i2 x hx).1, fun ys p hs hb hn => ?_⟩
            have e4 : ys.map (kAtS H) = srtQ ps := by
              rw [← i1]
              refine sortedQ_is (hb.perm.map _) (List.pairwise_map.mpr (hs.imp fun {x y} hxy => ?_))
              have hxy : SrtO.lexS (kAtS H y) (kAtS H x) = false := hxy
              unfold prLeS
              rw [hxy]
              rfl
            have rw1 : RWs K cm mu Z ((srtQ ps).map spairW) ys := by
              rw [← e4]
              exact spairs_rw fun x hx => (i2 x (hb.perm.mem_iff.mp hx)).2
            exact (mkL_ok r rw1 e f).2 p hn
          · cases e
  · split at e
    · rename_i kvs e1
      split at e
      · rename_i ys e2
        split at e
        · rename_i hl
          obtain ⟨a, rfl, _, q⟩ := asD_ok r q1 e1
          obtain ⟨ks, vs, h1, h2, h3, h4⟩ := (show ∃ ks vs, KeysK (kvs.map (·.1)) ks ∧ Rd H a (.dK (ks.zip vs)) ∧ ks.length = vs.length ∧ RWk K cm mu Z kvs vs from q)
          have := keyStrs_ok e2 h1
          refine .inl (.inl (.inr ⟨a, _, ys, rfl, h2, by rw [zip_fst h3, this], hl, fun zs p hp hs hn => ?_⟩))
          rw [sorted_is hp hs]
          exact (mkL_ok r (strs_rw _) e f).2 p hn
        · cases e
      · cases e
    · cases e
theorem q_dic {c kd : Bool} {pos : Pos} : QE X cm (.Dict [] [] pos) (eDic c kd) := by
  have key : ∀ (σ : L2.St) (H : Hp) (Q : VK) (u : HO), Tame u → (∀ {H : Hp} {p : Addr}, ZIn (L2.upd H p u) p u) → (∀ {Z H : Hp} {p : Addr}, Z p = none → CellR X.K cm Z (L2.upd H p u) p (.dic kd [])) → (∀ {mu Z} {p : Addr}, RW X.K cm mu (L2.upd Z p u) (.dic kd []) (.ref p)) →
      tO X.K cm (eDic c kd) σ H Q → ∀ p, H p = none → Q (.ref p) (L2.upd H p u) := by
    intro σ H Q u hu hz hc hr q p hp
    obtain ⟨mu, Z, ρ, h, w, h', rl, s, e, f⟩ := q
    have e : (if ([] : List (HK × W)).length ≤ lineW then (if norK ([] : List (HK × W)) then (if c then Res.ok (W.ref h.length, h ++ [.dic kd []]) else .ok (.dic kd [], h)) else .bad) else .bad) = .ok (w, h') := e
    rw [if_pos (show ([] : List (HK × W)).length ≤ lineW from Nat.zero_le _), if_pos (show norK ([] : List (HK × W)) = true from rfl)] at e
    cases c with
    | true =>
      cases e
      obtain ⟨r', x⟩ := rl.newC hp (hc (rl.zfree hp)) hu
      refine f _ _ _ _ x r' ⟨p, rfl, ?_⟩
      rw [List.getElem?_append_right (Nat.le_of_eq rl.len), rl.len, Nat.sub_self]
      rfl
    | false =>
      cases e
      obtain ⟨r', x⟩ := rl.newZ hp hz hu
      exact f _ _ _ _ x r' hr
  cases kd with
  | false =>
    refine PE.wk pe_dnewK fun σ H Q q => key σ H Q (.dK []) (by exact ⟨fun _ z => (by cases z), fun _ z => (by cases z)⟩) (fun {H p} => .inl upd_same) (fun {Z H p} hz => ⟨hz, rfl, [], [], .nil, upd_same, rfl, rfl⟩) (fun {mu Z p} => ⟨p, rfl, [], [], .nil, upd_same, rfl, rfl⟩) q
  | true =>
    refine PE.wk pe_dnewT fun σ H Q q => key σ H Q (.dT []) (by exact ⟨fun _ z => (by cases z), fun _ z => (by cases z)⟩) (fun {H p} => .inl upd_same) (fun {Z H p} hz => ⟨hz, rfl, [], [], .nil, upd_same, rfl, rfl⟩) (fun {mu Z p} => ⟨p, rfl, [], [], .nil, upd_same, rfl, rfl⟩) q
end
end Ti


namespace L2
open PySem PySem.Spec PyProof.Rows
section
variable {X : Cx} {o : Expr} {p pos apos mpos : Pos} {td : TE}
def tSumVals (td : TE) : TE := fun σ H Q => td σ H fun x H1 => ∃ (a : Addr) (kvs : List (Key × V)) (is : List Int), x = V.ref a ∧ Rd H1 a (.dK kvs) ∧ kvs.map (·.2) = is.map V.int ∧ Q (.int is.sum) H1
theorem preSum_get : ∀ {is : List Int}, preSum (fun i => is.getD i 0) is.length = is.sum
  | [] => rfl
  | n :: is => by
    have sh : ∀ (f : Nat → Int) (k : Nat), preSum f (k + 1) = f 0 + preSum (fun i => f (i + 1)) k := by
      intro f k
      induction k with
      | zero => simp [preSum]
      | succ k ih =>
        show preSum f (k + 1) + f (k + 1) = f 0 + (preSum (fun i => f (i + 1)) k + f (k + 1))
        rw [ih, Int.add_assoc]
    rw [List.length_cons, sh, List.sum_cons]
    have := @preSum_get is
    rw [← this]
    rfl
theorem pe_sumVals (hc : X.calm = true) (hg : Gl X "sum") (hm : X.mg "sum" = none) (hd : PE X o td) (hbase : attributeBase o "values" X.env (eval o X.env) = eval o X.env) (hline : (apos.endLine == mpos.line) = true)
    (hse : starEach [Expr.Call (.Attribute o "values" apos) [] [] mpos] X.env = [(false, eval (Expr.Call (.Attribute o "values" apos) [] [] mpos) X.env)] := by rfl) :
    PE X (.Call (.Name "sum" p) [.Call (.Attribute o "values" apos) [] [] mpos] [] pos) (tSumVals td) := by
  refine ⟨fun pins s σ H Q I h => ?_⟩
  refine wpAny_Call_Name_kw (ld_blt I hg hm (u := .builtin "sum") (by first | rfl | decide +kernel) ?_ (by first | decide +kernel | decide) (by first | decide +kernel | decide))
  rw [hse]
  refine PySem.callWith_builtin1 (wpAny_Call_method0_late hbase hline (thn (hd.run pins s σ H _ I h) fun v s1 ⟨x, H1, I1, r1, a, kvs, is, ex, ha, hv, q⟩ => ?_))
  subst ex
  obtain rfl : v = Value.ref a := r1
  obtain ⟨_, hsys, vs, rel, dof⟩ := dk_rd I1.hok ha
  obtain ⟨ep, dat⟩ := dof.dictAt
  have dat' := dat
  obtain ⟨ob, es, ho, ex, hdat, hko, hpr, hnd⟩ := dat'
  refine ⟨"dict", "dict.values", F.plainAttrs_dict, F.slot_dict_values, F.type_dict_values, ⟨ob, ho, ex.1⟩, fun b e => ?_, Calls.callWith_builtin rfl (PySem.evalArgs_none ?_)⟩
  · cases e
    exact ⟨ob, ho, ex.2.1⟩
  refine call_meetsIn F.slot_dict_values ⟨ob, ho, ex.1⟩ F.entry_dict_values (F.args_dict_values_1 _) (meets_dict_values (mixKind X.prog X.w) a hsys) ⟨⟨vs, dof⟩, ?_⟩
  have k1 : ∀ b u, s1.heap.get? b = some u → (s1.heap.push { cls := .type "dict_values", data := .fields #[.ref a] }).get? b = some u := fun b u e => Heap.get?_push_of_some _ e
  have dat1 : (s1.heap.push { cls := .type "dict_values", data := .fields #[.ref a] }).DictAt (mixKind X.prog X.w) a vs ep := dat.keep k1
  have hlv : vs.length = is.length := by
    have e1 := congrArg List.length hv
    rw [List.length_map, List.length_map] at e1
    rw [← e1]
    exact (KV.length rel).symm
  have hval : ∀ (i : Nat) (v : Value), (∃ k, vs[i]? = some (k, v)) → ∃ t, v = Value.int (is.getD i 0) t := fun i v ⟨k, hk⟩ => by
    obtain ⟨x, h1, h2⟩ := KV.at' rel hk
    have e1 : (kvs.map (·.2))[i]? = some x := by rw [List.getElem?_map, h1] <;> rfl
    rw [hv, List.getElem?_map] at e1
    obtain ⟨j, hj, e2⟩ := Option.map_eq_some_iff.mp e1
    subst e2
    obtain ⟨t, e3⟩ := h2
    refine ⟨t, ?_⟩
    rw [e3, List.getD_eq_getElem?_getD, hj] <;> rfl
  refine call_sum_walkG (wpAny_pyIter_values (v := s1.heap.objs.size) (d := a) ⟨_, Heap.get?_push_size _ rfl, rfl, rfl⟩ dat1 ?_)
  have hlt : a < s1.heap.objs.size := Heap.lt_size ho
  have hsz : (s1.heap.push { cls := .type "dict_values", data := .fields #[.ref a] }).objs.size = s1.heap.objs.size + 1 := Heap.size_push _ _
  refine ⟨_, _, _, _, _, _, fun i => is.getD i 0, rfl, Walks.dictValues (knd := mixKind X.prog X.w) (A := X.A.in1) (I.ok.hd hc) (s1.heap.push { cls := .type "dict_values", data := .fields #[.ref a] }).objs.size a (by rw [hsz]; exact Nat.ne_of_lt (Nat.lt_succ_of_lt hlt)) vs ep,
    ⟨⟨_, Heap.get?_push_size _ rfl, rfl, rfl⟩, dat1.keep fun b u e => Heap.get?_push_of_some _ e⟩, fun b hb => ?_, hval, fun h' tk t' hk => ?_⟩
  · show b < ((s1.heap.push _).push _).objs.size
    rw [Heap.size_push, Heap.size_push]
    rw [hsz] at hb
    rcases List.mem_cons.mp hb with e | hb
    · rw [e]
      exact Nat.lt_succ_self _
    · have e : b = a := List.mem_singleton.mp hb
      rw [e]
      exact Nat.lt_succ_of_lt (Nat.lt_succ_of_lt hlt)
  · have e : preSum (fun i => is.getD i 0) vs.length = is.sum := by rw [hlv]; exact preSum_get
    rw [e]
    refine ⟨.int _, H1, I1.kept (t' := tk) fun b u e => hk b u (fun hmem => ?_) (Heap.get?_push_of_some _ (k1 b u e)), ⟨t', rfl⟩, q⟩
    have e1 : b = (s1.heap.push { cls := .type "dict_values", data := .fields #[.ref a] }).objs.size := List.mem_singleton.mp hmem
    have e2 := Heap.lt_size e
    rw [hsz] at e1
    rw [e1] at e2
    exact absurd e2 (Nat.not_lt.mpr (Nat.le_succ _))
end
end L2
namespace Ti
open PySem PySem.Spec PyProof.Rows L2
def pSumV : F1 := fun x h => match asD h x with
  | some (false, kvs) => (ofO (intsOf (kvs.map (·.2)))).bind fun ns => .ok (.int ns.sum, h)
  | _ => .bad
section
variable {X : Cx} {K : PySem.W.Frag} {cm : Cm} {mu : List Addr} {Z : Hp}
theorem RWk.ws : ∀ {kvs : List (HK × W)} {vs : List V}, RWk K cm mu Z kvs vs → RWs K cm mu Z (kvs.map (·.2)) vs
  | [], _, h => h
  | (_, w) :: kvs, vs, h => by
    obtain ⟨v, r, rfl, q1, q2⟩ := (show ∃ v r, vs = v :: r ∧ RW K cm mu Z w v ∧ RWk K cm mu Z kvs r from h)
    exact ⟨v, r, rfl, q1, RWk.ws q2⟩
theorem q_sumV {o : Expr} {m : DE} {p pos apos mpos : Pos} (hc : X.calm = true) (hg : Gl X "sum") (hm : X.mg "sum" = none) (ho : QE X cm o m) (hbase : attributeBase o "values" X.env (eval o X.env) = eval o X.env) (hline : (apos.endLine == mpos.line) = true) :
    QE X cm (.Call (.Name "sum" p) [.Call (.Attribute o "values" apos) [] [] mpos] [] pos) (e1 pSumV m) := by
  refine PE.wk (pe_sumVals hc hg hm ho hbase hline) fun σ H Q q => ?_
  obtain ⟨mu, Z, ρ, h, w, h', rl, s, e, f⟩ := q
  obtain ⟨p, e1, e⟩ := Res.bind_eq_ok e
  refine ⟨mu, Z, ρ, h, p.1, p.2, rl, s, e1, fun mu1 Z1 H1 v1 x1 r1 w1 => ?_⟩
  obtain ⟨u, h2⟩ := p
  have e : pSumV u h2 = .ok (w, h') := e
  unfold pSumV at e
  split at e
  · rename_i kvs ed
    obtain ⟨ns, e2, e⟩ := Res.bind_eq_ok e
    cases e
    obtain ⟨a, rfl, _, q⟩ := asD_ok r1 w1 ed
    obtain ⟨ks, vs, _, hd, hl, rk⟩ := (show ∃ ks vs, KeysK (kvs.map (·.1)) ks ∧ Rd H1 a (.dK (ks.zip vs)) ∧ ks.length = vs.length ∧ RWk X.K cm mu1 Z1 kvs vs from q)
    have := intsOf_ok (ofO_eq_ok e2) rk.ws
    subst this
    exact ⟨a, _, ns, rfl, hd, List.map_snd_zip (Nat.le_of_eq hl.symm), f mu1 Z1 H1 _ x1 r1 rfl⟩
  · cases e
end
end Ti


namespace Ti
open PySem PySem.Spec PyProof.Rows L2
def sFrz (i : Nat) : DS := fun ρ h => match ρ[i]? with
  | some (some (.ref k)) => (match h[k]? with
    | some (.lst ws) => .ok (.nx, ρ.set i (some (.lst ws)), h.set k (.frz (.lst ws)))
    | _ => .bad)
  | _ => .bad
section
variable {K : PySem.W.Frag} {cm : Cm} {mu : List Addr} {Z H : Hp} {h h' : Hh} {ρ ρ' : Env} {σ : L2.St} {f : Fl} {i : Nat}
theorem frz_step (r : RelH K cm mu Z H h) (s : Sl K cm mu Z ρ σ) (e : sFrz i ρ h = .ok (f, ρ', h')) : f = .nx ∧ ∃ Z', Ext mu Z H mu Z' H ∧ RelH K cm mu Z' H h' ∧ Sl K cm mu Z' ρ' σ := by
  unfold sFrz at e
  split at e
  · rename_i k e1
    split at e
    · rename_i ws e2
      cases e
      refine ⟨rfl, ?_⟩
      obtain ⟨v, hv, a, rfl, hm⟩ := s.at_ i _ e1
      have c := r.cell k a _ hm e2
      obtain ⟨z, n, vs, hH, rw⟩ := c
      have m0 : ∀ (i : Nat) (a : Addr), mu[i]? = some a → mu[i]? = some a := fun _ _ q => q
      have m00 : ∀ (i : Nat) (a : Addr), ([] : List Addr)[i]? = some a → ([] : List Addr)[i]? = some a := fun _ _ q => q
      have le : Le Z (L2.upd Z a (.lst vs)) := fun b u q => by
        rw [upd_ne (show b ≠ a from fun w => by rw [w, z] at q; cases q)]
        exact q
      have here : RW K cm mu (L2.upd Z a (.lst vs)) (.lst ws) (.ref a) := ⟨a, vs, rfl, upd_same, (RWs.any n rw).mono le m0⟩
      have here0 : RW K cm [] (L2.upd Z a (.lst vs)) (.lst ws) (.ref a) := ⟨a, vs, rfl, upd_same, rw.mono le m00⟩
      refine ⟨L2.upd Z a (.lst vs), ⟨m0, le, fun _ _ _ _ q _ => q, fun _ _ _ q => (by rw [q]; exact fun z => nomatch z), fun _ q => .inl q, fun b hb => ?_, fun _ _ _ q => q⟩, ⟨by rw [List.length_set]; exact r.len, r.nd, fun b u q => ?_, r.mh, fun j b d hj hd => ?_, r.tb.frz (.some hH (by exact ⟨fun _ z => (by cases z), fun _ z => (by cases z)⟩))⟩, ⟨by rw [List.length_set]; exact s.len, fun j w q => ?_⟩⟩
      · by_cases q : b = a
        · rw [q]; exact .inr (.inl (List.mem_of_getElem? hm))
        · rw [upd_ne q] at hb; exact .inl hb
      · by_cases q2 : b = a
        · subst q2
          rw [upd_same] at q
          cases q
          exact hH
        · rw [upd_ne q2] at q
          exact r.zh b u q
      · by_cases kj : k = j
        · subst kj
          have hk : k < h.length := (List.getElem?_eq_some_iff.mp e2).1
          rw [List.getElem?_set_self hk] at hd
          cases hd
          rw [hm] at hj
          cases hj
          exact ⟨n, here0⟩
        · rw [List.getElem?_set_ne kj] at hd
          have ba : b ≠ a := fun w => by
            subst w
            exact kj (nodup_ix1 r.nd hm hj)
          exact (r.cell j b d hj hd).mono le (fun w => by rw [upd_ne ba]; exact w) fun u _ q => q
      · by_cases ij : i = j
        · subst ij
          have hi : i < ρ.length := (List.getElem?_eq_some_iff.mp e1).1
          rw [List.getElem?_set_self hi] at q
          cases q
          exact ⟨_, hv, here⟩
        · rw [List.getElem?_set_ne ij] at q
          obtain ⟨v, h1, h2⟩ := s.at_ j w q
          exact ⟨v, h1, h2.mono le m0⟩
    · cases e
  · cases e
variable {X : Cx}
theorem qs_frz {st : Stmt} {m : DS} (q : QS X cm st m) : QS X cm st (sCons m (sFrz i)) := by
  refine PS.wk q fun D σ H t => ?_
  obtain ⟨mu, Z, ρ, h, f, ρ', h', r, s, e, p⟩ := t
  obtain ⟨⟨f1, ρ1, h1⟩, e1, e2⟩ := Res.bind_eq_ok e
  cases f1 with
  | nx =>
    have e2 : sFrz i ρ1 h1 = .ok (f, ρ', h') := e2
    refine ⟨mu, Z, ρ, h, .nx, ρ1, h1, r, s, e1, fun mu' Z' H' x r1 σ' s1 => ?_⟩
    obtain ⟨rfl, Z2, x2, r2, s2⟩ := frz_step r1 s1 e2
    exact p mu' Z2 H' (x.trans x2) r2 σ' s2
  | rt w => cases e2; exact ⟨mu, Z, ρ, h, _, _, _, r, s, e1, p⟩
  | bk => cases e2; exact ⟨mu, Z, ρ, h, _, _, _, r, s, e1, p⟩
  | ct => cases e2; exact ⟨mu, Z, ρ, h, _, _, _, r, s, e1, p⟩
theorem qs_frzB {st : Stmt} {m : DS} (q : QS X cm st m) : QS X cm st (sCons (sFrz i) m) := by
  refine PS.wk q fun D σ H t => ?_
  obtain ⟨mu, Z, ρ, h, f, ρ', h', r, s, e, p⟩ := t
  obtain ⟨⟨f1, ρ1, h1⟩, e1, e2⟩ := Res.bind_eq_ok e
  obtain ⟨rfl, Z2, x2, r2, s2⟩ := frz_step r s e1
  exact ⟨mu, Z2, ρ1, h1, f, ρ', h', r2, s2, e2, fun mu' Z' H' x => p mu' Z' H' (x2.trans x)⟩
def pTup : F1 := fun x h => (ofO (seqOf h x)).bind fun ws => if ws.length ≤ lineW then .ok (.tup ws, h) else .bad
theorem ok_tuple : Ok1 K cm pTup fun v H Q => (fun xs H Q => ∃ p ys, xs = [V.ref p] ∧ ((SqL K H p ys ∧ ∀ l, H l = none → Q (.ref l) (L2.upd H l (.tup ys))) ∨ (SqT K H p ys ∧ Q (.ref p) H))) [v] H Q := by
  intro mu Z H h w1 w h' v1 Q r q1 e f
  obtain ⟨ws, e1, e⟩ := Res.bind_eq_ok e
  have e1 := ofO_eq_ok e1
  split at e
  · rename_i hl
    cases e
    have gen : asL h w1 = some ws → (∃ p ys, [v1] = [V.ref p] ∧ ((SqL K H p ys ∧ ∀ l, H l = none → Q (.ref l) (L2.upd H l (.tup ys))) ∨ (SqT K H p ys ∧ Q (.ref p) H))) := fun e1 => by
      obtain ⟨a, vs, rfl, ha, rs⟩ := asL_ok r q1 e1
      refine ⟨a, vs, rfl, .inl ⟨SqL.of ha, fun l hl' => ?_⟩⟩
      obtain ⟨r', x⟩ := r.newZ (o := .tup vs) hl' upd_same
      exact f _ _ _ _ x r' ⟨l, vs, rfl, upd_same, rs.mono x.z x.m⟩
    cases w1 with
    | tup us =>
      cases e1
      obtain ⟨a, vs, rfl, z, rs⟩ := q1
      exact ⟨a, vs, rfl, .inr ⟨SqT.of (r.tupZ z), f.here r ⟨a, vs, rfl, z, rs⟩⟩⟩
    | _ => exact gen e1
  · cases e
def rgL (c : Bool) (a b : Int) (h : Hh) : R1 := if okR a && okR b then mkL c (rangeW a (b - a).toNat) h else .bad
def pRgL (c : Bool) : Fn := fun ws h => match ws with
  | [.int n] => rgL c 0 n h
  | [.int a, .int b] => rgL c a b h
  | _ => .bad
theorem rgL_ok {c : Bool} {a b : Int} {w : W} {Q : VK} (r : RelH K cm mu Z H h) (e : rgL c a b h = .ok (w, h')) (f : Fin K cm mu Z H w h' Q) : RgOk a b ∧ ∀ q, H q = none → Q (.ref q) (L2.upd H q (.lst (rgV a b))) := by
  unfold rgL at e
  split at e
  · rename_i ho
    rw [Bool.and_eq_true] at ho
    have h1 := of_decide_eq_true (show decide _ = true from ho.1)
    have h2 := of_decide_eq_true (show decide _ = true from ho.2)
    have rw : RWs K cm mu Z (rangeW a (b - a).toNat) (rgV a b) := by
      have := RWs.ints (K := K) (cm := cm) (mu := mu) (Z := Z) ((List.range (b - a).toNat).map fun i => a + (i : Nat))
      rw [List.map_map, List.map_map] at this
      exact this
    obtain ⟨hl, hq⟩ := mkL_ok r rw e f
    rw [rgV_length] at hl
    refine ⟨⟨by omega, by omega, by omega, by omega, ?_⟩, hq⟩
    exact hl
  · cases e
theorem q_listRg {c : Bool} {es : List Expr} {ms : List DE} {p p2 pos pos2 : Pos} (hc : X.calm = true) (hg : Gl X "list") (hm : X.mg "list" = none) (hg2 : Gl X "range") (hm2 : X.mg "range" = none)
    (h : (∃ a m, es = [a] ∧ ms = [m] ∧ QE X cm a m ∧ starEach [a] X.env = (false, eval a X.env) :: starEach [] X.env) ∨
      ∃ a b m k, es = [a, b] ∧ ms = [m, k] ∧ QE X cm a m ∧ QE X cm b k ∧ starEach [a, b] X.env = (false, eval a X.env) :: starEach [b] X.env ∧ starEach [b] X.env = (false, eval b X.env) :: starEach [] X.env) :
    QE X cm (.Call (.Name "list" p) [.Call (.Name "range" p2) es [] pos2] [] pos) (eF (pRgL c) ms) := by
  rcases h with ⟨a, m, rfl, rfl, ha, na⟩ | ⟨a, b, m, k, rfl, rfl, ha, hb, na, nb⟩
  · refine PE.wk (pe_listRg hc hg hm (prg_1 hg2 hm2 ha na)) fun σ H Q q => ?_
    obtain ⟨mu, Z, ρ, h, w, h', rl, s, e, f⟩ := q
    obtain ⟨p, e1, e⟩ := Res.bind_eq_ok e
    obtain ⟨q1, e2, e1⟩ := Res.bind_eq_ok e1
    obtain ⟨q2, e3, e1⟩ := Res.bind_eq_ok e1
    cases e3
    cases e1
    refine ⟨mu, Z, ρ, h, q1.1, q1.2, rl, s, e2, fun mu1 Z1 H1 v1 x1 r1 w1 => ?_⟩
    obtain ⟨u, h1⟩ := q1
    have e : pRgL c [u] h1 = .ok (w, h') := e
    cases u with
    | int n =>
      cases w1
      exact ⟨n, rfl, rgL_ok r1 e (f.ext x1)⟩
    | _ => cases e
  · refine PE.wk (pe_listRg hc hg hm (prg_2 hg2 hm2 ha hb na nb (by rw [nb]; rfl))) fun σ H Q q => ?_
    obtain ⟨mu, Z, ρ, h, w, h', rl, s, e, f⟩ := q
    obtain ⟨p, e1, e⟩ := Res.bind_eq_ok e
    obtain ⟨q1, e2, e1⟩ := Res.bind_eq_ok e1
    obtain ⟨q2, e3, e1⟩ := Res.bind_eq_ok e1
    obtain ⟨q3, e4, e3⟩ := Res.bind_eq_ok e3
    obtain ⟨q4, e5, e3⟩ := Res.bind_eq_ok e3
    cases e5
    cases e3
    cases e1
    refine ⟨mu, Z, ρ, h, q1.1, q1.2, rl, s, e2, fun mu1 Z1 H1 v1 x1 r1 w1 => ?_⟩
    refine ⟨mu1, Z1, ρ, q1.2, q3.1, q3.2, r1, s.ext x1, e4, fun mu2 Z2 H2 v2 x2 r2 w2 => ?_⟩
    have w1' := w1.mono x2.z x2.m
    obtain ⟨u, h1⟩ := q1
    obtain ⟨u2, h2⟩ := q3
    have e : pRgL c [u, u2] h2 = .ok (w, h') := e
    cases u with
    | int a =>
      cases u2 with
      | int b =>
        cases w1'
        cases w2
        exact ⟨a, b, rfl, rfl, rgL_ok r2 e (f.ext (x1.trans x2))⟩
      | _ => cases e
    | _ => cases e
end
end Ti


namespace L2
open PySem PySem.Spec PyProof.Rows
section
variable {X : Cx}
def tLk (td : TE) : TE := fun σ H Q => td σ H fun x H1 => ∃ d kvs, x = .ref d ∧ ((∃ o, H1 d = some (.frz o (.dK kvs)) ∧ Q x H1) ∨ (H1 d = some (.dK kvs) ∧ ∀ o, Q x (upd H1 d (.frz o (.dK kvs)))))
theorem pe_lk {e : Expr} {td : TE} (he : PE X e td) : PE X e (tLk td) := by
  refine ⟨fun pins s σ H Q I h => ?_⟩
  refine thn (he.run pins s σ H _ I h) fun v s1 ⟨x, H1, I1, rx, d, kvs, ex, q⟩ => ?_
  rcases q with ⟨o, hd, q⟩ | ⟨hd, q⟩
  · exact ⟨x, H1, I1, rx, q⟩
  · obtain ⟨od, I2⟩ := I1.lock hd trivial
    exact ⟨x, _, I2, rx, q od⟩
end
end L2
namespace Ti
open PySem PySem.Spec PyProof.Rows L2
section
variable {K : PySem.W.Frag} {cm : Cm} {mu mu1 mu2 : List Addr} {Z H Z1 H1 Z2 H2 : Hp} {h h1 h2 : Hh} {w : W} {v : V}
theorem toW_ok {k : HK} {q : Key} (e : k.key = some q) : RW K cm mu Z k.toW (kV q) := by
  cases k with
  | int i => cases e; rfl
  | str x => cases e; rfl
  | _ => cases e
theorem paired_ix {R : HK → Key → Prop} : ∀ {ks : List HK} {qs : List Key} {i : Nat} {q : Key}, Paired R ks qs → qs[i]? = some q → ∃ k, ks[i]? = some k ∧ R k q
  | [], _, _, _, .nil, e => by cases e
  | k :: ks, _, 0, _, .cons a _, e => by cases e; exact ⟨k, rfl, a⟩
  | k :: ks, _, i + 1, _, .cons _ b, e => by
    rw [List.getElem?_cons_succ] at e ⊢
    exact paired_ix b e
theorem paired_len {R : HK → Key → Prop} : ∀ {ks : List HK} {qs : List Key}, Paired R ks qs → ks.length = qs.length
  | _, _, .nil => rfl
  | _, _, .cons _ b => congrArg (· + 1) (paired_len b)
theorem RWk.ws2 : ∀ {kvs : List (HK × W)} {vs : List V}, RWk K cm mu Z kvs vs → RWs K cm mu Z (kvs.map (·.2)) vs
  | [], _, h => h
  | (_, w) :: kvs, vs, h => by
    obtain ⟨v, r, rfl, q1, q2⟩ := (show ∃ v r, vs = v :: r ∧ RW K cm mu Z w v ∧ RWk K cm mu Z kvs r from h)
    exact ⟨v, r, rfl, q1, RWk.ws2 q2⟩
theorem ent_at {kvs : List (HK × W)} {ks : List Key} {vs : List V} {i : Nat} {k : Key} {x : V} (h1 : KeysK (kvs.map (·.1)) ks) (h2 : ks.length = vs.length) (h3 : RWk K cm mu Z kvs vs) (e : (ks.zip vs)[i]? = some (k, x)) : ∃ p, kvs[i]? = some p ∧ RW K cm mu Z p.1.toW (kV k) ∧ RW K cm mu Z p.2 x := by
  obtain ⟨e1, e2⟩ := List.getElem?_zip_eq_some.mp e
  obtain ⟨hk, e3, e4⟩ := paired_ix h1 e1
  rw [List.getElem?_map] at e3
  obtain ⟨p, e5, e6⟩ := Option.map_eq_some_iff.mp e3
  have hi := (List.getElem?_eq_some_iff.mp e5).1
  obtain ⟨x', e7, e8⟩ := h3.ws2.get (i := i) (w := p.2) (by rw [List.getElem?_map, e5]; rfl)
  rw [e2] at e7
  cases e7
  exact ⟨p, e5, toW_ok (by rw [e6]; exact e4), e8⟩
theorem dic_lk {kvs : List (HK × W)} {J : Addr → Obj → List (Key × V) → It} {R : It → Hp → Prop} (r1 : RelH K cm mu1 Z1 H1 h1) (wv : RW K cm mu1 Z1 (.dic false kvs) v)
    (hR : ∀ d ks vs o H', v = .ref d → KeysK (kvs.map (·.1)) ks → ks.length = vs.length → RWk K cm mu1 Z1 kvs vs → Z1 d = some (.dK (ks.zip vs)) → Ext mu1 Z1 H1 mu1 Z1 H' → RelH K cm mu1 Z1 H' h1 → H' d = some (.frz o (.dK (ks.zip vs))) → R (J d o (ks.zip vs)) H') :
    ∃ d kvs, v = .ref d ∧ ((∃ o, H1 d = some (.frz o (.dK kvs)) ∧ R (J d o kvs) H1) ∨ (H1 d = some (.dK kvs) ∧ ∀ o, R (J d o kvs) (L2.upd H1 d (.frz o (.dK kvs))))) := by
  obtain ⟨d, ev, q⟩ := wv
  obtain ⟨ks, vs, k1, k2, k3, k4⟩ := (show ∃ ks vs, KeysK (kvs.map (·.1)) ks ∧ Z1 d = some (.dK (ks.zip vs)) ∧ ks.length = vs.length ∧ RWk K cm mu1 Z1 kvs vs from q)
  refine ⟨d, ks.zip vs, ev, ?_⟩
  rcases (show Rd H1 d (.dK (ks.zip vs)) from r1.zh d _ k2) with e | ⟨o, e⟩
  · refine .inr ⟨e, fun o => ?_⟩
    obtain ⟨r2, x2⟩ := r1.lock (o := o) k2 e
    exact hR d ks vs o _ ev k1 k3 k4 k2 x2 r2 upd_same
  · exact .inl ⟨o, e, hR d ks vs o _ ev k1 k3 k4 k2 Ext.refl r1 e⟩
end
section
variable {X : Cx} {cm : Cm}
theorem one_src {m : DE} {ρ : Env} {h : Hh} {p : List W × Hh} (e : eL [m] ρ h = .ok p) : ∃ w, m ρ h = .ok (w, p.2) ∧ p.1 = [w] := by
  obtain ⟨q, e1, e⟩ := Res.bind_eq_ok e
  obtain ⟨q2, e2, e⟩ := Res.bind_eq_ok e
  cases e2
  cases e
  exact ⟨q.1, e1, rfl⟩
theorem qi_keys {tg e : Expr} {m : DE} (he : QE X cm e m) : PI X tg e (fun σ H R => ∃ mu Z ρ h kvs h1, RelH X.K cm mu Z H h ∧ Sl X.K cm mu Z ρ σ ∧ m ρ h = .ok (.dic false kvs, h1) ∧
  ∀ mu' Z' H' J, Ext mu Z H mu' Z' H' → RelH X.K cm mu' Z' H' h1 →
    (∃ G Y, Walk J kvs.length G Y ∧ (∀ mu2 Z2 H2 h2, Exw mu' Z' H' mu2 Z2 H2 → RelH X.K cm mu2 Z2 H2 h2 → G H2) ∧
      ∀ i mu2 Z2 H2 h2 x H3, Exw mu' Z' H' mu2 Z2 H2 → RelH X.K cm mu2 Z2 H2 h2 → Y i H2 x H3 → ∃ w Z3, (kvs.map fun p => p.1.toW)[i]? = some w ∧ Ext mu2 Z2 H2 mu2 Z3 H3 ∧ RelH X.K cm mu2 Z3 H3 h2 ∧ RW X.K cm mu2 Z3 w x) → R J H') := by
  refine PI.wk (pi_keys (pe_lk he)) fun σ H R q => ?_
  obtain ⟨mu, Z, ρ, h, kvs, h1, rl, sl, e, hR⟩ := q
  refine ⟨mu, Z, ρ, h, .dic false kvs, h1, rl, sl, e, fun mu1 Z1 H1 v1 x1 r1 w1 => ?_⟩
  have main := dic_lk (J := Itk) (R := R) r1 w1 fun d ks vs o H' ev k1 k3 k4 k2 x2 r2 hd => by
    refine hR mu1 Z1 H' _ (x1.trans x2) r2 ⟨fun H => H d = some (.frz o (.dK (ks.zip vs))), fun i H x H' => H' = H ∧ ∃ k v, (ks.zip vs)[i]? = some (k, v) ∧ x = kV k, ⟨fun i H hi g => ⟨g, ?_⟩, fun H g => ⟨g, ?_⟩, fun i H x H' _ _ y => y⟩, fun mu2 Z2 H2 h2 x3 r3 => x3.fz d o _ hd, fun i mu2 Z2 H2 h2 x H3 x3 r3 y => ?_⟩
    · rw [List.length_zip, ← k3, Nat.min_self, ← paired_len k1, List.length_map]; exact hi
    · rw [List.length_zip, ← k3, Nat.min_self, ← paired_len k1, List.length_map]; exact Nat.le_refl _
    · obtain ⟨rfl, k, x', e1, rfl⟩ := y
      obtain ⟨p, e2, q1, q2⟩ := ent_at k1 k3 k4 e1
      exact ⟨p.1.toW, Z2, by rw [List.getElem?_map, e2]; rfl, Ext.refl, r3, q1.mono (x3.z) x3.m⟩
  obtain ⟨d, kv, ev, q⟩ := main
  refine ⟨d, kv, ev, ?_⟩
  rcases q with ⟨o, e1, q⟩ | ⟨e1, q⟩
  · exact .inl ⟨o, e1, d, o, ev, .inl ⟨kv, e1, q⟩⟩
  · exact .inr ⟨e1, fun o => ⟨d, o, ev, .inl ⟨kv, upd_same, q o⟩⟩⟩
theorem qi_any {tg e : Expr} {m : DE} (he : QE X cm e m) : QI X cm tg e fiL [m] := by
  refine PI.wk (piOr (qi_seq he) (qi_keys he)) fun σ H R q => ?_
  obtain ⟨mu, Z, ρ, h, p, s, rl, sl, e, es, hR⟩ := q
  obtain ⟨w, e1, e2⟩ := one_src e
  by_cases hd : ∃ kvs, w = .dic false kvs
  · obtain ⟨kvs, rfl⟩ := hd
    rw [e2] at es
    cases es
    refine .inr ⟨mu, Z, ρ, h, kvs, p.2, rl, sl, e1, fun mu' Z' H' J x r ⟨G, Y, wk, g, y⟩ => hR mu' Z' H' J x r ⟨G, Y, ?_, fun mu2 Z2 H2 h2 a b _ => g mu2 Z2 H2 h2 a b, fun i mu2 Z2 H2 h2 x H3 a b _ c => y i mu2 Z2 H2 h2 x H3 a b c⟩⟩
    have : (kvs.map fun p => p.1.toW).length = kvs.length := List.length_map _
    rw [this]
    exact wk
  · exact .inl ⟨mu, Z, ρ, h, p, s, rl, sl, e, es, fun ⟨kvs, hk⟩ => hd ⟨kvs, by rw [e2] at hk; cases hk; rfl⟩, hR⟩
theorem qi_items {e : Expr} {m : DE} {elts : List Expr} {kk : Nat} {tpos apos cpos : Pos} (he : QE X cm e m) (hbase : attributeBase e "items" X.env (eval e X.env) = eval e X.env) (hline : (apos.endLine == cpos.line) = true) :
    QI X cm (.Tuple elts kk tpos) (.Call (.Attribute e "items" apos) [] [] cpos) fiI [m] := by
  refine PI.wk (pi_items (pe_lk he) hbase hline) fun σ H R q => ?_
  obtain ⟨mu, Z, ρ, h, p, s, rl, sl, e, es, hR⟩ := q
  obtain ⟨w, e1, e2⟩ := one_src e
  rw [e2] at es
  unfold fiI at es
  split at es
  · rename_i ws kvs hw
    cases hw
    cases es
    refine ⟨mu, Z, ρ, h, .dic false kvs, p.2, rl, sl, e1, fun mu1 Z1 H1 v1 x1 r1 w1 => ?_⟩
    have ln : (kvs.map fun p => W.tup [p.1.toW, p.2]).length = kvs.length := List.length_map _
    have main := dic_lk (J := Iti) (R := R) r1 w1 fun d ks vs o H' ev k1 k3 k4 k2 x2 r2 hd => by
      refine hR mu1 Z1 H' _ (x1.trans x2) r2 ⟨fun H => H d = some (.frz o (.dK (ks.zip vs))), fun i H x H' => ∃ T k v, (ks.zip vs)[i]? = some (k, v) ∧ x = .ref T ∧ H T = none ∧ H' = L2.upd H T (.tup [kV k, v]), ⟨fun i H hi g => ⟨g, ?_⟩, fun H g => ⟨g, ?_⟩, fun i H x H' _ _ y => y⟩, fun mu2 Z2 H2 h2 x3 r3 _ => x3.fz d o _ hd, fun i mu2 Z2 H2 h2 x H3 x3 r3 _ y => ?_⟩
      · rw [List.length_zip, ← k3, Nat.min_self, ← paired_len k1, List.length_map]; rw [ln] at hi; exact hi
      · rw [List.length_zip, ← k3, Nat.min_self, ← paired_len k1, List.length_map, ln]; exact Nat.le_refl _
      · obtain ⟨T, k, x', e1, rfl, hT, rfl⟩ := y
        obtain ⟨p, e2, q1, q2⟩ := ent_at k1 k3 k4 e1
        obtain ⟨r', x'⟩ := r3.newZ (o := .tup [kV k, x']) hT upd_same
        have q1 := (q1.mono x3.z x3.m).mono x'.z x'.m
        have q2 := (q2.mono x3.z x3.m).mono x'.z x'.m
        exact ⟨.tup [p.1.toW, p.2], _, by rw [List.getElem?_map, e2]; rfl, x', r', ⟨T, _, rfl, upd_same, _, _, rfl, q1, _, [], rfl, q2, rfl⟩⟩
    obtain ⟨d, kv, ev, q⟩ := main
    refine ⟨d, kv, ev, ?_⟩
    rcases q with ⟨o, e1, q⟩ | ⟨e1, q⟩
    · exact .inl ⟨o, e1, d, o, kv, ev, e1, q⟩
    · exact .inr ⟨e1, fun o => ⟨d, o, kv, ev, upd_same, q o⟩⟩
  · cases es
theorem qi_values {tg e : Expr} {m : DE} {apos cpos : Pos} (he : QE X cm e m) (hbase : attributeBase e "values" X.env (eval e X.env) = eval e X.env) (hline : (apos.endLine == cpos.line) = true) :
    QI X cm tg (.Call (.Attribute e "values" apos) [] [] cpos) fiV [m] := by
  refine PI.wk (pi_values (pe_lk he) hbase hline) fun σ H R q => ?_
  obtain ⟨mu, Z, ρ, h, p, s, rl, sl, e, es, hR⟩ := q
  obtain ⟨w, e1, e2⟩ := one_src e
  rw [e2] at es
  unfold fiV at es
  split at es
  · rename_i ws kvs hw
    cases hw
    cases es
    refine ⟨mu, Z, ρ, h, .dic false kvs, p.2, rl, sl, e1, fun mu1 Z1 H1 v1 x1 r1 w1 => ?_⟩
    have ln : (kvs.map fun p => p.2).length = kvs.length := List.length_map _
    have main := dic_lk (J := Itd) (R := R) r1 w1 fun d ks vs o H' ev k1 k3 k4 k2 x2 r2 hd => by
      refine hR mu1 Z1 H' _ (x1.trans x2) r2 ⟨fun H => H d = some (.frz o (.dK (ks.zip vs))), fun i H x H' => H' = H ∧ ∃ k, (ks.zip vs)[i]? = some (k, x), ⟨fun i H hi g => ⟨g, ?_⟩, fun H g => ⟨g, ?_⟩, fun i H x H' _ _ y => y⟩, fun mu2 Z2 H2 h2 x3 r3 _ => x3.fz d o _ hd, fun i mu2 Z2 H2 h2 x H3 x3 r3 _ y => ?_⟩
      · rw [List.length_zip, ← k3, Nat.min_self, ← paired_len k1, List.length_map]; rw [ln] at hi; exact hi
      · rw [List.length_zip, ← k3, Nat.min_self, ← paired_len k1, List.length_map, ln]; exact Nat.le_refl _
      · obtain ⟨rfl, k, e1⟩ := y
        obtain ⟨p, e2, q1, q2⟩ := ent_at k1 k3 k4 e1
        exact ⟨p.2, Z2, by rw [List.getElem?_map, e2]; rfl, Ext.refl, r3, q2.mono x3.z x3.m⟩
    obtain ⟨d, kv, ev, q⟩ := main
    refine ⟨d, kv, ev, ?_⟩
    rcases q with ⟨o, e1, q⟩ | ⟨e1, q⟩
    · exact .inl ⟨o, e1, d, o, kv, ev, e1, q⟩
    · exact .inr ⟨e1, fun o => ⟨d, o, kv, ev, upd_same, q o⟩⟩
  · cases es
end
end Ti


namespace L2
open PySem PySem.Spec PyProof.Rows
section
variable {X : Cx}
theorem ps_setDc {i : Nat} {y : Str} {py : Pos} {kx vx tg iter : Expr} {ifs : List Expr} {scope : Scope} {own : List (Str × Nat)} {pos spos : Pos} {wi : TI} {g : TG} {tt : TT} {tk tv : TE} (hc : X.calm = true) (hN : X.N.Nodup) (hy : X.N[i]? = some y) (hyl : X.env.scope.names.lookup y = some .local)
    (hsw : swapsWith (.DictComp kx vx [⟨tg, iter, ifs, 0⟩] scope pos) (some (.Name y py)) spos.line X.env = pure true) (hi : PI X tg iter wi) (ok : BlkOk X.N X.env.scope scope own)
    (hg : ∀ (s : Shared) (H : Hp) (C : Addr) (cl : List (Str × Addr)) (fp : List Addr), PG (X.blk s H scope (compEnvC scope cl C X.env) fp) tg g) (ht : ∀ (s : Shared) (H : Hp) (C : Addr) (cl : List (Str × Addr)) (fp : List Addr), PTs (X.blk s H scope (compEnvC scope cl C X.env) fp) ifs tt)
    (hk : ∀ (s : Shared) (H : Hp) (C : Addr) (cl : List (Str × Addr)) (fp : List Addr), PE (X.blk s H scope (compEnvC scope cl C X.env) fp) kx tk)
    (he : ∀ (s : Shared) (H : Hp) (C : Addr) (cl : List (Str × Addr)) (fp : List Addr), PE (X.blk s H scope (compEnvC scope cl C X.env) fp) vx tv) (hs : ∀ x, foldedSetIterable iter X.env x = pure x) :
    PS X (.Assign [.Name y py] (.DictComp kx vx [⟨tg, iter, ifs, 0⟩] scope pos) spos) (tAsg (tDc wi g tt tk tv (own.map (·.2))) (gName i)) := by
  refine ⟨fun pins s σ H D I h => ?_⟩
  rw [exec_Assign_Name_used _ _ _ _ hsw]
  refine wpAny_bind (wpAny_standAt (wpAny_bind ?_))
  show wpAny _ X.A (do let _ ← comprehension (.DictComp kx vx [⟨tg, iter, ifs, 0⟩] scope pos) scope X.env (firstIterPos [⟨tg, iter, ifs, 0⟩] pos) newDict false (eval iter X.env) (some (assign (.Name y py) X.env))) _ _ s
  have h : tDc wi g tt tk tv (own.map (·.2)) σ H (fun x H1 => gName i x σ H1 D.nx) := h
  refine wpAny_bind (thn (dc_core (Qf := fun _ s' => SP X pins D .next s') hc hN I hi ok hg ht hk he hs h fun L C s' m H' I' q hn f => ?_) fun _ s' hq => wpAny_pure (wpAny_pure hq))
  show wpAny _ _ (assign (.Name y py) X.env (.ref L)) _ _ _
  refine wpAny_assign_Name (store_ok2 (v := V.ref L) I' hN hy (.inl hyl) rfl (fun s2 I2 ⟨a, sb, ha⟩ => ?_) (.inr hyl))
  obtain ⟨f0, f1, f2, f3, f4, f5⟩ := f
  have haC : C ≠ a := by
    rcases ha with z | z
    · rw [z]; exact f1
    · exact fun e => f4 y a z e.symm
  refine ⟨m, hn.sameBut sb haC, fun h3 sb3 => ?_⟩
  exact ⟨_, H', I2.turned (t' := s2.toks) (fun b o hb e => (sb3.2 b hb).trans e) f0 f1 f3 f4 f5, q⟩
theorem sw_trueD {kx vx : Expr} {gs : List Comprehension} {scope : Scope} {pos py : Pos} {y : Str} {l : Nat} {env : Env} (hk : env.scope.kind = .function) (hy : env.scope.names.lookup y = some .local) (hl : (py.line == pos.line) = true)
    (ha : (scope.names.any fun (n, k) => n == y && (k == .local || k == .cell)) = false) : swapsWith (.DictComp kx vx gs scope pos) (some (.Name y py)) l env = pure true := by
  have ky : env.kindOf y = some .local := hy
  have hb : env.blockKind = .function := by unfold Env.blockKind; rw [hk]; rfl
  unfold swapsWith
  simp only [hb, ky, ha, Expr.pos, hl]
  rfl
end
end L2
namespace Ti
open PySem PySem.Spec PyProof.Rows L2
def putO (acc : List (HK × W)) (w v : W) : Res (List (HK × W)) := match keyOf w with
  | some k => if k.fits false && decide (acc.length < lineW) then .ok (dput acc k v) else .bad
  | none => .bad
def dcG (keep : Hh → Bool) (own : List Nat) (tg : DT) (cd : Option DE) (ek ev : DE) (ρ : Env) : List W → List (HK × W) → Hh → Res (List (HK × W) × Hh)
  | [], acc, h => if keep h then .ok (acc, h) else .bad
  | x :: xs, acc, h => if keep h then (tg x (wipeW ρ own) h).bind fun p =>
      (match cd with
        | none => (ek p.1 p.2).bind fun q => (ev p.1 q.2).bind fun r => (putO acc q.1 r.1).bind fun a => dcG keep own tg cd ek ev ρ xs a r.2
        | some c => (c p.1 p.2).bind fun t => (ofO (truthy t.2 t.1)).bind fun k => if k = true then
            (ek p.1 t.2).bind fun q => (ev p.1 q.2).bind fun r => (putO acc q.1 r.1).bind fun a => dcG keep own tg cd ek ev ρ xs a r.2
          else dcG keep own tg cd ek ev ρ xs acc t.2)
    else .bad
def eDc (c : Bool) (own : List Nat) (tg : DT) (fi : FI) (src : List DE) (cd : Option DE) (ek ev : DE) : DE := fun ρ h =>
  (eL src ρ h).bind fun p => (ofO (fi p.1 p.2)).bind fun s => (dcG s.keep own tg cd ek ev ρ s.items [] p.2).bind fun q => mkD c false q.1 q.2
section
variable {K : PySem.W.Frag} {cm : Cm} {mu mu1 mu0 : List Addr} {Z H Z1 H1 Z0 H0 : Hp} {h h1 h' : Hh} {D : Addr} {o : HO}
theorem mkD_at {c : Bool} {kvs : List (HK × W)} {ks : List Key} {vs : List V} {w : W} (r : RelH K cm mu Z H h) (hm : D ∉ mu) (hz : Z D = none) (hD : H D = some (.dK (ks.zip vs))) (k1 : KeysK (kvs.map (·.1)) ks) (k2 : ks.length = vs.length) (q : RWk K cm mu Z kvs vs) (e : mkD c false kvs h = .ok (w, h')) :
    ∃ mu' Z', RelH K cm mu' Z' H h' ∧ RW K cm mu' Z' w (.ref D) ∧ ∀ mu0 Z0 H0, Ext mu0 Z0 H0 mu Z H → H0 D = none → Ext mu0 Z0 H0 mu' Z' H := by
  unfold mkD at e
  split at e
  · rename_i hl
    split at e
    · rename_i nn
      have mm : ∀ (i : Nat) (a : Addr), mu[i]? = some a → (mu ++ [D])[i]? = some a := fun i a q => by
        rw [List.getElem?_append_left (List.getElem?_eq_some_iff.mp q).1]
        exact q
      cases c with
      | true =>
        cases e
        refine ⟨mu ++ [D], Z, ⟨?_, ?_, r.zh, fun b hb => ?_, fun j b d hj hd => ?_, r.tb.snoc (.some hD (by exact ⟨fun _ z => (by cases z), fun _ z => (by cases z)⟩))⟩, ⟨D, rfl, ?_⟩, fun mu0 Z0 H0 x n => ⟨fun i a q => mm i a (x.m i a q), x.z, x.fr, x.th, fun a ha => ?_, x.nz, x.fz⟩⟩
        · rw [List.length_append, List.length_append, r.len]; rfl
        · rw [List.nodup_append]
          exact ⟨r.nd, by simp, fun b hb d hd z => by
            rw [List.mem_singleton] at hd
            subst hd z
            exact hm hb⟩
        · rcases List.mem_append.mp hb with hb | hb
          · exact r.mh b hb
          · rw [List.mem_singleton] at hb
            subst hb
            rw [hD]; exact fun z => nomatch z
        · by_cases hj' : j < mu.length
          · rw [List.getElem?_append_left hj'] at hj
            rw [List.getElem?_append_left (by rw [← r.len]; exact hj')] at hd
            exact r.at_ hj hd
          · have hj2 : mu.length ≤ j := Nat.le_of_not_lt hj'
            rw [List.getElem?_append_right hj2] at hj
            rw [List.getElem?_append_right (by rw [← r.len]; exact hj2), ← r.len] at hd
            cases k : j - mu.length with
            | zero =>
              rw [k] at hj hd
              cases hj; cases hd
              exact ⟨hz, nn, ks, vs, k1, hD, k2, RWk.any nn q⟩
            | succ k' => rw [k] at hj; cases hj
        · rw [List.getElem?_append_right (by rw [r.len]; exact Nat.le_refl _), r.len, Nat.sub_self]; rfl
        · rcases List.mem_append.mp ha with ha | ha
          · exact x.nm a ha
          · rw [List.mem_singleton] at ha
            subst ha
            exact .inr n
      | false =>
        cases e
        have le : Le Z (L2.upd Z D (.dK (ks.zip vs))) := fun a u k => by
          rw [upd_ne (show a ≠ D from fun z => by rw [z, hz] at k; cases k)]
          exact k
        refine ⟨mu, L2.upd Z D (.dK (ks.zip vs)), ⟨r.len, r.nd, fun a u k => ?_, r.mh, fun i a d hi hd => ?_, r.tb.frz (.some hD (by exact ⟨fun _ z => (by cases z), fun _ z => (by cases z)⟩))⟩, ⟨D, rfl, ks, vs, k1, upd_same, k2, q.mono le fun _ _ e => e⟩, fun mu0 Z0 H0 x n => ⟨x.m, x.z.trans le, x.fr, x.th, x.nm, fun a ha => ?_, x.fz⟩⟩
        · by_cases aD : a = D
          · subst aD
            rw [upd_same] at k; cases k
            exact .inl hD
          · rw [upd_ne aD] at k
            exact r.zh a u k
        · have ne : a ≠ D := fun z => hm (by rw [← z]; exact List.mem_of_getElem? hi)
          exact (r.at_ hi hd).mono le (fun z => by rw [upd_ne ne]; exact z) fun u _ k => k
        · by_cases aD : a = D
          · subst aD; exact .inr (.inr n)
          · rw [upd_ne aD] at ha
            exact x.nz a ha
    · cases e
  · cases e
end
theorem tDc_of {K : PySem.W.Frag} {cm : Cm} {c : Bool} {own own' : List Nat} {tg : DT} {fi : FI} {src : List DE} {cd : Option DE} {ek ev : DE} (ho : ∀ i ∈ own', i ∈ own) (σ : L2.St) (H : Hp) (Q : VK) (q : tO K cm (eDc c own tg fi src cd ek ev) σ H Q) :
    tDc (tOI K cm fi src) (tOG K cm own' tg) (tCd K cm cd) (tO K cm ek) (tO K cm ev) own σ H Q := by
  obtain ⟨mu, Z, ρ, h, w, h', rl, s, e, f⟩ := q
  obtain ⟨q, e1, e⟩ := Res.bind_eq_ok e
  obtain ⟨sr, e2, e⟩ := Res.bind_eq_ok e
  obtain ⟨q5, e3, e⟩ := Res.bind_eq_ok e
  refine ⟨mu, Z, ρ, h, q, sr, rl, s, e1, ofO_eq_ok e2, fun mu1 Z1 H1 J x1 r1 hW D hD => ?_⟩
  obtain ⟨G, Y, wk, hG, hY⟩ := hW
  refine ⟨fun i n H => n = sr.items.length - i ∧ i ≤ sr.items.length ∧ ∃ mu2 Z2 h2 acc ks vs, Ext mu1 Z1 H1 mu2 Z2 H ∧ RelH K cm mu2 Z2 H h2 ∧ D ∉ mu2 ∧ Z2 D = none ∧ H D = some (.dK (ks.zip vs)) ∧ (KeysK (acc.map (·.1)) ks ∧ ks.length = vs.length ∧ RWk K cm mu2 Z2 acc vs) ∧
      dcG sr.keep own tg cd ek ev ρ (sr.items.drop i) acc h2 = .ok q5,
    ⟨sr.items.length, ?_⟩, ?_⟩
  · have k0 : KeysK (([] : List (HK × W)).map (·.1)) [] := .nil
    exact ⟨rfl, Nat.zero_le _, mu1, Z1, q.2, [], [], [], Ext.refl.side hD, r1.side (r1.mfree hD) (r1.zfree hD) (.none hD), r1.mfree hD, r1.zfree hD, upd_same, ⟨k0, rfl, rfl⟩, e3⟩
  rintro i n H2 ⟨rfl, hi, mu2, Z2, h2, acc, ks, vs, x2, r2, hm, hz, hDD, wa, e3⟩
  by_cases hlt : i < sr.items.length
  · rw [List.drop_eq_getElem_cons hlt] at e3
    have e3 : (if sr.keep h2 = true then (tg sr.items[i] (wipeW ρ own) h2).bind fun p =>
      (match cd with
        | none => (ek p.1 p.2).bind fun q => (ev p.1 q.2).bind fun r => (putO acc q.1 r.1).bind fun a => dcG sr.keep own tg cd ek ev ρ (sr.items.drop (i + 1)) a r.2
        | some c => (c p.1 p.2).bind fun t => (ofO (truthy t.2 t.1)).bind fun k => if k = true then
            (ek p.1 t.2).bind fun q => (ev p.1 q.2).bind fun r => (putO acc q.1 r.1).bind fun a => dcG sr.keep own tg cd ek ev ρ (sr.items.drop (i + 1)) a r.2
          else dcG sr.keep own tg cd ek ev ρ (sr.items.drop (i + 1)) acc t.2)
      else .bad) = .ok q5 := e3
    split at e3
    · rename_i hk
      obtain ⟨q3, e4, e3⟩ := Res.bind_eq_ok e3
      refine .inr ⟨wk.goes i H2 hlt (hG mu2 Z2 H2 h2 x2.w r2 hk), fun H' => i + 1 ≤ sr.items.length ∧ ∃ mu2 Z2 h2 acc ks vs, Ext mu1 Z1 H1 mu2 Z2 H' ∧ RelH K cm mu2 Z2 H' h2 ∧ D ∉ mu2 ∧ Z2 D = none ∧ H' D = some (.dK (ks.zip vs)) ∧ (KeysK (acc.map (·.1)) ks ∧ ks.length = vs.length ∧ RWk K cm mu2 Z2 acc vs) ∧
          dcG sr.keep own tg cd ek ev ρ (sr.items.drop (i + 1)) acc h2 = .ok q5, fun H' z => ⟨sr.items.length - (i + 1), by omega, rfl, z.1, z.2⟩, fun x H3 y => ?_⟩
      obtain ⟨w3, Z3, e5, x3, r3, w3q⟩ := hY i mu2 Z2 H2 h2 x H3 x2.w r2 hk (wk.yields i H2 x H3 hlt (hG mu2 Z2 H2 h2 x2.w r2 hk) y)
      rw [List.getElem?_eq_getElem hlt] at e5
      cases e5
      have x13 := x2.trans x3
      refine ⟨mu2, Z3, wipeW ρ own, h2, sr.items[i], q3.1, q3.2, r3, wipeW_sl (s.ext (x1.trans x13)) own, w3q, e4, fun mu4 Z4 H4 σ4 x4 r4 s4 b4 => ⟨?_, ?_⟩⟩
      · rw [b4 own ho]
        exact wipe_twice σ own
      have k3 := x3.keepS hm hz hDD
      have k4 := x4.keepS k3.1 k3.2.1 k3.2.2
      have x14 := x13.trans x4
      -- an item that is kept
      have step : ∀ (mu6 : List Addr) (Z6 H6 : Hp) (h6 : Hh), Ext mu1 Z1 H1 mu6 Z6 H6 → Ext mu4 Z4 H4 mu6 Z6 H6 → RelH K cm mu6 Z6 H6 h6 →
          ((ek q3.1 h6).bind fun q => (ev q3.1 q.2).bind fun r => (putO acc q.1 r.1).bind fun a => dcG sr.keep own tg cd ek ev ρ (sr.items.drop (i + 1)) a r.2) = .ok q5 →
          tO K cm ek σ4 H6 fun y H4 => tO K cm ev σ4 H4 fun z H5 => ∃ kvs k, y = kV k ∧ H5 D = some (.dK kvs) ∧ kvs.length < sizeLine ∧ (i + 1 ≤ sr.items.length ∧ ∃ mu2 Z2 h2 acc ks vs, Ext mu1 Z1 H1 mu2 Z2 (L2.upd H5 D (.dK (putK kvs k z))) ∧ RelH K cm mu2 Z2 (L2.upd H5 D (.dK (putK kvs k z))) h2 ∧ D ∉ mu2 ∧ Z2 D = none ∧ (L2.upd H5 D (.dK (putK kvs k z))) D = some (.dK (ks.zip vs)) ∧ (KeysK (acc.map (·.1)) ks ∧ ks.length = vs.length ∧ RWk K cm mu2 Z2 acc vs) ∧
            dcG sr.keep own tg cd ek ev ρ (sr.items.drop (i + 1)) acc h2 = .ok q5) := by
        intro mu6 Z6 H6 h6 x16 x46 r6 e6
        obtain ⟨a7, e7, e6⟩ := Res.bind_eq_ok e6
        obtain ⟨a8, e8, e6⟩ := Res.bind_eq_ok e6
        obtain ⟨a9, e9, e6⟩ := Res.bind_eq_ok e6
        have k6 := x46.keepS k4.1 k4.2.1 k4.2.2
        refine ⟨mu6, Z6, q3.1, h6, a7.1, a7.2, r6, s4.ext x46, e7, fun mu7 Z7 H7 v7 x7 r7 w7 => ?_⟩
        have k7 := x7.keepS k6.1 k6.2.1 k6.2.2
        refine ⟨mu7, Z7, q3.1, a7.2, a8.1, a8.2, r7, s4.ext (x46.trans x7), e8, fun mu8 Z8 H8 v8 x8 r8 w8 => ?_⟩
        have k8 := x8.keepS k7.1 k7.2.1 k7.2.2
        unfold putO at e9
        split at e9
        · rename_i hk' ekey
          split at e9
          · rename_i hn
            cases e9
            rw [Bool.and_eq_true, decide_eq_true_eq] at hn
            obtain ⟨kk, hkk⟩ := fits_key hn.1
            have x48 := x46.trans (x7.trans x8)
            have wa8 : RWk K cm mu8 Z8 acc vs := wa.2.2.mono (x3.z.trans (x4.z.trans x48.z)) fun i a k => x48.m i a (x4.m i a (x3.m i a k))
            obtain ⟨ks', vs', i1, i2, i3, i4⟩ := put_gen (R := fun k q => k.key = some q) (fun _ _ _ => key_inj) (fun _ _ _ g g' => Option.some.inj (g.symm.trans g')) hkk w8 wa.1 wa.2.1 wa8
            refine ⟨ks.zip vs, kk, key_flat w7 ekey hkk, k8.2.2, ?_, hlt, mu8, Z8, a8.2, dput acc hk' a8.1, ks', vs', ((x16.trans x7).trans x8).side hD, r8.side k8.1 k8.2.1 (.some k8.2.2 (by exact ⟨fun _ z => (by cases z), fun _ z => (by cases z)⟩)), k8.1, k8.2.1, ?_, ⟨i1, i2, i4⟩, e6⟩
            · rw [List.length_zip, ← wa.2.1, Nat.min_self, ← paired_len wa.1, List.length_map]
              exact hn.2
            · rw [upd_same, i3]
          · cases e9
        · cases e9
      cases cd with
      | none => exact step mu4 Z4 H4 q3.2 x14 Ext.refl r4 e3
      | some mc =>
        obtain ⟨q6, e6, e3⟩ := Res.bind_eq_ok e3
        obtain ⟨k, e7, e3⟩ := Res.bind_eq_ok e3
        refine ⟨mu4, Z4, q3.1, q3.2, q6.1, q6.2, k, r4, s4, e6, ofO_eq_ok e7, fun mu6 Z6 H6 x6 r6 => ?_⟩
        cases k with
        | true => exact step mu6 Z6 H6 q6.2 (x14.trans x6) x6 r6 e3
        | false =>
          have k6 := x6.keepS k4.1 k4.2.1 k4.2.2
          refine ⟨hlt, mu6, Z6, q6.2, acc, ks, vs, x14.trans x6, r6, k6.1, k6.2.1, k6.2.2, ⟨wa.1, wa.2.1, ?_⟩, e3⟩
          exact wa.2.2.mono (x3.z.trans (x4.z.trans x6.z)) fun i a k => x6.m i a (x4.m i a (x3.m i a k))
    · cases e3
  · have hi' : i = sr.items.length := by omega
    subst hi'
    rw [List.drop_length] at e3
    have e3 : (if sr.keep h2 = true then Res.ok (acc, h2) else .bad) = .ok q5 := e3
    split at e3
    · rename_i hk
      cases e3
      refine .inl ⟨wk.stops H2 (hG mu2 Z2 H2 _ x2.w r2 hk), ?_⟩
      obtain ⟨mu', Z', r', w', k'⟩ := mkD_at r2 hm hz hDD wa.1 wa.2.1 wa.2.2 e
      exact f mu' Z' H2 (.ref D) (x1.trans (k' mu1 Z1 H1 x2 hD)) r' w'
    · cases e3
section
variable {X : Cx} {cm : Cm}
variable {c : Bool} {ek ev tg iter : Expr} {ifs : List Expr} {scope : Scope} {own : List (Str × Nat)} {own' : List Nat} {pos : Pos} {fi : FI} {src : List DE} {cd : Option DE} {mk mv : DE} {tgm : DT}
theorem q_dcomp (hc : X.calm = true) (hN : X.N.Nodup) (hi : QI X cm tg iter fi src) (ok : BlkOk X.N X.env.scope scope own) (ho : ∀ i ∈ own', i ∈ own.map (·.2))
    (hg : ∀ (s : Shared) (H : Hp) (C : Addr) (cl : List (Str × Addr)) (fp : List Addr), QG (X.blk s H scope (compEnvC scope cl C X.env) fp) cm own' tg tgm)
    (ht : ∀ (s : Shared) (H : Hp) (C : Addr) (cl : List (Str × Addr)) (fp : List Addr), QC (X.blk s H scope (compEnvC scope cl C X.env) fp) cm ifs cd)
    (hk : ∀ (s : Shared) (H : Hp) (C : Addr) (cl : List (Str × Addr)) (fp : List Addr), QE (X.blk s H scope (compEnvC scope cl C X.env) fp) cm ek mk)
    (he : ∀ (s : Shared) (H : Hp) (C : Addr) (cl : List (Str × Addr)) (fp : List Addr), QE (X.blk s H scope (compEnvC scope cl C X.env) fp) cm ev mv) (hs : ∀ x, foldedSetIterable iter X.env x = pure x) :
    QE X cm (.DictComp ek ev [⟨tg, iter, ifs, 0⟩] scope pos) (eDc c (own.map (·.2)) tgm fi src cd mk mv) :=
  PE.wk (pe_dc (tk := tO X.K cm mk) (tv := tO X.K cm mv) (g := tOG X.K cm own' tgm) (tt := tCd X.K cm cd) hc hN hi ok hg (fun s H C cl fp => (ht s H C cl fp).pts) hk he hs) fun σ H Q q => tDc_of ho σ H Q q
theorem qs_setDc {i : Nat} {y : Str} {py spos : Pos} (hc : X.calm = true) (hN : X.N.Nodup) (hy : X.N[i]? = some y) (hyl : X.env.scope.names.lookup y = some .local)
    (hsw : swapsWith (.DictComp ek ev [⟨tg, iter, ifs, 0⟩] scope pos) (some (.Name y py)) spos.line X.env = pure true) (hi : QI X cm tg iter fi src) (ok : BlkOk X.N X.env.scope scope own) (ho : ∀ i ∈ own', i ∈ own.map (·.2))
    (hg : ∀ (s : Shared) (H : Hp) (C : Addr) (cl : List (Str × Addr)) (fp : List Addr), QG (X.blk s H scope (compEnvC scope cl C X.env) fp) cm own' tg tgm)
    (ht : ∀ (s : Shared) (H : Hp) (C : Addr) (cl : List (Str × Addr)) (fp : List Addr), QC (X.blk s H scope (compEnvC scope cl C X.env) fp) cm ifs cd)
    (hk : ∀ (s : Shared) (H : Hp) (C : Addr) (cl : List (Str × Addr)) (fp : List Addr), QE (X.blk s H scope (compEnvC scope cl C X.env) fp) cm ek mk)
    (he : ∀ (s : Shared) (H : Hp) (C : Addr) (cl : List (Str × Addr)) (fp : List Addr), QE (X.blk s H scope (compEnvC scope cl C X.env) fp) cm ev mv) (hs : ∀ x, foldedSetIterable iter X.env x = pure x) :
    QS X cm (.Assign [.Name y py] (.DictComp ek ev [⟨tg, iter, ifs, 0⟩] scope pos) spos) (sAsg (tN i) (eDc c (own.map (·.2)) tgm fi src cd mk mv)) := by
  refine PS.wk (L2.ps_setDc (tk := tO X.K cm mk) (tv := tO X.K cm mv) (g := tOG X.K cm own' tgm) (tt := tCd X.K cm cd) hc hN hy hyl hsw hi ok hg (fun s H C cl fp => (ht s H C cl fp).pts) hk he hs) fun D σ H q => ?_
  obtain ⟨mu, Z, ρ, h, f, ρ', h', rl, s, e, p⟩ := q
  obtain ⟨q, e1, e⟩ := Res.bind_eq_ok e
  obtain ⟨q2, e2, e⟩ := Res.bind_eq_ok e
  cases e
  cases e2
  exact tDc_of ho σ H _ ⟨mu, Z, ρ, h, q.1, q.2, rl, s, e1, fun mu1 Z1 H1 v1 x1 r1 w1 => p _ _ _ x1 r1 _ ((s.ext x1).set i w1)⟩
end
end Ti


namespace Ti
open PySem PySem.Spec PyProof.Rows L2
def inG (own1 : List Nat) (tg1 : DT) (fi1 : FI) (src1 : List DE) (cd1 : Option DE) (elt : DE) (ρ : Env) (acc : List W) (h : Hh) : Res (List W × Hh) :=
  (eL src1 ρ h).bind fun p => (ofO (fi1 p.1 p.2)).bind fun s => compG s.keep own1 tg1 cd1 elt ρ s.items acc p.2
def compG2 (keep : Hh → Bool) (own : List Nat) (tg : DT) (cd : Option DE) (inn : Env → List W → Hh → Res (List W × Hh)) (ρ : Env) : List W → List W → Hh → Res (List W × Hh)
  | [], acc, h => if keep h then .ok (acc, h) else .bad
  | x :: xs, acc, h => if keep h then (tg x (wipeW ρ own) h).bind fun p =>
      (match cd with
        | none => (inn p.1 acc p.2).bind fun q => compG2 keep own tg cd inn ρ xs q.1 q.2
        | some c => (c p.1 p.2).bind fun t => (ofO (truthy t.2 t.1)).bind fun k => if k = true then
            (inn p.1 acc t.2).bind fun q => compG2 keep own tg cd inn ρ xs q.1 q.2
          else compG2 keep own tg cd inn ρ xs acc t.2)
    else .bad
def eComp2 (c : Bool) (own : List Nat) (tg : DT) (fi : FI) (src : List DE) (cd : Option DE) (inn : Env → List W → Hh → Res (List W × Hh)) : DE := fun ρ h =>
  (eL src ρ h).bind fun p => (ofO (fi p.1 p.2)).bind fun s => (compG2 s.keep own tg cd inn ρ s.items [] p.2).bind fun q => mkL c q.1 q.2
section
variable {K : PySem.W.Frag} {cm : Cm} {D : Addr}
theorem Exw.sideR {mu mu1 : List Addr} {Z H Z1 H1 : Hp} {vs vs' : List V} (x : Exw mu Z H mu1 Z1 H1) (hD : H1 D = some (.lst vs)) : Exw mu Z H mu1 Z1 (L2.upd H1 D (.lst vs')) :=
  ⟨x.m, x.z, fun a o u e => by
    have q := x.fz a o u e
    rw [upd_ne (show a ≠ D from fun z => by rw [z, hD] at q; cases q)]
    exact q⟩
theorem inner_of {own1 own1' : List Nat} {tg1 : DT} {fi1 : FI} {src1 : List DE} {cd1 : Option DE} {elt : DE} (ho1 : ∀ i ∈ own1', i ∈ own1) {mu1 : List Addr} {Z1 H1 : Hp} (hD : H1 D = none)
    {mu3 : List Addr} {Z3 H3 : Hp} {h3 : Hh} {ρ2 : Env} {σ2 : L2.St} {acc : List W} {accV : List V} {q5 : List W × Hh} {Nx : Hp → Prop} (x13 : Ext mu1 Z1 H1 mu3 Z3 H3) (r3 : RelH K cm mu3 Z3 H3 h3) (s3 : Sl K cm mu3 Z3 ρ2 σ2)
    (hm : D ∉ mu3) (hz : Z3 D = none) (hDD : H3 D = some (.lst accV)) (wa : RWs K cm mu3 Z3 acc accV) (e : inG own1 tg1 fi1 src1 cd1 elt ρ2 acc h3 = .ok q5)
    (hNx : ∀ mu' Z' H' accV', Ext mu1 Z1 H1 mu' Z' H' → Exw mu3 Z3 H3 mu' Z' H' → RelH K cm mu' Z' H' q5.2 → D ∉ mu' → Z' D = none → H' D = some (.lst accV') → RWs K cm mu' Z' q5.1 accV' → Nx H') :
    tOI K cm fi1 src1 σ2 H3 fun J1 H4 => ∃ W1 : Nat → Nat → Hp → Prop, (∃ m, W1 0 m H4) ∧ ∀ j k H, W1 j k H →
      (J1.stop j H ∧ Nx H) ∨ (J1.go j H ∧ ∃ Nx1 : Hp → Prop, (∀ H', Nx1 H' → ∃ k', k' < k ∧ W1 (j + 1) k' H') ∧ ∀ x H', J1.yld j H x H' → tOG K cm own1' tg1 x (wipe σ2 own1) H' fun σ3 H5 => wipe σ3 own1 = wipe σ2 own1 ∧ tCd K cm cd1 σ3 H5 fun b H6 =>
        if b = true then tO K cm elt σ3 H6 fun y H7 => ∃ acc, H7 D = some (.lst acc) ∧ acc.length < sizeLine ∧ Nx1 (L2.upd H7 D (.lst (acc ++ [y]))) else Nx1 H6) := by
  obtain ⟨q, e1, e⟩ := Res.bind_eq_ok e
  obtain ⟨sr, e2, e3⟩ := Res.bind_eq_ok e
  refine ⟨mu3, Z3, ρ2, h3, q, sr, r3, s3, e1, ofO_eq_ok e2, fun mu4 Z4 H4 J x34 r4 hW => ?_⟩
  obtain ⟨G, Y, wk, hG, hY⟩ := hW
  have k4 := x34.keepS hm hz hDD
  refine ⟨fun i n H => n = sr.items.length - i ∧ i ≤ sr.items.length ∧ ∃ mu2 Z2 h2 acc accV, Ext mu1 Z1 H1 mu2 Z2 H ∧ Exw mu4 Z4 H4 mu2 Z2 H ∧ RelH K cm mu2 Z2 H h2 ∧ D ∉ mu2 ∧ Z2 D = none ∧ H D = some (.lst accV) ∧ RWs K cm mu2 Z2 acc accV ∧
      compG sr.keep own1 tg1 cd1 elt ρ2 (sr.items.drop i) acc h2 = .ok q5,
    ⟨sr.items.length, rfl, Nat.zero_le _, mu4, Z4, q.2, acc, accV, x13.trans x34, Ext.refl.w, r4, k4.1, k4.2.1, k4.2.2, wa.mono x34.z x34.m, e3⟩, ?_⟩
  rintro i n H2 ⟨rfl, hi, mu2, Z2, h2, acc, accV, x2, y2, r2, hm, hz, hDD, wa, e3⟩
  by_cases hlt : i < sr.items.length
  · rw [List.drop_eq_getElem_cons hlt] at e3
    have e3 : (if sr.keep h2 = true then (tg1 sr.items[i] (wipeW ρ2 own1) h2).bind fun p =>
      (match cd1 with
        | none => (elt p.1 p.2).bind fun q => if acc.length < lineW then compG sr.keep own1 tg1 cd1 elt ρ2 (sr.items.drop (i + 1)) (acc ++ [q.1]) q.2 else .bad
        | some c => (c p.1 p.2).bind fun q => (ofO (truthy q.2 q.1)).bind fun k => if k = true then
            (elt p.1 q.2).bind fun r => if acc.length < lineW then compG sr.keep own1 tg1 cd1 elt ρ2 (sr.items.drop (i + 1)) (acc ++ [r.1]) r.2 else .bad
          else compG sr.keep own1 tg1 cd1 elt ρ2 (sr.items.drop (i + 1)) acc q.2)
      else .bad) = .ok q5 := e3
    split at e3
    · rename_i hk
      obtain ⟨q3, e4, e3⟩ := Res.bind_eq_ok e3
      refine .inr ⟨wk.goes i H2 hlt (hG mu2 Z2 H2 h2 y2 r2 hk), fun H' => i + 1 ≤ sr.items.length ∧ ∃ mu2 Z2 h2 acc accV, Ext mu1 Z1 H1 mu2 Z2 H' ∧ Exw mu4 Z4 H4 mu2 Z2 H' ∧ RelH K cm mu2 Z2 H' h2 ∧ D ∉ mu2 ∧ Z2 D = none ∧ H' D = some (.lst accV) ∧ RWs K cm mu2 Z2 acc accV ∧
          compG sr.keep own1 tg1 cd1 elt ρ2 (sr.items.drop (i + 1)) acc h2 = .ok q5, fun H' z => ⟨sr.items.length - (i + 1), by omega, rfl, z.1, z.2⟩, fun x H3' y => ?_⟩
      obtain ⟨w3, Z5, e5, x3, r5, w3q⟩ := hY i mu2 Z2 H2 h2 x H3' y2 r2 hk (wk.yields i H2 x H3' hlt (hG mu2 Z2 H2 h2 y2 r2 hk) y)
      rw [List.getElem?_eq_getElem hlt] at e5
      cases e5
      have x15 := x2.trans x3
      have y45 := y2.trans x3.w
      have s5 : Sl K cm mu2 Z5 ρ2 σ2 := by
        have y35 := x34.w.trans y45
        exact ⟨s3.len, fun i w e => by
          obtain ⟨v, a1, a2⟩ := s3.at_ i w e
          exact ⟨v, a1, a2.mono y35.z y35.m⟩⟩
      refine ⟨mu2, Z5, wipeW ρ2 own1, h2, sr.items[i], q3.1, q3.2, r5, wipeW_sl s5 own1, w3q, e4, fun mu6 Z6 H6 σ4 x6 r6 s6 b4 => ⟨?_, ?_⟩⟩
      · rw [b4 own1 ho1]
        exact wipe_twice σ2 own1
      have k5 := x3.keepS hm hz hDD
      have k6 := x6.keepS k5.1 k5.2.1 k5.2.2
      have x16 := x15.trans x6
      have y46 := y45.trans x6.w
      -- an item that is kept
      have step : ∀ (mu7 : List Addr) (Z7 H7 : Hp) (h7 : Hh), Ext mu6 Z6 H6 mu7 Z7 H7 → RelH K cm mu7 Z7 H7 h7 →
          ((elt q3.1 h7).bind fun r => if acc.length < lineW then compG sr.keep own1 tg1 cd1 elt ρ2 (sr.items.drop (i + 1)) (acc ++ [r.1]) r.2 else .bad) = .ok q5 →
          tO K cm elt σ4 H7 fun y H8 => ∃ acc, H8 D = some (.lst acc) ∧ acc.length < sizeLine ∧ (i + 1 ≤ sr.items.length ∧ ∃ mu2 Z2 h2 acc' accV, Ext mu1 Z1 H1 mu2 Z2 (L2.upd H8 D (.lst (acc ++ [y]))) ∧ Exw mu4 Z4 H4 mu2 Z2 (L2.upd H8 D (.lst (acc ++ [y]))) ∧ RelH K cm mu2 Z2 (L2.upd H8 D (.lst (acc ++ [y]))) h2 ∧ D ∉ mu2 ∧ Z2 D = none ∧ (L2.upd H8 D (.lst (acc ++ [y]))) D = some (.lst accV) ∧ RWs K cm mu2 Z2 acc' accV ∧
            compG sr.keep own1 tg1 cd1 elt ρ2 (sr.items.drop (i + 1)) acc' h2 = .ok q5) := by
        intro mu7 Z7 H7 h7 x67 r7 e6
        obtain ⟨r, e7, e6⟩ := Res.bind_eq_ok e6
        have k7 := x67.keepS k6.1 k6.2.1 k6.2.2
        split at e6
        · rename_i hl
          refine ⟨mu7, Z7, q3.1, h7, r.1, r.2, r7, s6.ext x67, e7, fun mu8 Z8 H8 v8 x8 r8 w8 => ?_⟩
          have k8 := x8.keepS k7.1 k7.2.1 k7.2.2
          have x68 := x67.trans x8
          refine ⟨accV, k8.2.2, by rw [wa.length]; exact hl, hlt, mu8, Z8, r.2, acc ++ [r.1], accV ++ [v8], (x16.trans x68).side hD, (y46.trans x68.w).sideR k8.2.2, r8.side k8.1 k8.2.1 (.some k8.2.2 (by exact ⟨fun _ z => (by cases z), fun _ z => (by cases z)⟩)), k8.1, k8.2.1, upd_same, ?_, e6⟩
          exact RWs.append (wa.mono (x3.z.trans (x6.z.trans x68.z)) fun i a k => x68.m i a (x6.m i a (x3.m i a k))) ⟨v8, [], rfl, w8, rfl⟩
        · cases e6
      cases cd1 with
      | none => exact step mu6 Z6 H6 q3.2 Ext.refl r6 e3
      | some mc =>
        obtain ⟨q6, e6, e3⟩ := Res.bind_eq_ok e3
        obtain ⟨k, e7, e3⟩ := Res.bind_eq_ok e3
        refine ⟨mu6, Z6, q3.1, q3.2, q6.1, q6.2, k, r6, s6, e6, ofO_eq_ok e7, fun mu7 Z7 H7 x7 r7 => ?_⟩
        cases k with
        | true => exact step mu7 Z7 H7 q6.2 x7 r7 e3
        | false =>
          have k7 := x7.keepS k6.1 k6.2.1 k6.2.2
          refine ⟨hlt, mu7, Z7, q6.2, acc, accV, x16.trans x7, y46.trans x7.w, r7, k7.1, k7.2.1, k7.2.2, ?_, e3⟩
          exact wa.mono (x3.z.trans (x6.z.trans x7.z)) fun i a k => x7.m i a (x6.m i a (x3.m i a k))
    · cases e3
  · have hi' : i = sr.items.length := by omega
    subst hi'
    rw [List.drop_length] at e3
    have e3 : (if sr.keep h2 = true then Res.ok (acc, h2) else .bad) = .ok q5 := e3
    split at e3
    · rename_i hk
      cases e3
      exact .inl ⟨wk.stops H2 (hG mu2 Z2 H2 _ y2 r2 hk), hNx mu2 Z2 H2 accV x2 (x34.w.trans y2) r2 hm hz hDD wa⟩
    · cases e3
end
theorem tLc2_of {K : PySem.W.Frag} {cm : Cm} {c : Bool} {own own' own1 own1' : List Nat} {tg tg1 : DT} {fi fi1 : FI} {src src1 : List DE} {cd cd1 : Option DE} {elt : DE} (ho : ∀ i ∈ own', i ∈ own) (ho1 : ∀ i ∈ own1', i ∈ own1) (σ : L2.St) (H : Hp) (Q : VK) (q : tO K cm (eComp2 c own tg fi src cd (inG own1 tg1 fi1 src1 cd1 elt)) σ H Q) :
    tLc2 (tOI K cm fi src) (tOG K cm own' tg) (tCd K cm cd) (tOI K cm fi1 src1) (tOG K cm own1' tg1) (tCd K cm cd1) (tO K cm elt) own own1 σ H Q := by
  obtain ⟨mu, Z, ρ, h, w, h', rl, s, e, f⟩ := q
  obtain ⟨q, e1, e⟩ := Res.bind_eq_ok e
  obtain ⟨sr, e2, e⟩ := Res.bind_eq_ok e
  obtain ⟨q5, e3, e⟩ := Res.bind_eq_ok e
  generalize hinn : inG own1 tg1 fi1 src1 cd1 elt = inn at e3
  refine ⟨mu, Z, ρ, h, q, sr, rl, s, e1, ofO_eq_ok e2, fun mu1 Z1 H1 J x1 r1 hW D hD => ?_⟩
  obtain ⟨G, Y, wk, hG, hY⟩ := hW
  refine ⟨fun i n H => n = sr.items.length - i ∧ i ≤ sr.items.length ∧ ∃ mu2 Z2 h2 acc accV, Ext mu1 Z1 H1 mu2 Z2 H ∧ RelH K cm mu2 Z2 H h2 ∧ D ∉ mu2 ∧ Z2 D = none ∧ H D = some (.lst accV) ∧ RWs K cm mu2 Z2 acc accV ∧
      compG2 sr.keep own tg cd inn ρ (sr.items.drop i) acc h2 = .ok q5,
    ⟨sr.items.length, rfl, Nat.zero_le _, mu1, Z1, q.2, [], [], Ext.refl.side hD, r1.side (r1.mfree hD) (r1.zfree hD) (.none hD), r1.mfree hD, r1.zfree hD, upd_same, rfl, e3⟩, ?_⟩
  rintro i n H2 ⟨rfl, hi, mu2, Z2, h2, acc, accV, x2, r2, hm, hz, hDD, wa, e3⟩
  by_cases hlt : i < sr.items.length
  · rw [List.drop_eq_getElem_cons hlt] at e3
    have e3 : (if sr.keep h2 = true then (tg sr.items[i] (wipeW ρ own) h2).bind fun p =>
      (match cd with
        | none => (inn p.1 acc p.2).bind fun q => compG2 sr.keep own tg cd inn ρ (sr.items.drop (i + 1)) q.1 q.2
        | some c => (c p.1 p.2).bind fun t => (ofO (truthy t.2 t.1)).bind fun k => if k = true then
            (inn p.1 acc t.2).bind fun q => compG2 sr.keep own tg cd inn ρ (sr.items.drop (i + 1)) q.1 q.2
          else compG2 sr.keep own tg cd inn ρ (sr.items.drop (i + 1)) acc t.2)
      else .bad) = .ok q5 := e3
    split at e3
    · rename_i hk
      obtain ⟨q3, e4, e3⟩ := Res.bind_eq_ok e3
      refine .inr ⟨wk.goes i H2 hlt (hG mu2 Z2 H2 h2 x2.w r2 hk), fun H' => i + 1 ≤ sr.items.length ∧ ∃ mu2 Z2 h2 acc accV, Ext mu1 Z1 H1 mu2 Z2 H' ∧ RelH K cm mu2 Z2 H' h2 ∧ D ∉ mu2 ∧ Z2 D = none ∧ H' D = some (.lst accV) ∧ RWs K cm mu2 Z2 acc accV ∧
          compG2 sr.keep own tg cd inn ρ (sr.items.drop (i + 1)) acc h2 = .ok q5, fun H' z => ⟨sr.items.length - (i + 1), by omega, rfl, z.1, z.2⟩, fun x H3 y => ?_⟩
      obtain ⟨w3, Z3, e5, x3, r3, w3q⟩ := hY i mu2 Z2 H2 h2 x H3 x2.w r2 hk (wk.yields i H2 x H3 hlt (hG mu2 Z2 H2 h2 x2.w r2 hk) y)
      rw [List.getElem?_eq_getElem hlt] at e5
      cases e5
      have x13 := x2.trans x3
      refine ⟨mu2, Z3, wipeW ρ own, h2, sr.items[i], q3.1, q3.2, r3, wipeW_sl (s.ext (x1.trans x13)) own, w3q, e4, fun mu4 Z4 H4 σ4 x4 r4 s4 b4 => ⟨?_, ?_⟩⟩
      · rw [b4 own ho]
        exact wipe_twice σ own
      have k3 := x3.keepS hm hz hDD
      have k4 := x4.keepS k3.1 k3.2.1 k3.2.2
      have x14 := x13.trans x4
      have wa4 : RWs K cm mu4 Z4 acc accV := wa.mono (x3.z.trans x4.z) fun i a k => x4.m i a (x3.m i a k)
      -- the inner clause
      have step : ∀ (mu6 : List Addr) (Z6 H6 : Hp) (h6 : Hh), Ext mu4 Z4 H4 mu6 Z6 H6 → RelH K cm mu6 Z6 H6 h6 →
          ((inn q3.1 acc h6).bind fun q => compG2 sr.keep own tg cd inn ρ (sr.items.drop (i + 1)) q.1 q.2) = .ok q5 →
          tOI K cm fi1 src1 σ4 H6 fun J1 H4 => ∃ W1 : Nat → Nat → Hp → Prop, (∃ m, W1 0 m H4) ∧ ∀ j k H, W1 j k H →
            (J1.stop j H ∧ (i + 1 ≤ sr.items.length ∧ ∃ mu2 Z2 h2 acc accV, Ext mu1 Z1 H1 mu2 Z2 H ∧ RelH K cm mu2 Z2 H h2 ∧ D ∉ mu2 ∧ Z2 D = none ∧ H D = some (.lst accV) ∧ RWs K cm mu2 Z2 acc accV ∧
          compG2 sr.keep own tg cd inn ρ (sr.items.drop (i + 1)) acc h2 = .ok q5)) ∨ (J1.go j H ∧ ∃ Nx1 : Hp → Prop, (∀ H', Nx1 H' → ∃ k', k' < k ∧ W1 (j + 1) k' H') ∧ ∀ x H', J1.yld j H x H' → tOG K cm own1' tg1 x (wipe σ4 own1) H' fun σ3 H5 => wipe σ3 own1 = wipe σ4 own1 ∧ tCd K cm cd1 σ3 H5 fun b H6 =>
        if b = true then tO K cm elt σ3 H6 fun y H7 => ∃ acc, H7 D = some (.lst acc) ∧ acc.length < sizeLine ∧ Nx1 (L2.upd H7 D (.lst (acc ++ [y]))) else Nx1 H6) := by
        intro mu6 Z6 H6 h6 x46 r6 e6
        obtain ⟨r, e7, e6⟩ := Res.bind_eq_ok e6
        have k6 := x46.keepS k4.1 k4.2.1 k4.2.2
        rw [← hinn] at e7
        exact inner_of (Nx := fun H => i + 1 ≤ sr.items.length ∧ ∃ mu2 Z2 h2 acc accV, Ext mu1 Z1 H1 mu2 Z2 H ∧ RelH K cm mu2 Z2 H h2 ∧ D ∉ mu2 ∧ Z2 D = none ∧ H D = some (.lst accV) ∧ RWs K cm mu2 Z2 acc accV ∧
          compG2 sr.keep own tg cd inn ρ (sr.items.drop (i + 1)) acc h2 = .ok q5) ho1 hD (x14.trans x46) r6 (s4.ext x46) k6.1 k6.2.1 k6.2.2 (wa4.mono x46.z x46.m) e7 fun mu' Z' H' accV' a1 a2 a3 a4 a5 a6 a7 => ⟨hlt, mu', Z', r.2, r.1, accV', a1, a3, a4, a5, a6, a7, e6⟩
      cases cd with
      | none => exact step mu4 Z4 H4 q3.2 Ext.refl r4 e3
      | some mc =>
        obtain ⟨q6, e6, e3⟩ := Res.bind_eq_ok e3
        obtain ⟨k, e7, e3⟩ := Res.bind_eq_ok e3
        refine ⟨mu4, Z4, q3.1, q3.2, q6.1, q6.2, k, r4, s4, e6, ofO_eq_ok e7, fun mu6 Z6 H6 x6 r6 => ?_⟩
        cases k with
        | true => exact step mu6 Z6 H6 q6.2 x6 r6 e3
        | false =>
          have k6 := x6.keepS k4.1 k4.2.1 k4.2.2
          exact ⟨hlt, mu6, Z6, q6.2, acc, accV, x14.trans x6, r6, k6.1, k6.2.1, k6.2.2, wa4.mono x6.z x6.m, e3⟩
    · cases e3
  · have hi' : i = sr.items.length := by omega
    subst hi'
    rw [List.drop_length] at e3
    have e3 : (if sr.keep h2 = true then Res.ok (acc, h2) else .bad) = .ok q5 := e3
    split at e3
    · rename_i hk
      cases e3
      refine .inl ⟨wk.stops H2 (hG mu2 Z2 H2 _ x2.w r2 hk), ?_⟩
      obtain ⟨mu', Z', r', w', k'⟩ := mkL_at r2 hm hz hDD wa e
      exact f mu' Z' H2 (.ref D) (x1.trans (k' mu1 Z1 H1 x2 hD)) r' w'
    · cases e3
section
variable {X : Cx} {cm : Cm}
variable {c : Bool} {elt tg iter tg1 iter1 : Expr} {ifs ifs1 : List Expr} {scope : Scope} {own : List (Str × Nat)} {own' own1 own1' : List Nat} {pos : Pos} {fi fi1 : FI} {src src1 : List DE} {cd cd1 : Option DE} {me : DE} {tgm tgm1 : DT}
theorem q_comp2 (hc : X.calm = true) (hN : X.N.Nodup) (hi : QI X cm tg iter fi src) (ok : BlkOk X.N X.env.scope scope own) (ho : ∀ i ∈ own', i ∈ own.map (·.2)) (ho1 : ∀ i ∈ own1', i ∈ own1) (hv : ∀ i ∈ own1, i ∈ own.map (·.2))
    (hg : ∀ (s : Shared) (H : Hp) (C : Addr) (cl : List (Str × Addr)) (fp : List Addr), QG (X.blk s H scope (compEnvC scope cl C X.env) fp) cm own' tg tgm)
    (ht : ∀ (s : Shared) (H : Hp) (C : Addr) (cl : List (Str × Addr)) (fp : List Addr), QC (X.blk s H scope (compEnvC scope cl C X.env) fp) cm ifs cd)
    (hi1 : ∀ (s : Shared) (H : Hp) (C : Addr) (cl : List (Str × Addr)) (fp : List Addr), QI (X.blk s H scope (compEnvC scope cl C X.env) fp) cm tg1 iter1 fi1 src1)
    (hg1 : ∀ (s : Shared) (H : Hp) (C : Addr) (cl : List (Str × Addr)) (fp : List Addr), QG (X.blk s H scope (compEnvC scope cl C X.env) fp) cm own1' tg1 tgm1)
    (ht1 : ∀ (s : Shared) (H : Hp) (C : Addr) (cl : List (Str × Addr)) (fp : List Addr), QC (X.blk s H scope (compEnvC scope cl C X.env) fp) cm ifs1 cd1)
    (he : ∀ (s : Shared) (H : Hp) (C : Addr) (cl : List (Str × Addr)) (fp : List Addr), QE (X.blk s H scope (compEnvC scope cl C X.env) fp) cm elt me) (hs : ∀ x, foldedSetIterable iter X.env x = pure x) (hs1 : ∀ env x, foldedSetIterable iter1 env x = pure x) :
    QE X cm (.ListComp elt [⟨tg, iter, ifs, 0⟩, ⟨tg1, iter1, ifs1, 0⟩] scope pos) (eComp2 c (own.map (·.2)) tgm fi src cd (inG own1 tgm1 fi1 src1 cd1 me)) :=
  PE.wk (pe_lc2 (vs1 := own1) (te := tO X.K cm me) (g := tOG X.K cm own' tgm) (g1 := tOG X.K cm own1' tgm1) (tt := tCd X.K cm cd) (tt1 := tCd X.K cm cd1) hc hN hi ok hv hg (fun s H C cl fp => (ht s H C cl fp).pts) hi1 hg1 (fun s H C cl fp => (ht1 s H C cl fp).pts) he hs hs1) fun σ H Q q => tLc2_of ho ho1 σ H Q q
theorem qs_setLc2 {i : Nat} {y : Str} {py spos : Pos} (hc : X.calm = true) (hN : X.N.Nodup) (hy : X.N[i]? = some y) (hyl : X.env.scope.names.lookup y = some .local)
    (hsw : swapsWith (.ListComp elt [⟨tg, iter, ifs, 0⟩, ⟨tg1, iter1, ifs1, 0⟩] scope pos) (some (.Name y py)) spos.line X.env = pure true) (hi : QI X cm tg iter fi src) (ok : BlkOk X.N X.env.scope scope own) (ho : ∀ i ∈ own', i ∈ own.map (·.2)) (ho1 : ∀ i ∈ own1', i ∈ own1) (hv : ∀ i ∈ own1, i ∈ own.map (·.2))
    (hg : ∀ (s : Shared) (H : Hp) (C : Addr) (cl : List (Str × Addr)) (fp : List Addr), QG (X.blk s H scope (compEnvC scope cl C X.env) fp) cm own' tg tgm)
    (ht : ∀ (s : Shared) (H : Hp) (C : Addr) (cl : List (Str × Addr)) (fp : List Addr), QC (X.blk s H scope (compEnvC scope cl C X.env) fp) cm ifs cd)
    (hi1 : ∀ (s : Shared) (H : Hp) (C : Addr) (cl : List (Str × Addr)) (fp : List Addr), QI (X.blk s H scope (compEnvC scope cl C X.env) fp) cm tg1 iter1 fi1 src1)
    (hg1 : ∀ (s : Shared) (H : Hp) (C : Addr) (cl : List (Str × Addr)) (fp : List Addr), QG (X.blk s H scope (compEnvC scope cl C X.env) fp) cm own1' tg1 tgm1)
    (ht1 : ∀ (s : Shared) (H : Hp) (C : Addr) (cl : List (Str × Addr)) (fp : List Addr), QC (X.blk s H scope (compEnvC scope cl C X.env) fp) cm ifs1 cd1)
    (he : ∀ (s : Shared) (H : Hp) (C : Addr) (cl : List (Str × Addr)) (fp : List Addr), QE (X.blk s H scope (compEnvC scope cl C X.env) fp) cm elt me) (hs : ∀ x, foldedSetIterable iter X.env x = pure x) (hs1 : ∀ env x, foldedSetIterable iter1 env x = pure x) :
    QS X cm (.Assign [.Name y py] (.ListComp elt [⟨tg, iter, ifs, 0⟩, ⟨tg1, iter1, ifs1, 0⟩] scope pos) spos) (sAsg (tN i) (eComp2 c (own.map (·.2)) tgm fi src cd (inG own1 tgm1 fi1 src1 cd1 me))) := by
  refine PS.wk (ps_setLc2 (vs1 := own1) (wi1 := tOI X.K cm fi1 src1) (te := tO X.K cm me) (g := tOG X.K cm own' tgm) (g1 := tOG X.K cm own1' tgm1) (tt := tCd X.K cm cd) (tt1 := tCd X.K cm cd1) hc hN hy hyl hsw hi ok hv hg (fun s H C cl fp => (ht s H C cl fp).pts) hi1 hg1 (fun s H C cl fp => (ht1 s H C cl fp).pts) he hs hs1) fun D σ H q => ?_
  obtain ⟨mu, Z, ρ, h, f, ρ', h', rl, s, e, p⟩ := q
  obtain ⟨q, e1, e⟩ := Res.bind_eq_ok e
  obtain ⟨q2, e2, e⟩ := Res.bind_eq_ok e
  cases e
  cases e2
  exact tLc2_of ho ho1 σ H _ ⟨mu, Z, ρ, h, q.1, q.2, rl, s, e1, fun mu1 Z1 H1 v1 x1 r1 w1 => p _ _ _ x1 r1 _ ((s.ext x1).set i w1)⟩
end
end Ti


namespace Ti
open PySem PySem.Spec PyProof.Rows L2

def objOf (h : Hh) : W → Option (Nat × List (Str × W))
  | .obj c fs => some (c, fs)
  | .ref i => match h[i]? with
    | some (.obj c fs) => some (c, fs)
    | some (.frz (.obj c fs)) => some (c, fs)
    | _ => none
  | _ => none
def pFld (cs : List Nat) (f : Str) : F1 := fun x h => match objOf h x with
  | some (c, fs) => if c ∈ cs then (match fs.lookup f with | some w => .ok (w, h) | none => .bad) else .bad
  | none => .bad
def putW (f : Str) (y : W) : List (Str × W) → List (Str × W)
  | [] => [(f, y)]
  | (g, x) :: r => if g = f then (g, y) :: r else (g, x) :: putW f y r
def pSetF (cs : List Nat) (f : Str) : F2 := fun o y h => match o with
  | .ref i => match h[i]? with
    | some (.obj c fs) => if c ∈ cs ∧ nor y = true ∧ fs.length < 1000 then .ok (.non, h.set i (.obj c (putW f y fs))) else .bad
    | _ => .bad
  | _ => .bad
def sSetF (g : F2) (o y : DE) : DS := fun ρ h => (y ρ h).bind fun p => (o ρ p.2).bind fun q => (g q.1 p.1 q.2).bind fun r => .ok (.nx, ρ, r.2)
def mkObj (c : Nat) (f : Fn) : Fn := fun ws h => (f (.ref h.length :: ws) (h ++ [.obj c []])).bind fun q => match q.1 with
  | .non => .ok (.ref h.length, q.2)
  | _ => .bad
def isOf (c : Nat) (h : Hh) (w : W) : Bool := match objOf h w with
  | some (c', _) => c' == c
  | none => false
def lacks (m : Str) (h : Hh) (w : W) : Bool := match objOf h w with
  | some (_, fs) => (fs.lookup m).isNone
  | none => false
def eMet (c : Nat) (m : Str) (f : Fn) (o : DE) (es : List DE) : DE := fun ρ h => (o ρ h).bind fun p => if isOf c p.2 p.1 && lacks m p.2 p.1 then (eL es ρ p.2).bind fun q => f (p.1 :: q.1) q.2 else .bad
def eCallO (c : Nat) (f : Fn) (o : DE) (es : List DE) : DE := fun ρ h => (o ρ h).bind fun p => (eL es ρ p.2).bind fun q => if isOf c q.2 p.1 then f (p.1 :: q.1) q.2 else .bad

def pIsiC (c : Nat) : F1 := fun x h => match objOf h x with
  | some (c', _) => if c' = c then .ok (.bl true, h) else .bad
  | none => (match kindW h x with
    | some _ => .ok (.bl false, h)
    | none => .bad)
def allKd : List Kd := [.non, .bool, .int, .str, .list, .tuple, .dict]
theorem mem_allKd (t : Kd) : t ∈ allKd := by cases t <;> simp [allKd]
structure IsiC (K : PySem.W.Frag) (C : Addr) : Prop where
  cl : Cls K C
  no : ∀ t : Kd, PySem.W.kitOne K (.type t.name) (.ref C) = some false
  yes : PySem.W.kitOne K (.ref C) (.ref C) = some true
  ha : PySem.W.findIn K (.ref C) "__class__" = some (some (.builtin "object.__class__"))
  hn : PySem.W.specialIn K (.builtin "object.__class__") "__get__" = some (some (.builtin "getset_descriptor.__get__"))
  tk : PySem.W.takesIn K (.builtin "object.__class__") = some true
  hm : PySem.W.mroIn K C (.type "object") = some true
section
variable {K : PySem.W.Frag} {cm : Cm} {mu : List Addr} {Z H : Hp} {h : Hh}
theorem obj_at (r : RelH K cm mu Z H h) {x : W} {v : V} (q : RW K cm mu Z x v) {c : Nat} {fs : List (Str × W)} (e : objOf h x = some (c, fs)) :
    ∃ a dx fvs, v = .ref a ∧ H a = some (.ins (cm c) dx ((fs.map (·.1)).zip fvs)) ∧ RWf K cm mu Z fs fvs := by
  have ofZ : ∀ {a : Addr} {dx : Addr} {fvs : List V}, Z a = some (.ins (cm c) dx ((fs.map (·.1)).zip fvs)) → H a = some (.ins (cm c) dx ((fs.map (·.1)).zip fvs)) := fun {a dx fvs} z => r.zh a _ z
  cases x with
  | obj c' fs' =>
    cases e
    obtain ⟨a, dx, fvs, e1, z, k⟩ := q
    exact ⟨a, dx, fvs, e1, ofZ z, k⟩
  | ref i =>
    obtain ⟨a, e1, hm⟩ := q
    cases hc : h[i]? with
    | none =>
      simp only [objOf, hc] at e
      cases e
    | some cl =>
      have := r.cell i a cl hm hc
      cases cl with
      | obj c' fs' =>
        simp only [objOf, hc] at e
        cases e
        obtain ⟨z, n, dx, fvs, ha, k⟩ := this
        exact ⟨a, dx, fvs, e1, ha, RWf.any n k⟩
      | frz w =>
        cases w with
        | obj c' fs' =>
          simp only [objOf, hc] at e
          cases e
          obtain ⟨n, k⟩ := this
          obtain ⟨a', dx, fvs, ea, z, k⟩ := k
          cases ea
          exact ⟨a, dx, fvs, e1, ofZ z, RWf.any (show norF fs = true from n) k⟩
        | _ =>
          simp only [objOf, hc] at e
          cases e
      | _ =>
        simp only [objOf, hc] at e
        cases e
  | _ => cases e
theorem fld_lookup {f : Str} : ∀ {fs : List (Str × W)} {fvs : List V}, RWf K cm mu Z fs fvs → (∀ w, fs.lookup f = some w → ∃ v, ((fs.map (·.1)).zip fvs).lookup f = some v ∧ RW K cm mu Z w v) ∧ (fs.lookup f = none → ((fs.map (·.1)).zip fvs).lookup f = none)
  | [], fvs, h => ⟨fun w e => (by cases e), fun _ => rfl⟩
  | (g, x) :: r, _, h => by
    obtain ⟨v, vs, rfl, h1, h2⟩ := h
    have ih := fld_lookup (f := f) h2
    refine ⟨fun w e => ?_, fun e => ?_⟩
    · simp only [List.map_cons, List.zip_cons_cons, List.lookup_cons] at e ⊢
      cases hx : f == g with
      | true =>
        rw [hx] at e
        cases e
        exact ⟨v, rfl, h1⟩
      | false =>
        rw [hx] at e
        exact ih.1 w e
    · simp only [List.map_cons, List.zip_cons_cons, List.lookup_cons] at e ⊢
      cases hx : f == g with
      | true =>
        rw [hx] at e
        cases e
      | false =>
        rw [hx] at e
        exact ih.2 e
theorem RWf.length : ∀ {fs : List (Str × W)} {fvs : List V}, RWf K cm mu Z fs fvs → fvs.length = fs.length
  | [], fvs, h => by
    have h : fvs = [] := h
    rw [h] <;> rfl
  | (g, x) :: r, _, h => by
    obtain ⟨v, vs, rfl, h1, h2⟩ := h
    rw [List.length_cons, List.length_cons, RWf.length h2]
theorem put_rel {f : Str} {y : W} {v : V} (q : RW K cm mu Z y v) : ∀ {fs : List (Str × W)} {fvs : List V}, RWf K cm mu Z fs fvs → ∃ fvs', putF f v ((fs.map (·.1)).zip fvs) = ((putW f y fs).map (·.1)).zip fvs' ∧ RWf K cm mu Z (putW f y fs) fvs'
  | [], fvs, h => by
    have h : fvs = [] := h
    subst h
    exact ⟨[v], rfl, v, [], rfl, q, rfl⟩
  | (g, x) :: r, _, h => by
    obtain ⟨u, vs, rfl, h1, h2⟩ := h
    simp only [List.map_cons, List.zip_cons_cons, putF, putW]
    by_cases hg : g = f
    · rw [if_pos hg, if_pos hg]
      exact ⟨v :: vs, rfl, v, vs, rfl, q, h2⟩
    · rw [if_neg hg, if_neg hg]
      obtain ⟨fvs', e, k⟩ := put_rel q (f := f) h2
      rw [e]
      exact ⟨u :: fvs', rfl, u, fvs', rfl, h1, k⟩
theorem norF_put {f : Str} {y : W} (n : nor y = true) : ∀ {fs : List (Str × W)}, norF fs = true → norF (putW f y fs) = true
  | [], _ => by
    show (nor y && norF []) = true
    rw [n]
    rfl
  | (g, x) :: r, h => by
    have h : (nor x && norF r) = true := h
    rw [Bool.and_eq_true] at h
    unfold putW
    split
    · show (nor y && norF r) = true
      rw [n, h.2]
      rfl
    · show (nor x && norF (putW f y r)) = true
      rw [h.1, norF_put n h.2]
      rfl
theorem RelH.newO (r : RelH K cm mu Z H h) {p : Addr} {o : HO} (e : H p = none) : RelH K cm mu Z (L2.upd H p o) h ∧ Ext mu Z H mu Z (L2.upd H p o) := by
  have ne : ∀ {a : Addr} {u : HO}, H a = some u → a ≠ p := fun {a u} q z => by rw [z, e] at q; cases q
  refine ⟨⟨r.len, r.nd, fun a u q => ?_, fun a ha => ?_, fun i a c hm hc => ?_, r.tb.upd (.none e) fun h => absurd h (r.mfree e)⟩, fun _ _ q => q, Le.refl Z, fun a u _ _ q _ => ?_, fun a u _ q => ?_, fun a ha => .inl ha, fun a ha => .inl ha, fun a o' u q => ?_⟩
  · obtain ⟨o', q2⟩ := (r.zh a u q).some
    exact (r.zh a u q).upd (ne q2)
  · cases q : H a with
    | none => exact absurd q (r.mh a ha)
    | some u => rw [upd_ne (ne q), q]; exact fun z => nomatch z
  · have ap : a ≠ p := fun z => r.mh a (List.mem_of_getElem? hm) (by rw [z]; exact e)
    exact (r.cell i a c hm hc).mono (Le.refl Z) (fun z => z) fun u _ q => by rw [upd_ne ap]; exact q
  · rw [upd_ne (ne q)]; exact q
  · rw [upd_ne (ne q), q]; exact fun z => nomatch z
  · rw [upd_ne (ne q)]; exact q
end

theorem methTree {o : Expr} {m : Str} {es : List Expr} {apos pos : Pos} {env : PySem.Env} (hb : attributeBase o m env (eval o env) = eval o env)
    (hf : ((backTo pos (starEach es env)).all (fun x => !x.1) && (backToKw pos (keywordEach [] env)).all (fun x => x.1.isSome) && decide (es.length + ([] : List Keyword).length + (if ([] : List Keyword).isEmpty then 0 else 1) < 30)) = true)
    (hl : (apos.endLine == pos.line) = true) : eval (.Call (.Attribute o m apos) es [] pos) env = (do
      let ov ← eval o env
      standAt apos.atName
      let (f, first) ← holding [ov] (getMethod ov m (do return (← importBound o env).getD true))
      callWith pos f first (backTo pos (starEach es env)) (backToKw pos (keywordEach [] env))) := by
  refine mcall_of hb fun ov => ?_
  have hf : methodCallForm (es.length + ([] : List Keyword).length) (backTo pos (starEach es env)) (backToKw pos (keywordEach [] env)) = true := hf
  unfold methodCall calleeOf methodCallPos
  rw [hf, hl]
  rfl
theorem methTree0 {o : Expr} {m : Str} {apos pos : Pos} {env : PySem.Env} (hb : attributeBase o m env (eval o env) = eval o env) (hl : (apos.endLine == pos.line) = true) : eval (.Call (.Attribute o m apos) [] [] pos) env = (do
      let ov ← eval o env
      standAt apos.atName
      let (f, first) ← holding [ov] (getMethod ov m (do return (← importBound o env).getD true))
      callWith pos f first (backTo pos (starEach [] env)) (backToKw pos (keywordEach [] env))) := methTree hb rfl hl

section
variable {X : Cx} {CX : CXT} {k : Nat} {f C : Addr} {fd : FuncData} {ps : List Str} {sp : Sp} {dvs : List V} {ds : List Value} {E : XK} {x m : Str} {p pos apos : Pos} {e o fe : Expr} {es : List Expr} {te ta tf : TE} {t : TA}
theorem run_GB {pins : List (Addr × Obj)} {σ : L2.St} {H : Hp} {s : Shared} {Q : VK} {us : List Value} {vs : List V} (F : FnG X.prog X.w X.K X.mg X.base CX k f fd ps sp) (hr : Room k X.A) (gd : X.A.guards = some []) (hb : Binds X.K fd ps ds) (hd : Vals dvs ds) (hx : Passes CX X E)
    (I : Inv X pins σ H s) (r : Vals vs us) (h : sp (vs ++ dvs) H Q E) : wpAny (model X.prog X.w) X.A (call (.ref f) us) (EP X pins σ Q) X.xe s := by
  have r2 : Vals (vs ++ dvs) (us ++ ds) := r.append hd
  have hl : (us ++ ds).length = ps.length := r2.length.symm.trans (F.len _ _ _ _ h)
  exact run_G (args := ⟨us, []⟩) F hr gd (hb s us I.kIn hl) r2 hx I h
theorem pe_methG {pl : Sem Bool} (he : PE X o ta) (c : Cls X.K C) (hm : Meth X.K C m f) (F : FnG X.prog X.w X.K X.mg X.base CX k f fd ps sp) (hr : Room k X.A) (gd : X.A.guards = some []) (hb : Binds X.K fd ps ds) (hd : Vals dvs ds) (hx : Passes CX X E) (ha : PA X (e :: es) t)
    (hst : starEach (e :: es) X.env = (false, eval e X.env) :: starEach es X.env) (hpl : (backTo pos (starEach es X.env)).any (·.1) = false)
    (ht : eval (.Call (.Attribute o m apos) (e :: es) [] pos) X.env = (do
      let ov ← eval o X.env
      standAt apos.atName
      let (f, first) ← holding [ov] (getMethod ov m pl)
      callWith pos f first (backTo pos (starEach (e :: es) X.env)) (backToKw pos (keywordEach [] X.env)))) :
    PE X (.Call (.Attribute o m apos) (e :: es) [] pos) (tMeth C m sp dvs E ta t) := by
  refine ⟨fun pins s σ H Q I h => ?_⟩
  refine PySem.W.methodCall_KW (pl := pl) (thn (he.run pins s σ H _ I h) fun u s1 ⟨x, H1, I1, rx, a, dx, fs, ex, ea, l, q⟩ => ?_) ht
  subst ex
  obtain rfl : u = Value.ref a := rx
  refine getmeth_ok I1 ea c hm l ?_
  refine PySem.W.callWith_K (first := [.ref a]) (h₀ := X.base) I.ok.mod.kin hm.kp (thn (ha.run pos pins s1 σ H1 _ I1 q) fun us s2 ⟨vs, H2, I2, r, q2⟩ => ⟨I2.kIn, ?_⟩) hst hpl
  exact run_GB (us := .ref a :: us) (vs := .ref a :: vs) F hr gd hb hd hx I2 (.cons rfl r) q2
theorem pe_meth0G {pl : Sem Bool} (he : PE X o ta) (c : Cls X.K C) (hm : Meth X.K C m f) (F : FnG X.prog X.w X.K X.mg X.base CX k f fd ps sp) (hr : Room k X.A) (gd : X.A.guards = some []) (hb : Binds X.K fd ps ds) (hd : Vals dvs ds) (hx : Passes CX X E)
    (ht : eval (.Call (.Attribute o m apos) [] [] pos) X.env = (do
      let ov ← eval o X.env
      standAt apos.atName
      let (f, first) ← holding [ov] (getMethod ov m pl)
      callWith pos f first (backTo pos (starEach [] X.env)) (backToKw pos (keywordEach [] X.env)))) :
    PE X (.Call (.Attribute o m apos) [] [] pos) (tMeth C m sp dvs E ta tNil) := by
  refine ⟨fun pins s σ H Q I h => ?_⟩
  refine PySem.W.methodCall_KW (pl := pl) (thn (he.run pins s σ H _ I h) fun u s1 ⟨x, H1, I1, rx, a, dx, fs, ex, ea, l, q⟩ => ?_) ht
  subst ex
  obtain rfl : u = Value.ref a := rx
  refine getmeth_ok I1 ea c hm l ?_
  exact PySem.W.callWith_K0 (first := [.ref a]) I1.kIn hm.kp (run_GB (us := [.ref a]) (vs := [.ref a]) F hr gd hb hd hx I1 (.cons rfl .nil) q)
theorem make_guards {A : Around} {C : Addr} {us : List Value} {kw : List (Str × Value)} : (A.under (.builtin "type.__call__" ⟨.ref C :: us, kw⟩)).guards = A.guards := by
  first | rfl | simp [Around.under, Code.weight, Code.isCreation, Code.isGuard, Code.isCaller, Code.frames, Code.isFrame, guardIds]
theorem run_makeG {pins : List (Addr × Obj)} {σ : L2.St} {H : Hp} {s : Shared} {Q : VK} {us : List Value} {vs : List V} (M : Mk X.K C f) (F : FnG X.prog X.w X.K X.mg X.base CX k f fd ps sp) (hr : Room (k + 1) X.A) (gd : X.A.guards = some []) (hb : Binds X.K fd ps ds) (hd : Vals dvs ds)
    (hx : Passes CX X E) (I : Inv X pins σ H s) (r : Vals vs us)
    (h : ∀ x dx, H x = none → H dx = none → dx ≠ x → sp (.ref x :: (vs ++ dvs)) (upd (upd H dx (.own x)) x (.ins C dx [])) (fun v H2 => v = .non ∧ Q (.ref x) H2) E) :
    wpAny (model X.prog X.w) X.A (call (.ref C) us) (EP X pins σ Q) X.xe s := by
  have hq := h (s.heap.objs.size + 1) s.heap.objs.size (I.hok.fresh (Nat.le_succ _)) (I.hok.fresh (Nat.le_refl _)) (Nat.ne_of_lt (Nat.lt_succ_self _))
  have I2 := Inv.made (C := C) I
  have r2 : Vals (V.ref (s.heap.objs.size + 1) :: (vs ++ dvs)) (Value.ref (s.heap.objs.size + 1) :: (us ++ ds)) := .cons rfl (r.append hd)
  have hl : (Value.ref (s.heap.objs.size + 1) :: us ++ ds).length = ps.length := by
    have e := r2.length
    rw [F.len _ _ _ _ hq] at e
    exact e.symm
  refine wpAny_call (make_map (f := f) I.kIn M.makes M.init (beq_iff_eq.mp M.fn) (codeAny_mono (F.run _ X.stack _ _ ⟨Value.ref (s.heap.objs.size + 1) :: us, []⟩ (Value.ref (s.heap.objs.size + 1) :: (us ++ ds)) _ _ E (make_guards.trans gd) (hr.make C us [])
    (I2.env0.make C us []) (hb _ (Value.ref (s.heap.objs.size + 1) :: us) I2.kIn hl) r2 hq) fun r s' hq' => ?_))
  cases r with
  | error e => exact hx pins σ _ _ e s' I2 hq'
  | ok fl =>
    cases fl with
    | ret u =>
      obtain ⟨v, H', I3, rv, ev, q3⟩ := I2.after hq'
      subst ev
      exact ⟨rv, ⟨V.ref (s.heap.objs.size + 1), H', I3, rfl, q3⟩⟩
    | next => exact False.elim hq'
    | brk => exact False.elim hq'
    | cont => exact False.elim hq'
theorem pe_makeG (M : Mk X.K C f) (F : FnG X.prog X.w X.K X.mg X.base CX k f fd ps sp) (hr : Room (k + 1) X.A) (gd : X.A.guards = some []) (hg : Gl X x) (hm : X.mg x = some (.ref C)) (hb : Binds X.K fd ps ds) (hd : Vals dvs ds) (hx : Passes CX X E)
    (ha : PA X (e :: es) t) (hdb : (x == ("__debug__" : Str)) = false) (he : starEach (e :: es) X.env = (false, eval e X.env) :: starEach es X.env) (hpl : (backTo pos (starEach es X.env)).any (·.1) = false) :
    PE X (.Call (.Name x p) (e :: es) [] pos) (tMake C sp dvs E t) := by
  refine ⟨fun pins s σ H Q I h => ?_⟩
  refine wpAny_Call_Name_kw (ld_glob I hg hm ?_ hdb)
  refine PySem.W.callWith_K (h₀ := X.base) I.ok.mod.kin M.kp (thn (ha.run pos pins s σ H _ I h) fun us s1 ⟨vs, H1, I1, r, q⟩ => ⟨I1.kIn, ?_⟩) he hpl
  exact run_makeG M F hr gd hb hd hx I1 r q
theorem pe_callOG {g : Addr} (hf : PE X fe tf) (c : StX.CallO X.K C g) (F : FnG X.prog X.w X.K X.mg X.base CX k g fd ps sp) (hr : Room k X.A) (gd : X.A.guards = some []) (hb : Binds X.K fd ps []) (hx : Passes CX X E) (ha : PA X (e :: es) t)
    (ht : eval (.Call fe (e :: es) [] pos) X.env = (do callWith pos (← eval fe X.env) [] (backTo pos (starEach (e :: es) X.env)) (backToKw pos (keywordEach [] X.env))))
    (he : starEach (e :: es) X.env = (false, eval e X.env) :: starEach es X.env) (hpl : (backTo pos (starEach es X.env)).any (·.1) = false) : PE X (.Call fe (e :: es) [] pos) (StX.tCallO X C sp E tf t) := by
  refine ⟨fun pins s σ H Q I h => ?_⟩
  refine Call_ (thn (hf.run pins s σ H _ I h) fun u s1 ⟨y, H1, I1, ry, a, ey, q⟩ => ?_) ht
  subst ey
  obtain rfl : u = Value.ref a := ry
  refine StX.callO_with (thn (ha.run pos pins s1 σ H1 _ I1 q) fun us s2 ⟨vs, H2, I2, r, hi, q2⟩ => ?_) he hpl
  obtain ⟨ox, od, J, hd⟩ := StX.insC_at I2 hi
  refine ⟨⟨C, ox, od, J, hd⟩, ?_⟩
  refine wpAny_call (PySem.W.kco_code I2.kIn J hd c.at_ c.fn c.fi ?_)
  have r2 : Vals (V.ref a :: vs) (Value.ref a :: us) := .cons rfl r
  have hl : (Value.ref a :: us ++ []).length = ps.length := by
    rw [List.append_nil]
    exact r2.length.symm.trans (F.len _ _ _ _ q2)
  have hb2 := hb s2 (Value.ref a :: us) I2.kIn hl
  rw [List.append_nil] at hb2
  refine codeAny_mono (F.run X.A X.stack s2 H2 ⟨Value.ref a :: us, []⟩ (Value.ref a :: us) (V.ref a :: vs) Q E gd hr I2.env0 hb2 r2 q2) fun r s' hq => ?_
  have := ends_of hx I2 hq
  rcases r with u | fl
  · exact this
  · rcases fl with _ | _ | _ | _
    all_goals first | exact False.elim this | exact this
end

theorem eL_length : ∀ {ms : List DE} {ρ : Env} {h : Hh} {q : List W × Hh}, eL ms ρ h = .ok q → q.1.length = ms.length
  | [], ρ, h, q, e => by
    cases e
    rfl
  | m :: ms, ρ, h, q, e => by
    obtain ⟨p, e1, e⟩ := Res.bind_eq_ok e
    obtain ⟨p2, e2, e⟩ := Res.bind_eq_ok e
    cases e
    rw [List.length_cons, List.length_cons, eL_length e2]
section
variable {X : Cx} {cm : Cm} {k n c : Nat} {fA C : Addr} {fd : FuncData} {ps : List Str} {x m : Str} {p pos apos : Pos} {e o fe : Expr} {es : List Expr} {g : Fn} {mo : DE} {ms : List DE}
theorem q_fld {cs : List Nat} {f : Str} (hc : ∀ c ∈ cs, Cls X.K (cm c) ∧ NoAttr X.K (cm c) f) (ho : QE X cm o mo) (hs : attributeBase o f X.env (eval o X.env) = eval o X.env) : QE X cm (.Attribute o f apos) (e1 (pFld cs f) mo) := by
  refine PE.wk (pe_fld ho hs) fun σ H Q q => ?_
  obtain ⟨mu, Z, ρ, h, w, h', rl, s, e, fn⟩ := q
  obtain ⟨q1, e1, e⟩ := Res.bind_eq_ok e
  unfold pFld at e
  split at e
  · rename_i c fs e2
    split at e
    · rename_i hm
      split at e
      · rename_i u e3
        cases e
        refine ⟨mu, Z, ρ, h, q1.1, q1.2, rl, s, e1, fun mu1 Z1 H1 v1 x1 r1 w1 => ?_⟩
        obtain ⟨a, dx, fvs, rfl, ha, k⟩ := obj_at r1 w1 e2
        obtain ⟨v, l, rw_⟩ := (fld_lookup (f := f) k).1 _ e3
        exact ⟨a, _, dx, _, v, rfl, ha, (hc c hm).1, (hc c hm).2, l, fn _ _ _ _ x1 r1 rw_⟩
      · cases e
    · cases e
  · cases e
theorem qs_setF {cs : List Nat} {f : Str} {y : Expr} {my : DE} {tpos : Pos} (hc : ∀ c ∈ cs, Cls X.K (cm c) ∧ NoAttr X.K (cm c) f) (ho : QE X cm o mo) (hy : QE X cm y my) (hs : swapsWith y (some (.Attribute o f tpos)) pos.line X.env = pure false) : QS X cm (.Assign [.Attribute o f tpos] y pos) (sSetF (pSetF cs f) mo my) := by
  refine PS.wk (ps_fld ho hy hs) fun D σ H q => ?_
  obtain ⟨mu, Z, ρ, h, fl, ρ', h', rl, s, e, po⟩ := q
  obtain ⟨q1, e1, e⟩ := Res.bind_eq_ok e
  obtain ⟨q2, e2, e⟩ := Res.bind_eq_ok e
  obtain ⟨q3, e3, e⟩ := Res.bind_eq_ok e
  cases e
  refine ⟨mu, Z, ρ, h, q1.1, q1.2, rl, s, e1, fun mu1 Z1 H1 v1 x1 r1 w1 => ?_⟩
  refine ⟨mu1, Z1, ρ, q1.2, q2.1, q2.2, r1, s.ext x1, e2, fun mu2 Z2 H2 v2 x2 r2 w2 => ?_⟩
  have w1 := w1.mono x2.z x2.m
  have s2 := (s.ext x1).ext x2
  obtain ⟨o1, h1⟩ := q2
  obtain ⟨y1, hy1⟩ := q1
  simp only at e3 w1 w2
  unfold pSetF at e3
  split at e3
  · rename_i i
    split at e3
    · rename_i c fs hi
      split at e3
      · rename_i hk
        obtain ⟨hc1, hn, hl⟩ := hk
        cases e3
        obtain ⟨a, rfl, hm⟩ := w2
        obtain ⟨z, nf, dx, fvs, ha, k⟩ := r2.cell i a _ hm hi
        refine ⟨a, _, dx, _, rfl, ha, (hc c hc1).1, (hc c hc1).2, ?_, ?_⟩
        · have := k.length
          rw [List.length_zip, List.length_map]
          omega
        · obtain ⟨fvs', e4, k'⟩ := put_rel (f := f) (RW.any (mu' := []) hn w1) k
          rw [e4]
          have rw_ := r2.wr (c := .obj c (putW f y1 fs)) (o := .ins (cm c) dx (((putW f y1 fs).map (·.1)).zip fvs')) hm z ha ⟨z, norF_put hn nf, dx, fvs', upd_same, k'⟩ (fun _ _ z => nomatch z)
          exact po _ _ _ ((x1.trans x2).trans rw_.2) rw_.1 _ (s2.ext rw_.2)
      · cases e3
    · cases e3
  · cases e3
theorem mk_sp {mu : List Addr} {Z H : Hp} {h h' : Hh} {ws : List W} {vs : List V} {w : W} {Q : VK} (rl : RelH X.K cm mu Z H h) (r : RWs X.K cm mu Z ws vs) (hn : ws.length + 1 = n) (e : mkObj c g ws h = .ok (w, h')) (f : Fin X.K cm mu Z H w h' Q) :
    ∀ x dx, H x = none → H dx = none → dx ≠ x → spRun X.K cm n g (.ref x :: vs) (upd (upd H dx (.own x)) x (.ins (cm c) dx [])) (fun v H2 => v = .non ∧ Q (.ref x) H2) E0 := by
  intro x dx hx hdx hne
  obtain ⟨q, e1, e2⟩ := Res.bind_eq_ok e
  have hx2 : L2.upd H dx (.own x) x = none := by rw [upd_ne (Ne.symm hne)]; exact hx
  obtain ⟨r1, x1⟩ := rl.newO (o := .own x) hdx
  obtain ⟨r2, x2⟩ := r1.newC (o := .ins (cm c) dx []) (c := .obj c []) hx2 ⟨r1.zfree hx2, rfl, dx, [], upd_same, rfl⟩
  have x3 := x1.trans x2
  have at_ : (mu ++ [x])[h.length]? = some x := by
    rw [← rl.len]
    simp
  refine ⟨mu ++ [x], Z, h ++ [.obj c []], .ref h.length :: ws, q.1, q.2, r2, ⟨.ref x, vs, rfl, ⟨x, rfl, at_⟩, RWs.mono x3.z x3.m r⟩, hn, e1, ?_⟩
  intro mu' Z' H' v xe r' w'
  obtain ⟨q1, q2⟩ := q
  simp only at e2 w' r'
  split at e2
  · cases e2
    exact ⟨w', f _ _ _ _ (x3.trans xe) r' ⟨x, rfl, xe.m _ _ at_⟩⟩
  · cases e2
theorem q_make (M : Mk X.K (cm c) fA) (F : FnG X.prog X.w X.K X.mg X.base CX0 k fA fd ps (spRun X.K cm n g)) (hr : Room (k + 1) X.A) (gd : X.A.guards = some []) (hg : Gl X x) (hm : X.mg x = some (.ref (cm c))) (hb : Binds X.K fd ps []) (hn : ms.length + 1 = n)
    (ha : QL X cm (e :: es) ms) (hdb : (x == ("__debug__" : Str)) = false) (he : starEach (e :: es) X.env = (false, eval e X.env) :: starEach es X.env) (hpl : (backTo pos (starEach es X.env)).any (·.1) = false) : QE X cm (.Call (.Name x p) (e :: es) [] pos) (eF (mkObj c g) ms) := by
  refine PE.wk (pe_makeG (dvs := []) M F hr gd hg hm hb .nil pass0 ha hdb he hpl) fun σ H Q q => ?_
  obtain ⟨mu, Z, ρ, h, w, h', rl, s, ev0, f⟩ := q
  obtain ⟨q1, e1, ev1⟩ := Res.bind_eq_ok ev0
  refine ⟨mu, Z, ρ, h, q1.1, q1.2, rl, s, e1, fun mu1 Z1 H1 vs x1 r1 w1 => ?_⟩
  intro x dx hx hdx hne
  rw [List.append_nil]
  exact mk_sp r1 w1 (by rw [eL_length e1]; exact hn) ev1 (fun m z hh v xe r q => f m z hh v (x1.trans xe) r q) x dx hx hdx hne
theorem q_meth {pl : Sem Bool} (c' : Cls X.K (cm c)) (hm : Meth X.K (cm c) m fA) (F : FnG X.prog X.w X.K X.mg X.base CX0 k fA fd ps (spRun X.K cm n g)) (hr : Room k X.A) (gd : X.A.guards = some []) (hb : Binds X.K fd ps []) (hn : ms.length + 1 = n) (ho : QE X cm o mo)
    (ha : QL X cm (e :: es) ms) (hst : starEach (e :: es) X.env = (false, eval e X.env) :: starEach es X.env) (hpl : (backTo pos (starEach es X.env)).any (·.1) = false)
    (ht : eval (.Call (.Attribute o m apos) (e :: es) [] pos) X.env = (do
      let ov ← eval o X.env
      standAt apos.atName
      let (f, first) ← holding [ov] (getMethod ov m pl)
      callWith pos f first (backTo pos (starEach (e :: es) X.env)) (backToKw pos (keywordEach [] X.env)))) : QE X cm (.Call (.Attribute o m apos) (e :: es) [] pos) (eMet c m g mo ms) := by
  refine PE.wk (pe_methG (dvs := []) ho c' hm F hr gd hb .nil pass0 ha hst hpl ht) fun σ H Q q => ?_
  obtain ⟨mu, Z, ρ, h, w, h', rl, s, ev0, f⟩ := q
  obtain ⟨q1, e1, ev1⟩ := Res.bind_eq_ok ev0
  refine ⟨mu, Z, ρ, h, q1.1, q1.2, rl, s, e1, fun mu1 Z1 H1 v1 x1 r1 w1 => ?_⟩
  split at ev1
  · rename_i hq
    rw [Bool.and_eq_true] at hq
    obtain ⟨q2, e2, ev2⟩ := Res.bind_eq_ok ev1
    unfold isOf lacks at hq
    cases ho' : objOf q1.2 q1.1 with
    | none =>
      rw [ho'] at hq
      cases hq.1
    | some cf =>
      obtain ⟨c2, fs⟩ := cf
      rw [ho'] at hq
      obtain rfl : c2 = c := eq_of_beq (show (c2 == c) = true from hq.1)
      obtain ⟨a, dx, fvs, rfl, hA, kf⟩ := obj_at r1 w1 ho'
      refine ⟨a, dx, _, rfl, hA, (fld_lookup (f := m) kf).2 (Option.isNone_iff_eq_none.mp hq.2), ?_⟩
      refine ⟨mu1, Z1, ρ, q1.2, q2.1, q2.2, r1, s.ext x1, e2, fun mu2 Z2 H2 vs x2 r2 w2 => ?_⟩
      show spRun X.K cm n g _ _ _ _
      rw [List.append_nil]
      exact ⟨mu2, Z2, q2.2, q1.1 :: q2.1, w, h', r2, ⟨_, vs, rfl, w1.mono x2.z x2.m, w2⟩, by rw [List.length_cons, eL_length e2]; exact hn, ev2, fun m z hh v xe r q => f m z hh v ((x1.trans x2).trans xe) r q⟩
  · cases ev1
theorem q_meth0 {pl : Sem Bool} (c' : Cls X.K (cm c)) (hm : Meth X.K (cm c) m fA) (F : FnG X.prog X.w X.K X.mg X.base CX0 k fA fd ps (spRun X.K cm 1 g)) (hr : Room k X.A) (gd : X.A.guards = some []) (hb : Binds X.K fd ps []) (ho : QE X cm o mo)
    (ht : eval (.Call (.Attribute o m apos) [] [] pos) X.env = (do
      let ov ← eval o X.env
      standAt apos.atName
      let (f, first) ← holding [ov] (getMethod ov m pl)
      callWith pos f first (backTo pos (starEach [] X.env)) (backToKw pos (keywordEach [] X.env)))) : QE X cm (.Call (.Attribute o m apos) [] [] pos) (eMet c m g mo []) := by
  refine PE.wk (pe_meth0G (dvs := []) ho c' hm F hr gd hb .nil pass0 ht) fun σ H Q q => ?_
  obtain ⟨mu, Z, ρ, h, w, h', rl, s, ev0, f⟩ := q
  obtain ⟨q1, e1, ev1⟩ := Res.bind_eq_ok ev0
  refine ⟨mu, Z, ρ, h, q1.1, q1.2, rl, s, e1, fun mu1 Z1 H1 v1 x1 r1 w1 => ?_⟩
  split at ev1
  · rename_i hq
    rw [Bool.and_eq_true] at hq
    obtain ⟨q2, e2, ev2⟩ := Res.bind_eq_ok ev1
    cases e2
    unfold isOf lacks at hq
    cases ho' : objOf q1.2 q1.1 with
    | none =>
      rw [ho'] at hq
      cases hq.1
    | some cf =>
      obtain ⟨c2, fs⟩ := cf
      rw [ho'] at hq
      obtain rfl : c2 = c := eq_of_beq (show (c2 == c) = true from hq.1)
      obtain ⟨a, dx, fvs, rfl, hA, kf⟩ := obj_at r1 w1 ho'
      refine ⟨a, dx, _, rfl, hA, (fld_lookup (f := m) kf).2 (Option.isNone_iff_eq_none.mp hq.2), ?_⟩
      exact ⟨mu1, Z1, q1.2, [q1.1], w, h', r1, ⟨_, [], rfl, w1, rfl⟩, rfl, ev2, fun m z hh v xe r q => f m z hh v (x1.trans xe) r q⟩
  · cases ev1
theorem q_callO {gA : Addr} (c' : StX.CallO X.K (cm c) gA) (F : FnG X.prog X.w X.K X.mg X.base CX0 k gA fd ps (spRun X.K cm n g)) (hr : Room k X.A) (gd : X.A.guards = some []) (hb : Binds X.K fd ps []) (hn : ms.length + 1 = n) (ho : QE X cm fe mo)
    (ha : QL X cm (e :: es) ms) (ht : eval (.Call fe (e :: es) [] pos) X.env = (do callWith pos (← eval fe X.env) [] (backTo pos (starEach (e :: es) X.env)) (backToKw pos (keywordEach [] X.env))))
    (hst : starEach (e :: es) X.env = (false, eval e X.env) :: starEach es X.env) (hpl : (backTo pos (starEach es X.env)).any (·.1) = false) : QE X cm (.Call fe (e :: es) [] pos) (eCallO c g mo ms) := by
  refine PE.wk (pe_callOG ho c' F hr gd hb pass0 ha ht hst hpl) fun σ H Q q => ?_
  obtain ⟨mu, Z, ρ, h, w, h', rl, s, ev0, f⟩ := q
  obtain ⟨q1, e1, ev1⟩ := Res.bind_eq_ok ev0
  obtain ⟨q2, e2, ev2⟩ := Res.bind_eq_ok ev1
  refine ⟨mu, Z, ρ, h, q1.1, q1.2, rl, s, e1, fun mu1 Z1 H1 v1 x1 r1 w1 => ?_⟩
  split at ev2
  · rename_i hq
    unfold isOf at hq
    cases ho' : objOf q2.2 q1.1 with
    | none =>
      rw [ho'] at hq
      cases hq
    | some cf =>
      obtain ⟨c2, fs⟩ := cf
      rw [ho'] at hq
      obtain rfl : c2 = c := eq_of_beq (show (c2 == c) = true from hq)
      have isr : ∃ a, v1 = .ref a := by
        cases hw : q1.1 with
        | obj c3 fs3 => rw [hw] at w1; obtain ⟨a, _, _, e', _⟩ := w1; exact ⟨a, e'⟩
        | ref i => rw [hw] at w1; obtain ⟨a, e', _⟩ := w1; exact ⟨a, e'⟩
        | _ => rw [hw] at ho'; cases ho'
      obtain ⟨a, rfl⟩ := isr
      refine ⟨a, rfl, mu1, Z1, ρ, q1.2, q2.1, q2.2, r1, s.ext x1, e2, fun mu2 Z2 H2 vs x2 r2 w2 => ?_⟩
      have w3 := w1.mono x2.z x2.m
      obtain ⟨a', dx, fvs, ea, hA, kf⟩ := obj_at r2 w3 ho'
      cases ea
      exact ⟨.inr ⟨dx, _, hA⟩, mu2, Z2, q2.2, q1.1 :: q2.1, w, h', r2, ⟨_, vs, rfl, w3, w2⟩, by rw [List.length_cons, eL_length e2]; exact hn, ev2, fun m z hh v xe r q => f m z hh v ((x1.trans x2).trans xe) r q⟩
  · cases ev2
theorem pe_callON {CX : CXT} {sp : Sp} {E : XK} {tf : TE} {t : TA} {gA C : Addr} (hf : PE X (.Name x p) tf) (c : StX.CallO X.K C gA) (F : FnG X.prog X.w X.K X.mg X.base CX k gA fd ps sp) (hr : Room k X.A) (gd : X.A.guards = some []) (hb : Binds X.K fd ps []) (hx : Passes CX X E) (ha : PA X (e :: es) t)
    (he : starEach (e :: es) X.env = (false, eval e X.env) :: starEach es X.env) (hpl : (backTo pos (starEach es X.env)).any (·.1) = false) : PE X (.Call (.Name x p) (e :: es) [] pos) (StX.tCallO X C sp E tf t) := by
  refine ⟨fun pins s σ H Q I h => ?_⟩
  refine wpAny_Call_Name_kw (thn (hf.run pins s σ H _ I h) fun u s1 ⟨y, H1, I1, ry, a, ey, q⟩ => ?_)
  subst ey
  obtain rfl : u = Value.ref a := ry
  refine StX.callO_with (thn (ha.run pos pins s1 σ H1 _ I1 q) fun us s2 ⟨vs, H2, I2, r, hi, q2⟩ => ?_) he hpl
  obtain ⟨ox, od, J, hd⟩ := StX.insC_at I2 hi
  refine ⟨⟨C, ox, od, J, hd⟩, ?_⟩
  refine wpAny_call (PySem.W.kco_code I2.kIn J hd c.at_ c.fn c.fi ?_)
  have r2 : Vals (V.ref a :: vs) (Value.ref a :: us) := .cons rfl r
  have hl : (Value.ref a :: us ++ []).length = ps.length := by
    rw [List.append_nil]
    exact r2.length.symm.trans (F.len _ _ _ _ q2)
  have hb2 := hb s2 (Value.ref a :: us) I2.kIn hl
  rw [List.append_nil] at hb2
  refine codeAny_mono (F.run X.A X.stack s2 H2 ⟨Value.ref a :: us, []⟩ (Value.ref a :: us) (V.ref a :: vs) Q E gd hr I2.env0 hb2 r2 q2) fun r s' hq => ?_
  have := ends_of hx I2 hq
  rcases r with u | fl
  · exact this
  · rcases fl with _ | _ | _ | _
    all_goals first | exact False.elim this | exact this
theorem tO_callO (ho : True) (hn : ms.length + 1 = n) (σ : L2.St) (H : Hp) (Q : VK) (q : tO X.K cm (eCallO c g mo ms) σ H Q) : StX.tCallO X (cm c) (spRun X.K cm n g) E0 (tO X.K cm mo) (tOL X.K cm ms) σ H Q := by
  obtain ⟨mu, Z, ρ, h, w, h', rl, s, ev0, f⟩ := q
  obtain ⟨q1, e1, ev1⟩ := Res.bind_eq_ok ev0
  obtain ⟨q2, e2, ev2⟩ := Res.bind_eq_ok ev1
  refine ⟨mu, Z, ρ, h, q1.1, q1.2, rl, s, e1, fun mu1 Z1 H1 v1 x1 r1 w1 => ?_⟩
  split at ev2
  · rename_i hq
    unfold isOf at hq
    cases ho' : objOf q2.2 q1.1 with
    | none =>
      rw [ho'] at hq
      cases hq
    | some cf =>
      obtain ⟨c2, fs⟩ := cf
      rw [ho'] at hq
      obtain rfl : c2 = c := eq_of_beq (show (c2 == c) = true from hq)
      have isr : ∃ a, v1 = .ref a := by
        cases hw : q1.1 with
        | obj c3 fs3 => rw [hw] at w1; obtain ⟨a, _, _, e', _⟩ := w1; exact ⟨a, e'⟩
        | ref i => rw [hw] at w1; obtain ⟨a, e', _⟩ := w1; exact ⟨a, e'⟩
        | _ => rw [hw] at ho'; cases ho'
      obtain ⟨a, rfl⟩ := isr
      refine ⟨a, rfl, mu1, Z1, ρ, q1.2, q2.1, q2.2, r1, s.ext x1, e2, fun mu2 Z2 H2 vs x2 r2 w2 => ?_⟩
      have w3 := w1.mono x2.z x2.m
      obtain ⟨a', dx, fvs, ea, hA, kf⟩ := obj_at r2 w3 ho'
      cases ea
      exact ⟨.inr ⟨dx, _, hA⟩, mu2, Z2, q2.2, q1.1 :: q2.1, w, h', r2, ⟨_, vs, rfl, w3, w2⟩, by rw [List.length_cons, eL_length e2]; exact hn, ev2, fun m z hh v xe r q => f m z hh v ((x1.trans x2).trans xe) r q⟩
  · cases ev2
theorem q_callON {gA : Addr} (c' : StX.CallO X.K (cm c) gA) (F : FnG X.prog X.w X.K X.mg X.base CX0 k gA fd ps (spRun X.K cm n g)) (hr : Room k X.A) (gd : X.A.guards = some []) (hb : Binds X.K fd ps []) (hn : ms.length + 1 = n) (ho : QE X cm (.Name x p) mo)
    (ha : QL X cm (e :: es) ms) (hst : starEach (e :: es) X.env = (false, eval e X.env) :: starEach es X.env) (hpl : (backTo pos (starEach es X.env)).any (·.1) = false) : QE X cm (.Call (.Name x p) (e :: es) [] pos) (eCallO c g mo ms) :=
  PE.wk (pe_callON ho c' F hr gd hb pass0 ha hst hpl) fun σ H Q q => tO_callO trivial hn σ H Q q
theorem pe_gcls {U : Str} {C : Addr} (hg : Gl X U) (hm : X.mg U = some (.ref C)) (hd : (U == ("__debug__" : Str)) = false) : PE X (.Name U p) (tC (.ref C)) := pe_glob hg hm rfl hd
theorem q_isiC {U : Str} {m : DE} {p2 : Pos} (I0 : IsiC X.K (cm c)) (hg : Gl X x) (hm : X.mg x = none) (hv : bootBuiltins x = some (.builtin "isinstance")) (ha : QE X cm e m) (hn : x ≠ "__name__") (hdb : (x == ("__debug__" : Str)) = false)
    (hgT : Gl X U) (hmT : X.mg U = some (.ref (cm c))) (hdT : (U == ("__debug__" : Str)) = false) (h1 : starEach [e, .Name U p2] X.env = (false, eval e X.env) :: starEach [.Name U p2] X.env) :
    QE X cm (.Call (.Name x p) [e, .Name U p2] [] pos) (e1 (pIsiC c) m) := by
  have hT : PE X (.Name U p2) (tC (.ref (cm c))) := pe_gcls hgT hmT hdT
  refine PE.wk (pe_callB call_isi hg hm hv (pa_cons ha (pa_cons hT pa_nil rfl) h1) hn hdb h1 rfl) fun σ H Q q => ?_
  obtain ⟨mu, Z, ρ, h, w, h', rl, s, ev0, f⟩ := q
  obtain ⟨p, e1, ev1⟩ := Res.bind_eq_ok ev0
  refine ⟨mu, Z, ρ, h, p.1, p.2, rl, s, e1, fun mu1 Z1 H1 v1 x1 r1 w1 => ?_⟩
  unfold pIsiC at ev1
  split at ev1
  · rename_i c' fs e2
    split at ev1
    · rename_i hc
      subst hc
      cases ev1
      obtain ⟨a, dx, fvs, rfl, hA, kf⟩ := obj_at r1 w1 e2
      exact ⟨.ref a, .ref (cm c'), .ref (cm c'), .ref (cm c'), true, rfl, .own _, .base (.ins hA I0.cl I0.ha I0.hn I0.tk I0.hm), I0.yes, f _ _ _ _ x1 r1 rfl⟩
    · cases ev1
  · split at ev1
    · rename_i u e2
      cases ev1
      exact ⟨v1, .ref (cm c), .type u.name, .ref (cm c), false, rfl, .own _, kindW_of r1 w1 e2, I0.no u, f _ _ _ _ x1 r1 rfl⟩
    · cases ev1
end
end Ti


namespace L2
open PySem PySem.Spec PyProof.Rows
structure ErrC (K : PySem.W.Frag) (D : Addr) : Prop where
  cl : (PySem.W.clsIn K D).isSome = true
  ga : PySem.W.findIn K (.ref D) "__getattribute__" = some (some (.builtin "BaseException.__getattribute__"))
  gg : PySem.W.findIn K (.ref D) "__getattr__" = some none
  sub : PySem.W.subIn K (.ref D) (.type "BaseException") = some true
  hd : PySem.W.hasDictIn K D = true
  ca : PySem.W.findIn K (.ref D) "__class__" = some (some (.builtin "object.__class__"))
  cn : PySem.W.specialIn K (.builtin "object.__class__") "__get__" = some (some (.builtin "getset_descriptor.__get__"))
  ct : PySem.W.takesIn K (.builtin "object.__class__") = some true
  cm : PySem.W.mroIn K D (.type "object") = some true
def errB (K : PySem.W.Frag) (D : Addr) : Bool := (PySem.W.clsIn K D).isSome && (decide (PySem.W.findIn K (.ref D) "__getattribute__" = some (some (.builtin "BaseException.__getattribute__"))) && (decide (PySem.W.findIn K (.ref D) "__getattr__" = some none) &&
  (decide (PySem.W.subIn K (.ref D) (.type "BaseException") = some true) && (PySem.W.hasDictIn K D && (decide (PySem.W.findIn K (.ref D) "__class__" = some (some (.builtin "object.__class__"))) &&
  (decide (PySem.W.specialIn K (.builtin "object.__class__") "__get__" = some (some (.builtin "getset_descriptor.__get__"))) && (decide (PySem.W.takesIn K (.builtin "object.__class__") = some true) && decide (PySem.W.mroIn K D (.type "object") = some true))))))))
theorem errB_ok {K : PySem.W.Frag} {D : Addr} (h : errB K D = true) : ErrC K D := by
  unfold errB at h
  simp only [Bool.and_eq_true, decide_eq_true_eq] at h
  obtain ⟨h1, h2, h3, h4, h5, h6, h7, h8, h9⟩ := h
  exact ⟨h1, h2, h3, h4, h5, h6, h7, h8, h9⟩
structure ErrAt (H : Hp) (a D : Addr) (oe : Obj) : Prop where
  at_ : H a = some (.frz oe (.own a))
  cls : oe.cls = .ref D
  dat : ∃ vs, oe.data = .fields vs
  dic : oe.dict = none ∨ ∃ dx fs, oe.dict = some dx ∧ H dx = some (.xd fs)
theorem ErrAt.inst {X : Cx} {pins : List (Addr × Obj)} {σ : St} {H : Hp} {s : Shared} {a D : Addr} {oe : Obj} (I : Inv X pins σ H s) (e : ErrAt H a D oe) : ∃ od, PySem.W.InstAt s.heap a oe D od := by
  have ha : s.heap.get? a = some oe := (show ObjOk X.prog X.w H s.heap a (.frz oe (.own a)) from I.hok a _ e.at_).1
  obtain ⟨vs, hd⟩ := e.dat
  have nc : PySem.W.notCls oe = true := by unfold PySem.W.notCls; rw [hd] <;> rfl
  rcases e.dic with h | ⟨dx, fs, h1, h2⟩
  · exact ⟨none, ha, e.cls, nc, by rw [h]; trivial⟩
  · have hx : ObjOk X.prog X.w H s.heap dx (.xd fs) := I.hok dx _ h2
    obtain ⟨mA, hns, hr⟩ := hx
    obtain ⟨od, ho, hl⟩ := lookIn_ns hns
    exact ⟨some od, ha, e.cls, nc, by rw [h1]; exact ho⟩
def rIsF (K : PySem.W.Frag) : List V → Hp → VK → Prop := fun xs H Q => ∃ (a D : Addr) (oe : Obj) (c : V) (u : Value) (b : Bool), xs = [.ref a, c] ∧ ErrAt H a D oe ∧ ErrC K D ∧ ClsV c u ∧ PySem.W.kitOne K (.ref D) u = some b ∧ Q (.bl b) H
theorem call_isF {X : Cx} : CallR X (.builtin "isinstance") (rIsF X.K) := by
  intro pins s σ H xs us Q I r h
  obtain ⟨a, D, oe, c, u, b, rfl, ea, C, k, e, q⟩ := h
  obtain ⟨u1, u2, rfl, r1, r2⟩ := vals2 r
  have e2 := k.eq r2
  subst e2
  obtain rfl : u1 = .ref a := r1
  obtain ⟨od, J⟩ := ea.inst I
  exact PySem.W.kia_one (PySem.W.kitx_exc C.cl C.ga C.gg C.sub C.ca C.cn C.ct C.cm) I.kIn J e (fun z => nomatch z) fun tk => ⟨.bl b, H, I.tok tk, rfl, q⟩
def tXfF (K : PySem.W.Frag) (n : Str) (te : TE) : TE := fun σ H Q => te σ H fun x H1 => ∃ (a C dd : Addr) (oe : Obj) (fs : List (Str × V)) (v : V), x = .ref a ∧ H1 a = some (.frz oe (.own a)) ∧ oe.cls = .ref C ∧ (∃ vs, oe.data = .fields vs) ∧ oe.dict = some dd ∧ H1 dd = some (.xd fs) ∧
  fs.lookup n = some v ∧ ErrC K C ∧ PySem.W.findIn K (.ref C) n = some none ∧ Q v H1
theorem pe_xfF {X : Cx} {e : Expr} {te : TE} {pos : Pos} {n : Str} (he : PE X e te) (hb : attributeBase e n X.env (eval e X.env) = eval e X.env) : PE X (.Attribute e n pos) (tXfF X.K n te) := by
  refine ⟨fun pins s σ H Q I h => ?_⟩
  refine attr_of hb (thn (he.run pins s σ H _ I h) fun u s1 hh => ?_)
  obtain ⟨x, H1, I1, rx, a, C, dd, oe, fs, v, ex, ha, hc, ⟨vs, hd⟩, hdd, ea, l, T, hno, q⟩ := hh
  subst ex
  obtain rfl : u = Value.ref a := rx
  have ho : s1.heap.get? a = some oe := (show ObjOk X.prog X.w H1 s1.heap a (.frz oe (.own a)) from I1.hok a _ ha).1
  have hx : ObjOk X.prog X.w H1 s1.heap dd (.xd fs) := I1.hok dd _ ea
  obtain ⟨mA, hns, hr⟩ := hx
  obtain ⟨od, hod, hl⟩ := lookIn_ns hns
  obtain ⟨u, hu, ru⟩ := RelO.some_of (v := v) (o := mA n) (by rw [← l]; exact hr n)
  have J : PySem.W.InstAt s1.heap a oe C (some od) := ⟨ho, hc, by unfold PySem.W.notCls; rw [hd] <;> rfl, by rw [hdd]; exact hod⟩
  exact HandSPX.exc_get I1.kIn J T.ga T.gg T.sub (PySem.W.findObj_own T.hd hno rfl (by rw [hl, hu])) (handed_of ru) ⟨v, H1, I1.tok _, ru, q⟩

section
variable {X : Cx} {e : Expr} {es : List Expr} {ta : TA} {x : Str} {p1 p2 pos : Pos} {C0 : Addr} {mc : Value}
theorem pe_oinit {pl : Sem Bool} (hg : Gl X x) (hm : X.mg x = some (.ref C0)) (r : ClX.CRead X.K C0 mc) (vV : PySem.W.findCls X.K (.ref C0) mc "__init__" = some (.val (.builtin "ValueError.__init__"))) (ha : PA X (e :: es) ta) (hdb : (x == ("__debug__" : Str)) = false)
    (hc : eval (.Call (.Attribute (.Name x p1) "__init__" p2) (e :: es) [] pos) X.env = (do
      let ov ← eval (.Name x p1) X.env
      standAt p2.atName
      let (f, first) ← holding [ov] (getMethod ov "__init__" pl)
      callWith pos f first (backTo pos (starEach (e :: es) X.env)) (backToKw pos (keywordEach [] X.env))) := by rfl)
    (he : starEach (e :: es) X.env = (false, eval e X.env) :: starEach es X.env := by rfl) (hpl : (backTo pos (starEach es X.env)).any (·.1) = false := by rfl) :
    PE X (.Call (.Attribute (.Name x p1) "__init__" p2) (e :: es) [] pos) (tVeI X.K ta) := by
  refine ⟨fun pins s σ H Q I h => ?_⟩
  refine PySem.W.methodCall_KW (ld_glob I hg hm ?_ hdb) hc
  refine PySem.W.method_cls I.kIn r.ga (PySem.W.cls_value I.kIn r.rd vV (by decide +kernel) ?_)
  show wpAny _ _ (callWith pos (Value.builtin "ValueError.__init__") [] (backTo pos (starEach (e :: es) X.env)) []) _ _ _
  refine PyProof.Rows.callWith_method1 (thn (ha.run pos pins _ σ H _ (I.tok _) h) fun us s1 ⟨vs, H1, I1, r1, a, C, ws, ev, hl, T, ea, q⟩ => ?_) he hpl
  subst ev
  cases r1 with
  | @cons _ u0 _ ur ra rw' =>
    obtain rfl : u0 = Value.ref a := ra
    have hlen : ur.length ≤ sizeLine := by
      rw [← Paired.length rw', sizeLine_eq]
      omega
    exact oinit_ok T I1 ea hlen fun s' J => ⟨.non, H1, J, rfl, q⟩
end
def spIni (K : PySem.W.Frag) (fld : Str) : Sp := fun vs H Q _ => ∃ (a C : Addr) (y : V), vs = [.ref a, y] ∧ OexC K C ∧ H a = some (exo a C none) ∧ PySem.W.findIn K (.ref C) fld = some none ∧
  ∀ dx, H dx = none → dx ≠ a → Q .non (upd (upd H dx (exd dx [(fld, y)])) a (exo a C (some dx)))
def iniBody (B par fld m : Str) (j : Nat) (p1 p2 p3 p4 p5 p6 p7 p8 p9 p10 : Pos) : List Stmt :=
  [.Expr (.Call (.Attribute (.Name B p1) "__init__" p2) [.Name "self" p3, .Constant (.str m) j p4] [] p5) p6, .Assign [.Attribute (.Name "self" p7) fld p8] (.Name par p9) p10]
theorem ini_ok {P : Program} {w : World} {K : PySem.W.Frag} {mg : Str → Option Value} {base : Heap} {x qual B par fld m : Str} {j : Nat} {p1 p2 p3 p4 p5 p6 p7 p8 p9 p10 : Pos} {params : Arguments} {scope : Scope} {dvs : List V} {kws : List (Str × V)} {fI C0 : Addr} {fd : FuncData} {mc : Value}
    (F : FunD K x qual params (iniBody B par fld m j p1 p2 p3 p4 p5 p6 p7 p8 p9 p10) scope dvs kws fI fd) (S : FnScope [("self" : Str), par] [("self" : Str), par] scope) (hB : scope.names.lookup B = some .globalImplicit) (hs : scope.names.lookup ("self" : Str) = some .local) (hp : scope.names.lookup par = some .local)
    (hm : mg B = some (.ref C0)) (r : ClX.CRead K C0 mc) (vV : PySem.W.findCls K (.ref C0) mc "__init__" = some (.val (.builtin "ValueError.__init__"))) (hdb : (B == ("__debug__" : Str)) = false) (hpd : (par == ("__debug__" : Str)) = false) (hpc : (par == ("__classdict__" : Str)) = false) (hl : (p2.endLine == p5.line) = true) :
    FnOk P w K mg base CX0 1 fI fd [("self" : Str), par] (spIni K fld) := by
  obtain ⟨oc, od, dV, kV, doc, pm, an, cdv, ct, osl, rfl, lk, hcd, _, _⟩ := F.ex
  refine fn_of lk hcd S (fun vs H Q E h => by obtain ⟨a, C, y, rfl, _⟩ := h; rfl) fun A outer s H vs Q E hr h => ?_
  obtain ⟨a, C, y, rfl, T, ha, hno, q⟩ := h
  let X := cxOf CX0 P w K mg base [("self" : Str), par] qual scope fI cdv A outer s H E
  have v0 : PE X (.Name "self" p3) (tVar 0) := pe_var (x := "self") rfl (.inl hs)
  have v0' : PE X (.Name "self" p7) (tVar 0) := pe_var (x := "self") rfl (.inl hs)
  have v1 : PE X (.Name par p9) (tVar 1) := pe_var (x := par) rfl (.inl hp) hpd hpc
  have a1 : PA X [.Name "self" p3, .Constant (.str m) j p4] (tCons (tVar 0) (tCons (tC (.str m)) tNil)) := pa_cons v0 (pa_cons pe_str pa_nil)
  refine ⟨_, pss_cons (ps_expr (pe_oinit (X := X) (x := B) hB hm r vV a1 hdb (Ti.methTree (o := .Name B p1) (m := "__init__") (env := X.env) rfl rfl hl)) rfl) (pss_one (ps_ost (f := fld) v0' v1 rfl)), ?_⟩
  refine ⟨.ref a, rfl, a, C, [.str m], rfl, (by decide : 1 ≤ 1000), T, ha, ?_⟩
  exact ⟨y, rfl, .ref a, rfl, a, C, rfl, T, hno, .inl ⟨ha, fun dx n ne => q dx n ne⟩⟩

section
variable {X : Cx} {CX : CXT} {k : Nat} {f : Addr} {fd : FuncData} {ps : List Str} {sp : Sp} {dvs : List V} {ds : List Value} {E : St → XK} {x : Str} {p pos : Pos} {e : Expr} {es : List Expr} {t : TA}
end
theorem PS.nox {X : Cx} {st : Stmt} {t : TS} (h : PS X.nox st t) : PS X st t := ⟨fun pins s σ H D I hw =>
  wpAny_mono (h.run pins s σ H D (I.wish _) hw) (fun _ _ q => q.unwish) fun _ _ z => False.elim z⟩
theorem made_hp {H : Hp} {a C dx : Addr} {fs : List (Str × V)} (na : H a = none) (ne : dx ≠ a) :
    upd (del (upd (upd (upd H a (exo a C none)) dx (exd dx fs)) a (exo a C (some dx))) a) dx (.xd fs) = upd H dx (.xd fs) := by
  funext b
  by_cases hb : b = dx
  · rw [hb, upd_same, upd_same]
  · rw [upd_ne hb, upd_ne hb]
    by_cases hc : b = a
    · rw [hc, del_same, na]
    · rw [del_ne hc, upd_ne hc, upd_ne hb, upd_ne hc]
end L2


namespace Ti
open PySem PySem.Spec PyProof.Rows L2

section
variable {M : Model} {prog : Program} {w : World} {A : Around} {E : Value → Shared → Prop} {s : Shared} {K : PySem.W.Frag} {x C f : Addr} {ox : Obj} {od : Option Obj} {b tb : Value}
theorem entry_ne {Q : PySem.Fin → Shared → Prop} (hu : A.units < cLine) (X : K.In s.heap) (I : PySem.W.InstAt s.heap x ox C od) (hs : PySem.W.findIn K (.ref C) "__eq__" = some (some (.ref f))) (hf : PySem.W.isFn K (.ref f) = true)
    (h : wpAny M A (call (.ref f) [.ref x, b]) (fun v s' => ∃ t, v = .bool t ∧ Q (.done (.ret (.bool (!t)))) s') E s) : wpAny M A (Builtin.«object.__ne__» ⟨[.ref x, b], []⟩) Q E s := by
  unfold Builtin.«object.__ne__»
  repeat (first | with_reducible refine wpAny_cRoomFor hu ?_ | ((fail_if_success (with_reducible refine PySem.W.ifBound_K X I hs hf ?_)); wp_step))
  refine PySem.W.ifBound_K X I hs hf ?_
  refine wpAny_mono h (fun v s' q => ?_) fun _ _ e => e
  obtain ⟨t, rfl, q⟩ := q
  repeat (first | with_reducible refine wpAny_truthy_bool ?_ | wp_step)
  exact q
theorem call_ne {Q : Value → Shared → Prop} (hu : A.in1.units < cLine) (X : K.In s.heap) (I : PySem.W.InstAt s.heap x ox C od) (hm : PySem.W.mroIn K C (.type "object") = some true) (hs : PySem.W.findIn K (.ref C) "__eq__" = some (some (.ref f))) (hf : PySem.W.isFn K (.ref f) = true)
    (h : wpAny (model prog w) A.in1 (call (.ref f) [.ref x, b]) (fun v s' => ∃ t, v = .bool t ∧ Q (.bool (!t)) s') E s) : wpAny (model prog w) A (call (.builtin "object.__ne__") [.ref x, b]) Q E s :=
  wpAny_call (codeAny_call_builtin F.cmp_object.ne.plain F.cmpEntry_ne (PySem.W.check_slot F.cmpKind_ne F.cmpSplit_ne (I.type.andThen (PySem.W.looks_mroIn X hm)) (F.cmpArgs_ne _ _) (entry_ne hu X I hs hf h)))
theorem ifBound_objNe {args : List Value} {Q : Option Value → Shared → Prop} (X : K.In s.heap) (I : PySem.W.InstAt s.heap x ox C od) (hs : PySem.W.findIn K (.ref C) "__ne__" = some (some (.builtin "object.__ne__")))
    (h : wpAny M A (call (.builtin "object.__ne__") (.ref x :: args)) (fun v => Q (some v)) E s) : wpAny M A (callSpecialIfBound? (.ref x) "__ne__" args) Q E s := by
  simp only [callSpecialIfBound?, bindSpecialIfBound?]
  refine wpAny_holding (wpAny_bind (wpAny_bind (wpAny_bind (I.type.here ((PySem.W.looks_findIn X hs).here ?_)))))
  refine wpAny_bind (wpAny_askSetting (wpAny_ite ?_))
  have fin : wpAny M A (call (.builtin "object.__ne__") ([.ref x] ++ args) >>= fun v => pure (some v)) Q E s := wpAny_bind (wpAny_mono h (fun v s' h' => wpAny_pure h') fun _ _ h' => h')
  split
  · exact wpAny_bind (wpAny_of_eq (F.cmp_object.ne.bind _) (wpAny_pure (by exact fin)))
  · exact wpAny_tryCatch (wpAny_bind (wpAny_of_eq (F.cmp_object.ne.bind _) (wpAny_pure (by exact fin))))
theorem rc_ne {Q : Value → Shared → Prop} (hu : A.units < cLine) (hu1 : A.in1.units < cLine) (X : K.In s.heap) (I : PySem.W.InstAt s.heap x ox C od) (hb : PySem.W.Looks (model prog w) s.heap (typeOf b) tb) (hn : PySem.W.notFirst K C tb = true) (hm : PySem.W.mroIn K C (.type "object") = some true)
    (hs : PySem.W.findIn K (.ref C) "__eq__" = some (some (.ref f))) (hf : PySem.W.isFn K (.ref f) = true) (hne : PySem.W.findIn K (.ref C) "__ne__" = some (some (.builtin "object.__ne__")))
    (h : wpAny (model prog w) A.in1 (call (.ref f) [.ref x, b]) (fun v s' => ∃ t, v = .bool t ∧ Q (.bool (!t)) s') E s) : wpAny (model prog w) A (richCompare .NotEq (.ref x) b) Q E s := by
  have one : wpAny (model prog w) A (tryCompare (.ref x) "__ne__" b) (fun r s' => ∃ v, r = some v ∧ Q v s') E s := by
    unfold tryCompare
    refine wpAny_bind (ifBound_objNe X I hne (call_ne hu1 X I hm hs hf (wpAny_mono h (fun v s' q => ?_) fun _ _ e => e)))
    obtain ⟨t, rfl, q⟩ := q
    exact ⟨t, rfl, wpAny_pure ⟨_, rfl, q⟩⟩
  unfold richCompare
  simp only [oneThing_ref]
  refine wpAny_holding (wpAny_bind (wpAny_cRoomFor hu ?_))
  refine wpAny_bind (I.type.here (wpAny_bind (hb.here ?_)))
  split
  · rename_i q
    have e : PySem.W.subIn K tb (.ref C) = some false := by
      rcases Bool.or_eq_true_iff.mp hn with e | e
      · rw [beq_iff_eq.mp e] at q; simp at q
      · exact beq_iff_eq.mp e
    refine wpAny_bind ((PySem.W.looks_subIn X e).here ?_)
    simp only [Bool.false_eq_true, if_false]
    refine wpAny_bind (wpAny_mono one (fun r s' z => ?_) fun _ _ e => e)
    obtain ⟨v, rfl, hq⟩ := z
    exact wpAny_pure hq
  · refine wpAny_bind (wpAny_pure ?_)
    simp only [Bool.false_eq_true, if_false]
    refine wpAny_bind (wpAny_mono one (fun r s' z => ?_) fun _ _ e => e)
    obtain ⟨v, rfl, hq⟩ := z
    exact wpAny_pure hq
end

def pEqO (neg : Bool) (c : Nat) (g : Fn) : F2 := fun x y h => if isOf c h x = true then (if (isOf c h y || (kindW h y).isSome) = true then (g [x, y] h).bind fun q => match q.1 with
    | .bl t => .ok (.bl (if neg then !t else t), q.2)
    | _ => .bad
    else .bad)
  else (if neg then pNe x y h else pEq x y h)
structure EqC (K : PySem.W.Frag) (C f : Addr) : Prop where
  i : IsiC K C
  m : Meth K C "__eq__" f
  ne : PySem.W.findIn K (.ref C) "__ne__" = some (some (.builtin "object.__ne__"))
  first : ∀ t : Kd, PySem.W.notFirst K C (.type t.name) = true
def rOwnE (K : PySem.W.Frag) (cm : Cm) (neg : Bool) (c : Nat) (g : Fn) : R2 := fun x y H Q => ∃ a dx fs tb, x = .ref a ∧ H a = some (.ins (cm c) dx fs) ∧ TyX K H y tb ∧ PySem.W.notFirst K (cm c) tb = true ∧ spRun K cm 2 g [x, y] H (fun v H' => ∃ t, v = .bl t ∧ Q (.bl (if neg then !t else t)) H') E0
section
variable {X : Cx} {cm : Cm} {k c : Nat} {g : Fn} {fA : Addr} {fd : FuncData} {ps : List Str}
theorem op_ownE (e : EqC X.K (cm c) fA) (F : FnG X.prog X.w X.K X.mg X.base CX0 k fA fd ps (spRun X.K cm 2 g)) (hr : Room (k + 1) X.A) (hu : X.A.units + 65 < cLine) (gd : X.A.guards = some []) (hb : Binds X.K fd ps []) :
    OpR X (compareOp .Eq) (rOwnE X.K cm false c g) ∧ OpR X (compareOp .NotEq) (rOwnE X.K cm true c g) := by
  constructor
  · intro pins s σ H x y v u Q I rx ry hq
    obtain ⟨a, dx, fs, tb, rfl, ha, ty, nf, sp⟩ := hq
    cases rx
    obtain ⟨mA, O, _⟩ := ins_get I.hok ha
    obtain ⟨od, J, _⟩ := O.look
    obtain ⟨P, Z, p, _⟩ := kit_of I ry ty
    obtain ⟨m, hF⟩ := I.fr
    have r2 : Vals [V.ref a, y] [Value.ref a, u] := .cons rfl (.cons ry .nil)
    have hl := F.len _ _ _ _ sp
    have hb2 := hb s [.ref a, u] I.kIn (by simpa using hl)
    show wpAny (model X.prog X.w) X.A (richCompare .Eq (.ref a) u) (EP X pins σ Q) X.xe s
    refine PySem.W.cmp_K (op := .Eq) (tb := tb) (by omega) hF I.ok.mod.kin J (Z.ty _ _ I.kIn p) nf e.m.at_ e.m.fn ?_
    refine wpAny_mono (run_G (args := ⟨[.ref a, u], []⟩) F (hr.mono (Nat.le_succ _)) gd (by simpa using hb2) r2 pass0 I sp) (fun w s' q => ?_) fun _ _ z => z
    obtain ⟨z, H', I', rz, t, rfl, q⟩ := q
    cases (show w = Value.bool t from rz)
    exact ⟨.bl t, H', I', rfl, q⟩
  · intro pins s σ H x y v u Q I rx ry hq
    obtain ⟨a, dx, fs, tb, rfl, ha, ty, nf, sp⟩ := hq
    cases rx
    obtain ⟨mA, O, _⟩ := ins_get I.hok ha
    obtain ⟨od, J, _⟩ := O.look
    obtain ⟨P, Z, p, _⟩ := kit_of I ry ty
    have r2 : Vals [V.ref a, y] [Value.ref a, u] := .cons rfl (.cons ry .nil)
    have hl := F.len _ _ _ _ sp
    have hb2 := hb s [.ref a, u] I.kIn (by simpa using hl)
    show wpAny (model X.prog X.w) X.A (richCompare .NotEq (.ref a) u) (EP X pins σ Q) X.xe s
    refine rc_ne (tb := tb) (by omega) (by show X.A.units + 1 < cLine; omega) I.kIn J (Z.ty _ _ I.kIn p) nf e.i.hm e.m.at_ e.m.fn e.ne ?_
    refine wpAny_call (codeAny_mono (F.run X.A.in1 X.stack s H ⟨[.ref a, u], []⟩ [.ref a, u] [.ref a, y] _ E0 gd hr.in1 I.env0.in1 (by simpa using hb2) r2 sp) fun r s' hq => ?_)
    have := ends_of (E := E0) (pins := pins) (σ := σ) (H := H) (s := s) pass0 I hq
    rcases r with w | fl
    · exact this
    · rcases fl with _ | _ | _ | w
      · exact False.elim this
      · exact False.elim this
      · exact False.elim this
      · obtain ⟨z, H', I', rz, t, rfl, q⟩ := this
        cases (show w = Value.bool t from rz)
        exact ⟨t, rfl, .bl (!t), H', I', rfl, q⟩
theorem ok_ownE {K : PySem.W.Frag} (e : EqC K (cm c) fA) (neg : Bool) (r0 : R2) (k0 : Ok2 K cm (if neg then pNe else pEq) r0) : Ok2 K cm (pEqO neg c g) (fun x y H Q => rOwnE K cm neg c g x y H Q ∨ r0 x y H Q) := by
  intro mu Z H h w1 w2 w h' v1 v2 Q rl q1 q2 ev f
  unfold pEqO at ev
  split at ev
  · rename_i hi
    split at ev
    · rename_i hk
      obtain ⟨q, e1, ev⟩ := Res.bind_eq_ok ev
      left
      have inst : ∀ {x : W} {v : V}, RW K cm mu Z x v → isOf c h x = true → ∃ a dx fs, v = .ref a ∧ H a = some (.ins (cm c) dx fs) := fun {x v} qx hx => by
        unfold isOf at hx
        cases ho : objOf h x with
        | none =>
          rw [ho] at hx
          cases hx
        | some cf =>
          obtain ⟨c2, fs⟩ := cf
          rw [ho] at hx
          obtain rfl : c2 = c := eq_of_beq (show (c2 == c) = true from hx)
          obtain ⟨a, dx, fvs, e1, hA, kf⟩ := obj_at rl qx ho
          exact ⟨a, dx, _, e1, hA⟩
      obtain ⟨a, dx, fs, rfl, hA⟩ := inst q1 hi
      have ty : ∃ tb, TyX K H v2 tb ∧ PySem.W.notFirst K (cm c) tb = true := by
        rcases Bool.or_eq_true_iff.mp hk with z | z
        · obtain ⟨b, dy, gs, rfl, hB⟩ := inst q2 z
          exact ⟨.ref (cm c), .base (.ins hB e.i.cl e.i.ha e.i.hn e.i.tk e.i.hm), by unfold PySem.W.notFirst; simp⟩
        · obtain ⟨u, hu⟩ := Option.isSome_iff_exists.mp z
          exact ⟨_, kindW_of rl q2 hu, e.first u⟩
      obtain ⟨tb, ty, nf⟩ := ty
      obtain ⟨w0, h0⟩ := q
      refine ⟨a, dx, fs, tb, rfl, hA, ty, nf, mu, Z, h, [w1, w2], w0, h0, rl, ⟨_, [v2], rfl, q1, ⟨v2, [], rfl, q2, rfl⟩⟩, rfl, e1, fun mu' Z' H' v xe r' w' => ?_⟩
      cases w0 with
      | bl t =>
        cases ev
        exact ⟨t, w', f _ _ _ _ xe r' rfl⟩
      | _ => cases ev
    · cases ev
  · right
    refine k0 mu Z H h w1 w2 w h' v1 v2 Q rl q1 q2 ?_ f
    cases neg <;> exact ev
theorem bg_ownE {neg : Bool} : BoolG (pEqO neg c g) := fun x y h w h' ev => by
  unfold pEqO at ev
  split at ev
  · split at ev
    · obtain ⟨q, e1, ev⟩ := Res.bind_eq_ok ev
      obtain ⟨w0, h0⟩ := q
      cases w0 with
      | bl t =>
        cases ev
        exact ⟨_, rfl⟩
      | _ => cases ev
    · cases ev
  · cases neg with
    | true => exact bg_ne _ _ _ _ _ ev
    | false => exact bg_eq _ _ _ _ _ ev
end
end Ti


namespace Ti
open PySem PySem.Spec PyProof.Rows L2

theorem callO_ofK {M : Model} {A : Around} {E : Value → Shared → Prop} {s : Shared} {a : Addr} {pos : Pos} {Q : Value → Shared → Prop} {args : List (Bool × Sem Value)} {keywords : List (Option Str × Sem Value)} (hplain : (args.any (·.1) || keywords.any (·.1.isNone)) = false)
    (h : wpAny M A (evalArgs (.ref a) true args keywords) (fun z s₁ => (∃ C ox od, PySem.W.InstAt s₁.heap a ox C od ∧ ox.data = .plain) ∧ wpAny M A (call (.ref a) ([] ++ z.pos) z.kw) Q E s₁) E s) : wpAny M A (callWith pos (.ref a) [] args keywords) Q E s := by
  unfold callWith
  refine wpAny_bind (wpAny_holding (wpAny_mono h (fun z s₁ h₁ => wpAny_bind (wpAny_standAt ?_)) fun _ _ y => y))
  obtain ⟨⟨C, ox, od, J, hd⟩, h₁⟩ := h₁
  have L := PySem.W.kco_keeper (M := M) J hd
  simp only [hplain]
  refine wpAny_bind (L.here ?_)
  have tail : ∀ {t : Sem Value}, wpAny M A t Q E s₁ → wpAny M A (t >>= fun r => holding [r] point >>= fun _ => pure r) Q E s₁ :=
    fun ht => wpAny_bind (wpAny_mono ht (fun r s₂ hr => wpAny_bind (wpAny_holding (wpAny_point (wpAny_pure hr)))) fun _ _ y => y)
  exact tail (wpAny_operateT h₁)
structure KwI (K : PySem.W.Frag) (fd : FuncData) (ps ks : List Str) (g : List Value → List Value) (gV : List V → List V) : Prop where
  to : ∀ (s : Shared) (u : Value) (ws : List Value), K.In s.heap → ws.length = ks.length → BindsTo s fd ⟨[u], ks.zip ws⟩ (ps.zip (u :: g ws))
  rel : ∀ {zs : List V} {ws : List Value}, Vals zs ws → Vals (gV zs) (g ws)
def tMakeK (C : Addr) (m : Nat) (sp : Sp) (gV : List V → List V) (E : XK) (t : TA) : TE := fun σ H Q => t σ H fun zs H1 => zs.length = m ∧ ∀ x dx, H1 x = none → H1 dx = none → dx ≠ x →
  sp (.ref x :: gV zs) (upd (upd H1 dx (.own x)) x (.ins C dx [])) (fun v H2 => v = .non ∧ Q (.ref x) H2) E
def tCallOK (X : Cx) (C : Addr) (m : Nat) (sp : Sp) (gV : List V → List V) (E : XK) (tf : TE) (t : TA) : TE := fun σ H Q => tf σ H fun y H1 => ∃ a, y = .ref a ∧ t σ H1 fun zs H2 => StX.InsC X H2 a C ∧ zs.length = m ∧ sp (.ref a :: gV zs) H2 Q E
section
variable {X : Cx} {CX : CXT} {k : Nat} {f C : Addr} {fd : FuncData} {ps ks : List Str} {sp : Sp} {E : XK} {x : Str} {p pos : Pos} {t : TA} {tf : TE} {g : List Value → List Value} {gV : List V → List V} {kws : List Keyword} {fe : Expr}
theorem run_makeGK {pins : List (Addr × Obj)} {σ : L2.St} {H : Hp} {s : Shared} {Q : VK} {ws : List Value} {zs : List V} (M : Mk X.K C f) (F : FnG X.prog X.w X.K X.mg X.base CX k f fd ps sp) (hr : Room (k + 1) X.A) (gd : X.A.guards = some []) (hb : KwI X.K fd ps ks g gV)
    (hx : Passes CX X E) (I : Inv X pins σ H s) (r : Vals zs ws) (l : zs.length = ks.length)
    (h : ∀ x dx, H x = none → H dx = none → dx ≠ x → sp (.ref x :: gV zs) (upd (upd H dx (.own x)) x (.ins C dx [])) (fun v H2 => v = .non ∧ Q (.ref x) H2) E) :
    wpAny (model X.prog X.w) X.A (call (.ref C) [] (ks.zip ws)) (EP X pins σ Q) X.xe s := by
  have hq := h (s.heap.objs.size + 1) s.heap.objs.size (I.hok.fresh (Nat.le_succ _)) (I.hok.fresh (Nat.le_refl _)) (Nat.ne_of_lt (Nat.lt_succ_self _))
  have I2 := Inv.made (C := C) I
  have r2 : Vals (V.ref (s.heap.objs.size + 1) :: gV zs) (Value.ref (s.heap.objs.size + 1) :: g ws) := .cons rfl (hb.rel r)
  refine wpAny_call (make_map (f := f) I.kIn M.makes M.init (beq_iff_eq.mp M.fn) (codeAny_mono (F.run _ X.stack _ _ ⟨[Value.ref (s.heap.objs.size + 1)], ks.zip ws⟩ (Value.ref (s.heap.objs.size + 1) :: g ws) _ _ E (make_guards.trans gd) (hr.make C [] (ks.zip ws))
    (I2.env0.make C [] (ks.zip ws)) (hb.to _ (Value.ref (s.heap.objs.size + 1)) ws I2.kIn (r.length.symm.trans l)) r2 hq) fun r s' hq' => ?_))
  cases r with
  | error e => exact hx pins σ _ _ e s' I2 hq'
  | ok fl =>
    cases fl with
    | ret u =>
      obtain ⟨v, H', I3, rv, ev, q3⟩ := I2.after hq'
      subst ev
      exact ⟨rv, ⟨V.ref (s.heap.objs.size + 1), H', I3, rfl, q3⟩⟩
    | next => exact False.elim hq'
    | brk => exact False.elim hq'
    | cont => exact False.elim hq'
theorem pe_makeGK (M : Mk X.K C f) (F : FnG X.prog X.w X.K X.mg X.base CX k f fd ps sp) (hr : Room (k + 1) X.A) (gd : X.A.guards = some []) (hg : Gl X x) (hm : X.mg x = some (.ref C)) (hb : KwI X.K fd ps ks g gV) (hx : Passes CX X E)
    (hkw : PK X kws t) (hdb : (x == ("__debug__" : Str)) = false)
    (hall : ∀ pos, (backToKw pos (keywordEach kws X.env)).all (·.1.isSome) = true) (hks : ∀ pos, (backToKw pos (keywordEach kws X.env)).filterMap (·.1) = ks) (hno : ∀ pos, (backToKw pos (keywordEach kws X.env)).any (·.1.isNone) = false) :
    PE X (.Call (.Name x p) [] kws pos) (tMakeK C ks.length sp gV E t) := by
  refine ⟨fun pins s σ H Q I h => ?_⟩
  refine wpAny_Call_Name_kw (ld_glob I hg hm ?_ hdb)
  refine PySem.W.callWith_KW0 (h₀ := X.base) I.ok.mod.kin M.kp (hall pos) (thn (hkw.run pos pins s σ H _ I h) fun ws s2 ⟨zs, H2, I2, rz, l, q⟩ => ⟨I2.kIn, ?_⟩) ?_
  · rw [hks pos]
    exact run_makeGK M F hr gd hb hx I2 rz l q
  · rw [hno pos]
    rfl
theorem pe_callOGK {gA : Addr} (hf : PE X (.Name x p) tf) (c : StX.CallO X.K C gA) (F : FnG X.prog X.w X.K X.mg X.base CX k gA fd ps sp) (hr : Room k X.A) (gd : X.A.guards = some []) (hb : KwI X.K fd ps ks g gV) (hx : Passes CX X E) (hkw : PK X kws t)
    (hall : ∀ pos, (backToKw pos (keywordEach kws X.env)).all (·.1.isSome) = true) (hks : ∀ pos, (backToKw pos (keywordEach kws X.env)).filterMap (·.1) = ks) (hno : ∀ pos, (backToKw pos (keywordEach kws X.env)).any (·.1.isNone) = false) :
    PE X (.Call (.Name x p) [] kws pos) (tCallOK X C ks.length sp gV E tf t) := by
  refine ⟨fun pins s σ H Q I h => ?_⟩
  refine wpAny_Call_Name_kw (thn (hf.run pins s σ H _ I h) fun u s1 ⟨y, H1, I1, ry, a, ey, q⟩ => ?_)
  subst ey
  obtain rfl : u = Value.ref a := ry
  refine callO_ofK (by rw [hno pos]; rfl) (evalArgs_kw2_nil (hall pos) (thn (hkw.run pos pins s1 σ H1 _ I1 q) fun ws s2 ⟨zs, H2, I2, rz, hi, l, q2⟩ => ?_))
  obtain ⟨ox, od, J, hd⟩ := StX.insC_at I2 hi
  refine ⟨⟨C, ox, od, J, hd⟩, ?_⟩
  rw [hks pos]
  refine wpAny_call (PySem.W.kco_code I2.kIn J hd c.at_ c.fn c.fi ?_)
  have r2 : Vals (V.ref a :: gV zs) (Value.ref a :: g ws) := .cons rfl (hb.rel rz)
  refine codeAny_mono (F.run X.A X.stack s2 H2 ⟨[Value.ref a], ks.zip ws⟩ (Value.ref a :: g ws) (V.ref a :: gV zs) Q E gd hr I2.env0 (hb.to s2 (.ref a) ws I2.kIn (rz.length.symm.trans l)) r2 q2) fun r s' hq => ?_
  have := ends_of hx I2 hq
  rcases r with u | fl
  · exact this
  · rcases fl with _ | _ | _ | _
    all_goals first | exact False.elim this | exact this
end

def eMkK (c : Nat) (f : Fn) (n m : Nat) (ix : List Nat) (es : List DE) : DE := fun ρ h => (eL es ρ h).bind fun p => if ix.length + 1 = n ∧ p.1.length = m then mkObj c f (permW ix p.1) p.2 else .bad
def eCoK (c : Nat) (f : Fn) (n m : Nat) (ix : List Nat) (o : DE) (es : List DE) : DE := fun ρ h => (o ρ h).bind fun q => (eL es ρ q.2).bind fun p => if (ix.length + 1 = n ∧ p.1.length = m) ∧ isOf c p.2 q.1 = true then f (q.1 :: permW ix p.1) p.2 else .bad
section
variable {X : Cx} {cm : Cm} {k n c : Nat} {g : Fn} {fA : Addr} {fd : FuncData} {ps ks : List Str} {x : Str} {p pos : Pos} {kws : List Keyword} {ix : List Nat} {ms : List DE} {mo : DE}
theorem q_makeK (M : Mk X.K (cm c) fA) (F : FnG X.prog X.w X.K X.mg X.base CX0 k fA fd ps (spRun X.K cm n g)) (hr : Room (k + 1) X.A) (gd : X.A.guards = some []) (hg : Gl X x) (hm : X.mg x = some (.ref (cm c))) (hb : KwI X.K fd ps ks (permU ix) (permV ix))
    (ha : PK X kws (tOL X.K cm ms)) (hdb : (x == ("__debug__" : Str)) = false)
    (hall : ∀ pos, (backToKw pos (keywordEach kws X.env)).all (·.1.isSome) = true) (hks : ∀ pos, (backToKw pos (keywordEach kws X.env)).filterMap (·.1) = ks) (hno : ∀ pos, (backToKw pos (keywordEach kws X.env)).any (·.1.isNone) = false) :
    QE X cm (.Call (.Name x p) [] kws pos) (eMkK c g n ks.length ix ms) := by
  refine PE.wk (pe_makeGK M F hr gd hg hm hb pass0 ha hdb hall hks hno) fun σ H Q q => ?_
  obtain ⟨mu, Z, ρ, h, w, h', rl, s, ev0, f⟩ := q
  obtain ⟨q1, e1, ev1⟩ := Res.bind_eq_ok ev0
  split at ev1
  · rename_i hn
    refine ⟨mu, Z, ρ, h, q1.1, q1.2, rl, s, e1, fun mu1 Z1 H1 vs x1 r1 w1 => ⟨w1.length.trans hn.2, fun x dx hx hdx hne => ?_⟩⟩
    exact mk_sp r1 (perm_rw w1) (by unfold permW; rw [List.length_map]; exact hn.1) ev1 (fun m z hh v xe r q => f m z hh v (x1.trans xe) r q) x dx hx hdx hne
  · cases ev1
theorem q_callOK {gA : Addr} (c' : StX.CallO X.K (cm c) gA) (F : FnG X.prog X.w X.K X.mg X.base CX0 k gA fd ps (spRun X.K cm n g)) (hr : Room k X.A) (gd : X.A.guards = some []) (hb : KwI X.K fd ps ks (permU ix) (permV ix)) (ho : QE X cm (.Name x p) mo) (ha : PK X kws (tOL X.K cm ms))
    (hall : ∀ pos, (backToKw pos (keywordEach kws X.env)).all (·.1.isSome) = true) (hks : ∀ pos, (backToKw pos (keywordEach kws X.env)).filterMap (·.1) = ks) (hno : ∀ pos, (backToKw pos (keywordEach kws X.env)).any (·.1.isNone) = false) :
    QE X cm (.Call (.Name x p) [] kws pos) (eCoK c g n ks.length ix mo ms) := by
  refine PE.wk (pe_callOGK ho c' F hr gd hb pass0 ha hall hks hno) fun σ H Q q => ?_
  obtain ⟨mu, Z, ρ, h, w, h', rl, s, ev0, f⟩ := q
  obtain ⟨q1, e1, ev1⟩ := Res.bind_eq_ok ev0
  obtain ⟨q2, e2, ev2⟩ := Res.bind_eq_ok ev1
  refine ⟨mu, Z, ρ, h, q1.1, q1.2, rl, s, e1, fun mu1 Z1 H1 v1 x1 r1 w1 => ?_⟩
  split at ev2
  · rename_i hq
    obtain ⟨hn, hq⟩ := hq
    unfold isOf at hq
    cases ho' : objOf q2.2 q1.1 with
    | none =>
      rw [ho'] at hq
      cases hq
    | some cf =>
      obtain ⟨c2, fs⟩ := cf
      rw [ho'] at hq
      obtain rfl : c2 = c := eq_of_beq (show (c2 == c) = true from hq)
      have isr : ∃ a, v1 = .ref a := by
        cases hw : q1.1 with
        | obj c3 fs3 => rw [hw] at w1; obtain ⟨a, _, _, e', _⟩ := w1; exact ⟨a, e'⟩
        | ref i => rw [hw] at w1; obtain ⟨a, e', _⟩ := w1; exact ⟨a, e'⟩
        | _ => rw [hw] at ho'; cases ho'
      obtain ⟨a, rfl⟩ := isr
      refine ⟨a, rfl, mu1, Z1, ρ, q1.2, q2.1, q2.2, r1, s.ext x1, e2, fun mu2 Z2 H2 vs x2 r2 w2 => ?_⟩
      have w3 := w1.mono x2.z x2.m
      obtain ⟨a', dx, fvs, ea, hA, kf⟩ := obj_at r2 w3 ho'
      cases ea
      exact ⟨.inr ⟨dx, _, hA⟩, w2.length.trans hn.2, mu2, Z2, q2.2, q1.1 :: permW ix q2.1, w, h', r2, ⟨_, _, rfl, w3, perm_rw w2⟩, by rw [List.length_cons]; unfold permW; rw [List.length_map]; exact hn.1, ev2, fun m z hh v xe r q => f m z hh v ((x1.trans x2).trans xe) r q⟩
  · cases ev2
end
end Ti


namespace Ti
open PySem PySem.Spec PyProof.Rows L2
def pAddO (cl : Bool) (c : Nat) (g : Fn) : F2 := fun x y h => if isOf c h x = true ∧ isOf c h y = true then g [x, y] h else pAdd cl x y h
def rOwnA (K : PySem.W.Frag) (cm : Cm) (c : Nat) (g : Fn) : R2 := fun x y H Q => ∃ a b dx dy fs gs, x = .ref a ∧ y = .ref b ∧ H a = some (.ins (cm c) dx fs) ∧ H b = some (.ins (cm c) dy gs) ∧ spRun K cm 2 g [x, y] H Q E0
section
variable {X : Cx} {cm : Cm} {k c : Nat} {g : Fn} {fA : Addr} {fd : FuncData} {ps : List Str}
theorem op_ownA (me : Meth X.K (cm c) "__add__" fA) (sf : PySem.W.selfFirst X.K (cm c) = true) (F : FnG X.prog X.w X.K X.mg X.base CX0 k fA fd ps (spRun X.K cm 2 g)) (hr : Room k X.A) (gd : X.A.guards = some []) (hb : Binds X.K fd ps []) :
    OpR X (binaryOp .Add) (rOwnA X.K cm c g) := by
  intro pins s σ H x y v u Q I rx ry hq
  obtain ⟨a, b, dx, dy, fs, gs, rfl, rfl, ha, hB, sp⟩ := hq
  cases rx
  cases ry
  obtain ⟨mA, O, _⟩ := ins_get I.hok ha
  obtain ⟨od, J, _⟩ := O.look
  obtain ⟨mB, O', _⟩ := ins_get I.hok hB
  obtain ⟨od', J', _⟩ := O'.look
  obtain ⟨m, hF⟩ := I.fr
  have r2 : Vals [V.ref a, V.ref b] [Value.ref a, Value.ref b] := .cons rfl (.cons rfl .nil)
  have hl := F.len _ _ _ _ sp
  have hb2 := hb s [.ref a, .ref b] I.kIn (by simpa using hl)
  refine PySem.W.binop_K (op := .Add) hF I.ok.mod.kin J J'.type sf me.at_ me.fn ?_
  refine wpAny_mono (run_G (args := ⟨[.ref a, .ref b], []⟩) F hr gd (by simpa using hb2) r2 pass0 I sp) (fun w s' q => ?_) fun _ _ z => z
  obtain ⟨z, H', I', rz, q⟩ := q
  have : PySem.W.CmpBack (fun w s' => EP X pins σ Q w s') w s' := by
    cases w <;> first | exact ⟨z, H', I', rz, q⟩ | (exfalso; cases z <;> first | (cases rz; done) | (obtain ⟨t, ht⟩ := rz; cases ht; done))
  exact this
theorem ok_ownA {K : PySem.W.Frag} {cl : Bool} (r0 : R2) (k0 : Ok2 K cm (pAdd cl) r0) : Ok2 K cm (pAddO cl c g) (fun x y H Q => rOwnA K cm c g x y H Q ∨ r0 x y H Q) := by
  intro mu Z H h w1 w2 w h' v1 v2 Q rl q1 q2 ev f
  unfold pAddO at ev
  split at ev
  · rename_i hi
    left
    have inst : ∀ {x : W} {v : V}, RW K cm mu Z x v → isOf c h x = true → ∃ a dx fs, v = .ref a ∧ H a = some (.ins (cm c) dx fs) := fun {x v} qx hx => by
      unfold isOf at hx
      cases ho : objOf h x with
      | none =>
        rw [ho] at hx
        cases hx
      | some cf =>
        obtain ⟨c2, fs⟩ := cf
        rw [ho] at hx
        obtain rfl : c2 = c := eq_of_beq (show (c2 == c) = true from hx)
        obtain ⟨a, dx, fvs, e1, hA, kf⟩ := obj_at rl qx ho
        exact ⟨a, dx, _, e1, hA⟩
    obtain ⟨a, dx, fs, rfl, hA⟩ := inst q1 hi.1
    obtain ⟨b, dy, gs, rfl, hB⟩ := inst q2 hi.2
    exact ⟨a, b, dx, dy, fs, gs, rfl, rfl, hA, hB, mu, Z, h, [w1, w2], w, h', rl, ⟨_, [_], rfl, q1, ⟨_, [], rfl, q2, rfl⟩⟩, rfl, ev, f⟩
  · exact .inr (k0 mu Z H h w1 w2 w h' v1 v2 Q rl q1 q2 ev f)
def pLenO (c : Nat) (g : Fn) : F1 := fun x h => if isOf c h x = true then (g [x] h).bind fun q => match q.1 with
    | .int n => if 0 ≤ n ∧ n < 2 ^ 63 then .ok (.int n, q.2) else .bad
    | _ => .bad
  else pLen x h
def rOwnL (K : PySem.W.Frag) (cm : Cm) (c : Nat) (g : Fn) : V → Hp → VK → Prop := fun x H Q => ∃ a dx fs, x = .ref a ∧ H a = some (.ins (cm c) dx fs) ∧ spRun K cm 1 g [x] H (fun v H' => ∃ n : Int, v = .int n ∧ (0 ≤ n ∧ n < 2 ^ 63) ∧ Q (.int n) H') E0
theorem call_ownL (me : Meth X.K (cm c) "__len__" fA) (F : FnG X.prog X.w X.K X.mg X.base CX0 k fA fd ps (spRun X.K cm 1 g)) (hr : Room (k + 1) X.A) (gd : X.A.guards = some []) (hb : Binds X.K fd ps []) :
    CallR X (.builtin "len") (fun xs H Q => ∃ x, xs = [x] ∧ rOwnL X.K cm c g x H Q) := by
  intro pins s σ H xs us Q I r hq
  obtain ⟨x, rfl, a, dx, fs, rfl, ha, sp⟩ := hq
  obtain ⟨u, rfl, rx⟩ := vals1 r
  cases rx
  obtain ⟨mA, O, _⟩ := ins_get I.hok ha
  obtain ⟨od, J, _⟩ := O.look
  obtain ⟨m, hF⟩ := I.fr
  have r2 : Vals [V.ref a] [Value.ref a] := .cons rfl .nil
  have hl := F.len _ _ _ _ sp
  have hb2 := hb s [.ref a] I.kIn (by simpa using hl)
  refine PySem.W.len_K hF I.ok.mod.kin J me.at_ me.fn ?_
  refine wpAny_call (codeAny_mono (F.run X.A.in1 X.stack s H ⟨[.ref a], []⟩ [.ref a] [.ref a] _ E0 gd hr.in1 I.env0.in1 (by simpa using hb2) r2 sp) fun r s' hq => ?_)
  have := ends_of (E := E0) (pins := pins) (σ := σ) (H := H) (s := s) pass0 I hq
  rcases r with w | fl
  · exact this
  · rcases fl with _ | _ | _ | w
    · exact False.elim this
    · exact False.elim this
    · exact False.elim this
    · obtain ⟨z, H', I', rz, n, rfl, hn, q⟩ := this
      obtain ⟨t, rfl⟩ := (show ∃ t, w = Value.int n t from rz)
      exact ⟨hn, .int n, H', I'.kept (t' := s'.toks + 1) (fun b o e => e), ⟨_, rfl⟩, q⟩
theorem ok_ownL {K : PySem.W.Frag} : Ok1 K cm (pLenO c g) (fun v H Q => (∃ x, [v] = [x] ∧ rOwnL K cm c g x H Q) ∨ rLenX K [v] H Q) := by
  intro mu Z H h w1 w h' v1 Q rl q1 ev f
  unfold pLenO at ev
  split at ev
  · rename_i hi
    left
    obtain ⟨q, e1, ev⟩ := Res.bind_eq_ok ev
    unfold isOf at hi
    cases ho : objOf h w1 with
    | none =>
      rw [ho] at hi
      cases hi
    | some cf =>
      obtain ⟨c2, fs⟩ := cf
      rw [ho] at hi
      obtain rfl : c2 = c := eq_of_beq (show (c2 == c) = true from hi)
      obtain ⟨a, dx, fvs, rfl, hA, kf⟩ := obj_at rl q1 ho
      obtain ⟨w0, h0⟩ := q
      refine ⟨_, rfl, a, dx, _, rfl, hA, mu, Z, h, [w1], w0, h0, rl, ⟨_, [], rfl, q1, rfl⟩, rfl, e1, fun mu' Z' H' v xe r' w' => ?_⟩
      cases w0 with
      | int n =>
        have ev : (if 0 ≤ n ∧ n < 2 ^ 63 then Res.ok (W.int n, h0) else .bad) = .ok (w, h') := ev
        split at ev
        · rename_i hn
          cases ev
          exact ⟨n, w', hn, f _ _ _ _ xe r' rfl⟩
        · cases ev
      | _ => cases ev
  · exact .inr (ok_len mu Z H h w1 w h' v1 Q rl q1 ev f)
end
end Ti


namespace Ti
open PySem PySem.Spec PyProof.Rows L2

def pIsE (ans : List (Nat × Bool)) (objs : List Nat) : F1 := fun x h => match x with
  | .err c _ => (match ans.lookup c with | some b => .ok (.bl b, h) | none => .bad)
  | x => (match objOf h x with
    | some (c, _) => if c ∈ objs then .ok (.bl false, h) else .bad
    | none => (match kindW h x with
      | some _ => .ok (.bl false, h)
      | none => .bad))
def pFle (cs : List Nat) (f : Str) : F1 := fun x h => match x with
  | .err c fs => if c ∈ cs then (match fs.lookup f with | some w => .ok (w, h) | none => .bad) else .bad
  | _ => .bad
structure IseC (K : PySem.W.Frag) (cm : Cm) (c : Nat) (ans : List (Nat × Bool)) (objs : List Nat) : Prop where
  no : ∀ t : Kd, PySem.W.kitOne K (.type t.name) (.ref (cm c)) = some false
  er : ∀ c' b, ans.lookup c' = some b → ErrC K (cm c') ∧ PySem.W.kitOne K (.ref (cm c')) (.ref (cm c)) = some b ∧ PySem.W.exmOne K (.ref (cm c')) (.ref (cm c)) = some b
  ob : ∀ o ∈ objs, IsiC K (cm o) ∧ PySem.W.kitOne K (.ref (cm o)) (.ref (cm c)) = some false
section
variable {K : PySem.W.Frag} {cm : Cm} {mu : List Addr} {Z H : Hp} {h : Hh}
theorem err_at (r : RelH K cm mu Z H h) {v : V} {c : Nat} {fs : List (Str × W)} (q : RW K cm mu Z (.err c fs) v) : ∃ a oe, v = .ref a ∧ ErrAt H a (cm c) oe := by
  obtain ⟨a, oe, e, z, h1, h2, h3⟩ := q
  refine ⟨a, oe, e, r.zh a _ z, h1, h2, ?_⟩
  rcases h3 with h3 | ⟨dx, fvs, h3, h4, _⟩
  · exact .inl h3.1
  · exact .inr ⟨dx, _, h3, r.zh dx _ h4⟩
end
section
variable {X : Cx} {cm : Cm} {x : Str} {p pos apos : Pos} {e o : Expr} {mo : DE}
theorem q_isE {U : Str} {c : Nat} {ans : List (Nat × Bool)} {objs : List Nat} {m : DE} {p2 : Pos} (I0 : IseC X.K cm c ans objs) (hg : Gl X x) (hm : X.mg x = none) (hv : bootBuiltins x = some (.builtin "isinstance")) (ha : QE X cm e m) (hn : x ≠ "__name__") (hdb : (x == ("__debug__" : Str)) = false)
    (hgT : Gl X U) (hmT : X.mg U = some (.ref (cm c))) (hdT : (U == ("__debug__" : Str)) = false) (h1 : starEach [e, .Name U p2] X.env = (false, eval e X.env) :: starEach [.Name U p2] X.env) :
    QE X cm (.Call (.Name x p) [e, .Name U p2] [] pos) (e1 (pIsE ans objs) m) := by
  have hT : PE X (.Name U p2) (tC (.ref (cm c))) := pe_gcls hgT hmT hdT
  refine PE.wk (pe_callB (call_isi.or call_isF) hg hm hv (pa_cons ha (pa_cons hT pa_nil rfl) h1) hn hdb h1 rfl) fun σ H Q q => ?_
  obtain ⟨mu, Z, ρ, h, w, h', rl, s, ev0, f⟩ := q
  obtain ⟨p, e1, ev1⟩ := Res.bind_eq_ok ev0
  refine ⟨mu, Z, ρ, h, p.1, p.2, rl, s, e1, fun mu1 Z1 H1 v1 x1 r1 w1 => ?_⟩
  unfold pIsE at ev1
  split at ev1
  · rename_i c' fs e2
    split at ev1
    · rename_i b e3
      cases ev1
      rw [e2] at w1
      obtain ⟨a, oe, rfl, ea⟩ := err_at r1 w1
      obtain ⟨k1, k2, _⟩ := I0.er _ _ e3
      exact .inr ⟨a, cm c', oe, .ref (cm c), .ref (cm c), b, rfl, ea, k1, .own _, k2, f _ _ _ _ x1 r1 rfl⟩
    · cases ev1
  · split at ev1
    · rename_i c' fs e2
      split at ev1
      · rename_i hc
        cases ev1
        obtain ⟨a, dx, fvs, rfl, hA, kf⟩ := obj_at r1 w1 e2
        obtain ⟨k0, k2⟩ := I0.ob _ hc
        exact .inl ⟨.ref a, .ref (cm c), .ref (cm c'), .ref (cm c), false, rfl, .own _, .base (.ins hA k0.cl k0.ha k0.hn k0.tk k0.hm), k2, f _ _ _ _ x1 r1 rfl⟩
      · cases ev1
    · split at ev1
      · rename_i u e2
        cases ev1
        exact .inl ⟨v1, .ref (cm c), .type u.name, .ref (cm c), false, rfl, .own _, kindW_of r1 w1 e2, I0.no u, f _ _ _ _ x1 r1 rfl⟩
      · cases ev1
theorem q_fle {cs : List Nat} {f : Str} (hc : ∀ c ∈ cs, ErrC X.K (cm c) ∧ PySem.W.findIn X.K (.ref (cm c)) f = some none) (ho : QE X cm o mo) (hs : attributeBase o f X.env (eval o X.env) = eval o X.env) : QE X cm (.Attribute o f apos) (e1 (pFle cs f) mo) := by
  refine PE.wk (pe_xfF ho hs) fun σ H Q q => ?_
  obtain ⟨mu, Z, ρ, h, w, h', rl, s, e, fn⟩ := q
  obtain ⟨q1, e1, e⟩ := Res.bind_eq_ok e
  unfold pFle at e
  split at e
  · rename_i c fs e2
    split at e
    · rename_i hm
      split at e
      · rename_i u e3
        cases e
        refine ⟨mu, Z, ρ, h, q1.1, q1.2, rl, s, e1, fun mu1 Z1 H1 v1 x1 r1 w1 => ?_⟩
        rw [e2] at w1
        obtain ⟨a, oe, ev, z, h1, h2, h3⟩ := w1
        rcases h3 with h3 | ⟨dx, fvs, h3, h4, k⟩
        · rw [h3.2] at e3
          cases e3
        · obtain ⟨v, l, rw_⟩ := (fld_lookup (f := f) k).1 _ e3
          exact ⟨a, cm c, dx, oe, _, v, ev, r1.zh a _ z, h1, h2, h3, r1.zh dx _ h4, l, (hc c hm).1, (hc c hm).2, fn _ _ _ _ x1 r1 rw_⟩
      · cases e
    · cases e
  · cases e
end

def FinE (K : PySem.W.Frag) (cm : Cm) (mu : List Addr) (Z H : Hp) (e : W) (h' : Hh) (E : XK) : Prop :=
  ∃ c fs, e = .err c fs ∧ ∀ mu' Z' H' d fvs, Ext mu Z H mu' Z' H' → RelH K cm mu' Z' H' h' → Z' d = some (.xd ((fs.map (·.1)).zip fvs)) → RWf K cm mu' Z' fs fvs → E (.ref (cm c)) (some d) H'
theorem FinE.ext {K : PySem.W.Frag} {cm : Cm} {mu mu1 : List Addr} {Z H Z1 H1 : Hp} {e : W} {h' : Hh} {E : XK} (x : Ext mu Z H mu1 Z1 H1) (f : FinE K cm mu Z H e h' E) : FinE K cm mu1 Z1 H1 e h' E := by
  obtain ⟨c, fs, rfl, f⟩ := f
  exact ⟨c, fs, rfl, fun mu' Z' H' d fvs x' => f mu' Z' H' d fvs (x.trans x')⟩
def spRunX (K : PySem.W.Frag) (cm : Cm) (n : Nat) (f : Fn) : Sp := fun vs H Q E => spRun K cm n f vs H Q E ∨ ∃ mu Z h ws e h', RelH K cm mu Z H h ∧ RWs K cm mu Z ws vs ∧ ws.length = n ∧ f ws h = .exc e h' ∧ FinE K cm mu Z H e h' E
end Ti


namespace Ti
open PySem PySem.Spec PyProof.Rows L2
def oexB (K : PySem.W.Frag) (C : Addr) : Bool := (match K.lookup C with
  | some ⟨.type t, _, .cls cd, sl⟩ => (match cd.mro, sl.toList with
    | .ref C' :: bm, [_, _, _, _, some (.builtin n), _] => t == "type" && (C' == C && (n == "ValueError.__new__" && (!cd.hasDel && (cd.hasDict && PySem.HandSPX.refsVE bm))))
    | _, _ => false)
  | _ => false) && (He.eqO (PySem.W.findIn K (.ref C) "__setattr__") (some (some (.builtin "object.__setattr__"))) && (decide (PySem.W.subIn K (.ref C) (.type "BaseException") = some true) && (decide (PySem.W.typeIn K (.ref C) = some (.type "type")) && PySem.W.keepIn K (.ref C))))
theorem oexB_ok {K : PySem.W.Frag} {C : Addr} (h : oexB K C = true) : OexC K C := by
  unfold oexB at h
  obtain ⟨h1, h⟩ := Bool.and_eq_true_iff.mp h
  obtain ⟨h2, h⟩ := Bool.and_eq_true_iff.mp h
  obtain ⟨h3, h⟩ := Bool.and_eq_true_iff.mp h
  obtain ⟨h4, h5⟩ := Bool.and_eq_true_iff.mp h
  refine ⟨?_, He.eqO_ok h2, of_decide_eq_true h3, of_decide_eq_true h4, h5⟩
  split at h1
  · rename_i t dd cd sl ho
    split at h1
    · rename_i C' bm k0 k1 k2 k3 n k5 hm hs
      simp only [Bool.and_eq_true, beq_iff_eq, Bool.not_eq_true'] at h1
      obtain ⟨rfl, rfl, rfl, hdel, hdct, hv⟩ := h1
      obtain ⟨nm, bs, mro, ns, qn, hd, sn, sub, ab, col, del⟩ := cd
      dsimp only at hm hdel hdct
      subst hm hdel hdct
      have hsl : sl = #[k0, k1, k2, k3, some (.builtin "ValueError.__new__"), k5] := by
        obtain ⟨l⟩ := sl
        simp only at hs
        rw [hs]
      subst hsl
      exact ⟨nm, qn, ns, bs, bm, sn, sub, ab, col, dd, k0, k1, k2, k3, k5, ho, hv⟩
    · cases h1
  · cases h1
def baseB (K : PySem.W.Frag) (C : Addr) : Bool := PySem.W.readsIn K C (.type "type") && (He.eqO (PySem.W.specialIn K (.ref C) "__getattribute__") (some (some (.builtin "type.__getattribute__"))) && (match PySem.W.findCls K (.ref C) (.type "type") "__init__" with
  | some (.val (.builtin n)) => n == "ValueError.__init__"
  | _ => false))
theorem baseB_ok {K : PySem.W.Frag} {C : Addr} (h : baseB K C = true) : ClX.CRead K C (.type "type") ∧ PySem.W.findCls K (.ref C) (.type "type") "__init__" = some (.val (.builtin "ValueError.__init__")) := by
  unfold baseB at h
  obtain ⟨h1, h⟩ := Bool.and_eq_true_iff.mp h
  obtain ⟨h2, h⟩ := Bool.and_eq_true_iff.mp h
  refine ⟨⟨h1, He.eqO_ok h2⟩, ?_⟩
  split at h
  · rename_i n e
    rw [e, beq_iff_eq.mp h]
  · cases h
def iseB (K : PySem.W.Frag) (f : Nat → Addr) (c : Nat) (ans : List (Nat × Bool)) (objs : List Nat) : Bool := allKd.all (fun t => decide (PySem.W.kitOne K (.type t.name) (.ref (f c)) = some false)) && (ans.all (fun p => errB K (f p.1) && (decide (PySem.W.kitOne K (.ref (f p.1)) (.ref (f c)) = some p.2) && decide (PySem.W.exmOne K (.ref (f p.1)) (.ref (f c)) = some p.2))) &&
  objs.all fun o => decide (PySem.W.kitOne K (.ref (f o)) (.ref (f c)) = some false))
theorem mem_of_lookupN {b : Bool} {c : Nat} : ∀ {l : List (Nat × Bool)}, l.lookup c = some b → (c, b) ∈ l
  | [], h => by cases h
  | (d, e) :: l, h => by
    rw [List.lookup_cons] at h
    split at h
    · rename_i q
      cases h
      rw [eq_of_beq q]
      exact List.mem_cons_self
    · exact List.mem_cons_of_mem _ (mem_of_lookupN h)
theorem iseB_ok {K : PySem.W.Frag} {cm : Cm} {c : Nat} {ans : List (Nat × Bool)} {objs : List Nat} (h : iseB K cm.cls c ans objs = true) (ho : ∀ o ∈ objs, IsiC K (cm o)) : IseC K cm c ans objs := by
  unfold iseB at h
  simp only [Bool.and_eq_true, List.all_eq_true, decide_eq_true_eq] at h
  obtain ⟨h1, h2, h3⟩ := h
  refine ⟨fun t => h1 t (mem_allKd t), fun c' b e => ?_, fun o hm => ⟨ho o hm, h3 o hm⟩⟩
  obtain ⟨k1, k2, k3⟩ := h2 _ (mem_of_lookupN e)
  exact ⟨errB_ok k1, k2, k3⟩
def smB (K : PySem.W.Frag) : Bool := match K.lookup sysModules with
  | some o => o.cls == .type "dict"
  | none => false
def iniOf : List Stmt → Option (Str × Str × Str)
  | [.Expr (.Call (.Attribute (.Name B _) i p2) [.Name s _, .Constant (.str _) _ _] [] p5) _, .Assign [.Attribute (.Name s' _) fld _] (.Name par _) _] => if i = "__init__" ∧ s = "self" ∧ s' = "self" ∧ (p2.endLine == p5.line) = true then some (B, par, fld) else none
  | _ => none
theorem ini_by {P : Program} {w : World} {K : PySem.W.Frag} {mg : Str → Option Value} {base : Heap} {x qual B par fld : Str} {params : Arguments} {body : List Stmt} {scope : Scope} {dvs : List V} {kws : List (Str × V)} {fI C0 : Addr} {fd : FuncData}
    (F : FunD K x qual params body scope dvs kws fI fd) (h : iniOf body = some (B, par, fld)) (S : FnScope [("self" : Str), par] [("self" : Str), par] scope) (hB : scope.names.lookup B = some .globalImplicit) (hs : scope.names.lookup ("self" : Str) = some .local) (hp : scope.names.lookup par = some .local)
    (hm : mg B = some (.ref C0)) (r : baseB K C0 = true) (hdb : (B == ("__debug__" : Str)) = false) (hpd : (par == ("__debug__" : Str)) = false) (hpc : (par == ("__classdict__" : Str)) = false) :
    FnOk P w K mg base CX0 1 fI fd [("self" : Str), par] (spIni K fld) := by
  unfold iniOf at h
  split at h
  · split at h
    · rename_i hc
      obtain ⟨rfl, rfl, rfl, hl⟩ := hc
      cases h
      obtain ⟨r1, r2⟩ := baseB_ok r
      exact ini_ok F S hB hs hp hm r1 r2 hdb hpd hpc hl
    · cases h
  · cases h
section
open He
def asY (g : Addr → Option Obj) (n : Nat) : List Addr := He.asD g n ++ [cStatics, sysModules]
def obsY (n : Nat) (fa : List Fa) (fn : List DefD) (ts : List Tab) (tf : List Defn) (ex : PySem.W.Frag → Bool) (g : Addr → Option Obj) : AlX := (obsT fa fn ts (frT g (asY g n)), ex (frT g (asY g n)) && tabsB g tf (frT g (asY g n)))
theorem saysY_of {fa : List Fa} {fn : List DefD} {ts : List Tab} {tf : List Defn} {ex : PySem.W.Frag → Bool} {w : World} {h : Heap} (as : List Addr) (e : ((obsT fa fn ts (frT h.get? as), ex (frT h.get? as) && tabsB h.get? tf (frT h.get? as)) : AlX) = valX fn ts w) : SaysX fa fn ts tf ex w h (frT h.get? as) := by
  have e1 : obsT fa fn ts (frT h.get? as) = valT fn ts w := congrArg (fun z : AlX => z.1) e
  have e2 : (ex (frT h.get? as) && tabsB h.get? tf (frT h.get? as)) = true := congrArg (fun z : AlX => z.2) e
  obtain ⟨h1, h2⟩ := Bool.and_eq_true_iff.mp e2
  have key : ∀ p ∈ tf, PySem.W.codeHdIn (frT h.get? as) (cT (frT h.get? as) p).1 (cT (frT h.get? as) p).2 = true ∧ ∃ o, h.get? (cT (frT h.get? as) p).2 = some o ∧ emptyTab o = true := fun p hp => by
    obtain ⟨h3, h4⟩ := Bool.and_eq_true_iff.mp (List.all_eq_true.mp h2 p hp)
    refine ⟨h3, ?_⟩
    cases q : h.get? (cT (frT h.get? as) p).2 with
    | none =>
      rw [q] at h4
      cases h4
    | some o =>
      rw [q] at h4
      exact ⟨o, rfl, h4⟩
  exact ⟨e1, h1, fun p hp => (key p hp).1, fun p hp => by
    obtain ⟨_, o, q, z⟩ := key p hp
    exact frT_none q z, fun p hp => by
    obtain ⟨_, o, q, z⟩ := key p hp
    rw [q, emptyTab_eq z]⟩
def hookY (n : Nat) (fa : List Fa) (fn : List DefD) (ts : List Tab) (tf : List Defn) (ex : PySem.W.Frag → Bool) : PySem.W.Hook where
  α := AlX
  obs := fun s => obsY n fa fn ts tf ex s.heap.get?
  val := fun w => valX fn ts w
  says := fun w h => ∃ K : PySem.W.Frag, K.In h ∧ SaysX fa fn ts tf ex w h K
  of := fun _ _ e => ⟨_, frT_in, saysY_of _ e⟩
  keeps := fun _ _ _ ⟨K, hK, c⟩ k => ⟨K, PySem.W.Frag.In.keeps hK k, ⟨c.t, c.more, c.hd, c.out, fun p hp => k _ _ (c.empty p hp)⟩⟩
theorem obsY_eq {n : Nat} {fa : List Fa} {fn : List DefD} {ts : List Tab} {tf : List Defn} {ex : PySem.W.Frag → Bool} {g : Addr → Option Obj} {s : Shared} (h : ∀ a, g a = s.heap.get? a) : obsY n fa fn ts tf ex g = (hookY n fa fn ts tf ex).obs s := by
  have e : g = s.heap.get? := funext h
  rw [e] <;> rfl
end
end Ti


namespace Ti
open PySem PySem.Spec PyProof.Rows L2
def pIsiO (cs : List Nat) (t : Kd) : F1 := fun x h => match objOf h x with
  | some (c', _) => if c' ∈ cs then .ok (.bl false, h) else .bad
  | none => pIsi t x h
structure IsiO (K : PySem.W.Frag) (C : Addr) : Prop where
  i : IsiC K C
  nb : ∀ t : Kd, t ≠ .non → PySem.W.kitOne K (.ref C) (.type t.name) = some false
section
variable {X : Cx} {cm : Cm} {cs : List Nat}
theorem q_isiO {x U : Str} {t : Kd} {e : Expr} {m : DE} {p p2 pos : Pos} (I0 : ∀ c ∈ cs, IsiO X.K (cm c)) (ht : t ≠ .non) (hg : Gl X x) (hm : X.mg x = none) (hv : bootBuiltins x = some (.builtin "isinstance")) (ha : QE X cm e m) (hn : x ≠ "__name__") (hdb : (x == ("__debug__" : Str)) = false)
    (hgT : Gl X U) (hmT : X.mg U = none) (hvT : bootBuiltins U = some (.type t.name)) (hnT : U ≠ "__name__") (hdT : (U == ("__debug__" : Str)) = false) (h1 : starEach [e, .Name U p2] X.env = (false, eval e X.env) :: starEach [.Name U p2] X.env) :
    QE X cm (.Call (.Name x p) [e, .Name U p2] [] pos) (e1 (pIsiO cs t) m) := by
  have hT : PE X (.Name U p2) (tC (.ty t.name)) := pe_bltn hgT hmT hvT rfl hnT hdT
  refine PE.wk (pe_callB call_isi hg hm hv (pa_cons ha (pa_cons hT pa_nil rfl) h1) hn hdb h1 rfl) fun σ H Q q => ?_
  obtain ⟨mu, Z, ρ, h, w, h', rl, s, ev0, f⟩ := q
  obtain ⟨p, e1, ev1⟩ := Res.bind_eq_ok ev0
  refine ⟨mu, Z, ρ, h, p.1, p.2, rl, s, e1, fun mu1 Z1 H1 v1 x1 r1 w1 => ?_⟩
  unfold pIsiO at ev1
  split at ev1
  · rename_i c' fs e2
    split at ev1
    · rename_i hc
      cases ev1
      obtain ⟨a, dx, fvs, rfl, hA, kf⟩ := obj_at r1 w1 e2
      obtain ⟨I1, nb⟩ := I0 c' hc
      exact ⟨.ref a, .ty t.name, .ref (cm c'), .type t.name, false, rfl, .ty t.name, .base (.ins hA I1.cl I1.ha I1.hn I1.tk I1.hm), nb t ht, f _ _ _ _ x1 r1 rfl⟩
    · cases ev1
  · obtain ⟨u, e2, ev1⟩ := Res.bind_eq_ok ev1
    cases ev1
    exact ⟨v1, .ty t.name, .type u.name, .type t.name, isK u t, rfl, .ty t.name, kindW_of r1 w1 (ofO_eq_ok e2), kit4 X.K u t ht, f _ _ _ _ x1 r1 rfl⟩
end
end Ti


namespace PySem.HandSPX
open PySem PySem.Spec PyProof.Rows
section
variable {P : Program} {w : World} {A : Around} {E : Value → Shared → Prop} {R : Result → Shared → Prop} {hp : Heap} {gs : Array GenState} {dw : Drawn} {tk : Nat} {os : OsState} {M : Model}
variable {nm qn : Str} {C N fI : Addr} {bs bm bB : List Value} {hd : Bool} {sn : List Str} {sub : List Value} {ab : Bool} {col : Option Bool} {dd : Option Addr} {s0 s1 s2 s3 s5 : Option Value} {B nI iI : String} {us : List Value} {kw : List (Str × Value)}
theorem new_let (F : ExcBaseFacts B nI iI bB) (ht : ∀ Y : String, bm.contains (.type Y) = bB.contains (.type Y)) (hC : hp.get? C = some (excClassObj nm qn C N bs bm hd sn sub ab col dd s0 s1 s2 s3 s5 nI)) {Q : Unit → Shared → Prop} (q : Q () ⟨hp, gs, dw, tk, os⟩) :
    wpAny M A (checkBuiltinCall nI ⟨Value.ref C :: us, kw⟩) Q E ⟨hp, gs, dw, tk, os⟩ := by
  have c1 : (Value.ref C :: bm).contains (.type B) = true := by
    rw [List.contains_cons, ht B, F.hasB]
    simp
  have c2 := F.noStar
  simp only [checkBuiltinCall, F.newKind, F.newRow, F.newSplit]
  repeat (first
    | refine wpAny_loadPart_at hC ?_
    | (refine wpAny_isSubtype_exc hC ?_
       rw [c1])
    | refine wpAny_staticBase_exc hC ?_
    | refine wpAny_madeBy_exc hC ?_
    | simp only [bne_self_eq_false, Bool.false_eq_true, if_false]
    | wp_step)
  exact q
def bornH (hp : Heap) (C : Addr) (us : List Value) : Heap := (hp.push (PySem.W.kdv_tup us)).push (excO C hp.objs.size)
theorem born_keeps {b : Addr} {o : Obj} (e : hp.get? b = some o) : (bornH hp C us).get? b = some o := Heap.get?_push_of_some _ (Heap.get?_push_of_some _ e)
theorem born_at : (bornH hp C us).get? (hp.objs.size + 1) = some (excO C hp.objs.size) := by
  unfold bornH
  heap_get
theorem new_run (F : ExcBaseFacts B nI iI bB) (ht : ∀ Y : String, bm.contains (.type Y) = bB.contains (.type Y)) (hC : hp.get? C = some (excClassObj nm qn C N bs bm hd sn sub ab col dd s0 s1 s2 s3 s5 nI)) (hu : us.length ≤ sizeLine)
    (q : R (.ok (.ret (.ref (hp.objs.size + 1)))) ⟨bornH hp C us, gs, dw, tk, os⟩) : codeAny (model P w) A (.builtin nI ⟨Value.ref C :: us, kw⟩) R ⟨hp, gs, dw, tk, os⟩ := by
  have en := F.ends
  have c1 : (Value.ref C :: bm).contains (.type B) = true := by
    rw [List.contains_cons, ht B, F.hasB]
    simp
  have c2 : (Value.ref C :: bm).contains (.type "AttributeError") = false := by
    rw [List.contains_cons, ht "AttributeError", F.noAttr]
    rfl
  have c3 : (Value.ref C :: bm).contains (.type "NameError") = false := by
    rw [List.contains_cons, ht "NameError", F.noName]
    rfl
  refine codeAny_builtinAt F.entry ?_
  unfold Builtin.«BaseException.__new__»
  refine wpAt_bind ?_
  show wpAt _ _ _ (stack >>= _) _ _ _
  refine wpAt_bind ?_
  refine wpAt_stack fun p below => ?_
  refine wpAt_of_wpAny ?_
  wp_walk
  refine wpAt_of_wpAny ?_
  rw [F.owner]
  repeat (first
    | with_reducible refine wpAny_madeHere_exc F.canon hC ?_
    | with_reducible refine wpAny_loadPart_at hC ?_
    | (with_reducible refine wpAny_isSubtype_exc hC ?_
       first | rw [c1] | rw [c2] | rw [c3])
    | wp_step)
  show R _ _
  rw [Heap.size_push]
  exact q
theorem make_run (F : ExcBaseFacts B nI iI bB) (ht : ∀ Y : String, bm.contains (.type Y) = bB.contains (.type Y)) (hC : hp.get? C = some (excClassObj nm qn C N bs bm hd sn sub ab col dd s0 s1 s2 s3 s5 nI)) (hu : us.length ≤ sizeLine)
    (li : W.Looks (model P w) hp (typeLookup (.ref C) "__init__") (some (.ref fI))) (lb : ∀ self, W.Looks (model P w) hp (bindSpecial (.ref fI) self) (.ref fI, [self])) {Q : Fin → Shared → Prop}
    (q : codeAny (model P w) A (.call (.ref fI) ⟨.ref (hp.objs.size + 1) :: us, kw⟩)
      (fun r s' => match r with
        | .ok (.ret v) => v = .none ∧ Q (.done (.ret (.ref (hp.objs.size + 1)))) s'
        | .ok _ => False
        | .error e => E e s') ⟨bornH hp C us, gs, dw, tk, os⟩) :
    wpAny (model P w) A (Builtin.«type.__call__» ⟨Value.ref C :: us, kw⟩) Q E ⟨hp, gs, dw, tk, os⟩ := by
  repeat (first
    | with_reducible refine wpAny_loadPart_at hC ?_
    | with_reducible refine wpAny_madeBy_exc hC ?_
    | wp_step)
  refine codeAny_call_builtin_code (Code.quiet_builtin _ F.quiet) ?_
  refine new_let F ht hC ?_
  refine new_run F ht hC hu ?_
  show wpAny _ _ _ _ _ _
  have hC' := born_keeps (C := C) (us := us) hC
  have at_ := born_at (hp := hp) (C := C) (us := us)
  have self_ : (Value.ref C :: bm).contains (.ref C) = true := by simp
  have li' := li.keeps fun _ _ e => born_keeps (C := C) (us := us) e
  have lb' := (lb (.ref (hp.objs.size + 1))).keeps fun _ _ e => born_keeps (C := C) (us := us) e
  unfold isInstance
  repeat (first
    | with_reducible refine wpAny_loadPart_at at_ ?_
    | (with_reducible refine wpAny_isSubtype_exc hC' ?_
       rw [self_])
    | wp_step)
  show wpAny _ _ (typeLookup (.ref C) _) _ _ _
  refine li'.at ?_
  refine wpAny_holding ?_
  refine wpAny_bind (lb'.at ?_)
  refine wpAny_bind (wpAny_call ?_)
  refine codeAny_mono q fun r s' z => ?_
  cases r with
  | error e => exact z
  | ok fl =>
    cases fl with
    | ret v =>
      obtain ⟨rfl, z⟩ := z
      first
        | exact wpAny_pure (wpAny_pure z)
        | (wp_walk; exact z)
    | next => exact z.elim
    | brk => exact z.elim
    | cont => exact z.elim
theorem call_run (F : ExcBaseFacts B nI iI bB) (ht : ∀ Y : String, bm.contains (.type Y) = bB.contains (.type Y)) (hC : hp.get? C = some (excClassObj nm qn C N bs bm hd sn sub ab col dd s0 s1 s2 s3 s5 nI)) (hu : us.length ≤ sizeLine)
    (li : W.Looks (model P w) hp (typeLookup (.ref C) "__init__") (some (.ref fI))) (lb : ∀ self, W.Looks (model P w) hp (bindSpecial (.ref fI) self) (.ref fI, [self]))
    (q : codeAny (model P w) (A.under (.builtin "type.__call__" ⟨.ref C :: us, kw⟩)) (.call (.ref fI) ⟨.ref (hp.objs.size + 1) :: us, kw⟩) (W.InitBack (hp.objs.size + 1) R) ⟨bornH hp C us, gs, dw, tk, os⟩) :
    codeAny (model P w) A (.call (.ref C) ⟨us, kw⟩) R ⟨hp, gs, dw, tk, os⟩ := by
  have t1 := tc_lookup
  have t2 := tc_bind (.ref C)
  have t3 : (⟨hp, gs, dw, tk, os⟩ : Shared).TypeIs (.ref C) "type" := ⟨_, hC, rfl⟩
  refine codeAny_of_tree ?_
  show wpAny _ _ (callAny (.ref C) _) _ _ _
  repeat (any_goals (first
    | assumption
    | with_reducible refine wpAny_loadPart_at hC ?_
    | wp_step))
  refine ⟨rfl, ?_⟩
  refine codeAny_call_builtin_at (Code.quiet_builtin _ (by decide +kernel)) entry_typeCall ?_
  refine wpAny_check_type_call_sub hC ?_
  refine make_run F ht hC hu li lb ?_
  refine codeAny_mono q fun r s' z => ?_
  rcases r with e | (v | _ | _ | _)
  all_goals exact z
end
end PySem.HandSPX

namespace L2
open PySem PySem.Spec PyProof.Rows
def tBorn (C : Addr) (H1 : Hp) (Q : VK) (a : Addr) : VK := fun v H2 => v = .non ∧ ∃ (d : Addr) (fs : List (Str × V)), H2 a = some (exo a C (some d)) ∧ H2 d = some (exd d fs) ∧ H1 d = none ∧
  ∀ oe : Obj, oe.cls = .ref C → oe.dict = some d → (∃ vs, oe.data = .fields vs) → Q (.ref a) (upd (upd (del H2 a) d (.xd fs)) a (.frz oe (.own a)))
def tErr (C : Addr) (sp : Sp) (vs : List V) (H1 : Hp) (Q : VK) : Prop := ∀ a, H1 a = none → sp (.ref a :: vs) (upd H1 a (exo a C none)) (tBorn C H1 Q a) (fun _ _ _ => False)
section
variable {X : Cx} {C fI : Addr} {k : Nat} {fd : FuncData} {ps ks : List Str} {sp : Sp} {x : Str} {p pos : Pos} {e : Expr} {es : List Expr} {kws : List Keyword} {ta : TA}
theorem run_err {pins : List (Addr × Obj)} {σ : St} {H1 : Hp} {s1 : Shared} {Q : VK} {us us' : List Value} {kw : List (Str × Value)} {vs : List V} (T : OexC X.K C) (iC : PySem.W.findIn X.K (.ref C) "__init__" = some (some (.ref fI))) (tI : PySem.W.typeIn X.K (.ref fI) = some (.type "function"))
    (F1 : FnOk X.prog X.w X.K X.mg X.base CX0 k fI fd ps sp) (hr : Room (k + 1) X.A) (I1 : Inv X pins σ H1 s1) (hu : us.length ≤ 1000) (r : Vals vs us') (hb : ∀ (s : Shared) (a : Value), X.K.In s.heap → BindsTo s fd ⟨a :: us, kw⟩ (ps.zip (a :: us')))
    (q : tErr C sp vs H1 Q) : wpAny (model X.prog X.w) X.A (call (.ref C) us kw) (EP X pins σ Q) X.xe s1 := by
  obtain ⟨nm, qn, N, bs, bm, sn, sub, ab, col, dd, k0, k1, k2, k3, k5, hC, hbm⟩ := T.cls
  obtain ⟨hp, g, dr, tk, os⟩ := s1
  have hsz : hp.objs.size ≤ hp.objs.size + 1 := Nat.le_succ _
  have hn : H1 (hp.objs.size + 1) = none := I1.hok.fresh hsz
  have hq := q (hp.objs.size + 1) hn
  have kk : ∀ b o, hp.get? b = some o → (PySem.HandSPX.bornH hp C us).get? b = some o := fun b o e => PySem.HandSPX.born_keeps e
  have I2 : Inv X pins σ (upd H1 (hp.objs.size + 1) (exo (hp.objs.size + 1) C none)) ⟨PySem.HandSPX.bornH hp C us, g, dr, tk, os⟩ :=
    I1.laid (t' := tk) (a := hp.objs.size + 1) (o := exo (hp.objs.size + 1) C none) (h' := PySem.HandSPX.bornH hp C us) kk hsz (exo_ok PySem.HandSPX.born_at)
  have r2 : Vals (V.ref (hp.objs.size + 1) :: vs) (Value.ref (hp.objs.size + 1) :: us') := .cons rfl r
  have hus : us.length ≤ sizeLine := by
    rw [sizeLine_eq]
    omega
  have hb2 := hb ⟨PySem.HandSPX.bornH hp C us, g, dr, tk, os⟩ (.ref (hp.objs.size + 1)) I2.kIn
  refine wpAny_call (PySem.HandSPX.call_run F.excBase_ValueError (fun Y => PySem.HandSPX.refsVE_contains Y bm hbm) (I1.kIn _ _ hC) hus (PySem.W.looks_findIn I1.kIn iC) (fun self => PySem.W.bind_fn I1.kIn self tI) ?_)
  refine codeAny_mono (F1.run _ X.stack _ _ ⟨Value.ref (hp.objs.size + 1) :: us, kw⟩ (Value.ref (hp.objs.size + 1) :: us') _ _ (fun _ _ _ => False) (hr.make C us kw) (I2.env0.make C us kw) hb2 r2 hq) fun r s' hq' => ?_
  cases r with
  | error er => exact pass0 pins σ _ _ er s' I2 hq'
  | ok fl =>
    cases fl with
    | ret u =>
      obtain ⟨v, H2, os2, bare2, un2, hok2, rv, ev, d, fs, ea, ed, hd1, q2⟩ := hq'
      subst ev
      obtain ⟨h2, g2, d2, t2, os'⟩ := s'
      obtain ⟨t0, G, J, kG, ge, hoe, na⟩ := mk_end0 (d2 := d2) (t2 := t2) I1 hsz kk un2 hok2 os2 bare2 ea ed hd1
      exact ⟨rv, .ref (hp.objs.size + 1), _, J.laidN (o := .frz { cls := .ref C, dict := some d, data := .fields #[.ref t0, .none, .none, .none, .bool false, .none] } (.own (hp.objs.size + 1))) (t' := t2) (h' := h2) kG ge na ⟨hoe, _, hoe⟩, rfl, q2 { cls := .ref C, dict := some d, data := .fields #[.ref t0, .none, .none, .none, .bool false, .none] } rfl rfl ⟨_, rfl⟩⟩
    | next => exact False.elim hq'
    | brk => exact False.elim hq'
    | cont => exact False.elim hq'
theorem pe_errP (T : OexC X.K C) (iC : PySem.W.findIn X.K (.ref C) "__init__" = some (some (.ref fI))) (tI : PySem.W.typeIn X.K (.ref fI) = some (.type "function")) (F1 : FnOk X.prog X.w X.K X.mg X.base CX0 k fI fd ps sp) (hr : Room (k + 1) X.A) (hb : Binds X.K fd ps [])
    (hg : Gl X x) (hm : X.mg x = some (.ref C)) (ha : PA X (e :: es) ta) (hdb : (x == ("__debug__" : Str)) = false) (he : starEach (e :: es) X.env = (false, eval e X.env) :: starEach es X.env) (hpl : (backTo pos (starEach es X.env)).any (·.1) = false) :
    PE X (.Call (.Name x p) (e :: es) [] pos) (fun σ H Q => ta σ H fun vs H1 => vs.length ≤ 1000 ∧ vs.length + 1 = ps.length ∧ tErr C sp vs H1 Q) := by
  refine ⟨fun pins s σ H Q I h => ?_⟩
  refine wpAny_Call_Name_kw (ld_glob I hg hm ?_ hdb)
  refine PySem.W.callWith_K (h₀ := X.base) I.ok.mod.kin T.kC (thn (ha.run pos pins s σ H _ I h) fun us s1 ⟨vs, H1, I1, r1, hz, hl, q1⟩ => ⟨I1.kIn, ?_⟩) he hpl
  refine run_err T iC tI F1 hr I1 (by show us.length ≤ 1000; rw [← r1.length]; exact hz) r1 (fun s a kin => ?_) q1
  have b := hb s (a :: us) kin (by rw [List.append_nil, List.length_cons, ← r1.length]; exact hl)
  rw [List.append_nil] at b
  exact b
theorem pe_err0 {dvs : List V} {ds : List Value} (T : OexC X.K C) (iC : PySem.W.findIn X.K (.ref C) "__init__" = some (some (.ref fI))) (tI : PySem.W.typeIn X.K (.ref fI) = some (.type "function")) (F1 : FnOk X.prog X.w X.K X.mg X.base CX0 k fI fd ps sp) (hr : Room (k + 1) X.A) (hb : Binds X.K fd ps ds) (hd : Vals dvs ds) (hl : dvs.length + 1 = ps.length)
    (hg : Gl X x) (hm : X.mg x = some (.ref C)) (hdb : (x == ("__debug__" : Str)) = false) :
    PE X (.Call (.Name x p) [] [] pos) (fun σ H Q => tErr C sp dvs H Q) := by
  refine ⟨fun pins s σ H Q I h => ?_⟩
  refine wpAny_Call_Name_kw (ld_glob I hg hm ?_ hdb)
  refine PySem.W.callWith_K0 I.kIn T.kC ?_
  refine run_err (us := []) T iC tI F1 hr (I.tok _) (by decide) hd (fun s a kin => ?_) h
  exact hb s [a] kin (by rw [List.length_append, ← hd.length, List.length_singleton]; omega)
theorem pe_errK {g : List Value → List Value} {gV : List V → List V} (T : OexC X.K C) (iC : PySem.W.findIn X.K (.ref C) "__init__" = some (some (.ref fI))) (tI : PySem.W.typeIn X.K (.ref fI) = some (.type "function")) (F1 : FnOk X.prog X.w X.K X.mg X.base CX0 k fI fd ps sp) (hr : Room (k + 1) X.A) (hb : Ti.KwI X.K fd ps ks g gV)
    (hg : Gl X x) (hm : X.mg x = some (.ref C)) (hkw : PK X kws ta) (hdb : (x == ("__debug__" : Str)) = false)
    (hall : ∀ pos, (backToKw pos (keywordEach kws X.env)).all (·.1.isSome) = true) (hks : ∀ pos, (backToKw pos (keywordEach kws X.env)).filterMap (·.1) = ks) (hno : ∀ pos, (backToKw pos (keywordEach kws X.env)).any (·.1.isNone) = false) :
    PE X (.Call (.Name x p) [] kws pos) (fun σ H Q => ta σ H fun zs H1 => zs.length = ks.length ∧ tErr C sp (gV zs) H1 Q) := by
  refine ⟨fun pins s σ H Q I h => ?_⟩
  refine wpAny_Call_Name_kw (ld_glob I hg hm ?_ hdb)
  refine PySem.W.callWith_KW0 (h₀ := X.base) I.ok.mod.kin T.kC (hall pos) (thn (hkw.run pos pins s σ H _ I h) fun ws s2 ⟨zs, H2, I2, rz, l, q⟩ => ⟨I2.kIn, ?_⟩) ?_
  · rw [hks pos]
    exact run_err (us := []) T iC tI F1 hr I2 (by decide) (hb.rel rz) (fun s a kin => hb.to s a ws kin (rz.length.symm.trans l)) q
  · rw [hno pos]
    rfl
theorem pe_errN {bB : List Value} {B nI iI : String} (F : ExcBaseFacts B nI iI bB) (q : PySem.W.excIn X.K C bB nI = true) (kC : PySem.W.keepIn X.K (.ref C) = true) (hg : Gl X x) (hm : X.mg x = some (.ref C)) (hdb : (x == ("__debug__" : Str)) = false) :
    PE X (.Call (.Name x p) [] [] pos) (fun σ H Q => ∀ a (oe : Obj), H a = none → oe.cls = .ref C → oe.dict = none → (∃ vs, oe.data = .fields vs) → Q (.ref a) (upd H a (.frz oe (.own a)))) := by
  refine ⟨fun pins s σ H Q I h => ?_⟩
  refine wpAny_Call_Name_kw (ld_glob I hg hm ?_ hdb)
  refine PySem.W.callWith_K0 I.kIn kC ?_
  obtain ⟨hp, gs, dr, tk, os⟩ := s
  obtain ⟨bm, N, nm, qn, bs, hdct, sn, sub, ab, col, dd, k0, k1, k2, k3, k5, mN, hC, hN, hni, T⟩ := exc_obj I.kIn q
  refine wpAny_call_exc_subT F T hC hN hni (fun h' a hm => ?_) (by rw [sizeLine_eq]; decide)
  have hn : H a = none := I.hok.gone hm.new
  obtain ⟨t, ht, _, _⟩ := hm.there
  exact ⟨.ref a, _, I.laidN (o := .frz { cls := .ref C, data := .fields #[.ref t, .none, .none, .none, .bool false, .none] } (.own a)) hm.keeps hm.new hn ⟨ht, _, ht⟩, rfl, h a { cls := .ref C, data := .fields #[.ref t, .none, .none, .none, .bool false, .none] } hn rfl rfl ⟨_, rfl⟩⟩
end
end L2

namespace Ti
open PySem PySem.Spec PyProof.Rows L2
def eErr (c : Nat) (fld : Str) (m : DE) : DE := fun ρ h => (m ρ h).bind fun p => .ok (.err c [(fld, p.1)], p.2)
def eErr0 (c : Nat) (fs : List (Str × W)) : DE := fun _ h => .ok (.err c fs, h)
section
variable {K : PySem.W.Frag} {cm : Cm} {mu : List Addr} {Z H : Hp} {h : Hh} {c : Nat} {fld : Str} {w : W} {v : V} {Q : VK}
theorem err_born (r : RelH K cm mu Z H h) (rw_ : RW K cm mu Z w v) (T : OexC K (cm c)) (hno : PySem.W.findIn K (.ref (cm c)) fld = some none)
    (f : ∀ mu' Z' H' v', Ext mu Z H mu' Z' H' → RelH K cm mu' Z' H' h → RW K cm mu' Z' (.err c [(fld, w)]) v' → Q v' H') : tErr (cm c) (spIni K fld) [v] H Q := by
  intro a na
  refine ⟨a, cm c, v, rfl, T, upd_same, hno, fun dx nd ne => ⟨rfl, dx, [(fld, v)], upd_same, ?_, ?_, fun oe h1 h2 h3 => ?_⟩⟩
  · rw [upd_ne ne, upd_same]
  · rw [upd_ne ne] at nd
    exact nd
  · have nd1 : H dx = none := by
      rw [upd_ne ne] at nd
      exact nd
    rw [made_hp na ne]
    obtain ⟨r2, x2⟩ := r.newZ (o := .xd [(fld, v)]) nd1 upd_same
    have na2 : L2.upd H dx (.xd [(fld, v)]) a = none := by rw [upd_ne (Ne.symm ne)]; exact na
    obtain ⟨r3, x3⟩ := r2.newZ (o := .frz oe (.own a)) na2 upd_same
    exact f _ _ _ (.ref a) (x2.trans x3) r3 ⟨a, oe, rfl, upd_same, h1, h3, .inr ⟨dx, [v], h2, by rw [upd_ne ne]; exact upd_same, ⟨v, [], rfl, rw_.mono (x2.trans x3).z (x2.trans x3).m, rfl⟩⟩⟩
end
section
variable {X : Cx} {cm : Cm} {c k : Nat} {fI : Addr} {fd : FuncData} {ps ks : List Str} {x fld : Str} {e : Expr} {me : DE} {p pos : Pos} {kws : List Keyword}
theorem q_errP (T : OexC X.K (cm c)) (iC : PySem.W.findIn X.K (.ref (cm c)) "__init__" = some (some (.ref fI))) (tI : PySem.W.typeIn X.K (.ref fI) = some (.type "function")) (hno : PySem.W.findIn X.K (.ref (cm c)) fld = some none) (hps : ps.length = 2)
    (F1 : FnOk X.prog X.w X.K X.mg X.base CX0 k fI fd ps (spIni X.K fld)) (hr : Room (k + 1) X.A) (hb : Binds X.K fd ps []) (hg : Gl X x) (hm : X.mg x = some (.ref (cm c))) (he : QE X cm e me) (hdb : (x == ("__debug__" : Str)) = false)
    (hst : starEach [e] X.env = (false, eval e X.env) :: starEach [] X.env) : QE X cm (.Call (.Name x p) [e] [] pos) (eErr c fld me) := by
  have a1 : QL X cm [e] [me] := ql_cons he ql_nil hst
  refine PE.wk (pe_errP T iC tI F1 hr hb hg hm a1 hdb hst rfl) fun σ H Q q => ?_
  obtain ⟨mu, Z, ρ, h, w, h', rl, s, e0, f⟩ := q
  obtain ⟨p1, e1, e2⟩ := Res.bind_eq_ok e0
  cases e2
  have el : eL [me] ρ h = .ok ([p1.1], p1.2) := by
    show (me ρ h).bind _ = _
    rw [e1]
    rfl
  refine ⟨mu, Z, ρ, h, [p1.1], p1.2, rl, s, el, fun mu1 Z1 H1 vs x1 r1 w1 => ?_⟩
  obtain ⟨v, r, rfl, w1, rn⟩ := w1
  cases (show r = [] from rn)
  exact ⟨(by decide : 1 ≤ 1000), hps.symm, err_born r1 w1 T hno fun mu' Z' H' v' x' => f mu' Z' H' v' (x1.trans x')⟩
theorem q_errK (T : OexC X.K (cm c)) (iC : PySem.W.findIn X.K (.ref (cm c)) "__init__" = some (some (.ref fI))) (tI : PySem.W.typeIn X.K (.ref fI) = some (.type "function")) (hno : PySem.W.findIn X.K (.ref (cm c)) fld = some none) (hks1 : ks.length = 1)
    (F1 : FnOk X.prog X.w X.K X.mg X.base CX0 k fI fd ps (spIni X.K fld)) (hr : Room (k + 1) X.A) (hb : KwI X.K fd ps ks (permU [0]) (permV [0])) (hg : Gl X x) (hm : X.mg x = some (.ref (cm c))) (ha : PK X kws (tOL X.K cm [me])) (hdb : (x == ("__debug__" : Str)) = false)
    (hall : ∀ pos, (backToKw pos (keywordEach kws X.env)).all (·.1.isSome) = true) (hks : ∀ pos, (backToKw pos (keywordEach kws X.env)).filterMap (·.1) = ks) (hno' : ∀ pos, (backToKw pos (keywordEach kws X.env)).any (·.1.isNone) = false) :
    QE X cm (.Call (.Name x p) [] kws pos) (eErr c fld me) := by
  refine PE.wk (pe_errK T iC tI F1 hr hb hg hm ha hdb hall hks hno') fun σ H Q q => ?_
  obtain ⟨mu, Z, ρ, h, w, h', rl, s, e0, f⟩ := q
  obtain ⟨p1, e1, e2⟩ := Res.bind_eq_ok e0
  cases e2
  have el : eL [me] ρ h = .ok ([p1.1], p1.2) := by
    show (me ρ h).bind _ = _
    rw [e1]
    rfl
  refine ⟨mu, Z, ρ, h, [p1.1], p1.2, rl, s, el, fun mu1 Z1 H1 vs x1 r1 w1 => ?_⟩
  obtain ⟨v, r, rfl, w1, rn⟩ := w1
  cases (show r = [] from rn)
  exact ⟨hks1.symm, err_born r1 w1 T hno fun mu' Z' H' v' x' => f mu' Z' H' v' (x1.trans x')⟩
theorem q_err0 (T : OexC X.K (cm c)) (iC : PySem.W.findIn X.K (.ref (cm c)) "__init__" = some (some (.ref fI))) (tI : PySem.W.typeIn X.K (.ref fI) = some (.type "function")) (hno : PySem.W.findIn X.K (.ref (cm c)) fld = some none) (hps : ps.length = 2)
    (F1 : FnOk X.prog X.w X.K X.mg X.base CX0 k fI fd ps (spIni X.K fld)) (hr : Room (k + 1) X.A) (hb : Binds X.K fd ps [.none]) (hg : Gl X x) (hm : X.mg x = some (.ref (cm c))) (hdb : (x == ("__debug__" : Str)) = false) :
    QE X cm (.Call (.Name x p) [] [] pos) (eErr0 c [(fld, .non)]) := by
  refine PE.wk (pe_err0 (dvs := [.non]) T iC tI F1 hr hb (.cons (a := V.non) rfl .nil) hps.symm hg hm hdb) fun σ H Q q => ?_
  obtain ⟨mu, Z, ρ, h, w, h', rl, s, e0, f⟩ := q
  cases e0
  exact err_born rl (w := .non) rfl T hno f
theorem q_errN {bB : List Value} {B nI iI : String} (F : ExcBaseFacts B nI iI bB) (hx : PySem.W.excIn X.K (cm c) bB nI = true) (kC : PySem.W.keepIn X.K (.ref (cm c)) = true) (hg : Gl X x) (hm : X.mg x = some (.ref (cm c))) (hdb : (x == ("__debug__" : Str)) = false) :
    QE X cm (.Call (.Name x p) [] [] pos) (eErr0 c []) := by
  refine PE.wk (pe_errN F hx kC hg hm hdb) fun σ H Q q => ?_
  obtain ⟨mu, Z, ρ, h, w, h', rl, s, e0, f⟩ := q
  cases e0
  intro a oe na h1 h2 h3
  obtain ⟨r3, x3⟩ := rl.newZ (o := .frz oe (.own a)) na upd_same
  exact f _ _ _ (.ref a) x3 r3 ⟨a, oe, rfl, upd_same, h1, h3, .inl ⟨h2, rfl⟩⟩
def pIsV (cs : List Nat) : F1 := fun x h => match x with
  | .err c _ => if c ∈ cs then .ok (.bl true, h) else .bad
  | _ => .bad
def isvB (K : PySem.W.Frag) (C : Addr) : Bool := errB K C && decide (PySem.W.kitOne K (.ref C) (.type "ValueError") = some true)
theorem isvB_ok {K : PySem.W.Frag} {C : Addr} (h : isvB K C = true) : ErrC K C ∧ PySem.W.kitOne K (.ref C) (.type "ValueError") = some true := by
  unfold isvB at h
  rw [Bool.and_eq_true, decide_eq_true_eq] at h
  exact ⟨errB_ok h.1, h.2⟩
theorem q_isV {cs : List Nat} {m : DE} {e : Expr} {p2 : Pos} (I0 : ∀ c ∈ cs, ErrC X.K (cm c) ∧ PySem.W.kitOne X.K (.ref (cm c)) (.type "ValueError") = some true) (hg : Gl X "isinstance") (hm : X.mg "isinstance" = none) (ha : QE X cm e m)
    (hgT : Gl X "ValueError") (hmT : X.mg "ValueError" = none) (h1 : starEach [e, .Name "ValueError" p2] X.env = (false, eval e X.env) :: starEach [.Name "ValueError" p2] X.env) :
    QE X cm (.Call (.Name "isinstance" p) [e, .Name "ValueError" p2] [] pos) (e1 (pIsV cs) m) := by
  have hT : PE X (.Name "ValueError" p2) (tC (.ty "ValueError")) := pe_bltn hgT hmT (by decide +kernel) rfl (by decide +kernel) (by decide +kernel)
  refine PE.wk (pe_callB call_isF hg hm (by decide +kernel) (pa_cons ha (pa_cons hT pa_nil rfl) h1) (by decide +kernel) (by decide +kernel) h1 rfl) fun σ H Q q => ?_
  obtain ⟨mu, Z, ρ, h, w, h', rl, s, ev0, f⟩ := q
  obtain ⟨p, e1, ev1⟩ := Res.bind_eq_ok ev0
  refine ⟨mu, Z, ρ, h, p.1, p.2, rl, s, e1, fun mu1 Z1 H1 v1 x1 r1 w1 => ?_⟩
  unfold pIsV at ev1
  split at ev1
  · rename_i c' fs e2
    split at ev1
    · rename_i hc
      cases ev1
      rw [e2] at w1
      obtain ⟨a, oe, rfl, ea⟩ := err_at r1 w1
      obtain ⟨k1, k2⟩ := I0 _ hc
      exact ⟨a, cm c', oe, .ty "ValueError", .type "ValueError", true, rfl, ea, k1, .ty "ValueError", k2, f _ _ _ _ x1 r1 rfl⟩
    · cases ev1
  · cases ev1
end
end Ti


namespace Ti
open PySem PySem.Spec PyProof.Rows L2
structure AddC (K : PySem.W.Frag) (C : Addr) : Prop where
  ty : ∀ t : Kd, ∃ fo ro, PySem.W.findIn K (.type t.name) "__add__" = some fo ∧ PySem.W.findIn K (.type t.name) "__radd__" = some ro ∧ PySem.W.subIn K (.type t.name) (.ref C) = some false
  no : PySem.W.findIn K (.ref C) "__radd__" = some none
end Ti


namespace Ti
open PySem PySem.Spec PyProof.Rows L2
def pRepr2 : F1 := fun x h => match x with
  | .lst ws => pRepr (.lst (ws.map (look h))) h
  | x => pRepr x h
section
variable {K : PySem.W.Frag} {cm : Cm} {mu : List Addr} {Z H : Hp} {h h' : Hh}
theorem looks_Dp (r : RelH K cm mu Z H h) {d : Nat} : ∀ {ws : List W} {vs : List V}, areDat d (ws.map (look h)) = true → RWs K cm mu Z ws vs → DpAll K H vs (toPs (ws.map (look h)))
  | [], _, _, q => by
    cases (show _ = [] from q)
    exact .nil
  | x :: xs, _, e, q => by
    have e : (isDat d (look h x) && areDat d (xs.map (look h))) = true := e
    rw [Bool.and_eq_true] at e
    obtain ⟨v, rs, rfl, q1, q2⟩ := q
    exact .cons (look_Dp r q1 e.1) (looks_Dp r e.2 q2)
theorem ok_repr2 : OkL K cm (l1 pRepr2) (rRepr K) := by
  refine OkL.of1 ?_
  intro mu Z H h w1 w h' v1 Q r q1 e f
  cases w1 with
  | lst ws =>
    have e : pRepr (.lst (ws.map (look h))) h = .ok (w, h') := e
    unfold pRepr at e
    split at e
    · rename_i hc
      rw [Bool.and_eq_true, Bool.and_eq_true, decide_eq_true_eq] at hc
      cases e
      obtain ⟨a, vs, rfl, z, rs⟩ := q1
      exact ⟨_, _, rfl, .lst (SqL.of (r.lstZ z)) (looks_Dp (d := 59) r hc.1.1 rs), hc.1.2, toP_noDict (.lst (ws.map (look h))), toP_depth (a := .lst (ws.map (look h))) hc.1.1, Nat.le_trans hc.2 (by decide), f.here r rfl⟩
    · cases e
  | _ =>
    have e : pRepr _ h = .ok (w, h') := e
    unfold pRepr at e
    split at e
    · rename_i hc
      rw [Bool.and_eq_true, Bool.and_eq_true, decide_eq_true_eq] at hc
      cases e
      exact ⟨v1, _, rfl, look_Dp r q1 hc.1.1, hc.1.2, toP_noDict _, toP_depth hc.1.1, Nat.le_trans hc.2 (by decide), f.here r rfl⟩
    · cases e
end
end Ti


namespace Ti
open PySem PySem.Spec PyProof.Rows L2
def kP : Key → PyData
  | .inl i => .int i
  | .inr x => .str x
def HK.p : HK → PyData
  | .int i => .int i
  | .str x => .str x
  | _ => .none
mutual
def toR : W → PyData
  | .non => .none
  | .bl b => .bool b
  | .int i => .int i
  | .str x => .str x
  | .tup ws => .tuple (toRs ws)
  | .lst ws => .list (toRs ws)
  | .dic _ kvs => .dict (toRk kvs)
  | _ => .none
def toRs : List W → List PyData
  | [] => []
  | w :: ws => toR w :: toRs ws
def toRk : List (HK × W) → List (PyData × PyData)
  | [] => []
  | (k, w) :: ws => (HK.p k, toR w) :: toRk ws
end
mutual
def isDaR (d : Nat) : W → Bool
  | .non | .bl _ | .int _ => true
  | .str x => strFine x
  | .tup ws | .lst ws => match d with
    | 0 => false
    | d + 1 => areDaR d ws
  | .dic kd kvs => match d with
    | 0 => false
    | d + 1 => !kd && areDaK d kvs
  | _ => false
def areDaR (d : Nat) : List W → Bool
  | [] => true
  | w :: ws => isDaR d w && areDaR d ws
def areDaK (d : Nat) : List (HK × W) → Bool
  | [] => true
  | (k, w) :: ws => k.flat && (isDaR d w && areDaK d ws)
end
mutual
def drf (h : Hh) : W → W
  | .ref i => look h (.ref i)
  | .tup ws => .tup (drfs h ws)
  | .lst ws => .lst (drfs h ws)
  | .dic kd kvs => .dic kd (drfk h kvs)
  | w => w
def drfs (h : Hh) : List W → List W
  | [] => []
  | w :: ws => drf h w :: drfs h ws
def drfk (h : Hh) : List (HK × W) → List (HK × W)
  | [] => []
  | (k, w) :: ws => (k, drf h w) :: drfk h ws
end
def pReprD : F1 := fun x h => if isDaR 58 (drf h x) && (toR (drf h x)).showable && decide ((toR (drf h x)).shown.length ≤ 10000000) then .ok (.str (toR (drf h x)).shown, h) else .bad
mutual
inductive DpY (K : PySem.W.Frag) (H : Hp) : V → PyData → Prop where
  | non : DpY K H .non .none
  | bl (b : Bool) : DpY K H (.bl b) (.bool b)
  | int (i : Int) : DpY K H (.int i) (.int i)
  | str (x : Str) : DpY K H (.str x) (.str x)
  | lst {a : Addr} {xs : List V} {ds : List PyData} : SqL K H a xs → DpYs K H xs ds → DpY K H (.ref a) (.list ds)
  | tup {a : Addr} {xs : List V} {ds : List PyData} : SqT K H a xs → DpYs K H xs ds → DpY K H (.ref a) (.tuple ds)
  | dic {a : Addr} {kvs : List (Key × V)} {l : List (PyData × PyData)} : Rd H a (.dK kvs) → l.map (·.1) = kvs.map (fun p => kP p.1) → DpYs K H (kvs.map (·.2)) (l.map (·.2)) → DpY K H (.ref a) (.dict l)
inductive DpYs (K : PySem.W.Frag) (H : Hp) : List V → List PyData → Prop where
  | nil : DpYs K H [] []
  | cons {v : V} {vs : List V} {d : PyData} {ds : List PyData} : DpY K H v d → DpYs K H vs ds → DpYs K H (v :: vs) (d :: ds)
end
section
variable {P : Program} {w : World} {h : Heap}
theorem pairs_keys : ∀ {es : List DictEntry} {vs : List (Key × Value)}, Pairs (mixKind P w) es vs → ReadsAll h (es.map (·.key)) (vs.map fun p => kP p.1) []
  | _, _, .nil => .nil
  | _, _, .cons (e := e) (kv := kv) hk _ r => by
    have ih := pairs_keys r
    refine ReadsAll.cons (as := []) (bs := []) ?_ ih
    show Reads h e.key (kP kv.1) []
    rcases keyIs_shape (show keyIs kv.1 e.key = true from hk) with ⟨i, t, e1, e2⟩ | ⟨x, t, e1, e2⟩
    · rw [e1, e2]; exact .int i t
    · rw [e1, e2]; exact .str x t
theorem pairs_vals : ∀ {es : List DictEntry} {vs : List (Key × Value)}, Pairs (mixKind P w) es vs → es.map (·.val) = vs.map (·.2)
  | _, _, .nil => rfl
  | _, _, .cons _ hv r => by
    rw [List.map_cons, List.map_cons, pairs_vals r, hv]
theorem kv_keys : ∀ {kvs : List (Key × V)} {vs : List (Key × Value)}, KV kvs vs → kvs.map (fun p => kP p.1) = vs.map (fun p => kP p.1)
  | _, _, .nil => rfl
  | _, _, .cons a r => by
    rw [List.map_cons, List.map_cons, kv_keys r, a.1]
theorem kv_vals : ∀ {kvs : List (Key × V)} {vs : List (Key × Value)}, KV kvs vs → Vals (kvs.map (·.2)) (vs.map (·.2))
  | _, _, .nil => .nil
  | _, _, .cons a r => .cons a.2 (kv_vals r)
end
section
variable {X : Cx} {pins : List (Addr × Obj)} {σ : L2.St} {H : Hp} {s : Shared}
theorem not_sm (I : Inv X pins σ H s) (sm : smB X.K = true) {a : Addr} {o : Obj} (ha : s.heap.get? a = some o) (hc : o.cls = .type "list") : a ≠ sysModules := fun z => by
  unfold smB at sm
  split at sm
  · rename_i o' e
    have := I.kIn _ _ e
    rw [← z, ha] at this
    cases this
    rw [hc] at sm
    exact absurd sm (by decide)
  · cases sm
mutual
theorem DpY.reads (I : Inv X pins σ H s) (sm : smB X.K = true) : ∀ (d : PyData) (v : V) (u : Value), DpY X.K H v d → RelV v u → ∃ as, Reads s.heap u d as ∧ sysModules ∉ as
  | .none, _, _, h, r => by
    cases h
    cases r
    exact ⟨_, Reads.none, List.not_mem_nil⟩
  | .bool b, _, _, h, r => by
    cases h
    cases r
    exact ⟨_, Reads.bool b, List.not_mem_nil⟩
  | .int i, _, _, h, r => by
    cases h
    obtain ⟨t, rfl⟩ := r
    exact ⟨_, Reads.int i t, List.not_mem_nil⟩
  | .str x, _, _, h, r => by
    cases h
    obtain ⟨t, rfl⟩ := r
    exact ⟨_, Reads.str x t, List.not_mem_nil⟩
  | .list ds, _, _, h, r => by
    cases h with
    | lst hs ha =>
      cases r
      obtain ⟨its, rv, ⟨o, n, ho, hc, _, hd⟩, _⟩ := I.list hs
      obtain ⟨as, hr, na⟩ := DpY.readsAll I sm ds _ its ha rv
      exact ⟨_, Reads.list ho hc hd hr, fun z => (List.mem_cons.mp z).elim (fun q => not_sm I sm ho hc q.symm) na⟩
  | .tuple ds, _, _, h, r => by
    cases h with
    | tup hs ha =>
      cases r
      obtain ⟨its, rv, ⟨o, ho, hc, n, hd⟩, _⟩ := I.tuple hs
      obtain ⟨as, hr, na⟩ := DpY.readsAll I sm ds _ its ha rv
      exact ⟨_, Reads.tuple ho hc hd hr, na⟩
  | .dict l, _, _, h, r => by
    cases h with
    | dic hs hk ha =>
      cases r
      obtain ⟨_, nsm, vs, kv, o, es, ep, ho, hx, hd, _, hp, _⟩ := dk_rd I.hok hs
      obtain ⟨bs, hr, nb⟩ := DpY.readsKv I sm l _ _ ha (kv_vals kv)
      have r1 := pairs_keys (h := s.heap) hp
      rw [← kv_keys kv, ← hk] at r1
      rw [← pairs_vals hp] at hr
      refine ⟨_, Reads.dict ho hx.1 hd r1 hr, fun z => ?_⟩
      rcases List.mem_append.mp z with z | z
      · rcases List.mem_cons.mp z with z | z
        · rw [← z] at nsm
          exact absurd nsm (by decide)
        · exact nomatch z
      · exact nb z
theorem DpY.readsAll (I : Inv X pins σ H s) (sm : smB X.K = true) : ∀ (ds : List PyData) (vs : List V) (us : List Value), DpYs X.K H vs ds → Vals vs us → ∃ as, ReadsAll s.heap us ds as ∧ sysModules ∉ as
  | [], _, _, h, r => by
    cases h
    cases r
    exact ⟨_, ReadsAll.nil, List.not_mem_nil⟩
  | d :: ds, _, _, h, r => by
    cases h with
    | cons h1 h2 =>
      cases r with
      | cons r1 r2 =>
        obtain ⟨as, q1, n1⟩ := DpY.reads I sm d _ _ h1 r1
        obtain ⟨bs, q2, n2⟩ := DpY.readsAll I sm ds _ _ h2 r2
        exact ⟨_, ReadsAll.cons q1 q2, fun z => (List.mem_append.mp z).elim n1 n2⟩
theorem DpY.readsKv (I : Inv X pins σ H s) (sm : smB X.K = true) : ∀ (l : List (PyData × PyData)) (vs : List V) (us : List Value), DpYs X.K H vs (l.map (·.2)) → Vals vs us → ∃ as, ReadsAll s.heap us (l.map (·.2)) as ∧ sysModules ∉ as
  | [], _, _, h, r => by
    cases h
    cases r
    exact ⟨_, ReadsAll.nil, List.not_mem_nil⟩
  | (k, d) :: l, _, _, h, r => by
    cases h with
    | cons h1 h2 =>
      cases r with
      | cons r1 r2 =>
        obtain ⟨as, q1, n1⟩ := DpY.reads I sm d _ _ h1 r1
        obtain ⟨bs, q2, n2⟩ := DpY.readsKv I sm l _ _ h2 r2
        exact ⟨_, ReadsAll.cons q1 q2, fun z => (List.mem_append.mp z).elim n1 n2⟩
end
def rReprY (K : PySem.W.Frag) : List V → Hp → VK → Prop := fun xs H Q => ∃ x d, xs = [x] ∧ DpY K H x d ∧ d.showable = true ∧ d.depth ≤ 60 ∧ d.shown.length ≤ sizeLine ∧ Q (.str d.shown) H
theorem call_reprY (sm : smB X.K = true) (gd : X.A.guards = some []) (hu : X.A.units + 65 < cLine) : CallR X (.builtin "repr") (rReprY X.K) := by
  intro pins s σ H xs us Q I r q
  obtain ⟨x, d, rfl, hd, hs, hdp, hl, q⟩ := q
  obtain ⟨u, rfl, rx⟩ := vals1 r
  obtain ⟨as, rd, na⟩ := DpY.reads I sm d x u hd rx
  have plain : ∀ {t : Tok} {s' : Shared}, Inv X pins σ H s' → EP X pins σ Q (.str d.shown t) s' := fun {t s'} J => ⟨.str d.shown, H, J, ⟨t, rfl⟩, q⟩
  cases x with
  | ref a =>
    cases rx
    refine repr_of_reads' rd hs (fun _ => na) gd (by omega) (fun _ _ e => e) (fun h' u tk hk => plain (I.kept hk)) hl
  | non =>
    cases hd
    cases rx
    have e : (PyData.none).shown = ("None" : Str) := PyData.shown_none
    rw [e] at plain
    exact PySem.P.repr_of_none (plain (I.tok _))
  | bl b =>
    cases hd
    cases rx
    have e : (PyData.bool b).shown = (if b then "True" else "False" : Str) := PyData.shown_bool b
    rw [e] at plain
    exact PySem.P.repr_of_bool (plain (I.tok _))
  | int i =>
    cases hd
    obtain ⟨t, rfl⟩ := rx
    have e : (PyData.int i).shown = ((toString i : String) : Str) := PyData.shown_int i
    rw [e] at plain
    refine PySem.P.repr_of_int ?_ (plain (I.tok _))
    simpa [PyData.showable] using hs
  | str x =>
    cases hd
    obtain ⟨t, rfl⟩ := rx
    have e : (PyData.str x).shown = reprText x := PyData.shown_str x
    rw [e] at plain hl
    exact PySem.P.repr_of_str (plain (I.tok _)) hl
  | _ => cases hd
end
section
variable {K : PySem.W.Frag} {cm : Cm} {mu : List Addr} {Z H : Hp} {h h' : Hh}
theorem HK.p_key {k : HK} {q : Key} (e : k.key = some q) : HK.p k = kP q := by
  cases k <;> cases e <;> rfl
theorem keysK_p : ∀ {ks : List HK} {qs : List Key}, KeysK ks qs → ks.map HK.p = qs.map kP
  | _, _, .nil => rfl
  | _, _, .cons a r => by
    rw [List.map_cons, List.map_cons, keysK_p r, HK.p_key a]
theorem toRk_fst : ∀ kvs : List (HK × W), (toRk kvs).map (·.1) = (kvs.map (·.1)).map HK.p
  | [] => rfl
  | (k, w) :: r => by
    show HK.p k :: (toRk r).map (·.1) = HK.p k :: (r.map (·.1)).map HK.p
    rw [toRk_fst r]
theorem toRk_snd : ∀ kvs : List (HK × W), (toRk kvs).map (·.2) = toRs (kvs.map (·.2))
  | [] => rfl
  | (k, w) :: r => by
    show toR w :: (toRk r).map (·.2) = toR w :: toRs (r.map (·.2))
    rw [toRk_snd r]
theorem zipR_fst {α β : Type} : ∀ {a : List α} {b : List β}, a.length = b.length → (a.zip b).map (·.1) = a
  | [], [], _ => rfl
  | x :: a, y :: b, e => by
    rw [List.zip_cons_cons, List.map_cons, zipR_fst (Nat.succ.inj e)]
theorem zipR_snd {α β : Type} : ∀ {a : List α} {b : List β}, a.length = b.length → (a.zip b).map (·.2) = b
  | [], [], _ => rfl
  | x :: a, y :: b, e => by
    rw [List.zip_cons_cons, List.map_cons, zipR_snd (Nat.succ.inj e)]
theorem dic_DpY {a : Addr} {ks : List Key} {vs : List V} {kvs : List (HK × W)} (k1 : KeysK (kvs.map (·.1)) ks) (rd : Rd H a (.dK (ks.zip vs))) (hl : ks.length = vs.length) (q : DpYs K H vs (toRs (kvs.map (·.2)))) : DpY K H (.ref a) (.dict (toRk kvs)) := by
  refine .dic rd ?_ ?_
  · have e : (ks.zip vs).map (fun p => kP p.1) = ((ks.zip vs).map (·.1)).map kP := by rw [List.map_map]; rfl
    rw [toRk_fst, keysK_p k1, e, zipR_fst hl]
  · rw [toRk_snd, zipR_snd hl]
    exact q
mutual
theorem toR_Dp (r : RelH K cm mu Z H h) : ∀ {d : Nat} {a : W} {v : V}, isDaR d a = true → RW K cm mu Z a v → DpY K H v (toR a)
  | _, .non, _, _, q => by cases q; exact .non
  | _, .bl b, _, _, q => by cases q; exact .bl b
  | _, .int i, _, _, q => by cases q; exact .int i
  | _, .str x, _, _, q => by cases q; exact .str x
  | d, .tup xs, _, h, q => by
    cases d with
    | zero => cases h
    | succ d =>
      obtain ⟨a, vs, rfl, z, rs⟩ := q
      exact .tup (SqT.of (r.tupZ z)) (toRs_Dp r (show areDaR d xs = true from h) rs)
  | d, .lst xs, _, h, q => by
    cases d with
    | zero => cases h
    | succ d =>
      obtain ⟨a, vs, rfl, z, rs⟩ := q
      exact .lst (SqL.of (r.lstZ z)) (toRs_Dp r (show areDaR d xs = true from h) rs)
  | d, .dic kd kvs, _, h, q => by
    cases d with
    | zero => cases h
    | succ d =>
      have h : (!kd && areDaK d kvs) = true := h
      cases kd with
      | true => cases h
      | false =>
        obtain ⟨a, rfl, q⟩ := q
        obtain ⟨ks, vs, h1, h2, h3, h4⟩ := (show ∃ ks vs, KeysK (kvs.map (·.1)) ks ∧ Z a = some (.dK (ks.zip vs)) ∧ ks.length = vs.length ∧ RWk K cm mu Z kvs vs from q)
        exact dic_DpY h1 (r.zh a _ h2) h3 (toRk_Dp r (show areDaK d kvs = true from h) h4)
  | _, .obj _ _, _, h, _ => by cases h
  | _, .err _ _, _, h, _ => by cases h
  | _, .ref _, _, h, _ => by cases h
  | _, .scr _, _, h, _ => by cases h
theorem toRs_Dp (r : RelH K cm mu Z H h) : ∀ {d : Nat} {a : List W} {vs : List V}, areDaR d a = true → RWs K cm mu Z a vs → DpYs K H vs (toRs a)
  | _, [], _, _, q => by
    cases (show _ = [] from q)
    exact .nil
  | d, x :: xs, _, h, q => by
    have h : (isDaR d x && areDaR d xs) = true := h
    rw [Bool.and_eq_true] at h
    obtain ⟨v, rs, rfl, q1, q2⟩ := q
    exact .cons (toR_Dp r h.1 q1) (toRs_Dp r h.2 q2)
theorem toRk_Dp (r : RelH K cm mu Z H h) : ∀ {d : Nat} {a : List (HK × W)} {vs : List V}, areDaK d a = true → RWk K cm mu Z a vs → DpYs K H vs (toRs (a.map (·.2)))
  | _, [], _, _, q => by
    cases (show _ = [] from q)
    exact .nil
  | d, (k, x) :: xs, _, h, q => by
    have h : (k.flat && (isDaR d x && areDaK d xs)) = true := h
    rw [Bool.and_eq_true, Bool.and_eq_true] at h
    obtain ⟨v, rs, rfl, q1, q2⟩ := q
    exact .cons (toR_Dp r h.2.1 q1) (toRk_Dp r h.2.2 q2)
end
theorem look_DpY (r : RelH K cm mu Z H h) {d i : Nat} {v : V} (q : RW K cm mu Z (.ref i) v) (e : isDaR d (look h (.ref i)) = true) : DpY K H v (toR (look h (.ref i))) := by
  obtain ⟨a, rfl, m⟩ := q
  have e : isDaR d (match h[i]? with | some c => c.tree | none => W.ref i) = true := e
  show DpY K H (.ref a) (toR (match h[i]? with | some c => c.tree | none => W.ref i))
  cases e1 : h[i]? with
  | none => rw [e1] at e; cases e
  | some c =>
    rw [e1] at e
    have cr := r.at_ m e1
    cases c with
    | lst ws =>
      obtain ⟨_, n, vs, e2, rs⟩ := (show Z a = none ∧ nors ws = true ∧ ∃ vs, H a = some (.lst vs) ∧ RWs K cm [] Z ws vs from cr)
      cases d with
      | zero => cases e
      | succ d => exact .lst (SqL.of e2) (toRs_Dp (cm := cm) r (show areDaR d ws = true from e) (RWs.any n rs))
    | dic kd kvs =>
      cases d with
      | zero => cases e
      | succ d =>
        have e : (!kd && areDaK d kvs) = true := e
        cases kd with
        | true => cases e
        | false =>
          obtain ⟨_, n, q⟩ := cr
          obtain ⟨ks, vs, h1, h2, h3, h4⟩ := (show ∃ ks vs, KeysK (kvs.map (·.1)) ks ∧ H a = some (.dK (ks.zip vs)) ∧ ks.length = vs.length ∧ RWk K cm [] Z kvs vs from q)
          exact dic_DpY h1 (.inl h2) h3 (toRk_Dp (cm := cm) r (show areDaK d kvs = true from e) (RWk.any n h4))
    | obj _ _ => cases e
    | frz w =>
      obtain ⟨n, q2⟩ := (show nor w = true ∧ RW K cm [] Z w (.ref a) from cr)
      exact toR_Dp (cm := cm) r e (RW.any n q2)
theorem drfk_fst (h : Hh) : ∀ kvs : List (HK × W), (drfk h kvs).map (·.1) = kvs.map (·.1)
  | [] => rfl
  | (k, w) :: r => by
    show k :: (drfk h r).map (·.1) = k :: r.map (·.1)
    rw [drfk_fst h r]
mutual
theorem drf_Dp (r : RelH K cm mu Z H h) : ∀ {d : Nat} {a : W} {v : V}, isDaR d (drf h a) = true → RW K cm mu Z a v → DpY K H v (toR (drf h a))
  | _, .non, _, _, q => by cases q; exact .non
  | _, .bl b, _, _, q => by cases q; exact .bl b
  | _, .int i, _, _, q => by cases q; exact .int i
  | _, .str x, _, _, q => by cases q; exact .str x
  | d, .tup xs, _, e, q => by
    cases d with
    | zero => cases e
    | succ d =>
      obtain ⟨a, vs, rfl, z, rs⟩ := q
      exact .tup (SqT.of (r.tupZ z)) (drfs_Dp r (show areDaR d (drfs h xs) = true from e) rs)
  | d, .lst xs, _, e, q => by
    cases d with
    | zero => cases e
    | succ d =>
      obtain ⟨a, vs, rfl, z, rs⟩ := q
      exact .lst (SqL.of (r.lstZ z)) (drfs_Dp r (show areDaR d (drfs h xs) = true from e) rs)
  | d, .dic kd kvs, _, e, q => by
    cases d with
    | zero => cases e
    | succ d =>
      have e : (!kd && areDaK d (drfk h kvs)) = true := e
      cases kd with
      | true => cases e
      | false =>
        obtain ⟨a, rfl, q⟩ := q
        obtain ⟨ks, vs, h1, h2, h3, h4⟩ := (show ∃ ks vs, KeysK (kvs.map (·.1)) ks ∧ Z a = some (.dK (ks.zip vs)) ∧ ks.length = vs.length ∧ RWk K cm mu Z kvs vs from q)
        exact dic_DpY (kvs := drfk h kvs) (by rw [drfk_fst]; exact h1) (r.zh a _ h2) h3 (drfk_Dp r (show areDaK d (drfk h kvs) = true from e) h4)
  | _, .obj _ _, _, e, _ => by cases e
  | _, .err _ _, _, e, _ => by cases e
  | _, .ref i, _, e, q => look_DpY r q e
  | _, .scr _, _, e, _ => by cases e
theorem drfs_Dp (r : RelH K cm mu Z H h) : ∀ {d : Nat} {a : List W} {vs : List V}, areDaR d (drfs h a) = true → RWs K cm mu Z a vs → DpYs K H vs (toRs (drfs h a))
  | _, [], _, _, q => by
    cases (show _ = [] from q)
    exact .nil
  | d, x :: xs, _, e, q => by
    have e : (isDaR d (drf h x) && areDaR d (drfs h xs)) = true := e
    rw [Bool.and_eq_true] at e
    obtain ⟨v, rs, rfl, q1, q2⟩ := q
    exact .cons (drf_Dp r e.1 q1) (drfs_Dp r e.2 q2)
theorem drfk_Dp (r : RelH K cm mu Z H h) : ∀ {d : Nat} {a : List (HK × W)} {vs : List V}, areDaK d (drfk h a) = true → RWk K cm mu Z a vs → DpYs K H vs (toRs ((drfk h a).map (·.2)))
  | _, [], _, _, q => by
    cases (show _ = [] from q)
    exact .nil
  | d, (k, x) :: xs, _, e, q => by
    have e : (k.flat && (isDaR d (drf h x) && areDaK d (drfk h xs))) = true := e
    rw [Bool.and_eq_true, Bool.and_eq_true] at e
    obtain ⟨v, rs, rfl, q1, q2⟩ := q
    exact .cons (drf_Dp r e.2.1 q1) (drfk_Dp r e.2.2 q2)
end
mutual
theorem toR_depth : ∀ {d : Nat} {a : W}, isDaR d a = true → (toR a).depth ≤ d
  | _, .non, _ => Nat.zero_le _
  | _, .bl _, _ => Nat.zero_le _
  | _, .int _, _ => Nat.zero_le _
  | _, .str x, h => Nat.zero_le _
  | d, .tup xs, h => by
    cases d with
    | zero => cases h
    | succ d => exact Nat.succ_le_succ (toRs_depth (show areDaR d xs = true from h))
  | d, .lst xs, h => by
    cases d with
    | zero => cases h
    | succ d => exact Nat.succ_le_succ (toRs_depth (show areDaR d xs = true from h))
  | d, .dic kd kvs, h => by
    cases d with
    | zero => cases h
    | succ d =>
      have h : (!kd && areDaK d kvs) = true := h
      rw [Bool.and_eq_true] at h
      exact Nat.succ_le_succ (toRk_depth (d := d) h.2)
  | _, .obj _ _, h => by cases h
  | _, .err _ _, h => by cases h
  | _, .ref _, h => by cases h
  | _, .scr _, h => by cases h
theorem toRs_depth : ∀ {d : Nat} {a : List W}, areDaR d a = true → PyData.depthAll (toRs a) ≤ d
  | _, [], _ => Nat.zero_le _
  | d, x :: xs, h => by
    have h : (isDaR d x && areDaR d xs) = true := h
    rw [Bool.and_eq_true] at h
    exact Nat.max_le.mpr ⟨toR_depth h.1, toRs_depth h.2⟩
theorem toRk_depth : ∀ {d : Nat} {a : List (HK × W)}, areDaK d a = true → PyData.depthKv (toRk a) ≤ d
  | _, [], _ => Nat.zero_le _
  | d, (k, x) :: xs, h => by
    have h : (k.flat && (isDaR d x && areDaK d xs)) = true := h
    rw [Bool.and_eq_true, Bool.and_eq_true] at h
    have hk : (HK.p k).depth = 0 := by cases k <;> rfl
    have h1 := toR_depth h.2.1
    have h2 := toRk_depth h.2.2
    show max (max (HK.p k).depth (toR x).depth) (PyData.depthKv (toRk xs)) ≤ d
    omega
end
theorem ok_reprD : OkL K cm (l1 pReprD) (rReprY K) := by
  refine OkL.of1 ?_
  intro mu Z H h w1 w h' v1 Q r q1 e f
  unfold pReprD at e
  split at e
  · rename_i hc
    rw [Bool.and_eq_true, Bool.and_eq_true, decide_eq_true_eq] at hc
    cases e
    exact ⟨v1, _, rfl, drf_Dp r hc.1.1 q1, hc.1.2, Nat.le_trans (toR_depth hc.1.1) (by decide), Nat.le_trans hc.2 (by decide), f.here r rfl⟩
  · cases e
end
end Ti


namespace Ti
open PySem PySem.Spec PyProof.Rows L2
def eDic1 (c : Bool) (k v : DE) : DE := fun ρ h => (k ρ h).bind fun p => (v ρ p.2).bind fun q => match keyOf p.1 with
  | some hk => if hk.key.isSome = true then mkD c false [(hk, q.1)] q.2 else .bad
  | none => .bad
section
variable {X : Cx} {cm : Cm} {k v : Expr} {mk mv : DE} {pos : Pos} {c : Bool}
theorem q_dic1 (hk : QE X cm k mk) (hv : QE X cm v mv) : QE X cm (.Dict [some k] [v] pos) (eDic1 c mk mv) := by
  refine PE.wk (pe_disp (pps_cons hk hv pps_nil) rfl rfl (List.cons_ne_nil _ _) (by decide : 1 ≤ 15)) fun σ H Q q => ?_
  obtain ⟨mu, Z, ρ, h, w, h', rl, s, e, f⟩ := q
  obtain ⟨p1, e1, e⟩ := Res.bind_eq_ok e
  obtain ⟨p2, e2, e⟩ := Res.bind_eq_ok e
  intro p hp
  obtain ⟨r0, x0⟩ := rl.newO (o := .dK []) hp
  refine ⟨mu, Z, ρ, h, p1.1, p1.2, r0, s.ext x0, e1, fun mu1 Z1 H1 v1 x1 r1 w1 => ?_⟩
  refine ⟨mu1, Z1, ρ, p1.2, p2.1, p2.2, r1, s.ext (x0.trans x1), e2, fun mu2 Z2 H2 v2 x2 r2 w2 => ?_⟩
  have x12 := x1.trans x2
  have pm : p ∉ mu := rl.mfree hp
  have pm2 : p ∉ mu2 := fun z => by
    rcases x12.nm p z with q | q
    · exact pm q
    · rw [upd_same] at q; cases q
  have pz : Z p = none := rl.zfree hp
  have pz2 : Z2 p = none := by
    cases q : Z2 p with
    | none => rfl
    | some u =>
      rcases x12.nz p (by rw [q]; exact fun z => nomatch z) with z | z | z
      · exact absurd pz z
      · exact absurd z pm
      · rw [upd_same] at z; cases z
  have hp2 : H2 p = some (.dK []) := x12.fr p _ pm pz upd_same (fun ps z => nomatch z)
  split at e
  · rename_i hk' ek
    split at e
    · rename_i hs
      obtain ⟨ky, hky⟩ := Option.isSome_iff_exists.mp hs
      have ev := key_flat w1 ek hky
      refine ⟨hp2, [(ky, v2)], by rw [ev]; rfl, (by decide : 1 ≤ 15), ?_⟩
      show Q (.ref p) (L2.upd H2 p (.dK [(ky, v2)]))
      have tm : ∀ kvs, Tame (HO.dK kvs) := fun kvs => ⟨fun _ z => (nomatch z), fun _ z => (nomatch z)⟩
      have r3 := r2.side (o := .dK [(ky, v2)]) pm2 pz2 (.some hp2 (tm _))
      have xx := x0.trans x12
      have ne : ∀ {a : Addr} {u : HO}, H a = some u → a ≠ p := fun {a u} q z => by rw [z, hp] at q; cases q
      have x3 : Ext mu Z H mu2 Z2 (L2.upd H2 p (.dK [(ky, v2)])) := by
        refine ⟨xx.m, xx.z, fun a u n z q t => ?_, fun a u n q => ?_, xx.nm, xx.nz, fun a o u q => ?_⟩
        · rw [upd_ne (ne q)]; exact xx.fr a u n z q t
        · rw [upd_ne (ne q)]; exact xx.th a u n q
        · rw [upd_ne (ne q)]; exact xx.fz a o u q
      obtain ⟨mu', Z', r4, w4, x4⟩ := mkD_at (D := p) (ks := [ky]) (vs := [v2]) (kvs := [(hk', p2.1)]) r3 pm2 pz2 upd_same (.cons hky .nil) rfl ⟨v2, [], rfl, w2, rfl⟩ e
      exact f mu' Z' _ _ (x4 mu Z H x3 hp) r4 w4
    · cases e
  · cases e
end
end Ti


namespace L2
open PySem PySem.Spec PyProof.Rows
def cntS (xs : List Str) : Nat → Nat
  | 0 => 0
  | i + 1 => if (xs.take i).any (· == xs.getD i Str.empty) = true then cntS xs i else cntS xs i + 1
theorem cntS_le {xs : List Str} : ∀ i, cntS xs i ≤ i
  | 0 => Nat.le_refl _
  | i + 1 => by
    have := cntS_le (xs := xs) i
    unfold cntS
    split <;> omega
theorem take_any {xs : List Str} {i : Nat} (h : i < xs.length) (y : Str) : (xs.take (i + 1)).any (· == y) = ((xs.take i).any (· == y) || decide (y = xs.getD i Str.empty)) := by
  rw [List.take_add_one, List.getElem?_eq_getElem h, List.any_append, List.getD_eq_getElem?_getD, List.getElem?_eq_getElem h]
  show ((xs.take i).any (· == y) || [xs[i]].any (· == y)) = ((xs.take i).any (· == y) || decide (y = xs[i]))
  congr 1
  rw [List.any_cons, List.any_nil, Bool.or_false]
  by_cases e : y = xs[i]
  · rw [decide_eq_true e, e, beq_self_eq_true]
  · rw [decide_eq_false e, beq_eq_false_iff_ne.mpr fun z => e z.symm]
section
variable {pr : Program} {wd : World} {A : Around} {R : Result → Shared → Prop} {it : Addr} {fp wr : List Addr} {G : Array GenState → Array GenState → Prop} {m : Nat} {Pv : Nat → Value → Prop} {Sv : Nat → Shared → Prop}
theorem loop_met (Wk : WalksS pr wd A.in1 it fp wr G m Pv Sv) (d : Addr) (nf : d ∉ fp) (xs : List Str) (lx : xs.length = m) (lb : m + 1 < scanBound)
    (vl : ∀ i v, Pv i v → ∃ t, v = .str (xs.getD i Str.empty) t) : ∀ (j i : Nat) (s : Shared), m - i = j → i ≤ m → Sv i s →
      s.heap.SetOf (PySem.strKind pr wd) d (fun y => (xs.take i).any (· == y)) (cntS xs i) →
      (∀ s2, Moved (d :: wr) G s s2 → s2.heap.SetOf (PySem.strKind pr wd) d (fun y => (xs.take m).any (· == y)) (cntS xs m) → R (.ok (.ret .none)) s2) →
      codeAny (model pr wd) A (.builtin "set.update.loop" ⟨[.ref d, .ref it], []⟩) R s := by
  have nw : d ∉ wr := fun z => nf (Wk.sub _ z)
  have sb : ∀ b ∈ wr, b ∈ d :: wr := fun b z => List.mem_cons_of_mem _ z
  intro j
  induction j with
  | zero =>
    intro i s ej hi st So last
    obtain rfl : i = m := by omega
    refine codeAny_builtin PyProof.Rows.F.entry_set_update_loop ?_
    rw [Around.under_plainId PyProof.Rows.F.plain_set_update_loop _]
    refine wpAny_bind (m := pyNext (.ref it)) (Wk.done s _ _ st fun s2 mv => ?_)
    refine wpAny_pure (last s2 (mv.mono sb) ?_)
    obtain ⟨o, es, ep, t, ho, rest⟩ := So
    exact ⟨o, es, ep, t, mv.heap d _ nw ho, rest⟩
  | succ j ih =>
    intro i s ej hi st So last
    have lt : i < m := by omega
    refine codeAny_builtin PyProof.Rows.F.entry_set_update_loop ?_
    rw [Around.under_plainId PyProof.Rows.F.plain_set_update_loop _]
    refine wpAny_bind (m := pyNext (.ref it)) (Wk.item i s _ _ lt st fun v s2 pv st2 mv => ?_)
    obtain ⟨t, rfl⟩ := vl i v pv
    have So2 : s2.heap.SetOf (PySem.strKind pr wd) d (fun y => (xs.take i).any (· == y)) (cntS xs i) := by
      obtain ⟨o, es, ep, tb, ho, rest⟩ := So
      exact ⟨o, es, ep, tb, mv.heap d _ nw ho, rest⟩
    show wpAny _ A.in1 (holding [Value.str (xs.getD i Str.empty) t] (setAdd d (.str (xs.getD i Str.empty) t)) >>= _) _ _ s2
    refine wpAny_bind (wpAny_holding ?_)
    unfold setAdd
    refine wpAny_holding (wpAny_bind ((PySem.strKind pr wd).pyHash (k := xs.getD i Str.empty) (strKind_is _ _ _ _) ?_))
    have rm : cntS xs i + 1 < scanBound := by have := cntS_le (xs := xs) i; omega
    refine wpAny_setAddHashed_of (knd := PySem.strKind pr wd) (s := { s2 with toks := s2.toks + 1 }) (strKind_is _ _ _ _) rfl So2 rm fun h2 hb So3 => ?_
    have So4 : h2.SetOf (PySem.strKind pr wd) d (fun y => (xs.take (i + 1)).any (· == y)) (cntS xs (i + 1)) :=
      SetOf_congr So3 (fun y => (take_any (by omega) y).symm) rfl
    refine wpAny_pure ⟨plainId_quiet PyProof.Rows.F.plain_set_update_loop _, ih (i + 1) _ (by omega) lt (Wk.frame _ s2 _ _ st2 (Nat.le_succ _) fun b z o e => ?_) So4 fun s3 mv3 So5 => ?_⟩
    · rw [hb.2 b fun q : b = d => nf (q ▸ z)]
      exact e
    · refine last s3 (Moved.trans Wk.gtrans ((mv.mono sb).then_heap (Nat.le_succ _) fun b o z e => ?_) mv3) So5
      rw [hb.2 b fun q : b = d => z (q ▸ List.mem_cons_self)]
      exact e
end
section
variable {pr : Program} {wd : World} {A : Around} {E : Value → Shared → Prop} {s : Shared}
theorem call_setMet {l : Addr} {its : Array Value} {xs : List Str} {Q : Value → Shared → Prop}
    (nh : A.handled = none) (li : s.heap.IsList l its) (sa : PyProof.Rows.StrsAre its.toList xs) (lb : its.size + 1 < scanBound)
    (go : ∀ (h2 : Heap) (tk : Nat), h2.SetOf (PySem.strKind pr wd) s.heap.objs.size (fun y => (xs.take its.size).any (· == y)) (cntS xs its.size) →
      (∀ b o, b < s.heap.objs.size → s.heap.get? b = some o → h2.get? b = some o) → Q (.ref s.heap.objs.size) { s with heap := h2, toks := tk }) :
    wpAny (model pr wd) A (call (.type "set") [.ref l]) Q E s := by
  obtain ⟨c0, tl0, mro0⟩ := PySem.F.called_set.mro
  have made0 := PySem.F.called_set.made
  have sub0 := PySem.F.called_set.sub
  refine wpAny_call (codeAny_of_tree ?_)
  refine wpAny_pure ⟨Code.quiet_builtin _ (by decide +kernel), codeAny_builtin PySem.F.entry_type_call ?_⟩
  rw [Around.under_plain (weight_type_call_type "set" [.ref l] []) rfl]
  have nt0 := PySem.F.called_set.notType
  have cc0 := PySem.F.called_set.canCreate
  have tc0 := PySem.F.typeCall_set_1 (.ref l)
  repeat (any_goals (first | assumption | wp_step))
  refine codeAny_mono (code_set_new_1 (.ref l) (E := E) (Q₁ := fun ob s1 => ∃ led : Bool, ob = .ref s.heap.objs.size ∧ s1 = { s with heap := s.heap.push { cls := .type "set", dict := none, data := .set #[] 0 (.fresh 0 0 led) } }) fun led => ⟨led, rfl, rfl⟩) fun r s1 hr => ?_
  cases r with
  | error e => exact hr
  | ok fl => match fl, hr with
    | .ret ob, hr =>
      obtain ⟨led, rfl, rfl⟩ := hr
      have new0 : (s.heap.push { cls := .type "set", dict := none, data := .set #[] 0 (.fresh 0 0 led) }).get? s.heap.objs.size = some { cls := .type "set", dict := none, data := .set #[] 0 (.fresh 0 0 led) } := Heap.get?_push_size _ rfl
      have typ0 : Shared.TypeIs { s with heap := s.heap.push { cls := .type "set", dict := none, data := .set #[] 0 (.fresh 0 0 led) } } (.ref s.heap.objs.size) "set" := ⟨_, new0, rfl⟩
      have lk0 := PySem.F.called_set.init.lookup
      have bd0 := PySem.F.called_set.init.bind (.ref s.heap.objs.size)
      repeat (any_goals (first | assumption | wp_step))
      refine codeAny_mono (codeAny_call_builtin (R := wants (fun r s2 => r = .none ∧ ∃ h2 tk, s2 = { s with heap := h2, toks := tk } ∧
          h2.SetOf (PySem.strKind pr wd) s.heap.objs.size (fun y => (xs.take its.size).any (· == y)) (cntS xs its.size) ∧
          (∀ b o, b < s.heap.objs.size → s.heap.get? b = some o → h2.get? b = some o)) E) PySem.F.called_set.init.plain PySem.F.entry_set_init (check_set_init_1 typ0 ?_)) fun r2 s2 hr2 => ?_
      · obtain ⟨ol, hol, cl0, nl, dl0⟩ := li
        obtain ⟨oc, od, ox, os⟩ := ol
        simp only at cl0 dl0
        subst cl0
        subst dl0
        have hol2 : (s.heap.push { cls := .type "set", dict := none, data := .set #[] 0 (.fresh 0 0 led) }).get? l = some { cls := .type "list", dict := od, data := .seq its nl, slots := os } := Heap.get?_push_of_some _ hol
        have sl0 := PySem.F.sub_list_set
        have sf0 := PySem.F.sub_list_frozenset
        have ne0 : (Value.type "list" == Value.type "dict") = false := by decide
        have li2 : (s.heap.push { cls := .type "set", dict := none, data := .set #[] 0 (.fresh 0 0 led) }).IsList l its := ⟨_, hol2, rfl, nl, rfl⟩
        unfold Builtin.«set.__init__» noKeywords Builtin.Frozenset.updateFrom
        generalize gi : pyIter = PI
        wp_walk
        subst gi
        refine wpAny_pyIter_list li2 (wpAny_bind (wpAny_runValue ?_))
        have ll : l < s.heap.objs.size := Heap.lt_size hol
        have h3 : A.in1.in1.in1.handled = none := by simp [nh]
        have n1 : l ≠ (s.heap.push { cls := .type "set", dict := none, data := .set #[] 0 (.fresh 0 0 led) }).objs.size := by
          rw [Heap.size_push]
          exact Nat.ne_of_lt (Nat.lt_succ_of_lt ll)
        have n2 : s.heap.objs.size ∉ [(s.heap.push { cls := .type "set", dict := none, data := .set #[] 0 (.fresh 0 0 led) }).objs.size, l] := by
          rw [Heap.size_push]
          simp only [List.mem_cons, List.not_mem_nil, or_false, not_or]
          exact ⟨Nat.ne_of_lt (Nat.lt_succ_self _), Nat.ne_of_gt ll⟩
        have lx : xs.length = its.size := by rw [← StrsAre.len_eq sa, Array.length_toList]
        refine loop_met ((Walks.list h3 _ l n1 its).toS) s.heap.objs.size n2 xs lx lb (fun i v hv => SS.strs_at sa i v (by rw [Array.getElem?_toList]; exact hv)) (its.size - 0) 0 _ (by omega) (Nat.zero_le _)
          ⟨⟨_, Heap.get?_push_size _ rfl, rfl, rfl⟩, (li2.push _)⟩ ?s0 ?sr
        case s0 =>
          have g0 : ((s.heap.push { cls := .type "set", dict := none, data := .set #[] 0 (.fresh 0 0 led) }).push { cls := .type "list_iterator", data := .fields #[.ref l, .int 0 0] }).get? s.heap.objs.size = some { cls := .type "set", dict := none, data := .set #[] 0 (.fresh 0 0 led) } := Heap.get?_push_of_some _ new0
          exact SetOf_congr ((PyProof.Rows.setObjOf_fresh (knd := PySem.strKind pr wd) led).setOf g0 (by unfold scanBound; omega)) (fun _ => rfl) rfl
        case sr =>
          intro s2 mv So
          obtain ⟨h2, g2, d2, tk, o2⟩ := s2
          obtain rfl : g2 = s.gens := mv.gens
          obtain rfl : d2 = s.drawn := mv.drawn
          obtain rfl : o2 = s.os := mv.os
          refine wpAny_pure (wpAny_pure ⟨rfl, h2, tk, rfl, So, fun b o hb e => ?_⟩)
          have b1 : b ≠ s.heap.objs.size := Nat.ne_of_lt hb
          have b2 : b ≠ (s.heap.push { cls := .type "set", dict := none, data := .set #[] 0 (.fresh 0 0 led) }).objs.size := by
            rw [Heap.size_push]
            exact Nat.ne_of_lt (Nat.lt_succ_of_lt hb)
          exact mv.heap b o (by simp only [List.mem_cons, List.not_mem_nil, or_false, not_or]; exact ⟨b1, b2⟩) (Heap.get?_push_of_some _ (Heap.get?_push_of_some _ e))
      · cases r2 with
        | error e => exact hr2
        | ok f2 => match f2, hr2 with
          | .ret r, hr2 =>
            obtain ⟨rfl, h2, tk, rfl, So, kp⟩ := hr2
            repeat (any_goals (first | assumption | wp_step))
            exact go _ _ So kp
end
section
variable {X : Cx}
def tLenSetM (K : PySem.W.Frag) (ta : TE) : TE := fun σ H Q => ta σ H fun x H1 => ∃ (l : Addr) (xs : List Str), x = .ref l ∧ SqL K H1 l (xs.map V.str) ∧ xs.length ≤ 4000 ∧ Q (.int (cntS xs xs.length : Nat)) H1
theorem pe_lenSetM {a : Expr} {ta : TE} {p p2 q pos : Pos} (hc : X.calm = true) (hg : Gl X "len") (hm : X.mg "len" = none) (hg2 : Gl X "set") (hm2 : X.mg "set" = none) (ha : PE X a ta)
    (na : starEach [a] X.env = (false, eval a X.env) :: starEach [] X.env) : PE X (.Call (.Name "len" p) [.Call (.Name "set" p2) [a] [] q] [] pos) (tLenSetM X.K ta) := by
  refine ⟨fun pins s σ H Q I h => ?_⟩
  refine Call_ (ld_blt I hg hm boot_len (PyProof.Rows.callWith_builtin1 (PyProof.Rows.args_cons ?_ rfl) rfl rfl))
  refine Call_ (ld_blt I hg2 hm2 boot_set ?_)
  refine PyProof.Rows.callWith_type1 (PyProof.Rows.args_cons (thn (ha.run pins s σ H _ I h) fun v s1 ⟨x, H1, I1, r1, l, xs, ex, hq, hl, q1⟩ => PyProof.Rows.args_nil ?_) na) na rfl
  subst ex
  cases r1
  obtain ⟨its, r, pl, hz⟩ := I1.list hq
  have le : its.toArray.size = xs.length := by rw [List.size_toArray, ← r.length, List.length_map]
  refine call_setMet (I1.ok.hd hc) pl.isList (by simpa using strsAre_of r) (by rw [le]; unfold scanBound; omega) fun h2 tk So kp => PyProof.Rows.args_nil ?_
  rw [le] at So
  obtain ⟨o, es, ep, t, ho, hex, hd, _, _, _, hf, hn⟩ := So
  have I2 : Inv X pins σ H1 { s1 with heap := h2, toks := tk } := I1.kept fun b o e => kp b o (Heap.lt_size e) e
  have := cntS_le (xs := xs) xs.length
  exact call_len_set ho hex hd hf (by rw [hn]; omega) ⟨.int (cntS xs xs.length : Nat), H1, I2.tok _, ⟨_, by rw [hn]⟩, q1⟩
end
end L2
namespace Ti
open PySem PySem.Spec PyProof.Rows L2
def pLenSet : F1 := fun x h => (ofO (asL h x)).bind fun ws => (ofO (strsOf ws)).bind fun ys => if ys.length ≤ 4000 then .ok (.int (cntS ys ys.length : Nat), h) else .bad
section
variable {X : Cx} {cm : Cm}
theorem q_lenSet {a : Expr} {m : DE} {p p2 q pos : Pos} (hc : X.calm = true) (hg : Gl X "len") (hm : X.mg "len" = none) (hg2 : Gl X "set") (hm2 : X.mg "set" = none) (ha : QE X cm a m)
    (na : starEach [a] X.env = (false, eval a X.env) :: starEach [] X.env) : QE X cm (.Call (.Name "len" p) [.Call (.Name "set" p2) [a] [] q] [] pos) (e1 pLenSet m) := by
  refine PE.wk (pe_lenSetM hc hg hm hg2 hm2 ha na) fun σ H Q q => ?_
  obtain ⟨mu, Z, ρ, h, w, h', rl, s, e, f⟩ := q
  obtain ⟨p, e1, e⟩ := Res.bind_eq_ok e
  refine ⟨mu, Z, ρ, h, p.1, p.2, rl, s, e1, fun mu1 Z1 H1 v1 x1 r1 w1 => ?_⟩
  obtain ⟨u, h2⟩ := p
  obtain ⟨ws, e2, e⟩ := Res.bind_eq_ok (show (ofO (asL h2 u)).bind _ = Res.ok (w, h') from e)
  obtain ⟨ys, e3, e⟩ := Res.bind_eq_ok e
  split at e
  · rename_i hl
    cases e
    obtain ⟨a, vs, rfl, ha, rs⟩ := asL_ok r1 w1 (ofO_eq_ok e2)
    have := strsOf_ok (ofO_eq_ok e3) rs
    subst this
    exact ⟨a, ys, rfl, SqL.of ha, hl, f mu1 Z1 H1 _ x1 r1 rfl⟩
  · cases e
end
end Ti


namespace L2
open PySem PySem.Spec PyProof.Rows
def cntI (xs : List Int) : Nat → Nat
  | 0 => 0
  | i + 1 => if (xs.take i).any (· == xs.getD i 0) = true then cntI xs i else cntI xs i + 1
theorem cntI_le {xs : List Int} : ∀ i, cntI xs i ≤ i
  | 0 => Nat.le_refl _
  | i + 1 => by
    have := cntI_le (xs := xs) i
    unfold cntI
    split <;> omega
theorem take_anyI {xs : List Int} {i : Nat} (h : i < xs.length) (y : Int) : (xs.take (i + 1)).any (· == y) = ((xs.take i).any (· == y) || decide (y = xs.getD i 0)) := by
  rw [List.take_add_one, List.getElem?_eq_getElem h, List.any_append, List.getD_eq_getElem?_getD, List.getElem?_eq_getElem h]
  show ((xs.take i).any (· == y) || [xs[i]].any (· == y)) = ((xs.take i).any (· == y) || decide (y = xs[i]))
  congr 1
  rw [List.any_cons, List.any_nil, Bool.or_false]
  by_cases e : y = xs[i]
  · rw [decide_eq_true e, e, beq_self_eq_true]
  · rw [decide_eq_false e, beq_eq_false_iff_ne.mpr fun z => e z.symm]
theorem ints_len : ∀ {us : List Value} {ns : List Int}, IntsAre us ns → us.length = ns.length
  | _, _, .nil => rfl
  | _, _, .cons _ _ r => congrArg (· + 1) (ints_len r)
section
variable {pr : Program} {wd : World} {A : Around} {E : Value → Shared → Prop} {s : Shared}
theorem code_setLed1 (a : Value) {Q₁ : Value → Shared → Prop}
    (h : Q₁ (.ref s.heap.objs.size) { s with heap := s.heap.push { cls := .type "set", dict := none, data := .set #[] 0 (.fresh 0 0 (!wd.params.followText "set-order")) } }) :
    codeAny (model pr wd) A (.call (.builtin "set.__new__") ⟨[.type "set", a], []⟩) (wants Q₁ E) s := by
  refine codeAny_of_tree ?_
  refine wpAny_bind (m := checkBuiltinCall "set.__new__" ⟨[.type "set", a], []⟩) (wpAny_of_eq (PySem.F.newCall_set_1 a) (wpAny_pure ⟨plainId_quiet PySem.F.plain_set_new _, codeAny_builtin PySem.F.entry_set_new ?_⟩))
  rw [Around.under_plainId PySem.F.plain_set_new _]
  unfold Builtin.«set.__new__» Builtin.Frozenset.newClass
  have sb := sub_set_self
  obtain ⟨h0, g0, d0, tk0, os0⟩ := s
  dsimp only
  wp_walk
  refine wpAny_askSetting (wpAny_pure ?_)
  dsimp only
  simp only [newObj]
  exact wpAny_bind (wpAny_alloc (wpAny_pure (wpAny_pure h)))
end
section
variable {pr : Program} {wd : World} {A : Around} {R : Result → Shared → Prop} {it : Addr} {fp wr : List Addr} {G : Array GenState → Array GenState → Prop} {m : Nat} {Pv : Nat → Value → Prop} {Sv : Nat → Shared → Prop}
theorem loop_metI (Wk : WalksS pr wd A.in1 it fp wr G m Pv Sv) (d : Addr) (nf : d ∉ fp) (xs : List Int) (lx : xs.length = m) (lb : m + 1 < scanBound)
    (vl : ∀ i v, Pv i v → ∃ t, v = .int (xs.getD i 0) t) : ∀ (j i : Nat) (s : Shared), m - i = j → i ≤ m → Sv i s →
      SetR wd s.heap d (fun y => (xs.take i).any (· == y)) (cntI xs i) →
      (∀ s2, Moved (d :: wr) G s s2 → SetR wd s2.heap d (fun y => (xs.take m).any (· == y)) (cntI xs m) → R (.ok (.ret .none)) s2) →
      codeAny (model pr wd) A (.builtin "set.update.loop" ⟨[.ref d, .ref it], []⟩) R s := by
  have nw : d ∉ wr := fun z => nf (Wk.sub _ z)
  have sb : ∀ b ∈ wr, b ∈ d :: wr := fun b z => List.mem_cons_of_mem _ z
  intro j
  induction j with
  | zero =>
    intro i s ej hi st So last
    obtain rfl : i = m := by omega
    refine codeAny_builtin PyProof.Rows.F.entry_set_update_loop ?_
    rw [Around.under_plainId PyProof.Rows.F.plain_set_update_loop _]
    refine wpAny_bind (m := pyNext (.ref it)) (Wk.done s _ _ st fun s2 mv => ?_)
    refine wpAny_pure (last s2 (mv.mono sb) ?_)
    exact So.at fun o ho => mv.heap d _ nw ho
  | succ j ih =>
    intro i s ej hi st So last
    have lt : i < m := by omega
    refine codeAny_builtin PyProof.Rows.F.entry_set_update_loop ?_
    rw [Around.under_plainId PyProof.Rows.F.plain_set_update_loop _]
    refine wpAny_bind (m := pyNext (.ref it)) (Wk.item i s _ _ lt st fun v s2 pv st2 mv => ?_)
    obtain ⟨t, rfl⟩ := vl i v pv
    have So2 : SetR wd s2.heap d (fun y => (xs.take i).any (· == y)) (cntI xs i) := So.at fun o ho => mv.heap d _ nw ho
    show wpAny _ A.in1 (holding [Value.int (xs.getD i 0) t] (setAdd d (.int (xs.getD i 0) t)) >>= _) _ _ s2
    refine wpAny_bind (wpAny_holding ?_)
    unfold setAdd
    refine wpAny_holding (wpAny_bind ((intKind pr wd).pyHash (k := xs.getD i 0) (intKind_is _ _ _ _) ?_))
    have rm : cntI xs i + 1 < scanBound := by have := cntI_le (xs := xs) i; omega
    refine setR_add_hashed (s := { s2 with toks := s2.toks + 1 }) So2 rm fun h2 hb So3 => ?_
    have So4 : SetR wd h2 d (fun y => (xs.take (i + 1)).any (· == y)) (cntI xs (i + 1)) :=
      So3.congr fun y => take_anyI (by omega) y
    refine wpAny_pure ⟨plainId_quiet PyProof.Rows.F.plain_set_update_loop _, ih (i + 1) _ (by omega) lt (Wk.frame _ s2 _ _ st2 (Nat.le_succ _) fun b z o e => ?_) So4 fun s3 mv3 So5 => ?_⟩
    · rw [hb.2 b fun q : b = d => nf (q ▸ z)]
      exact e
    · refine last s3 (Moved.trans Wk.gtrans ((mv.mono sb).then_heap (Nat.le_succ _) fun b o z e => ?_) mv3) So5
      rw [hb.2 b fun q : b = d => z (q ▸ List.mem_cons_self)]
      exact e
end
section
variable {pr : Program} {wd : World} {A : Around} {E : Value → Shared → Prop} {s : Shared}
theorem call_setMetI {l : Addr} {its : Array Value} {xs : List Int} {Q : Value → Shared → Prop}
    (nh : A.handled = none) (li : s.heap.IsList l its) (sa : PyProof.Rows.IntsAre its.toList xs) (lb : its.size + 1 < scanBound)
    (go : ∀ (h2 : Heap) (tk : Nat), SetR wd h2 s.heap.objs.size (fun y => (xs.take its.size).any (· == y)) (cntI xs its.size) →
      (∀ b o, b < s.heap.objs.size → s.heap.get? b = some o → h2.get? b = some o) → Q (.ref s.heap.objs.size) { s with heap := h2, toks := tk }) :
    wpAny (model pr wd) A (call (.type "set") [.ref l]) Q E s := by
  obtain ⟨c0, tl0, mro0⟩ := PySem.F.called_set.mro
  have made0 := PySem.F.called_set.made
  have sub0 := PySem.F.called_set.sub
  refine wpAny_call (codeAny_of_tree ?_)
  refine wpAny_pure ⟨Code.quiet_builtin _ (by decide +kernel), codeAny_builtin PySem.F.entry_type_call ?_⟩
  rw [Around.under_plain (weight_type_call_type "set" [.ref l] []) rfl]
  have nt0 := PySem.F.called_set.notType
  have cc0 := PySem.F.called_set.canCreate
  have tc0 := PySem.F.typeCall_set_1 (.ref l)
  repeat (any_goals (first | assumption | wp_step))
  refine codeAny_mono (code_setLed1 (.ref l) (E := E) (Q₁ := fun ob s1 => ob = .ref s.heap.objs.size ∧ s1 = { s with heap := s.heap.push { cls := .type "set", dict := none, data := .set #[] 0 (.fresh 0 0 (!wd.params.followText "set-order")) } }) ⟨rfl, rfl⟩) fun r s1 hr => ?_
  cases r with
  | error e => exact hr
  | ok fl => match fl, hr with
    | .ret ob, hr =>
      obtain ⟨rfl, rfl⟩ := hr
      have new0 : (s.heap.push { cls := .type "set", dict := none, data := .set #[] 0 (.fresh 0 0 (!wd.params.followText "set-order")) }).get? s.heap.objs.size = some { cls := .type "set", dict := none, data := .set #[] 0 (.fresh 0 0 (!wd.params.followText "set-order")) } := Heap.get?_push_size _ rfl
      have typ0 : Shared.TypeIs { s with heap := s.heap.push { cls := .type "set", dict := none, data := .set #[] 0 (.fresh 0 0 (!wd.params.followText "set-order")) } } (.ref s.heap.objs.size) "set" := ⟨_, new0, rfl⟩
      have lk0 := PySem.F.called_set.init.lookup
      have bd0 := PySem.F.called_set.init.bind (.ref s.heap.objs.size)
      repeat (any_goals (first | assumption | wp_step))
      refine codeAny_mono (codeAny_call_builtin (R := wants (fun r s2 => r = .none ∧ ∃ h2 tk, s2 = { s with heap := h2, toks := tk } ∧
          SetR wd h2 s.heap.objs.size (fun y => (xs.take its.size).any (· == y)) (cntI xs its.size) ∧
          (∀ b o, b < s.heap.objs.size → s.heap.get? b = some o → h2.get? b = some o)) E) PySem.F.called_set.init.plain PySem.F.entry_set_init (check_set_init_1 typ0 ?_)) fun r2 s2 hr2 => ?_
      · obtain ⟨ol, hol, cl0, nl, dl0⟩ := li
        obtain ⟨oc, od, ox, os⟩ := ol
        simp only at cl0 dl0
        subst cl0
        subst dl0
        have hol2 : (s.heap.push { cls := .type "set", dict := none, data := .set #[] 0 (.fresh 0 0 (!wd.params.followText "set-order")) }).get? l = some { cls := .type "list", dict := od, data := .seq its nl, slots := os } := Heap.get?_push_of_some _ hol
        have sl0 := PySem.F.sub_list_set
        have sf0 := PySem.F.sub_list_frozenset
        have ne0 : (Value.type "list" == Value.type "dict") = false := by decide
        have li2 : (s.heap.push { cls := .type "set", dict := none, data := .set #[] 0 (.fresh 0 0 (!wd.params.followText "set-order")) }).IsList l its := ⟨_, hol2, rfl, nl, rfl⟩
        unfold Builtin.«set.__init__» noKeywords Builtin.Frozenset.updateFrom
        generalize gi : pyIter = PI
        wp_walk
        subst gi
        refine wpAny_pyIter_list li2 (wpAny_bind (wpAny_runValue ?_))
        have ll : l < s.heap.objs.size := Heap.lt_size hol
        have h3 : A.in1.in1.in1.handled = none := by simp [nh]
        have n1 : l ≠ (s.heap.push { cls := .type "set", dict := none, data := .set #[] 0 (.fresh 0 0 (!wd.params.followText "set-order")) }).objs.size := by
          rw [Heap.size_push]
          exact Nat.ne_of_lt (Nat.lt_succ_of_lt ll)
        have n2 : s.heap.objs.size ∉ [(s.heap.push { cls := .type "set", dict := none, data := .set #[] 0 (.fresh 0 0 (!wd.params.followText "set-order")) }).objs.size, l] := by
          rw [Heap.size_push]
          simp only [List.mem_cons, List.not_mem_nil, or_false, not_or]
          exact ⟨Nat.ne_of_lt (Nat.lt_succ_self _), Nat.ne_of_gt ll⟩
        have lx : xs.length = its.size := by rw [← ints_len sa, Array.length_toList]
        refine loop_metI ((Walks.list h3 _ l n1 its).toS) s.heap.objs.size n2 xs lx lb (fun i v hv => IntsAre.int_at sa i v (by rw [Array.getElem?_toList]; exact hv)) (its.size - 0) 0 _ (by omega) (Nat.zero_le _)
          ⟨⟨_, Heap.get?_push_size _ rfl, rfl, rfl⟩, (li2.push _)⟩ ?s0 ?sr
        case s0 =>
          have g0 : ((s.heap.push { cls := .type "set", dict := none, data := .set #[] 0 (.fresh 0 0 (!wd.params.followText "set-order")) }).push { cls := .type "list_iterator", data := .fields #[.ref l, .int 0 0] }).get? s.heap.objs.size = some { cls := .type "set", dict := none, data := .set #[] 0 (.fresh 0 0 (!wd.params.followText "set-order")) } := Heap.get?_push_of_some _ new0
          exact ((setR_fresh (h := s.heap) wd).at fun o ho => (new0.symm.trans ho) ▸ g0).congr fun _ => rfl
        case sr =>
          intro s2 mv So
          obtain ⟨h2, g2, d2, tk, o2⟩ := s2
          obtain rfl : g2 = s.gens := mv.gens
          obtain rfl : d2 = s.drawn := mv.drawn
          obtain rfl : o2 = s.os := mv.os
          refine wpAny_pure (wpAny_pure ⟨rfl, h2, tk, rfl, So, fun b o hb e => ?_⟩)
          have b1 : b ≠ s.heap.objs.size := Nat.ne_of_lt hb
          have b2 : b ≠ (s.heap.push { cls := .type "set", dict := none, data := .set #[] 0 (.fresh 0 0 (!wd.params.followText "set-order")) }).objs.size := by
            rw [Heap.size_push]
            exact Nat.ne_of_lt (Nat.lt_succ_of_lt hb)
          exact mv.heap b o (by simp only [List.mem_cons, List.not_mem_nil, or_false, not_or]; exact ⟨b1, b2⟩) (Heap.get?_push_of_some _ (Heap.get?_push_of_some _ e))
      · cases r2 with
        | error e => exact hr2
        | ok f2 => match f2, hr2 with
          | .ret r, hr2 =>
            obtain ⟨rfl, h2, tk, rfl, So, kp⟩ := hr2
            repeat (any_goals (first | assumption | wp_step))
            exact go _ _ So kp
end
section
variable {X : Cx}
def tSortSet (K : PySem.W.Frag) (ta : TE) : TE := fun σ H Q => ta σ H fun x H1 => ∃ (l : Addr) (ns : List Int), x = .ref l ∧ SqL K H1 l (ns.map V.int) ∧ (ns.length ≤ 4000 ∧ cntI ns ns.length < 64) ∧
  ∀ (ms : List Int) (p : Addr), ms.Pairwise (· < ·) → (∀ k : Int, k ∈ ms ↔ k ∈ ns) → H1 p = none → Q (.ref p) (upd H1 p (.lst (ms.map V.int)))
theorem pe_sortSet {a : Expr} {ta : TE} {p p2 q pos : Pos} (hc : X.calm = true) (hg : Gl X "sorted") (hm : X.mg "sorted" = none) (hg2 : Gl X "set") (hm2 : X.mg "set" = none) (ha : PE X a ta)
    (na : starEach [a] X.env = (false, eval a X.env) :: starEach [] X.env) : PE X (.Call (.Name "sorted" p) [.Call (.Name "set" p2) [a] [] q] [] pos) (tSortSet X.K ta) := by
  refine ⟨fun pins s σ H Q I h => ?_⟩
  refine Call_ (ld_blt I hg hm boot_sorted (PyProof.Rows.callWith_builtin1 (PyProof.Rows.args_cons ?_ rfl) rfl rfl))
  refine Call_ (ld_blt I hg2 hm2 boot_set ?_)
  refine PyProof.Rows.callWith_type1 (PyProof.Rows.args_cons (thn (ha.run pins s σ H _ I h) fun v s1 ⟨x, H1, I1, r1, l, ns, ex, hq, hl, q1⟩ => PyProof.Rows.args_nil ?_) na) na rfl
  subst ex
  cases r1
  obtain ⟨its, r, pl, hz⟩ := I1.list hq
  have le : its.toArray.size = ns.length := by rw [List.size_toArray, ← r.length, List.length_map]
  refine call_setMetI (I1.ok.hd hc) pl.isList (by simpa using RZ.intsAre_vals r) (by have := hl.1; rw [le]; unfold scanBound; omega) fun h2 tk So kp => PyProof.Rows.args_nil ?_
  rw [le] at So
  have lt : cntI ns ns.length < 64 := hl.2
  have hl := hl.1
  have I2 : Inv X pins σ H1 { s1 with heap := h2, toks := tk } := I1.kept fun b o e => kp b o (Heap.lt_size e) e
  refine sorted_set (s := { s1 with heap := h2, toks := tk }) So (I2.ok.hd hc) lt fun s' p out c ms k g o hp hg hi hs hm hl2 => ?_
  have hlen : (ms.map V.int).length ≤ sizeLine := by rw [List.length_map, hl2, sizeLine_eq]; omega
  have hn : H1 p = none := I2.hok.fresh hp
  have J : Inv X pins σ (upd H1 p (.lst (ms.map V.int))) { ({ s1 with heap := h2, toks := tk } : Shared) with heap := s'.heap, gens := s'.gens, drawn := s'.drawn, toks := s'.toks } :=
    I2.call (ch := []) (Un.laid k hp hn) (I2.hok.laid k hp ⟨hlen, out.toList, c, vals_of_ints hi, hg⟩) (by rw [g]; exact I2.bare) (fun _ z => nomatch z)
  have e : s' = { s1 with heap := s'.heap, gens := s'.gens, drawn := s'.drawn, toks := s'.toks } := by
    cases s'
    cases s1
    cases o
    rfl
  rw [e]
  refine ⟨.ref p, _, J, rfl, q1 ms p hs (fun k => ?_) hn⟩
  rw [hm k, List.take_length, List.any_eq_true]
  exact ⟨fun ⟨z, h1, h2⟩ => by rw [← eq_of_beq h2]; exact h1, fun h1 => ⟨k, h1, beq_self_eq_true _⟩⟩
end
end L2
namespace Ti
open PySem PySem.Spec PyProof.Rows L2
def insD (a : Int) : List Int → List Int
  | [] => [a]
  | b :: l => if a < b then a :: b :: l else if a = b then b :: l else b :: insD a l
def setI (ns : List Int) : List Int := ns.foldr insD []
theorem insD_mem {a k : Int} : ∀ {l : List Int}, k ∈ insD a l ↔ k = a ∨ k ∈ l
  | [] => by simp [insD]
  | b :: l => by
    unfold insD
    split
    · rw [List.mem_cons]
    · split
      · rename_i e
        subst e
        rw [List.mem_cons]
        exact ⟨.inr, fun z => z.elim .inl id⟩
      · rw [List.mem_cons, insD_mem (l := l), List.mem_cons]
        exact ⟨fun z => z.elim (fun e => .inr (.inl e)) fun z => z.elim .inl fun e => .inr (.inr e), fun z => z.elim (fun e => .inr (.inl e)) fun z => z.elim .inl fun e => .inr (.inr e)⟩
theorem insD_srt {a : Int} : ∀ {l : List Int}, l.Pairwise (· < ·) → (insD a l).Pairwise (· < ·)
  | [], _ => List.pairwise_singleton _ _
  | b :: l, h => by
    obtain ⟨h1, h2⟩ := List.pairwise_cons.mp h
    unfold insD
    split
    · rename_i q
      refine List.pairwise_cons.mpr ⟨fun k hk => ?_, h⟩
      rcases List.mem_cons.mp hk with rfl | hk
      · exact q
      · have := h1 k hk; omega
    · rename_i q
      split
      · exact h
      · rename_i q2
        refine List.pairwise_cons.mpr ⟨fun k hk => ?_, insD_srt h2⟩
        rcases insD_mem.mp hk with rfl | hk
        · omega
        · exact h1 k hk
theorem setI_mem {k : Int} : ∀ {ns : List Int}, k ∈ setI ns ↔ k ∈ ns
  | [] => Iff.rfl
  | a :: ns => by
    show k ∈ insD a (setI ns) ↔ _
    rw [insD_mem, setI_mem (ns := ns), List.mem_cons]
theorem setI_srt : ∀ {ns : List Int}, (setI ns).Pairwise (· < ·)
  | [] => List.Pairwise.nil
  | a :: ns => insD_srt (setI_srt (ns := ns))
theorem srt_uniq {A B : List Int} (ha : A.Pairwise (· < ·)) (hb : B.Pairwise (· < ·)) (h : ∀ k, k ∈ A ↔ k ∈ B) : A = B := by
  have pm : A.Perm B := (List.perm_ext_iff_of_nodup (ha.imp fun h => Int.ne_of_lt h) (hb.imp fun h => Int.ne_of_lt h)).mpr h
  exact pm.eq_of_pairwise (le := fun a b => a < b) (fun a b _ _ h1 h2 => by omega) ha hb
theorem insD_count {a : Int} : ∀ {l : List Int}, l.Pairwise (· < ·) → (insD a l).length = if a ∈ l then l.length else l.length + 1
  | [], _ => rfl
  | b :: l, h => by
    obtain ⟨h1, h2⟩ := List.pairwise_cons.mp h
    have ih := insD_count (a := a) h2
    unfold insD
    split
    · rename_i q
      rw [if_neg]
      · rfl
      · intro z
        rcases List.mem_cons.mp z with e | z
        · omega
        · have := h1 a z; omega
    · split
      · rename_i e
        rw [if_pos (by rw [e]; exact List.mem_cons_self)]
      · rename_i q1 q2
        rw [List.length_cons, ih]
        by_cases z : a ∈ l
        · rw [if_pos z, if_pos (List.mem_cons_of_mem _ z)]
          rfl
        · rw [if_neg z, if_neg (fun y => (List.mem_cons.mp y).elim q2 z)]
          rfl
theorem cntI_eq {xs : List Int} : ∀ i, i ≤ xs.length → cntI xs i = (setI (xs.take i)).length
  | 0, _ => rfl
  | i + 1, hi => by
    have ih := cntI_eq (xs := xs) i (by omega)
    have e : xs.take (i + 1) = xs.take i ++ [xs.getD i 0] := by
      rw [List.take_add_one, List.getElem?_eq_getElem (show i < xs.length by omega), List.getD_eq_getElem?_getD, List.getElem?_eq_getElem (show i < xs.length by omega)]
      rfl
    have e2 : setI (xs.take i ++ [xs.getD i 0]) = insD (xs.getD i 0) (setI (xs.take i)) := srt_uniq setI_srt (insD_srt setI_srt) fun k => by
      rw [setI_mem, List.mem_append, List.mem_singleton, insD_mem, setI_mem]
      exact ⟨fun z => z.elim .inr .inl, fun z => z.elim .inr .inl⟩
    rw [e, e2, insD_count setI_srt]
    unfold cntI
    have an : (xs.take i).any (· == xs.getD i 0) = true ↔ xs.getD i 0 ∈ setI (xs.take i) := by
      rw [setI_mem, List.any_eq_true]
      exact ⟨fun ⟨z, h1, h2⟩ => by rw [← eq_of_beq h2]; exact h1, fun h1 => ⟨_, h1, beq_self_eq_true _⟩⟩
    by_cases q : xs.getD i 0 ∈ setI (xs.take i)
    · rw [if_pos (an.mpr q), if_pos q, ih]
    · rw [if_neg (fun z => q (an.mp z)), if_neg q, ih]
def pSortSet (c : Bool) : F1 := fun x h => (ofO (asL h x)).bind fun ws => (ofO (intsOf ws)).bind fun ns => if ns.length ≤ 4000 ∧ (setI ns).length < 64 then mkL c ((setI ns).map W.int) h else .bad
section
variable {X : Cx} {cm : Cm}
theorem q_sortSet {c : Bool} {a : Expr} {m : DE} {p p2 q pos : Pos} (hc : X.calm = true) (hg : Gl X "sorted") (hm : X.mg "sorted" = none) (hg2 : Gl X "set") (hm2 : X.mg "set" = none) (ha : QE X cm a m)
    (na : starEach [a] X.env = (false, eval a X.env) :: starEach [] X.env) : QE X cm (.Call (.Name "sorted" p) [.Call (.Name "set" p2) [a] [] q] [] pos) (e1 (pSortSet c) m) := by
  refine PE.wk (pe_sortSet hc hg hm hg2 hm2 ha na) fun σ H Q q => ?_
  obtain ⟨mu, Z, ρ, h, w, h', rl, s, e, f⟩ := q
  obtain ⟨p, e1, e⟩ := Res.bind_eq_ok e
  refine ⟨mu, Z, ρ, h, p.1, p.2, rl, s, e1, fun mu1 Z1 H1 v1 x1 r1 w1 => ?_⟩
  obtain ⟨u, h2⟩ := p
  obtain ⟨ws, e2, e⟩ := Res.bind_eq_ok (show (ofO (asL h2 u)).bind _ = Res.ok (w, h') from e)
  obtain ⟨ns, e3, e⟩ := Res.bind_eq_ok e
  split at e
  · rename_i hl
    obtain ⟨a, vs, rfl, ha, rs⟩ := asL_ok r1 w1 (ofO_eq_ok e2)
    have := intsOf_ok (ofO_eq_ok e3) rs
    subst this
    refine ⟨a, ns, rfl, SqL.of ha, ⟨hl.1, by rw [cntI_eq _ (Nat.le_refl _), List.take_length]; exact hl.2⟩, fun ms p' hs hm hp => ?_⟩
    have em : ms = setI ns := srt_uniq hs setI_srt fun k => (hm k).trans setI_mem.symm
    have rw := RWs.ints (K := X.K) (cm := cm) (mu := mu1) (Z := Z1) (setI ns)
    obtain ⟨_, hq⟩ := mkL_ok r1 rw e (f.ext x1)
    rw [em]
    exact hq p' hp
  · cases e
end
end Ti


namespace Ti
open PySem PySem.Spec PyProof.Rows L2

inductive Ent where
  /-- a def: what it does, its parameters, how many defaults (None), whether it hands back cells -/
  | fn (f : Fn) (ps : List Str) (nd : Nat) (cells : Bool)
  | con (w : W)
  /-- x called by these keywords: what it does, how many parameters, where each parameter's value stands -/
  | kwd (x : Str) (f : Fn) (n : Nat) (ks : List Str) (ix : List Nat) (cells : Bool)
  /-- an own class and its __init__ (n parameters) -/
  | cls (c : Nat) (f : Fn) (n : Nat)
  /-- a method of an own class (n parameters); whether it hands back cells -/
  | met (m : Str) (c : Nat) (f : Fn) (n : Nat) (cells : Bool)
  /-- the calling of an object of an own class -/
  | cal (c : Nat) (f : Fn) (n : Nat)
  /-- an attribute of objects of these classes -/
  | fld (f : Str) (cs : List Nat)
  /-- isinstance by this class -/
  | isc (x : Str) (c : Nat)
  /-- the own == of a class -/
  | eqo (c : Nat) (f : Fn)
  /-- an own class called by these keywords -/
  | clk (y : Str) (c : Nat) (f : Fn) (n : Nat) (ks : List Str) (ix : List Nat)
  /-- an object called by these keywords -/
  | cak (c : Nat) (f : Fn) (n : Nat) (ks : List Str) (ix : List Nat)
  /-- the own + of a class -/
  | ado (c : Nat) (f : Fn)
  /-- the own len of a class -/
  | lno (c : Nat) (f : Fn)
  /-- isinstance by this error class: its answers -/
  | ise (y : Str) (c : Nat) (ans : List (Nat × Bool)) (objs : List Nat)
  /-- a field of errors of these classes -/
  | fle (f : Str) (cs : List Nat)
  /-- an error class whose __init__ keeps its one argument in this field -/
  | exn (y : Str) (c : Nat) (fld : Str)
  /-- a def that may raise: what it does, its parameters, how many defaults (None) -/
  | fnx (y : Str) (f : Fn) (n : Nat) (nd : Nat)
  /-- how a def's arguments are made (under @ and its name) -/
  | afl (fs : List Nat)
  /-- own classes whose objects are asked for built-in types -/
  | iso (cs : List Nat)
  /-- the dict of modules is known: repr of dicts -/
  | smd
  /-- an own class whose making may raise -/
  | clx (y : Str) (c : Nat) (f : Fn) (n : Nat)
  /-- the calling of an object that may raise -/
  | cax (c : Nat) (f : Fn) (n : Nat)
  /-- an own + that may raise -/
  | adx (c : Nat) (f : Fn)
  /-- an error class whose errors are made as values: by position or bare -/
  | erp (c : Nat) (fld : Str)
  /-- .. by keyword -/
  | erk (y : Str) (c : Nat) (fld : Str) (ks : List Str)
  /-- an error class without own __init__, made bare -/
  | ern (c : Nat)
  /-- isinstance(_, ValueError) of these error classes -/
  | isv (cs : List Nat)
structure Cg where
  T : List (Str × Ent)
  B : List Str
  N : List Str
def ixOf : List Str → Str → Option Nat
  | [], _ => none
  | y :: ys, x => if y = x then some 0 else (ixOf ys x).map (· + 1)
theorem ixOf_ok : ∀ {l : List Str} {x : Str} {i : Nat}, ixOf l x = some i → l[i]? = some x
  | [], _, _, e => by cases e
  | y :: ys, x, i, e => by
    unfold ixOf at e
    split at e
    · rename_i h
      cases e
      rw [h]
      rfl
    · obtain ⟨j, e1, rfl⟩ := Option.map_eq_some_iff.mp e
      show (y :: ys)[j + 1]? = some x
      rw [List.getElem?_cons_succ]
      exact ixOf_ok e1
def EntOk (X : Cx) (cm : Cm) (x : Str) : Ent → Prop
  | .con w => ∃ u v, X.mg x = some u ∧ RelV v u ∧ plainK w v = true
  | .fn f ps nd _ => ∃ fA fd k, X.mg x = some (.ref fA) ∧ PySem.W.keepIn X.K (.ref fA) = true ∧ FnG X.prog X.w X.K X.mg X.base CX0 k fA fd ps (spRun X.K cm ps.length f) ∧ Room k X.A ∧ Binds X.K fd ps [] ∧ (nd = 1 → Binds X.K fd ps [.none])
  | .kwd y f n ks ix _ => ∃ fA fd k ps, X.mg y = some (.ref fA) ∧ PySem.W.keepIn X.K (.ref fA) = true ∧ FnG X.prog X.w X.K X.mg X.base CX0 k fA fd ps (spRun X.K cm n f) ∧ Room k X.A ∧ KwB X.K fd ps ks (permU ix) (permV ix)
  | .cls c f n => ∃ fA fd ps k, Mk X.K (cm c) fA ∧ X.mg x = some (.ref (cm c)) ∧ FnG X.prog X.w X.K X.mg X.base CX0 k fA fd ps (spRun X.K cm n f) ∧ Room (k + 1) X.A ∧ Binds X.K fd ps []
  | .met m c f n _ => ∃ fA fd ps k, Cls X.K (cm c) ∧ Meth X.K (cm c) m fA ∧ FnG X.prog X.w X.K X.mg X.base CX0 k fA fd ps (spRun X.K cm n f) ∧ Room k X.A ∧ Binds X.K fd ps []
  | .cal c f n => ∃ fA fd ps k, StX.CallO X.K (cm c) fA ∧ FnG X.prog X.w X.K X.mg X.base CX0 k fA fd ps (spRun X.K cm n f) ∧ Room k X.A ∧ Binds X.K fd ps []
  | .fld f cs => ∀ c ∈ cs, Cls X.K (cm c) ∧ NoAttr X.K (cm c) f
  | .isc y c => X.mg y = some (.ref (cm c)) ∧ IsiC X.K (cm c)
  | .eqo c f => ∃ fA fd ps k, EqC X.K (cm c) fA ∧ FnG X.prog X.w X.K X.mg X.base CX0 k fA fd ps (spRun X.K cm 2 f) ∧ Room (k + 1) X.A ∧ Binds X.K fd ps []
  | .clk y c f n ks ix => ∃ fA fd ps k, Mk X.K (cm c) fA ∧ X.mg y = some (.ref (cm c)) ∧ FnG X.prog X.w X.K X.mg X.base CX0 k fA fd ps (spRun X.K cm n f) ∧ Room (k + 1) X.A ∧ KwI X.K fd ps ks (permU ix) (permV ix)
  | .cak c f n ks ix => ∃ fA fd ps k, StX.CallO X.K (cm c) fA ∧ FnG X.prog X.w X.K X.mg X.base CX0 k fA fd ps (spRun X.K cm n f) ∧ Room k X.A ∧ KwI X.K fd ps ks (permU ix) (permV ix)
  | .ado c f => ∃ fA fd ps k, Meth X.K (cm c) "__add__" fA ∧ PySem.W.selfFirst X.K (cm c) = true ∧ FnG X.prog X.w X.K X.mg X.base CX0 k fA fd ps (spRun X.K cm 2 f) ∧ Room k X.A ∧ Binds X.K fd ps []
  | .lno c f => ∃ fA fd ps k, Meth X.K (cm c) "__len__" fA ∧ FnG X.prog X.w X.K X.mg X.base CX0 k fA fd ps (spRun X.K cm 1 f) ∧ Room (k + 1) X.A ∧ Binds X.K fd ps []
  | .ise y c ans objs => X.mg y = some (.ref (cm c)) ∧ IseC X.K cm c ans objs
  | .fle f cs => ∀ c ∈ cs, ErrC X.K (cm c) ∧ PySem.W.findIn X.K (.ref (cm c)) f = some none
  | .exn y c fld => ∃ fI fd ps k, X.mg y = some (.ref (cm c)) ∧ OexC X.K (cm c) ∧ PySem.W.findIn X.K (.ref (cm c)) "__init__" = some (some (.ref fI)) ∧ PySem.W.typeIn X.K (.ref fI) = some (.type "function") ∧
      PySem.W.findIn X.K (.ref (cm c)) fld = some none ∧ FnOk X.prog X.w X.K X.mg X.base CX0 k fI fd ps (spIni X.K fld) ∧ Room (k + 1) X.A ∧ Binds X.K fd ps []
  | .iso cs => ∀ c ∈ cs, IsiO X.K (cm c)
  | .erp c fld => ∃ fI fd ps k, X.mg x = some (.ref (cm c)) ∧ OexC X.K (cm c) ∧ PySem.W.findIn X.K (.ref (cm c)) "__init__" = some (some (.ref fI)) ∧ PySem.W.typeIn X.K (.ref fI) = some (.type "function") ∧
      PySem.W.findIn X.K (.ref (cm c)) fld = some none ∧ FnOk X.prog X.w X.K X.mg X.base CX0 k fI fd ps (spIni X.K fld) ∧ Room (k + 1) X.A ∧ ps.length = 2 ∧ Binds X.K fd ps [] ∧ Binds X.K fd ps [.none]
  | .erk y c fld ks => ∃ fI fd ps k, X.mg y = some (.ref (cm c)) ∧ OexC X.K (cm c) ∧ PySem.W.findIn X.K (.ref (cm c)) "__init__" = some (some (.ref fI)) ∧ PySem.W.typeIn X.K (.ref fI) = some (.type "function") ∧
      PySem.W.findIn X.K (.ref (cm c)) fld = some none ∧ FnOk X.prog X.w X.K X.mg X.base CX0 k fI fd ps (spIni X.K fld) ∧ Room (k + 1) X.A ∧ ks.length = 1 ∧ KwI X.K fd ps ks (permU [0]) (permV [0])
  | .ern c => X.mg x = some (.ref (cm c)) ∧ PySem.W.keepIn X.K (.ref (cm c)) = true ∧ PySem.W.excIn X.K (cm c) [.type "ValueError", .type "Exception", .type "BaseException", .type "object"] "ValueError.__new__" = true
  | .isv cs => ∀ c ∈ cs, ErrC X.K (cm c) ∧ PySem.W.kitOne X.K (.ref (cm c)) (.type "ValueError") = some true
  | .afl _ => True
  | .smd => smB X.K = true
  | .clx y c f n => ∃ fA fd ps k, Mk X.K (cm c) fA ∧ X.mg y = some (.ref (cm c)) ∧ FnG X.prog X.w X.K X.mg X.base (L2.CX X.prog X.w) k fA fd ps (spRunX X.K cm n f) ∧ Room (k + 1) X.A ∧ Binds X.K fd ps []
  | .cax c f n => ∃ fA fd ps k, StX.CallO X.K (cm c) fA ∧ FnG X.prog X.w X.K X.mg X.base (L2.CX X.prog X.w) k fA fd ps (spRunX X.K cm n f) ∧ Room k X.A ∧ Binds X.K fd ps []
  | .adx c f => ∃ fA fd ps k, Meth X.K (cm c) "__add__" fA ∧ PySem.W.selfFirst X.K (cm c) = true ∧ AddC X.K (cm c) ∧ FnG X.prog X.w X.K X.mg X.base (L2.CX X.prog X.w) k fA fd ps (spRunX X.K cm 2 f) ∧ Room k X.A ∧ Binds X.K fd ps []
  | .fnx y f n nd => ∃ fA fd ps k, X.mg y = some (.ref fA) ∧ PySem.W.keepIn X.K (.ref fA) = true ∧ FnG X.prog X.w X.K X.mg X.base (L2.CX X.prog X.w) k fA fd ps (spRunX X.K cm n f) ∧ Room k X.A ∧ Binds X.K fd ps [] ∧ (nd = 1 → Binds X.K fd ps [.none])
structure CxOk (X : Cx) (cm : Cm) (G : Cg) (sc : Scope) : Prop where
  N : X.N = G.N
  nd : G.N.Nodup
  calm : X.calm = true
  nev : X.xe = fun _ _ => False
  knd : X.env.scope.kind = .function
  loc : ∀ x, sc.names.lookup x = some .local → X.env.scope.names.lookup x = some .local
  cel : ∀ x, sc.names.lookup x = some .cell → X.env.scope.names.lookup x = some .cell ∧ X.fn x = true
  fre : ∀ x, sc.names.lookup x = some .free → X.env.scope.names.lookup x = some .cell ∨ X.env.scope.names.lookup x = some .free
  gl : ∀ x, sc.names.lookup x = some .globalImplicit → X.env.scope.names.lookup x = some .globalImplicit
  un : X.A.units + 65 < cLine
  gd : X.A.guards = some []
  tb : ∀ x en, G.T.lookup x = some en → EntOk X cm x en
  bl : ∀ x ∈ G.B, X.mg x = none
section
variable {X : Cx} {cm : Cm} {G : Cg} {sc : Scope}
theorem CxOk.hd (c : CxOk X cm G sc) : X.N.Nodup := by rw [c.N]; exact c.nd
theorem CxOk.pass (c : CxOk X cm G sc) : PassesOwn (model X.prog X.w) X.A X.env X.xe := by
  rw [c.nev]
  exact PassesOwn.never
theorem CxOk.g (c : CxOk X cm G sc) {x : Str} (e : sc.names.lookup x = some .globalImplicit) : Gl X x := c.gl x e
end
structure Co where
  E : Scope → Nat → Expr → Option DE
  T : Scope → Expr → Option DE
structure Co.Ok (c : Co) (cm : Cm) (G : Cg) : Prop where
  e : ∀ X sc fl x m, CxOk X cm G sc → c.E sc fl x = some m → QE X cm x m
  t : ∀ X sc x m, CxOk X cm G sc → c.T sc x = some m → QT X cm x m

def cName (G : Cg) (sc : Scope) (x : Str) : Option DE := if x = "__debug__" ∨ x = "__classdict__" then none else match sc.names.lookup x with
  | some .globalImplicit => (match G.T.lookup x with | some (.con w) => some (eK w) | _ => none)
  | some .local => (ixOf G.N x).map eV
  | some .cell => (ixOf G.N x).map eV
  | some .free => (ixOf G.N x).map eV
  | _ => none
theorem ne_beq {x y : Str} (h : ¬ x = y) : (x == y) = false := beq_eq_false_iff_ne.mpr h
theorem cName_ok {X : Cx} {cm : Cm} {G : Cg} {sc : Scope} {x : Str} {p : Pos} {m : DE} (k : CxOk X cm G sc) (e : cName G sc x = some m) : QE X cm (.Name x p) m := by
  unfold cName at e
  split at e
  · cases e
  · rename_i hn
    rw [not_or] at hn
    have var : ∀ {i : Nat}, ixOf G.N x = some i → Vis X.env.scope x → QE X cm (.Name x p) (eV i) := fun {i} e1 hv => q_var (by rw [k.N]; exact ixOf_ok e1) hv (ne_beq hn.1) (ne_beq hn.2)
    split at e
    · rename_i e1
      split at e
      · rename_i w e2
        cases e
        obtain ⟨u, v, hm, r, pk⟩ := k.tb x _ e2
        exact q_const (pe_glob (k.g e1) hm r (ne_beq hn.1)) pk
      · cases e
    · rename_i e1
      obtain ⟨i, e2, rfl⟩ := Option.map_eq_some_iff.mp e
      exact var e2 (.inl (k.loc x e1))
    · rename_i e1
      obtain ⟨i, e2, rfl⟩ := Option.map_eq_some_iff.mp e
      exact var e2 (.inr (.inl (k.cel x e1).1))
    · rename_i e1
      obtain ⟨i, e2, rfl⟩ := Option.map_eq_some_iff.mp e
      rcases k.fre x e1 with z | z
      · exact var e2 (.inr (.inl z))
      · exact var e2 (.inr (.inr z))
    · cases e
def cConst : Const → Option W
  | .none => some .non
  | .bool b => some (.bl b)
  | .int i => some (.int i)
  | .str x => some (.str x)
  | _ => none
theorem cConst_ok {X : Cx} {cm : Cm} {c : Const} {j : Nat} {p : Pos} {w : W} (e : cConst c = some w) : QE X cm (.Constant c j p) (eK w) := by
  cases c <;> first | (cases e; done) | skip
  · cases e; exact q_const pe_non rfl
  · cases e; exact q_const pe_bl (beq_self_eq_true _)
  · cases e; exact q_const pe_int (beq_self_eq_true _)
  · cases e; exact q_const pe_str (decide_eq_true rfl)

def binF (c : Bool) : Operator → Option F2
  | .Add => some (pAdd c)
  | .Sub => some pSub
  | .Mult => some (pMul c)
  | .Mod => some pMod
  | .FloorDiv => some pFdv
  | .Pow => some pPow
  | _ => none
theorem binF_ok {X : Cx} {cm : Cm} {c : Bool} {op : Operator} {g : F2} (e : binF c op = some g) : ∃ r, OpR X (binaryOp op) r ∧ Ok2 X.K cm g r := by
  cases op <;> first | (cases e; done) | skip
  · cases e; exact ⟨_, op_addT, ok_add⟩
  · cases e; exact ⟨_, op_sub, ok_sub⟩
  · cases e; exact ⟨_, op_mulT, ok_mul⟩
  · cases e; exact ⟨_, op_modN, ok_mod⟩
  · cases e; exact ⟨_, op_powW, ok_pow⟩
  · cases e; exact ⟨_, op_fdivW, ok_fdv⟩
def binG (G : Cg) (cl : Bool) (op : Operator) : Option F2 := match op, G.T.lookup ("+" : Str) with
  | .Add, some (Ent.ado c f) => some (pAddO cl c f)
  | op, _ => binF cl op
theorem binG_ok {X : Cx} {cm : Cm} {G : Cg} {sc : Scope} {cl : Bool} {op : Operator} {g : F2} (k : CxOk X cm G sc) (e : binG G cl op = some g) : ∃ r, OpR X (binaryOp op) r ∧ Ok2 X.K cm g r := by
  unfold binG at e
  split at e
  · rename_i c f hl
    cases e
    obtain ⟨fA, fd, ps, j, h1, h2, h3, h4, h5⟩ := k.tb "+" _ hl
    exact ⟨_, (op_ownA h1 h2 h3 h4 k.gd h5).or op_addT, ok_ownA _ ok_add⟩
  · exact binF_ok e
def cmpF : CmpOp → Option F2
  | .Eq => some pEq
  | .NotEq => some pNe
  | .Lt => some pLt
  | .LtE => some pLe
  | .Gt => some pGt
  | .GtE => some pGe
  | .Is => some pIs
  | .IsNot => some pIsN
  | .In => some pIn
  | .NotIn => some pNi
theorem cmpF_ok {X : Cx} {cm : Cm} {op : CmpOp} {g : F2} (hu : X.A.units + 65 < cLine) (e : cmpF op = some g) : ∃ r, OpR X (compareOp op) r ∧ Ok2 X.K cm g r ∧ BoolG g := by
  cases op <;> cases e
  · exact ⟨_, op_eqX (by omega), ok_eq, bg_eq⟩
  · exact ⟨_, op_neX (by omega), ok_ne, bg_ne⟩
  · exact ⟨_, op_lt, ok_lt, bg_of lt_g⟩
  · exact ⟨_, op_le, ok_le, bg_of le_g⟩
  · exact ⟨_, op_gt, ok_gt, bg_of gt_g⟩
  · exact ⟨_, op_ge, ok_ge, bg_of ge_g⟩
  · exact ⟨_, op_isN.or op_is_bl, ok_is, bg_is⟩
  · exact ⟨_, op_notN.or op_isnot_bl, ok_isN, bg_isN⟩
  · exact ⟨_, op_inX hu, ok_in, bg_in⟩
  · exact ⟨_, op_niX hu, ok_ni, bg_ni⟩
def cmpG (G : Cg) (op : CmpOp) : Option F2 := match op, G.T.lookup ("==" : Str) with
  | .Eq, some (Ent.eqo c f) => some (pEqO false c f)
  | .NotEq, some (Ent.eqo c f) => some (pEqO true c f)
  | op, _ => cmpF op
theorem cmpG_ok {X : Cx} {cm : Cm} {G : Cg} {sc : Scope} {op : CmpOp} {g : F2} (k : CxOk X cm G sc) (e : cmpG G op = some g) : ∃ r, OpR X (compareOp op) r ∧ Ok2 X.K cm g r ∧ BoolG g := by
  have hu := k.un
  unfold cmpG at e
  split at e
  · rename_i c f hl
    cases e
    obtain ⟨fA, fd, ps, j, h1, h2, h3, h4⟩ := k.tb "==" _ hl
    obtain ⟨o1, o2⟩ := op_ownE h1 h2 h3 k.un k.gd h4
    exact ⟨_, o1.or (op_eqX (by omega)), ok_ownE h1 false _ ok_eq, bg_ownE⟩
  · rename_i c f hl
    cases e
    obtain ⟨fA, fd, ps, j, h1, h2, h3, h4⟩ := k.tb "==" _ hl
    obtain ⟨o1, o2⟩ := op_ownE h1 h2 h3 k.un k.gd h4
    exact ⟨_, o2.or (op_neX (by omega)), ok_ownE h1 true _ ok_ne, bg_ownE⟩
  · exact cmpF_ok k.un e
def isSet : Expr → Bool
  | .Set _ _ _ => true
  | _ => false
theorem noSet {op : CmpOp} {b : Expr} (h : isSet b = false) : behindInMarks op b = false := by
  cases b <;> first | rfl | cases h
theorem noSetL {op op' : CmpOp} {b c : Expr} (h : isSet c = false) : lastMarks [op, op'] [b, c] = false := by
  show behindInMarks op' c = false
  exact noSet h

def isStar : Expr → Bool
  | .Starred _ _ => true
  | _ => false
theorem starE {e : Expr} {es : List Expr} {env : PySem.Env} (h : isStar e = false) : starEach (e :: es) env = (false, eval e env) :: starEach es env := by
  cases e <;> first | rfl | cases h
def cArgs (c : Co) (sc : Scope) : List Nat → List Expr → Option (List DE)
  | _, [] => some []
  | fs, e :: es => if isStar e then none else match c.E sc (fs.headD 0) e, cArgs c sc fs.tail es with
    | some m, some ms => some (m :: ms)
    | _, _ => none
section
variable {c : Co} {X : Cx} {cm : Cm} {G : Cg} {sc : Scope}
theorem cArgs_ok (ok : c.Ok cm G) (k : CxOk X cm G sc) : ∀ {fs : List Nat} {es : List Expr} {ms : List DE}, cArgs c sc fs es = some ms → QL X cm es ms ∧ (∀ pos, (backTo pos (starEach es X.env)).any (·.1) = false) ∧ ∀ e ∈ es, isStar e = false
  | fs, [], ms, e => by
    have e : some [] = some ms := by
      cases fs <;> exact e
    cases e
    exact ⟨ql_nil, fun _ => rfl, fun _ h => nomatch h⟩
  | fs, x :: xs, ms, e => by
    unfold cArgs at e
    split at e
    · cases e
    · rename_i hs
      have hs : isStar x = false := Bool.eq_false_iff.mpr hs
      split at e
      · rename_i m ms' e1 e2
        cases e
        obtain ⟨h1, h2, h3⟩ := cArgs_ok ok k e2
        refine ⟨ql_cons (ok.e X sc _ x m k e1) h1 (starE hs), fun pos => ?_, fun y hy => ?_⟩
        · rw [starE hs]
          show (false || (backTo pos (starEach xs X.env)).any (·.1)) = false
          rw [h2 pos]
          rfl
        · rcases List.mem_cons.mp hy with z | z
          · rw [z]; exact hs
          · exact h3 y z
      · cases e
theorem cArgs_all {es : List Expr} {env : PySem.Env} (h : ∀ e ∈ es, isStar e = false) (pos : Pos) : (backTo pos (starEach es env)).all (fun x => !x.1) = true := by
  induction es with
  | nil => rfl
  | cons e es ih =>
    rw [starE (h e List.mem_cons_self)]
    show (true && (backTo pos (starEach es env)).all _) = true
    rw [ih fun y hy => h y (List.mem_cons_of_mem _ hy)]
    rfl

def bltF (cl : Bool) (x : Str) (n : Nat) : Option Fn :=
  if x = "len" then (if n = 1 then some (l1 pLen) else none)
  else if x = "int" then (if n = 1 then some (l1 pInt) else none)
  else if x = "str" then (if n = 1 then some (l1 pStr) else none)
  else if x = "max" then (if n = 2 then some (l2 pMax) else none)
  else if x = "min" then (if n = 2 then some (l2 pMin) else none)
  else if x = "sum" then (if n = 1 then some (l1 pSum) else none)
  else if x = "list" then (if n = 1 then some (l1 (pList cl)) else none)
  else if x = "repr" then (if n = 1 then some (l1 pRepr2) else none)
  else if x = "sorted" then (if n = 1 then some (l1 (pSorted cl)) else none)
  else if x = "tuple" then (if n = 1 then some (l1 pTup) else none)
  else none
theorem bltF_ok {cl : Bool} {x : Str} {n : Nat} {g : Fn} (k : CxOk X cm G sc) (e : bltF cl x n = some g) : x ≠ "__name__" ∧ (x == ("__debug__" : Str)) = false ∧
    ((∃ id r, bootBuiltins x = some (.builtin id) ∧ CallR X (.builtin id) r ∧ OkL X.K cm g r) ∨ ∃ T r, bootBuiltins x = some (.type T) ∧ CallR X (.type T) r ∧ OkL X.K cm g r) := by
  unfold bltF at e
  split at e
  · rename_i h; subst h
    split at e
    · cases e
      exact ⟨by decide +kernel, by decide +kernel, .inl ⟨"len", _, by decide +kernel, call_lenX, OkL.of1 ok_len⟩⟩
    · cases e
  split at e
  · rename_i h; subst h
    split at e
    · cases e
      exact ⟨by decide +kernel, by decide +kernel, .inr ⟨"int", _, by decide +kernel, call_intX, OkL.of1 ok_int⟩⟩
    · cases e
  split at e
  · rename_i h; subst h
    split at e
    · cases e
      exact ⟨by decide +kernel, by decide +kernel, .inr ⟨"str", _, by decide +kernel, call_str_int, OkL.of1 ok_str⟩⟩
    · cases e
  split at e
  · rename_i h; subst h
    split at e
    · cases e
      exact ⟨by decide +kernel, by decide +kernel, .inl ⟨"max", _, by decide +kernel, call_max2 k.calm, OkL.of2 ok_max⟩⟩
    · cases e
  split at e
  · rename_i h; subst h
    split at e
    · cases e
      exact ⟨by decide +kernel, by decide +kernel, .inl ⟨"min", _, by decide +kernel, call_min2 k.calm, OkL.of2 ok_min⟩⟩
    · cases e
  split at e
  · rename_i h; subst h
    split at e
    · cases e
      exact ⟨by decide +kernel, by decide +kernel, .inl ⟨"sum", _, by decide +kernel, cr_sum k.calm, OkL.of1 ok_sum⟩⟩
    · cases e
  split at e
  · rename_i h; subst h
    split at e
    · cases e
      exact ⟨by decide +kernel, by decide +kernel, .inr ⟨"list", _, by decide +kernel, (call_list_of.or (call_listD k.calm)).or (call_listS k.calm), OkL.of1 ok_list⟩⟩
    · cases e
  split at e
  · rename_i h; subst h
    split at e
    · cases e
      exact ⟨by decide +kernel, by decide +kernel, .inl ⟨"repr", _, by decide +kernel, call_repr k.gd (by have := k.un; omega), ok_repr2⟩⟩
    · cases e
  split at e
  · rename_i h; subst h
    split at e
    · cases e
      exact ⟨by decide +kernel, by decide +kernel, .inl ⟨"sorted", _, by decide +kernel, call_sortX k.calm, ok_sorted⟩⟩
    · cases e
  split at e
  · rename_i h; subst h
    split at e
    · cases e
      exact ⟨by decide +kernel, by decide +kernel, .inr ⟨"tuple", _, by decide +kernel, call_tuple_of, OkL.of1 ok_tuple⟩⟩
    · cases e
  · cases e
def kdOf (x : Str) : Option Kd :=
  if x = "int" then some .int else if x = "bool" then some .bool else if x = "str" then some .str else if x = "list" then some .list else if x = "tuple" then some .tuple else if x = "dict" then some .dict else none
theorem kdOf_ok {x : Str} {t : Kd} (e : kdOf x = some t) : t ≠ .non ∧ bootBuiltins x = some (.type t.name) ∧ x ≠ "__name__" ∧ (x == ("__debug__" : Str)) = false := by
  unfold kdOf at e
  split at e
  · rename_i h; subst h; cases e; exact ⟨by decide, by decide +kernel, by decide +kernel, by decide +kernel⟩
  split at e
  · rename_i h; subst h; cases e; exact ⟨by decide, by decide +kernel, by decide +kernel, by decide +kernel⟩
  split at e
  · rename_i h; subst h; cases e; exact ⟨by decide, by decide +kernel, by decide +kernel, by decide +kernel⟩
  split at e
  · rename_i h; subst h; cases e; exact ⟨by decide, by decide +kernel, by decide +kernel, by decide +kernel⟩
  split at e
  · rename_i h; subst h; cases e; exact ⟨by decide, by decide +kernel, by decide +kernel, by decide +kernel⟩
  split at e
  · rename_i h; subst h; cases e; exact ⟨by decide, by decide +kernel, by decide +kernel, by decide +kernel⟩
  · cases e
def free? (G : Cg) (sc : Scope) (x : Str) : Bool := decide (sc.names.lookup x = some .globalImplicit) && decide (x ∈ G.B)
theorem free_ok {x : Str} (k : CxOk X cm G sc) (e : free? G sc x = true) : Gl X x ∧ X.mg x = none := by
  unfold free? at e
  rw [Bool.and_eq_true, decide_eq_true_eq, decide_eq_true_eq] at e
  exact ⟨k.g e.1, k.bl x e.2⟩
def cIsi (c : Co) (G : Cg) (sc : Scope) (x : Str) : List Expr → Option DE
  | [e, .Name U _] => if U = "ValueError" then (if x = "isinstance" ∧ free? G sc "isinstance" = true ∧ free? G sc "ValueError" = true ∧ isStar e = false then (match G.T.lookup ("?ValueError" : Str), c.E sc 0 e with
      | some (.isv cs), some m => some (e1 (pIsV cs) m)
      | _, _ => none) else none)
    else if x = "isinstance" ∧ free? G sc x = true ∧ free? G sc U = true ∧ isStar e = false then (match kdOf U, c.E sc 0 e with
      | some t, some m => (match G.T.lookup ("?" : Str) with
        | some (.iso cs) => some (e1 (pIsiO cs t) m)
        | _ => some (e1 (pIsi t) m))
      | _, _ => none)
    else if x = "isinstance" ∧ free? G sc x = true ∧ sc.names.lookup U = some .globalImplicit ∧ ¬ U = "__debug__" ∧ isStar e = false then (match G.T.lookup ("?" ++ U), c.E sc 0 e with
      | some (.isc y cl), some m => if y = U then some (e1 (pIsiC cl) m) else none
      | some (.ise y _ ans objs), some m => if y = U then some (e1 (pIsE ans objs) m) else none
      | _, _ => none) else none
  | _ => none
theorem cIsi_ok (ok : c.Ok cm G) (k : CxOk X cm G sc) {x : Str} {es : List Expr} {m : DE} {p pos : Pos} (e : cIsi c G sc x es = some m) : QE X cm (.Call (.Name x p) es [] pos) m := by
  unfold cIsi at e
  split at e
  · rename_i a U p2
    split at e
    · rename_i hU
      subst hU
      split at e
      · rename_i h
        obtain ⟨rfl, h1, h2, h3⟩ := h
        split at e
        · rename_i cs m' e1 e2
          cases e
          obtain ⟨g1, g2⟩ := free_ok k h1
          obtain ⟨g3, g4⟩ := free_ok k h2
          exact q_isV (k.tb _ _ e1) g1 g2 (ok.e X sc 0 a m' k e2) g3 g4 (starE h3)
        · cases e
      · cases e
    split at e
    · rename_i h
      obtain ⟨rfl, h1, h2, h3⟩ := h
      split at e
      · rename_i t m' e1 e2
        obtain ⟨k1, k2, k3, k4⟩ := kdOf_ok e1
        obtain ⟨g1, g2⟩ := free_ok k h1
        obtain ⟨g3, g4⟩ := free_ok k h2
        split at e
        · rename_i cs e3
          cases e
          have I0 := k.tb _ _ e3
          exact q_isiO I0 k1 g1 g2 (by decide +kernel) (ok.e X sc 0 a m' k e2) (by decide +kernel) (by decide +kernel) g3 g4 k2 k3 k4 (starE h3)
        cases e
        exact q_isi k1 g1 g2 (by decide +kernel) (ok.e X sc 0 a m' k e2) (by decide +kernel) (by decide +kernel) g3 g4 k2 k3 k4 (starE h3)
      · cases e
    · split at e
      · rename_i h
        obtain ⟨rfl, h1, h2, h3, h4⟩ := h
        split at e
        · rename_i y cl m' e1 e2
          split at e
          · rename_i hy
            subst hy
            cases e
            obtain ⟨k1, k2⟩ := k.tb _ _ e1
            obtain ⟨g1, g2⟩ := free_ok k h1
            exact q_isiC k2 g1 g2 (by decide +kernel) (ok.e X sc 0 a m' k e2) (by decide +kernel) (by decide +kernel) (k.g h2) k1 (ne_beq h3) (starE h4)
          · cases e
        · rename_i y cl ans objs m' e1 e2
          split at e
          · rename_i hy
            subst hy
            cases e
            obtain ⟨k1, k2⟩ := k.tb _ _ e1
            obtain ⟨g1, g2⟩ := free_ok k h1
            exact q_isE k2 g1 g2 (by decide +kernel) (ok.e X sc 0 a m' k e2) (by decide +kernel) (by decide +kernel) (k.g h2) k1 (ne_beq h3) (starE h4)
          · cases e
        · cases e
      · cases e
  · cases e
def bltG (G : Cg) (cl : Bool) (x : Str) (n : Nat) : Option Fn := if x = "len" ∧ n = 1 then (match G.T.lookup ("len()" : Str) with
    | some (Ent.lno c f) => some (l1 (pLenO c f))
    | _ => bltF cl x n)
  else if x = "repr" ∧ n = 1 then (match G.T.lookup ("repr()" : Str) with
    | some Ent.smd => some (l1 pReprD)
    | _ => bltF cl x n)
  else bltF cl x n
theorem bltG_ok {cl : Bool} {x : Str} {n : Nat} {g : Fn} (k : CxOk X cm G sc) (e : bltG G cl x n = some g) : x ≠ "__name__" ∧ (x == ("__debug__" : Str)) = false ∧
    ((∃ id r, bootBuiltins x = some (.builtin id) ∧ CallR X (.builtin id) r ∧ OkL X.K cm g r) ∨ ∃ T r, bootBuiltins x = some (.type T) ∧ CallR X (.type T) r ∧ OkL X.K cm g r) := by
  unfold bltG at e
  split at e
  · rename_i hx
    split at e
    · rename_i c f hl
      cases e
      obtain ⟨rfl, rfl⟩ := hx
      obtain ⟨fA, fd, ps, j, h1, h2, h3, h4⟩ := k.tb "len()" _ hl
      exact ⟨by decide +kernel, by decide +kernel, .inl ⟨"len", _, by decide +kernel, (call_ownL h1 h2 h3 k.gd h4).or call_lenX, OkL.of1 (r := fun xs H Q => (∃ x, xs = [x] ∧ rOwnL X.K cm c f x H Q) ∨ rLenX X.K xs H Q) ok_ownL⟩⟩
    · exact bltF_ok k e
  · split at e
    · rename_i hx
      split at e
      · rename_i hl
        cases e
        obtain ⟨rfl, rfl⟩ := hx
        exact ⟨by decide +kernel, by decide +kernel, .inl ⟨"repr", _, by decide +kernel, call_reprY (k.tb "repr()" _ hl) k.gd (by have := k.un; omega), ok_reprD⟩⟩
      · exact bltF_ok k e
    · exact bltF_ok k e
def aflOf (G : Cg) (x : Str) : List Nat := match G.T.lookup (("@" : Str) ++ x) with
  | some (.afl fs) => fs
  | _ => []
def cCall (c : Co) (G : Cg) (sc : Scope) (fl : Nat) (x : Str) (es : List Expr) : Option DE :=
  if decide (sc.names.lookup x = some .globalImplicit) = true then
    (match cArgs c sc (aflOf G x) es with
    | some ms => if decide (x ∈ G.B) = true then (match es with
        | [] => none
        | _ :: _ => (bltG G (fl == 1) x es.length).map fun g => eF g ms)
      else if x = "__debug__" then none else match G.T.lookup x with
        | some (.fn f ps nd cells) => if es.length = ps.length then (let m := eCall f ps.length [] ms; some (if cells && fl == 0 then eTree m else m))
          else if nd = 1 ∧ es.length + 1 = ps.length then (let m := eCall f ps.length [.non] ms; some (if cells && fl == 0 then eTree m else m)) else none
        | some (.cls cl f n) => if ms.length + 1 = n ∧ es.isEmpty = false then (let m := eF (mkObj cl f) ms; some (if fl == 0 then eTree m else m)) else none
        | some (.erp cl fld) => (match es, ms with
          | [], _ => some (eErr0 cl [(fld, .non)])
          | [_], [m] => some (eErr cl fld m)
          | _, _ => none)
        | some (.ern cl) => if es.isEmpty = true then some (eErr0 cl []) else none
        | _ => none
    | none => none)
  else (match G.T.lookup ("()" : Str), cName G sc x, cArgs c sc [] es with
    | some (.cal cl f n), some mo, some ms => if ms.length + 1 = n ∧ es.isEmpty = false then some (eCallO cl f mo ms) else none
    | _, _, _ => none)
theorem cCall_ok (ok : c.Ok cm G) (k : CxOk X cm G sc) {fl : Nat} {x : Str} {es : List Expr} {m : DE} {p pos : Pos} (e : cCall c G sc fl x es = some m) : QE X cm (.Call (.Name x p) es [] pos) m := by
  unfold cCall at e
  split at e
  · rename_i hg
    have hg := of_decide_eq_true hg
    split at e
    · rename_i ms ea
      obtain ⟨a1, a2, a3⟩ := cArgs_ok ok k ea
      split at e
      · rename_i hB
        have hB := k.bl x (of_decide_eq_true hB)
        cases es with
        | nil => cases e
        | cons y ys =>
          obtain ⟨g, e1, rfl⟩ := Option.map_eq_some_iff.mp e
          have hst : starEach (y :: ys) X.env = (false, eval y X.env) :: starEach ys X.env := starE (a3 y List.mem_cons_self)
          have hpl : (backTo pos (starEach ys X.env)).any (·.1) = false := by
            have := a2 pos
            rw [hst] at this
            exact (Bool.or_eq_false_iff.mp (show (false || (backTo pos (starEach ys X.env)).any (·.1)) = false from this)).2
          obtain ⟨n1, n2, h | h⟩ := bltG_ok k e1
          · obtain ⟨id, r, hv, hc, hk⟩ := h
            exact q_callB hc hk (k.g hg) hB hv a1 n1 n2 hst hpl
          · obtain ⟨T, r, hv, hc, hk⟩ := h
            exact q_callTy hc hk (k.g hg) hB hv a1 n1 n2 hst hpl
      · split at e
        · cases e
        · rename_i hdb
          have wrap : ∀ {m0 : DE} {b : Bool}, QE X cm (.Call (.Name x p) es [] pos) m0 → QE X cm (.Call (.Name x p) es [] pos) (if b = true then eTree m0 else m0) := fun {m0 b} h => by
            cases b with
            | true => exact q_tree h
            | false => exact h
          split at e
          · rename_i f ps nd cells eT
            obtain ⟨fA, fd, lv, hm, hk, F, hr, b0, b1⟩ := k.tb x _ eT
            have go : ∀ {ds : List Value} {dvs : List V} {dw : List W}, Binds X.K fd ps ds → Vals dvs ds → (∀ mu Z, RWs X.K cm mu Z dw dvs) → QE X cm (.Call (.Name x p) es [] pos) (eCall f ps.length dw ms) := fun {ds dvs dw} hb hv hd => by
              cases es with
              | nil =>
                have : ms = [] := by
                  have ea : some [] = some ms := ea
                  cases ea
                  rfl
                subst this
                exact q_def0 F hr k.gd (k.g hg) hm hk hb hv hd (ne_beq hdb)
              | cons y ys =>
                have hst : starEach (y :: ys) X.env = (false, eval y X.env) :: starEach ys X.env := starE (a3 y List.mem_cons_self)
                have hpl : (backTo pos (starEach ys X.env)).any (·.1) = false := by
                  have := a2 pos
                  rw [hst] at this
                  exact (Bool.or_eq_false_iff.mp (show (false || (backTo pos (starEach ys X.env)).any (·.1)) = false from this)).2
                exact q_def F hr k.gd (k.g hg) hm hk hb hv hd a1 (ne_beq hdb) hst hpl
            split at e
            · cases e
              exact wrap (go b0 .nil fun _ _ => rfl)
            · split at e
              · rename_i hn
                cases e
                exact wrap (go (b1 hn.1) (.cons (a := V.non) rfl .nil) fun _ _ => ⟨.non, [], rfl, rfl, rfl⟩)
              · cases e
          · rename_i cl f n eT
            obtain ⟨fA, fd, ps, lv, M, hm, F, hr, b0⟩ := k.tb x _ eT
            split at e
            · rename_i hn
              cases e
              cases es with
              | nil => cases hn.2
              | cons y ys =>
                have hst : starEach (y :: ys) X.env = (false, eval y X.env) :: starEach ys X.env := starE (a3 y List.mem_cons_self)
                have hpl : (backTo pos (starEach ys X.env)).any (·.1) = false := by
                  have := a2 pos
                  rw [hst] at this
                  exact (Bool.or_eq_false_iff.mp (show (false || (backTo pos (starEach ys X.env)).any (·.1)) = false from this)).2
                exact wrap (q_make M F hr k.gd (k.g hg) hm b0 hn.1 a1 (ne_beq hdb) hst hpl)
            · cases e
          · rename_i cl fld eT
            obtain ⟨fI, fd, ps, lv, hm, T, iC, tI, hno, F1, hr, hps, b0, b1⟩ := k.tb x _ eT
            split at e
            · cases e
              exact q_err0 T iC tI hno hps F1 hr b1 (k.g hg) hm (ne_beq hdb)
            · rename_i y m0
              cases e
              unfold cArgs at ea
              split at ea
              · cases ea
              · rename_i hs
                split at ea
                · rename_i m1 ms1 e1 e2
                  have e2 : cArgs c sc (aflOf G x).tail [] = some ms1 := e2
                  have e3 : ms1 = [] := by
                    revert e2
                    cases (aflOf G x).tail <;> intro e2 <;> (cases e2; rfl)
                  subst e3
                  cases ea
                  exact q_errP T iC tI hno hps F1 hr b0 (k.g hg) hm (ok.e X sc _ y _ k e1) (ne_beq hdb) (starE (Bool.eq_false_iff.mpr hs))
                · cases ea
            · cases e
          · rename_i cl eT
            obtain ⟨hm, kC, hx⟩ := k.tb x _ eT
            split at e
            · rename_i hem
              cases e
              cases es with
              | nil => exact q_errN PySem.F.excBase_ValueError hx kC (k.g hg) hm (ne_beq hdb)
              | cons _ _ => cases hem
            · cases e
          · cases e
    · cases e
  · split at e
    · rename_i cl f n mo ms eT e1 ea
      obtain ⟨a1, a2, a3⟩ := cArgs_ok ok k ea
      obtain ⟨fA, fd, ps, lv, co, F, hr, b0⟩ := k.tb _ _ eT
      split at e
      · rename_i hn
        cases e
        cases es with
        | nil => cases hn.2
        | cons y ys =>
          have hst : starEach (y :: ys) X.env = (false, eval y X.env) :: starEach ys X.env := starE (a3 y List.mem_cons_self)
          have hpl : (backTo pos (starEach ys X.env)).any (·.1) = false := by
            have := a2 pos
            rw [hst] at this
            exact (Bool.or_eq_false_iff.mp (show (false || (backTo pos (starEach ys X.env)).any (·.1)) = false from this)).2
          exact q_callON co F hr k.gd b0 hn.1 (cName_ok k e1) a1 hst hpl
      · cases e
    · cases e

def kwNames : List Keyword → Option (List Str)
  | [] => some []
  | ⟨some x, _, _⟩ :: r => (kwNames r).map (x :: ·)
  | ⟨none, _, _⟩ :: _ => none
theorem kwNames_ok {env : PySem.Env} {pos : Pos} : ∀ {kws : List Keyword} {ks : List Str}, kwNames kws = some ks →
    (backToKw pos (keywordEach kws env)).all (·.1.isSome) = true ∧ (backToKw pos (keywordEach kws env)).filterMap (·.1) = ks ∧ (backToKw pos (keywordEach kws env)).any (·.1.isNone) = false
  | [], ks, h => by
    cases h
    exact ⟨rfl, rfl, rfl⟩
  | ⟨some x, v, q⟩ :: r, ks, h => by
    obtain ⟨ks', e1, rfl⟩ := Option.map_eq_some_iff.mp (show (kwNames r).map (x :: ·) = some ks from h)
    obtain ⟨h1, h2, h3⟩ := kwNames_ok (env := env) (pos := pos) e1
    refine ⟨?_, ?_, ?_⟩
    · show (true && (backToKw pos (keywordEach r env)).all (·.1.isSome)) = true
      rw [h1]; rfl
    · show x :: (backToKw pos (keywordEach r env)).filterMap (·.1) = x :: ks'
      rw [h2]
    · show (false || (backToKw pos (keywordEach r env)).any (·.1.isNone)) = false
      rw [h3]; rfl
  | ⟨none, v, q⟩ :: r, ks, h => by cases h
def kwKey (x : Str) (ks : List Str) : Str := ks.foldl (fun a k => a ++ "," ++ k) x
def cKwArgs (c : Co) (sc : Scope) : List Keyword → Option (List DE)
  | [] => some []
  | ⟨_, e, _⟩ :: r => (match c.E sc 0 e, cKwArgs c sc r with
    | some m, some ms => some (m :: ms)
    | _, _ => none)
theorem cKwArgs_ok (ok : c.Ok cm G) (k : CxOk X cm G sc) : ∀ {kws : List Keyword} {ms : List DE}, cKwArgs c sc kws = some ms → PK X kws (tOL X.K cm ms)
  | [], ms, h => by
    cases h
    exact pk_nilQ
  | ⟨nm, e, q⟩ :: r, ms, h => by
    unfold cKwArgs at h
    split at h
    · rename_i m ms' e1 e2
      cases h
      exact pk_consQ (ok.e X sc 0 e m k e1) (cKwArgs_ok ok k e2)
    · cases h
def cCallK (c : Co) (G : Cg) (sc : Scope) (fl : Nat) (x : Str) (kws : List Keyword) : Option DE :=
  if decide (sc.names.lookup x = some .globalImplicit) = true ∧ ¬ x = "__debug__" then
    (match kwNames kws, cKwArgs c sc kws with
    | some ks, some ms => (match G.T.lookup (kwKey x ks) with
      | some (.kwd y f n ks' ix cells) => if y = x ∧ ks' = ks then (let m := eKw f n ks.length ix ms; some (if cells && fl == 0 then eTree m else m)) else none
      | some (.clk y cl f n ks' ix) => if y = x ∧ ks' = ks then (let m := eMkK cl f n ks.length ix ms; some (if fl == 0 then eTree m else m)) else none
      | some (.erk y cl fld ks') => if y = x ∧ ks' = ks then (match ms with
        | [m] => some (eErr cl fld m)
        | _ => none) else none
      | _ => none)
    | _, _ => none)
  else (match kwNames kws, cKwArgs c sc kws, cName G sc x with
    | some ks, some ms, some mo => (match G.T.lookup (kwKey "()" ks) with
      | some (.cak cl f n ks' ix) => if ks' = ks then some (eCoK cl f n ks.length ix mo ms) else none
      | _ => none)
    | _, _, _ => none)
theorem cCallK_ok (ok : c.Ok cm G) (k : CxOk X cm G sc) {fl : Nat} {x : Str} {kws : List Keyword} {m : DE} {p pos : Pos} (e : cCallK c G sc fl x kws = some m) : QE X cm (.Call (.Name x p) [] kws pos) m := by
  unfold cCallK at e
  split at e
  · rename_i hg
    split at e
    · rename_i ks ms e1 e2
      split at e
      · rename_i y f n ks' ix cells eT
        split at e
        · rename_i hy
          obtain ⟨rfl, rfl⟩ := hy
          cases e
          obtain ⟨fA, fd, lv, ps, hm, hk, F, hr, hb⟩ := k.tb _ _ eT
          have q := q_kw (p := p) (pos := pos) F hr k.gd (k.g (of_decide_eq_true hg.1)) hm hk hb (cKwArgs_ok ok k e2) (ne_beq hg.2) (fun pos => (kwNames_ok (env := X.env) (pos := pos) e1).1) (fun pos => (kwNames_ok (env := X.env) (pos := pos) e1).2.1) (fun pos => (kwNames_ok (env := X.env) (pos := pos) e1).2.2)
          cases hb : (cells && fl == 0) with
          | true => exact q_tree q
          | false => exact q
        · cases e
      · rename_i y cl f n ks' ix eT
        split at e
        · rename_i hy
          obtain ⟨rfl, rfl⟩ := hy
          cases e
          obtain ⟨fA, fd, ps, lv, M, hm, F, hr, hb⟩ := k.tb _ _ eT
          have q := q_makeK (p := p) (pos := pos) M F hr k.gd (k.g (of_decide_eq_true hg.1)) hm hb (cKwArgs_ok ok k e2) (ne_beq hg.2) (fun pos => (kwNames_ok (env := X.env) (pos := pos) e1).1) (fun pos => (kwNames_ok (env := X.env) (pos := pos) e1).2.1) (fun pos => (kwNames_ok (env := X.env) (pos := pos) e1).2.2)
          cases hb : (fl == 0) with
          | true => exact q_tree q
          | false => exact q
        · cases e
      · rename_i y cl fld ks' eT
        split at e
        · rename_i hy
          obtain ⟨rfl, rfl⟩ := hy
          split at e
          · rename_i m0
            cases e
            obtain ⟨fI, fd, ps, lv, hm, T, iC, tI, hno, F1, hr, hks, hb⟩ := k.tb _ _ eT
            exact q_errK (p := p) (pos := pos) T iC tI hno hks F1 hr hb (k.g (of_decide_eq_true hg.1)) hm (cKwArgs_ok ok k e2) (ne_beq hg.2) (fun pos => (kwNames_ok (env := X.env) (pos := pos) e1).1) (fun pos => (kwNames_ok (env := X.env) (pos := pos) e1).2.1) (fun pos => (kwNames_ok (env := X.env) (pos := pos) e1).2.2)
          · cases e
        · cases e
      · cases e
    · cases e
  · split at e
    · rename_i ks ms mo e1 e2 e3
      split at e
      · rename_i cl f n ks' ix eT
        split at e
        · rename_i hy
          subst hy
          cases e
          obtain ⟨fA, fd, ps, lv, co, F, hr, hb⟩ := k.tb _ _ eT
          exact q_callOK co F hr k.gd hb (cName_ok k e3) (cKwArgs_ok ok k e2) (fun pos => (kwNames_ok (env := X.env) (pos := pos) e1).1) (fun pos => (kwNames_ok (env := X.env) (pos := pos) e1).2.1) (fun pos => (kwNames_ok (env := X.env) (pos := pos) e1).2.2)
        · cases e
      · cases e
    · cases e

def isSup : Expr → Bool
  | .Call (.Name _ _) [] [] _ => true
  | _ => false
theorem noSup {o : Expr} {a : Str} {env : PySem.Env} {wh : Sem Value} (h : isSup o = false) : attributeBase o a env wh = wh := by
  unfold attributeBase
  split
  · cases h
  · rfl
def metF (x : Str) (n : Nat) : Option (MTy × Fn) :=
  if x = "append" then (if n = 1 then some (.list, l2 pAppend) else none)
  else if x = "lstrip" then (if n = 1 then some (.str, l2 pLstrip) else none)
  else if x = "rstrip" then (if n = 1 then some (.str, l2 pRstrip) else none)
  else if x = "insert" then (if n = 2 then some (.list, l3 pInsert) else none)
  else if x = "index" then (if n = 1 then some (.list, l2 pIndex) else none)
  else if x = "startswith" then (if n = 1 then some (.str, l2 pStarts) else none)
  else if x = "endswith" then (if n = 1 then some (.str, l2 pEnds) else none)
  else if x = "join" then (if n = 1 then some (.str, l2 pJoin) else none)
  else none
theorem metF_ok {x : Str} {n : Nat} {t : MTy} {g : Fn} (hu : X.A.units + 65 < cLine) (e : metF x n = some (t, g)) : n ≠ 0 ∧ n < 20 ∧ ∃ id r, PlainAttrs (mtName t) ∧ Slot (mtName t) x id ∧ typeOf (.builtin id) = pure (.type "method_descriptor") ∧ MtR X id r ∧ OkM X.K cm g r := by
  unfold metF at e
  split at e
  · rename_i h; subst h
    split at e
    · rename_i h; subst h
      cases e
      exact ⟨by decide, by decide, _, _, PySem.F.plainAttrs_list, PySem.F.slot_list_append, PySem.F.type_list_append, mt_append, OkM.of2 ok_append⟩
    · cases e
  split at e
  · rename_i h; subst h
    split at e
    · rename_i h; subst h
      cases e
      exact ⟨by decide, by decide, _, _, PySem.F.plainAttrs_str, PySem.F.slot_str_lstrip, PySem.F.type_str_lstrip, mt_lstripChars, OkM.of2 ok_lstrip⟩
    · cases e
  split at e
  · rename_i h; subst h
    split at e
    · rename_i h; subst h
      cases e
      exact ⟨by decide, by decide, _, _, PySem.F.plainAttrs_str, PySem.F.slot_str_rstrip, PySem.F.type_str_rstrip, mt_rstripChars, OkM.of2 ok_rstrip⟩
    · cases e
  split at e
  · rename_i h; subst h
    split at e
    · rename_i h; subst h
      cases e
      exact ⟨by decide, by decide, _, _, PySem.F.plainAttrs_list, PySem.F.slot_list_insert, PySem.F.type_list_insert, mt_insert, ok_insert⟩
    · cases e
  split at e
  · rename_i h; subst h
    split at e
    · rename_i h; subst h
      cases e
      exact ⟨by decide, by decide, _, _, PySem.F.plainAttrs_list, PySem.F.slot_list_index, PySem.F.type_list_index, mt_indexD hu, ok_index⟩
    · cases e
  split at e
  · rename_i h; subst h
    split at e
    · rename_i h; subst h
      cases e
      exact ⟨by decide, by decide, _, _, PySem.F.plainAttrs_str, PySem.F.slot_str_startswith, PySem.F.type_str_startswith, mt_startswith, ok_starts⟩
    · cases e
  split at e
  · rename_i h; subst h
    split at e
    · rename_i h; subst h
      cases e
      exact ⟨by decide, by decide, _, _, PySem.F.plainAttrs_str, PySem.F.slot_str_endswith, PySem.F.type_str_endswith, mt_endswith, ok_ends⟩
    · cases e
  split at e
  · rename_i h; subst h
    split at e
    · rename_i h; subst h
      cases e
      exact ⟨by decide, by decide, _, _, PySem.F.plainAttrs_str, PySem.F.slot_str_join, PySem.F.type_str_join, mt_join, ok_join⟩
    · cases e
  · cases e
def metF0 (x : Str) : Option (MTy × Fn) :=
  if x = "pop" then some (.list, l1 pPop0)
  else if x = "isdigit" then some (.str, l1 pIsdigit)
  else if x = "upper" then some (.str, l1 pUpper)
  else none
theorem metF0_ok {x : Str} {t : MTy} {g : Fn} (e : metF0 x = some (t, g)) : ∃ id r, PlainAttrs (mtName t) ∧ Slot (mtName t) x id ∧ typeOf (.builtin id) = pure (.type "method_descriptor") ∧ MtR X id r ∧ OkM X.K cm g r := by
  unfold metF0 at e
  split at e
  · rename_i h; subst h; cases e
    exact ⟨_, _, PySem.F.plainAttrs_list, PySem.F.slot_list_pop, PySem.F.type_list_pop, mt_pop, ok_pop0⟩
  split at e
  · rename_i h; subst h; cases e
    exact ⟨_, _, PySem.F.plainAttrs_str, PySem.F.slot_str_isdigit, PySem.F.type_str_isdigit, mt_isdigit, ok_isdigit⟩
  split at e
  · rename_i h; subst h; cases e
    exact ⟨_, _, PySem.F.plainAttrs_str, PySem.F.slot_str_upper, PySem.F.type_str_upper, mt_upper, ok_upper⟩
  · cases e
def isSigns : Expr → Bool
  | .Name x _ => decide (x = "_law_signs")
  | _ => false
def cMeth (c : Co) (G : Cg) (sc : Scope) (fl : Nat) (o : Expr) (x : Str) (same : Bool) (es : List Expr) : Option DE :=
  if isSup o = true ∨ same = false then none else match c.E sc 0 o with
    | some mo => if (G.T.lookup ("." ++ x)).isSome = true then (match G.T.lookup ("." ++ x), cArgs c sc [] es with
        | some (.met m cl f n cells), some ms => if m = x ∧ ms.length + 1 = n ∧ es.length < 20 then (let r := eMet cl m f mo ms; some (if cells && fl == 0 then eTree r else r)) else none
        | _, _ => none)
      else if x = "bit_length" then (match es with
        | [] => some (e1 pBits mo)
        | _ :: _ => none)
      else if x = "get" then (match es with
        | [a, b] => if isStar a = true ∨ isStar b = true then none else (match c.E sc 0 a, c.E sc 0 b with
          | some ma, some mb => some (eGet mo ma mb)
          | _, _ => none)
        | _ => none)
      else if x = "index" ∧ isSigns o = true then (match es with
        | [a] => (cArgs c sc [] [a]).map fun ms => eM .str (l2 pSIndex) mo ms
        | _ => none)
      else if es.isEmpty = true then (metF0 x).map fun p => eM p.1 p.2 mo []
      else (match metF x es.length, cArgs c sc [] es with
        | some (t, g), some ms => some (eM t g mo ms)
        | _, _ => none)
    | none => none
theorem cMeth_ok (ok : c.Ok cm G) (k : CxOk X cm G sc) {fl : Nat} {o : Expr} {x : Str} {es : List Expr} {m : DE} {apos pos : Pos} (e : cMeth c G sc fl o x (apos.endLine == pos.line) es = some m) : QE X cm (.Call (.Attribute o x apos) es [] pos) m := by
  unfold cMeth at e
  split at e
  · cases e
  · rename_i hn
    rw [not_or] at hn
    have h1 : isSup o = false := Bool.eq_false_iff.mpr hn.1
    have h2 : (apos.endLine == pos.line) = true := by
      cases q : (apos.endLine == pos.line) with
      | true => rfl
      | false => exact absurd q hn.2
    split at e
    · rename_i mo eo
      have qo := ok.e X sc 0 o mo k eo
      split at e
      · split at e
        · rename_i m0' cl f n cells ms eT ea
          obtain ⟨a1, a2, a3⟩ := cArgs_ok ok k ea
          obtain ⟨fA, fd, ps, lv, cl0, hm, F, hr, b0⟩ := k.tb _ _ eT
          split at e
          · rename_i hn
            obtain ⟨rfl, hn, hlen⟩ := hn
            cases e
            have wrap : ∀ {m0 : DE} {b : Bool}, QE X cm (.Call (.Attribute o m0' apos) es [] pos) m0 → QE X cm (.Call (.Attribute o m0' apos) es [] pos) (if b = true then eTree m0 else m0) := fun {m0 b} h => by
              cases b with
              | true => exact q_tree h
              | false => exact h
            cases es with
            | nil =>
              have : ms = [] := by
                have ea : some [] = some ms := ea
                cases ea
                rfl
              subst this
              have hn : 1 = n := hn
              subst hn
              exact wrap (q_meth0 cl0 hm F hr k.gd b0 qo (methTree0 (noSup h1) h2))
            | cons y ys =>
              have hst : starEach (y :: ys) X.env = (false, eval y X.env) :: starEach ys X.env := starE (a3 y List.mem_cons_self)
              have hpl : (backTo pos (starEach ys X.env)).any (·.1) = false := by
                have := a2 pos
                rw [hst] at this
                exact (Bool.or_eq_false_iff.mp (show (false || (backTo pos (starEach ys X.env)).any (·.1)) = false from this)).2
              refine wrap (q_meth cl0 hm F hr k.gd b0 hn qo a1 hst hpl (methTree (noSup h1) ?_ h2))
              rw [cArgs_all a3 pos]
              show (true && true && decide ((y :: ys).length + 0 + 0 < 30)) = true
              rw [decide_eq_true (show (y :: ys).length + 0 + 0 < 30 by omega)]
              rfl
          · cases e
        · cases e
      split at e
      · rename_i hx
        subst hx
        cases es with
        | nil =>
          cases e
          exact q_bits qo (noSup h1) h2
        | cons _ _ => cases e
      split at e
      · rename_i hx
        subst hx
        split at e
        · rename_i a b
          split at e
          · cases e
          · rename_i hst
            rw [not_or] at hst
            have sa : isStar a = false := Bool.eq_false_iff.mpr hst.1
            have sb : isStar b = false := Bool.eq_false_iff.mpr hst.2
            split at e
            · rename_i ma mb ea eb
              cases e
              have tr : starEach [a, b] X.env = [(false, eval a X.env), (false, eval b X.env)] := by
                rw [starE sa, starE sb]
                rfl
              refine q_get2 (by have := k.un; omega) qo (ok.e X sc 0 a ma k ea) (ok.e X sc 0 b mb k eb) ⟨noSup h1, ?_, h2, ?_⟩
              · rw [tr]
                rfl
              · rw [tr]
                rfl
            · cases e
        · cases e
      split at e
      · rename_i hx
        obtain ⟨rfl, _⟩ := hx
        split at e
        · rename_i y
          obtain ⟨ms, e2, rfl⟩ := Option.map_eq_some_iff.mp e
          obtain ⟨a1, a2, a3⟩ := cArgs_ok ok k e2
          have hst : starEach [y] X.env = (false, eval y X.env) :: starEach [] X.env := starE (a3 y List.mem_cons_self)
          refine q_m (t := .str) PySem.F.plainAttrs_str PySem.F.slot_str_index PySem.F.type_str_index mt_sindex ok_sindex qo a1 (noSup h1) ?_ h2 hst rfl
          rw [cArgs_all a3 pos]
          rfl
        · cases e
      split at e
      · rename_i hem
        obtain ⟨⟨t, g⟩, e1, rfl⟩ := Option.map_eq_some_iff.mp e
        obtain ⟨id, r, pa, sl, ty, hm, hk⟩ := metF0_ok (X := X) (cm := cm) e1
        cases es with
        | nil => exact q_m0 pa sl ty hm hk qo (noSup h1) h2
        | cons _ _ => cases hem
      · split at e
        · rename_i t g ms e1 e2
          cases e
          obtain ⟨n0, n1, id, r, pa, sl, ty, hm, hk⟩ := metF_ok (X := X) (cm := cm) k.un e1
          obtain ⟨a1, a2, a3⟩ := cArgs_ok ok k e2
          cases es with
          | nil => exact absurd rfl n0
          | cons y ys =>
            have hst : starEach (y :: ys) X.env = (false, eval y X.env) :: starEach ys X.env := starE (a3 y List.mem_cons_self)
            have hpl : (backTo pos (starEach ys X.env)).any (·.1) = false := by
              have := a2 pos
              rw [hst] at this
              exact (Bool.or_eq_false_iff.mp (show (false || (backTo pos (starEach ys X.env)).any (·.1)) = false from this)).2
            refine q_m pa sl ty hm hk qo a1 (noSup h1) ?_ h2 hst hpl
            rw [cArgs_all a3 pos]
            show (true && true && decide ((y :: ys).length + 0 + 0 < 30)) = true
            rw [decide_eq_true (show (y :: ys).length + 0 + 0 < 30 by omega)]
            rfl
        · cases e
    · cases e
def cSumV (c : Co) (G : Cg) (sc : Scope) (x : Str) : List Expr → Option DE
  | [.Call (.Attribute o y apos) [] [] mpos] => if x = "sum" ∧ y = "values" ∧ free? G sc x = true ∧ isSup o = false ∧ (apos.endLine == mpos.line) = true then (c.E sc 0 o).map (e1 pSumV) else none
  | _ => none
theorem cSumV_ok (ok : c.Ok cm G) (k : CxOk X cm G sc) {x : Str} {es : List Expr} {m : DE} {p pos : Pos} (e : cSumV c G sc x es = some m) : QE X cm (.Call (.Name x p) es [] pos) m := by
  unfold cSumV at e
  split at e
  · split at e
    · rename_i h
      obtain ⟨rfl, rfl, h1, h2, h3⟩ := h
      obtain ⟨mo, e1, rfl⟩ := Option.map_eq_some_iff.mp e
      obtain ⟨g1, g2⟩ := free_ok k h1
      exact q_sumV k.calm g1 g2 (ok.e X sc 0 _ mo k e1) (noSup h2) h3
    · cases e
  · cases e
def cLRg (c : Co) (G : Cg) (sc : Scope) (fl : Nat) (x : Str) : List Expr → Option DE
  | [.Call (.Name y p2) es [] pos2] => if x = "list" ∧ y = "range" ∧ free? G sc "list" = true ∧ free? G sc "range" = true then (match es, cArgs c sc [] es with
      | [_], some [m] => some (eF (pRgL (fl == 1)) [m])
      | [_, _], some [m, k] => some (eF (pRgL (fl == 1)) [m, k])
      | _, _ => none) else none
  | _ => none
theorem cLRg_ok (ok : c.Ok cm G) (k : CxOk X cm G sc) {fl : Nat} {x : Str} {es : List Expr} {m : DE} {p pos : Pos} (e : cLRg c G sc fl x es = some m) : QE X cm (.Call (.Name x p) es [] pos) m := by
  unfold cLRg at e
  split at e
  · split at e
    · rename_i y p2 es2 pos2 h
      obtain ⟨rfl, rfl, h1, h2⟩ := h
      obtain ⟨g1, g2⟩ := free_ok k h1
      obtain ⟨g3, g4⟩ := free_ok k h2
      split at e
      · rename_i a m1 ea
        cases e
        unfold cArgs at ea
        split at ea
        · cases ea
        · rename_i hs
          split at ea
          · rename_i m2 ms e1 e2
            have e2 : cArgs c sc [] [] = some ms := e2
            cases e2
            cases ea
            exact q_listRg k.calm g1 g2 g3 g4 (.inl ⟨_, _, rfl, rfl, ok.e X sc _ _ _ k e1, starE (Bool.eq_false_iff.mpr hs)⟩)
          · cases ea
      · rename_i a b m1 m2 ea
        cases e
        unfold cArgs at ea
        split at ea
        · cases ea
        · rename_i hs
          split at ea
          · rename_i m3 ms e1 e2
            unfold cArgs at e2
            split at e2
            · cases e2
            · rename_i hs2
              split at e2
              · rename_i m4 ms4 e3 e4
                have e4 : cArgs c sc [] [] = some ms4 := e4
                cases e4
                cases e2
                cases ea
                exact q_listRg k.calm g1 g2 g3 g4 (.inr ⟨_, _, _, _, rfl, rfl, ok.e X sc _ _ _ k e1, ok.e X sc _ _ _ k e3, starE (Bool.eq_false_iff.mpr hs), starE (Bool.eq_false_iff.mpr hs2)⟩)
              · cases e2
          · cases ea
      · cases e
    · cases e
  · cases e
def cLenSet (c : Co) (G : Cg) (sc : Scope) (x : Str) : List Expr → Option DE
  | [.Call (.Name y p2) [a] [] pos2] => if x = "len" ∧ y = "set" ∧ free? G sc "len" = true ∧ free? G sc "set" = true ∧ isStar a = false then (c.E sc 0 a).map (e1 pLenSet) else none
  | _ => none
theorem cLenSet_ok (ok : c.Ok cm G) (k : CxOk X cm G sc) {x : Str} {es : List Expr} {m : DE} {p pos : Pos} (e : cLenSet c G sc x es = some m) : QE X cm (.Call (.Name x p) es [] pos) m := by
  unfold cLenSet at e
  split at e
  · split at e
    · rename_i y p2 a pos2 h
      obtain ⟨rfl, rfl, h1, h2, h3⟩ := h
      obtain ⟨mo, e1, rfl⟩ := Option.map_eq_some_iff.mp e
      obtain ⟨g1, g2⟩ := free_ok k h1
      obtain ⟨g3, g4⟩ := free_ok k h2
      exact q_lenSet k.calm g1 g2 g3 g4 (ok.e X sc 0 _ mo k e1) (starE h3)
    · cases e
  · cases e
def cSortSet (c : Co) (G : Cg) (sc : Scope) (fl : Nat) (x : Str) : List Expr → Option DE
  | [.Call (.Name y p2) [a] [] pos2] => if x = "sorted" ∧ y = "set" ∧ free? G sc "sorted" = true ∧ free? G sc "set" = true ∧ isStar a = false then (c.E sc 0 a).map (e1 (pSortSet (fl == 1))) else none
  | _ => none
theorem cSortSet_ok (ok : c.Ok cm G) (k : CxOk X cm G sc) {fl : Nat} {x : Str} {es : List Expr} {m : DE} {p pos : Pos} (e : cSortSet c G sc fl x es = some m) : QE X cm (.Call (.Name x p) es [] pos) m := by
  unfold cSortSet at e
  split at e
  · split at e
    · rename_i y p2 a pos2 h
      obtain ⟨rfl, rfl, h1, h2, h3⟩ := h
      obtain ⟨mo, e1, rfl⟩ := Option.map_eq_some_iff.mp e
      obtain ⟨g1, g2⟩ := free_ok k h1
      obtain ⟨g3, g4⟩ := free_ok k h2
      exact q_sortSet k.calm g1 g2 g3 g4 (ok.e X sc 0 _ mo k e1) (starE h3)
    · cases e
  · cases e
end
end Ti


namespace Ti
open PySem PySem.Spec PyProof.Rows L2
def rangeC (lo c : Int) (n : Nat) : List W := (List.range n).map fun (k : Nat) => .int (lo + (k : Int) * c)
def fiR3 : FI := fun ws _ => match ws with
  | [.int i, .int j, .int c] => if c ≠ 0 ∧ c.natAbs < 1073741824 ∧ Builtin.Range.small i j c = true ∧ 0 ≤ Builtin.Range.rangeSize i j c then some ⟨rangeC i c (Builtin.Range.rangeSize i j c).toNat, fun _ => true⟩ else none
  | _ => none
section
variable {X : Cx} {cm : Cm}
theorem rangeC_R {K : PySem.W.Frag} {lo c : Int} {n : Nat} {mu : List Addr} {Z H : Hp} : ∃ G Y, Walk (Itc lo c n) (rangeC lo c n).length G Y ∧ (∀ mu2 Z2 H2 h2, Exw mu Z H mu2 Z2 H2 → RelH K cm mu2 Z2 H2 h2 → true = true → G H2) ∧
      ∀ i mu2 Z2 H2 h2 x H3, Exw mu Z H mu2 Z2 H2 → RelH K cm mu2 Z2 H2 h2 → true = true → Y i H2 x H3 → ∃ w Z3, (rangeC lo c n)[i]? = some w ∧ Ext mu2 Z2 H2 mu2 Z3 H3 ∧ RelH K cm mu2 Z3 H3 h2 ∧ RW K cm mu2 Z3 w x := by
  have el : (rangeC lo c n).length = n := by unfold rangeC; rw [List.length_map, List.length_range]
  refine ⟨fun _ => True, fun i H x H' => i < n ∧ H' = H ∧ x = .int (lo + (i : Nat) * c), ?_, fun _ _ _ _ _ _ _ => trivial, fun i mu2 Z2 H2 h2 x H3 x2 r2 k y => ?_⟩
  · rw [el]
    exact ⟨fun i H hi _ => hi, fun H _ => Nat.le_refl _, fun i H x H' hi _ y => ⟨hi, y⟩⟩
  · obtain ⟨hi, rfl, rfl⟩ := y
    refine ⟨.int (lo + (i : Int) * c), Z2, ?_, Ext.refl, r2, rfl⟩
    unfold rangeC
    rw [List.getElem?_map, List.getElem?_range hi]
    rfl
theorem qi_range3 {tg a b d : Expr} {m mb md : DE} {p pos : Pos} (hg : Gl X "range") (hm : X.mg "range" = none) (ha : QL X cm [a, b, d] [m, mb, md]) (hs : starEach [a, b, d] X.env = (false, eval a X.env) :: starEach [b, d] X.env) (hp : (backTo pos (starEach [b, d] X.env)).any (·.1) = false) : QI X cm tg (.Call (.Name "range" p) [a, b, d] [] pos) fiR3 [m, mb, md] := by
  refine PI.wk (pi_range3 hg hm ha hs hp) fun σ H R q => ?_
  obtain ⟨mu, Z, ρ, h, p, s, rl, sl, e, es, hR⟩ := q
  refine ⟨mu, Z, ρ, h, p.1, p.2, rl, sl, e, fun mu1 Z1 H1 vs x1 r1 w1 => ?_⟩
  obtain ⟨ws, h1⟩ := p
  have es : fiR3 ws h1 = some s := es
  unfold fiR3 at es
  split at es
  · rename_i i j c _
    split at es
    · rename_i hk
      cases es
      obtain ⟨k1, k2, k3, k4⟩ := hk
      obtain ⟨v, r, rfl, q1, q2⟩ := w1
      obtain ⟨v2, r2, rfl, q3, q4⟩ := q2
      obtain ⟨v3, r3, rfl, q5, q6⟩ := q4
      cases q1
      cases q3
      cases q5
      cases (show r3 = [] from q6)
      exact ⟨i, j, c, _, rfl, ⟨k1, k2, k3, (Int.toNat_of_nonneg k4).symm⟩, hR mu1 Z1 H1 _ x1 r1 rangeC_R⟩
    · cases es
  · cases es
end
end Ti


namespace Ti
open PySem PySem.Spec PyProof.Rows L2
section
variable {c : Co} {X : Cx} {cm : Cm} {G : Cg} {sc : Scope}

def isSlice : Expr → Bool
  | .Slice _ _ _ _ => true
  | _ => false
theorem plainIx {b : Expr} (h : isSlice b = false) : PlainIx b := by
  intro o i
  cases b <;> first | rfl | cases h
def cPart (c : Co) (sc : Scope) : Option Expr → Option (Bool × DE)
  | none => some (false, eK .non)
  | some e => (c.E sc 0 e).map fun m => (true, m)
theorem cPart_ok (ok : c.Ok cm G) (k : CxOk X cm G sc) {o : Option Expr} {b : Bool} {m : DE} (e : cPart c sc o = some (b, m)) : QO X cm o b m := by
  cases o with
  | none => cases e; exact .none
  | some x =>
    obtain ⟨m', e1, e2⟩ := Option.map_eq_some_iff.mp e
    cases e2
    exact .some (ok.e X sc 0 x m k e1)
def cSub (c : Co) (sc : Scope) (fl : Nat) (a : Expr) : Expr → Option DE
  | .Slice lo hi none _ => (match c.E sc 0 a, cPart c sc lo, cPart c sc hi with
    | some ma, some (bl, ml), some (bh, mh) => some (e3 (pSl (fl == 1) bl bh) ma ml mh)
    | _, _, _ => none)
  | .Slice none none (some (.UnaryOp .USub (.Constant (.int 1) _ _) _)) _ => (c.E sc 0 a).map (e1 (pRev (fl == 1)))
  | b => if isSlice b = true then none else (match c.E sc (if fl = 2 then 2 else 0) a, c.E sc 0 b with
    | some ma, some mb => some (e2 pIx ma mb)
    | _, _ => none)
theorem cSub_ok (ok : c.Ok cm G) (k : CxOk X cm G sc) {fl : Nat} {a b : Expr} {pos : Pos} {m : DE} (e : cSub c sc fl a b = some m) : QE X cm (.Subscript a b pos) m := by
  unfold cSub at e
  split at e
  · split at e
    · rename_i ma bl ml bh mh e1 e2 e3
      cases e
      exact q_sl (ok.e X sc 0 a ma k e1) (cPart_ok ok k e2) (cPart_ok ok k e3)
    · cases e
  · obtain ⟨m', e1, rfl⟩ := Option.map_eq_some_iff.mp e
    exact q_rev (ok.e X sc 0 a m' k e1)
  · split at e
    · cases e
    · rename_i hs
      split at e
      · rename_i ma mb e1 e2
        cases e
        exact q_ix (ix_X (by have := k.un; omega)) ok_ix (ok.e X sc _ a ma k e1) (ok.e X sc 0 b mb k e2) (plainIx (Bool.eq_false_iff.mpr hs))
      · cases e

def cTg (G : Cg) (sc : Scope) : Expr → Option (List Nat × DT)
  | .Name x _ => (match sc.names.lookup x with
    | some .local => (ixOf G.N x).map fun i => ([i], tN i)
    | some .cell => (ixOf G.N x).map fun i => ([i], tN i)
    | _ => none)
  | _ => none
def cTgs (G : Cg) (sc : Scope) : List Expr → Option (List Nat × List DT)
  | [] => some ([], [])
  | e :: es => (match cTg G sc e, cTgs G sc es with
    | some (o1, t), some (o2, ts) => some (o1 ++ o2, t :: ts)
    | _, _ => none)
theorem cTg_ok (k : CxOk X cm G sc) {e : Expr} {o : List Nat} {t : DT} (h : cTg G sc e = some (o, t)) : QG X cm o e t ∧ (∃ x p, e = .Name x p) := by
  unfold cTg at h
  split at h
  · rename_i x p
    split at h
    · rename_i e1
      obtain ⟨i, e2, e3⟩ := Option.map_eq_some_iff.mp h
      cases e3
      exact ⟨qg_name k.hd (by rw [k.N]; exact ixOf_ok e2) (.inl (k.loc x e1)) (.inr (k.loc x e1)), x, p, rfl⟩
    · rename_i e1
      obtain ⟨i, e2, e3⟩ := Option.map_eq_some_iff.mp h
      cases e3
      exact ⟨qg_name k.hd (by rw [k.N]; exact ixOf_ok e2) (.inr (k.cel x e1).1) (.inl (k.cel x e1).2), x, p, rfl⟩
    · cases h
  · cases h
theorem cTgs_ok (k : CxOk X cm G sc) : ∀ {es : List Expr} {o : List Nat} {ts : List DT}, cTgs G sc es = some (o, ts) → QGs X cm o es ts ∧ (assignEach es X.env).length = ts.length ∧ (assignEach es X.env).findIdx? (·.1) = none
  | [], o, ts, h => by
    cases h
    exact ⟨qgs_nil, rfl, rfl⟩
  | e :: es, o, ts, h => by
    unfold cTgs at h
    split at h
    · rename_i o1 t o2 ts' e1 e2
      cases h
      obtain ⟨g, x, p, rfl⟩ := cTg_ok k e1
      obtain ⟨gs, l, fi⟩ := cTgs_ok k e2
      refine ⟨qgs_cons g gs rfl, ?_, ?_⟩
      · show (assignEach es X.env).length + 1 = ts'.length + 1
        rw [l]
      · show List.findIdx? _ (_ :: assignEach es X.env) = none
        rw [List.findIdx?_cons]
        simp [fi]
    · cases h
def cTgt (G : Cg) (sc : Scope) : Expr → Option (List Nat × DT)
  | .Tuple es _ _ => (cTgs G sc es).map fun p => (p.1, tT p.2)
  | e => cTg G sc e
theorem cTgt_ok (k : CxOk X cm G sc) {e : Expr} {o : List Nat} {t : DT} (h : cTgt G sc e = some (o, t)) : QG X cm o e t := by
  unfold cTgt at h
  split at h
  · obtain ⟨p, e1, e2⟩ := Option.map_eq_some_iff.mp h
    cases e2
    obtain ⟨gs, l, fi⟩ := cTgs_ok (o := p.1) (ts := p.2) k e1
    exact qg_tup k.calm gs l fi
  · exact (cTg_ok k h).1

def cIt (c : Co) (G : Cg) (sc : Scope) (tg : Expr) : Expr → Option (FI × List DE)
  | .Call (.Name x p) es [] pos => if x = "range" ∧ free? G sc "range" = true then (match es, cArgs c sc [] es with
        | [_], some [m] => some (fiR, [m])
        | [_, _], some [m, mb] => some (fiR, [m, mb])
        | [_, _, _], some [m, mb, md] => some (fiR3, [m, mb, md])
        | _, _ => none)
      else if x = "enumerate" ∧ free? G sc "enumerate" = true then (match tg, es, cArgs c sc [] es with
        | .Tuple _ _ _, [_], some [m] => some (fiE, [m])
        | _, _, _ => none)
      else if x = "zip" ∧ free? G sc "zip" = true then (match tg, es, cArgs c sc [] es with
        | .Tuple _ _ _, [_, _], some [m, mb] => some (fiZ, [m, mb])
        | _, _, _ => none)
      else (c.E sc 0 (.Call (.Name x p) es [] pos)).map fun m => (fiL, [m])
  | .Call (.Attribute o x apos) [] [] pos => if x = "items" ∧ isSup o = false ∧ (apos.endLine == pos.line) = true then (match tg with
        | .Tuple _ _ _ => (c.E sc 0 o).map fun m => (fiI, [m])
        | _ => none)
      else if x = "values" ∧ isSup o = false ∧ (apos.endLine == pos.line) = true then (c.E sc 0 o).map fun m => (fiV, [m])
      else (c.E sc 0 (.Call (.Attribute o x apos) [] [] pos)).map fun m => (fiL, [m])
  | e => if isSet e = true then none else (c.E sc 0 e).map fun m => (fiL, [m])
theorem cIt_ok (ok : c.Ok cm G) (k : CxOk X cm G sc) {tg it : Expr} {fi : FI} {ms : List DE} (h : cIt c G sc tg it = some (fi, ms)) : QI X cm tg it fi ms ∧ ∀ x, foldedSetIterable it X.env x = pure x := by
  have noFold : isSet it = false → ∀ x, foldedSetIterable it X.env x = pure x := fun hs x => by
    cases it <;> first | rfl | cases hs
  unfold cIt at h
  split at h
  · rename_i x p es pos
    refine ⟨?_, noFold rfl⟩
    split at h
    · rename_i hx
      obtain ⟨rfl, hf⟩ := hx
      obtain ⟨g1, g2⟩ := free_ok k hf
      split at h
      · rename_i a m ea
        cases h
        obtain ⟨a1, a2, a3⟩ := cArgs_ok ok k ea
        exact qi_range1 g1 g2 a1 (starE (a3 _ List.mem_cons_self))
      · rename_i a b m mb ea
        cases h
        obtain ⟨a1, a2, a3⟩ := cArgs_ok ok k ea
        have s2 : starEach [b] X.env = [(false, eval b X.env)] := starE (a3 b (by simp))
        exact qi_range2 g1 g2 a1 (by rw [starE (a3 a (by simp)), s2]) s2
      · rename_i a b d m mb md ea
        cases h
        obtain ⟨a1, a2, a3⟩ := cArgs_ok ok k ea
        have s3 : starEach [d] X.env = [(false, eval d X.env)] := starE (a3 d (by simp))
        have s2 : starEach [b, d] X.env = (false, eval b X.env) :: starEach [d] X.env := starE (a3 b (by simp))
        exact qi_range3 g1 g2 a1 (starE (a3 a (by simp))) (by rw [s2, s3]; rfl)
      · cases h
    · split at h
      · rename_i hx
        obtain ⟨rfl, hf⟩ := hx
        obtain ⟨g1, g2⟩ := free_ok k hf
        split at h
        · rename_i a m ea
          cases h
          obtain ⟨a1, a2, a3⟩ := cArgs_ok ok k ea
          exact qi_enum g1 g2 a1 (starE (a3 _ List.mem_cons_self))
        · cases h
      · split at h
        · rename_i hx
          obtain ⟨rfl, hf⟩ := hx
          obtain ⟨g1, g2⟩ := free_ok k hf
          split at h
          · rename_i a b m mb ea
            cases h
            obtain ⟨a1, a2, a3⟩ := cArgs_ok ok k ea
            have s2 : starEach [b] X.env = [(false, eval b X.env)] := starE (a3 b (by simp))
            refine qi_zip g1 g2 a1 (starE (a3 a (by simp))) ?_
            rw [s2]
            rfl
          · cases h
        · obtain ⟨m, e1, e2⟩ := Option.map_eq_some_iff.mp h
          cases e2
          exact qi_any (ok.e X sc 0 _ m k e1)
  · rename_i o x apos pos
    refine ⟨?_, noFold rfl⟩
    split at h
    · rename_i hx
      obtain ⟨rfl, h1, h2⟩ := hx
      split at h
      · obtain ⟨m, e1, e2⟩ := Option.map_eq_some_iff.mp h
        cases e2
        exact qi_items (ok.e X sc 0 _ m k e1) (noSup h1) h2
      · cases h
    · split at h
      · rename_i hx
        obtain ⟨rfl, h1, h2⟩ := hx
        obtain ⟨m, e1, e2⟩ := Option.map_eq_some_iff.mp h
        cases e2
        exact qi_values (ok.e X sc 0 _ m k e1) (noSup h1) h2
      · obtain ⟨m, e1, e2⟩ := Option.map_eq_some_iff.mp h
        cases e2
        exact qi_any (ok.e X sc 0 _ m k e1)
  · split at h
    · cases h
    · rename_i hs
      obtain ⟨m, e1, e2⟩ := Option.map_eq_some_iff.mp h
      cases e2
      exact ⟨qi_any (ok.e X sc 0 _ m k e1), noFold (Bool.eq_false_iff.mpr hs)⟩

def ownOf (N : List Str) (names : List (Str × NameKind)) : List (Str × Nat) := names.filterMap fun y => match y.2 with
  | .local => (ixOf N y.1).map fun i => (y.1, i)
  | .cell => (ixOf N y.1).map fun i => (y.1, i)
  | _ => none
theorem lookup_free {sc : Scope} : ∀ {names : List (Str × NameKind)} {x : Str}, names.lookup x = some .free →
    (names.map fun (n, k) => if (k == NameKind.free && sc.kind == .function && sc.names.lookup n == some .cell) then (n, NameKind.cell) else (n, k)).lookup x = some .cell ∨
    (names.map fun (n, k) => if (k == NameKind.free && sc.kind == .function && sc.names.lookup n == some .cell) then (n, NameKind.cell) else (n, k)).lookup x = some .free
  | [], _, h => by cases h
  | (n, k₀) :: r, x, h => by
    have ih := @lookup_free sc r x
    show List.lookup x ((if (k₀ == NameKind.free && sc.kind == .function && sc.names.lookup n == some .cell) = true then (n, NameKind.cell) else (n, k₀)) :: (r.map _)) = some .cell ∨ List.lookup x ((if (k₀ == NameKind.free && sc.kind == .function && sc.names.lookup n == some .cell) = true then (n, NameKind.cell) else (n, k₀)) :: (r.map _)) = some .free
    cases hx : x == n with
    | true =>
      simp only [List.lookup_cons, hx] at h
      cases h
      by_cases hc : (NameKind.free == NameKind.free && sc.kind == .function && sc.names.lookup n == some .cell) = true
      · rw [if_pos hc]
        simp only [List.lookup_cons, hx]
        exact .inl trivial
      · rw [if_neg hc]
        simp only [List.lookup_cons, hx]
        exact .inr trivial
    | false =>
      simp only [List.lookup_cons, hx] at h
      by_cases hc : (k₀ == NameKind.free && sc.kind == .function && sc.names.lookup n == some .cell) = true
      · rw [if_pos hc]
        simp only [List.lookup_cons, hx]
        exact ih h
      · rw [if_neg hc]
        simp only [List.lookup_cons, hx]
        exact ih h
theorem CxOk.blk (k : CxOk X cm G sc) {scope : Scope} {own : List (Str × Nat)} (b : BlkOk G.N sc scope own) (s : Shared) (H : Hp) (C : Addr) (cl : List (Str × Addr)) (fp : List Addr) : CxOk (X.blk s H scope (compEnvC scope cl C X.env) fp) cm G scope := by
  have es : (X.blk s H scope (compEnvC scope cl C X.env) fp).env.scope = relS scope X.env.scope := rfl
  refine ⟨k.N, k.nd, k.calm, rfl, b.kind, fun x e => ?_, fun x e => ⟨?_, ?_⟩, fun x e => ?_, fun x e => ?_, k.un, k.gd, fun x en e => ?_, k.bl⟩
  · rw [es]; exact lookup_relS_keep (by decide) e
  · rw [es]; exact lookup_relS_keep (by decide) e
  · show (scope.names.lookup x == some .cell) = true
    rw [e]
    rfl
  · rw [es]; exact lookup_free e
  · rw [es]; exact lookup_relS_keep (by decide) e
  · have := k.tb x en e
    cases en with
    | fn f ps nd cells => exact this
    | con w => exact this
    | kwd y f n ks ix cells => exact this
    | cls c f n => exact this
    | met m c f n cl => exact this
    | cal c f n => exact this
    | fld f cs => exact this
    | isc y c => exact this
    | eqo c f => exact this
    | clk y c f n ks ix => exact this
    | cak c f n ks ix => exact this
    | ado c f => exact this
    | lno c f => exact this
    | ise y c a o => exact this
    | fle f cs => exact this
    | exn y c f => exact this
    | fnx y f n nd => exact this
    | smd => exact this
    | erp c f => exact this
    | erk y c f ks => exact this
    | ern c => exact this
    | isv cs => exact this
    | clx y c f n => exact this
    | cax c f n => exact this
    | adx c f => exact this
    | iso cs => exact this
    | afl fs => exact this
theorem CxOk.blkOk (k : CxOk X cm G sc) {scope : Scope} {own : List (Str × Nat)} (b : BlkOk G.N sc scope own) : BlkOk X.N X.env.scope scope own := by
  refine ⟨b.kind, b.uniq, by rw [k.N]; exact b.ix, fun y hy e => ?_, by rw [k.N]; exact b.own⟩
  rcases b.free y hy e with z | z
  · exact .inl (k.cel _ z).1
  · exact k.fre _ z
def cCond (c : Co) (sc : Scope) : List Expr → Option (Option DE)
  | [] => some none
  | [e] => (c.T sc e).map some
  | _ => none
theorem cCond_ok (ok : c.Ok cm G) (k : CxOk X cm G sc) {ifs : List Expr} {cd : Option DE} (h : cCond c sc ifs = some cd) : QC X cm ifs cd := by
  match ifs, h with
  | [], h => cases h; exact .nil
  | [e], h =>
    obtain ⟨m, e1, e2⟩ := Option.map_eq_some_iff.mp h
    cases e2
    exact .one (ok.t X sc e m k e1)
  | _ :: _ :: _, h => cases h
def cCp (c : Co) (G : Cg) (sc : Scope) (fl : Nat) (elt tg it : Expr) (ifs : List Expr) (scope : Scope) : Option DE :=
  let own := ownOf G.N scope.names
  if blkC G.N sc scope own = true then (match cIt c G sc tg it, cTgt G scope tg, cCond c scope ifs, c.E scope (if fl = 2 then 1 else 0) elt with
    | some (fi, src), some (o, t), some cd, some me => if o.all (fun i => decide (i ∈ own.map (·.2))) = true then some (eComp (fl == 1) (own.map (·.2)) t fi src cd me) else none
    | _, _, _, _ => none)
  else none
theorem cCp_ok (ok : c.Ok cm G) (k : CxOk X cm G sc) {fl : Nat} {elt tg it : Expr} {ifs : List Expr} {scope : Scope} {m : DE} (h : cCp c G sc fl elt tg it ifs scope = some m) :
    ∃ (own : List (Str × Nat)) (own' : List Nat) (fi : FI) (src : List DE) (cd : Option DE) (me : DE) (t : DT), m = eComp (fl == 1) (own.map (·.2)) t fi src cd me ∧ QI X cm tg it fi src ∧ BlkOk X.N X.env.scope scope own ∧ (∀ i ∈ own', i ∈ own.map (·.2)) ∧
      (∀ (s : Shared) (H : Hp) (C : Addr) (cl : List (Str × Addr)) (fp : List Addr), QG (X.blk s H scope (compEnvC scope cl C X.env) fp) cm own' tg t) ∧
      (∀ (s : Shared) (H : Hp) (C : Addr) (cl : List (Str × Addr)) (fp : List Addr), QC (X.blk s H scope (compEnvC scope cl C X.env) fp) cm ifs cd) ∧
      (∀ (s : Shared) (H : Hp) (C : Addr) (cl : List (Str × Addr)) (fp : List Addr), QE (X.blk s H scope (compEnvC scope cl C X.env) fp) cm elt me) ∧ (∀ x, foldedSetIterable it X.env x = pure x) ∧ BlkOk G.N sc scope own := by
  unfold cCp at h
  simp only at h
  split at h
  · rename_i hb
    have b := blkOk_by hb
    split at h
    · rename_i fi src o t cd me e1 e2 e3 e4
      split at h
      · rename_i ho
        cases h
        obtain ⟨qi, fo⟩ := cIt_ok ok k e1
        refine ⟨_, o, fi, src, cd, me, t, rfl, qi, k.blkOk b, fun i hi => of_decide_eq_true (List.all_eq_true.mp ho i hi), fun s H C cl fp => cTgt_ok (k.blk b s H C cl fp) e2, fun s H C cl fp => cCond_ok ok (k.blk b s H C cl fp) e3, fun s H C cl fp => ok.e _ scope _ elt me (k.blk b s H C cl fp) e4, fo, b⟩
      · cases h
    · cases h
  · cases h

theorem noFoldE {it : Expr} (hs : isSet it = false) : ∀ env x, foldedSetIterable it env x = pure x := fun env x => by
  cases it <;> first | rfl | cases hs
def cDcp (c : Co) (G : Cg) (sc : Scope) (fl : Nat) (kx vx tg it : Expr) (ifs : List Expr) (scope : Scope) : Option DE :=
  let own := ownOf G.N scope.names
  if blkC G.N sc scope own = true then (match cIt c G sc tg it, cTgt G scope tg, cCond c scope ifs, c.E scope 0 kx, c.E scope 0 vx with
    | some (fi, src), some (o, t), some cd, some mk, some mv => if o.all (fun i => decide (i ∈ own.map (·.2))) = true then some (eDc (fl == 1) (own.map (·.2)) t fi src cd mk mv) else none
    | _, _, _, _, _ => none)
  else none
theorem cDcp_ok (ok : c.Ok cm G) (k : CxOk X cm G sc) {fl : Nat} {kx vx tg it : Expr} {ifs : List Expr} {scope : Scope} {m : DE} (h : cDcp c G sc fl kx vx tg it ifs scope = some m) :
    ∃ (own : List (Str × Nat)) (own' : List Nat) (fi : FI) (src : List DE) (cd : Option DE) (mk mv : DE) (t : DT), m = eDc (fl == 1) (own.map (·.2)) t fi src cd mk mv ∧ QI X cm tg it fi src ∧ BlkOk X.N X.env.scope scope own ∧ (∀ i ∈ own', i ∈ own.map (·.2)) ∧
      (∀ (s : Shared) (H : Hp) (C : Addr) (cl : List (Str × Addr)) (fp : List Addr), QG (X.blk s H scope (compEnvC scope cl C X.env) fp) cm own' tg t) ∧
      (∀ (s : Shared) (H : Hp) (C : Addr) (cl : List (Str × Addr)) (fp : List Addr), QC (X.blk s H scope (compEnvC scope cl C X.env) fp) cm ifs cd) ∧
      (∀ (s : Shared) (H : Hp) (C : Addr) (cl : List (Str × Addr)) (fp : List Addr), QE (X.blk s H scope (compEnvC scope cl C X.env) fp) cm kx mk) ∧
      (∀ (s : Shared) (H : Hp) (C : Addr) (cl : List (Str × Addr)) (fp : List Addr), QE (X.blk s H scope (compEnvC scope cl C X.env) fp) cm vx mv) ∧ (∀ x, foldedSetIterable it X.env x = pure x) := by
  unfold cDcp at h
  simp only at h
  split at h
  · rename_i hb
    have b := blkOk_by hb
    split at h
    · rename_i fi src o t cd mk mv e1 e2 e3 e4 e5
      split at h
      · rename_i ho
        cases h
        obtain ⟨qi, fo⟩ := cIt_ok ok k e1
        exact ⟨_, o, fi, src, cd, mk, mv, t, rfl, qi, k.blkOk b, fun i hi => of_decide_eq_true (List.all_eq_true.mp ho i hi), fun s H C cl fp => cTgt_ok (k.blk b s H C cl fp) e2, fun s H C cl fp => cCond_ok ok (k.blk b s H C cl fp) e3, fun s H C cl fp => ok.e _ scope _ kx mk (k.blk b s H C cl fp) e4, fun s H C cl fp => ok.e _ scope _ vx mv (k.blk b s H C cl fp) e5, fo⟩
      · cases h
    · cases h
  · cases h
def cCp2 (c : Co) (G : Cg) (sc : Scope) (fl : Nat) (elt tg it : Expr) (ifs : List Expr) (tg1 it1 : Expr) (ifs1 : List Expr) (scope : Scope) : Option DE :=
  let own := ownOf G.N scope.names
  if blkC G.N sc scope own = true ∧ isSet it1 = false then (match cIt c G sc tg it, cTgt G scope tg, cCond c scope ifs, cIt c G scope tg1 it1, cTgt G scope tg1, cCond c scope ifs1, c.E scope (if fl = 2 then 1 else 0) elt with
    | some (fi, src), some (o, t), some cd, some (fi1, src1), some (o1, t1), some cd1, some me => if o.all (fun i => decide (i ∈ own.map (·.2))) = true ∧ o1.all (fun i => decide (i ∈ own.map (·.2))) = true then some (eComp2 (fl == 1) (own.map (·.2)) t fi src cd (inG o1 t1 fi1 src1 cd1 me)) else none
    | _, _, _, _, _, _, _ => none)
  else none
theorem cCp2_ok (ok : c.Ok cm G) (k : CxOk X cm G sc) {fl : Nat} {elt tg it tg1 it1 : Expr} {ifs ifs1 : List Expr} {scope : Scope} {m : DE} (h : cCp2 c G sc fl elt tg it ifs tg1 it1 ifs1 scope = some m) :
    ∃ (own : List (Str × Nat)) (own' own1 : List Nat) (fi fi1 : FI) (src src1 : List DE) (cd cd1 : Option DE) (me : DE) (t t1 : DT), m = eComp2 (fl == 1) (own.map (·.2)) t fi src cd (inG own1 t1 fi1 src1 cd1 me) ∧ QI X cm tg it fi src ∧ BlkOk X.N X.env.scope scope own ∧ (∀ i ∈ own', i ∈ own.map (·.2)) ∧ (∀ i ∈ own1, i ∈ own.map (·.2)) ∧
      (∀ (s : Shared) (H : Hp) (C : Addr) (cl : List (Str × Addr)) (fp : List Addr), QG (X.blk s H scope (compEnvC scope cl C X.env) fp) cm own' tg t) ∧
      (∀ (s : Shared) (H : Hp) (C : Addr) (cl : List (Str × Addr)) (fp : List Addr), QC (X.blk s H scope (compEnvC scope cl C X.env) fp) cm ifs cd) ∧
      (∀ (s : Shared) (H : Hp) (C : Addr) (cl : List (Str × Addr)) (fp : List Addr), QI (X.blk s H scope (compEnvC scope cl C X.env) fp) cm tg1 it1 fi1 src1) ∧
      (∀ (s : Shared) (H : Hp) (C : Addr) (cl : List (Str × Addr)) (fp : List Addr), QG (X.blk s H scope (compEnvC scope cl C X.env) fp) cm own1 tg1 t1) ∧
      (∀ (s : Shared) (H : Hp) (C : Addr) (cl : List (Str × Addr)) (fp : List Addr), QC (X.blk s H scope (compEnvC scope cl C X.env) fp) cm ifs1 cd1) ∧
      (∀ (s : Shared) (H : Hp) (C : Addr) (cl : List (Str × Addr)) (fp : List Addr), QE (X.blk s H scope (compEnvC scope cl C X.env) fp) cm elt me) ∧ (∀ x, foldedSetIterable it X.env x = pure x) ∧ (∀ env x, foldedSetIterable it1 env x = pure x) := by
  unfold cCp2 at h
  simp only at h
  split at h
  · rename_i hb
    have b := blkOk_by hb.1
    split at h
    · rename_i fi src o t cd fi1 src1 o1 t1 cd1 me e1 e2 e3 e4 e5 e6 e7
      split at h
      · rename_i ho
        cases h
        obtain ⟨qi, fo⟩ := cIt_ok ok k e1
        exact ⟨_, o, o1, fi, fi1, src, src1, cd, cd1, me, t, t1, rfl, qi, k.blkOk b, fun i hi => of_decide_eq_true (List.all_eq_true.mp ho.1 i hi), fun i hi => of_decide_eq_true (List.all_eq_true.mp ho.2 i hi), fun s H C cl fp => cTgt_ok (k.blk b s H C cl fp) e2, fun s H C cl fp => cCond_ok ok (k.blk b s H C cl fp) e3,
          fun s H C cl fp => (cIt_ok ok (k.blk b s H C cl fp) e4).1, fun s H C cl fp => cTgt_ok (k.blk b s H C cl fp) e5, fun s H C cl fp => cCond_ok ok (k.blk b s H C cl fp) e6, fun s H C cl fp => ok.e _ scope _ elt me (k.blk b s H C cl fp) e7, fo, noFoldE hb.2⟩
      · cases h
    · cases h
  · cases h

def cBool (c : Co) (sc : Scope) (f : DE → DE → DE) : List Expr → Option DE
  | [] => none
  | [e] => c.E sc 0 e
  | e :: e' :: es => (match c.E sc 0 e, cBool c sc f (e' :: es) with
    | some m, some ms => some (f m ms)
    | _, _ => none)
def cBoolT (c : Co) (sc : Scope) (f : DE → DE → DE) : List Expr → Option DE
  | [] => none
  | [e] => c.T sc e
  | e :: e' :: es => (match c.T sc e, cBoolT c sc f (e' :: es) with
    | some m, some ms => some (f m ms)
    | _, _ => none)
theorem cBool_and (ok : c.Ok cm G) (k : CxOk X cm G sc) {pos : Pos} : ∀ {es : List Expr} {m : DE}, cBool c sc eAnd es = some m → QE X cm (.BoolOp .And es pos) m
  | [], _, h => by cases h
  | [e], m, h => q_one (ok.e X sc 0 e m k h)
  | e :: e' :: es, m, h => by
    unfold cBool at h
    split at h
    · rename_i m1 m2 e1 e2
      cases h
      exact q_and (ok.e X sc 0 e m1 k e1) (cBool_and ok k e2)
    · cases h
theorem cBool_or (ok : c.Ok cm G) (k : CxOk X cm G sc) {pos : Pos} : ∀ {es : List Expr} {m : DE}, cBool c sc eOr es = some m → QE X cm (.BoolOp .Or es pos) m
  | [], _, h => by cases h
  | [e], m, h => q_one (ok.e X sc 0 e m k h)
  | e :: e' :: es, m, h => by
    unfold cBool at h
    split at h
    · rename_i m1 m2 e1 e2
      cases h
      exact q_or (ok.e X sc 0 e m1 k e1) (cBool_or ok k e2)
    · cases h
theorem cBoolT_and (ok : c.Ok cm G) (k : CxOk X cm G sc) {pos : Pos} : ∀ {es : List Expr} {m : DE}, cBoolT c sc eAnd es = some m → QW X cm (.BoolOp .And es pos) m
  | [], _, h => by cases h
  | [e], m, h => qw_and1 (ok.t X sc e m k h)
  | e :: e' :: es, m, h => by
    unfold cBoolT at h
    split at h
    · rename_i m1 m2 e1 e2
      cases h
      exact qw_and (ok.t X sc e m1 k e1) (cBoolT_and ok k e2)
    · cases h
theorem cBoolT_or (ok : c.Ok cm G) (k : CxOk X cm G sc) {pos : Pos} : ∀ {es : List Expr} {m : DE}, cBoolT c sc eOr es = some m → QW X cm (.BoolOp .Or es pos) m
  | [], _, h => by cases h
  | [e], m, h => qw_or1 (ok.t X sc e m k h)
  | e :: e' :: es, m, h => by
    unfold cBoolT at h
    split at h
    · rename_i m1 m2 e1 e2
      cases h
      exact qw_or (ok.t X sc e m1 k e1) (cBoolT_or ok k e2)
    · cases h
def stepE (G : Cg) (c : Co) (sc : Scope) (fl : Nat) : Expr → Option DE
  | .Constant v _ _ => (cConst v).map eK
  | .Name x _ => cName G sc x
  | .BinOp a op b _ => (match binG G (fl == 1) op, c.E sc (if fl = 2 then 2 else 0) a, c.E sc (if fl = 2 then 2 else 0) b with
    | some g, some ma, some mb => some (e2 g ma mb)
    | _, _, _ => none)
  | .UnaryOp .USub a _ => (c.E sc 0 a).map (e1 pNeg)
  | .UnaryOp .Not a _ => (c.E sc 0 a).map eNot
  | .BoolOp .And es _ => cBool c sc eAnd es
  | .BoolOp .Or es _ => cBool c sc eOr es
  | .Compare a [op] [b] _ => if isSet b = true then none else (match cmpG G op, c.E sc 0 a, c.E sc 0 b with
    | some g, some ma, some mb => some (e2 g ma mb)
    | _, _, _ => none)
  | .Compare a [op, op'] [b, d] _ => if isSet d = true then none else (match cmpG G op, cmpG G op', c.E sc 0 a, c.E sc 0 b, c.E sc 0 d with
    | some g, some g', some ma, some mb, some md => some (eChain g g' ma mb md)
    | _, _, _, _, _ => none)
  | .IfExp t a b _ => (match c.T sc t, c.E sc fl a, c.E sc fl b with
    | some mt, some ma, some mb => some (eIf mt ma mb)
    | _, _, _ => none)
  | .Call (.Name x _) es [] _ => if x = "isinstance" then cIsi c G sc x es else if x = "sum" ∧ (cSumV c G sc x es).isSome = true then cSumV c G sc x es else if x = "list" ∧ (cLRg c G sc fl x es).isSome = true then cLRg c G sc fl x es else if x = "len" ∧ (cLenSet c G sc x es).isSome = true then cLenSet c G sc x es else if x = "sorted" ∧ (cSortSet c G sc fl x es).isSome = true then cSortSet c G sc fl x es else cCall c G sc fl x es
  | .Call (.Attribute o x apos) es [] pos => cMeth c G sc fl o x (apos.endLine == pos.line) es
  | .Attribute o f _ => if isSup o = true then none else (match G.T.lookup (":" ++ f), c.E sc 0 o with
    | some (.fld f' cs), some mo => if f' = f then some (e1 (pFld cs f) mo) else none
    | some (.fle f' cs), some mo => if f' = f then some (e1 (pFle cs f) mo) else none
    | _, _ => none)
  | .Call (.Name x _) [] (kw :: kws) _ => cCallK c G sc fl x (kw :: kws)
  | .Call (.Call a b d q) (y :: ys) [] _ => (match G.T.lookup ("()" : Str), c.E sc 0 (.Call a b d q), cArgs c sc [] (y :: ys) with
    | some (.cal cl f n), some mo, some ms => if ms.length + 1 = n then some (eCallO cl f mo ms) else none
    | _, _, _ => none)
  | .List es _ => (cArgs c sc (List.replicate es.length (if fl = 2 then 1 else 0)) es).map (eLst (fl == 1))
  | .Tuple es _ _ => (cArgs c sc (List.replicate es.length (if fl = 2 then 1 else 0)) es).map eTup
  | .Dict [] [] _ => some (eDic (fl == 1 || fl == 3) (fl == 3))
  | .Dict [some kx] [vx] _ => (match c.E sc 0 kx, c.E sc 0 vx with
    | some mk, some mv => some (eDic1 (fl == 1) mk mv)
    | _, _ => none)
  | .Subscript a b _ => cSub c sc fl a b
  | .ListComp elt [⟨tg, it, ifs, 0⟩] scope _ => cCp c G sc fl elt tg it ifs scope
  | .ListComp elt [⟨tg, it, ifs, 0⟩, ⟨tg1, it1, ifs1, 0⟩] scope _ => cCp2 c G sc fl elt tg it ifs tg1 it1 ifs1 scope
  | .DictComp kx vx [⟨tg, it, ifs, 0⟩] scope _ => cDcp c G sc fl kx vx tg it ifs scope
  | _ => none
def plainT : Expr → Bool
  | .Name _ _ | .Call _ _ _ _ | .Subscript _ _ _ | .Attribute _ _ _ => true
  | _ => false
def stepT (G : Cg) (c : Co) (sc : Scope) : Expr → Option DE
  | .UnaryOp .Not a _ => (c.T sc a).map eNot
  | .BoolOp .And es _ => cBoolT c sc eAnd es
  | .BoolOp .Or es _ => cBoolT c sc eOr es
  | .Compare a [op] [b] _ => if isSet b = true then none else (match cmpG G op, c.E sc 0 a, c.E sc 0 b with
    | some g, some ma, some mb => some (e2 g ma mb)
    | _, _, _ => none)
  | .Compare a [op, op'] [b, d] _ => if isSet d = true then none else (match cmpG G op, cmpG G op', c.E sc 0 a, c.E sc 0 b, c.E sc 0 d with
    | some g, some g', some ma, some mb, some md => some (eChain g g' ma mb md)
    | _, _, _, _, _ => none)
  | e => if plainT e = true then c.E sc 0 e else none
def step (G : Cg) (c : Co) : Co := ⟨stepE G c, stepT G c⟩
theorem stepE_ok (ok : c.Ok cm G) (k : CxOk X cm G sc) {fl : Nat} {e : Expr} {m : DE} (h : stepE G c sc fl e = some m) : QE X cm e m := by
  unfold stepE at h
  split at h
  · obtain ⟨w, e1, rfl⟩ := Option.map_eq_some_iff.mp h
    exact cConst_ok e1
  · exact cName_ok k h
  · split at h
    · rename_i g ma mb e1 e2 e3
      cases h
      obtain ⟨r, ho, hk⟩ := binG_ok k e1
      exact q_bin ho hk (ok.e X sc _ _ ma k e2) (ok.e X sc _ _ mb k e3)
    · cases h
  · obtain ⟨m', e1, rfl⟩ := Option.map_eq_some_iff.mp h
    exact q_un un_neg ok_neg (ok.e X sc 0 _ m' k e1)
  · obtain ⟨m', e1, rfl⟩ := Option.map_eq_some_iff.mp h
    exact q_not (ok.e X sc 0 _ m' k e1)
  · exact cBool_and ok k h
  · exact cBool_or ok k h
  · split at h
    · cases h
    · rename_i hs
      split at h
      · rename_i g ma mb e1 e2 e3
        cases h
        obtain ⟨r, ho, hk, _⟩ := cmpG_ok k e1
        exact q_cmp ho hk (ok.e X sc 0 _ ma k e2) (ok.e X sc 0 _ mb k e3) (noSet (Bool.eq_false_iff.mpr hs))
      · cases h
  · split at h
    · cases h
    · rename_i hs
      split at h
      · rename_i g g' ma mb md e1 e2 e3 e4 e5
        cases h
        obtain ⟨r, ho, hk, _⟩ := cmpG_ok k e1
        obtain ⟨r', ho', hk', _⟩ := cmpG_ok k e2
        exact q_chain ho ho' hk hk' (ok.e X sc 0 _ ma k e3) (ok.e X sc 0 _ mb k e4) (ok.e X sc 0 _ md k e5) (noSetL (Bool.eq_false_iff.mpr hs))
      · cases h
  · split at h
    · rename_i mt ma mb e1 e2 e3
      cases h
      exact q_if (ok.t X sc _ mt k e1) (ok.e X sc fl _ ma k e2) (ok.e X sc fl _ mb k e3)
    · cases h
  · split at h
    · exact cIsi_ok ok k h
    · split at h
      · exact cSumV_ok ok k h
      · split at h
        · exact cLRg_ok ok k h
        · split at h
          · exact cLenSet_ok ok k h
          · split at h
            · exact cSortSet_ok ok k h
            · exact cCall_ok ok k h
  · exact cMeth_ok ok k h
  · split at h
    · cases h
    · rename_i hs
      split at h
      · rename_i f' cs mo e1 e2
        split at h
        · rename_i hf
          subst hf
          cases h
          exact q_fld (k.tb _ _ e1) (ok.e X sc 0 _ mo k e2) (noSup (Bool.eq_false_iff.mpr hs))
        · cases h
      · rename_i f' cs mo e1 e2
        split at h
        · rename_i hf
          subst hf
          cases h
          exact q_fle (k.tb _ _ e1) (ok.e X sc 0 _ mo k e2) (noSup (Bool.eq_false_iff.mpr hs))
        · cases h
      · cases h
  · exact cCallK_ok ok k h
  · rename_i a b d q y ys pos
    split at h
    · rename_i cl f n mo ms eT e1 ea
      split at h
      · rename_i hn
        cases h
        obtain ⟨a1, a2, a3⟩ := cArgs_ok ok k ea
        obtain ⟨fA, fd, ps, lv, co, F, hr, b0⟩ := k.tb _ _ eT
        have hst : starEach (y :: ys) X.env = (false, eval y X.env) :: starEach ys X.env := starE (a3 y List.mem_cons_self)
        have hpl : (backTo pos (starEach ys X.env)).any (·.1) = false := by
          have := a2 pos
          rw [hst] at this
          exact (Bool.or_eq_false_iff.mp (show (false || (backTo pos (starEach ys X.env)).any (·.1)) = false from this)).2
        exact q_callO co F hr k.gd b0 hn (ok.e X sc 0 _ mo k e1) a1 rfl hst hpl
      · cases h
    · cases h
  · obtain ⟨ms, e1, rfl⟩ := Option.map_eq_some_iff.mp h
    exact q_lst (cArgs_ok ok k e1).1
  · obtain ⟨ms, e1, rfl⟩ := Option.map_eq_some_iff.mp h
    exact q_tup (cArgs_ok ok k e1).1
  · cases h; exact q_dic
  · split at h
    · rename_i mk mv e1 e2
      cases h
      exact q_dic1 (ok.e X sc 0 _ mk k e1) (ok.e X sc 0 _ mv k e2)
    · cases h
  · exact cSub_ok ok k h
  · obtain ⟨own, own', fi, src, cd, me, t, rfl, h1, h2, h3, h4, h5, h6, h7, _⟩ := cCp_ok ok k h
    exact q_comp k.calm k.hd h1 h2 h3 h4 h5 h6 h7
  · obtain ⟨own, own', own1, fi, fi1, src, src1, cd, cd1, me, t, t1, rfl, h1, h2, h3, h4, h5, h6, h7, h8, h9, h10, h11, h12⟩ := cCp2_ok ok k h
    exact q_comp2 k.calm k.hd h1 h2 h3 (fun i hi => hi) h4 h5 h6 h7 h8 h9 h10 h11 h12
  · obtain ⟨own, own', fi, src, cd, mk, mv, t, rfl, h1, h2, h3, h4, h5, h6, h7, h8⟩ := cDcp_ok ok k h
    exact q_dcomp k.calm k.hd h1 h2 h3 h4 h5 h6 h7 h8
  · cases h
theorem stepT_ok (ok : c.Ok cm G) (k : CxOk X cm G sc) {e : Expr} {m : DE} (h : stepT G c sc e = some m) : QT X cm e m := by
  unfold stepT at h
  split at h
  · obtain ⟨m', e1, rfl⟩ := Option.map_eq_some_iff.mp h
    exact qt_not (ok.t X sc _ m' k e1)
  · exact (cBoolT_and ok k h).pt
  · exact (cBoolT_or ok k h).pt
  · split at h
    · cases h
    · rename_i hs
      split at h
      · rename_i g ma mb e1 e2 e3
        cases h
        obtain ⟨r, ho, hk, hb⟩ := cmpG_ok k e1
        exact qt_cmp ho hk hb (ok.e X sc 0 _ ma k e2) (ok.e X sc 0 _ mb k e3) (noSet (Bool.eq_false_iff.mpr hs))
      · cases h
  · split at h
    · cases h
    · rename_i hs
      split at h
      · rename_i g g' ma mb md e1 e2 e3 e4 e5
        cases h
        obtain ⟨r, ho, hk, _⟩ := cmpG_ok k e1
        obtain ⟨r', ho', hk', hb'⟩ := cmpG_ok k e2
        exact qt_chain ho ho' hk hk' hb' (ok.e X sc 0 _ ma k e3) (ok.e X sc 0 _ mb k e4) (ok.e X sc 0 _ md k e5) (noSetL (Bool.eq_false_iff.mpr hs))
      · cases h
  · split at h
    · rename_i hp
      refine qt_truth (ok.e X sc 0 _ m k h) fun wh => ?_
      cases e <;> first | rfl | cases hp
    · cases h
def cAt (G : Cg) : Nat → Co
  | 0 => ⟨fun _ _ _ => none, fun _ _ => none⟩
  | n + 1 => step G (cAt G n)
theorem cAt_ok (cm : Cm) (G : Cg) : ∀ n, (cAt G n).Ok cm G
  | 0 => ⟨fun _ _ _ _ _ _ h => by (cases h), fun _ _ _ _ _ h => by (cases h)⟩
  | n + 1 => ⟨fun X sc fl x m k h => stepE_ok (cAt_ok cm G n) k h, fun X sc x m k h => stepT_ok (cAt_ok cm G n) k h⟩
end
end Ti


namespace Ti
open PySem PySem.Spec PyProof.Rows L2

def isCpr : Expr → Bool
  | .ListComp _ _ _ _ | .SetComp _ _ _ _ | .DictComp _ _ _ _ _ => true
  | _ => false
theorem sw_non {e : Expr} {t : Option Expr} {l : Nat} {env : PySem.Env} (h : isCpr e = false) : swapsWith e t l env = pure false := by
  cases e <;> first | rfl | cases h
theorem sw_sole {e t : Expr} {l : Nat} {env : PySem.Env} (h : isCpr e = false) : swapsWithSole [t] e l env = pure false := sw_non h
def notNm : Expr → Bool
  | .Name _ _ => false
  | _ => true
theorem sw_tgt {e t : Expr} {l : Nat} {env : PySem.Env} (h : notNm t = true) : swapsWith e (some t) l env = pure false := by
  unfold swapsWith
  cases e <;> first | rfl | (cases t <;> first | rfl | cases h)
def swNo (sc : Scope) (x : Str) (px pos : Pos) (scope : Scope) : Bool := !(sc.names.lookup x == some .local && px.line == pos.line && !(scope.names.any fun (n, k) => n == x && (k == .local || k == .cell)))
theorem sw_cp {elt : Expr} {gs : List Comprehension} {scope : Scope} {pos px : Pos} {x : Str} {l : Nat} {env : PySem.Env} (hk : env.scope.kind = .function) (h : swNo env.scope x px pos scope = true) : swapsWith (.ListComp elt gs scope pos) (some (.Name x px)) l env = pure false := by
  have hb : env.blockKind = .function := by unfold PySem.Env.blockKind; rw [hk]; rfl
  have h : (env.kindOf x == some .local && px.line == pos.line && !(scope.names.any fun (n, k) => n == x && (k == .local || k == .cell))) = false := by
    have : (!(env.kindOf x == some .local && px.line == pos.line && !(scope.names.any fun (n, k) => n == x && (k == .local || k == .cell)))) = true := h
    rw [Bool.not_eq_true'] at this
    exact this
  unfold swapsWith
  show pure (env.blockKind == .function && env.kindOf x == some .local && px.line == pos.line && !(scope.names.any fun (n, k) => n == x && (k == .local || k == .cell))) = (pure false : Sem Bool)
  rw [hb]
  show pure (true && env.kindOf x == some .local && px.line == pos.line && !(scope.names.any fun (n, k) => n == x && (k == .local || k == .cell))) = (pure false : Sem Bool)
  rw [Bool.true_and, h]
theorem sw_cpD {kx vx : Expr} {gs : List Comprehension} {scope : Scope} {pos px : Pos} {x : Str} {l : Nat} {env : PySem.Env} (hk : env.scope.kind = .function) (h : swNo env.scope x px pos scope = true) : swapsWith (.DictComp kx vx gs scope pos) (some (.Name x px)) l env = pure false := by
  have hb : env.blockKind = .function := by unfold PySem.Env.blockKind; rw [hk]; rfl
  have h : (env.kindOf x == some .local && px.line == pos.line && !(scope.names.any fun (n, k) => n == x && (k == .local || k == .cell))) = false := by
    have : (!(env.kindOf x == some .local && px.line == pos.line && !(scope.names.any fun (n, k) => n == x && (k == .local || k == .cell)))) = true := h
    rw [Bool.not_eq_true'] at this
    exact this
  unfold swapsWith
  show pure (env.blockKind == .function && env.kindOf x == some .local && px.line == pos.line && !(scope.names.any fun (n, k) => n == x && (k == .local || k == .cell))) = (pure false : Sem Bool)
  rw [hb]
  show pure (true && env.kindOf x == some .local && px.line == pos.line && !(scope.names.any fun (n, k) => n == x && (k == .local || k == .cell))) = (pure false : Sem Bool)
  rw [Bool.true_and, h]
def swO (sc : Scope) (ts vs : List Expr) : Option (Option (List Str)) :=
  if (!(ts.length == 2 || ts.length == 3) || vs.length != ts.length) = true then some none
  else if (vs.any fun | .Starred .. => true | _ => false) = true then some none
  else
    let line := (ts.head?.map (·.pos.line)).getD 0
    let names := ts.filterMap fun
      | .Name id pos => if sc.names.lookup id == some .local && pos.line == line then some id else none
      | _ => none
    if (names.length != ts.length || names.eraseDups.length != names.length) = true then some none
    else if vs.all (foldedForSure 8) = true then some none
    else if vs.all (constantsAlone 8) = true then none
    else some (some names)
theorem swO_ok {ts vs : List Expr} {k k2} {p p2 : Pos} {env : PySem.Env} {r : Option (List Str)} (hk : env.scope.kind = .function) (h : swO env.scope ts vs = some r) : swappedStores [.Tuple ts k p] (.Tuple vs k2 p2) env = pure r := by
  have hb : (env.blockKind != .function) = false := by unfold PySem.Env.blockKind; rw [hk]; rfl
  have kd : ∀ x, env.kindOf x = env.scope.names.lookup x := fun _ => rfl
  unfold swO at h
  unfold swappedStores
  simp only [hb, kd, Bool.or_false] at h ⊢
  split at h
  · rename_i c
    cases h
    exact if_pos c
  · rename_i c
    refine (if_neg c).trans ?_
    split at h
    · rename_i c2
      cases h
      exact if_pos c2
    · rename_i c2
      refine (if_neg c2).trans ?_
      split at h
      · rename_i c3
        cases h
        exact if_pos c3
      · rename_i c3
        refine (if_neg c3).trans ?_
        split at h
        · rename_i c4
          cases h
          exact if_pos c4
        · rename_i c4
          refine (if_neg c4).trans ?_
          split at h
          · cases h
          · rename_i c5
            cases h
            exact if_neg c5
def isTup : Expr → Bool
  | .Tuple _ _ _ => true
  | _ => false
theorem sw_notTup {ts : List Expr} {k} {p : Pos} {e : Expr} {env : PySem.Env} (h : isTup e = false) : swappedStores [.Tuple ts k p] e env = pure none := by
  cases e <;> first | rfl | cases h
end Ti


namespace Ti
open PySem PySem.Spec PyProof.Rows L2
def sLstApp (i : Nat) (ms : List DE) (me : DE) : DS := fun ρ h => (eL ms ρ h).bind fun p => (eL [me] (ρ.set i none) p.2).bind fun q => if p.1.length < lineW ∧ i < ρ.length then .ok (.nx, ρ.set i (some (.lst (p.1 ++ q.1))), q.2) else .bad
section
variable {K : PySem.W.Frag} {cm : Cm} {mu : List Addr} {Z H : Hp} {h : Hh}
theorem RelH.lay (r : RelH K cm mu Z H h) {a : Addr} {o o0 : HO} (e : H a = some o0) (z : Z a = none) (m : a ∉ mu) (hz : ZIn (L2.upd H a o) a o) (t0 : Tame o0) (t1 : Tame o) : RelH K cm mu (L2.upd Z a o) (L2.upd H a o) h := by
  have le : Le Z (L2.upd Z a o) := fun b u q => by
    rw [upd_ne (show b ≠ a from fun w => by rw [w, z] at q; cases q)]
    exact q
  have tb1 := r.tb.upd (o := o) (.some e t0) fun hm => absurd hm m
  refine ⟨r.len, r.nd, fun b u q => ?_, fun b hb => ?_, fun i b c hm hc => ?_, tb1.frz (.some upd_same t1) t1⟩
  · by_cases ba : b = a
    · subst ba
      rw [upd_same] at q
      cases q
      exact hz
    · rw [upd_ne ba] at q
      exact (r.zh b u q).upd ba
  · by_cases ba : b = a
    · exact absurd (ba ▸ hb) m
    · rw [upd_ne ba]; exact r.mh b hb
  · have ba : b ≠ a := fun w => m (w ▸ List.mem_of_getElem? hm)
    exact (r.cell i b c hm hc).mono le (fun w => by rw [upd_ne ba]; exact w) fun u _ q => by rw [upd_ne ba]; exact q
variable {X : Cx}
theorem lapp_core {i : Nat} {ms : List DE} {me : DE} {mu : List Addr} {Z H : Hp} {ρ ρ' : Env} {h h' : Hh} {f : Fl} {σ : L2.St} (r : RelH X.K cm mu Z H h) (s : Sl X.K cm mu Z ρ σ) (ev : sLstApp i ms me ρ h = .ok (f, ρ', h')) :
    f = .nx ∧ ∀ (N : L2.St → Hp → Prop), (∀ mu' Z' H', Ext mu Z H mu' Z' H' → RelH X.K cm mu' Z' H' h' → ∀ σ', Sl X.K cm mu' Z' ρ' σ' → N σ' H') → ∀ rt bk ct, tAsg (tLst (tOL X.K cm ms)) (gName i) { nx := tDrop (tBM X.K "list" rAppend (tVar i) (tOL X.K cm [me])) { nx := N, rt := rt, bk := bk, ct := ct }, rt := rt, bk := bk, ct := ct } σ H := by
  obtain ⟨p, e1, ev⟩ := Res.bind_eq_ok ev
  obtain ⟨q, e2, ev⟩ := Res.bind_eq_ok ev
  split at ev
  · rename_i hl
    cases ev
    refine ⟨rfl, fun N po rt bk ct => ?_⟩
    refine ⟨mu, Z, ρ, h, p.1, p.2, r, s, e1, fun mu1 Z1 H1 vs x1 r1 w1 => ⟨?_, fun a na => ?_⟩⟩
    · have := w1.length
      have hl : p.1.length < sizeLine := hl.1
      omega
    have am1 := r1.mfree na
    have az1 := r1.zfree na
    obtain ⟨r2, x2⟩ := r1.newO (o := .lst vs) na
    have il : i < σ.length := by rw [← s.len]; exact hl.2
    have s2 : Sl X.K cm mu1 Z1 (ρ.set i none) (σ.set i (some (.ref a))) := by
      have s1 := s.ext x1
      refine ⟨by rw [List.length_set, List.length_set]; exact s1.len, fun l w el => ?_⟩
      by_cases li : i = l
      · subst li
        rw [List.getElem?_set_self hl.2] at el
        cases el
      · rw [List.getElem?_set_ne li] at el ⊢
        exact s1.at_ l w el
    show tBM X.K "list" rAppend (tVar i) (tOL X.K cm [me]) (σ.set i (some (.ref a))) (upd H1 a (.lst vs)) _
    refine ⟨.ref a, List.getElem?_set_self il, .inl ⟨rfl, vs, SqL.of upd_same⟩, ?_⟩
    refine ⟨mu1, Z1, ρ.set i none, p.2, q.1, q.2, r2, s2, e2, fun mu3 Z3 H3 us x3 r3 w3 => ?_⟩
    have h3 : H3 a = some (.lst vs) := x3.fr a _ am1 az1 upd_same fun ps z => by cases z
    have am3 : a ∉ mu3 := fun hm => by
      rcases x3.nm a hm with z | z
      · exact am1 z
      · rw [upd_same] at z; cases z
    have az3 : Z3 a = none := Classical.byContradiction fun z => by
      rcases x3.nz a z with z | z | z
      · exact z az1
      · exact am1 z
      · rw [upd_same] at z; cases z
    have lq : q.1.length = 1 := eL_length e2
    obtain ⟨w, ew⟩ : ∃ w, q.1 = [w] := List.length_eq_one_iff.mp lq
    rw [ew] at w3
    obtain ⟨y, _, rfl, wy, rn⟩ := w3
    cases rn
    refine ⟨a, vs, y, rfl, rfl, h3, by rw [w1.length]; exact hl.1, ?_⟩
    have r4 := r3.lay (o := .lst (vs ++ [y])) h3 az3 am3 upd_same ⟨fun _ z => (by cases z), fun _ z => (by cases z)⟩ ⟨fun _ z => (by cases z), fun _ z => (by cases z)⟩
    have le : Le Z3 (L2.upd Z3 a (.lst (vs ++ [y]))) := fun b u q => by
      rw [upd_ne (show b ≠ a from fun w => by rw [w, az3] at q; cases q)]
      exact q
    have x4 := (x1.trans x2).trans x3
    have Ha : H a = none := by
      cases z : H a with
      | none => rfl
      | some u => exact absurd na (x1.th a u (fun hm => am1 (by
          obtain ⟨j, e⟩ := List.mem_iff_getElem?.mp hm
          exact List.mem_of_getElem? (x1.m j a e))) z)
    have xe : Ext mu Z H mu3 (L2.upd Z3 a (.lst (vs ++ [y]))) (L2.upd H3 a (.lst (vs ++ [y]))) := by
      have ne : ∀ {b : Addr} {u : HO}, H b = some u → b ≠ a := fun {b u} q z => by rw [z, Ha] at q; cases q
      refine ⟨x4.m, fun b u z => le b u (x4.z b u z), fun b u m z e t => ?_, fun b u m e => ?_, x4.nm, fun b z => ?_, fun b o' u e => ?_⟩
      · rw [upd_ne (ne e)]; exact x4.fr b u m z e t
      · rw [upd_ne (ne e)]; exact x4.th b u m e
      · by_cases ba : b = a
        · rw [ba]; exact .inr (.inr Ha)
        · rw [upd_ne ba] at z; exact x4.nz b z
      · rw [upd_ne (ne e)]; exact x4.fz b o' u e
    refine po _ _ _ xe r4 _ ⟨?_, fun l w' el => ?_⟩
    · rw [List.length_set, List.length_set]; exact s.len
    · by_cases li : i = l
      · subst li
        rw [List.getElem?_set_self hl.2] at el
        cases el
        refine ⟨.ref a, List.getElem?_set_self il, a, vs ++ [y], rfl, upd_same, ?_⟩
        rw [ew]
        exact RWs.append ((w1.mono (x2.trans x3).z (x2.trans x3).m).mono le fun _ _ q => q) ⟨y, [], rfl, wy.mono le fun _ _ q => q, rfl⟩
      · rw [List.getElem?_set_ne li] at el ⊢
        obtain ⟨v, g1, g2⟩ := s.at_ l w' el
        exact ⟨v, g1, (g2.mono x4.z x4.m).mono le fun _ _ q => q⟩
  · cases ev
theorem qss_lapp {i : Nat} {x : Str} {es : List Expr} {e : Expr} {ms : List DE} {me : DE} {p1 p2 pos1 p3 apos cpos pos2 : Pos} (hN : X.N.Nodup) (hi : X.N[i]? = some x) (hlx : X.env.kindOf x = some .local) (hd : (x == ("__debug__" : Str)) = false) (hcd : (x == ("__classdict__" : Str)) = false)
    (h1 : QL X cm es ms) (h2 : QL X cm [e] [me]) (hline : (apos.endLine == cpos.line) = true) (hs : starEach [e] X.env = (false, eval e X.env) :: starEach [] X.env)
    (hfew : ((backTo cpos (starEach [e] X.env)).all (fun x => !x.1) && (backToKw cpos (keywordEach [] X.env)).all (fun x => x.1.isSome) && decide (([e] : List Expr).length + ([] : List Keyword).length + (if ([] : List Keyword).isEmpty then 0 else 1) < 30)) = true) :
    QSs X cm [.Assign [.Name x p1] (.List es p2) pos1, .Expr (.Call (.Attribute (.Name x p3) "append" apos) [e] [] cpos) pos2] (sLstApp i ms me) := by
  have q1 := ps_set (pos' := p1) (pos := pos1) hN hi (.inl hlx) (pe_lst (pos := p2) h1) rfl (.inr hlx)
  have q2 := pe_bm (cpos := cpos) (apos := apos) (name := "append") (T := "list") PySem.F.plainAttrs_list PySem.F.slot_list_append PySem.F.type_list_append mt_append (pe_var (X := X) (x := x) (pos := p3) hi (.inl hlx) hd hcd) h2 rfl hfew hline hs rfl
  refine PSs.wk (pss_cons q1 (pss_one (ps_expr (pos := pos2) q2 rfl))) fun D σ H t => ?_
  obtain ⟨mu, Z, ρ, h, f, ρ', h', r, s, ev, po⟩ := t
  obtain ⟨rfl, k⟩ := lapp_core r s ev
  exact k D.nx po _ _ _
theorem qss_lappC {rest : List Stmt} {mr : DS} {i : Nat} {x : Str} {es : List Expr} {e : Expr} {ms : List DE} {me : DE} {p1 p2 pos1 p3 apos cpos pos2 : Pos} (hN : X.N.Nodup) (hi : X.N[i]? = some x) (hlx : X.env.kindOf x = some .local) (hd : (x == ("__debug__" : Str)) = false) (hcd : (x == ("__classdict__" : Str)) = false)
    (h1 : QL X cm es ms) (h2 : QL X cm [e] [me]) (hline : (apos.endLine == cpos.line) = true) (hs : starEach [e] X.env = (false, eval e X.env) :: starEach [] X.env)
    (hfew : ((backTo cpos (starEach [e] X.env)).all (fun x => !x.1) && (backToKw cpos (keywordEach [] X.env)).all (fun x => x.1.isSome) && decide (([e] : List Expr).length + ([] : List Keyword).length + (if ([] : List Keyword).isEmpty then 0 else 1) < 30)) = true) (hr : QSs X cm rest mr) :
    QSs X cm (.Assign [.Name x p1] (.List es p2) pos1 :: .Expr (.Call (.Attribute (.Name x p3) "append" apos) [e] [] cpos) pos2 :: rest) (sCons (sLstApp i ms me) mr) := by
  have q1 := ps_set (pos' := p1) (pos := pos1) hN hi (.inl hlx) (pe_lst (pos := p2) h1) rfl (.inr hlx)
  have q2 := pe_bm (cpos := cpos) (apos := apos) (name := "append") (T := "list") PySem.F.plainAttrs_list PySem.F.slot_list_append PySem.F.type_list_append mt_append (pe_var (X := X) (x := x) (pos := p3) hi (.inl hlx) hd hcd) h2 rfl hfew hline hs rfl
  refine PSs.wk (pss_cons q1 (pss_cons (ps_expr (pos := pos2) q2 rfl) hr)) fun D σ H t => ?_
  obtain ⟨mu, Z, ρ, h, f, ρ', h', r, s, ev, po⟩ := t
  obtain ⟨⟨f1, ρ1, h1⟩, ev1, ev2⟩ := Res.bind_eq_ok ev
  obtain ⟨rfl, k⟩ := lapp_core r s ev1
  exact k _ (fun mu' Z' H' x r' σ' s' => ⟨mu', Z', ρ1, h1, f, ρ', h', r', s', ev2, po.ext x⟩) _ _ _
end
end Ti


namespace Ti
open PySem PySem.Spec PyProof.Rows L2
section
variable {X : Cx} {cm : Cm} {G : Cg} {sc : Scope} {c : Co}

theorem qs_par {i j : Nat} {x y : Str} {a b : Expr} {ms : List DE} {px py pt pos : Pos} {kt k2 pt2} (hc : X.calm = true) (hN : X.N.Nodup) (hi : X.N[i]? = some x) (hj : X.N[j]? = some y) (hij : i ≠ j)
    (hx : X.env.scope.names.lookup x = some .local) (hy : X.env.scope.names.lookup y = some .local) (ha : QL X cm [a, b] ms)
    (hw : swappedStores [.Tuple [.Name x px, .Name y py] kt pt] (.Tuple [a, b] k2 pt2) X.env = pure (some [x, y])) :
    QS X cm (.Assign [.Tuple [.Name x px, .Name y py] kt pt] (.Tuple [a, b] k2 pt2) pos) (sAsg (tT [tN i, tN j]) (eTup ms)) := by
  refine PS.wk (ps_par hc hN hi hj hij hx hy ha hw rfl) fun D σ H q => ?_
  obtain ⟨mu, Z, ρ, h, f, ρ', h', rl, s, e, p⟩ := q
  obtain ⟨q, e1, e⟩ := Res.bind_eq_ok e
  obtain ⟨q2, e2, e⟩ := Res.bind_eq_ok e
  cases e
  obtain ⟨q3, e3, e1⟩ := Res.bind_eq_ok e1
  split at e1
  · cases e1
    refine ⟨mu, Z, ρ, h, q3.1, q3.2, rl, s, e3, fun mu1 Z1 H1 vs x1 r1 w1 => ?_⟩
    obtain ⟨ws, h1⟩ := q3
    match ws, e2, w1 with
    | [u1, u2], e2, w1 =>
      cases e2
      obtain ⟨v1, v2, rfl, k1, k2⟩ := w1.two
      exact ⟨v1, v2, rfl, p _ _ _ x1 r1 _ (((s.ext x1).set i k1).set j k2)⟩
  · cases e1
theorem qs_par3 {i j l : Nat} {x y z : Str} {a b d : Expr} {ms : List DE} {px py pz pt pos : Pos} {kt k2 pt2} (hc : X.calm = true) (hN : X.N.Nodup) (hi : X.N[i]? = some x) (hj : X.N[j]? = some y) (hl : X.N[l]? = some z) (hij : i ≠ j) (hil : i ≠ l) (hjl : j ≠ l)
    (hx : X.env.scope.names.lookup x = some .local) (hy : X.env.scope.names.lookup y = some .local) (hz : X.env.scope.names.lookup z = some .local) (ha : QL X cm [a, b, d] ms)
    (hw : swappedStores [.Tuple [.Name x px, .Name y py, .Name z pz] kt pt] (.Tuple [a, b, d] k2 pt2) X.env = pure (some [x, y, z])) :
    QS X cm (.Assign [.Tuple [.Name x px, .Name y py, .Name z pz] kt pt] (.Tuple [a, b, d] k2 pt2) pos) (sAsg (tT [tN i, tN j, tN l]) (eTup ms)) := by
  refine PS.wk (ps_par3 hc hN hi hj hl hij hil hjl hx hy hz ha hw rfl) fun D σ H q => ?_
  obtain ⟨mu, Z, ρ, h, f, ρ', h', rl, s, e, p⟩ := q
  obtain ⟨q, e1, e⟩ := Res.bind_eq_ok e
  obtain ⟨q2, e2, e⟩ := Res.bind_eq_ok e
  cases e
  obtain ⟨q3, e3, e1⟩ := Res.bind_eq_ok e1
  split at e1
  · cases e1
    refine ⟨mu, Z, ρ, h, q3.1, q3.2, rl, s, e3, fun mu1 Z1 H1 vs x1 r1 w1 => ?_⟩
    obtain ⟨ws, h1⟩ := q3
    match ws, e2, w1 with
    | [u1, u2, u3], e2, w1 =>
      cases e2
      obtain ⟨v1, r, rfl, k1, w1⟩ := w1
      obtain ⟨v2, v3, rfl, k2, k3⟩ := w1.two
      exact ⟨v1, v2, v3, rfl, p _ _ _ x1 r1 _ ((((s.ext x1).set i k1).set j k2).set l k3)⟩
  · cases e1

def cAsgN (G : Cg) (sc : Scope) (c : Co) (fl i : Nat) (x : Str) (px : Pos) : Expr → Option DS
  | .ListComp elt [⟨tg, it, ifs, 0⟩] scope p2 => if swNo sc x px p2 scope = true then (c.E sc fl (.ListComp elt [⟨tg, it, ifs, 0⟩] scope p2)).map (sAsg (tN i))
      else if sc.names.lookup x = some .local then (cCp c G sc fl elt tg it ifs scope).map (sAsg (tN i)) else none
  | .ListComp elt [⟨tg, it, ifs, 0⟩, ⟨tg1, it1, ifs1, 0⟩] scope p2 => if swNo sc x px p2 scope = true then (c.E sc fl (.ListComp elt [⟨tg, it, ifs, 0⟩, ⟨tg1, it1, ifs1, 0⟩] scope p2)).map (sAsg (tN i))
      else if sc.names.lookup x = some .local then (cCp2 c G sc fl elt tg it ifs tg1 it1 ifs1 scope).map (sAsg (tN i)) else none
  | .DictComp kx vx [⟨tg, it, ifs, 0⟩] scope p2 => if swNo sc x px p2 scope = true then (c.E sc fl (.DictComp kx vx [⟨tg, it, ifs, 0⟩] scope p2)).map (sAsg (tN i))
      else if sc.names.lookup x = some .local then (cDcp c G sc fl kx vx tg it ifs scope).map (sAsg (tN i)) else none
  | e => if isCpr e = true then none else (c.E sc fl e).map (sAsg (tN i))
theorem cAsgN_ok (ok : c.Ok cm G) (k : CxOk X cm G sc) (he : X.env.scope = sc) {fl i : Nat} {x : Str} {px pos : Pos} {e : Expr} {m : DS} (hi : ixOf G.N x = some i) (hx : sc.names.lookup x = some .local ∨ sc.names.lookup x = some .cell) (h : cAsgN G sc c fl i x px e = some m) : QS X cm (.Assign [.Name x px] e pos) m := by
  have hN : X.N[i]? = some x := by rw [k.N]; exact ixOf_ok hi
  have hl : Loc X.env.scope x := by rw [he]; exact hx
  have hf : X.fn x = true ∨ X.env.scope.names.lookup x = some .local := by
    rcases hx with hx | hx
    · exact .inr (k.loc x hx)
    · exact .inl (k.cel x hx).2
  unfold cAsgN at h
  split at h
  · rename_i elt tg it ifs scope p2
    split at h
    · rename_i hs
      obtain ⟨m', e1, rfl⟩ := Option.map_eq_some_iff.mp h
      exact qs_set k.hd hN hl (ok.e X sc fl _ m' k e1) (sw_cp k.knd (by rw [he]; exact hs)) hf
    · rename_i hs
      have hs := Bool.eq_false_iff.mpr hs
      split at h
      · rename_i hx
        obtain ⟨m', e1, rfl⟩ := Option.map_eq_some_iff.mp h
        obtain ⟨own, own', fi, src, cd, me, t, rfl, h1, h2, h3, h4, h5, h6, h7, _⟩ := cCp_ok ok k e1
        have hs : (sc.names.lookup x == some .local && px.line == p2.line && !(scope.names.any fun (n, k) => n == x && (k == .local || k == .cell))) = true := by
          have := hs
          unfold swNo at this
          rw [Bool.not_eq_false'] at this
          exact this
        rw [Bool.and_eq_true, Bool.and_eq_true, Bool.not_eq_true'] at hs
        exact qs_setLc k.calm k.hd hN (k.loc x hx) (sw_true k.knd (k.loc x hx) hs.1.2 hs.2) h1 h2 h3 h4 h5 h6 h7
      · cases h
  · rename_i elt tg it ifs tg1 it1 ifs1 scope p2
    split at h
    · rename_i hs
      obtain ⟨m', e1, rfl⟩ := Option.map_eq_some_iff.mp h
      exact qs_set k.hd hN hl (ok.e X sc fl _ m' k e1) (sw_cp k.knd (by rw [he]; exact hs)) hf
    · rename_i hs
      have hs := Bool.eq_false_iff.mpr hs
      split at h
      · rename_i hx
        obtain ⟨m', e1, rfl⟩ := Option.map_eq_some_iff.mp h
        have hs : (sc.names.lookup x == some .local && px.line == p2.line && !(scope.names.any fun (n, k) => n == x && (k == .local || k == .cell))) = true := by
          have := hs
          unfold swNo at this
          rw [Bool.not_eq_false'] at this
          exact this
        rw [Bool.and_eq_true, Bool.and_eq_true, Bool.not_eq_true'] at hs
        obtain ⟨own, own', own1, fi, fi1, src, src1, cd, cd1, me, t, t1, rfl, h1, h2, h3, h4, h5, h6, h7, h8, h9, h10, h11, h12⟩ := cCp2_ok ok k e1
        exact qs_setLc2 k.calm k.hd hN (k.loc x hx) (sw_true k.knd (k.loc x hx) hs.1.2 hs.2) h1 h2 h3 (fun i hi => hi) h4 h5 h6 h7 h8 h9 h10 h11 h12
      · cases h
  · rename_i kx vx tg it ifs scope p2
    split at h
    · rename_i hs
      obtain ⟨m', e1, rfl⟩ := Option.map_eq_some_iff.mp h
      exact qs_set k.hd hN hl (ok.e X sc fl _ m' k e1) (sw_cpD k.knd (by rw [he]; exact hs)) hf
    · rename_i hs
      have hs := Bool.eq_false_iff.mpr hs
      split at h
      · rename_i hx
        obtain ⟨m', e1, rfl⟩ := Option.map_eq_some_iff.mp h
        have hs : (sc.names.lookup x == some .local && px.line == p2.line && !(scope.names.any fun (n, k) => n == x && (k == .local || k == .cell))) = true := by
          have := hs
          unfold swNo at this
          rw [Bool.not_eq_false'] at this
          exact this
        rw [Bool.and_eq_true, Bool.and_eq_true, Bool.not_eq_true'] at hs
        obtain ⟨own, own', fi, src, cd, mk, mv, t, rfl, h1, h2, h3, h4, h5, h6, h7, h8⟩ := cDcp_ok ok k e1
        exact qs_setDc k.calm k.hd hN (k.loc x hx) (sw_trueD k.knd (k.loc x hx) hs.1.2 hs.2) h1 h2 h3 h4 h5 h6 h7 h8
      · cases h
  · split at h
    · cases h
    · rename_i hs
      obtain ⟨m', e1, rfl⟩ := Option.map_eq_some_iff.mp h
      exact qs_set k.hd hN hl (ok.e X sc fl _ m' k e1) (sw_non (Bool.eq_false_iff.mpr hs)) hf
def cPar (G : Cg) (sc : Scope) (c : Co) (M : List Nat) (ts vs : List Expr) (xs : List Str) : Option DS := match ts, vs, xs with
  | [.Name x _, .Name y _], [a, b], [x', y'] => (match ixOf G.N x, ixOf G.N y with
      | some i, some j => if x' = x ∧ y' = y ∧ i ≠ j ∧ sc.names.lookup x = some .local ∧ sc.names.lookup y = some .local then (cArgs c sc [M.getD i 0, M.getD j 0] [a, b]).map fun ms => sAsg (tT [tN i, tN j]) (eTup ms) else none
      | _, _ => none)
  | [.Name x _, .Name y _, .Name z _], [a, b, d], [x', y', z'] => (match ixOf G.N x, ixOf G.N y, ixOf G.N z with
      | some i, some j, some l => if x' = x ∧ y' = y ∧ z' = z ∧ i ≠ j ∧ i ≠ l ∧ j ≠ l ∧ sc.names.lookup x = some .local ∧ sc.names.lookup y = some .local ∧ sc.names.lookup z = some .local then (cArgs c sc [M.getD i 0, M.getD j 0, M.getD l 0] [a, b, d]).map fun ms => sAsg (tT [tN i, tN j, tN l]) (eTup ms) else none
      | _, _, _ => none)
  | _, _, _ => none
theorem cPar_ok (ok : c.Ok cm G) (k : CxOk X cm G sc) (he : X.env.scope = sc) {M : List Nat} {ts vs : List Expr} {xs : List Str} {kt k2} {p p2 pos : Pos} {m : DS} (hw : swO sc ts vs = some (some xs)) (h : cPar G sc c M ts vs xs = some m) : QS X cm (.Assign [.Tuple ts kt p] (.Tuple vs k2 p2) pos) m := by
  have hw : swappedStores [.Tuple ts kt p] (.Tuple vs k2 p2) X.env = pure (some xs) := swO_ok k.knd (by rw [he]; exact hw)
  unfold cPar at h
  split at h
  · split at h
    · rename_i i j e1 e2
      split at h
      · rename_i hq
        obtain ⟨rfl, rfl, h1, h2, h3⟩ := hq
        obtain ⟨ms, e3, rfl⟩ := Option.map_eq_some_iff.mp h
        exact qs_par k.calm k.hd (by rw [k.N]; exact ixOf_ok e1) (by rw [k.N]; exact ixOf_ok e2) h1 (k.loc _ h2) (k.loc _ h3) (cArgs_ok ok k e3).1 hw
      · cases h
    · cases h
  · split at h
    · rename_i i j l e1 e2 e4
      split at h
      · rename_i hq
        obtain ⟨rfl, rfl, rfl, h1, h2, h3, h4, h5, h6⟩ := hq
        obtain ⟨ms, e3, rfl⟩ := Option.map_eq_some_iff.mp h
        exact qs_par3 k.calm k.hd (by rw [k.N]; exact ixOf_ok e1) (by rw [k.N]; exact ixOf_ok e2) (by rw [k.N]; exact ixOf_ok e4) h1 h2 h3 (k.loc _ h4) (k.loc _ h5) (k.loc _ h6) (cArgs_ok ok k e3).1 hw
      · cases h
    · cases h
  · cases h
def tgFl (G : Cg) (M : List Nat) (ts : List Expr) : List Nat := ts.map fun | .Name x _ => (match ixOf G.N x with | some i => if M.getD i 0 = 4 ∨ M.getD i 0 = 5 then 1 else M.getD i 0 | none => 0) | _ => 0
def fl4 (f : Nat) : Nat := if f = 4 ∨ f = 5 then 1 else f
def frzOf (G : Cg) (M : List Nat) : Expr → Option Nat
  | .Call (.Attribute (.Name x _) "append" _) _ _ _ => (match ixOf G.N x with
      | some i => if M.getD i 0 = 4 then some i else none
      | none => none)
  | _ => none
def fiv (G : Cg) (M : List Nat) (x : Str) : Option Nat := match ixOf G.N x with
  | some i => if M.getD i 0 = 5 then some i else none
  | none => none
def fivE (G : Cg) (M : List Nat) : Expr → Option Nat
  | .Name x _ => fiv G M x
  | .IfExp _ (.Name x _) _ _ => fiv G M x
  | .Tuple (.Name x _ :: _) _ _ => fiv G M x
  | .Tuple (_ :: .Name x _ :: _) _ _ => fiv G M x
  | _ => none
def frzB (G : Cg) (M : List Nat) : Expr → Option Nat
  | .Call (.Attribute _ "append" _) [e] _ _ => fivE G M e
  | _ => none
def preF (o : Option Nat) (m : DS) : DS := match o with
  | some i => sCons (sFrz i) m
  | none => m
theorem preF_ok {X : Cx} {cm : Cm} {st : Stmt} {m : DS} {o : Option Nat} (q : QS X cm st m) : QS X cm st (preF o m) := by
  cases o with
  | none => exact q
  | some i => exact qs_frzB q
def tS (mo mi : DE) : DT := fun w ρ h => (mo ρ h).bind fun p => (mi ρ p.2).bind fun q => (pSet p.1 q.1 w q.2).bind fun r => .ok (ρ, r.2)
theorem qg_sub {X : Cx} {cm : Cm} {o i : Expr} {mo mi : DE} {tpos : Pos} (hu : X.A.units + 65 < cLine) (ho : QE X cm o mo) (hi : QE X cm i mi) (hq : isSlice i = false) : QG X cm [] (.Subscript o i tpos) (tS mo mi) := by
  refine PG.wk (pg_sub ho hi (set_X (by omega)) (fun v => by cases i <;> first | rfl | cases hq)) fun v σ H Q q => ?_
  obtain ⟨mu, Z, ρ, h, w, ρ', h', rl, s, rw_, e, f⟩ := q
  obtain ⟨q2, e2, e⟩ := Res.bind_eq_ok e
  obtain ⟨q3, e3, e⟩ := Res.bind_eq_ok e
  obtain ⟨q4, e4, e⟩ := Res.bind_eq_ok e
  cases e
  refine ⟨mu, Z, ρ, h, q2.1, q2.2, rl, s, e2, fun mu2 Z2 H2 v2 x2 r2 w2 => ?_⟩
  refine ⟨mu2, Z2, ρ, q2.2, q3.1, q3.2, r2, s.ext x2, e3, fun mu3 Z3 H3 v3 x3 r3 w3 => ?_⟩
  refine ok_set r3 (w2.mono x3.z x3.m) w3 ((rw_.mono x2.z x2.m).mono x3.z x3.m) e4 fun mu4 Z4 H4 x4 r4 => ?_
  have x := x2.trans (x3.trans x4)
  exact f _ _ _ σ x r4 (s.ext x) fun vs _ => rfl
def cTwo (G : Cg) (sc : Scope) (c : Co) (o1 i1 o2 i2 : Expr) (q1 q2 : Pos) (vs : List Expr) : Option DS :=
  if isSlice i1 = true ∨ isSlice i2 = true then none else match swO sc [.Subscript o1 i1 q1, .Subscript o2 i2 q2] vs, c.E sc 0 o1, c.E sc 0 i1, c.E sc 0 o2, c.E sc 0 i2, cArgs c sc [] vs with
    | some none, some a1, some b1, some a2, some b2, some ms => some (sAsg (tT [tS a1 b1, tS a2 b2]) (eTup ms))
    | _, _, _, _, _, _ => none
theorem cTwo_ok {G : Cg} {sc : Scope} {c : Co} {X : Cx} {cm : Cm} (ok : c.Ok cm G) (k : CxOk X cm G sc) (he : X.env.scope = sc) {o1 i1 o2 i2 : Expr} {q1 q2 p p2 pos : Pos} {kt k2} {vs : List Expr} {m : DS} (h : cTwo G sc c o1 i1 o2 i2 q1 q2 vs = some m) : QS X cm (.Assign [.Tuple [.Subscript o1 i1 q1, .Subscript o2 i2 q2] kt p] (.Tuple vs k2 p2) pos) m := by
  unfold cTwo at h
  split at h
  · cases h
  · rename_i hn
    rw [not_or] at hn
    split at h
    · rename_i a1 b1 a2 b2 ms hw e1 e2 e3 e4 e5
      cases h
      have g1 := qg_sub (tpos := q1) k.un (ok.e X sc 0 _ a1 k e1) (ok.e X sc 0 _ b1 k e2) (Bool.eq_false_iff.mpr hn.1)
      have g2 := qg_sub (tpos := q2) k.un (ok.e X sc 0 _ a2 k e3) (ok.e X sc 0 _ b2 k e4) (Bool.eq_false_iff.mpr hn.2)
      exact qs_asg (q_tup (cArgs_ok ok k e5).1) (qg_tup k.calm (qgs_cons g1 (qgs_cons g2 qgs_nil rfl) rfl) rfl rfl) (sw_sole rfl) (swO_ok k.knd (by rw [he]; exact hw)) rfl
    · cases h
def cAsgT (G : Cg) (sc : Scope) (c : Co) (M : List Nat) (ts : List Expr) : Expr → Option DS
  | .Tuple vs k2 p2 => (match swO sc ts vs with
      | some none => (match cTgs G sc ts, cArgs c sc (tgFl G M ts) vs with
          | some p, some ms => some (sAsg (tT p.2) (eTup ms))
          | _, _ => none)
      | some (some xs) => cPar G sc c M ts vs xs
      | none => none)
  | e => if isCpr e = true ∨ isTup e = true then none else (match cTgs G sc ts, c.E sc (if (tgFl G M ts).any (fun f => f == 1) then 2 else 0) e with
          | some p, some m => some (sAsg (tT p.2) m)
          | _, _ => none)
theorem cAsgT_ok (ok : c.Ok cm G) (k : CxOk X cm G sc) (he : X.env.scope = sc) {M : List Nat} {ts : List Expr} {e : Expr} {kt} {p pos : Pos} {m : DS} (h : cAsgT G sc c M ts e = some m) : QS X cm (.Assign [.Tuple ts kt p] e pos) m := by
  have tg : ∀ {q : List Nat × List DT}, cTgs G sc ts = some q → QG X cm q.1 (.Tuple ts kt p) (tT q.2) := fun {q} e1 => by
    obtain ⟨gs, l, fi⟩ := cTgs_ok (o := q.1) (ts := q.2) k e1
    exact qg_tup k.calm gs l fi
  unfold cAsgT at h
  split at h
  · split at h
    · rename_i hw
      split at h
      · rename_i q m' e1 e2
        cases h
        exact qs_asg (q_tup (cArgs_ok ok k e2).1) (tg e1) (sw_sole rfl) (swO_ok k.knd (by rw [he]; exact hw)) rfl
      · cases h
    · rename_i xs hw
      exact cPar_ok ok k he hw h
    · cases h
  · split at h
    · cases h
    · rename_i hn
      rw [not_or] at hn
      split at h
      · rename_i q m' e1 e2
        cases h
        exact qs_asg (ok.e X sc _ _ m' k e2) (tg e1) (sw_sole (Bool.eq_false_iff.mpr hn.1)) (sw_notTup (Bool.eq_false_iff.mpr hn.2)) rfl
      · cases h
def cSt (G : Cg) (sc : Scope) (c : Co) (M : List Nat) (rf : Nat) (rec : List Stmt → Option DS) : Stmt → Option DS
  | .Pass _ => some sPass
  | .Break _ => some sBrk
  | .Continue _ => some sCnt
  | .Expr e _ => if isCpr e = true then none else (match frzOf G M e with
      | some i => (c.E sc 0 e).map fun m => sCons (sE m) (sFrz i)
      | none => (c.E sc 0 e).map fun m => preF (frzB G M e) (sE m))
  | .Return (some e) _ => (c.E sc rf e).map sRet
  | .Return none _ => some sRetN
  | .If t a b _ => (match c.T sc t, rec a, rec b with
      | some mt, some ma, some mb => some (sIf mt ma mb)
      | _, _, _ => none)
  | .While t b [] _ => (match c.T sc t, rec b with
      | some mt, some mb => some (sWhile mt mb)
      | _, _ => none)
  | .For tg it b [] _ => (match cIt c G sc tg it, cTgt G sc tg, rec b with
      | some (fi, src), some (_, t), some mb => some (sFor t fi src mb)
      | _, _, _ => none)
  | .Raise _ _ _ => some sNev
  | .Assign [.Attribute o f _] e _ => if isSup o = true then none else (match G.T.lookup (":" ++ f), c.E sc 0 o, c.E sc 0 e with
    | some (.fld f' cs), some mo, some me => if f' = f then some (sSetF (pSetF cs f) mo me) else none
    | _, _, _ => none)
  | .Assign [.Name x px] e _ => (match ixOf G.N x with
      | some i => if sc.names.lookup x = some .local ∨ sc.names.lookup x = some .cell then cAsgN G sc c (fl4 (M.getD i 0)) i x px e else none
      | none => none)
  | .Assign [.Tuple [.Subscript o1 i1 q1, .Subscript o2 i2 q2] _ _] (.Tuple vs _ _) _ => cTwo G sc c o1 i1 o2 i2 q1 q2 vs
  | .Assign [.Tuple ts _ _] e _ => cAsgT G sc c M ts e
  | .Assign [.Subscript o i _] e _ => if isSlice i = true ∨ isCpr e = true then none else (match c.E sc 0 o, c.E sc 0 i, c.E sc 0 e with
      | some mo, some mi, some me => some (sSet pSet mo mi me)
      | _, _, _ => none)
  | _ => none
theorem cSt_ok (ok : c.Ok cm G) (k : CxOk X cm G sc) (he : X.env.scope = sc) {M : List Nat} {rf : Nat} {rec : List Stmt → Option DS} (hr : ∀ b m, rec b = some m → QSs X cm b m) {st : Stmt} {m : DS} (h : cSt G sc c M rf rec st = some m) : QS X cm st m := by
  unfold cSt at h
  split at h
  · cases h; exact qs_pass
  · cases h; exact qs_brk
  · cases h; exact qs_cnt
  · split at h
    · cases h
    · rename_i hs
      split at h
      · obtain ⟨m', e1, rfl⟩ := Option.map_eq_some_iff.mp h
        exact qs_frz (qs_expr (ok.e X sc 0 _ m' k e1) (sw_non (Bool.eq_false_iff.mpr hs)))
      · obtain ⟨m', e1, rfl⟩ := Option.map_eq_some_iff.mp h
        exact preF_ok (qs_expr (ok.e X sc 0 _ m' k e1) (sw_non (Bool.eq_false_iff.mpr hs)))
  · obtain ⟨m', e1, rfl⟩ := Option.map_eq_some_iff.mp h
    exact qs_ret (ok.e X sc rf _ m' k e1)
  · cases h; exact qs_retN
  · split at h
    · rename_i mt ma mb e1 e2 e3
      cases h
      exact qs_if (ok.t X sc _ mt k e1) (hr _ _ e2) (hr _ _ e3)
    · cases h
  · split at h
    · rename_i mt mb e1 e2
      cases h
      exact qs_while k.pass (ok.t X sc _ mt k e1) (hr _ _ e2)
    · cases h
  · split at h
    · rename_i fi src o t mb e1 e2 e3
      cases h
      obtain ⟨qi, fo⟩ := cIt_ok ok k e1
      exact qs_for k.pass k.calm qi (cTgt_ok k e2) (hr _ _ e3) fo
    · cases h
  · cases h; exact qs_nev
  · split at h
    · cases h
    · split at h
      · rename_i f' cs mo me e1 e2 e3
        split at h
        · rename_i hf
          subst hf
          cases h
          exact qs_setF (k.tb _ _ e1) (ok.e X sc 0 _ mo k e2) (ok.e X sc 0 _ me k e3) (sw_tgt rfl)
        · cases h
      · cases h
  · split at h
    · rename_i i hi
      split at h
      · rename_i hx
        exact cAsgN_ok ok k he hi hx h
      · cases h
    · cases h
  · exact cTwo_ok ok k he h
  · exact cAsgT_ok ok k he h
  · rename_i o i tpos e pos'
    split at h
    · cases h
    · rename_i hn
      rw [not_or] at hn
      split at h
      · rename_i mo mi me e1 e2 e3
        cases h
        refine qs_setItem k.un (ok.e X sc 0 _ mo k e1) (ok.e X sc 0 _ mi k e2) (ok.e X sc 0 _ me k e3) (sw_sole (Bool.eq_false_iff.mpr hn.2)) ?_ ?_
        · cases e <;> rfl
        · intro v
          have hq : isSlice i = false := Bool.eq_false_iff.mpr hn.1
          cases i <;> first | rfl | cases hq
      · cases h
  · cases h
def cPair (G : Cg) (sc : Scope) (c : Co) (M : List Nat) : Stmt → Stmt → Option DS
  | .Assign [.Name x _] (.List es _) _, .Expr (.Call (.Attribute (.Name y _) a apos) [e] [] cpos) _ => (match ixOf G.N x with
    | some i => if M.getD i 0 = 6 ∧ y = x ∧ a = "append" ∧ (apos.endLine == cpos.line) = true ∧ sc.names.lookup x = some .local ∧ (x == ("__debug__" : Str)) = false ∧ (x == ("__classdict__" : Str)) = false then (match cArgs c sc (List.replicate es.length 1) es, cArgs c sc [1] [e] with
      | some ms, some [me] => some (sLstApp i ms me)
      | _, _ => none) else none
    | none => none)
  | _, _ => none
def cSs (g : Stmt → Stmt → Option DS) (f : Stmt → Option DS) : List Stmt → Option DS
  | [] => some sNil
  | [s] => f s
  | s :: t :: r => (match g s t with
    | some a => (match r with
      | [] => some a
      | _ :: _ => (match cSs g f r with
        | some b => some (sCons a b)
        | none => none))
    | none => (match f s, cSs g f (t :: r) with
      | some a, some b => some (sCons a b)
      | _, _ => none))
theorem cPair_ok (ok : c.Ok cm G) (k : CxOk X cm G sc) {M : List Nat} {s t : Stmt} {m : DS} (h : cPair G sc c M s t = some m) : QSs X cm [s, t] m ∧ ∀ rest mr, QSs X cm rest mr → QSs X cm (s :: t :: rest) (sCons m mr) := by
  unfold cPair at h
  split at h
  · split at h
    · rename_i i ei
      split at h
      · rename_i hx
        obtain ⟨_, rfl, rfl, h1, h2, h3, h4⟩ := hx
        split at h
        · rename_i ms me ea eb
          cases h
          obtain ⟨a1, a2, a3⟩ := cArgs_ok ok k ea
          obtain ⟨b1, b2, b3⟩ := cArgs_ok ok k eb
          have hN := ixOf_ok ei
          rw [← k.N] at hN
          have hst := starE (env := X.env) (es := []) (b3 _ List.mem_cons_self)
          have few := fun pos => cArgs_all (env := X.env) b3 pos
          refine ⟨qss_lapp k.hd hN (k.loc _ h2) h3 h4 a1 b1 h1 hst ?_, fun rest mr hr => qss_lappC k.hd hN (k.loc _ h2) h3 h4 a1 b1 h1 hst ?_ hr⟩
          all_goals
            rw [few]
            rfl
        · cases h
      · cases h
    · cases h
  · cases h
theorem cSs_ok {g : Stmt → Stmt → Option DS} {f : Stmt → Option DS} (hg : ∀ s t m, g s t = some m → QSs X cm [s, t] m ∧ ∀ rest mr, QSs X cm rest mr → QSs X cm (s :: t :: rest) (sCons m mr)) (hf : ∀ s m, f s = some m → QS X cm s m) : ∀ {l : List Stmt} {m : DS}, cSs g f l = some m → QSs X cm l m
  | [], _, h => by cases h; exact qs_nil
  | [s], m, h => qs_one (hf s m h)
  | s :: t :: r, m, h => by
    unfold cSs at h
    split at h
    · rename_i a ea
      split at h
      · cases h
        exact (hg s t _ ea).1
      · split at h
        · rename_i b eb
          cases h
          exact (hg s t _ ea).2 _ _ (cSs_ok hg hf eb)
        · cases h
    · split at h
      · rename_i a b e1 e2
        cases h
        exact qs_cons (hf s a e1) (cSs_ok hg hf e2)
      · cases h
def cAtS (G : Cg) (sc : Scope) (c : Co) (M : List Nat) (rf : Nat) : Nat → List Stmt → Option DS
  | 0 => fun _ => none
  | n + 1 => cSs (cPair G sc c M) (cSt G sc c M rf (cAtS G sc c M rf n))
theorem cAtS_ok (ok : c.Ok cm G) (k : CxOk X cm G sc) (he : X.env.scope = sc) {M : List Nat} {rf : Nat} : ∀ (n : Nat) {l : List Stmt} {m : DS}, cAtS G sc c M rf n l = some m → QSs X cm l m
  | 0, _, _, h => by cases h
  | n + 1, l, m, h => cSs_ok (fun s t m' h' => cPair_ok ok k h') (fun s m' h' => cSt_ok ok k he (fun b m2 h2 => cAtS_ok ok k he n h2) h') h
end

def cBody (G : Cg) (sc : Scope) (M : List Nat) (rf : Nat) (body : List Stmt) : Option DS := cAtS G sc (cAt G 40) M rf 20 body
section
variable {P : Program} {w : World} {K : PySem.W.Frag} {mg : Str → Option Value} {base : Heap} {cm : Cm}
def EntG (P : Program) (w : World) (K : PySem.W.Frag) (mg : Str → Option Value) (base : Heap) (cm : Cm) (k : Nat) (x : Str) : Ent → Prop
  | .con w => ∃ u v, mg x = some u ∧ RelV v u ∧ plainK w v = true
  | .fn f ps nd _ => ∃ fA fd, mg x = some (.ref fA) ∧ PySem.W.keepIn K (.ref fA) = true ∧ FnG P w K mg base CX0 k fA fd ps (spRun K cm ps.length f) ∧ Binds K fd ps [] ∧ (nd = 1 → Binds K fd ps [.none])
  | .kwd y f n ks ix _ => ∃ fA fd ps, mg y = some (.ref fA) ∧ PySem.W.keepIn K (.ref fA) = true ∧ FnG P w K mg base CX0 k fA fd ps (spRun K cm n f) ∧ KwB K fd ps ks (permU ix) (permV ix)
  | .cls c f n => ∃ fA fd ps j, j + 1 ≤ k ∧ Mk K (cm c) fA ∧ mg x = some (.ref (cm c)) ∧ FnG P w K mg base CX0 j fA fd ps (spRun K cm n f) ∧ Binds K fd ps []
  | .met m c f n _ => ∃ fA fd ps, Cls K (cm c) ∧ Meth K (cm c) m fA ∧ FnG P w K mg base CX0 k fA fd ps (spRun K cm n f) ∧ Binds K fd ps []
  | .cal c f n => ∃ fA fd ps, StX.CallO K (cm c) fA ∧ FnG P w K mg base CX0 k fA fd ps (spRun K cm n f) ∧ Binds K fd ps []
  | .fld f cs => ∀ c ∈ cs, Cls K (cm c) ∧ NoAttr K (cm c) f
  | .isc y c => mg y = some (.ref (cm c)) ∧ IsiC K (cm c)
  | .eqo c f => ∃ fA fd ps j, j + 1 ≤ k ∧ EqC K (cm c) fA ∧ FnG P w K mg base CX0 j fA fd ps (spRun K cm 2 f) ∧ Binds K fd ps []
  | .clk y c f n ks ix => ∃ fA fd ps j, j + 1 ≤ k ∧ Mk K (cm c) fA ∧ mg y = some (.ref (cm c)) ∧ FnG P w K mg base CX0 j fA fd ps (spRun K cm n f) ∧ KwI K fd ps ks (permU ix) (permV ix)
  | .cak c f n ks ix => ∃ fA fd ps, StX.CallO K (cm c) fA ∧ FnG P w K mg base CX0 k fA fd ps (spRun K cm n f) ∧ KwI K fd ps ks (permU ix) (permV ix)
  | .ado c f => ∃ fA fd ps, Meth K (cm c) "__add__" fA ∧ PySem.W.selfFirst K (cm c) = true ∧ FnG P w K mg base CX0 k fA fd ps (spRun K cm 2 f) ∧ Binds K fd ps []
  | .lno c f => ∃ fA fd ps j, j + 1 ≤ k ∧ Meth K (cm c) "__len__" fA ∧ FnG P w K mg base CX0 j fA fd ps (spRun K cm 1 f) ∧ Binds K fd ps []
  | .ise y c ans objs => mg y = some (.ref (cm c)) ∧ IseC K cm c ans objs
  | .fle f cs => ∀ c ∈ cs, ErrC K (cm c) ∧ PySem.W.findIn K (.ref (cm c)) f = some none
  | .exn y c fld => ∃ fI fd ps j, j + 1 ≤ k ∧ mg y = some (.ref (cm c)) ∧ OexC K (cm c) ∧ PySem.W.findIn K (.ref (cm c)) "__init__" = some (some (.ref fI)) ∧ PySem.W.typeIn K (.ref fI) = some (.type "function") ∧
      PySem.W.findIn K (.ref (cm c)) fld = some none ∧ FnOk P w K mg base CX0 j fI fd ps (spIni K fld) ∧ Binds K fd ps []
  | .iso cs => ∀ c ∈ cs, IsiO K (cm c)
  | .erp c fld => ∃ fI fd ps j, j + 1 ≤ k ∧ mg x = some (.ref (cm c)) ∧ OexC K (cm c) ∧ PySem.W.findIn K (.ref (cm c)) "__init__" = some (some (.ref fI)) ∧ PySem.W.typeIn K (.ref fI) = some (.type "function") ∧
      PySem.W.findIn K (.ref (cm c)) fld = some none ∧ FnOk P w K mg base CX0 j fI fd ps (spIni K fld) ∧ ps.length = 2 ∧ Binds K fd ps [] ∧ Binds K fd ps [.none]
  | .erk y c fld ks => ∃ fI fd ps j, j + 1 ≤ k ∧ mg y = some (.ref (cm c)) ∧ OexC K (cm c) ∧ PySem.W.findIn K (.ref (cm c)) "__init__" = some (some (.ref fI)) ∧ PySem.W.typeIn K (.ref fI) = some (.type "function") ∧
      PySem.W.findIn K (.ref (cm c)) fld = some none ∧ FnOk P w K mg base CX0 j fI fd ps (spIni K fld) ∧ ks.length = 1 ∧ KwI K fd ps ks (permU [0]) (permV [0])
  | .ern c => mg x = some (.ref (cm c)) ∧ PySem.W.keepIn K (.ref (cm c)) = true ∧ PySem.W.excIn K (cm c) [.type "ValueError", .type "Exception", .type "BaseException", .type "object"] "ValueError.__new__" = true
  | .isv cs => ∀ c ∈ cs, ErrC K (cm c) ∧ PySem.W.kitOne K (.ref (cm c)) (.type "ValueError") = some true
  | .afl _ => True
  | .smd => smB K = true
  | .clx y c f n => ∃ fA fd ps j, j + 1 ≤ k ∧ Mk K (cm c) fA ∧ mg y = some (.ref (cm c)) ∧ FnG P w K mg base (L2.CX P w) j fA fd ps (spRunX K cm n f) ∧ Binds K fd ps []
  | .cax c f n => ∃ fA fd ps, StX.CallO K (cm c) fA ∧ FnG P w K mg base (L2.CX P w) k fA fd ps (spRunX K cm n f) ∧ Binds K fd ps []
  | .adx c f => ∃ fA fd ps, Meth K (cm c) "__add__" fA ∧ PySem.W.selfFirst K (cm c) = true ∧ AddC K (cm c) ∧ FnG P w K mg base (L2.CX P w) k fA fd ps (spRunX K cm 2 f) ∧ Binds K fd ps []
  | .fnx y f n nd => ∃ fA fd ps, mg y = some (.ref fA) ∧ PySem.W.keepIn K (.ref fA) = true ∧ FnG P w K mg base (L2.CX P w) k fA fd ps (spRunX K cm n f) ∧ Binds K fd ps [] ∧ (nd = 1 → Binds K fd ps [.none])
def Tb (P : Program) (w : World) (K : PySem.W.Frag) (mg : Str → Option Value) (base : Heap) (cm : Cm) (k : Nat) (T : List (Str × Ent)) : Prop := ∀ x en, T.lookup x = some en → EntG P w K mg base cm k x en
theorem EntG.mono {j k : Nat} (h : j ≤ k) {x : Str} {en : Ent} (e : EntG P w K mg base cm j x en) : EntG P w K mg base cm k x en := by
  cases en with
  | con w => exact e
  | fn f ps nd cl =>
    obtain ⟨fA, fd, h1, h2, h3, h4, h5⟩ := e
    exact ⟨fA, fd, h1, h2, h3.mono h, h4, h5⟩
  | kwd y f n ks ix cl =>
    obtain ⟨fA, fd, ps, h1, h2, h3, h4⟩ := e
    exact ⟨fA, fd, ps, h1, h2, h3.mono h, h4⟩
  | cls c f n =>
    obtain ⟨fA, fd, ps, i, h0, h1, h2, h3, h4⟩ := e
    exact ⟨fA, fd, ps, i, Nat.le_trans h0 h, h1, h2, h3, h4⟩
  | met m c f n cl =>
    obtain ⟨fA, fd, ps, h1, h2, h3, h4⟩ := e
    exact ⟨fA, fd, ps, h1, h2, h3.mono h, h4⟩
  | cal c f n =>
    obtain ⟨fA, fd, ps, h1, h3, h4⟩ := e
    exact ⟨fA, fd, ps, h1, h3.mono h, h4⟩
  | fld f cs => exact e
  | isc y c => exact e
  | eqo c f =>
    obtain ⟨fA, fd, ps, i, h0, h1, h3, h4⟩ := e
    exact ⟨fA, fd, ps, i, Nat.le_trans h0 h, h1, h3, h4⟩
  | clk y c f n ks ix =>
    obtain ⟨fA, fd, ps, i, h0, h1, h2, h3, h4⟩ := e
    exact ⟨fA, fd, ps, i, Nat.le_trans h0 h, h1, h2, h3, h4⟩
  | cak c f n ks ix =>
    obtain ⟨fA, fd, ps, h1, h3, h4⟩ := e
    exact ⟨fA, fd, ps, h1, h3.mono h, h4⟩
  | ado c f =>
    obtain ⟨fA, fd, ps, h1, h2, h3, h4⟩ := e
    exact ⟨fA, fd, ps, h1, h2, h3.mono h, h4⟩
  | lno c f =>
    obtain ⟨fA, fd, ps, i, h0, h1, h3, h4⟩ := e
    exact ⟨fA, fd, ps, i, Nat.le_trans h0 h, h1, h3, h4⟩
  | ise y c a o => exact e
  | fle f cs => exact e
  | exn y c f =>
    obtain ⟨fA, fd, ps, i, h0, h1⟩ := e
    exact ⟨fA, fd, ps, i, Nat.le_trans h0 h, h1⟩
  | smd => exact e
  | erp c f =>
    obtain ⟨fA, fd, ps, i, h0, h1⟩ := e
    exact ⟨fA, fd, ps, i, Nat.le_trans h0 h, h1⟩
  | erk y c f ks =>
    obtain ⟨fA, fd, ps, i, h0, h1⟩ := e
    exact ⟨fA, fd, ps, i, Nat.le_trans h0 h, h1⟩
  | ern c => exact e
  | isv cs => exact e
  | clx y c f n =>
    obtain ⟨fA, fd, ps, i, h0, h1, h2, h3, h4⟩ := e
    exact ⟨fA, fd, ps, i, Nat.le_trans h0 h, h1, h2, h3, h4⟩
  | cax c f n =>
    obtain ⟨fA, fd, ps, h1, h3, h4⟩ := e
    exact ⟨fA, fd, ps, h1, h3.mono h, h4⟩
  | adx c f =>
    obtain ⟨fA, fd, ps, h1, h2, h3, h4, h5⟩ := e
    exact ⟨fA, fd, ps, h1, h2, h3, h4.mono h, h5⟩
  | iso cs => exact e
  | afl fs => exact e
  | fnx y f n nd =>
    obtain ⟨fA, fd, ps, h1, h2, h3, h4⟩ := e
    exact ⟨fA, fd, ps, h1, h2, h3.mono h, h4⟩
theorem Tb.nil {k : Nat} : Tb P w K mg base cm k [] := fun _ _ h => nomatch h
theorem Tb.cons {j k : Nat} {T : List (Str × Ent)} {x : Str} {en : Ent} (t : Tb P w K mg base cm j T) (h : j ≤ k) (e : EntG P w K mg base cm k x en) : Tb P w K mg base cm k ((x, en) :: T) := fun y en' h' => by
  rw [List.lookup_cons] at h'
  split at h'
  · rename_i hy
    cases h'
    rw [eq_of_beq hy]
    exact e
  · exact (t y en' h').mono h
theorem def_ok {k : Nat} {T : List (Str × Ent)} {B N ps : List Str} {M : List Nat} {rf : Nat} {md : Mode} {m : DS} {x qual : Str} {params : Arguments} {body : List Stmt} {scope : Scope} {dvs : List V} {kws : List (Str × V)} {fA : Addr} {fd : FuncData}
    (F : FunD K x qual params body scope dvs kws fA fd) (S : FnScope N ps scope) (tb : Tb P w K mg base cm k T) (hB : ∀ x ∈ B, mg x = none) (hc : cBody ⟨T, B, N⟩ scope M rf body = some m) :
    FnG P w K mg base CX0 (k + 1) fA fd ps (spRun K cm ps.length (runDef N.length md m)) := by
  refine fnG_of F S (fun vs H Q E h => ?_) fun cdv A outer s H vs Q E gd hr h => ⟨_, PSs.nox (t := tOS K cm m) ?_, body_ok h ?_⟩
  · obtain ⟨mu, Z, h, ws, w, h', rl, rs, hl, e, f⟩ := h
    rw [rs.length, hl]
  · have k' : CxOk (cxOf CX0 P w K mg base N qual scope fA cdv A outer s H E).nox cm ⟨T, B, N⟩ scope := by
      refine ⟨rfl, S.nd, rfl, rfl, S.kind, fun _ h => h, fun _ h => ⟨h, rfl⟩, fun x h => ?_, fun _ h => h, ?_, gd, fun x en e => ?_, hB⟩
      · exact absurd rfl (S.nofree _ (PySem.mem_of_lookup h))
      · have := hr.un
        show (A.deeper (envOfC qual scope s.heap.objs.size fA cdv)).units + 65 < cLine
        omega
      · have := tb x en e
        cases en with
        | con w => exact this
        | fn f ps nd cl =>
          obtain ⟨fA', fd', h1, h2, h3, h4, h5⟩ := this
          exact ⟨fA', fd', k, h1, h2, h3, hr, h4, h5⟩
        | kwd y f n ks ix cl =>
          obtain ⟨fA', fd', ps', h1, h2, h3, h4⟩ := this
          exact ⟨fA', fd', k, ps', h1, h2, h3, hr, h4⟩
        | cls c f n =>
          obtain ⟨fA', fd', ps', i, h0, h1, h2, h3, h4⟩ := this
          exact ⟨fA', fd', ps', i, h1, h2, h3, hr.mono h0, h4⟩
        | met m c f n cl =>
          obtain ⟨fA', fd', ps', h1, h2, h3, h4⟩ := this
          exact ⟨fA', fd', ps', k, h1, h2, h3, hr, h4⟩
        | cal c f n =>
          obtain ⟨fA', fd', ps', h1, h3, h4⟩ := this
          exact ⟨fA', fd', ps', k, h1, h3, hr, h4⟩
        | fld f cs => exact this
        | isc y c => exact this
        | eqo c f =>
          obtain ⟨fA', fd', ps', i, h0, h1, h3, h4⟩ := this
          exact ⟨fA', fd', ps', i, h1, h3, hr.mono h0, h4⟩
        | clk y c f n ks ix =>
          obtain ⟨fA', fd', ps', i, h0, h1, h2, h3, h4⟩ := this
          exact ⟨fA', fd', ps', i, h1, h2, h3, hr.mono h0, h4⟩
        | cak c f n ks ix =>
          obtain ⟨fA', fd', ps', h1, h3, h4⟩ := this
          exact ⟨fA', fd', ps', k, h1, h3, hr, h4⟩
        | ado c f =>
          obtain ⟨fA', fd', ps', h1, h2, h3, h4⟩ := this
          exact ⟨fA', fd', ps', k, h1, h2, h3, hr, h4⟩
        | lno c f =>
          obtain ⟨fA', fd', ps', i, h0, h1, h3, h4⟩ := this
          exact ⟨fA', fd', ps', i, h1, h3, hr.mono h0, h4⟩
        | ise y c a o => exact this
        | fle f cs => exact this
        | exn y c f =>
          obtain ⟨fA', fd', ps', i, h0, h1, h2, h3, h4, h5, h6, h7⟩ := this
          exact ⟨fA', fd', ps', i, h1, h2, h3, h4, h5, h6, hr.mono h0, h7⟩
        | smd => exact this
        | erp c f =>
          obtain ⟨fA', fd', ps', i, h0, h1, h2, h3, h4, h5, h6, h7⟩ := this
          exact ⟨fA', fd', ps', i, h1, h2, h3, h4, h5, h6, hr.mono h0, h7⟩
        | erk y c f ks =>
          obtain ⟨fA', fd', ps', i, h0, h1, h2, h3, h4, h5, h6, h7⟩ := this
          exact ⟨fA', fd', ps', i, h1, h2, h3, h4, h5, h6, hr.mono h0, h7⟩
        | ern c => exact this
        | isv cs => exact this
        | clx y c f n =>
          obtain ⟨fA', fd', ps', i, h0, h1, h2, h3, h4⟩ := this
          exact ⟨fA', fd', ps', i, h1, h2, h3, hr.mono h0, h4⟩
        | cax c f n =>
          obtain ⟨fA', fd', ps', h1, h3, h4⟩ := this
          exact ⟨fA', fd', ps', k, h1, h3, hr, h4⟩
        | adx c f =>
          obtain ⟨fA', fd', ps', h1, h2, h3, h4, h5⟩ := this
          exact ⟨fA', fd', ps', k, h1, h2, h3, h4, hr, h5⟩
        | iso cs => exact this
        | afl fs => exact this
        | fnx y f n nd =>
          obtain ⟨fA', fd', ps', h1, h2, h3, h4⟩ := this
          exact ⟨fA', fd', ps', k, h1, h2, h3, hr, h4⟩
    exact cAtS_ok (cAt_ok cm ⟨T, B, N⟩ 40) k' rfl 20 hc
  · have := congrArg List.length S.pre
    rw [List.length_take] at this
    omega
theorem sp_start {cm : Cm} {n : Nat} {f : Fn} (hl : ∀ ns : List Int, ns.length ≤ n → f [.scr ns] [] = .ok (.bl true, [])) (H : Hp) (a : Addr) (ns : List Int) (h : ns.length ≤ n) (hS : SqL K H a (ns.map V.int)) (hT : LamX.Tabs cm.tab H) : spRun K cm 1 f [.ref a] H (fun v _ => v = .bl true) (fun _ _ _ => False) := by
  refine ⟨[], noTbl H, [], [.scr ns], .bl true, [], ⟨rfl, List.nodup_nil, fun a u e => ?_, fun _ h => (nomatch h), fun _ _ _ h _ => (nomatch h), hT, fun p hp => ?_, noTbl_nt H, fun _ h => (nomatch h)⟩, ⟨.ref a, [], rfl, ⟨a, rfl, ?_⟩, rfl⟩, rfl, hl ns h, fun _ _ _ _ _ _ q => q⟩
  · have e := noTbl_of e
    cases u <;> first | exact e | exact .inl e
  · obtain ⟨ps, e, _⟩ := hT p hp
    unfold noTbl
    rw [e]
  · rcases hS with (z | ⟨o, z⟩) | z
    · exact .inl (.inl (noTbl_at z (by exact ⟨fun _ z => (by cases z), fun _ z => (by cases z)⟩)))
    · exact .inl (.inr ⟨o, noTbl_at z (by exact ⟨fun _ z => (by cases z), fun _ z => (by cases z)⟩)⟩)
    · exact .inr z
end
end Ti


namespace Ti
open PySem PySem.Spec PySem.Calls PyProof.Rows L2
open PySem.W (EachIs KeepsBut AllAlike Sortable dataLe dataKind SortsAt alike keyH_end KeyedOut keyedOut_each)

section
variable {P : Program} {w : World} {K : PySem.W.Frag} {mg : Str → Option Value} {base : Heap} {N ps fr : List Str} {F : NdefX.NF} {f : Addr} {A : Around} {outer : List PySem.Env} {s : Shared} {H : Hp} {us : List Value} {vs : List V} {ws : List (Option V)} {Q : VK} {t : TE} {params : Arguments} {body : Expr} {pm ctv : Value} {k : Nat}
end

section
variable {prog : Program} {w : World} {A : Around} {E : Value → Shared → Prop} {s : Shared}
end
section
variable {X : Cx} {pins : List (Addr × Obj)} {σ : L2.St} {H : Hp} {s : Shared} {a kS b : Addr} {h' : Heap} {o : HO}
structure Own (X : Cx) (pins : List (Addr × Obj)) (b : Addr) : Prop where
  loc : b ≠ X.env.locals
  new : X.s_0.heap.objs.size ≤ b
  cel : ∀ x c, X.env.cells.lookup x = some c → c ≠ b
  pin : ∀ p ∈ X.pn ++ pins, p.1 ≠ b
  stk : b ∉ frs X.stack
theorem Inv.own1 {t' : Nat} (I : Inv X pins σ H s) (ok : Own X pins kS) (nk : H kS = none) (k : ∀ b u, b ≠ kS → s.heap.get? b = some u → h'.get? b = some u) : Inv X pins σ H { s with heap := h', toks := t' } :=
  I.turned k nk ok.loc (.inr ok.new) ok.cel ok.pin
end

section
variable {X : Cx} {pins : List (Addr × Obj)} {σ : L2.St} {H : Hp} {s : Shared} {f : Addr} {fo : Obj} {vs : List V} {us : List Value} {kz : List PyData} {LW : Nat → List V → Hp → Prop}
end
structure Grow (H H1 : Hp) : Prop where
  ext : LamX.ExtN H H1
  non : ∀ b, H1 b = none → H b = none
section
variable {X : Cx} {pins : List (Addr × Obj)} {σ : L2.St} {H : Hp} {s : Shared}
end
section
variable {K : PySem.W.Frag} {cm : Cm} {mu : List Addr} {Z H : Hp} {h : Hh}
end

section
variable {X : Cx} {pins : List (Addr × Obj)} {σ : L2.St} {H : Hp} {s : Shared}
end

section
variable {X : Cx} {cm : Cm} {mu : List Addr} {Z : Hp} {pins : List (Addr × Obj)} {σ : L2.St} {ρ : Env} {H : Hp} {s : Shared} {h : Hh}
inductive QSr (X : Cx) (cm : Cm) : Bool → Expr → DE → Prop where
  | any {e : Expr} {m : DE} (q : QE X cm e m) : QSr X cm false e m
  | range {a : Expr} {m : DE} {p pos : Pos} (hg : Gl X "range") (hm : X.mg "range" = none) (q : QE X cm a m) (na : starEach [a] X.env = (false, eval a X.env) :: starEach [] X.env) : QSr X cm true (.Call (.Name "range" p) [a] [] pos) m
end
end Ti


namespace Ti
open PySem PySem.Spec PyProof.Rows L2

section
variable {cm : Cm}
structure LamOk (X : Cx) (cm : Cm) (k : Nat) (T : List (Str × Ent)) (c P : Addr) : Prop where
  tb : LamX.TabB X.base X.mg c P
  code : X.env.code = .ref c
  mem : (P, X.env.qual ++ "<lambda>") ∈ cm.tab
  one : ∀ p ∈ cm.tab, p.1 = P → p.2 = X.env.qual ++ "<lambda>"
  room : Room (k + 3) X.A
  ents : Tb X.prog X.w X.K X.mg X.base cm k T
end
section
variable {P : Program} {w : World} {K : PySem.W.Frag} {mg : Str → Option Value} {base : Heap} {cm : Cm}
end
end Ti


namespace Ti
open PySem PySem.Spec PyProof.Rows L2

def Res.nox {α : Type} : Res α → Res α
  | .exc _ _ => .bad
  | r => r
@[simp] theorem Res.nox_ok {α : Type} (a : α) : (Res.ok a).nox = .ok a := rfl
@[simp] theorem Res.nox_bad {α : Type} : (Res.bad : Res α).nox = .bad := rfl
@[simp] theorem Res.nox_exc {α : Type} (e : W) (h : Hh) : (Res.exc e h : Res α).nox = .bad := rfl
def FinX (K : PySem.W.Frag) (cm : Cm) (mu : List Addr) (Z H : Hp) (σ : L2.St) (fr : Bool) (e : W) (h' : Hh) (Wx : WX) : Prop :=
  ∃ c fs, e = .err c fs ∧ ∀ mu' Z' H' d fvs σ', (fr = false → σ' = σ) → Ext mu Z H mu' Z' H' → RelH K cm mu' Z' H' h' → Z' d = some (.xd ((fs.map (·.1)).zip fvs)) → RWf K cm mu' Z' fs fvs → Wx (.ref (cm c)) (some d) σ' H'
section
variable {K : PySem.W.Frag} {cm : Cm} {mu mu1 : List Addr} {Z H Z1 H1 : Hp} {σ σ1 : L2.St} {fr : Bool} {e : W} {h' : Hh} {Wx : WX}
theorem FinX.ext (x : Ext mu Z H mu1 Z1 H1) (f : FinX K cm mu Z H σ fr e h' Wx) : FinX K cm mu1 Z1 H1 σ fr e h' Wx := by
  obtain ⟨c, fs, rfl, f⟩ := f
  exact ⟨c, fs, rfl, fun mu' Z' H' d fvs σ' hs x' => f mu' Z' H' d fvs σ' hs (x.trans x')⟩
theorem FinX.free (f : FinX K cm mu Z H σ true e h' Wx) : FinX K cm mu Z H σ1 true e h' Wx := by
  obtain ⟨c, fs, rfl, f⟩ := f
  exact ⟨c, fs, rfl, fun mu' Z' H' d fvs σ' hs x' => f mu' Z' H' d fvs σ' (fun z => nomatch z) x'⟩
end
section
variable {X : Cx} {cm : Cm} {Wx : WX} {fr : Bool} {st : Stmt} {rest : List Stmt} {m ms mr : DS} {pos : Pos}
theorem QS.nox (h : QS X.nox cm st m) : QS X cm st m := PS.nox h
theorem QSs.nox {l : List Stmt} (h : QSs X.nox cm l m) : QSs X cm l m := PSs.nox h
end
end Ti


namespace Ti
open PySem PySem.Spec PyProof.Rows L2
section
open PySem.W
variable {prog : Program} {w : World} {A : Around} {E : Value → Shared → Prop} {s : Shared} {K : Frag} {x C L f : Addr} {h0 : Heap} {mG : Str → Option Value} {ox : Obj} {od : Option Obj} {T : String}
end
section
variable {X : Cx} {CX : CXT} {k : Nat} {f C : Addr} {fd : FuncData} {ps : List Str} {sp : Sp} {E : L2.St → XK} {x : Str} {p pos : Pos} {e fe a b : Expr} {es : List Expr} {ta tb tf : TE} {t : TA}
end
section
variable {X : Cx} {cm : Cm} {Wx : WX} {n c k j : Nat} {g : Fn} {x : Str} {e fe : Expr} {es : List Expr} {ms : List DE} {mo me : DE} {p pos : Pos} {fA : Addr} {fd : FuncData} {ps : List Str}
end
end Ti


namespace Ti
open PySem PySem.Spec PyProof.Rows L2
def gName (sc : Scope) (x : Str) : Bool := decide (sc.names.lookup x = some .globalImplicit) && !(x == ("__debug__" : Str))
structure CxX (X : Cx) (cm : Cm) (G : Cg) (sc : Scope) (Wx : WX) : Prop where
  base : CxOk X.nox cm G sc
  tk : Takes X Wx
  hs : X.stack = X.env :: X.outer
  hf : X.env.frame = some X.env.locals
  hex : X.ex = []
theorem CxX.tr {X : Cx} {cm : Cm} {G : Cg} {sc : Scope} {Wx Wx' : WX} (k : CxX X cm G sc Wx) (pn : List (Addr × Obj)) (xe : Value → Shared → Prop) (tk : Takes (X.tr pn xe) Wx') : CxX (X.tr pn xe) cm G sc Wx' := by
  refine ⟨⟨k.base.N, k.base.nd, k.base.calm, rfl, k.base.knd, k.base.loc, k.base.cel, k.base.fre, k.base.gl, k.base.un, k.base.gd, fun x en e => ?_, k.base.bl⟩, tk, k.hs, k.hf, k.hex⟩
  have := k.base.tb x en e
  cases en with
  | con w => exact this
  | fn f ps nd cells => exact this
  | kwd y f n ks ix cells => exact this
  | cls c f n => exact this
  | met m c f n cl => exact this
  | cal c f n => exact this
  | fld f cs => exact this
  | isc y c => exact this
  | eqo c f => exact this
  | clk y c f n ks ix => exact this
  | cak c f n ks ix => exact this
  | ado c f => exact this
  | lno c f => exact this
  | ise y c a o => exact this
  | fle f cs => exact this
  | exn y c f => exact this
  | fnx y f n nd => exact this
  | smd => exact this
  | erp c f => exact this
  | erk y c f ks => exact this
  | ern c => exact this
  | isv cs => exact this
  | clx y c f n => exact this
  | cax c f n => exact this
  | adx c f => exact this
  | iso cs => exact this
  | afl fs => exact this
section
variable {cm : Cm} {G : Cg} {sc : Scope}
end
section
variable {P : Program} {w : World} {K : PySem.W.Frag} {mg : Str → Option Value} {base : Heap} {cm : Cm}
end
section
variable {K : PySem.W.Frag}
theorem kwi1 {x qual : Str} {params : Arguments} {body : List Stmt} {scope : Scope} {kws : List (Str × V)} {f : Addr} {fd : FuncData} {ps ks : List Str} {ix : List Nat} (F : FunD K x qual params body scope [.non] kws f fd)
    (h : ∀ (T : Addr) (kV doc pm : Value) (an : Option Addr) (cdv ct u : Value) (ws its : List Value), ws.length = ks.length → its.length = 1 →
      ∃ k, bindArgs (PySem.W.fnOf x qual params body scope (.ref T) kV doc pm an cdv ct) ⟨[u], ks.zip ws⟩ = seqItems? (.ref T) >>= k ∧ k (some its.toArray) = pure (ps.zip (u :: permU ix ws))) : KwI K fd ps ks (permU ix) (permV ix) := by
  obtain ⟨oc, od, dV, kV, doc, pm, an, cdv, ct, osl, rfl, lk, hcd, hD, hK⟩ := F.ex
  rcases hD with ⟨e, _⟩ | ⟨_, T, o, its, m, rfl, lT, oT, rT⟩
  · cases e
  · refine ⟨fun s u ws X hl => ?_, perm_rel⟩
    have hi : its = [.none] := by
      cases rT with
      | cons r t =>
        cases t
        cases r
        rfl
    subst hi
    obtain ⟨k, e1, e2⟩ := h T kV doc pm an cdv ct u ws [.none] hl rfl
    refine BindsTo.of_looks fun M => ?_
    rw [e1]
    exact looks_items X lT oT (.of_pure e2)
end
end Ti


namespace Ti
open PySem

def T {α : Type} (r : Res α) (Q : α → Prop) : Prop := ∃ a, r = .ok a ∧ Q a
section
variable {α β : Type} {Q Q' : α → Prop} {r : Res α}
@[simp] theorem T_ok {a : α} : T (.ok a) Q ↔ Q a := ⟨fun ⟨b, e, q⟩ => (by cases e; exact q), fun q => ⟨a, rfl, q⟩⟩
@[simp] theorem T_bad : T .bad Q ↔ False := ⟨fun ⟨b, e, q⟩ => (by cases e), fun q => False.elim q⟩
@[simp] theorem T_exc {e : W} {h : Hh} : T (.exc e h) Q ↔ False := ⟨fun ⟨b, e, q⟩ => (by cases e), fun q => False.elim q⟩
@[simp] theorem T_bind {f : α → Res β} {Q : β → Prop} : T (r.bind f) Q ↔ T r (fun a => T (f a) Q) :=
  ⟨fun ⟨b, e, q⟩ => (by obtain ⟨a, e1, e2⟩ := Res.bind_eq_ok e; exact ⟨a, e1, b, e2, q⟩), fun ⟨a, e1, b, e2, q⟩ => ⟨b, (by rw [e1]; exact e2), q⟩⟩
theorem T.mono (h : T r Q) (i : ∀ a, Q a → Q' a) : T r Q' := let ⟨a, e, q⟩ := h; ⟨a, e, i a q⟩
theorem T.eq {a : α} (h : T r (· = a)) : r = .ok a := let ⟨b, e, q⟩ := h; by rw [e, q]
theorem T.of {a : α} (e : r = .ok a) (q : Q a) : T r Q := ⟨a, e, q⟩
@[simp] theorem T_ofO {o : Option α} : T (ofO o) Q ↔ ∃ a, o = some a ∧ Q a := by
  cases o with
  | none => exact ⟨fun ⟨a, e, q⟩ => (by cases e), fun ⟨a, e, q⟩ => (by cases e)⟩
  | some a => exact ⟨fun ⟨b, e, q⟩ => (by cases e; exact ⟨_, rfl, q⟩), fun ⟨b, e, q⟩ => (by cases e; exact ⟨_, rfl, q⟩)⟩
end
section
variable {ρ : Env} {h : Hh} {Q : W × Hh → Prop} {Qs : Fl × Env × Hh → Prop} {Qe : Env × Hh → Prop} {a b c : DE}
@[simp] theorem r_eK {w : W} : eK w ρ h = .ok (w, h) := rfl.trans rfl
@[simp] theorem r_eV0 {x : W} {r : Env} : eV 0 (some x :: r) h = .ok (x, h) := rfl.trans rfl
@[simp] theorem r_eVs {i : Nat} {x : Option W} {r : Env} : eV (i + 1) (x :: r) h = eV i r h := rfl.trans rfl
@[simp] theorem r_e1 {f : F1} : e1 f a ρ h = (a ρ h).bind fun p => f p.1 p.2 := rfl.trans rfl
@[simp] theorem r_e2 {f : F2} : e2 f a b ρ h = (a ρ h).bind fun p => (b ρ p.2).bind fun q => f p.1 q.1 q.2 := rfl.trans rfl
@[simp] theorem r_e3 {f : F3} : e3 f a b c ρ h = (a ρ h).bind fun p => (b ρ p.2).bind fun q => (c ρ q.2).bind fun r => f p.1 q.1 r.1 r.2 := rfl.trans rfl
@[simp] theorem r_eL0 : eL [] ρ h = .ok ([], h) := rfl.trans rfl
@[simp] theorem r_eLs {es : List DE} : eL (a :: es) ρ h = (a ρ h).bind fun p => (eL es ρ p.2).bind fun q => .ok (p.1 :: q.1, q.2) := rfl.trans rfl
@[simp] theorem r_eF {f : Fn} {es : List DE} : eF f es ρ h = (eL es ρ h).bind fun p => f p.1 p.2 := rfl.trans rfl
@[simp] theorem r_eAnd : eAnd a b ρ h = (a ρ h).bind fun p => (ofO (truthy p.2 p.1)).bind fun k => if k = true then b ρ p.2 else .ok p := rfl.trans rfl
@[simp] theorem r_eOr : eOr a b ρ h = (a ρ h).bind fun p => (ofO (truthy p.2 p.1)).bind fun k => if k = true then .ok p else b ρ p.2 := rfl.trans rfl
@[simp] theorem r_eNot : eNot a ρ h = (a ρ h).bind fun p => (ofO (truthy p.2 p.1)).bind fun k => .ok (.bl (!k), p.2) := rfl.trans rfl
@[simp] theorem r_eIf : eIf c a b ρ h = (c ρ h).bind fun p => (ofO (truthy p.2 p.1)).bind fun k => if k = true then a ρ p.2 else b ρ p.2 := rfl.trans rfl
@[simp] theorem r_eChain {f g : F2} : eChain f g a b c ρ h = (a ρ h).bind fun p => (b ρ p.2).bind fun q => (f p.1 q.1 q.2).bind fun r =>
  match r.1 with
  | .bl k => if k = true then (c ρ r.2).bind fun s => g q.1 s.1 s.2 else .ok (.bl false, r.2)
  | _ => .bad := rfl.trans rfl
@[simp] theorem r_eTree : eTree a ρ h = (a ρ h).bind fun p => fin .deep h.length p.1 p.2 := rfl.trans rfl
@[simp] theorem r_eLst {k : Bool} {es : List DE} : eLst k es ρ h = (eL es ρ h).bind fun p => mkL k p.1 p.2 := rfl.trans rfl
@[simp] theorem r_eTup {es : List DE} : eTup es ρ h = (eL es ρ h).bind fun p => if p.1.length ≤ lineW then .ok (.tup p.1, p.2) else .bad := rfl.trans rfl
@[simp] theorem r_eDic {k kd : Bool} : eDic k kd ρ h = mkD k kd [] h := rfl.trans rfl
@[simp] theorem r_tN {i : Nat} {w : W} : tN i w ρ h = .ok (ρ.set i (some w), h) := rfl.trans rfl
@[simp] theorem r_tL0 : tL [] [] ρ h = .ok (ρ, h) := rfl.trans rfl
@[simp] theorem r_tLs {t : DT} {ts : List DT} {w : W} {ws : List W} : tL (t :: ts) (w :: ws) ρ h = (t w ρ h).bind fun p => tL ts ws p.1 p.2 := rfl.trans rfl
@[simp] theorem r_tT {ts : List DT} {ws : List W} : tT ts (.tup ws) ρ h = tL ts ws ρ h := rfl.trans rfl
@[simp] theorem r_sNil : sNil ρ h = .ok (.nx, ρ, h) := rfl.trans rfl
@[simp] theorem r_sPass : sPass ρ h = .ok (.nx, ρ, h) := rfl.trans rfl
@[simp] theorem r_sE : sE a ρ h = (a ρ h).bind fun p => .ok (.nx, ρ, p.2) := rfl.trans rfl
@[simp] theorem r_sAsg {t : DT} : sAsg t a ρ h = (a ρ h).bind fun p => (t p.1 ρ p.2).bind fun q => .ok (.nx, q) := rfl.trans rfl
@[simp] theorem r_sRet : sRet a ρ h = (a ρ h).bind fun p => .ok (.rt p.1, ρ, p.2) := rfl.trans rfl
@[simp] theorem r_sRetN : sRetN ρ h = .ok (.rt .non, ρ, h) := rfl.trans rfl
@[simp] theorem r_sBrk : sBrk ρ h = .ok (.bk, ρ, h) := rfl.trans rfl
@[simp] theorem r_sCnt : sCnt ρ h = .ok (.ct, ρ, h) := rfl.trans rfl
@[simp] theorem r_sNev : sNev ρ h = .bad := rfl.trans rfl
@[simp] theorem r_sIf {s t : DS} : sIf c s t ρ h = (c ρ h).bind fun p => (ofO (truthy p.2 p.1)).bind fun k => if k = true then s ρ p.2 else t ρ p.2 := rfl.trans rfl
@[simp] theorem r_sSet {f : F3} : sSet f a b c ρ h = (c ρ h).bind fun p => (a ρ p.2).bind fun q => (b ρ q.2).bind fun r => (f q.1 r.1 p.1 r.2).bind fun s => .ok (.nx, ρ, s.2) := rfl.trans rfl
def andThen (b : DS) (q : Fl × Env × Hh) : Res (Fl × Env × Hh) := match q.1 with
  | .nx => b q.2.1 q.2.2
  | f => .ok (f, q.2)
@[simp] theorem r_sCons {s t : DS} : sCons s t ρ h = (s ρ h).bind (andThen t) := rfl.trans rfl
@[simp] theorem andThen_nx {b : DS} {q : Env × Hh} : andThen b (.nx, q) = b q.1 q.2 := rfl.trans rfl
@[simp] theorem andThen_rt {b : DS} {w : W} {q : Env × Hh} : andThen b (.rt w, q) = .ok (.rt w, q) := rfl.trans rfl
@[simp] theorem andThen_bk {b : DS} {q : Env × Hh} : andThen b (.bk, q) = .ok (.bk, q) := rfl.trans rfl
@[simp] theorem andThen_ct {b : DS} {q : Env × Hh} : andThen b (.ct, q) = .ok (.ct, q) := rfl.trans rfl
def handBack (m : Mode) (n : Nat) (q : Fl × Env × Hh) : R1 := match q.1 with
  | .nx => fin m n .non q.2.2
  | .rt w => fin m n w q.2.2
  | _ => .bad
theorem r_run {n : Nat} {m : Mode} {b : DS} {ws : List W} : runDef n m b ws h = (b (ws.map some ++ List.replicate (n - ws.length) none) h).bind (handBack m h.length) := rfl.trans rfl
@[simp] theorem hb_nx {m : Mode} {n : Nat} {q : Env × Hh} : handBack m n (.nx, q) = fin m n .non q.2 := rfl.trans rfl
@[simp] theorem hb_rt {m : Mode} {n : Nat} {w : W} {q : Env × Hh} : handBack m n (.rt w, q) = fin m n w q.2 := rfl.trans rfl
@[simp] theorem hb_bk {m : Mode} {n : Nat} {q : Env × Hh} : handBack m n (.bk, q) = .bad := rfl.trans rfl
@[simp] theorem hb_ct {m : Mode} {n : Nat} {q : Env × Hh} : handBack m n (.ct, q) = .bad := rfl.trans rfl
theorem fin_same {w : W} {h' : Hh} {n : Nat} (hn : nor w = true) (hl : h'.length = n) : fin .deep n w h' = .ok (w, h') := by
  unfold fin
  rw [thaw_nor hn, ← hl, List.take_length]
  rfl
theorem fin_here {w : W} (hn : nor w = true) : fin .deep h.length w h = .ok (w, h) := fin_same hn rfl
@[simp] theorem fin_raw {w : W} {n : Nat} : fin .raw n w h = .ok (w, h) := rfl.trans rfl
@[simp] theorem mkL_f {ws : List W} (hl : ws.length ≤ lineW) : mkL false ws h = .ok (.lst ws, h) := by
  unfold mkL
  rw [if_pos hl]
  rfl
@[simp] theorem r_eCall {f : Fn} {n : Nat} {ds : List W} {es : List DE} : eCall f n ds es ρ h = (eL es ρ h).bind fun p => if (p.1 ++ ds).length = n then f (p.1 ++ ds) p.2 else .bad := rfl.trans rfl
@[simp] theorem r_l1 {g : F1} {x : W} : l1 g [x] h = g x h := rfl.trans rfl
@[simp] theorem r_l2 {g : F2} {x y : W} : l2 g [x, y] h = g x y h := rfl.trans rfl
@[simp] theorem r_l3 {g : F3} {x y z : W} : l3 g [x, y, z] h = g x y z h := rfl.trans rfl
@[simp] theorem r_eM {t : MTy} {g : Fn} {es : List DE} : eM t g a es ρ h = (a ρ h).bind fun p => if isMT t p.2 p.1 = true then (eL es ρ p.2).bind fun q => g (p.1 :: q.1) q.2 else .bad := rfl.trans rfl

@[simp] theorem nor_non : nor .non = true := rfl.trans rfl
@[simp] theorem nor_bl {b : Bool} : nor (.bl b) = true := rfl.trans rfl
@[simp] theorem nor_int {i : Int} : nor (.int i) = true := rfl.trans rfl
@[simp] theorem nor_str {x : Str} : nor (.str x) = true := rfl.trans rfl
@[simp] theorem nor_tup {ws : List W} : nor (.tup ws) = nors ws := rfl.trans rfl
@[simp] theorem nor_lst {ws : List W} : nor (.lst ws) = nors ws := rfl.trans rfl
@[simp] theorem nors_nil : nors [] = true := rfl.trans rfl
@[simp] theorem nors_cons {w : W} {ws : List W} : nors (w :: ws) = (nor w && nors ws) := rfl.trans rfl
@[simp] theorem fin_int {n : Int} : fin .deep h.length (.int n) h = .ok (.int n, h) := fin_here rfl
@[simp] theorem fin_bl {n : Bool} : fin .deep h.length (.bl n) h = .ok (.bl n, h) := fin_here rfl
@[simp] theorem fin_str {n : Str} : fin .deep h.length (.str n) h = .ok (.str n, h) := fin_here rfl
@[simp] theorem fin_non : fin .deep h.length .non h = .ok (.non, h) := fin_here rfl
@[simp] theorem truthy_bl {b : Bool} : truthy h (.bl b) = some b := rfl.trans rfl
@[simp] theorem truthy_non : truthy h .non = some false := rfl.trans rfl
@[simp] theorem truthy_int {i : Int} : truthy h (.int i) = some (i != 0) := rfl.trans rfl

@[simp] theorem add_int {k : Bool} {i j : Int} : pAdd k (.int i) (.int j) h = .ok (.int (i + j), h) := rfl.trans rfl
@[simp] theorem sub_int {i j : Int} : pSub (.int i) (.int j) h = .ok (.int (i - j), h) := rfl.trans rfl
@[simp] theorem lt_int {i j : Int} : pLt (.int i) (.int j) h = .ok (.bl (decide (i < j)), h) := rfl.trans rfl
@[simp] theorem le_int {i j : Int} : pLe (.int i) (.int j) h = .ok (.bl (decide (i ≤ j)), h) := rfl.trans rfl
@[simp] theorem gt_int {i j : Int} : pGt (.int i) (.int j) h = .ok (.bl (decide (j < i)), h) := rfl.trans rfl
@[simp] theorem ge_int {i j : Int} : pGe (.int i) (.int j) h = .ok (.bl (decide (j ≤ i)), h) := rfl.trans rfl
@[simp] theorem is_non {x : W} : pIs x .non h = .ok (.bl (isNon x), h) := rfl.trans rfl
@[simp] theorem isN_non {x : W} : pIsN x .non h = .ok (.bl (!isNon x), h) := rfl.trans rfl
@[simp] theorem isNon_non : isNon .non = true := rfl.trans rfl
@[simp] theorem isNon_int {i : Int} : isNon (.int i) = false := rfl.trans rfl
@[simp] theorem isNon_str {i : Str} : isNon (.str i) = false := rfl.trans rfl

theorem T_forG {Q : Fl × Env × Hh → Prop} {keep : Hh → Bool} {tg : DT} {s : DS} {xs : List W} (I : Nat → Env → Hh → Prop) (hk : ∀ i ρ h, I i ρ h → keep h = true) (h0 : I 0 ρ h)
    (hs : ∀ i x ρ h, xs[i]? = some x → I i ρ h → T (tg x ρ h) fun p => T (s p.1 p.2) fun q => (match q.1 with
      | .nx => I (i + 1) q.2.1 q.2.2
      | .ct => I (i + 1) q.2.1 q.2.2
      | .bk => Q (.nx, q.2)
      | .rt w => Q (.rt w, q.2))) (he : ∀ ρ h, I xs.length ρ h → Q (.nx, ρ, h)) : T (forG keep tg s xs ρ h) Q := by
  have key : ∀ (ys : List W) (i : Nat) (ρ : Env) (h : Hh), xs.drop i = ys → i + ys.length = xs.length → I i ρ h → T (forG keep tg s ys ρ h) Q := by
    intro ys
    induction ys with
    | nil =>
      intro i ρ h _ hl hI
      show T (if keep h = true then .ok (.nx, ρ, h) else .bad) Q
      rw [if_pos (hk i ρ h hI)]
      exact T_ok.mpr (he ρ h (by rw [← hl]; exact hI))
    | cons y ys ih =>
      intro i ρ h hd hl hI
      have hy : xs[i]? = some y := by
        have := congrArg (·[0]?) hd
        simp only [List.getElem?_drop, Nat.add_zero, List.getElem?_cons_zero] at this
        exact this
      have hd2 : xs.drop (i + 1) = ys := by
        rw [← List.drop_drop, hd]; rfl
      obtain ⟨p, e1, q, e2, hq⟩ := hs i y ρ h hy hI
      show T (if keep h = true then (tg y ρ h).bind fun p => (s p.1 p.2).bind fun q => match q.1 with
        | .nx => forG keep tg s ys q.2.1 q.2.2
        | .ct => forG keep tg s ys q.2.1 q.2.2
        | .bk => .ok (.nx, q.2)
        | .rt w => .ok (.rt w, q.2)
        else .bad) Q
      rw [if_pos (hk i ρ h hI), e1, Res.bind_ok, e2, Res.bind_ok]
      obtain ⟨fl, ρ', h'⟩ := q
      cases fl with
      | nx => exact ih (i + 1) ρ' h' hd2 (by rw [List.length_cons] at hl; omega) hq
      | ct => exact ih (i + 1) ρ' h' hd2 (by rw [List.length_cons] at hl; omega) hq
      | bk => exact T_ok.mpr hq
      | rt w => exact T_ok.mpr hq
  exact key xs 0 ρ h List.drop_zero (by simp) h0
@[simp] theorem r_sFor {tg : DT} {fi : FI} {src : List DE} {s : DS} : sFor tg fi src s ρ h = (eL src ρ h).bind fun p => (ofO (fi p.1 p.2)).bind fun sr => forG sr.keep tg s sr.items ρ p.2 := rfl.trans rfl
theorem compG_pure {keep : Hh → Bool} {own : List Nat} {tg : DT} {elt : DE} {xs : List W} {h : Hh} (b : W → Bool) (r : W → W) (cd : Option DE) (hk : keep h = true) {acc : List W}
    (hs : ∀ x ∈ xs, ∃ ρ', tg x (wipeW ρ own) h = .ok (ρ', h) ∧ (match cd with
      | none => b x = true
      | some c => ∃ w, c ρ' h = .ok (w, h) ∧ truthy h w = some (b x)) ∧ (b x = true → elt ρ' h = .ok (r x, h))) (hl : acc.length + xs.length ≤ lineW) :
    compG keep own tg cd elt ρ xs acc h = .ok (acc ++ (xs.filter b).map r, h) := by
  induction xs generalizing acc with
  | nil => simp [compG, hk]
  | cons x xs ih =>
    obtain ⟨ρ', e1, e2, e3⟩ := hs x List.mem_cons_self
    have ih' := fun acc hl => ih (acc := acc) (fun y hy => hs y (List.mem_cons_of_mem _ hy)) hl
    have hlt : acc.length < lineW := by rw [List.length_cons] at hl; omega
    unfold compG
    rw [if_pos hk, e1, Res.bind_ok]
    cases cd with
    | none =>
      have e2 : b x = true := e2
      simp only [e3 e2, Res.bind_ok, if_pos hlt]
      rw [ih' _ (by simp; rw [List.length_cons] at hl; omega), List.filter_cons, if_pos e2]
      simp
    | some c =>
      obtain ⟨w, e4, e5⟩ := e2
      simp only [e4, Res.bind_ok, e5, ofO_some]
      cases hb : b x with
      | true =>
        simp only [if_true, e3 hb, Res.bind_ok, if_pos hlt]
        rw [ih' _ (by simp; rw [List.length_cons] at hl; omega), List.filter_cons, if_pos hb]
        simp
      | false =>
        simp only [Bool.false_eq_true, if_false]
        rw [ih' _ (by rw [List.length_cons] at hl; omega), List.filter_cons, if_neg (by rw [hb]; decide)]
@[simp] theorem r_eComp {k : Bool} {own : List Nat} {tg : DT} {fi : FI} {src : List DE} {cd : Option DE} {elt : DE} : eComp k own tg fi src cd elt ρ h =
  (eL src ρ h).bind fun p => (ofO (fi p.1 p.2)).bind fun s => (compG s.keep own tg cd elt ρ s.items [] p.2).bind fun q => mkL k q.1 q.2 := rfl.trans rfl
end

theorem okR_of {i : Int} (h1 : -1000000000000 ≤ i) (h2 : i ≤ 1000000000000) : okR i = true := by
  unfold okR
  exact decide_eq_true (by omega)
theorem range_one {n : Int} {h : Hh} (h1 : -1000000000000 ≤ n) (h2 : n ≤ 1000000000000) : fiR [.int n] h = some ⟨rangeW 0 n.toNat, fun _ => true⟩ := by
  unfold fiR
  simp only [okR_of h1 h2, if_true]
theorem range_nat {n : Nat} {h : Hh} (h2 : n ≤ 1000000000000) : fiR [.int (n : Int)] h = some ⟨rangeW 0 n, fun _ => true⟩ := range_one (n := (n : Int)) (by omega) (by omega)
theorem range_len {a : Int} {n : Nat} : (rangeW a n).length = n := by unfold rangeW; rw [List.length_map, List.length_range]
theorem range_get {a : Int} {n i : Nat} {x : W} (e : (rangeW a n)[i]? = some x) : i < n ∧ x = .int (a + (i : Int)) := by
  have hi : i < n := by
    have := (List.getElem?_eq_some_iff.mp e).1
    rwa [range_len] at this
  rw [range_items hi] at e
  cases e
  exact ⟨hi, rfl⟩
@[simp] theorem fiL_lst {ws : List W} {h : Hh} : fiL [.lst ws] h = some ⟨ws, fun _ => true⟩ := rfl.trans rfl
@[simp] theorem fiL_tup {ws : List W} {h : Hh} : fiL [.tup ws] h = some ⟨ws, fun _ => true⟩ := rfl.trans rfl
@[simp] theorem fiL_str {l : List Nat} {h : Hh} : fiL [.str (mkS l)] h = some ⟨l.map fun c => .str (mkS [c]), fun _ => true⟩ := rfl.trans rfl

@[simp] theorem mkS_len (l : List Nat) : (mkS l).length = l.length := by simp [mkS, Str.length]
@[simp] theorem sg_mk (l : List Nat) : sg (mkS l) = l := rfl.trans rfl
@[simp] theorem mkS_eq {a b : List Nat} : (mkS a = mkS b) ↔ a = b := ⟨mkS_inj, fun e => by rw [e]⟩
@[simp] theorem strFine_mk (l : List Nat) : strFine (mkS l) = (l.all (fun c => decide (c < 128)) && decide (l.length ≤ 1000000)) := by
  unfold strFine
  rw [mkS_len]
  simp [mkS]
theorem mkS_app (a b : List Nat) : mkS a ++ mkS b = mkS (a ++ b) := by
  show Str.mk (a.toArray ++ b.toArray) = _
  simp [mkS]
end Ti


namespace Ti
open PySem
theorem lt_log {n k : Nat} (h : n < 2 ^ k) (hk : 0 < k) : n.log2 < k := by
  by_cases h0 : n = 0
  · subst h0; simpa using hk
  · exact (Nat.log2_lt h0).mpr h
structure Pu where
  a : Int
  b : Int
  c : Int
  d : Int
def Pu.ws (p : Pu) : List W := [.int p.a, .int p.b, .int p.c, .int p.d]
def Pu.cell (p : Pu) : Cell := .lst p.ws
structure Pu.Ok (p : Pu) (B : Nat) : Prop where
  a0 : 0 ≤ p.a
  b0 : 0 ≤ p.b
  b1 : p.b < 2147483629
  c0 : 0 ≤ p.c
  c1 : p.c ≤ B
  d0 : 0 ≤ p.d
  d1 : p.d ≤ 1000
section
variable {H : Hh} {i : Nat} {p : Pu}
end
theorem mod_run {H : Hh} {a j : Int} (h0 : 0 < j) : pMod (.int a) (.int j) H = .ok (.int (a.fmod j), H) := if_neg (by omega)
namespace A
theorem fm {a : Int} {m : Nat} (hm : 0 < m) : 0 ≤ a.fmod (m : Int) ∧ a.fmod (m : Int) < (m : Int) := by
  rw [Int.fmod_eq_emod_of_nonneg _ (by omega)]
  exact ⟨Int.emod_nonneg _ (by omega), Int.emod_lt_of_pos _ (by omega)⟩
end A
end Ti


namespace Ti
open PySem
theorem numL_digs {n : Nat} : ∀ c ∈ numL n, isDig c = true := by
  intro c hc
  obtain ⟨d, hd, rfl⟩ := List.mem_map.mp hc
  have := Nat.isDigit_of_mem_toDigits (by decide) (by decide) hd
  unfold Char.isDigit at this
  rw [Bool.and_eq_true, decide_eq_true_eq, decide_eq_true_eq] at this
  unfold isDig
  rw [Bool.and_eq_true, decide_eq_true_eq, decide_eq_true_eq]
  exact ⟨this.1, this.2⟩
theorem numL_len {n k : Nat} (hk : 0 < k) (h : n < 10 ^ k) : (numL n).length ≤ k := by
  unfold numL
  rw [List.length_map]
  exact (Nat.length_toDigits_le_iff (by decide) hk).mpr h
theorem numL_ne {n : Nat} : numL n ≠ [] := by
  intro e
  have : Nat.toDigits 10 n = [] := List.map_eq_nil_iff.mp e
  exact Nat.toDigits_ne_nil this
theorem digsVal_lt : ∀ {l : List Nat}, (∀ c ∈ l, isDig c = true) → ∀ a, l.foldl (fun a c => a * 10 + (c - 48)) a < (a + 1) * 10 ^ l.length
  | [], _, a => by simp
  | c :: l, h, a => by
    have hc := h c List.mem_cons_self
    unfold isDig at hc
    rw [Bool.and_eq_true, decide_eq_true_eq, decide_eq_true_eq] at hc
    have ih := digsVal_lt (fun d hd => h d (List.mem_cons_of_mem _ hd)) (a * 10 + (c - 48))
    rw [List.foldl_cons, List.length_cons]
    refine Nat.lt_of_lt_of_le ih ?_
    rw [Nat.pow_succ, Nat.mul_comm (10 ^ l.length) 10, ← Nat.mul_assoc]
    exact Nat.mul_le_mul_right _ (by omega)
theorem digsVal_bound {l : List Nat} (h : ∀ c ∈ l, isDig c = true) : digsVal l < 10 ^ l.length := by
  have := digsVal_lt h 0
  simpa [digsVal] using this
def signs : List Nat := [45, 48, 49, 50, 51, 52, 53, 54, 55, 56, 57, 97, 98, 99, 100, 101, 102, 103, 104, 105, 106, 107, 108, 109, 110, 111, 112, 113, 114, 115, 116, 117, 118, 119, 120, 121, 122]
theorem sign_lt {c : Nat} (h : c ∈ signs) : c < 128 := by
  unfold signs at h
  simp only [List.mem_cons, List.not_mem_nil, or_false] at h
  omega
theorem dig_sign {c : Nat} (h : isDig c = true) : c ∈ signs := by
  unfold isDig at h
  rw [Bool.and_eq_true, decide_eq_true_eq, decide_eq_true_eq] at h
  unfold signs
  simp only [List.mem_cons, List.not_mem_nil, or_false]
  omega
structure Name (l : List Nat) : Prop where
  ne : l ≠ []
  all : ∀ c ∈ l, c ∈ signs
  len : l.length ≤ 100000
theorem fine_signs {l : List Nat} (h : ∀ c ∈ l, c ∈ signs) (hl : l.length ≤ 1000000) : strFine (mkS l) = true := by
  rw [strFine_mk, Bool.and_eq_true, decide_eq_true_eq]
  exact ⟨List.all_eq_true.mpr fun c hc => decide_eq_true (sign_lt (h c hc)), hl⟩
theorem ne_str {a b : List Nat} {h : Hh} (ha : strFine (mkS a) = true) (hb : strFine (mkS b) = true) : pNe (.str (mkS a)) (.str (mkS b)) h = .ok (.bl (!decide (a = b)), h) := by
  unfold pNe eqB
  simp only [look, isDat, ha, hb, Bool.and_self, if_true, ofO_some, Res.bind_ok, beq, mkS_eq]
namespace Pr
section
variable {h : Hh}
inductive Wd : W → Prop where
  | non : Wd .non
  | int {n : Int} (h1 : 1 ≤ n) (h2 : n ≤ 40) : Wd (.int n)
def Fits (l : List Nat) : W → Prop
  | .int n => (l.length : Int) ≤ n
  | _ => True
end
end Pr
end Ti


namespace Ti
open PySem
section
variable {h : Hh} {l : List Nat}
theorem place_nat {n j : Nat} (hj : j < n) : placeI n (j : Int) = some j := by
  unfold placeI
  rw [if_pos (by omega), if_pos (by omega)]
  rfl
theorem cut_to {α : Type} {l : List α} {k : Nat} : cutL l none (some (k : Int)) = l.take k := by
  show (l.take (if (k : Int) < 0 then ((k : Int) + (l.length : Int)).toNat else min (k : Int).toNat l.length)).drop 0 = _
  rw [if_neg (by omega), List.drop_zero, Int.toNat_natCast]
  by_cases hk : k ≤ l.length
  · rw [Nat.min_eq_left hk]
  · rw [Nat.min_eq_right (by omega), List.take_length, List.take_of_length_le (by omega)]
end
def tlN (l : List Nat) : Nat := (l.reverse.takeWhile isDig).length
def at1 (l : List Nat) : Nat := l.length - tlN l
def cutN (l : List Nat) : Nat := at1 l + ((l.drop (at1 l)).takeWhile (· == 48)).length
theorem tw_len {α : Type} (p : α → Bool) : ∀ l : List α, (l.takeWhile p).length ≤ l.length
  | [] => Nat.le_refl _
  | a :: l => by
    rw [List.takeWhile_cons]
    split
    · have := tw_len p l; simp only [List.length_cons]; omega
    · simp
theorem tw_in {α : Type} (p : α → Bool) : ∀ (l : List α) (i : Nat) (a : α), i < (l.takeWhile p).length → l[i]? = some a → p a = true
  | [], i, a, h, _ => by simp at h
  | b :: l, i, a, h, e => by
    rw [List.takeWhile_cons] at h
    split at h
    · rename_i hb
      cases i with
      | zero => cases e; exact hb
      | succ i => exact tw_in p l i a (by simp only [List.length_cons] at h; omega) e
    · simp at h
section
variable {l : List Nat}
theorem tlN_le : tlN l ≤ l.length := by
  have := tw_len isDig l.reverse
  rwa [List.length_reverse] at this
theorem at1_le : at1 l ≤ l.length := by unfold at1; omega
theorem at1_dig {j c : Nat} (h1 : at1 l ≤ j) (e : l[j]? = some c) : isDig c = true := by
  have hj := (List.getElem?_eq_some_iff.mp e).1
  have := @tlN_le l
  refine tw_in isDig l.reverse (l.length - 1 - j) c (by unfold at1 at h1; unfold tlN at h1 this; omega) ?_
  rw [List.getElem?_reverse (by omega), show l.length - 1 - (l.length - 1 - j) = j by omega]
  exact e
theorem cutN_le : cutN l ≤ l.length := by
  have h1 := tw_len (· == 48) (l.drop (at1 l))
  rw [List.length_drop] at h1
  have := @at1_le l
  unfold cutN
  omega
theorem cutN_in {j c : Nat} (h1 : at1 l ≤ j) (h2 : j < cutN l) (e : l[j]? = some c) : c = 48 := by
  have := tw_in (· == 48) (l.drop (at1 l)) (j - at1 l) c (by unfold cutN at h2; omega) (by rw [List.getElem?_drop, show at1 l + (j - at1 l) = j by omega]; exact e)
  exact eq_of_beq this
theorem drop_digs : ∀ c ∈ l.drop (cutN l), isDig c = true := by
  intro c hc
  obtain ⟨i, hi⟩ := List.mem_iff_getElem?.mp hc
  rw [List.getElem?_drop] at hi
  exact at1_dig (by unfold cutN; omega) hi
end
namespace Pr
end Pr
end Ti


namespace Ti
open PySem
section
variable {h : Hh}
theorem pow_lt {n k : Nat} (h : n < 10 ^ k) (hk : k ≤ 470) : n.log2 < 1920 := by
  refine lt_log (Nat.lt_of_lt_of_le h ?_) (by omega)
  calc 10 ^ k ≤ 16 ^ k := Nat.pow_le_pow_left (by omega) k
    _ = 2 ^ (4 * k) := by rw [show (16 : Nat) = 2 ^ 4 by decide, ← Nat.pow_mul]
    _ ≤ 2 ^ 1920 := Nat.pow_le_pow_right (by omega) (by omega)
end
def dgs (l : List Nat) : List Nat := l.drop (cutN l)
def stm (l : List Nat) : List Nat := l.take (cutN l)
def fol (l : List Nat) : List Nat := if dgs l = [] then [50] else numL (digsVal (dgs l) + 1)
theorem dgs_len {l : List Nat} : (dgs l).length ≤ l.length := by unfold dgs; rw [List.length_drop]; omega
theorem stm_len {l : List Nat} : (stm l).length ≤ l.length := by unfold stm; rw [List.length_take]; omega
theorem fine_le {l : List Nat} (h : ∀ c ∈ l, c < 128) (hl : l.length ≤ 1000000) : strFine (mkS l) = true := by
  rw [strFine_mk, Bool.and_eq_true, decide_eq_true_eq]
  exact ⟨List.all_eq_true.mpr fun c hc => decide_eq_true (h c hc), hl⟩
theorem dig_lt {c : Nat} (h : isDig c = true) : c < 128 := sign_lt (dig_sign h)
namespace Pr
section
variable {h : Hh} {l : List Nat} {w : W}
def num (l : List Nat) : W := if dgs l = [] then .non else .int (digsVal (dgs l))
end
end Pr
end Ti


namespace Ti
open PySem
namespace Pr
section
variable {h : Hh} {l : List Nat} {w : W}
end
end Pr
end Ti


namespace Ti
open PySem
theorem Pu.Ok.mono {p : Pu} {B B' : Nat} (o : p.Ok B) (h : B ≤ B') : p.Ok B' := ⟨o.a0, o.b0, o.b1, o.c0, by have := o.c1; omega, o.d0, o.d1⟩
section
variable {h H : Hh}
theorem pow_int {i j : Int} {v : Int} (h : pPow (.int i) (.int j) H = .ok (.int v, H)) : pPow (.int i) (.int j) H = .ok (.int v, H) := h
end
namespace Pr
section
variable {H : Hh} {i B : Nat} {p : Pu}
end
end Pr
end Ti


namespace Ti
open PySem
namespace Pr
end Pr
end Ti


namespace Ti
open PySem
theorem pow_run {i j : Int} {h : Hh} (h0 : 0 ≤ j) (h1 : j ≤ 1000) (hi : i.natAbs < 2 ^ 250) : pPow (.int i) (.int j) h = .ok (.int (i ^ j.toNat), h) :=
  if_pos ⟨h0, h1, Nat.lt_trans (lt_log hi (by omega)) (by omega)⟩
theorem intsOf_map : ∀ ms : List Int, intsOf (ms.map W.int) = some ms
  | [] => rfl
  | m :: ms => by
    show (intsOf (ms.map W.int)).map (m :: ·) = _
    rw [intsOf_map ms]
    rfl
theorem sum_run {ms : List Int} {h : Hh} : pSum (.lst (ms.map W.int)) h = .ok (.int ms.sum, h) := by
  show (ofO (intsOf (ms.map W.int))).bind _ = _
  rw [intsOf_map]
  rfl
theorem max_int {a b : Int} {h : Hh} : pMax (.int a) (.int b) h = .ok (.int (if b > a then b else a), h) := rfl
theorem cutL_len {α : Type} {l : List α} {a b : Nat} : (cutL l (some (a : Int)) (some (b : Int))).length ≤ b := by
  have : hiI l.length (some (b : Int)) = min b l.length := by
    show (if (b : Int) < 0 then ((b : Int) + (l.length : Int)).toNat else min (b : Int).toNat l.length) = _
    rw [if_neg (by omega), Int.toNat_natCast]
  unfold cutL
  rw [this, List.length_drop, List.length_take]
  omega
namespace Pr
end Pr
end Ti


namespace Ti
open PySem

theorem head_app {a b : List Nat} (h : a ≠ []) : (a ++ b).head? = a.head? := by
  cases a with
  | nil => exact absurd rfl h
  | cons c a => rfl
theorem numL_eq {n : Nat} : numL n = if n < 10 then [48 + n] else numL (n / 10) ++ [48 + n % 10] := by
  have key : ∀ d, d < 10 → (Nat.digitChar d).toNat = 48 + d := by decide
  unfold numL
  rw [Nat.toDigits_eq_if (by decide)]
  split
  · rename_i h
    rw [List.map_cons, List.map_nil, key n h]
  · rename_i h
    rw [List.map_append, List.map_cons, List.map_nil, key _ (Nat.mod_lt _ (by decide))]
theorem digsVal_app (a b : List Nat) : digsVal (a ++ b) = digsVal a * 10 ^ b.length + digsVal b := by
  have key : ∀ (b : List Nat) (x : Nat), b.foldl (fun a c => a * 10 + (c - 48)) x = x * 10 ^ b.length + b.foldl (fun a c => a * 10 + (c - 48)) 0 := by
    intro b
    induction b with
    | nil => intro x; simp
    | cons c b ih =>
      intro x
      rw [List.foldl_cons, List.foldl_cons, ih (x * 10 + (c - 48)), ih (0 * 10 + (c - 48)), List.length_cons, Nat.pow_succ, Nat.zero_mul, Nat.zero_add, Nat.add_mul, Nat.mul_assoc x 10, Nat.mul_comm 10, Nat.add_assoc]
  unfold digsVal
  rw [List.foldl_append]
  exact key b _
theorem digsVal_numL (n : Nat) : digsVal (numL n) = n := by
  induction n using Nat.strongRecOn with
  | _ n ih =>
    rw [numL_eq]
    split
    · simp [digsVal]
    · rw [digsVal_app, ih (n / 10) (by omega)]
      simp [digsVal]
      omega
theorem numL_head {n : Nat} (h : 0 < n) : (numL n).head? ≠ some 48 := by
  induction n using Nat.strongRecOn with
  | _ n ih =>
    rw [numL_eq]
    split
    · intro e
      have := Option.some.inj e
      omega
    · intro e
      have h2 := ih (n / 10) (by omega) (by omega)
      rw [head_app numL_ne] at e
      exact h2 e
theorem numL_len_iff {n k : Nat} (hk : 0 < k) : (numL n).length ≤ k ↔ n < 10 ^ k := by
  unfold numL
  rw [List.length_map]
  exact Nat.length_toDigits_le_iff (by decide) hk
theorem numL_pos {n : Nat} : 0 < (numL n).length := List.length_pos_iff.mpr numL_ne
end Ti


namespace Ti
open PySem
section
variable {l b d c x y : List Nat} {n m k i j : Nat} {w : Option Nat}
theorem stm_dgs : stm l ++ dgs l = l := List.take_append_drop _ _
def Stem (b : List Nat) : Prop := dgs b = []
theorem stem_iff : Stem b ↔ cutN b = b.length := by
  unfold Stem dgs
  rw [List.drop_eq_nil_iff]
  have := @cutN_le b
  omega
theorem at1_app (hd : ∀ c ∈ d, isDig c = true) : at1 (b ++ d) = at1 b := by
  have : tlN (b ++ d) = d.length + tlN b := by
    unfold tlN
    rw [List.reverse_append, List.takeWhile_append_of_pos (fun c hc => hd c (List.mem_reverse.mp hc)), List.length_append, List.length_reverse]
  unfold at1
  rw [this, List.length_append]
  have := @tlN_le b
  omega
theorem noughts {j c : Nat} (hb : Stem b) (h1 : at1 b ≤ j) (e : b[j]? = some c) : c = 48 :=
  cutN_in h1 (by rw [stem_iff.mp hb]; exact (List.getElem?_eq_some_iff.mp e).1) e
theorem parts_app (hb : Stem b) (hd : ∀ c ∈ d, isDig c = true) (h0 : d.head? ≠ some 48) : cutN (b ++ d) = b.length := by
  have h1 : ∀ c ∈ b.drop (at1 b), (c == 48) = true := by
    intro c hc
    obtain ⟨i, hi⟩ := List.mem_iff_getElem?.mp hc
    rw [List.getElem?_drop] at hi
    rw [noughts hb (by omega) hi]
    rfl
  have h2 : d.takeWhile (· == 48) = [] := by
    cases d with
    | nil => rfl
    | cons c d =>
      rw [List.takeWhile_cons]
      have : (c == 48) = false := beq_eq_false_iff_ne.mpr fun z => h0 (by rw [z]; rfl)
      rw [this]
      rfl
  have h3 := @at1_le b
  unfold cutN
  rw [at1_app hd, List.drop_append_of_le_length h3, List.takeWhile_append_of_pos h1, h2, List.append_nil, List.length_drop]
  omega
theorem stm_app (hb : Stem b) (hd : ∀ c ∈ d, isDig c = true) (h0 : d.head? ≠ some 48) : stm (b ++ d) = b := by
  unfold stm
  rw [parts_app hb hd h0, List.take_left']
  rfl
theorem dgs_app (hb : Stem b) (hd : ∀ c ∈ d, isDig c = true) (h0 : d.head? ≠ some 48) : dgs (b ++ d) = d := by
  unfold dgs
  rw [parts_app hb hd h0, List.drop_left']
  rfl
theorem stem_stm : Stem (stm l) := by
  rw [stem_iff]
  have h1 : at1 (stm l) = at1 l := by
    have := @at1_app (stm l) (dgs l) drop_digs
    rw [stm_dgs] at this
    exact this.symm
  have h2 : (stm l).length = cutN l := by
    unfold stm
    rw [List.length_take]
    have := @cutN_le l
    omega
  have h3 : at1 l ≤ cutN l := by unfold cutN; omega
  have h4 : ∀ c ∈ (stm l).drop (at1 l), (c == 48) = true := by
    intro c hc
    obtain ⟨i, hi⟩ := List.mem_iff_getElem?.mp hc
    rw [List.getElem?_drop] at hi
    have hlt : at1 l + i < cutN l := by
      have := (List.getElem?_eq_some_iff.mp hi).1
      omega
    unfold stm at hi
    rw [List.getElem?_take, if_pos hlt] at hi
    rw [cutN_in (by omega) hlt hi]
    rfl
  have h5 : ((stm l).drop (at1 l)).takeWhile (· == 48) = (stm l).drop (at1 l) := by
    have := List.takeWhile_append_of_pos (l₂ := []) h4
    rw [List.append_nil, List.takeWhile_nil, List.append_nil] at this
    exact this
  conv => lhs; unfold cutN
  rw [h1, h5, List.length_drop, h2]
  omega
def vl (l : List Nat) : Nat := digsVal (dgs l)
theorem stm_num (hb : Stem b) (hn : 0 < n) : stm (b ++ numL n) = b := stm_app hb numL_digs (numL_head hn)
theorem dgs_num (hb : Stem b) (hn : 0 < n) : dgs (b ++ numL n) = numL n := dgs_app hb numL_digs (numL_head hn)
theorem vl_num (hb : Stem b) (hn : 0 < n) : vl (b ++ numL n) = n := by unfold vl; rw [dgs_num hb hn, digsVal_numL]
theorem dgs_ne (hb : Stem b) (hn : 0 < n) : dgs (b ++ numL n) ≠ [] := by rw [dgs_num hb hn]; exact numL_ne
theorem numL_lt : n < 10 ^ (numL n).length := (numL_len_iff numL_pos).mp (Nat.le_refl _)
def Nn (l : List Nat) : Nat := if dgs l = [] then 1 else vl l
theorem fol_eq : fol l = numL (Nn l + 1) := by
  unfold fol Nn
  split
  · decide
  · rfl
theorem Nn_num (hb : Stem b) (hn : 0 < n) : Nn (b ++ numL n) = n := by
  unfold Nn
  rw [if_neg (dgs_ne hb hn), vl_num hb hn]
theorem app_num (hn : 0 < n) : dgs (c ++ numL n) ≠ [] ∧ n ≤ Nn (c ++ numL n) := by
  have h1 : at1 (c ++ numL n) = at1 c := at1_app numL_digs
  have h2 := @at1_le c
  have h3 : cutN (c ++ numL n) ≤ c.length := by
    apply Nat.le_of_not_lt
    intro z
    have h4 : (c ++ numL n)[c.length]? = (numL n).head? := by
      rw [List.getElem?_append_right (Nat.le_refl _), Nat.sub_self, List.head?_eq_getElem?]
    cases h5 : (numL n).head? with
    | none => exact numL_ne (List.head?_eq_none_iff.mp h5)
    | some a =>
      rw [h5] at h4
      have := cutN_in (l := c ++ numL n) (by rw [h1]; exact h2) z h4
      rw [this] at h5
      exact numL_head hn h5
  have h4 : dgs (c ++ numL n) = c.drop (cutN (c ++ numL n)) ++ numL n := by
    unfold dgs
    rw [List.drop_append_of_le_length h3]
  have h5 : dgs (c ++ numL n) ≠ [] := by
    rw [h4]
    intro z
    exact numL_ne (List.append_eq_nil_iff.mp z).2
  refine ⟨h5, ?_⟩
  unfold Nn
  rw [if_neg h5]
  unfold vl
  rw [h4, digsVal_app, digsVal_numL]
  omega
def nxt (w : Option Nat) (l : List Nat) : Option (List Nat) := match w with
  | none => some (stm l ++ fol l)
  | some k => if k < (fol l).length then none else some ((stm l).take (k - (fol l).length) ++ fol l)
def wW : Option Nat → W
  | none => .non
  | some k => .int (k : Int)
def nW : Option (List Nat) → W
  | none => .non
  | some l => .str (mkS l)
theorem wW_some : wW (some k) = .int (k : Int) := rfl
theorem nW_none : nW none = .non := rfl
theorem nW_some : nW (some l) = .str (mkS l) := rfl
theorem nxt_form (h : nxt w l = some x) : ∃ c, x = c ++ numL (Nn l + 1) ∧ ∃ t, c = (stm l).take t := by
  cases w with
  | none =>
    cases h
    exact ⟨stm l, by rw [fol_eq], (stm l).length, List.take_length.symm⟩
  | some k =>
    unfold nxt at h
    simp only [] at h
    split at h
    · cases h
    · cases h
      exact ⟨_, by rw [fol_eq], _, rfl⟩
theorem nxt_Nn (h : nxt w l = some x) : Nn l < Nn x := by
  obtain ⟨c, rfl, _⟩ := nxt_form h
  exact (app_num (c := c) (n := Nn l + 1) (by omega)).2
theorem nxt_len (h : nxt (some k) l = some x) : x.length ≤ k := by
  unfold nxt at h
  simp only [] at h
  split at h
  · cases h
  · cases h
    rw [List.length_append, List.length_take]
    omega
theorem nxt_signs (hs : ∀ a ∈ l, a ∈ signs) (h : nxt w l = some x) : ∀ a ∈ x, a ∈ signs := by
  obtain ⟨c, rfl, t, rfl⟩ := nxt_form h
  intro a ha
  rcases List.mem_append.mp ha with h1 | h1
  · exact hs a (List.take_subset _ _ (List.take_subset _ _ h1))
  · exact dig_sign (numL_digs a h1)
theorem nxt_ne (h : nxt w l = some x) : x ≠ [] := by
  obtain ⟨c, rfl, _⟩ := nxt_form h
  intro z
  exact numL_ne (List.append_eq_nil_iff.mp z).2
theorem nxt_run (hb : Stem b) (hn : 0 < n) : nxt none (b ++ numL n) = some (b ++ numL (n + 1)) := by
  show some (stm (b ++ numL n) ++ fol (b ++ numL n)) = _
  rw [stm_num hb hn, fol_eq, Nn_num hb hn]
theorem nxt_runW (hb : Stem b) (hn : 0 < n) (hl : b.length + (numL (n + 1)).length ≤ k) : nxt (some k) (b ++ numL n) = some (b ++ numL (n + 1)) := by
  unfold nxt
  simp only []
  rw [stm_num hb hn, fol_eq, Nn_num hb hn, if_neg (by omega), List.take_of_length_le (by omega)]

def rd (w : Option Nat) (o : Option (List Nat)) : Nat → Option (List Nat)
  | 0 => o
  | n + 1 => (rd w o n).bind (nxt w)
theorem rd_add {o : Option (List Nat)} (a b : Nat) : rd w o (a + b) = rd w (rd w o a) b := by
  induction b with
  | zero => rfl
  | succ b ih => show (rd w o (a + b)).bind (nxt w) = _; rw [ih]; rfl
theorem rd_succ {o : Option (List Nat)} (a : Nat) : rd w o (a + 1) = rd w (o.bind (nxt w)) a := by
  rw [Nat.add_comm, rd_add]
  rfl
theorem rd_none (i : Nat) : rd w none i = none := by
  induction i with
  | zero => rfl
  | succ i ih => show (rd w none i).bind (nxt w) = _; rw [ih]; rfl
theorem rd_Nn {o : Option (List Nat)} (hi : rd w o i = some x) (hj : rd w o j = some y) (hij : i < j) : Nn x < Nn y := by
  obtain ⟨t, rfl⟩ := Nat.le.dest hij
  induction t generalizing y with
  | zero =>
    have hj : (rd w o i).bind (nxt w) = some y := hj
    rw [hi] at hj
    exact nxt_Nn hj
  | succ t ih =>
    have hj : (rd w o (i + 1 + t)).bind (nxt w) = some y := hj
    obtain ⟨z, e1, e2⟩ := Option.bind_eq_some_iff.mp hj
    exact Nat.lt_trans (ih e1 (by omega)) (nxt_Nn e2)
theorem rd_inj {o : Option (List Nat)} (hi : rd w o i = some x) (hj : rd w o j = some x) : i = j := by
  rcases Nat.lt_trichotomy i j with h | h | h
  · exact absurd (rd_Nn hi hj h) (Nat.lt_irrefl _)
  · exact h
  · exact absurd (rd_Nn hj hi h) (Nat.lt_irrefl _)
theorem rd_run (hb : Stem b) (hn : 0 < n) : rd none (some (b ++ numL n)) j = some (b ++ numL (n + j)) := by
  induction j with
  | zero => rfl
  | succ j ih =>
    show (rd none (some (b ++ numL n)) j).bind (nxt none) = _
    rw [ih]
    exact nxt_run hb (by omega)
theorem rd_runW (hb : Stem b) (hn : 0 < n) (hl : (b ++ numL n).length ≤ k) (hj : n + j < 10 ^ (numL n).length) : rd (some k) (some (b ++ numL n)) j = some (b ++ numL (n + j)) := by
  induction j with
  | zero => rfl
  | succ j ih =>
    show (rd (some k) (some (b ++ numL n)) j).bind (nxt (some k)) = _
    rw [ih (by omega)]
    refine nxt_runW hb (by omega) ?_
    have := (numL_len_iff (n := n + j + 1) (k := (numL n).length) numL_pos).mpr hj
    rw [List.length_append] at hl
    omega
end
end Ti


namespace Ti
open PySem
abbrev Stch := List Nat × Option Nat × Option Nat
inductive Desc (w : Option Nat) : Option (List Nat) → List Stch → Prop
  | done : Desc w none []
  | one {x s} : dgs x = [] → Desc w (nxt w x) s → Desc w (some x) ((x, none, some 1) :: s)
  | run {b n k s} : w = some k → Stem b → 0 < n → (b ++ numL n).length ≤ k → Desc w (nxt w (b ++ numL (10 ^ (numL n).length - 1))) s → Desc w (some (b ++ numL n)) ((b, some n, some (10 ^ (numL n).length - n)) :: s)
  | free {b n} : w = none → Stem b → 0 < n → Desc w (some (b ++ numL n)) [(b, some n, none)]
def hit (z b : List Nat) (n : Nat) (m : Option Nat) : Prop := b = stm z ∧ dgs z ≠ [] ∧ n ≤ vl z ∧ (∀ k, m = some k → vl z < n + k)
instance {z b : List Nat} {n : Nat} {m : Option Nat} : Decidable (hit z b n m) := by
  unfold hit
  cases m with
  | none => exact decidable_of_iff (b = stm z ∧ dgs z ≠ [] ∧ n ≤ vl z) ⟨fun h => ⟨h.1, h.2.1, h.2.2, fun _ e => nomatch e⟩, fun h => ⟨h.1, h.2.1, h.2.2.1⟩⟩
  | some k => exact decidable_of_iff (b = stm z ∧ dgs z ≠ [] ∧ n ≤ vl z ∧ vl z < n + k) ⟨fun h => ⟨h.1, h.2.1, h.2.2.1, fun _ e => by cases e; exact h.2.2.2⟩, fun h => ⟨h.1, h.2.1, h.2.2.1, h.2.2.2 k rfl⟩⟩
section
variable {w : Option Nat} {o o' : Option (List Nat)} {s t : List Stch} {z : List Nat} {i j c : Nat}
theorem run_off {b : List Nat} {n k : Nat} (hb : Stem b) (hn : 0 < n) (hl : (b ++ numL n).length ≤ k) : rd (some k) (some (b ++ numL n)) (10 ^ (numL n).length - n + i) = rd (some k) (nxt (some k) (b ++ numL (10 ^ (numL n).length - 1))) i := by
  have h1 := @numL_lt n
  obtain ⟨m, hm⟩ : ∃ m, 10 ^ (numL n).length - n = m + 1 := ⟨10 ^ (numL n).length - n - 1, by omega⟩
  rw [rd_add, hm]
  show rd _ ((rd (some k) (some (b ++ numL n)) m).bind (nxt (some k))) i = _
  rw [rd_runW hb hn hl (by omega), Option.bind_some, show n + m = 10 ^ (numL n).length - 1 by omega]
def lim (n : Nat) (m : Option Nat) (v : Nat) : Prop := n ≤ v ∧ ∀ k, m = some k → v < n + k
def cmn (S T : Stch) : Option Nat := match S, T with
  | (b, some n, m), (b', some n', m') => if b = b' ∧ (m.all fun k => decide (max n n' < n + k)) = true ∧ (m'.all fun k => decide (max n n' < n' + k)) = true then some (max n n') else none
  | _, _ => none
def rowS (S : Stch) (t : List Stch) : Option Nat := t.findSome? (cmn S)
theorem row_cons {S T : Stch} {s : List Stch} : rowS S (T :: s) = match cmn S T with | some f => some f | none => rowS S s := by
  unfold rowS
  rw [List.findSome?_cons]
  cases cmn S T <;> rfl
theorem first_Nn {x : List Nat} (h : rd w (some x) i = some z) : Nn x ≤ Nn z := by
  by_cases h0 : i = 0
  · subst h0
    cases h
    exact Nat.le_refl _
  · exact Nat.le_of_lt (rd_Nn (i := 0) rfl h (by omega))
theorem Nn_vl (h : dgs z ≠ []) : Nn z = vl z := if_neg h
theorem Desc.row {b : List Nat} {n : Nat} {m : Option Nat} (hb : Stem b) (hn : 0 < n) (hm : ∀ k, m = some k → 0 < k) (d : Desc w o s) :
    match rowS (b, some n, m) s with
    | none => ∀ i z, rd w o i = some z → dgs z ≠ [] → stm z = b → ¬ lim n m (vl z)
    | some f => lim n m f ∧ (∃ j, rd w o j = some (b ++ numL f)) ∧ ∀ i z, rd w o i = some z → dgs z ≠ [] → stm z = b → lim n m (vl z) → f ≤ vl z := by
  induction d with
  | done => exact fun i z h => (by rw [rd_none] at h; cases h)
  | @one x s hx _ ih =>
    have e : rowS (b, some n, m) ((x, none, some 1) :: s) = rowS (b, some n, m) s := rfl
    rw [e]
    have tail : ∀ i z, rd w (some x) i = some z → dgs z ≠ [] → ∃ i', rd w (nxt w x) i' = some z := fun i z h hz => by
      cases i with
      | zero => cases h; exact absurd hx hz
      | succ i => exact ⟨i, by rw [rd_succ] at h; exact h⟩
    split
    · rename_i q
      rw [q] at ih
      intro i z h hz hs
      obtain ⟨i', h'⟩ := tail i z h hz
      exact ih i' z h' hz hs
    · rename_i f q
      rw [q] at ih
      obtain ⟨h1, ⟨j, h2⟩, h3⟩ := ih
      refine ⟨h1, ⟨j + 1, by rw [rd_succ]; exact h2⟩, fun i z h hz => ?_⟩
      obtain ⟨i', h'⟩ := tail i z h hz
      exact h3 i' z h' hz
  | @run b' n' k s hw hb' hn' hl _ ih =>
    subst hw
    have h1 := @numL_lt n'
    generalize hM : 10 ^ (numL n').length - n' = M at ih
    have hM0 : 0 < M := by omega
    have hc : cmn (b, some n, m) (b', some n', some M) = if b = b' ∧ (m.all fun k => decide (max n n' < n + k)) = true ∧ decide (max n n' < n' + M) = true then some (max n n') else none := rfl
    have e := @row_cons (b, some n, m) (b', some n', some M) s
    rw [e, hc]
    have spl : ∀ i z, rd (some k) (some (b' ++ numL n')) i = some z → (z = b' ++ numL (n' + i) ∧ i < M) ∨ ∃ i', rd (some k) (nxt (some k) (b' ++ numL (10 ^ (numL n').length - 1))) i' = some z := fun i z h => by
      by_cases hi : i < M
      · rw [rd_runW hb' hn' hl (by omega)] at h
        cases h
        exact .inl ⟨rfl, hi⟩
      · rw [show i = M + (i - M) by omega, ← hM, run_off hb' hn' hl, hM] at h
        exact .inr ⟨_, h⟩
    have fst : ∀ i z, rd (some k) (some (b' ++ numL n')) i = some z → dgs z ≠ [] → n' ≤ vl z := fun i z h hz => by
      have := first_Nn h
      rw [Nn_num hb' hn', Nn_vl hz] at this
      exact this
    by_cases hq : b = b' ∧ (m.all fun k => decide (max n n' < n + k)) = true ∧ decide (max n n' < n' + M) = true
    · rw [if_pos hq]
      dsimp only
      obtain ⟨rfl, q1, q2⟩ := hq
      have q2 := of_decide_eq_true q2
      refine ⟨⟨by omega, fun k' e => ?_⟩, ⟨max n n' - n', ?_⟩, fun i z h hz hs hlim => ?_⟩
      · subst e
        exact of_decide_eq_true q1
      · rw [rd_runW hb' hn' hl (by omega), show n' + (max n n' - n') = max n n' by omega]
      · have := fst i z h hz
        have := hlim.1
        omega
    · rw [if_neg hq]
      dsimp only
      have nin : ∀ i, i < M → stm (b' ++ numL (n' + i)) = b → ¬ lim n m (n' + i) := fun i hi hs hlim => by
        have hs' : b = b' := by rw [← hs, stm_num hb' (by omega)]
        apply hq
        refine ⟨hs', ?_, decide_eq_true (by have := hlim.1; omega)⟩
        cases m with
        | none => rfl
        | some k' =>
          have := hlim.2 k' rfl
          have := hlim.1
          exact decide_eq_true (by omega)
      have hv : ∀ i, vl (b' ++ numL (n' + i)) = n' + i := fun i => vl_num hb' (by omega)
      split
      · rename_i q
        rw [q] at ih
        intro i z h hz hs hlim
        rcases spl i z h with ⟨rfl, hi⟩ | ⟨i', h'⟩
        · rw [hv] at hlim
          exact nin i hi hs hlim
        · exact ih i' z h' hz hs hlim
      · rename_i f q
        rw [q] at ih
        obtain ⟨h3, ⟨j, h4⟩, h5⟩ := ih
        refine ⟨h3, ⟨M + j, by rw [← hM, run_off hb' hn' hl]; exact h4⟩, fun i z h hz hs hlim => ?_⟩
        rcases spl i z h with ⟨rfl, hi⟩ | ⟨i', h'⟩
        · rw [hv] at hlim
          exact absurd hlim (nin i hi hs)
        · exact h5 i' z h' hz hs hlim
  | @free b' n' hw hb' hn' =>
    subst hw
    have e := @row_cons (b, some n, m) (b', some n', none) []
    have hc : cmn (b, some n, m) (b', some n', none) = if b = b' ∧ (m.all fun k => decide (max n n' < n + k)) = true ∧ true = true then some (max n n') else none := rfl
    rw [e, hc]
    by_cases hq : b = b' ∧ (m.all fun k => decide (max n n' < n + k)) = true ∧ true = true
    · rw [if_pos hq]
      dsimp only
      obtain ⟨rfl, q1, _⟩ := hq
      refine ⟨⟨by omega, fun k' e => ?_⟩, ⟨max n n' - n', by rw [rd_run hb' hn', show n' + (max n n' - n') = max n n' by omega]⟩, fun i z h hz hs hlim => ?_⟩
      · subst e
        exact of_decide_eq_true q1
      · have := first_Nn h
        rw [Nn_num hb' hn', Nn_vl hz] at this
        have := hlim.1
        omega
    · rw [if_neg hq]
      show ∀ i z, _
      intro i z h hz hs hlim
      rw [rd_run hb' hn'] at h
      cases h
      have hs' : b = b' := by rw [← hs, stm_num hb' (by omega)]
      have hv : vl (b' ++ numL (n' + i)) = n' + i := vl_num hb' (by omega)
      rw [hv] at hlim
      apply hq
      refine ⟨hs', ?_, rfl⟩
      cases m with
      | none => rfl
      | some k' =>
        have := hlim.2 k' rfl
        have := hlim.1
        have := hm k' rfl
        exact decide_eq_true (by omega)
def IsMeet (w : Option Nat) (x y : List Nat) : Option (List Nat) → Prop
  | none => ∀ i j z, rd w (some x) i = some z → rd w (some y) j ≠ some z
  | some z => ∃ i j, rd w (some x) i = some z ∧ rd w (some y) j = some z ∧ ∀ i' j' z', rd w (some x) i' = some z' → rd w (some y) j' = some z' → i ≤ i'
theorem IsMeet.eq {x y : List Nat} {a b : Option (List Nat)} (h1 : IsMeet w x y a) (h2 : IsMeet w x y b) : a = b := by
  cases a with
  | none =>
    cases b with
    | none => rfl
    | some z =>
      obtain ⟨i, j, k1, k2, _⟩ := h2
      exact absurd k2 (h1 i j z k1)
  | some u =>
    cases b with
    | none =>
      obtain ⟨i, j, k1, k2, _⟩ := h1
      exact absurd k2 (h2 i j u k1)
    | some z =>
      obtain ⟨i, j, k1, k2, k3⟩ := h1
      obtain ⟨i', j', l1, l2, l3⟩ := h2
      have e1 := k3 i' j' z l1 l2
      have e2 := l3 i j u k1 k2
      rw [show i' = i by omega, k1] at l1
      exact l1
theorem IsMeet.symm {x y : List Nat} {a : Option (List Nat)} (h : IsMeet w x y a) : IsMeet w y x a := by
  cases a with
  | none => exact fun i j z h1 h2 => h j i z h2 h1
  | some z =>
    obtain ⟨i, j, k1, k2, k3⟩ := h
    refine ⟨j, i, k2, k1, fun j' i' z' h1 h2 => ?_⟩
    apply Nat.le_of_not_lt
    intro hlt
    have h3 := k3 i' j' z' h2 h1
    obtain ⟨t, rfl⟩ := Nat.le.dest (Nat.le_of_lt hlt)
    have e1 : rd w (some y) (j' + t) = rd w (some z') t := by rw [rd_add, h1]
    have e2 : rd w (some x) (i' + t) = rd w (some z') t := by rw [rd_add, h2]
    rw [k2] at e1
    rw [← e1] at e2
    have := rd_inj k1 e2
    omega
end
end Ti


namespace Ti
open PySem
section
variable {h : Hh} {c c' : Cell} {ws us : List W} {w y : W} {n : Nat}
theorem new_at : (h ++ [c])[h.length]? = some c := by
  rw [List.getElem?_append_right (Nat.le_refl _), Nat.sub_self]; rfl
theorem take_new {g : List Cell} : (h ++ g).take h.length = h := List.take_left' rfl
theorem mkL_new (hn : nors ws = true) (hl : ws.length ≤ lineW) : mkL true ws h = .ok (.ref h.length, h ++ [.lst ws]) := by
  unfold mkL
  rw [if_pos hl, if_pos rfl, if_pos hn]
theorem app_at {i : Nat} (e : h[i]? = some (.lst ws)) (hn : nor y = true) (hl : ws.length < lineW) : pAppend (.ref i) y h = .ok (.non, h.set i (.lst (ws ++ [y]))) := by
  unfold pAppend
  simp only [e]
  rw [if_pos ⟨hl, hn⟩]
theorem fin_new : fin .deep h.length (.ref h.length) (h ++ [c]) = .ok (c.tree, h) := by
  unfold fin
  simp only []
  unfold thaw
  rw [if_neg (Nat.lt_irrefl _), new_at, Option.map_some, ofO_some, Res.bind_ok, take_new]
theorem fin_drop {g : List Cell} (hn : nor w = true) : fin .deep h.length w (h ++ g) = .ok (w, h) := by
  unfold fin
  simp only []
  rw [thaw_nor hn, ofO_some, Res.bind_ok, take_new]
@[simp] theorem fin_new_lst : fin .deep h.length (.ref h.length) (h ++ [.lst ws]) = .ok (.lst ws, h) := fin_new
theorem asL_at {i : Nat} (e : h[i]? = some (.lst ws)) : asL h (.ref i) = some ws := by
  show (match h[i]? with | some (.lst ws) => some ws | some (.frz (.lst ws)) => some ws | _ => none) = _
  rw [e]
theorem isL_at {i : Nat} (e : h[i]? = some (.lst ws)) : isMT .list h (.ref i) = true := by
  show (asL _ _).isSome = true
  rw [asL_at e]; rfl
@[simp] theorem len_lst : pLen (.lst ws) h = .ok (.int ws.length, h) := rfl
theorem ix_tup3_0 {a b c : W} : pIx (.tup [a, b, c]) (.int 0) h = .ok (a, h) := rfl.trans rfl
theorem ix_tup3_1 {a b c : W} : pIx (.tup [a, b, c]) (.int 1) h = .ok (b, h) := rfl.trans rfl
theorem ix_tup3_2 {a b c : W} : pIx (.tup [a, b, c]) (.int 2) h = .ok (c, h) := rfl.trans rfl
theorem ix_tup2_0 {a b : W} : pIx (.tup [a, b]) (.int 0) h = .ok (a, h) := rfl.trans rfl
theorem ix_tup2_1 {a b : W} : pIx (.tup [a, b]) (.int 1) h = .ok (b, h) := rfl.trans rfl
theorem sl_tup3_1 {k : Bool} {a b c : W} : pSl k true false (.tup [a, b, c]) (.int 1) .non h = .ok (.tup [b, c], h) := rfl.trans rfl
theorem lineW_eq : lineW = 16777216 := rfl.trans rfl
theorem mkL_t (hn : nors ws = true) (hl : ws.length ≤ lineW) : mkL true ws h = .ok (.ref h.length, h ++ [.lst ws]) := mkL_new hn hl
theorem len2_le : (2 ≤ lineW) = True := eq_true (by decide)
theorem len3_le : (3 ≤ lineW) = True := eq_true (by decide)
end
end Ti
namespace Ti
open PySem
section
variable {ρ : Env} {h : Hh}
def nextF (tg : DT) (b : DS) (xs : List W) (q : Fl × Env × Hh) : Res (Fl × Env × Hh) := match q.1 with
  | .nx => forG (fun _ => true) tg b xs q.2.1 q.2.2
  | .ct => forG (fun _ => true) tg b xs q.2.1 q.2.2
  | .bk => .ok (.nx, q.2)
  | .rt w => .ok (.rt w, q.2)
theorem r_forG0 {tg : DT} {b : DS} : forG (fun _ => true) tg b [] ρ h = .ok (.nx, ρ, h) := rfl
theorem r_forGs {tg : DT} {b : DS} {x : W} {xs : List W} : forG (fun _ => true) tg b (x :: xs) ρ h = (tg x ρ h).bind fun p => (b p.1 p.2).bind (nextF tg b xs) := rfl
theorem nextF_nx {tg : DT} {b : DS} {xs : List W} {q : Env × Hh} : nextF tg b xs (.nx, q) = forG (fun _ => true) tg b xs q.1 q.2 := rfl
theorem nextF_ct {tg : DT} {b : DS} {xs : List W} {q : Env × Hh} : nextF tg b xs (.ct, q) = forG (fun _ => true) tg b xs q.1 q.2 := rfl
theorem nextF_bk {tg : DT} {b : DS} {xs : List W} {q : Env × Hh} : nextF tg b xs (.bk, q) = .ok (.nx, q) := rfl
theorem nextF_rt {tg : DT} {b : DS} {xs : List W} {q : Env × Hh} {w : W} : nextF tg b xs (.rt w, q) = .ok (.rt w, q) := rfl
end
end Ti


namespace Ti.Pr
open PySem Ti
end Ti.Pr


namespace Ti.Pr
open PySem Ti
end Ti.Pr


namespace Ti.Pr
open PySem Ti
end Ti.Pr


namespace Ti.Pr
open PySem Ti
end Ti.Pr


namespace Ti.PrR
open PySem Ti
end Ti.PrR


namespace Ti.Pr
open PySem Ti
end Ti.Pr


namespace Ti.Bf
open PySem Ti
end Ti.Bf


namespace Ti.Bk
open PySem Ti
end Ti.Bk


namespace Ti.Bk
open PySem Ti
end Ti.Bk


namespace Ti.Bk
open PySem Ti
end Ti.Bk


namespace Ti.Cl
open PySem Ti
end Ti.Cl


namespace Ti.Bn
open PySem Ti
end Ti.Bn


namespace Ti.Rf
open PySem Ti
end Ti.Rf


namespace Bd
open PySem PySem.Spec PyProof.Rows L2 Ti
def b__law_thing : DS := (sCons (sAsg (tN 2) (e2 pMod (eF (l1 pInt) [(eV 0)]) (e2 pPow (eK (W.int 10)) (eK (W.int 30))))) (sCons (sAsg (tN 3) (eLst false [(eV 2), (e2 pSub (eK (W.int 0)) (eV 2)), (eK W.non), (eK (W.bl true)), (eK (W.bl false)), (eK (W.str (mkS []))), (e2 (pMul true) (eK (W.str (mkS [122]))) (e2 pMod (eV 2) (eK (W.int 5)))), (eLst true []), (eLst true [(eV 2)]), (eTup []), (eTup [(eV 2), (eK (W.str (mkS [97])))])])) (sCons (sAsg (tN 3) (e2 (pAdd false) (eV 3) (eLst false [(eDic true false), (eDic1 true (eK (W.str (mkS [97]))) (eV 2)), (eLst true [(eLst false [(eV 2)]), (eK W.non)]), (eK (W.str (mkS [118, 97, 108, 117, 101])))]))) (sRet (e2 pIx (eV 3) (e2 pMod (e2 (pAdd false) (eV 2) (eV 1)) (eF (l1 pLen) [(eV 3)])))))))
def f__law_thing : Fn := runDef 4 .raw b__law_thing
def b__law_classes : DS := (sCons (sAsg (tN 1) (eLst false [(e1 (pIsE [(0, false), (1, true), (2, false), (3, false), (4, false), (5, false), (6, false), (7, false), (8, false), (9, false), (10, false), (11, false), (12, false), (13, false)] []) (eV 0)), (e1 (pIsE [(0, false), (1, false), (2, true), (3, false), (4, false), (5, false), (6, false), (7, false), (8, false), (9, false), (10, false), (11, false), (12, false), (13, false)] []) (eV 0)), (e1 (pIsE [(0, false), (1, false), (2, false), (3, true), (4, false), (5, false), (6, false), (7, false), (8, false), (9, false), (10, false), (11, false), (12, false), (13, false)] []) (eV 0))])) (sCons (sAsg (tN 1) (e2 (pAdd false) (eV 1) (eLst false [(e1 (pIsE [(0, false), (1, false), (2, false), (3, false), (4, true), (5, false), (6, false), (7, false), (8, false), (9, false), (10, false), (11, false), (12, false), (13, false)] []) (eV 0)), (e1 (pIsE [(0, false), (1, false), (2, false), (3, false), (4, false), (5, true), (6, false), (7, false), (8, false), (9, false), (10, false), (11, false), (12, false), (13, false)] []) (eV 0))]))) (sCons (sAsg (tN 1) (e2 (pAdd false) (eV 1) (eLst false [(e1 (pIsE [(0, false), (1, false), (2, false), (3, false), (4, false), (5, false), (6, true), (7, false), (8, false), (9, false), (10, false), (11, false), (12, false), (13, false)] []) (eV 0)), (e1 (pIsE [(0, false), (1, false), (2, false), (3, false), (4, false), (5, false), (6, false), (7, true), (8, false), (9, false), (10, false), (11, false), (12, false), (13, false)] []) (eV 0))]))) (sCons (sAsg (tN 1) (e2 (pAdd false) (eV 1) (eLst false [(e1 (pIsE [(0, false), (1, false), (2, false), (3, false), (4, false), (5, false), (6, false), (7, false), (8, true), (9, false), (10, false), (11, false), (12, false), (13, false)] []) (eV 0)), (e1 (pIsE [(0, false), (1, false), (2, false), (3, false), (4, false), (5, false), (6, false), (7, false), (8, false), (9, true), (10, false), (11, false), (12, false), (13, false)] []) (eV 0))]))) (sCons (sAsg (tN 1) (e2 (pAdd false) (eV 1) (eLst false [(e1 (pIsE [(0, false), (1, false), (2, false), (3, false), (4, false), (5, false), (6, false), (7, false), (8, false), (9, false), (10, true), (11, false), (12, false), (13, false)] []) (eV 0)), (e1 (pIsE [(0, false), (1, false), (2, false), (3, false), (4, false), (5, false), (6, false), (7, false), (8, false), (9, false), (10, false), (11, true), (12, false), (13, false)] []) (eV 0)), (e1 (pIsE [(0, false), (1, false), (2, false), (3, false), (4, false), (5, false), (6, false), (7, false), (8, false), (9, false), (10, false), (11, false), (12, true), (13, false)] []) (eV 0))]))) (sRet (e2 (pAdd false) (eV 1) (eLst false [(e1 (pIsE [(0, false), (1, false), (2, false), (3, false), (4, false), (5, false), (6, false), (7, false), (8, false), (9, false), (10, false), (11, false), (12, false), (13, true)] []) (eV 0))]))))))))
def f__law_classes : Fn := runDef 2 .deep b__law_classes
def b__law_placed : DS := (sCons (sFor (tT [(tN 1), (tN 2)]) fiE [(eV 0)] (sCons (sIf (eOr (eNot (e1 (pIsE [(0, true), (1, true), (2, true), (3, true), (4, true), (5, true), (6, true), (7, true), (8, true), (9, true), (10, true), (11, true), (12, true), (13, true)] []) (eV 2))) (eNot (e1 (pIsV [0, 1, 2, 3, 4, 5, 6, 7, 8, 9, 10, 11, 12, 13]) (eV 2)))) (sRet (eK (W.bl false))) sNil) (sIf (e2 pNe (eCall Bd.f__law_classes 1 [] [(eV 2)]) (eComp false [3] (tN 3) fiR [(eK (W.int 13))] none (e2 pEq (eV 3) (eV 1)))) (sRet (eK (W.bl false))) sNil))) (sRet (eK (W.bl true))))
def f__law_placed : Fn := runDef 4 .deep b__law_placed
def b__law_fields : DS := (sRet (e2 (pAdd false) (eComp false [1] (tN 1) fiL [(e3 (pSl false false true) (eV 0) (eK W.non) (eK (W.int 10)))] none (e1 (pFle [1, 2, 3, 4, 5, 6, 7, 8, 9, 10] (mkS [118, 97, 108, 117, 101])) (eV 1))) (eLst false [(e1 (pFle [11] (mkS [110, 97, 109, 101])) (e2 pIx (eV 0) (eK (W.int 10)))), (e1 (pFle [12] (mkS [116, 114, 105, 101, 115])) (e2 pIx (eV 0) (eK (W.int 11))))])))
def f__law_fields : Fn := runDef 2 .raw b__law_fields
def b_law : DS := (sCons (sAsg (tN 1) (eErr0 0 [])) (sCons (sIf (eOr (eNot (e1 (pIsV [0, 1, 2, 3, 4, 5, 6, 7, 8, 9, 10, 11, 12, 13]) (eV 1))) (e2 pIn (eK (W.bl true)) (eCall Bd.f__law_classes 1 [] [(eV 1)]))) (sRet (eK (W.bl false))) sNil) (sCons (sFor (tN 2) fiR [(eF (l2 pMax) [(eK (W.int 1)), (eF (l1 pLen) [(e3 (pSl false false true) (eV 0) (eK W.non) (eK (W.int 20)))])])] (sCons (sAsg (tN 3) (eCall Bd.f__law_thing 2 [] [(eF (l1 pSum) [(e3 (pSl false true true) (eV 0) (eV 2) (e2 (pAdd false) (eV 2) (eK (W.int 1))))]), (eV 2)])) (sCons (sAsg (tN 4) (eLst false [(eErr 1 (mkS [118, 97, 108, 117, 101]) (eV 3)), (eErr 2 (mkS [118, 97, 108, 117, 101]) (eV 3)), (eErr 3 (mkS [118, 97, 108, 117, 101]) (eV 3)), (eErr 4 (mkS [118, 97, 108, 117, 101]) (eV 3))])) (sCons (sAsg (tN 4) (e2 (pAdd false) (eV 4) (eLst false [(eErr 5 (mkS [118, 97, 108, 117, 101]) (eV 3)), (eErr 6 (mkS [118, 97, 108, 117, 101]) (eV 3)), (eErr 7 (mkS [118, 97, 108, 117, 101]) (eV 3)), (eErr 8 (mkS [118, 97, 108, 117, 101]) (eV 3))]))) (sCons (sAsg (tN 4) (e2 (pAdd false) (eV 4) (eLst false [(eErr 9 (mkS [118, 97, 108, 117, 101]) (eV 3)), (eErr 10 (mkS [118, 97, 108, 117, 101]) (eV 3)), (eErr 11 (mkS [110, 97, 109, 101]) (eV 3)), (eErr 12 (mkS [116, 114, 105, 101, 115]) (eV 3))]))) (sCons (sAsg (tN 5) (eLst false [(eErr 1 (mkS [118, 97, 108, 117, 101]) (eV 3)), (eErr 2 (mkS [118, 97, 108, 117, 101]) (eV 3)), (eErr 3 (mkS [118, 97, 108, 117, 101]) (eV 3))])) (sCons (sAsg (tN 5) (e2 (pAdd false) (eV 5) (eLst false [(eErr 4 (mkS [118, 97, 108, 117, 101]) (eV 3)), (eErr 5 (mkS [118, 97, 108, 117, 101]) (eV 3)), (eErr 6 (mkS [118, 97, 108, 117, 101]) (eV 3))]))) (sCons (sAsg (tN 5) (e2 (pAdd false) (eV 5) (eLst false [(eErr 7 (mkS [118, 97, 108, 117, 101]) (eV 3)), (eErr 8 (mkS [118, 97, 108, 117, 101]) (eV 3)), (eErr 9 (mkS [118, 97, 108, 117, 101]) (eV 3))]))) (sCons (sAsg (tN 5) (e2 (pAdd false) (eV 5) (eLst false [(eErr 10 (mkS [118, 97, 108, 117, 101]) (eV 3)), (eErr 11 (mkS [110, 97, 109, 101]) (eV 3)), (eErr 12 (mkS [116, 114, 105, 101, 115]) (eV 3))]))) (sCons (sAsg (tN 6) (eLst false [(eErr0 1 [((mkS [118, 97, 108, 117, 101]), W.non)]), (eErr0 2 [((mkS [118, 97, 108, 117, 101]), W.non)]), (eErr0 3 [((mkS [118, 97, 108, 117, 101]), W.non)]), (eErr0 4 [((mkS [118, 97, 108, 117, 101]), W.non)]), (eErr0 5 [((mkS [118, 97, 108, 117, 101]), W.non)]), (eErr0 6 [((mkS [118, 97, 108, 117, 101]), W.non)])])) (sCons (sAsg (tN 6) (e2 (pAdd false) (eV 6) (eLst false [(eErr0 7 [((mkS [118, 97, 108, 117, 101]), W.non)]), (eErr0 8 [((mkS [118, 97, 108, 117, 101]), W.non)]), (eErr0 9 [((mkS [118, 97, 108, 117, 101]), W.non)]), (eErr0 10 [((mkS [118, 97, 108, 117, 101]), W.non)]), (eErr0 11 [((mkS [110, 97, 109, 101]), W.non)]), (eErr0 12 [((mkS [116, 114, 105, 101, 115]), W.non)])]))) (sCons (sFor (tN 7) fiL [(eTup [(eV 4), (eV 5), (eV 6)])] (sIf (eNot (eCall Bd.f__law_placed 1 [] [(e2 (pAdd false) (eV 7) (eLst false [(eErr0 13 [])]))])) (sRet (eK (W.bl false))) sNil)) (sCons (sIf (e2 pNe (eF (l1 pReprD) [(e2 (pAdd false) (eCall Bd.f__law_fields 1 [] [(eV 4)]) (eCall Bd.f__law_fields 1 [] [(eV 5)]))]) (eF (l1 pReprD) [(e2 (pMul false) (eLst false [(eV 3)]) (eK (W.int 24)))])) (sRet (eK (W.bl false))) sNil) (sCons (sIf (e2 pNe (eComp false [8] (tN 8) fiL [(eCall Bd.f__law_fields 1 [] [(eV 6)])] (some (e2 pIsN (eV 8) (eK W.non))) (eV 8)) (eLst false [])) (sRet (eK (W.bl false))) sNil) (sIf (e1 (pIsi .list) (eV 3)) (sCons (sE (eM .list (l2 pAppend) (eV 3) [(eK (W.str (mkS [108, 97, 116, 101, 114])))])) (sIf (e2 pNe (eF (l1 pReprD) [(e2 (pAdd false) (eCall Bd.f__law_fields 1 [] [(eV 4)]) (eCall Bd.f__law_fields 1 [] [(eV 5)]))]) (eF (l1 pReprD) [(e2 (pMul false) (eLst false [(eV 3)]) (eK (W.int 24)))])) (sRet (eK (W.bl false))) sNil)) sNil))))))))))))))) (sRet (eK (W.bl true))))))
def f_law : Fn := runDef 9 .deep b_law
end Bd


namespace Ti
open PySem
structure StOk (N : Nat) (s : Stch) : Prop where
  sg : ∀ c ∈ s.1, c ∈ signs
  len : s.1.length ≤ N
  num : ∀ n, s.2.1 = some n → n < 10 ^ N
structure Nam (w : Option Nat) (l : List Nat) : Prop where
  ne : l ≠ []
  sg : ∀ c ∈ l, c ∈ signs
  len : l.length ≤ 300
  fit : ∀ k, w = some k → l.length ≤ k
def WdO (w : Option Nat) : Prop := ∀ k, w = some k → 1 ≤ k ∧ k ≤ 40
section
variable {h : Hh} {l b : List Nat} {w : Option Nat} {n m k : Nat}
theorem WdO.wd (hw : WdO w) : Pr.Wd (wW w) := by
  cases w with
  | none => exact .non
  | some k =>
    have := hw k rfl
    exact .int (by omega) (by omega)
theorem Nam.name (hn : Nam w l) : Name l := ⟨hn.ne, hn.sg, Nat.le_trans hn.len (by decide)⟩
theorem Nam.fits (hn : Nam w l) : Pr.Fits l (wW w) := by
  cases w with
  | none => exact trivial
  | some k =>
    have := hn.fit k rfl
    show (l.length : Int) ≤ (k : Int)
    omega
theorem Nam.lt (hn : Nam w l) : ∀ c ∈ l, c < 128 := fun c hc => sign_lt (hn.sg c hc)
theorem vl_lt : vl l < 10 ^ (dgs l).length := digsVal_bound drop_digs
theorem pow_mono {a b : Nat} (h : a ≤ b) : 10 ^ a ≤ 10 ^ b := Nat.pow_le_pow_right (by decide) h
theorem vl_lt2 (hl : l.length ≤ n) : vl l < 10 ^ n := Nat.lt_of_lt_of_le vl_lt (pow_mono (by have := @dgs_len l; omega))
namespace Pr
end Pr
end
end Ti


namespace Ti
open PySem
def stW (l : List Nat) : W := .str (mkS l)
def namesW (ls : List (List Nat)) : W := .lst (ls.map stW)
theorem fine_sg {l : List Nat} (h : ∀ c ∈ l, c ∈ signs) (hl : l.length ≤ 1000000) : strFine (mkS l) = true := fine_signs h hl
section
variable {h : Hh} {l z b : List Nat} {w : Option Nat} {n m k c : Nat}
namespace Pr
end Pr
end
end Ti


namespace Ti
open PySem
section
variable {h : Hh} {l z x y : List Nat} {w : Option Nat} {n m k c : Nat} {S U : Stch}
theorem StOk.fine (hs : StOk 310 S) : strFine (mkS S.1) = true := fine_sg hs.1 (by have := hs.2; omega)
namespace Pr
end Pr
end
end Ti


namespace Ti
open PySem Pr
def Pst (H0 : Hh) (i B : Nat) (h : Hh) : Prop := i < H0.length ∧ ∃ p : Pu, p.Ok B ∧ h = H0.set i p.cell
section
variable {H0 h : Hh} {i B B' : Nat}
theorem Pst.mono (s : Pst H0 i B h) (hB : B ≤ B') : Pst H0 i B' h := ⟨s.1, s.2.imp fun _ q => ⟨q.1.mono hB, q.2⟩⟩
theorem Pst.at_ (s : Pst H0 i B h) : ∃ p : Pu, p.Ok B ∧ h[i]? = some p.cell := by
  obtain ⟨hi, p, o, rfl⟩ := s
  exact ⟨p, o, List.getElem?_set_self hi⟩
theorem Pst.len (s : Pst H0 i B h) : h.length = H0.length := by
  obtain ⟨_, p, _, rfl⟩ := s
  exact List.length_set
theorem Pst.fin {h' : Hh} {w : W} (s : Pst H0 i B h) (s' : Pst H0 i B' h') (hn : nor w = true) : Ti.fin .deep h.length w h' = .ok (w, h') := fin_same hn (by rw [s.len, s'.len])
theorem Pr.Wd.o {w : W} (hw : Pr.Wd w) : ∃ o, w = wW o ∧ WdO o := by
  cases hw with
  | non => exact ⟨none, rfl, fun k e => nomatch e⟩
  | @int n h1 h2 => exact ⟨some n.toNat, by rw [wW_some, Int.toNat_of_nonneg (by omega)], fun k e => by cases e; omega⟩
theorem T_range {n : Nat} {tg : DT} {b : DS} {ρ : Env} {Q : Fl × Env × Hh → Prop} (I : Nat → Env → Hh → Prop) (h0 : I 0 ρ h)
    (hs : ∀ (i : Nat) ρ h, i < n → I i ρ h → T (tg (.int (i : Int)) ρ h) fun p => T (b p.1 p.2) fun q => (match q.1 with
      | .nx => I (i + 1) q.2.1 q.2.2
      | .ct => I (i + 1) q.2.1 q.2.2
      | .bk => Q (.nx, q.2)
      | .rt w => Q (.rt w, q.2))) (he : ∀ ρ h, I n ρ h → Q (.nx, ρ, h)) : T (forG (fun _ => true) tg b (rangeW 0 n) ρ h) Q := by
  refine T_forG I (fun _ _ _ _ => rfl) h0 (fun i x ρ h hx hI => ?_) (fun ρ h hI => he ρ h (by rw [range_len] at hI; exact hI))
  obtain ⟨hi, rfl⟩ := range_get hx
  rw [Int.zero_add]
  exact hs i ρ h hi hI
end
end Ti


namespace Ti
open PySem Pr
section
variable {h : Hh} {l y z : List Nat} {w o : Option Nat} {i j k N : Nat} {a b : Option (List Nat)}
theorem rd_free : rd none (some l) (i + 1) = some (stm l ++ numL (Nn l + 1 + i)) := by
  rw [rd_succ]
  show rd none (some (stm l ++ fol l)) i = _
  rw [fol_eq, rd_run stem_stm (by omega)]
theorem rd_signs (hs : ∀ c ∈ l, c ∈ signs) (e : rd w (some l) i = some y) : ∀ c ∈ y, c ∈ signs := by
  induction i generalizing y with
  | zero => cases e; exact hs
  | succ i ih =>
    obtain ⟨z, e1, e2⟩ := Option.bind_eq_some_iff.mp (show (rd w (some l) i).bind (nxt w) = some y from e)
    exact nxt_signs (ih e1) e2
theorem Nn_lt (hl : 0 < l.length) : Nn l < 10 ^ l.length := by
  unfold Nn
  split
  · have := Nat.pow_le_pow_right (n := 10) (by decide) hl
    omega
  · exact vl_lt2 (Nat.le_refl _)
theorem rd_nam (hw : WdO w) (hn : Nam w l) (hl : l.length ≤ 100) (hi : i ≤ 10 ^ 100) (e : rd w (some l) i = some y) : Nam w y ∧ y.length ≤ 202 := by
  have hs := rd_signs hn.sg e
  cases i with
  | zero => cases e; exact ⟨hn, by omega⟩
  | succ i =>
    have he := Option.bind_eq_some_iff.mp (show (rd w (some l) i).bind (nxt w) = some y from e)
    obtain ⟨z, e1, e2⟩ := he
    have hy := nxt_ne e2
    suffices hl : y.length ≤ 202 from ⟨⟨hy, hs, by omega, fun k ek => by subst ek; exact nxt_len e2⟩, hl⟩
    cases w with
    | some k =>
      have h1 := nxt_len e2
      have h2 := (hw k rfl).2
      omega
    | none =>
      rw [rd_free] at e
      cases e
      rw [List.length_append]
      have h1 := @stm_len l
      have hpos : 0 < l.length := List.length_pos_iff.mpr hn.ne
      have h2 := Nn_lt hpos
      have h3 : (10 : Nat) ^ l.length ≤ 10 ^ 100 := pow_mono hl
      have h4 : (numL (Nn l + 1 + i)).length ≤ 101 := numL_len (by decide) (by
        have : (10 : Nat) ^ 100 + 10 ^ 100 ≤ 10 ^ 101 := by decide
        omega)
      omega
theorem Nam.fine (hn : Nam w l) : strFine (mkS l) = true := fine_sg hn.sg (by have := hn.len; omega)
def Cmp (o : Option (List Nat)) : Prop := ∀ l, o = some l → strFine (mkS l) = true
theorem Cmp.rd (hw : WdO w) (hn : Nam w l) (hl : l.length ≤ 100) (hi : i ≤ 10 ^ 100) : Cmp (rd w (some l) i) := fun y e => (rd_nam hw hn hl hi e).1.fine
theorem Cmp.some (hl : strFine (mkS l) = true) : Cmp (some l) := fun y e => by cases e; exact hl
theorem Cmp.none : Cmp none := fun y e => nomatch e
theorem fin_bl0 {b : Bool} : fin .deep 0 (.bl b) h = .ok (.bl b, []) := by
  have := @fin_drop [] (.bl b) h rfl
  exact this
end
end Ti


namespace Ti
open PySem Pr
section
variable {x y z u : List Nat} {w : Option Nat} {i j k t : Nat}
def n0 (x : List Nat) : Nat := if dgs x = [] then 2 else vl x
end
end Ti


namespace Ti
open PySem Pr
mutual
theorem beq_self : ∀ {d : Nat} {u : W}, isDat d u = true → beq u u = true
  | _, .non, _ => rfl
  | _, .bl b, _ => by cases b <;> rfl
  | _, .int i, _ => beq_self_eq_true i
  | _, .str x, _ => decide_eq_true rfl
  | d + 1, .tup ws, h => beqs_self (d := d) (show areDat d ws = true from h)
  | d + 1, .lst ws, h => beqs_self (d := d) (show areDat d ws = true from h)
  | 0, .tup _, h => by cases h
  | 0, .lst _, h => by cases h
  | 0, .dic _ _, h => by cases h
  | 0, .obj _ _, h => by cases h
  | 0, .err _ _, h => by cases h
  | 0, .ref _, h => by cases h
  | 0, .scr _, h => by cases h
  | _ + 1, .dic _ _, h => by cases h
  | _ + 1, .obj _ _, h => by cases h
  | _ + 1, .err _ _, h => by cases h
  | _ + 1, .ref _, h => by cases h
  | _ + 1, .scr _, h => by cases h
theorem beqs_self : ∀ {d : Nat} {u : List W}, areDat d u = true → beqs u u = true
  | _, [], _ => rfl
  | d, w :: ws, h => by
    have h : (isDat d w && areDat d ws) = true := h
    rw [Bool.and_eq_true] at h
    show (beq w w && beqs ws ws) = true
    rw [beq_self h.1, beqs_self h.2]
    rfl
end
section
variable {h : Hh} {u : W}
theorem dat_ne (e : isDat 60 (look h u) = true) : pNe u u h = .ok (.bl false, h) := by
  unfold pNe eqB
  rw [e, beq_self e]
  rfl
theorem areDat_map {α : Type} {d : Nat} {f : α → W} {l : List α} (hf : ∀ a ∈ l, isDat d (f a) = true) : areDat d (l.map f) = true := by
  induction l with
  | nil => rfl
  | cons a l ih =>
    show (isDat d (f a) && areDat d (l.map f)) = true
    rw [hf a List.mem_cons_self, ih fun b hb => hf b (List.mem_cons_of_mem _ hb)]
    rfl
end
end Ti


namespace Ti
open PySem Pr
structure PuB where
  a : Int
  b : Int
  c : Int
def PuB.ws (p : PuB) : List W := [.int p.a, .int p.b, .int p.c]
def PuB.cell (p : PuB) : Cell := .lst p.ws
structure PuB.Ok (p : PuB) (B : Nat) : Prop where
  a0 : 0 ≤ p.a
  b0 : 0 ≤ p.b
  b1 : p.b < 2147483629
  c0 : 0 ≤ p.c
  c1 : p.c ≤ B
theorem PuB.Ok.mono {p : PuB} {B B' : Nat} (o : p.Ok B) (h : B ≤ B') : p.Ok B' := ⟨o.a0, o.b0, o.b1, o.c0, by have := o.c1; omega⟩
section
variable {H : Hh} {i : Nat} {p : PuB}
end
def Psb (H0 : Hh) (i B : Nat) (h : Hh) : Prop := i < H0.length ∧ ∃ p : PuB, p.Ok B ∧ h = H0.set i p.cell
section
variable {H0 h : Hh} {i B B' : Nat}
theorem Psb.mono (s : Psb H0 i B h) (hB : B ≤ B') : Psb H0 i B' h := ⟨s.1, s.2.imp fun _ q => ⟨q.1.mono hB, q.2⟩⟩
theorem Psb.at_ (s : Psb H0 i B h) : ∃ p : PuB, p.Ok B ∧ h[i]? = some p.cell := by
  obtain ⟨hi, p, o, rfl⟩ := s
  exact ⟨p, o, List.getElem?_set_self hi⟩
theorem Psb.len (s : Psb H0 i B h) : h.length = H0.length := by
  obtain ⟨_, p, _, rfl⟩ := s
  exact List.length_set
theorem Psb.fin {h' : Hh} {w : W} (s : Psb H0 i B h) (s' : Psb H0 i B' h') (hn : nor w = true) : Ti.fin .deep h.length w h' = .ok (w, h') := fin_same hn (by rw [s.len, s'.len])
theorem Psb.push {c : Cell} (s : Psb H0 i B h) : Psb (H0 ++ [c]) i B (h ++ [c]) := by
  obtain ⟨hi, p, o, rfl⟩ := s
  exact ⟨by rw [List.length_append]; omega, p, o, by rw [List.set_append_left _ _ hi]⟩
theorem Psb.pop {c : Cell} (s : Psb (H0 ++ [c]) i B h) (hi : i < H0.length) : ∃ h', h = h' ++ [c] ∧ Psb H0 i B h' := by
  obtain ⟨_, p, o, rfl⟩ := s
  exact ⟨H0.set i p.cell, List.set_append_left _ _ hi, hi, p, o, rfl⟩
end
end Ti


namespace Ti
open PySem Pr
structure Sig (n : Nat) (l : List Nat) : Prop where
  ne : l ≠ []
  sg : ∀ c ∈ l, c ∈ signs
  len : l.length ≤ n
section
variable {H0 h : Hh} {i B B' : Nat} {a : Option W}
theorem len_names {ls : List (List Nat)} : pLen (namesW ls) h = .ok (.int (ls.length : Int), h) := by
  show Res.ok (W.int ((ls.map stW).length : Int), h) = _
  rw [List.length_map]
end
end Ti


namespace Ti
open PySem
abbrev Nm := List Nat
def infl (w : Option Nat) (S : List Nm) (c : Nm → Nat) (o : Option Nm) : Nat := ((S.filter fun m => decide (nxt w m = o)).map fun m => c m - 1).sum
structure Flw (w : Option Nat) (ns : List Nm) (S : List Nm) (c : Nm → Nat) (pend : List Nm) : Prop where
  nd : S.Nodup
  sup : ∀ z, z ∈ S ↔ 0 < c z
  eq : ∀ z, c z + pend.count z = ns.count z + infl w S c (some z)
def bump (c : Nm → Nat) (y : Nm) : Nm → Nat := fun z => if z = y then c z + 1 else c z
section
variable {w : Option Nat} {ns ns' S S' pend pend' : List Nm} {c c' : Nm → Nat} {x y z : Nm} {o : Option Nm}
theorem bump_same : bump c y y = c y + 1 := if_pos rfl
theorem bump_ne (h : z ≠ y) : bump c y z = c z := if_neg h
theorem infl_nil : infl w [] c o = 0 := rfl
theorem infl_cons : infl w (x :: S) c o = (if nxt w x = o then c x - 1 else 0) + infl w S c o := by
  unfold infl
  rw [List.filter_cons]
  by_cases h : nxt w x = o
  · rw [if_pos (decide_eq_true h), if_pos h, List.map_cons, List.sum_cons]
  · rw [if_neg (by rw [decide_eq_false h]; decide), if_neg h, Nat.zero_add]
theorem infl_app : infl w (S ++ S') c o = infl w S c o + infl w S' c o := by
  induction S with
  | nil => rw [List.nil_append, infl_nil, Nat.zero_add]
  | cons x S ih => rw [List.cons_append, infl_cons, infl_cons, ih, Nat.add_assoc]
theorem infl_congr (h : ∀ m ∈ S, nxt w m = o → c m = c' m) : infl w S c o = infl w S c' o := by
  induction S with
  | nil => rfl
  | cons x S ih =>
    rw [infl_cons, infl_cons, ih fun m hm => h m (List.mem_cons_of_mem _ hm)]
    by_cases q : nxt w x = o
    · rw [if_pos q, if_pos q, h x List.mem_cons_self q]
    · rw [if_neg q, if_neg q]
theorem infl_perm (h : S.Perm S') : infl w S c o = infl w S' c o := by
  unfold infl
  exact ((h.filter _).map _).sum_nat
theorem infl_bump_in (hn : S.Nodup) (hy : y ∈ S) (h1 : 0 < c y) : infl w S (bump c y) o = infl w S c o + if nxt w y = o then 1 else 0 := by
  induction S with
  | nil => cases hy
  | cons x S ih =>
    rw [infl_cons, infl_cons]
    obtain ⟨hx, hn'⟩ := List.nodup_cons.mp hn
    by_cases q : y = x
    · subst q
      have : infl w S (bump c y) o = infl w S c o := infl_congr fun m hm _ => bump_ne fun e => hx (by rw [← e]; exact hm)
      rw [this, bump_same]
      by_cases r : nxt w y = o
      · rw [if_pos r, if_pos r, if_pos r]; omega
      · rw [if_neg r, if_neg r, if_neg r, Nat.add_zero]
    · have hy' : y ∈ S := by
        rcases List.mem_cons.mp hy with e | e
        · exact absurd e q
        · exact e
      rw [ih hn' hy', bump_ne fun e => q e.symm, Nat.add_assoc]
theorem infl_bump_out (hy : y ∉ S) : infl w S (bump c y) o = infl w S c o := infl_congr fun m hm _ => bump_ne fun e => hy (by rw [← e]; exact hm)
theorem infl_new (hy : y ∉ S) (h0 : c y = 0) : infl w (S ++ [y]) (bump c y) o = infl w S c o := by
  rw [infl_app, infl_bump_out hy, infl_cons, infl_nil, bump_same, h0]
  split <;> rfl
theorem count_app1 : (pend ++ [y]).count z = pend.count z + if z = y then 1 else 0 := by
  rw [List.count_append, List.count_singleton]
  by_cases h : z = y
  · subst h; simp
  · rw [if_neg h, if_neg (by simpa using fun e : y = z => h e.symm)]
theorem Flw.zero (f : Flw w ns S c pend) : z ∉ S ↔ c z = 0 := by
  have := f.sup z
  constructor
  · intro h
    by_cases q : 0 < c z
    · exact absurd (this.mpr q) h
    · omega
  · intro h q
    have := this.mp q
    omega
theorem Flw.stay (f : Flw w ns S c (pend ++ [y])) (hy : y ∉ S) : Flw w ns (S ++ [y]) (bump c y) pend ∧ ∀ o, infl w (S ++ [y]) (bump c y) o = infl w S c o := by
  have h0 := f.zero.mp hy
  refine ⟨⟨?_, fun z => ?_, fun z => ?_⟩, fun o => infl_new hy h0⟩
  · rw [List.nodup_append]
    exact ⟨f.nd, by simp, fun a ha b hb e => by
      rw [List.mem_singleton] at hb
      rw [e, hb] at ha
      exact hy ha⟩
  · rw [List.mem_append, List.mem_singleton, f.sup z]
    unfold bump
    by_cases q : z = y
    · rw [if_pos q]; exact ⟨fun _ => by omega, fun _ => .inr q⟩
    · rw [if_neg q]; exact ⟨fun h => h.resolve_right q, .inl⟩
  · have := f.eq z
    rw [count_app1] at this
    rw [infl_new hy h0, ← this]
    unfold bump
    split <;> omega
theorem Flw.go (f : Flw w ns S c (pend ++ [y])) (hy : y ∈ S) : Flw w ns S (bump c y) (pend ++ (nxt w y).toList) ∧ ∀ o, infl w S (bump c y) o = infl w S c o + if nxt w y = o then 1 else 0 := by
  have h1 := (f.sup y).mp hy
  have hi : ∀ o, infl w S (bump c y) o = infl w S c o + if nxt w y = o then 1 else 0 := fun o => infl_bump_in f.nd hy h1
  refine ⟨⟨f.nd, fun z => ?_, fun z => ?_⟩, hi⟩
  · rw [f.sup z]
    unfold bump
    by_cases q : z = y
    · subst q; rw [if_pos rfl]; exact ⟨fun _ => by omega, fun _ => h1⟩
    · rw [if_neg q]
  · have := f.eq z
    rw [count_app1] at this
    rw [hi, List.count_append]
    have e : (nxt w y).toList.count z = if nxt w y = some z then 1 else 0 := by
      cases nxt w y with
      | none => rfl
      | some u =>
        rw [Option.toList_some, List.count_singleton]
        by_cases q : u = z
        · subst q; simp
        · rw [if_neg (by simpa using q), if_neg fun e => q (Option.some.inj e)]
    rw [e]
    unfold bump
    split at this <;> (rename_i q; first | rw [if_pos q] | rw [if_neg q]) <;> omega
theorem Flw.unique (f : Flw w ns S c []) (g : Flw w ns' S' c' []) (hp : ns.Perm ns') : (∀ z, c z = c' z) ∧ S.Perm S' ∧ ∀ o, infl w S c o = infl w S' c' o := by
  have key : ∀ n z, Nn z = n → c z = c' z := by
    intro n
    induction n using Nat.strongRecOn with
    | _ n ih =>
      intro z hz
      have e1 := f.eq z
      have e2 := g.eq z
      rw [List.count_nil, Nat.add_zero] at e1 e2
      rw [e1, e2, hp.count_eq]
      congr 1
      have hc : ∀ m, nxt w m = some z → c m = c' m := fun m hm => ih (Nn m) (by rw [← hz]; exact nxt_Nn hm) m rfl
      rw [infl_congr (c' := c') fun m _ hm => hc m hm]
      have : (S.filter fun m => decide (nxt w m = some z)).Perm (S'.filter fun m => decide (nxt w m = some z)) := by
        refine (List.perm_ext_iff_of_nodup (f.nd.filter _) (g.nd.filter _)).mpr fun m => ?_
        rw [List.mem_filter, List.mem_filter, decide_eq_true_eq]
        constructor
        · rintro ⟨h1, h2⟩
          exact ⟨(g.sup m).mpr (by rw [← hc m h2]; exact (f.sup m).mp h1), h2⟩
        · rintro ⟨h1, h2⟩
          exact ⟨(f.sup m).mpr (by rw [hc m h2]; exact (g.sup m).mp h1), h2⟩
      exact (this.map _).sum_nat
  have hc : ∀ z, c z = c' z := fun z => key _ z rfl
  have hS : S.Perm S' := (List.perm_ext_iff_of_nodup f.nd g.nd).mpr fun z => by rw [f.sup, g.sup, hc]
  exact ⟨hc, hS, fun o => by rw [infl_perm hS]; exact infl_congr fun m _ _ => hc m⟩
theorem infl_le (hS : S.Nodup) (hS' : S'.Nodup) (hsub : ∀ m ∈ S, nxt w m = o → m ∈ S') (hc : ∀ m ∈ S, nxt w m = o → c m ≤ c' m) : infl w S c o ≤ infl w S' c' o := by
  induction S generalizing S' with
  | nil => rw [infl_nil]; exact Nat.zero_le _
  | cons x S ih =>
    obtain ⟨hx, hn⟩ := List.nodup_cons.mp hS
    rw [infl_cons]
    by_cases q : nxt w x = o
    · rw [if_pos q]
      have hxS := hsub x List.mem_cons_self q
      have hp := List.perm_cons_erase hxS
      rw [infl_perm hp, infl_cons, if_pos q]
      have h1 := hc x List.mem_cons_self q
      have h2 := ih hn (hS'.erase x) (fun m hm e => by
        have := hsub m (List.mem_cons_of_mem _ hm) e
        exact (List.mem_erase_of_ne fun e => hx (by rw [← e]; exact hm)).mpr this) fun m hm e => hc m (List.mem_cons_of_mem _ hm) e
      omega
    · rw [if_neg q, Nat.zero_add]
      exact ih hn hS' (fun m hm e => hsub m (List.mem_cons_of_mem _ hm) e) fun m hm e => hc m (List.mem_cons_of_mem _ hm) e
theorem Flw.le (f : Flw w ns S c pend) (g : Flw w ns' S' c' []) (hp : ns.Perm ns') : ∀ z, c z + pend.count z ≤ c' z := by
  have key : ∀ n z, Nn z = n → c z + pend.count z ≤ c' z := by
    intro n
    induction n using Nat.strongRecOn with
    | _ n ih =>
      intro z hz
      have e1 := f.eq z
      have e2 := g.eq z
      rw [List.count_nil, Nat.add_zero] at e2
      rw [e1, e2, hp.count_eq]
      have hc : ∀ m, nxt w m = some z → c m ≤ c' m := fun m hm => by
        have := ih (Nn m) (by rw [← hz]; exact nxt_Nn hm) m rfl
        omega
      have := infl_le (w := w) (o := some z) (c := c) (c' := c') f.nd g.nd (fun m hm e => (g.sup m).mpr (by have := hc m e; have := (f.sup m).mp hm; omega)) (fun m _ e => hc m e)
      omega
  exact fun z => key _ z rfl
theorem Flw.nil : Flw w [] [] (fun _ => 0) [] := ⟨List.nodup_nil, fun z => by simp, fun z => rfl⟩
theorem Flw.more (f : Flw w ns S c []) (x : Nm) : Flw w (ns ++ [x]) S c ([] ++ [x]) := ⟨f.nd, f.sup, fun z => by
  have := f.eq z
  rw [List.count_nil] at this
  rw [count_app1, count_app1, List.count_nil]
  omega⟩
end
end Ti


namespace Ti
open PySem
theorem filter_len_lt {α : Type} {p q : α → Bool} {x : α} (hpq : ∀ a, p a = true → q a = true) (hq : q x = true) (hp : p x = false) : ∀ {l : List α}, x ∈ l → (l.filter p).length < (l.filter q).length
  | [], h => nomatch h
  | a :: l, h => by
    have le : ∀ l : List α, (l.filter p).length ≤ (l.filter q).length := by
      intro l
      induction l with
      | nil => exact Nat.le_refl _
      | cons b l ih =>
        rw [List.filter_cons, List.filter_cons]
        by_cases hb : p b = true
        · rw [if_pos hb, if_pos (hpq b hb)]
          simp only [List.length_cons]
          omega
        · rw [if_neg hb]
          split
          · simp only [List.length_cons]; omega
          · exact ih
    rw [List.filter_cons, List.filter_cons]
    rcases List.mem_cons.mp h with e | e
    · subst e
      rw [if_neg (by rw [hp]; decide), if_pos hq]
      have := le l
      simp only [List.length_cons]
      omega
    · have ih := filter_len_lt hpq hq hp e
      by_cases hb : p a = true
      · rw [if_pos hb, if_pos (hpq a hb)]
        simp only [List.length_cons]
        omega
      · rw [if_neg hb]
        split
        · simp only [List.length_cons]; omega
        · exact ih
def ahead (G : List Nm) (x : Nm) : Nat := (G.filter fun g => decide (Nn x ≤ Nn g)).length
theorem ahead_lt {w : Option Nat} {G : List Nm} {x y : Nm} (hx : x ∈ G) (e : nxt w x = some y) : ahead G y < ahead G x := by
  have := nxt_Nn e
  exact filter_len_lt (p := fun g => decide (Nn y ≤ Nn g)) (q := fun g => decide (Nn x ≤ Nn g)) (x := x) (fun a h => by have h := of_decide_eq_true h; exact decide_eq_true (by omega)) (decide_eq_true (Nat.le_refl _)) (decide_eq_false (by omega)) hx
def ff (w : Option Nat) (G : List Nm) (x : Nm) : Option Nm × Nat :=
  if h : x ∈ G then
    match e : nxt w x with
    | none => (none, 1)
    | some y => ((ff w G y).1, (ff w G y).2 + 1)
  else (some x, 1)
termination_by ahead G x
decreasing_by all_goals exact ahead_lt h e
section
variable {w : Option Nat} {G G' ns xs : List Nm} {c : Nm → Nat} {x y z : Nm}
theorem ff_out (h : x ∉ G) : ff w G x = (some x, 1) := by rw [ff, dif_neg h]
theorem ff_end (h : x ∈ G) (e : nxt w x = none) : ff w G x = (none, 1) := by
  rw [ff, dif_pos h]
  split
  · rfl
  · rename_i y e2; rw [e] at e2; cases e2
theorem ff_step (h : x ∈ G) (e : nxt w x = some y) : ff w G x = ((ff w G y).1, (ff w G y).2 + 1) := by
  rw [ff, dif_pos h]
  split
  · rename_i e2; rw [e] at e2; cases e2
  · rename_i y2 e2; rw [e] at e2; cases e2; rfl
theorem ff_ind {P : Nm → Prop} (h1 : ∀ x, x ∉ G → P x) (h2 : ∀ x, x ∈ G → nxt w x = none → P x) (h3 : ∀ x y, x ∈ G → nxt w x = some y → P y → P x) : ∀ x, P x := by
  have key : ∀ n x, ahead G x = n → P x := by
    intro n
    induction n using Nat.strongRecOn with
    | _ n ih =>
      intro x hx
      by_cases h : x ∈ G
      · cases e : nxt w x with
        | none => exact h2 x h e
        | some y => exact h3 x y h e (ih _ (by rw [← hx]; exact ahead_lt h e) y rfl)
      · exact h1 x h
  exact fun x => key _ x rfl
def tot (S : List Nm) (c : Nm → Nat) : Nat := (S.map c).sum
theorem tot_bump_in (hn : G.Nodup) (hy : y ∈ G) : tot G (bump c y) = tot G c + 1 := by
  induction G with
  | nil => cases hy
  | cons a G ih =>
    obtain ⟨ha, hn'⟩ := List.nodup_cons.mp hn
    unfold tot at ih ⊢
    rw [List.map_cons, List.map_cons, List.sum_cons, List.sum_cons]
    by_cases q : y = a
    · subst q
      have : G.map (bump c y) = G.map c := List.map_congr_left fun m hm => bump_ne fun e => ha (by rw [← e]; exact hm)
      rw [this, bump_same]
      omega
    · have hy' : y ∈ G := by
        rcases List.mem_cons.mp hy with e | e
        · exact absurd e q
        · exact e
      rw [ih hn' hy', bump_ne fun e => q e.symm]
      omega
theorem tot_bump_new (hy : y ∉ G) (h0 : c y = 0) : tot (G ++ [y]) (bump c y) = tot G c + 1 := by
  unfold tot
  rw [List.map_append, List.sum_append]
  have : G.map (bump c y) = G.map c := List.map_congr_left fun m hm => bump_ne fun e => hy (by rw [← e]; exact hm)
  rw [this]
  show _ + ([bump c y y]).sum = _
  rw [bump_same, h0]
  rfl
theorem Flw.come (y : Nm) : ∀ c, Flw w ns G c ([] ++ [y]) → ∃ c', Flw w ns (G ++ (ff w G y).1.toList) c' [] ∧
    infl w (G ++ (ff w G y).1.toList) c' none = infl w G c none + (if (ff w G y).1 = none then 1 else 0) ∧ tot (G ++ (ff w G y).1.toList) c' = tot G c + (ff w G y).2 := by
  refine ff_ind (G := G) (w := w) (P := fun y => ∀ c, Flw w ns G c ([] ++ [y]) → ∃ c', Flw w ns (G ++ (ff w G y).1.toList) c' [] ∧
    infl w (G ++ (ff w G y).1.toList) c' none = infl w G c none + (if (ff w G y).1 = none then 1 else 0) ∧ tot (G ++ (ff w G y).1.toList) c' = tot G c + (ff w G y).2) (fun y hy c f => ?_) (fun y hy e c f => ?_) (fun y z hy e ih c f => ?_) y
  · rw [ff_out hy]
    obtain ⟨f1, f2⟩ := f.stay hy
    exact ⟨_, f1, by rw [show ((some y, 1) : Option Nm × Nat).1.toList = [y] from rfl, f2, if_neg (by simp)]; omega, tot_bump_new hy (f.zero.mp hy)⟩
  · rw [ff_end hy e]
    obtain ⟨f1, f2⟩ := f.go hy
    rw [e] at f1
    show ∃ c', Flw w ns (G ++ []) c' [] ∧ infl w (G ++ []) c' none = infl w G c none + (if (none : Option Nm) = none then 1 else 0) ∧ tot (G ++ []) c' = tot G c + 1
    rw [List.append_nil]
    exact ⟨_, f1, by rw [f2, e], tot_bump_in f.nd hy⟩
  · rw [ff_step hy e]
    obtain ⟨f1, f2⟩ := f.go hy
    rw [e] at f1
    obtain ⟨c', g1, g2, g3⟩ := ih _ f1
    refine ⟨c', g1, ?_, ?_⟩
    · show infl w (G ++ (ff w G z).1.toList) c' none = _
      rw [g2, f2, e, if_neg (by simp)]
      rfl
    · show tot (G ++ (ff w G z).1.toList) c' = tot G c + ((ff w G z).2 + 1)
      rw [g3, tot_bump_in f.nd hy]
      omega
def hnd (w : Option Nat) : List Nm → List Nm → List (Option Nm × Nat)
  | _, [] => []
  | G, x :: xs => ff w G x :: hnd w (G ++ (ff w G x).1.toList) xs
def got (w : Option Nat) (xs : List Nm) : List (Option Nm) := (hnd w [] xs).map (·.1)
def trd (w : Option Nat) (xs : List Nm) : Nat := ((hnd w [] xs).map (·.2)).sum
def names (l : List (Option Nm)) : List Nm := l.filterMap id
theorem hnd_flw : ∀ (xs : List Nm) {G ns : List Nm} {c : Nm → Nat}, Flw w ns G c [] → ∃ c', Flw w (ns ++ xs) (G ++ names ((hnd w G xs).map (·.1))) c' [] ∧
    infl w (G ++ names ((hnd w G xs).map (·.1))) c' none = infl w G c none + ((hnd w G xs).map (·.1)).count none ∧ tot (G ++ names ((hnd w G xs).map (·.1))) c' = tot G c + ((hnd w G xs).map (·.2)).sum
  | [], G, ns, c, f => by
    refine ⟨c, ?_, ?_, ?_⟩
    · rw [List.append_nil]
      show Flw w ns (G ++ []) c []
      rw [List.append_nil]
      exact f
    · show infl w (G ++ []) c none = infl w G c none + 0
      rw [List.append_nil]
      rfl
    · show tot (G ++ []) c = tot G c + 0
      rw [List.append_nil]
      rfl
  | x :: xs, G, ns, c, f => by
    obtain ⟨c1, f1, f2, f3⟩ := (Flw.come x) c (f.more x)
    obtain ⟨c2, g1, g2, g3⟩ := hnd_flw xs f1
    have e : G ++ names ((hnd w G (x :: xs)).map (·.1)) = (G ++ (ff w G x).1.toList) ++ names ((hnd w (G ++ (ff w G x).1.toList) xs).map (·.1)) := by
      show G ++ names ((ff w G x).1 :: (hnd w (G ++ (ff w G x).1.toList) xs).map (·.1)) = _
      unfold names
      cases h : (ff w G x).1 with
      | none => simp [h]
      | some z => simp [h]
    refine ⟨c2, ?_, ?_, ?_⟩
    · rw [e, show ns ++ x :: xs = (ns ++ [x]) ++ xs by simp]
      exact g1
    · rw [e, g2, f2]
      show _ = _ + ((ff w G x).1 :: (hnd w (G ++ (ff w G x).1.toList) xs).map (·.1)).count none
      rw [List.count_cons]
      cases h : (ff w G x).1 with
      | none => simp; omega
      | some z => simp
    · rw [e, g3, f3]
      show _ = _ + ((ff w G x).2 :: (hnd w (G ++ (ff w G x).1.toList) xs).map (·.2)).sum
      rw [List.sum_cons]
      omega
theorem got_flw (xs : List Nm) : ∃ c, Flw w xs (names (got w xs)) c [] ∧ infl w (names (got w xs)) c none = (got w xs).count none ∧ tot (names (got w xs)) c = trd w xs := by
  obtain ⟨c, f1, f2, f3⟩ := hnd_flw (w := w) xs Flw.nil
  rw [List.nil_append, List.nil_append] at *
  refine ⟨c, f1, ?_, ?_⟩
  · unfold got; rw [f2, infl_nil]; omega
  · unfold trd; unfold got; rw [f3]; show tot [] _ + _ = _; simp [tot]
end
end Ti


namespace Ti
open PySem Pr
section
variable {h : Hh} {l : List Nat} {w : Option Nat}
end
section
variable {h : Hh} {ls : List (List Nat)} {w : Option Nat}
end
end Ti


namespace Ti
open PySem Pr
def kS (l : List Nat) : HK := .str (mkS l)
section
variable {h : Hh} {G : List Nm} {x y : Nm} {g : Nat} {w : Option Nat}
end
end Ti


namespace Ti
open PySem Pr
section
variable {w : Option Nat} {G xs ls : List Nm} {x y : Nm} {o : Option Nm} {os : List (Option Nm)}
end
section
variable {h : Hh} {c c1 c2 c' : Cell} {w : Option Nat} {ls : List Nm} {os : List (Option Nm)} {y : Nm} {g : Nat}
theorem small_lt {n : Nat} (hn : n ≤ 10000) : n < lineW := Nat.lt_of_le_of_lt hn (by decide)
end
end Ti


namespace Ti
open PySem Pr
section
variable {h : Hh} {u : W} {ws : List W} {gs : List Cell} {ρ : Env}
theorem fiL_as (e : asL h u = some ws) : fiL [u] h = some ⟨ws, keepL u ws⟩ := by
  cases u with
  | lst us => cases e; rfl
  | ref i => unfold fiL; simp only [e]; rfl
  | _ => cases e
theorem len_as (e : asL h u = some ws) : pLen u h = .ok (.int ws.length, h) := by
  cases u with
  | lst us => cases e; rfl
  | ref i => unfold pLen; simp only [e]
  | _ => cases e
theorem sames_self (hs : ∀ x ∈ ws, same x x = true) : sames ws ws = true := by
  induction ws with
  | nil => rfl
  | cons a ws ih =>
    show (same a a && sames ws ws) = true
    rw [hs a List.mem_cons_self, ih fun x hx => hs x (List.mem_cons_of_mem _ hx)]
    rfl
theorem keep_as (hs : ∀ x ∈ ws, same x x = true) (e : asL h u = some ws) : keepL u ws h = true := by
  cases u with
  | ref i =>
    unfold keepL
    simp only [e]
    exact sames_self hs
  | _ => rfl
end
end Ti


namespace Ti
open PySem Pr
def jn : List (List Nat) → List Nat
  | [] => []
  | [x] => x
  | x :: y :: r => x ++ [44, 32] ++ jn (y :: r)
theorem join_mk : ∀ ts : List (List Nat), Str.join (mkS [44, 32]) (ts.map mkS) = mkS (jn ts)
  | [] => rfl
  | [x] => rfl
  | x :: y :: r => by
    show mkS x ++ mkS [44, 32] ++ Str.join (mkS [44, 32]) ((y :: r).map mkS) = _
    rw [join_mk (y :: r), mkS_app, mkS_app]
    rfl
theorem mem_jn {c : Nat} : ∀ {ts : List (List Nat)}, c ∈ jn ts → (∃ t ∈ ts, c ∈ t) ∨ c = 44 ∨ c = 32
  | [], h => nomatch h
  | [x], h => .inl ⟨x, List.mem_cons_self, h⟩
  | x :: y :: r, h => by
    have h : c ∈ x ++ [44, 32] ++ jn (y :: r) := h
    rcases List.mem_append.mp h with h | h
    · rcases List.mem_append.mp h with h | h
      · exact .inl ⟨x, List.mem_cons_self, h⟩
      · simp only [List.mem_cons, List.not_mem_nil, or_false] at h
        exact .inr h
    · rcases mem_jn h with ⟨t, ht, hc⟩ | h
      · exact .inl ⟨t, List.mem_cons_of_mem _ ht, hc⟩
      · exact .inr h
def tx : Option (List Nat) → List Nat
  | none => [78, 111, 110, 101]
  | some l => 39 :: l ++ [39]
theorem rc_sign : ∀ c ∈ signs, Builtin.Str.reprChar 39 c = [c] := by decide +kernel
theorem repr_sg {l : List Nat} (hs : ∀ c ∈ l, c ∈ signs) : reprText (mkS l) = mkS (39 :: l ++ [39]) := by
  have n39 : ¬ 39 ∈ l := fun h => absurd (hs 39 h) (by decide)
  have hq : reprQuote (mkS l) = 39 := by
    unfold reprQuote
    have : (mkS l).cps.contains 39 = false := by
      rw [← Bool.not_eq_true, Array.contains_iff_mem]
      intro h
      exact n39 (by simpa [mkS] using h)
    rw [this]
    rfl
  unfold reprText
  rw [hq]
  have key : ∀ (ys : List Nat) (acc : Array Nat), (∀ c ∈ ys, c ∈ signs) → ys.foldl (fun out c => out ++ (Builtin.Str.reprChar 39 c).toArray) acc = acc ++ ys.toArray := by
    intro ys
    induction ys with
    | nil => intro acc _; simp
    | cons c ys ih =>
      intro acc h
      rw [List.foldl_cons, rc_sign c (h c List.mem_cons_self), ih _ fun d hd => h d (List.mem_cons_of_mem _ hd)]
      simp
  have e : (mkS l).cps = l.toArray := rfl
  rw [e, ← Array.foldl_toList, key _ _ hs]
  unfold mkS
  simp
section
variable {h : Hh} {os : List (Option (List Nat))} {o : Option (List Nat)} {u : W}
theorem shown_nW (hs : ∀ l, o = some l → ∀ c ∈ l, c ∈ signs) : (toP (nW o)).shown = mkS (tx o) := by
  cases o with
  | none =>
    show (PyData.none).shown = _
    rw [PyData.shown_none]
    decide +kernel
  | some l =>
    show (PyData.str (mkS l)).shown = _
    rw [PyData.shown_str, repr_sg (hs l rfl)]
    rfl
theorem toPs_map {α : Type} {f : α → W} {l : List α} : toPs (l.map f) = l.map fun a => toP (f a) := by
  induction l with
  | nil => rfl
  | cons a l ih =>
    show toP (f a) :: toPs (l.map f) = _
    rw [ih]
    rfl
end
end Ti


namespace Ti
open PySem Pr
section
variable {h : Hh} {S ls ns pend : List Nm} {c c' : Nm → Nat} {x y z : Nm} {g : Nat} {w : Option Nat} {c1 c2 cl : Cell}
theorem Flw.start (ns : List Nm) : Flw w ns [] (fun _ => 0) ns := ⟨List.nodup_nil, fun z => by simp, fun z => by rw [infl_nil]; omega⟩
def OnR (w : Option Nat) (ns : List Nm) (n : Nat) (y : Nm) : Prop := ∃ l, l ∈ ns ∧ ∃ i, i ≤ n ∧ rd w (some l) i = some y
theorem OnR.mono {n m : Nat} (o : OnR w ns n y) (h : n ≤ m) : OnR w ns m y := by
  obtain ⟨l, hl, i, hi, e⟩ := o
  exact ⟨l, hl, i, by omega, e⟩
theorem OnR.next {n : Nat} (o : OnR w ns n y) (e : nxt w y = some z) : OnR w ns (n + 1) z := by
  obtain ⟨l, hl, i, hi, e2⟩ := o
  refine ⟨l, hl, i + 1, by omega, ?_⟩
  show (rd w (some l) i).bind (nxt w) = _
  rw [e2]
  exact e
end
end Ti


namespace Ti
open PySem Pr
section
variable {h : Hh} {S ls ns pend : List Nm} {c c' : Nm → Nat} {x y z : Nm} {g : Nat} {w : Option Nat} {u : W}
end
end Ti


namespace Ti
open PySem Pr
section
variable {h : Hh} {S ls ns pend : List Nm} {c c' : Nm → Nat} {x y z : Nm} {g : Nat} {w : Option Nat} {u : W}
theorem Flw.got (f : Flw w ls S c []) : S.Perm (names (got w ls)) ∧ infl w S c none = (got w ls).count none ∧ tot S c = trd w ls := by
  obtain ⟨cF, F1, F2, F3⟩ := got_flw (w := w) ls
  obtain ⟨u1, u2, u3⟩ := f.unique F1 (List.Perm.refl _)
  refine ⟨u2, by rw [u3, F2], ?_⟩
  rw [← F3]
  unfold tot
  rw [(u2.map c).sum_nat]
  congr 1
  exact List.map_congr_left fun a _ => u1 a
variable (hu : asL h u = some (ls.map stW)) (hs : ∀ l ∈ ls, Nam w l ∧ l.length ≤ 100) (hw : WdO w) (hl : ls.length ≤ 60)
end
end Ti


namespace Ti
open PySem Pr
def bs (x : Nm) (i : Nat) : Nm := if i = 0 then x else x ++ numL (i + 1)
section
variable {h : Hh} {G ls zs : List Nm} {x y : Nm} {i j k : Nat} {w : Option Nat}
structure BF (G : List Nm) (x : Nm) (i : Nat) : Prop where
  out : bs x i ∉ G
  before : ∀ j, j < i → bs x j ∈ G
  le : i ≤ G.length
theorem BF.unique (a : BF G x i) (b : BF G x j) : i = j := by
  rcases Nat.lt_trichotomy i j with h | h | h
  · exact absurd (b.before i h) a.out
  · exact h
  · exact absurd (a.before j h) b.out
inductive BaseL : List Nm → List Nm → Prop
  | nil : BaseL [] []
  | snoc {ls zs : List Nm} {x : Nm} {i : Nat} : BaseL ls zs → BF zs x i → BaseL (ls ++ [x]) (zs ++ [bs x i])
theorem BaseL.len (b : BaseL ls zs) : zs.length = ls.length := by
  induction b with
  | nil => rfl
  | snoc _ _ ih => rw [List.length_append, List.length_append, ih]; rfl
end
end Ti


namespace Ti
open PySem Pr
def ins (k : Nat) (row : List Nat) : List (List Nat) := (List.range (row.length + 1)).map fun p => row.take p ++ [k] ++ row.drop p
section
variable {h : Hh} {w : Option Nat} {xs ys ls G : List Nm} {x y : Nm} {os : List (Option Nm)} {u : W}
theorem add_lst {a b : List W} (hl : a.length + b.length ≤ lineW) : pAdd false (.lst a) (.lst b) h = .ok (.lst (a ++ b), h) := mkL_f (by rw [List.length_append]; exact hl)
theorem sl_toL {ws : List W} {n : Nat} (hl : ws.length ≤ lineW) : pSl false false true (.lst ws) .non (.int (n : Int)) h = .ok (.lst (ws.take n), h) := by
  show mkL false (cutL ws none (some (n : Int))) h = _
  rw [cut_to, mkL_f (by rw [List.length_take]; omega)]
end
end Ti


namespace Ti
open PySem Pr
section
variable {h : Hh} {N : List Nm} {c : Nm → Nat} {u : W}
theorem toStr_nat (n : Nat) : ((toString (n : Int) : String) : Str) = mkS (numL n) := by
  have e1 := TL.tl_num n
  have : mkS (TL.tl (Str.ofString (toString (n : Int)))) = mkS (numL n) := by
    rw [e1]
    rfl
  exact this
end
end Ti


namespace Ti
open PySem Pr
section
variable {h : Hh} {w : Option Nat} {ls a b G N S : List Nm} {x y : Nm} {u v : W} {ws : List W} {c : Nm → Nat} {ρ : Env} {i j g : Nat}
theorem script_few {ns : List Int} {k : Nat} (hk : 1 ≤ k) (hk2 : k ≤ 900) : ∃ (p : W × Hh) (m : Int) (n : Nat), n ≤ k ∧ pSl false false true (.scr ns) .non (.int (k : Int)) h = .ok p ∧ pLen p.1 p.2 = .ok (.int m, h) ∧ pMax (.int 1) (.int m) h = .ok (.int (n : Int), h) := by
  refine ⟨(.lst ((ns.take k).map W.int), h), (min k ns.length : Nat), max 1 (min k ns.length), by omega, ?_, ?_, ?_⟩
  · show mkL false ((cutL ns none (some (k : Int))).map .int) h = _
    rw [cut_to]
    exact mkL_f (by rw [List.length_map, List.length_take]; exact Nat.le_trans (Nat.min_le_left _ _) (Nat.le_trans hk2 (by decide)))
  · rw [len_lst, List.length_map, List.length_take]
  · rw [max_int]
    congr 3
    split <;> omega
theorem names_le {n : Nat} (hn : n ≤ 10000) : n ≤ lineW := Nat.le_of_lt (small_lt hn)
theorem fiL_names : fiL [namesW a] h = some ⟨a.map stW, fun _ => true⟩ := rfl
theorem fiE_names : fiE [namesW a] h = some ⟨enumW (a.map stW), fun _ => true⟩ := rfl
theorem comp1 {xs : List W} {elt : DE} {cd : Option DE} (b : W → Bool) (r : W → W)
    (hs : ∀ x ∈ xs, (match cd with
      | none => b x = true
      | some c => ∃ w, c (ρ.set i (some x)) h = .ok (w, h) ∧ truthy h w = some (b x)) ∧ (b x = true → elt (ρ.set i (some x)) h = .ok (r x, h))) (hl : xs.length ≤ lineW) :
    compG (fun _ => true) [i] (tN i) cd elt ρ xs [] h = .ok ((xs.filter b).map r, h) := by
  rw [compG_pure b r cd rfl (fun x hx => ?_) (by rw [List.length_nil, Nat.zero_add]; exact hl), List.nil_append]
  refine ⟨ρ.set i (some x), ?_, hs x hx⟩
  show Res.ok (((ρ.set i none).set i (some x)), h) = _
  rw [List.set_set]
theorem ix_nat {us : List W} {k : Nat} {y : W} (e : us[k]? = some y) : pIx (.lst us) (.int (k : Int)) h = .ok (y, h) := by
  have : ixW h (.lst us) (.int (k : Int)) = some y := by
    show (placeI us.length (k : Int)).bind (fun j => us[j]?) = _
    rw [place_nat (List.getElem?_eq_some_iff.mp e).1, Option.bind_some, e]
  unfold pIx
  rw [this]
  rfl
theorem look_at {i : Nat} {ws : List W} (e : h[i]? = some (.lst ws)) : look h (.ref i) = .lst ws := by
  unfold look
  simp only [e]
  rfl
theorem ne_self {a : List Nat} (ha : strFine (mkS a) = true) : pNe (.str (mkS a)) (.str (mkS a)) h = .ok (.bl false, h) := by
  rw [ne_str ha ha, decide_eq_true rfl]
  rfl
end
end Ti


namespace Ti
open PySem Pr
structure Sh (w : W) (t : List Nat) : Prop where
  sh : (toP w).shown = mkS t
  ab : (toP w).showable = true
  lt : ∀ c ∈ t, c < 128
def shL (ts : List (List Nat)) : List Nat := [91] ++ jn ts ++ [93]
section
variable {h : Hh} {u : W} {n : Nat}
theorem Sh.lst {α : Type} {f : α → W} {t : α → List Nat} : ∀ {l : List α}, (∀ a ∈ l, Sh (f a) (t a)) → Sh (.lst (l.map f)) (shL (l.map t)) := by
  intro l hl
  refine ⟨?_, ?_, ?_⟩
  · show (PyData.list (toPs (l.map f))).shown = _
    rw [PyData.shown_list, toPs_map]
    have e : PyData.shownAll (l.map fun a => toP (f a)) = (l.map t).map mkS := by
      induction l with
      | nil => rw [List.map_nil, PyData.shownAll_nil]; rfl
      | cons z l ih =>
        rw [List.map_cons, PyData.shownAll_cons, ih fun a ha => hl a (List.mem_cons_of_mem _ ha), (hl z List.mem_cons_self).sh]
        rfl
    have e1 : ((", " : String) : Str) = mkS [44, 32] := by decide +kernel
    have e2 : ((("[" : String) : Str)) = mkS [91] := by decide +kernel
    have e3 : ((("]" : String) : Str)) = mkS [93] := by decide +kernel
    rw [e, e1, e2, e3, join_mk, mkS_app, mkS_app]
    rfl
  · have : PyData.showableAll (toPs (l.map f)) = true := by
      induction l with
      | nil => show PyData.showableAll [] = true; simp only [PyData.showableAll]
      | cons z l ih =>
        have ih := ih fun a ha => hl a (List.mem_cons_of_mem _ ha)
        show PyData.showableAll (toP (f z) :: toPs (l.map f)) = true
        simp only [PyData.showableAll, (hl z List.mem_cons_self).ab, ih, Bool.and_self]
    show (PyData.list (toPs (l.map f))).showable = true
    simp only [PyData.showable, this]
  · intro c hc
    unfold shL at hc
    rcases List.mem_append.mp hc with hc | hc
    · rcases List.mem_append.mp hc with hc | hc
      · rw [List.mem_singleton.mp hc]; decide
      · rcases mem_jn hc with ⟨s, hs, hc⟩ | rfl | rfl
        · obtain ⟨a, ha, rfl⟩ := List.mem_map.mp hs
          exact (hl a ha).lt c hc
        · decide
        · decide
    · rw [List.mem_singleton.mp hc]; decide
theorem Sh.int (hn : n < 10 ^ 400) : Sh (.int (n : Int)) (numL n) := by
  refine ⟨?_, ?_, fun c hc => dig_lt (numL_digs c hc)⟩
  · show (PyData.int (n : Int)).shown = _
    rw [PyData.shown_int, toStr_nat]
  · have hz := pow_lt hn (by omega)
    show (PyData.int (n : Int)).showable = true
    simp only [PyData.showable, Int.natAbs_natCast, hz, decide_true]
theorem Sh.name {l : List Nat} (hs : ∀ c ∈ l, c ∈ signs) : Sh (.str (mkS l)) (39 :: l ++ [39]) := by
  refine ⟨?_, ?_, fun c hc => ?_⟩
  · show (PyData.str (mkS l)).shown = _
    rw [PyData.shown_str, repr_sg hs]
  · show (PyData.str (mkS l)).showable = true
    simp only [PyData.showable]
  · rcases List.mem_append.mp hc with hc | hc
    · rcases List.mem_cons.mp hc with rfl | hc
      · decide
      · exact sign_lt (hs c hc)
    · rw [List.mem_singleton.mp hc]; decide
theorem Sh.nW {o : Option (List Nat)} (hs : ∀ l, o = some l → ∀ c ∈ l, c ∈ signs) : Sh (Ti.nW o) (tx o) := by
  refine ⟨shown_nW hs, ?_, fun c hc => ?_⟩
  · cases o <;> (show PyData.showable _ = true; simp only [Ti.nW, toP, PyData.showable]; try rfl)
  · cases o with
    | none =>
      have hc : c ∈ ([78, 111, 110, 101] : List Nat) := hc
      simp only [List.mem_cons, List.not_mem_nil, or_false] at hc
      omega
    | some l => exact (Sh.name (hs l rfl)).lt c hc
theorem Sh.run {v : W} {t : List Nat} (s : Sh v t) (e : look h u = v) (d : isDat 60 v = true) (hl : t.length ≤ 1000000) : pRepr u h = .ok (.str (mkS t), h) := by
  unfold pRepr
  rw [e, s.sh, s.ab, d, mkS_len, decide_eq_true (Nat.le_trans hl (by decide))]
  rfl
theorem Sh.fine {v : W} {t : List Nat} (s : Sh v t) (hl : t.length ≤ 1000000) : strFine (mkS t) = true := fine_le s.lt hl
def intsW (is : List Nat) : W := .lst (is.map fun (n : Nat) => W.int (n : Int))
def shI (is : List Nat) : List Nat := shL (is.map numL)
theorem Sh.ints {is : List Nat} (hi : ∀ i ∈ is, i < 10 ^ 400) : Sh (intsW is) (shI is) := Sh.lst (f := fun (n : Nat) => W.int (n : Int)) (t := numL) fun i h => Sh.int (hi i h)
end
end Ti


namespace Ti
open PySem Pr
section
variable {h : Hh} {w : Option Nat} {ls G G' xs : List Nm} {x y : Nm} {i k : Nat}
end
section
variable {h : Hh} {w : Option Nat} {S G : List Nm} {c : Nm → Nat} {x y : Nm} {o : Option Nm}
end
end Ti


namespace Ti
open PySem Pr
section
variable {h : Hh} {w : Option Nat} {ls S G : List Nm} {c : Nm → Nat} {x y : Nm} {i n : Nat} {o : Option Nm} {u : W}
end
end Ti


namespace Ti
open PySem Pr
section
variable {H0 h : Hh} {i B B' : Nat} {ls st : List Nm} {w : Option Nat} {ρ : Env} {p t z : Nat}
end
end Ti


namespace Ti
open PySem Pr
section
variable {w : Option Nat} {ls G G' A B C T xs : List Nm} {x y z t : Nm} {i j k p : Nat}
def nms (ls : List Nm) (I : List Nat) : List Nm := I.map fun a => ls.getD a []
def rem (I : List Nat) (p : Nat) : List Nat := I.take p ++ I.drop (p + 1)
end
end Ti


namespace Ti
open PySem Pr
section
variable {h : Hh} {w : Option Nat} {ls G : List Nm} {x y : Nm} {i k : Nat} {os : List (Option Nm)} {o : Option Nm} {us : List W} {v : W}
end
end Ti


namespace Ti
open PySem Pr
section
variable {h : Hh} {w : Option Nat} {ls G A : List Nm} {x y z : Nm} {a i j k n : Nat} {os : List (Option Nm)} {o : Option Nm} {us : List W} {u v : W} {I O R row : List Nat}
def okA (w : Option Nat) (ls A : List Nm) (O : List Nat) : Bool := (A.filter fun z => !decide (z ∈ names (got w (nms ls O)))).isEmpty
def stepF (w : Option Nat) (ls A : List Nm) (O : List Nat) (b : Nat) : List Nat := if okA w ls A (O.filter fun c => c != b) = true then O.filter fun c => c != b else O
def few (w : Option Nat) (ls A : List Nm) (a : Nat) : List Nat := (rem (List.range ls.length) a).foldl (stepF w ls A) (rem (List.range ls.length) a)
end
end Ti


namespace Ti
open PySem Pr
section
variable {h : Hh} {w : Option Nat} {ls G A : List Nm} {x y z : Nm} {a i j k n p q : Nat} {os : List (Option Nm)} {o o' : Option Nm} {us : List W} {u v : W} {I O R row : List Nat} {ρ : Env}
def iW (n : Nat) : W := .int (n : Int)
structure RowAt (h : Hh) (u : W) (row : List Nat) : Prop where
  as : asL h u = some (row.map iW)
  isi : pIsi .list u h = .ok (.bl true, h)
  mt : isMT .list h u = true
theorem RowAt.tree : RowAt h (intsW row) row := ⟨rfl, rfl, rfl⟩
theorem RowAt.cell {g : Nat} (e : h[g]? = some (.lst (row.map iW))) : RowAt h (.ref g) row := ⟨asL_at e, by
  have : kindW h (.ref g) = some .list := by
    unfold kindW
    simp only [e]
  unfold pIsi
  rw [this]
  rfl, isL_at e⟩
theorem same_iW {n : Nat} : same (iW n) (iW n) = true := beq_self_eq_true _
theorem RowAt.keep (r : RowAt h u row) : keepL u (row.map iW) h = true := keep_as (fun x hx => by
  obtain ⟨n, _, rfl⟩ := List.mem_map.mp hx
  exact same_iW) r.as
theorem RowAt.fi (r : RowAt h u row) : fiL [u] h = some ⟨row.map iW, keepL u (row.map iW)⟩ := fiL_as r.as
theorem findW_ints : ∀ {row : List Nat} {p : Nat}, row.Nodup → row[p]? = some a → findW (iW a) (row.map iW) = some p
  | [], p, _, e => by cases e
  | c :: row, 0, nd, e => by
    cases e
    show (if beq (iW a) (iW a) = true then some 0 else _) = _
    rw [if_pos (show beq (iW a) (iW a) = true from (beq_self_eq_true (a : Int)))]
  | c :: row, p + 1, nd, e => by
    have e : row[p]? = some a := e
    have : c ≠ a := fun z => (List.nodup_cons.mp nd).1 (by rw [z]; exact List.mem_of_getElem? e)
    show (if beq (iW c) (iW a) = true then some 0 else (findW (iW a) (row.map iW)).map (· + 1)) = _
    rw [if_neg (show ¬ beq (iW c) (iW a) = true from fun z => this (by have := eq_of_beq (show ((c : Int) == (a : Int)) = true from z); omega)), findW_ints (List.nodup_cons.mp nd).2 e]
    rfl
theorem ints_are {d : Nat} : areDat d (row.map iW) = true := areDat_map fun _ _ => rfl
theorem RowAt.index (r : RowAt h u row) (nd : row.Nodup) (e : row[p]? = some a) : pIndex u (.int (a : Int)) h = .ok (.int (p : Int), h) := by
  unfold pIndex
  simp only [r.as]
  have d : (areDat 60 (row.map iW) && isDat 60 (look h (.int (a : Int)))) = true := by rw [ints_are]; rfl
  rw [if_pos d]
  have f := findW_ints nd e
  show (match findW (iW a) (row.map iW) with
    | some j => Res.ok (W.int (j : Nat), h)
    | none => .bad) = _
  rw [f]
theorem intsOf_iW : intsOf (row.map iW) = some (row.map fun (n : Nat) => (n : Int)) := by
  have := intsOf_map (row.map fun (n : Nat) => (n : Int))
  rw [List.map_map] at this
  exact this
theorem strsOf_iW {c : Nat} : strsOf (iW c :: us) = none := rfl
theorem srtI_row (hp : row.Perm (List.range n)) : srtI (row.map fun (n : Nat) => (n : Int)) = (List.range n).map fun (n : Nat) => (n : Int) := by
  have p1 : (srtI (row.map fun (n : Nat) => (n : Int))).Perm ((List.range n).map fun (n : Nat) => (n : Int)) := (List.mergeSort_perm _ _).trans (hp.map _)
  refine List.Perm.eq_of_pairwise (le := fun a b : Int => decide (a ≤ b)) (fun a b _ _ h1 h2 => ?_) (List.pairwise_mergeSort (fun a b c h1 h2 => ?_) (fun a b => ?_) _) ?_ p1
  · have h1 := of_decide_eq_true h1
    have h2 := of_decide_eq_true h2
    omega
  · have h1 := of_decide_eq_true h1
    have h2 := of_decide_eq_true h2
    exact decide_eq_true (by omega)
  · by_cases q : a ≤ b
    · simp [q]
    · have : b ≤ a := by omega
      simp [this]
  · rw [List.pairwise_map]
    refine List.Pairwise.imp (fun {a b} hab => ?_) List.pairwise_lt_range
    exact decide_eq_true (by omega)
theorem RowAt.sorted (r : RowAt h u row) (hp : row.Perm (List.range n)) (hn : n ≤ 1000) : pSorted false u h = .ok (intsW (List.range n), h) := by
  have ml : mkL false (((List.range n).map fun (n : Nat) => (n : Int)).map .int) h = .ok (intsW (List.range n), h) := by
    rw [List.map_map]
    exact mkL_f (by rw [List.length_map, List.length_range]; exact names_le (by omega))
  unfold pSorted
  simp only [r.as]
  cases row with
  | nil =>
    have : n = 0 := by
      have := hp.length_eq
      rw [List.length_range] at this
      exact this.symm
    subst this
    show (if ([] : List Str).length < 64 then mkL false ((srtS []).map .str) h else .bad) = _
    rw [if_pos (by decide)]
    have : srtS ([] : List Str) = [] := List.perm_nil.mp (List.mergeSort_perm [] strLe)
    rw [this]
    rfl
  | cons c row =>
    show (match strsOf (iW c :: row.map iW) with
      | some ys => if ys.length < 64 then mkL false ((srtS ys).map .str) h else .bad
      | none => (match intsOf ((c :: row).map iW) with
        | some ns => mkL false ((srtI ns).map .int) h
        | none => .bad)) = _
    rw [strsOf_iW, intsOf_iW]
    show mkL false ((srtI _).map .int) h = _
    rw [srtI_row hp, ml]
end
end Ti


namespace Ti
open PySem Pr
section
variable {h : Hh} {ρ : Env} {c : Bool} {own own1 : List Nat} {tg tg1 : DT} {fi fi1 : FI} {src src1 : List DE} {cd cd1 : Option DE} {ek ev elt : DE} {inn : Env → List W → Hh → Res (List W × Hh)} {acc : List W}
end
section
variable {h : Hh} {w : Option Nat} {ls S : List Nm} {x y z : Nm} {c : Nm → Nat} {a i j k n : Nat} {os : List (Option Nm)} {o : Option Nm} {row : List Nat} {rows : List (List Nat)} {u : W}
structure Row (w : Option Nat) (S : List Nm) (c : Nm → Nat) (x : Nm) (o : Option Nm) (row : List Nat) : Prop where
  hd : ∀ j b, row[j]? = some b → ∃ z, rd w (some x) j = some z ∧ z ∈ S ∧ c z = b ∧ some z ≠ o
  ed : rd w (some x) row.length = o
def pos (os : List (Option Nm)) (z : Nm) : Nat := os.idxOf (some z)
def givW (os : List (Option Nm)) : W := .lst (os.map nW)
structure IsG (h : Hh) (u : W) (os : List (Option Nm)) : Prop where
  fe : fiE [u] h = some ⟨enumW (os.map nW), keepL u (os.map nW)⟩
  fl : fiL [u] h = some ⟨os.map nW, keepL u (os.map nW)⟩
  kp : keepL u (os.map nW) h = true
  ix : ∀ (k : Nat) (o : Option Nm), os[k]? = some o → pIx u (.int (k : Int)) h = .ok (nW o, h)
theorem IsG.tree : IsG h (givW os) os := ⟨rfl, rfl, rfl, fun k o e => ix_nat (by rw [List.getElem?_map, e]; rfl)⟩
end
end Ti


namespace Ti
open PySem Pr
section
variable {h H : Hh} {ρ : Env} {r : List Nat} {R rows : List (List Nat)} {a b g i j m n : Nat} {acc : List W}
def Sm (n : Nat) (R : List (List Nat)) : Prop := ∀ r ∈ R, r.Nodup ∧ ∀ b ∈ r, b < n
end
end Ti


namespace Ti
open PySem Pr
section
variable {h H : Hh} {ρ : Env} {r : List Nat} {R rows : List (List Nat)} {a b g i j m n : Nat} {acc : List W} {ps : List (Int × Int)}
variable {w : Option Nat} {ls S : List Nm} {x y z : Nm} {os : List (Option Nm)} {o : Option Nm}
def prsF (k : Nat) : List (List Nat) → List (Int × Int)
  | [] => []
  | r :: R => (r.map fun (a : Nat) => ((a : Int), (k : Int))) ++ prsF (k + 1) R
def prs (R : List (List Nat)) : List (Int × Int) := prsF 0 R
theorem prs_len : ∀ {R : List (List Nat)} {k : Nat}, (∀ r ∈ R, r.length ≤ n) → (prsF k R).length ≤ n * R.length
  | [], _, _ => Nat.zero_le _
  | r :: R, k, hr => by
    have ih := prs_len (R := R) (k := k + 1) fun q hq => hr q (List.mem_cons_of_mem _ hq)
    have h1 := hr r List.mem_cons_self
    show ((r.map fun (a : Nat) => ((a : Int), (k : Int))) ++ prsF (k + 1) R).length ≤ n * (R.length + 1)
    rw [List.length_append, List.length_map, Nat.mul_succ]
    omega
structure Rows (w : Option Nat) (ls : List Nm) (os : List (Option Nm)) (rows : List (List Nat)) : Prop where
  len : rows.length = ls.length
  olen : os.length = ls.length
  nd : (names os).Nodup
  sm : Sm ls.length rows
  row : ∀ i x o, ls[i]? = some x → os[i]? = some o → Row w (names os) (pos os) x o (rows.getD i [])
end
end Ti


namespace Ti
open PySem Pr
section
variable {φ : Nm → Nm} {w w' : Option Nat} {x z : Nm} {G ls S S' : List Nm} {os : List (Option Nm)} {i j : Nat} {rows : List (List Nat)} {c c' : Nm → Nat}
end
end Ti


namespace Ti
open PySem Pr
section
variable {w w' : Option Nat} {x z z' : Nm} {G ls S : List Nm} {os : List (Option Nm)} {i j : Nat}
end
end Ti


namespace Ti
open PySem Pr
section
variable {h : Hh} {ρ : Env} {js : List Nat} {body src : DE} {c rg : Bool} {R rows : List (List Nat)} {n i : Nat} {w : Option Nat} {ls : List Nm} {os : List (Option Nm)}
end
end Ti


namespace Ti
open PySem Pr
section
variable {h : Hh} {ρ : Env} {R rows : List (List Nat)} {n i j k : Nat} {w : Option Nat} {ls : List Nm} {os : List (Option Nm)} {ps : List (Int × Int)}
end
end Ti


namespace Ti
open PySem Pr
section
variable {h : Hh} {w : Option Nat} {ls S : List Nm} {x y z : Nm} {c : Nm → Nat} {a i j k n : Nat} {os : List (Option Nm)} {o : Option Nm} {row : List Nat} {rows : List (List Nat)} {u : W}
end
end Ti


namespace Ti
open PySem Pr
section
variable {h : Hh} {w : Option Nat} {ls S : List Nm} {x y z : Nm} {c : Nm → Nat} {a i j k n t : Nat} {os : List (Option Nm)} {o : Option Nm} {row : List Nat} {rows : List (List Nat)} {u : W}
theorem enumW_get {us : List W} {j : Nat} {v : W} (e : (enumW us)[j]? = some v) : ∃ y, us[j]? = some y ∧ v = .tup [.int (j : Nat), y] := by
  unfold enumW at e
  rw [List.getElem?_map, List.getElem?_zipIdx] at e
  cases q : us[j]? with
  | none => rw [q] at e; cases e
  | some y =>
    rw [q] at e
    cases e
    exact ⟨y, rfl, by rw [Nat.zero_add]⟩
end
end Ti


namespace Ti
open PySem Pr
section
variable {h : Hh} {w : Option Nat} {ls S : List Nm} {x y z : Nm} {c : Nm → Nat} {a i j k n : Nat} {os : List (Option Nm)} {o : Option Nm} {row : List Nat} {rows : List (List Nat)} {u : W}
end
end Ti


namespace Ti
open PySem Pr
section
variable {h : Hh} {w : Option Nat} {ls S N : List Nm} {x y z : Nm} {c : Nm → Nat} {a i j k n t : Nat} {os : List (Option Nm)} {o : Option Nm} {row : List Nat} {rows : List (List Nat)} {u v : W} {b : Bool} {ys : List Str}
end
end Ti


namespace Ti
open PySem Pr
section
variable {h H : Hh} {ρ : Env} {r : List Nat} {R rows : List (List Nat)} {g i j m n : Nat} {acc : List W} {P ps qs : List (Int × Int)} {a b : Int} {ins outs : List Int}
theorem prsF_mem : ∀ {R : List (List Nat)} {k : Nat} {p : Int × Int}, p ∈ prsF k R ↔ ∃ (i : Nat) (r : List Nat) (a : Nat), R[i]? = some r ∧ a ∈ r ∧ p = ((a : Int), ((k + i : Nat) : Int))
  | [], k, p => ⟨fun h => (nomatch h), fun ⟨i, r, a, e, _⟩ => (nomatch e)⟩
  | r :: R, k, p => by
    show p ∈ (r.map fun (a : Nat) => ((a : Int), (k : Int))) ++ prsF (k + 1) R ↔ _
    rw [List.mem_append, prsF_mem (R := R) (k := k + 1), List.mem_map]
    constructor
    · rintro (⟨a, ha, rfl⟩ | ⟨i, r', a, e, ha, rfl⟩)
      · exact ⟨0, r, a, rfl, ha, rfl⟩
      · exact ⟨i + 1, r', a, e, ha, by rw [show k + 1 + i = k + (i + 1) by omega]⟩
    · rintro ⟨i, r', a, e, ha, rfl⟩
      cases i with
      | zero => cases e; exact .inl ⟨a, ha, rfl⟩
      | succ i => exact .inr ⟨i, r', a, e, ha, by rw [show k + 1 + i = k + (i + 1) by omega]⟩
theorem prs_mem {p : Int × Int} : p ∈ prs R ↔ ∃ (i : Nat) (r : List Nat) (a : Nat), R[i]? = some r ∧ a ∈ r ∧ p = ((a : Int), (i : Int)) := by
  unfold prs
  rw [prsF_mem]
  simp only [Nat.zero_add]
theorem prsF_nodup : ∀ {R : List (List Nat)} {k : Nat}, (∀ r ∈ R, r.Nodup) → (prsF k R).Nodup
  | [], _, _ => List.nodup_nil
  | r :: R, k, hr => by
    show ((r.map fun (a : Nat) => ((a : Int), (k : Int))) ++ prsF (k + 1) R).Nodup
    rw [List.nodup_append]
    refine ⟨List.pairwise_map.mpr ((hr r List.mem_cons_self).imp fun h e => h (by have := congrArg Prod.fst e; exact Int.ofNat.inj this)), prsF_nodup fun q hq => hr q (List.mem_cons_of_mem _ hq), fun p hp q hq e => ?_⟩
    obtain ⟨a, _, rfl⟩ := List.mem_map.mp hp
    obtain ⟨i, r', a', _, _, rfl⟩ := prsF_mem.mp hq
    have := congrArg Prod.snd e
    have this : (k : Int) = ((k + 1 + i : Nat) : Int) := this
    omega
def addP (outs : List Int) (P : List (Int × Int)) (a : Int) : List (Int × Int) := P ++ (outs.filter fun b => !decide ((a, b) ∈ P)).map fun b => (a, b)
def insP (P : List (Int × Int)) (m : Nat) : List Int := (P.filter fun p => p.2 == (m : Int)).map (·.1)
def outsP (P : List (Int × Int)) (m : Nat) : List Int := (P.filter fun p => p.1 == (m : Int)).map (·.2)
def lstep (P : List (Int × Int)) (m : Nat) : List (Int × Int) := (insP P m).foldl (addP (outsP P m)) P
theorem addP_mem {p : Int × Int} : p ∈ addP outs P a ↔ p ∈ P ∨ (p.1 = a ∧ p.2 ∈ outs) := by
  unfold addP
  rw [List.mem_append, List.mem_map]
  constructor
  · rintro (q | ⟨b, hb, rfl⟩)
    · exact .inl q
    · exact .inr ⟨rfl, (List.mem_filter.mp hb).1⟩
  · rintro (q | ⟨e, hb⟩)
    · exact .inl q
    · obtain ⟨p1, p2⟩ := p
      have e : p1 = a := e
      subst e
      by_cases z : (p1, p2) ∈ P
      · exact .inl z
      · exact .inr ⟨p2, List.mem_filter.mpr ⟨hb, by rw [decide_eq_false z]; rfl⟩, rfl⟩
theorem addP_nodup (h1 : P.Nodup) (h2 : outs.Nodup) : (addP outs P a).Nodup := by
  unfold addP
  rw [List.nodup_append]
  refine ⟨h1, List.pairwise_map.mpr ((h2.filter _).imp fun hn e => hn (congrArg Prod.snd e)), fun p hp q hq e => ?_⟩
  obtain ⟨b, hb, rfl⟩ := List.mem_map.mp hq
  have := (List.mem_filter.mp hb).2
  rw [← e, decide_eq_true hp] at this
  cases this
theorem outsP_nodup (h1 : P.Nodup) : (outsP P m).Nodup := by
  refine List.pairwise_map.mpr (List.Pairwise.imp_of_mem (fun {p q} hp hq hn e => hn ?_) (h1.filter _))
  have e1 : p.1 = (m : Int) := eq_of_beq (List.mem_filter.mp hp).2
  have e2 : q.1 = (m : Int) := eq_of_beq (List.mem_filter.mp hq).2
  exact Prod.ext (e1.trans e2.symm) e
theorem prs_nodup (s : Sm n R) : (prs R).Nodup := prsF_nodup fun r hr => (s r hr).1
end
end Ti


namespace Ti
open PySem Pr
section
variable {h H : Hh} {ρ : Env} {r : List Nat} {R rows : List (List Nat)} {g i j m n : Nat} {acc : List W} {P ps qs : List (Int × Int)} {a b : Int} {ins outs : List Int}
def InR (n : Nat) (P : List (Int × Int)) : Prop := P.Nodup ∧ ∀ p ∈ P, ∃ a b : Nat, a < n ∧ b < n ∧ p = ((a : Int), (b : Int))
theorem InR.len (q : InR n P) : P.length ≤ n * n := by
  have := q.1.length_le_of_subset (l₂ := prs (List.replicate n (List.range n))) fun p hp => by
    obtain ⟨a, b, ha, hb, rfl⟩ := q.2 p hp
    exact prs_mem.mpr ⟨b, List.range n, a, by rw [List.getElem?_replicate, if_pos hb], List.mem_range.mpr ha, rfl⟩
  have l := prs_len (n := n) (R := List.replicate n (List.range n)) (k := 0) fun r hr => by
    rw [(List.mem_replicate.mp hr).2, List.length_range]
    exact Nat.le_refl _
  rw [List.length_replicate] at l
  exact Nat.le_trans this l
theorem InR.prs (s : Sm n R) (hl : R.length ≤ n) : InR n (prs R) := ⟨prs_nodup s, fun p hp => by
  obtain ⟨i, r, a, e, ha, rfl⟩ := prs_mem.mp hp
  exact ⟨a, i, (s r (List.mem_of_getElem? e)).2 a ha, by have := (List.getElem?_eq_some_iff.mp e).1; omega, rfl⟩⟩
theorem InR.insm (q : InR n P) (hp : a ∈ insP P m) : ∃ k : Nat, k < n ∧ a = (k : Int) := by
  obtain ⟨p, hm, rfl⟩ := List.mem_map.mp hp
  obtain ⟨a, b, ha, hb, rfl⟩ := q.2 p (List.mem_filter.mp hm).1
  exact ⟨a, ha, rfl⟩
theorem InR.outm (q : InR n P) (hp : a ∈ outsP P m) : ∃ k : Nat, k < n ∧ a = (k : Int) := by
  obtain ⟨p, hm, rfl⟩ := List.mem_map.mp hp
  obtain ⟨a, b, ha, hb, rfl⟩ := q.2 p (List.mem_filter.mp hm).1
  exact ⟨b, hb, rfl⟩
theorem InR.add (q : InR n P) (hn : outs.Nodup) (ho : ∀ b ∈ outs, ∃ k : Nat, k < n ∧ b = (k : Int)) (ha : ∃ k : Nat, k < n ∧ a = (k : Int)) : InR n (addP outs P a) := ⟨addP_nodup q.1 hn, fun p hp => by
  rcases addP_mem.mp hp with z | ⟨e, z⟩
  · exact q.2 p z
  · obtain ⟨k, hk, e1⟩ := ha
    obtain ⟨k2, hk2, e2⟩ := ho _ z
    obtain ⟨p1, p2⟩ := p
    exact ⟨k, k2, hk, hk2, Prod.ext (e.trans e1) e2⟩⟩
theorem InR.step (q : InR n P) : InR n (lstep P m) := by
  have key : ∀ (l : List Int) (Q : List (Int × Int)), (∀ a ∈ l, ∃ k : Nat, k < n ∧ a = (k : Int)) → InR n Q → InR n (l.foldl (addP (outsP P m)) Q) := by
    intro l
    induction l with
    | nil => exact fun Q _ hQ => hQ
    | cons a l ih => exact fun Q hl hQ => ih _ (fun b hb => hl b (List.mem_cons_of_mem _ hb)) (hQ.add (outsP_nodup q.1) (fun b hb => q.outm hb) (hl a List.mem_cons_self))
  exact key _ _ (fun a ha => q.insm ha) q
theorem InR.mono (q : InR n P) (hs : ps.Sublist P) : InR n ps := ⟨q.1.sublist hs, fun p hp => q.2 p (hs.subset hp)⟩
end
end Ti


namespace Ti
open PySem Pr
section
variable {h : Hh} {w : Option Nat} {ls S zs : List Nm} {x y z l : Nm} {i j : Nat} {os : List (Option Nm)} {u : W} {c : Nm → Nat}
end
end Ti


namespace Ti
open PySem Pr
section
variable {h H0 : Hh} {w : Option Nat} {ls S N : List Nm} {x y z : Nm} {a i j k n t B : Nat} {os : List (Option Nm)} {o : Option Nm} {row : List Nat} {rows : List (List Nat)} {u v : W}
theorem ofS_app (a b : String) : sg (Str.ofString (a ++ b)) = sg (Str.ofString a) ++ sg (Str.ofString b) := by
  rw [Str.ofString_eq_toList, Str.ofString_eq_toList, Str.ofString_eq_toList]
  simp [sg]
theorem int_chars (i : Int) : ∀ c ∈ sg ((toString i : String) : Str), c < 128 := by
  cases i with
  | ofNat n =>
    intro c hc
    have e := toStr_nat n
    rw [show ((toString (Int.ofNat n) : String) : Str) = mkS (numL n) from e, sg_mkS] at hc
    exact dig_lt (numL_digs c hc)
  | negSucc n =>
    intro c hc
    have e : toString (Int.negSucc n) = "-" ++ toString ((n + 1 : Nat) : Int) := rfl
    rw [e] at hc
    rw [ofS_app] at hc
    rcases List.mem_append.mp hc with q | q
    · have q : c ∈ ([45] : List Nat) := q
      rw [List.mem_singleton.mp q]
      decide
    · have e := toStr_nat (n + 1)
      rw [e, sg_mkS] at q
      exact dig_lt (numL_digs c q)
def shZ (i : Int) : List Nat := sg ((toString i : String) : Str)
theorem Sh.bl {b : Bool} : ∃ t, Sh (.bl b) t ∧ t.length ≤ 5 := by
  cases b
  · refine ⟨[70, 97, 108, 115, 101], ⟨?_, ?_, by decide⟩, by decide⟩
    · show (PyData.bool false).shown = _
      rw [PyData.shown_bool]
      decide +kernel
    · show (PyData.bool false).showable = true
      simp only [PyData.showable]
  · refine ⟨[84, 114, 117, 101], ⟨?_, ?_, by decide⟩, by decide⟩
    · show (PyData.bool true).shown = _
      rw [PyData.shown_bool]
      decide +kernel
    · show (PyData.bool true).showable = true
      simp only [PyData.showable]
def Rp (v : W) : Prop := ∃ t : List Nat, strFine (mkS t) = true ∧ ∀ (h : Hh) (u : W), look h u = v → pRepr u h = .ok (.str (mkS t), h)
theorem Rp.ne (q : Rp v) : ∃ s : Str, (∀ (h : Hh) (u : W), look h u = v → pRepr u h = .ok (.str s, h)) ∧ ∀ h : Hh, pNe (.str s) (.str s) h = .ok (.bl false, h) := by
  obtain ⟨t, f, e⟩ := q
  exact ⟨mkS t, e, fun h => ne_self f⟩
end
end Ti


namespace Ti
open PySem Pr
structure As (d : PyData) (n : Nat) : Prop where
  ab : d.showable = true
  lt : ∀ c ∈ d.shown.cps.toList, c < 128
  le : d.shown.length ≤ n
theorem As.mono {d : PyData} {n m : Nat} (a : As d n) (h : n ≤ m) : As d m := ⟨a.ab, a.lt, Nat.le_trans a.le h⟩
theorem asc_app {a b : Str} (ha : ∀ c ∈ a.cps.toList, c < 128) (hb : ∀ c ∈ b.cps.toList, c < 128) : ∀ c ∈ (a ++ b).cps.toList, c < 128 := by
  intro c hc
  have e : (a ++ b).cps.toList = a.cps.toList ++ b.cps.toList := Array.toList_append
  rw [e] at hc
  rcases List.mem_append.mp hc with h | h
  · exact ha c h
  · exact hb c h
theorem asc_join {ts : List Str} (h : ∀ t ∈ ts, ∀ c ∈ t.cps.toList, c < 128) : ∀ c ∈ (Str.join (", " : Str) ts).cps.toList, c < 128 := by
  intro c hc
  rcases (PyProof.Rows.mem_join (", " : Str) c ts).mp hc with ⟨t, ht, hc⟩ | ⟨_, hc⟩
  · exact h t ht c hc
  · have e : ((", " : String) : Str).cps.toList = [44, 32] := by decide +kernel
    rw [e] at hc
    simp only [List.mem_cons, List.not_mem_nil, or_false] at hc
    omega
theorem As.non : As .none 4 := by
  refine ⟨by simp only [PyData.showable], ?_, ?_⟩
  · rw [PyData.shown_none]
    have e : ((("None" : String) : Str)).cps.toList = [78, 111, 110, 101] := by decide +kernel
    rw [e]
    decide
  · rw [PyData.shown_none]
    exact (by decide +kernel : ((("None" : String) : Str)).length ≤ 4)
theorem As.bl {b : Bool} : As (.bool b) 5 := by
  cases b
  · refine ⟨by simp only [PyData.showable], ?_, ?_⟩
    · rw [PyData.shown_bool]
      have e : ((if false = true then ("True" : Str) else ("False" : Str))).cps.toList = [70, 97, 108, 115, 101] := by decide +kernel
      rw [e]
      decide
    · rw [PyData.shown_bool]
      exact (by decide +kernel : ((if false = true then ("True" : Str) else ("False" : Str))).length ≤ 5)
  · refine ⟨by simp only [PyData.showable], ?_, ?_⟩
    · rw [PyData.shown_bool]
      have e : ((if true = true then ("True" : Str) else ("False" : Str))).cps.toList = [84, 114, 117, 101] := by decide +kernel
      rw [e]
      decide
    · rw [PyData.shown_bool]
      exact (by decide +kernel : ((if true = true then ("True" : Str) else ("False" : Str))).length ≤ 5)
theorem shZ_len' {i : Int} (hi : i.natAbs < 10 ^ 40) : (shZ i).length ≤ 41 := by
  unfold shZ
  cases i with
  | ofNat n =>
    have e := toStr_nat n
    rw [show ((toString (Int.ofNat n) : String) : Str) = mkS (numL n) from e, sg_mkS]
    exact Nat.le_succ_of_le (numL_len (k := 40) (by decide) hi)
  | negSucc n =>
    have e : toString (Int.negSucc n) = "-" ++ toString ((n + 1 : Nat) : Int) := rfl
    rw [e, ofS_app, toStr_nat, sg_mkS, List.length_append]
    have := numL_len (n := n + 1) (k := 40) (by decide) hi
    have h1 : (sg (Str.ofString "-")).length = 1 := by decide +kernel
    omega
theorem As.int {i : Int} (hi : i.natAbs < 10 ^ 40) : As (.int i) 41 := by
  refine ⟨?_, ?_, ?_⟩
  · have hz := pow_lt (Nat.lt_of_lt_of_le hi (Nat.pow_le_pow_right (by decide) (show 40 ≤ 400 by decide))) (by omega)
    simp only [PyData.showable, hz, decide_true]
  · rw [PyData.shown_int]
    exact int_chars i
  · rw [PyData.shown_int, len_sg]
    exact shZ_len' hi
theorem rc_asc : ∀ q ∈ ([39, 34] : List Nat), ∀ c ∈ List.range 128, (∀ x ∈ Builtin.Str.reprChar q c, x < 128) ∧ (Builtin.Str.reprChar q c).length ≤ 4 := by decide +kernel
theorem As.str {l : List Nat} {m : Nat} (h : ∀ c ∈ l, c < 128) (hl : l.length ≤ m) : As (.str (mkS l)) (4 * m + 2) := by
  have hq : reprQuote (mkS l) ∈ ([39, 34] : List Nat) := by
    unfold reprQuote
    split <;> decide
  have hq2 : reprQuote (mkS l) < 128 := by
    simp only [List.mem_cons, List.not_mem_nil, or_false] at hq
    omega
  have key : ∀ (ys : List Nat) (acc : Array Nat) (q : Nat), q ∈ ([39, 34] : List Nat) → (∀ c ∈ ys, c < 128) → (∀ c ∈ acc.toList, c < 128) →
      (∀ c ∈ (ys.foldl (fun out c => out ++ (Builtin.Str.reprChar q c).toArray) acc).toList, c < 128) ∧ (ys.foldl (fun out c => out ++ (Builtin.Str.reprChar q c).toArray) acc).size ≤ acc.size + 4 * ys.length := by
    intro ys
    induction ys with
    | nil => intro acc q _ _ ha; exact ⟨ha, Nat.le_refl _⟩
    | cons c ys ih =>
      intro acc q hq hy ha
      obtain ⟨r1, r2⟩ := rc_asc q hq c (List.mem_range.mpr (hy c List.mem_cons_self))
      rw [List.foldl_cons]
      obtain ⟨i1, i2⟩ := ih (acc ++ (Builtin.Str.reprChar q c).toArray) q hq (fun d hd => hy d (List.mem_cons_of_mem _ hd)) (fun d hd => by
        rw [Array.toList_append] at hd
        rcases List.mem_append.mp hd with z | z
        · exact ha d z
        · exact r1 d z)
      refine ⟨i1, ?_⟩
      have r3 : (Builtin.Str.reprChar q c).toArray.size ≤ 4 := by rw [List.size_toArray]; exact r2
      rw [Array.size_append] at i2
      rw [List.length_cons]
      have e : 4 * (ys.length + 1) = 4 * ys.length + 4 := by omega
      rw [e]
      refine Nat.le_trans i2 ?_
      omega
  have fl : (mkS l).cps.foldl (fun out c => out ++ (Builtin.Str.reprChar (reprQuote (mkS l)) c).toArray) #[reprQuote (mkS l)] = l.foldl (fun out c => out ++ (Builtin.Str.reprChar (reprQuote (mkS l)) c).toArray) #[reprQuote (mkS l)] := by
    rw [← Array.foldl_toList]
    rfl
  obtain ⟨k1, k2⟩ := key l #[reprQuote (mkS l)] _ hq h (fun c hc => by
    have hc : c ∈ [reprQuote (mkS l)] := hc
    rw [List.mem_singleton.mp hc]
    exact hq2)
  refine ⟨by simp only [PyData.showable], ?_, ?_⟩
  · rw [PyData.shown_str]
    unfold reprText
    rw [fl]
    intro c hc
    rw [Array.toList_push] at hc
    rcases List.mem_append.mp hc with z | z
    · exact k1 c z
    · rw [List.mem_singleton.mp z]
      exact hq2
  · rw [PyData.shown_str]
    unfold reprText
    rw [fl]
    show (Array.push _ _).size ≤ _
    rw [Array.size_push]
    have : (#[reprQuote (mkS l)] : Array Nat).size = 1 := rfl
    omega
theorem sum_le {ts : List Str} {n k : Nat} (h : ∀ t ∈ ts, t.length ≤ n) (hk : ts.length ≤ k) : (ts.map (·.length)).sum + 2 * ts.length ≤ k * (n + 2) := by
  have key : ∀ ts : List Str, (∀ t ∈ ts, t.length ≤ n) → (ts.map (·.length)).sum + 2 * ts.length ≤ ts.length * (n + 2) := by
    intro ts
    induction ts with
    | nil => intro _; exact Nat.zero_le _
    | cons a ts ih =>
      intro h
      have h1 := h a List.mem_cons_self
      have h2 := ih fun t ht => h t (List.mem_cons_of_mem _ ht)
      have e : (a :: ts).length * (n + 2) = ts.length * (n + 2) + (n + 2) := Nat.succ_mul _ _
      rw [List.map_cons, List.sum_cons, e, List.length_cons]
      omega
  exact Nat.le_trans (key ts h) (Nat.mul_le_mul_right _ hk)
theorem shownAll_mem : ∀ {xs : List PyData} {t : Str}, t ∈ PyData.shownAll xs → ∃ x ∈ xs, t = x.shown
  | [], t, h => by rw [PyData.shownAll_nil] at h; cases h
  | x :: xs, t, h => by
    rw [PyData.shownAll_cons] at h
    rcases List.mem_cons.mp h with h | h
    · exact ⟨x, List.mem_cons_self, h⟩
    · obtain ⟨y, hy, e⟩ := shownAll_mem h
      exact ⟨y, List.mem_cons_of_mem _ hy, e⟩
theorem shownAll_len : ∀ {xs : List PyData}, (PyData.shownAll xs).length = xs.length
  | [] => by rw [PyData.shownAll_nil]; rfl
  | x :: xs => by rw [PyData.shownAll_cons, List.length_cons, List.length_cons, shownAll_len]
theorem showableAll_of : ∀ {xs : List PyData}, (∀ x ∈ xs, x.showable = true) → PyData.showableAll xs = true
  | [], _ => by simp only [PyData.showableAll]
  | x :: xs, h => by simp only [PyData.showableAll, h x List.mem_cons_self, showableAll_of fun y hy => h y (List.mem_cons_of_mem _ hy), Bool.and_self]
theorem As.lst {xs : List PyData} {n k : Nat} (h : ∀ x ∈ xs, As x n) (hk : xs.length ≤ k) : As (.list xs) (k * (n + 2) + 3) := by
  have hj : ∀ t ∈ PyData.shownAll xs, (∀ c ∈ t.cps.toList, c < 128) ∧ t.length ≤ n := fun t ht => by
    obtain ⟨x, hx, rfl⟩ := shownAll_mem ht
    exact ⟨(h x hx).lt, (h x hx).le⟩
  refine ⟨by simp only [PyData.showable]; exact showableAll_of fun x hx => (h x hx).ab, ?_, ?_⟩
  · rw [PyData.shown_list]
    refine asc_app (asc_app ?_ (asc_join fun t ht => (hj t ht).1)) ?_
    · have e : ((("[" : String) : Str)).cps.toList = [91] := by decide +kernel
      rw [e]; decide
    · have e : ((("]" : String) : Str)).cps.toList = [93] := by decide +kernel
      rw [e]; decide
  · have := listText_len_le (PyData.shownAll xs)
    have s := sum_le (ts := PyData.shownAll xs) (n := n) (k := k) (fun t ht => (hj t ht).2) (by rw [shownAll_len]; exact hk)
    have e : (PyData.list xs).shown = listText (PyData.shownAll xs) := by simp only [PyData.shown]
    rw [e]
    omega
theorem As.tup {xs : List PyData} {n k : Nat} (h : ∀ x ∈ xs, As x n) (hk : xs.length ≤ k) : As (.tuple xs) (k * (n + 2) + 3) := by
  have hj : ∀ t ∈ PyData.shownAll xs, (∀ c ∈ t.cps.toList, c < 128) ∧ t.length ≤ n := fun t ht => by
    obtain ⟨x, hx, rfl⟩ := shownAll_mem ht
    exact ⟨(h x hx).lt, (h x hx).le⟩
  refine ⟨by simp only [PyData.showable]; exact showableAll_of fun x hx => (h x hx).ab, ?_, ?_⟩
  · rw [PyData.shown_tuple]
    refine asc_app (asc_app ?_ (asc_join fun t ht => (hj t ht).1)) ?_
    · have e : ((("(" : String) : Str)).cps.toList = [40] := by decide +kernel
      rw [e]; decide
    · split
      · have e : (((",)" : String) : Str)).cps.toList = [44, 41] := by decide +kernel
        rw [e]; decide
      · have e : (((")" : String) : Str)).cps.toList = [41] := by decide +kernel
        rw [e]; decide
  · have := tupleText_len_le (PyData.shownAll xs)
    have s := sum_le (ts := PyData.shownAll xs) (n := n) (k := k) (fun t ht => (hj t ht).2) (by rw [shownAll_len]; exact hk)
    have e : (PyData.tuple xs).shown = tupleText (PyData.shownAll xs) := by simp only [PyData.shown]
    rw [e]
    omega
theorem As.dic0 : As (.dict []) 3 := by
  refine ⟨by simp only [PyData.showable, PyData.showableKv], ?_, ?_⟩
  · rw [PyData.shown_dict]
    have e : (((("{" : String) : Str)) ++ Str.join ", " (PyData.shownKv []) ++ (("}" : String) : Str)).cps.toList = [123, 125] := by
      simp only [PyData.shownKv]
      decide +kernel
    rw [e]; decide
  · rw [PyData.shown_dict]
    have e : (((("{" : String) : Str)) ++ Str.join ", " (PyData.shownKv []) ++ (("}" : String) : Str)).length = 2 := by
      simp only [PyData.shownKv]
      decide +kernel
    rw [e]; decide
theorem As.dic1 {k v : PyData} {n : Nat} (hk : As k n) (hv : As v n) : As (.dict [(k, v)]) (2 * n + 4) := by
  have e : (PyData.dict [(k, v)]).shown = (("{" : String) : Str) ++ (k.shown ++ ((": " : String) : Str) ++ v.shown) ++ (("}" : String) : Str) := by
    rw [PyData.shown_dict]
    simp only [PyData.shownKv]
    rfl
  refine ⟨by simp only [PyData.showable, PyData.showableKv, hk.ab, hv.ab, Bool.and_self], ?_, ?_⟩
  · rw [e]
    refine asc_app (asc_app ?_ (asc_app (asc_app hk.lt ?_) hv.lt)) ?_
    · have e : ((("{" : String) : Str)).cps.toList = [123] := by decide +kernel
      rw [e]; decide
    · have e : (((": " : String) : Str)).cps.toList = [58, 32] := by decide +kernel
      rw [e]; decide
    · have e : ((("}" : String) : Str)).cps.toList = [125] := by decide +kernel
      rw [e]; decide
  · rw [e, strLen_append, strLen_append, strLen_append, strLen_append]
    have h1 : (("{" : String) : Str).length = 1 := by decide +kernel
    have h2 : ((": " : String) : Str).length = 2 := by decide +kernel
    have h3 : (("}" : String) : Str).length = 1 := by decide +kernel
    have := hk.le
    have := hv.le
    omega
structure Rep (d : Nat) (w : W) (n : Nat) : Prop where
  da : isDaR d w = true
  sh : As (toR w) n
section
variable {d n m k : Nat} {w : W} {ws : List W} {l : List Nat} {h : Hh} {u : W}
theorem Rep.mono (r : Rep d w n) (hn : n ≤ m) : Rep d w m := ⟨r.da, r.sh.mono hn⟩
theorem Rep.non (hn : 4 ≤ n) : Rep d .non n := ⟨rfl, As.non.mono hn⟩
theorem Rep.bl {b : Bool} (hn : 5 ≤ n) : Rep d (.bl b) n := ⟨rfl, As.bl.mono hn⟩
theorem Rep.int {i : Int} (hi : i.natAbs < 10 ^ 40) (hn : 41 ≤ n) : Rep d (.int i) n := ⟨rfl, (As.int hi).mono hn⟩
theorem Rep.str (hc : ∀ c ∈ l, c < 128) (hl : 4 * l.length + 2 ≤ n) (h6 : l.length ≤ 1000000) : Rep d (.str (mkS l)) n := ⟨fine_le hc h6, (As.str hc (Nat.le_refl _)).mono hl⟩
theorem areDaR_of : ∀ {ws : List W}, (∀ x ∈ ws, isDaR d x = true) → areDaR d ws = true
  | [], _ => rfl
  | x :: xs, h => by
    show (isDaR d x && areDaR d xs) = true
    rw [h x List.mem_cons_self, areDaR_of fun y hy => h y (List.mem_cons_of_mem _ hy)]
    rfl
theorem toRs_map : ∀ {ws : List W}, toRs ws = ws.map toR
  | [] => rfl
  | x :: xs => by
    show toR x :: toRs xs = _
    rw [toRs_map]
    rfl
theorem Rep.lst (hs : ∀ x ∈ ws, Rep d x n) (hl : ws.length ≤ k) (hm : k * (n + 2) + 3 ≤ m) : Rep (d + 1) (.lst ws) m := by
  refine ⟨areDaR_of fun x hx => (hs x hx).da, As.mono ?_ hm⟩
  show As (.list (toRs ws)) _
  rw [toRs_map]
  exact As.lst (fun x hx => by
    obtain ⟨y, hy, rfl⟩ := List.mem_map.mp hx
    exact (hs y hy).sh) (by rw [List.length_map]; exact hl)
theorem Rep.tup (hs : ∀ x ∈ ws, Rep d x n) (hl : ws.length ≤ k) (hm : k * (n + 2) + 3 ≤ m) : Rep (d + 1) (.tup ws) m := by
  refine ⟨areDaR_of fun x hx => (hs x hx).da, As.mono ?_ hm⟩
  show As (.tuple (toRs ws)) _
  rw [toRs_map]
  exact As.tup (fun x hx => by
    obtain ⟨y, hy, rfl⟩ := List.mem_map.mp hx
    exact (hs y hy).sh) (by rw [List.length_map]; exact hl)
theorem Rep.dic0 (hn : 3 ≤ n) : Rep (d + 1) (.dic false []) n := ⟨rfl, As.dic0.mono hn⟩
theorem Rep.dic1 {v : W} (hc : ∀ c ∈ l, c < 128) (hl : 4 * l.length + 2 ≤ n) (hv : Rep d v n) (hm : 2 * n + 4 ≤ m) : Rep (d + 1) (.dic false [(.str (mkS l), v)]) m := by
  refine ⟨?_, As.mono (As.dic1 (k := .str (mkS l)) (v := toR v) ((As.str hc (Nat.le_refl _)).mono hl) hv.sh) hm⟩
  show (!false && (true && (isDaR d v && true))) = true
  rw [hv.da]
  rfl
theorem Rep.run (e : drf h u = w) (r : Rep 58 w n) (hn : n ≤ 1000000) : ∃ s, pReprD u h = .ok (.str s, h) ∧ strFine s = true := by
  refine ⟨(toR w).shown, ?_, ?_⟩
  · unfold pReprD
    rw [e, r.da, r.sh.ab, decide_eq_true (Nat.le_trans r.sh.le (Nat.le_trans hn (by decide)))]
    rfl
  · unfold strFine
    rw [Bool.and_eq_true, decide_eq_true_eq]
    refine ⟨?_, Nat.le_trans r.sh.le hn⟩
    rw [Array.all_eq_true']
    intro c hc
    exact decide_eq_true (r.sh.lt c (Array.mem_def.mp hc))
end
end Ti


namespace Ti
open PySem Pr
def Lv (h : Hh) (u : W) (ws : List W) : Prop := u = .lst ws ∨ ∃ i, u = .ref i ∧ h[i]? = some (.lst ws)
section
variable {h H H0 : Hh} {u v x : W} {ws : List W} {ls : List Nm} {w : Option Nat} {k : Kd} {i j n B : Nat}
theorem Lv.as (L : Lv h u ws) : asL h u = some ws := by
  rcases L with rfl | ⟨i, rfl, e⟩
  · rfl
  · exact asL_at e
theorem Lv.kd (L : Lv h u ws) : kindW h u = some .list := by
  rcases L with rfl | ⟨i, rfl, e⟩
  · rfl
  · unfold kindW
    simp only [e]
theorem Lv.look (L : Lv h u ws) : look h u = .lst ws := by
  rcases L with rfl | ⟨i, rfl, e⟩
  · rfl
  · exact look_at e
theorem Lv.len (L : Lv h u ws) : pLen u h = .ok (.int (ws.length : Int), h) := len_as L.as
theorem Lv.ix {y : W} (L : Lv h u ws) (e : ws[n]? = some y) : pIx u (.int (n : Int)) h = .ok (y, h) := by
  rcases L with rfl | ⟨i, rfl, e1⟩
  · exact ix_nat e
  · have : ixW h (.ref i) (.int (n : Int)) = some y := by
      show (match asL h (.ref i) with
        | some ws => itemW ws (.int (n : Int))
        | none => match asD h (.ref i) with
          | some (kd, kvs) => entryW kd kvs (.int (n : Int))
          | none => none) = _
      rw [asL_at e1]
      show (placeI ws.length (n : Int)).bind (fun j => ws[j]?) = _
      rw [place_nat (List.getElem?_eq_some_iff.mp e).1, Option.bind_some, e]
    unfold pIx
    rw [this]
    rfl
theorem Lv.fe (L : Lv h u ws) : fiE [u] h = some ⟨enumW ws, keepL u ws⟩ := by
  rcases L with rfl | ⟨i, rfl, e⟩
  · rfl
  · show (asL h (.ref i)).map _ = _
    rw [asL_at e]
    rfl
end
end Ti


namespace Ti
open PySem Pr
section
variable {ρ : Env} {h h' : Hh} {c : DE} {a b m : DS} {f : Fn} {n j i : Nat} {ds : List W} {es : List DE} {fld : Str} {k : Nat}
end
section
variable {h H H0 : Hh} {u v x : W} {ws : List W} {ls : List Nm} {w : Option Nat} {k : Kd} {i j n B : Nat}
end
end Ti


namespace Ti
open PySem Pr
def valN : Str := mkS [118, 97, 108, 117, 101]
def er (c : Nat) (v : W) : W := .err c [(valN, v)]
section
variable {h H H0 : Hh} {u v x : W} {ws : List W} {ls : List Nm} {w : Option Nat} {k : Kd} {i j n B c cn cw : Nat}
def laterS : Str := mkS [108, 97, 116, 101, 114]
inductive Kept (h : Hh) : W → Prop where
  | tree {v : W} {k : Kd} {s : Str} (hk : kindW h v = some k) (hn : k ≠ .list) (hr : pReprD v h = .ok (.str s, h)) (hf : strFine s = true) : Kept h v
  | cell {i : Nat} {ws : List W} {s s' : Str} (e : h[i]? = some (.lst ws)) (hl : ws.length < 10000) (hr : pReprD (.ref i) h = .ok (.str s, h)) (hf : strFine s = true)
      (hr' : pReprD (.ref i) (h.set i (.lst (ws ++ [.str laterS]))) = .ok (.str s', h.set i (.lst (ws ++ [.str laterS])))) (hf' : strFine s' = true) : Kept h (.ref i)
end
end Ti


namespace Bd
open PySem PySem.Spec Ti
def vN : Str := mkS [118, 97, 108, 117, 101]
def nN : Str := mkS [110, 97, 109, 101]
def tN' : Str := mkS [116, 114, 105, 101, 115]
def clsB (c : Nat) : List W := (List.range 13).map fun j => .bl (decide (j + 1 = c))
section
variable {h H : Hh} {u v w x y : W} {c i j k n : Nat} {fs : List (Str × W)} {ws : List W} {ns : List Int}
theorem classes_gen {b1 b2 b3 b4 b5 b6 b7 b8 b9 b10 b11 b12 b13 : Bool} (p1 : pIsE [(0, false), (1, true), (2, false), (3, false), (4, false), (5, false), (6, false), (7, false), (8, false), (9, false), (10, false), (11, false), (12, false), (13, false)] [] x h = .ok (.bl b1, h)) (p2 : pIsE [(0, false), (1, false), (2, true), (3, false), (4, false), (5, false), (6, false), (7, false), (8, false), (9, false), (10, false), (11, false), (12, false), (13, false)] [] x h = .ok (.bl b2, h)) (p3 : pIsE [(0, false), (1, false), (2, false), (3, true), (4, false), (5, false), (6, false), (7, false), (8, false), (9, false), (10, false), (11, false), (12, false), (13, false)] [] x h = .ok (.bl b3, h)) (p4 : pIsE [(0, false), (1, false), (2, false), (3, false), (4, true), (5, false), (6, false), (7, false), (8, false), (9, false), (10, false), (11, false), (12, false), (13, false)] [] x h = .ok (.bl b4, h)) (p5 : pIsE [(0, false), (1, false), (2, false), (3, false), (4, false), (5, true), (6, false), (7, false), (8, false), (9, false), (10, false), (11, false), (12, false), (13, false)] [] x h = .ok (.bl b5, h)) (p6 : pIsE [(0, false), (1, false), (2, false), (3, false), (4, false), (5, false), (6, true), (7, false), (8, false), (9, false), (10, false), (11, false), (12, false), (13, false)] [] x h = .ok (.bl b6, h)) (p7 : pIsE [(0, false), (1, false), (2, false), (3, false), (4, false), (5, false), (6, false), (7, true), (8, false), (9, false), (10, false), (11, false), (12, false), (13, false)] [] x h = .ok (.bl b7, h)) (p8 : pIsE [(0, false), (1, false), (2, false), (3, false), (4, false), (5, false), (6, false), (7, false), (8, true), (9, false), (10, false), (11, false), (12, false), (13, false)] [] x h = .ok (.bl b8, h)) (p9 : pIsE [(0, false), (1, false), (2, false), (3, false), (4, false), (5, false), (6, false), (7, false), (8, false), (9, true), (10, false), (11, false), (12, false), (13, false)] [] x h = .ok (.bl b9, h)) (p10 : pIsE [(0, false), (1, false), (2, false), (3, false), (4, false), (5, false), (6, false), (7, false), (8, false), (9, false), (10, true), (11, false), (12, false), (13, false)] [] x h = .ok (.bl b10, h)) (p11 : pIsE [(0, false), (1, false), (2, false), (3, false), (4, false), (5, false), (6, false), (7, false), (8, false), (9, false), (10, false), (11, true), (12, false), (13, false)] [] x h = .ok (.bl b11, h)) (p12 : pIsE [(0, false), (1, false), (2, false), (3, false), (4, false), (5, false), (6, false), (7, false), (8, false), (9, false), (10, false), (11, false), (12, true), (13, false)] [] x h = .ok (.bl b12, h)) (p13 : pIsE [(0, false), (1, false), (2, false), (3, false), (4, false), (5, false), (6, false), (7, false), (8, false), (9, false), (10, false), (11, false), (12, false), (13, true)] [] x h = .ok (.bl b13, h)) : f__law_classes [x] h = .ok (.lst [.bl b1, .bl b2, .bl b3, .bl b4, .bl b5, .bl b6, .bl b7, .bl b8, .bl b9, .bl b10, .bl b11, .bl b12, .bl b13], h) := by
  have m1 : ∀ {ws : List W}, ws.length ≤ 100 → mkL false ws h = .ok (.lst ws, h) := fun hl => mkL_f (Nat.le_trans hl (by decide))
  have a1 : ∀ {as bs : List W}, as.length + bs.length ≤ 100 → pAdd false (.lst as) (.lst bs) h = .ok (.lst (as ++ bs), h) := fun hl => add_lst (Nat.le_trans hl (by decide))
  unfold f__law_classes b__law_classes
  simp only [r_run, List.map_cons, List.map_nil, List.length_cons, List.length_nil, List.replicate, List.cons_append, List.nil_append, List.append_nil, List.set_cons_zero, List.set_cons_succ, List.set_nil, Nat.sub_self, Nat.zero_add, Nat.reduceAdd, Nat.reduceSub, Nat.reduceEqDiff, Nat.reduceLeDiff, Res.bind_ok, ofO_some, T_ok, T_bind, if_true, if_false, Bool.false_eq_true, Bool.not_true, Bool.not_false, r_eK, r_eV0, r_eVs, r_e1, r_e2, r_e3, r_eL0, r_eLs, r_eF, r_eAnd, r_eOr, r_eNot, r_eIf, r_eTree, r_eLst, r_eTup, r_eDic, r_tN, r_tL0, r_tLs, r_tT, r_sNil, r_sPass, r_sE, r_sAsg, r_sRet, r_sRetN, r_sBrk, r_sCnt, r_sIf, r_sSet, r_sCons, r_sFor, r_eCall, r_l1, r_l2, r_l3, r_eM, r_eComp, r_eChain, andThen_nx, andThen_rt, andThen_bk, andThen_ct, hb_nx, hb_rt, fin_raw, fin_int, fin_bl, fin_str, fin_non, truthy_bl, truthy_non, truthy_int, add_int, sub_int, lt_int, le_int, gt_int, ge_int, is_non, isN_non, isNon_non, isNon_int, isNon_str, fiL_lst, fiL_tup, fiL_str, decide_true, decide_false, decide_eq_true_eq, lineW_eq, mkL_f, mkL_t, Nat.reduceLeDiff, ix_tup3_0, ix_tup3_1, ix_tup3_2, ix_tup2_0, ix_tup2_1, sl_tup3_1, r_forG0, r_forGs, nextF_nx, nextF_ct, nextF_bk, nextF_rt, nW_none, nW_some, Option.isNone_none, Option.isNone_some, Nat.reduceLT, fin_new_lst, len_names, fiL_names, fiE_names, len2_le, len3_le, p1, p2, p3, p4, p5, p6, p7, p8, p9, p10, p11, p12, p13, a1, m1]
  exact fin_here rfl
theorem classes_0 : f__law_classes [.err 0 fs] h = .ok (.lst (clsB 0), h) := classes_gen rfl rfl rfl rfl rfl rfl rfl rfl rfl rfl rfl rfl rfl
theorem classes_1 : f__law_classes [.err 1 fs] h = .ok (.lst (clsB 1), h) := classes_gen rfl rfl rfl rfl rfl rfl rfl rfl rfl rfl rfl rfl rfl
theorem classes_2 : f__law_classes [.err 2 fs] h = .ok (.lst (clsB 2), h) := classes_gen rfl rfl rfl rfl rfl rfl rfl rfl rfl rfl rfl rfl rfl
theorem classes_3 : f__law_classes [.err 3 fs] h = .ok (.lst (clsB 3), h) := classes_gen rfl rfl rfl rfl rfl rfl rfl rfl rfl rfl rfl rfl rfl
theorem classes_4 : f__law_classes [.err 4 fs] h = .ok (.lst (clsB 4), h) := classes_gen rfl rfl rfl rfl rfl rfl rfl rfl rfl rfl rfl rfl rfl
theorem classes_5 : f__law_classes [.err 5 fs] h = .ok (.lst (clsB 5), h) := classes_gen rfl rfl rfl rfl rfl rfl rfl rfl rfl rfl rfl rfl rfl
theorem classes_6 : f__law_classes [.err 6 fs] h = .ok (.lst (clsB 6), h) := classes_gen rfl rfl rfl rfl rfl rfl rfl rfl rfl rfl rfl rfl rfl
theorem classes_7 : f__law_classes [.err 7 fs] h = .ok (.lst (clsB 7), h) := classes_gen rfl rfl rfl rfl rfl rfl rfl rfl rfl rfl rfl rfl rfl
theorem classes_8 : f__law_classes [.err 8 fs] h = .ok (.lst (clsB 8), h) := classes_gen rfl rfl rfl rfl rfl rfl rfl rfl rfl rfl rfl rfl rfl
theorem classes_9 : f__law_classes [.err 9 fs] h = .ok (.lst (clsB 9), h) := classes_gen rfl rfl rfl rfl rfl rfl rfl rfl rfl rfl rfl rfl rfl
theorem classes_10 : f__law_classes [.err 10 fs] h = .ok (.lst (clsB 10), h) := classes_gen rfl rfl rfl rfl rfl rfl rfl rfl rfl rfl rfl rfl rfl
theorem classes_11 : f__law_classes [.err 11 fs] h = .ok (.lst (clsB 11), h) := classes_gen rfl rfl rfl rfl rfl rfl rfl rfl rfl rfl rfl rfl rfl
theorem classes_12 : f__law_classes [.err 12 fs] h = .ok (.lst (clsB 12), h) := classes_gen rfl rfl rfl rfl rfl rfl rfl rfl rfl rfl rfl rfl rfl
theorem classes_13 : f__law_classes [.err 13 fs] h = .ok (.lst (clsB 13), h) := classes_gen rfl rfl rfl rfl rfl rfl rfl rfl rfl rfl rfl rfl rfl
theorem classes_run (hc : c ≤ 13) : f__law_classes [.err c fs] h = .ok (.lst (clsB c), h) := by
  match c, hc with
  | 0, _ => exact classes_0
  | 1, _ => exact classes_1
  | 2, _ => exact classes_2
  | 3, _ => exact classes_3
  | 4, _ => exact classes_4
  | 5, _ => exact classes_5
  | 6, _ => exact classes_6
  | 7, _ => exact classes_7
  | 8, _ => exact classes_8
  | 9, _ => exact classes_9
  | 10, _ => exact classes_10
  | 11, _ => exact classes_11
  | 12, _ => exact classes_12
  | 13, _ => exact classes_13
theorem isE0 (hc : c ≤ 13) : pIsE [(0, true), (1, true), (2, true), (3, true), (4, true), (5, true), (6, true), (7, true), (8, true), (9, true), (10, true), (11, true), (12, true), (13, true)] [] (.err c fs) h = .ok (.bl true, h) := by
  match c, hc with
  | 0, _ => rfl
  | 1, _ => rfl
  | 2, _ => rfl
  | 3, _ => rfl
  | 4, _ => rfl
  | 5, _ => rfl
  | 6, _ => rfl
  | 7, _ => rfl
  | 8, _ => rfl
  | 9, _ => rfl
  | 10, _ => rfl
  | 11, _ => rfl
  | 12, _ => rfl
  | 13, _ => rfl
theorem isV0 (hc : c ≤ 13) : pIsV [0, 1, 2, 3, 4, 5, 6, 7, 8, 9, 10, 11, 12, 13] (.err c fs) h = .ok (.bl true, h) := by
  match c, hc with
  | 0, _ => rfl
  | 1, _ => rfl
  | 2, _ => rfl
  | 3, _ => rfl
  | 4, _ => rfl
  | 5, _ => rfl
  | 6, _ => rfl
  | 7, _ => rfl
  | 8, _ => rfl
  | 9, _ => rfl
  | 10, _ => rfl
  | 11, _ => rfl
  | 12, _ => rfl
  | 13, _ => rfl
def plC : DE := (eComp false [3] (tN 3) fiR [(eK (W.int 13))] none (e2 pEq (eV 3) (eV 1)))
def plB : DS := (sCons (sIf (eOr (eNot (e1 (pIsE [(0, true), (1, true), (2, true), (3, true), (4, true), (5, true), (6, true), (7, true), (8, true), (9, true), (10, true), (11, true), (12, true), (13, true)] []) (eV 2))) (eNot (e1 (pIsV [0, 1, 2, 3, 4, 5, 6, 7, 8, 9, 10, 11, 12, 13]) (eV 2)))) (sRet (eK (W.bl false))) sNil) (sIf (e2 pNe (eCall Bd.f__law_classes 1 [] [(eV 2)]) plC) (sRet (eK (W.bl false))) sNil))
theorem b__law_placed_eq : b__law_placed = (sCons (sFor (tT [(tN 1), (tN 2)]) fiE [(eV 0)] plB) (sRet (eK (W.bl true)))) := rfl
def lwR : DS := (sCons (sIf (e2 pNe (eF (l1 pReprD) [(e2 (pAdd false) (eCall Bd.f__law_fields 1 [] [(eV 4)]) (eCall Bd.f__law_fields 1 [] [(eV 5)]))]) (eF (l1 pReprD) [(e2 (pMul false) (eLst false [(eV 3)]) (eK (W.int 24)))])) (sRet (eK (W.bl false))) sNil) (sCons (sIf (e2 pNe (eComp false [8] (tN 8) fiL [(eCall Bd.f__law_fields 1 [] [(eV 6)])] (some (e2 pIsN (eV 8) (eK W.non))) (eV 8)) (eLst false [])) (sRet (eK (W.bl false))) sNil) (sIf (e1 (pIsi .list) (eV 3)) (sCons (sE (eM .list (l2 pAppend) (eV 3) [(eK (W.str (mkS [108, 97, 116, 101, 114])))])) (sIf (e2 pNe (eF (l1 pReprD) [(e2 (pAdd false) (eCall Bd.f__law_fields 1 [] [(eV 4)]) (eCall Bd.f__law_fields 1 [] [(eV 5)]))]) (eF (l1 pReprD) [(e2 (pMul false) (eLst false [(eV 3)]) (eK (W.int 24)))])) (sRet (eK (W.bl false))) sNil)) sNil)))
def lwQ : DS := (sIf (eNot (eCall Bd.f__law_placed 1 [] [(e2 (pAdd false) (eV 7) (eLst false [(eErr0 13 [])]))])) (sRet (eK (W.bl false))) sNil)
def lwF : DS := (sCons (sFor (tN 7) fiL [(eTup [(eV 4), (eV 5), (eV 6)])] lwQ) lwR)
def lwB : DS := (sCons (sAsg (tN 3) (eCall Bd.f__law_thing 2 [] [(eF (l1 pSum) [(e3 (pSl false true true) (eV 0) (eV 2) (e2 (pAdd false) (eV 2) (eK (W.int 1))))]), (eV 2)])) (sCons (sAsg (tN 4) (eLst false [(eErr 1 (mkS [118, 97, 108, 117, 101]) (eV 3)), (eErr 2 (mkS [118, 97, 108, 117, 101]) (eV 3)), (eErr 3 (mkS [118, 97, 108, 117, 101]) (eV 3)), (eErr 4 (mkS [118, 97, 108, 117, 101]) (eV 3))])) (sCons (sAsg (tN 4) (e2 (pAdd false) (eV 4) (eLst false [(eErr 5 (mkS [118, 97, 108, 117, 101]) (eV 3)), (eErr 6 (mkS [118, 97, 108, 117, 101]) (eV 3)), (eErr 7 (mkS [118, 97, 108, 117, 101]) (eV 3)), (eErr 8 (mkS [118, 97, 108, 117, 101]) (eV 3))]))) (sCons (sAsg (tN 4) (e2 (pAdd false) (eV 4) (eLst false [(eErr 9 (mkS [118, 97, 108, 117, 101]) (eV 3)), (eErr 10 (mkS [118, 97, 108, 117, 101]) (eV 3)), (eErr 11 (mkS [110, 97, 109, 101]) (eV 3)), (eErr 12 (mkS [116, 114, 105, 101, 115]) (eV 3))]))) (sCons (sAsg (tN 5) (eLst false [(eErr 1 (mkS [118, 97, 108, 117, 101]) (eV 3)), (eErr 2 (mkS [118, 97, 108, 117, 101]) (eV 3)), (eErr 3 (mkS [118, 97, 108, 117, 101]) (eV 3))])) (sCons (sAsg (tN 5) (e2 (pAdd false) (eV 5) (eLst false [(eErr 4 (mkS [118, 97, 108, 117, 101]) (eV 3)), (eErr 5 (mkS [118, 97, 108, 117, 101]) (eV 3)), (eErr 6 (mkS [118, 97, 108, 117, 101]) (eV 3))]))) (sCons (sAsg (tN 5) (e2 (pAdd false) (eV 5) (eLst false [(eErr 7 (mkS [118, 97, 108, 117, 101]) (eV 3)), (eErr 8 (mkS [118, 97, 108, 117, 101]) (eV 3)), (eErr 9 (mkS [118, 97, 108, 117, 101]) (eV 3))]))) (sCons (sAsg (tN 5) (e2 (pAdd false) (eV 5) (eLst false [(eErr 10 (mkS [118, 97, 108, 117, 101]) (eV 3)), (eErr 11 (mkS [110, 97, 109, 101]) (eV 3)), (eErr 12 (mkS [116, 114, 105, 101, 115]) (eV 3))]))) (sCons (sAsg (tN 6) (eLst false [(eErr0 1 [((mkS [118, 97, 108, 117, 101]), W.non)]), (eErr0 2 [((mkS [118, 97, 108, 117, 101]), W.non)]), (eErr0 3 [((mkS [118, 97, 108, 117, 101]), W.non)]), (eErr0 4 [((mkS [118, 97, 108, 117, 101]), W.non)]), (eErr0 5 [((mkS [118, 97, 108, 117, 101]), W.non)]), (eErr0 6 [((mkS [118, 97, 108, 117, 101]), W.non)])])) (sCons (sAsg (tN 6) (e2 (pAdd false) (eV 6) (eLst false [(eErr0 7 [((mkS [118, 97, 108, 117, 101]), W.non)]), (eErr0 8 [((mkS [118, 97, 108, 117, 101]), W.non)]), (eErr0 9 [((mkS [118, 97, 108, 117, 101]), W.non)]), (eErr0 10 [((mkS [118, 97, 108, 117, 101]), W.non)]), (eErr0 11 [((mkS [110, 97, 109, 101]), W.non)]), (eErr0 12 [((mkS [116, 114, 105, 101, 115]), W.non)])]))) lwF))))))))))
theorem b_law_eq : b_law = (sCons (sAsg (tN 1) (eErr0 0 [])) (sCons (sIf (eOr (eNot (e1 (pIsV [0, 1, 2, 3, 4, 5, 6, 7, 8, 9, 10, 11, 12, 13]) (eV 1))) (e2 pIn (eK (W.bl true)) (eCall Bd.f__law_classes 1 [] [(eV 1)]))) (sRet (eK (W.bl false))) sNil) (sCons (sFor (tN 2) fiR [(eF (l2 pMax) [(eK (W.int 1)), (eF (l1 pLen) [(e3 (pSl false false true) (eV 0) (eK W.non) (eK (W.int 20)))])])] lwB) (sRet (eK (W.bl true)))))) := rfl
theorem rng_eq : (rangeW 0 13).filter (fun _ => true) = rangeW 0 13 := List.filter_eq_self.mpr fun _ _ => rfl
theorem plC_run (hi : i < 13) {a0 a2 a3 : Option W} : plC [a0, some (.int (i : Int)), a2, a3] h = .ok (.lst (clsB (i + 1)), h) := by
  have e : ∀ h, fiR [.int 13] h = some ⟨rangeW 0 13, fun _ => true⟩ := fun h => range_nat (h := h) (n := 13) (by decide)
  have c1 : ∀ a3, compG (fun _ => true) [3] (tN 3) none (e2 pEq (eV 3) (eV 1)) [a0, some (.int (i : Int)), a2, a3] (rangeW 0 13) [] h = .ok (((rangeW 0 13).filter fun _ => true).map (fun x => match x with
      | .int z => .bl (decide (z = (i : Int)))
      | _ => .non), h) := by
    intro a3
    refine comp1 (fun _ => true) _ (fun x hx => ⟨rfl, fun _ => ?_⟩) (by rw [range_len]; decide)
    obtain ⟨k, hk⟩ := List.mem_iff_getElem?.mp hx
    obtain ⟨hk, rfl⟩ := range_get hk
    have q : pEq (.int (0 + (k : Int))) (.int (i : Int)) h = .ok (.bl (decide (0 + (k : Int) = (i : Int))), h) := rfl
    simp only [r_run, List.map_cons, List.map_nil, List.length_cons, List.length_nil, List.replicate, List.cons_append, List.nil_append, List.append_nil, List.set_cons_zero, List.set_cons_succ, List.set_nil, Nat.sub_self, Nat.zero_add, Nat.reduceAdd, Nat.reduceSub, Nat.reduceEqDiff, Nat.reduceLeDiff, Res.bind_ok, ofO_some, T_ok, T_bind, if_true, if_false, Bool.false_eq_true, Bool.not_true, Bool.not_false, r_eK, r_eV0, r_eVs, r_e1, r_e2, r_e3, r_eL0, r_eLs, r_eF, r_eAnd, r_eOr, r_eNot, r_eIf, r_eTree, r_eLst, r_eTup, r_eDic, r_tN, r_tL0, r_tLs, r_tT, r_sNil, r_sPass, r_sE, r_sAsg, r_sRet, r_sRetN, r_sBrk, r_sCnt, r_sIf, r_sSet, r_sCons, r_sFor, r_eCall, r_l1, r_l2, r_l3, r_eM, r_eComp, r_eChain, andThen_nx, andThen_rt, andThen_bk, andThen_ct, hb_nx, hb_rt, fin_raw, fin_int, fin_bl, fin_str, fin_non, truthy_bl, truthy_non, truthy_int, add_int, sub_int, lt_int, le_int, gt_int, ge_int, is_non, isN_non, isNon_non, isNon_int, isNon_str, fiL_lst, fiL_tup, fiL_str, decide_true, decide_false, decide_eq_true_eq, lineW_eq, mkL_f, mkL_t, Nat.reduceLeDiff, ix_tup3_0, ix_tup3_1, ix_tup3_2, ix_tup2_0, ix_tup2_1, sl_tup3_1, r_forG0, r_forGs, nextF_nx, nextF_ct, nextF_bk, nextF_rt, nW_none, nW_some, Option.isNone_none, Option.isNone_some, Nat.reduceLT, fin_new_lst, len_names, fiL_names, fiE_names, len2_le, len3_le, q]
  have l : (((rangeW 0 13).filter fun _ => true).map (fun x => match x with
      | .int z => W.bl (decide (z = (i : Int)))
      | _ => .non)) = clsB (i + 1) := by
    rw [rng_eq]
    unfold rangeW clsB
    rw [List.map_map]
    refine List.map_congr_left fun j _ => ?_
    show W.bl (decide (0 + (j : Int) = (i : Int))) = .bl (decide (j + 1 = i + 1))
    congr 1
    exact decide_eq_decide.mpr (by omega)
  unfold plC
  simp only [r_run, List.map_cons, List.map_nil, List.length_cons, List.length_nil, List.replicate, List.cons_append, List.nil_append, List.append_nil, List.set_cons_zero, List.set_cons_succ, List.set_nil, Nat.sub_self, Nat.zero_add, Nat.reduceAdd, Nat.reduceSub, Nat.reduceEqDiff, Nat.reduceLeDiff, Res.bind_ok, ofO_some, T_ok, T_bind, if_true, if_false, Bool.false_eq_true, Bool.not_true, Bool.not_false, r_eK, r_eV0, r_eVs, r_e1, r_e2, r_e3, r_eL0, r_eLs, r_eF, r_eAnd, r_eOr, r_eNot, r_eIf, r_eTree, r_eLst, r_eTup, r_eDic, r_tN, r_tL0, r_tLs, r_tT, r_sNil, r_sPass, r_sE, r_sAsg, r_sRet, r_sRetN, r_sBrk, r_sCnt, r_sIf, r_sSet, r_sCons, r_sFor, r_eCall, r_l1, r_l2, r_l3, r_eM, r_eComp, r_eChain, andThen_nx, andThen_rt, andThen_bk, andThen_ct, hb_nx, hb_rt, fin_raw, fin_int, fin_bl, fin_str, fin_non, truthy_bl, truthy_non, truthy_int, add_int, sub_int, lt_int, le_int, gt_int, ge_int, is_non, isN_non, isNon_non, isNon_int, isNon_str, fiL_lst, fiL_tup, fiL_str, decide_true, decide_false, decide_eq_true_eq, lineW_eq, mkL_f, mkL_t, Nat.reduceLeDiff, ix_tup3_0, ix_tup3_1, ix_tup3_2, ix_tup2_0, ix_tup2_1, sl_tup3_1, r_forG0, r_forGs, nextF_nx, nextF_ct, nextF_bk, nextF_rt, nW_none, nW_some, Option.isNone_none, Option.isNone_some, Nat.reduceLT, fin_new_lst, len_names, fiL_names, fiE_names, len2_le, len3_le, e, c1]
  rw [l, mkL_f (Nat.le_trans (show (clsB (i + 1)).length ≤ 13 by unfold clsB; rw [List.length_map, List.length_range]; exact Nat.le_refl _) (by decide))]
def eS (f : Nat → List (Str × W)) : List W := (List.range 13).map fun i => .err (i + 1) (f i)
theorem clsB_dat : isDat 60 (look h (.lst (clsB k))) = true := areDat_map fun _ _ => rfl
theorem placed_run {f : Nat → List (Str × W)} : f__law_placed [.lst (eS f)] h = .ok (.bl true, h) := by
  have e0 : ∀ h, fiE [.lst (eS f)] h = some ⟨enumW (eS f), fun _ => true⟩ := fun _ => rfl
  apply T.eq
  unfold f__law_placed
  rw [r_run, b__law_placed_eq]
  simp only [r_run, List.map_cons, List.map_nil, List.length_cons, List.length_nil, List.replicate, List.cons_append, List.nil_append, List.append_nil, List.set_cons_zero, List.set_cons_succ, List.set_nil, Nat.sub_self, Nat.zero_add, Nat.reduceAdd, Nat.reduceSub, Nat.reduceEqDiff, Nat.reduceLeDiff, Res.bind_ok, ofO_some, T_ok, T_bind, if_true, if_false, Bool.false_eq_true, Bool.not_true, Bool.not_false, r_eK, r_eV0, r_eVs, r_e1, r_e2, r_e3, r_eL0, r_eLs, r_eF, r_eAnd, r_eOr, r_eNot, r_eIf, r_eTree, r_eLst, r_eTup, r_eDic, r_tN, r_tL0, r_tLs, r_tT, r_sNil, r_sPass, r_sE, r_sAsg, r_sRet, r_sRetN, r_sBrk, r_sCnt, r_sIf, r_sSet, r_sCons, r_sFor, r_eCall, r_l1, r_l2, r_l3, r_eM, r_eComp, r_eChain, andThen_nx, andThen_rt, andThen_bk, andThen_ct, hb_nx, hb_rt, fin_raw, fin_int, fin_bl, fin_str, fin_non, truthy_bl, truthy_non, truthy_int, add_int, sub_int, lt_int, le_int, gt_int, ge_int, is_non, isN_non, isNon_non, isNon_int, isNon_str, fiL_lst, fiL_tup, fiL_str, decide_true, decide_false, decide_eq_true_eq, lineW_eq, mkL_f, mkL_t, Nat.reduceLeDiff, ix_tup3_0, ix_tup3_1, ix_tup3_2, ix_tup2_0, ix_tup2_1, sl_tup3_1, r_forG0, r_forGs, nextF_nx, nextF_ct, nextF_bk, nextF_rt, nW_none, nW_some, Option.isNone_none, Option.isNone_some, Nat.reduceLT, fin_new_lst, len_names, fiL_names, fiE_names, len2_le, len3_le, e0]
  refine T.mono (T_forG (Q := fun q => ∃ ρ', q = (.nx, ρ', h)) (fun i ρ h' => h' = h ∧ ∃ a1 a2 a3, ρ = [some (.lst (eS f)), a1, a2, a3]) (fun _ _ _ _ => rfl) ⟨rfl, _, _, _, rfl⟩ ?_ ?_) ?_
  · rintro j x ρ h2 hj ⟨rfl, a1, a2, a3, rfl⟩
    obtain ⟨y, hy, rfl⟩ := enumW_get hj
    have hj13 : j < 13 := by
      have := (List.getElem?_eq_some_iff.mp hy).1
      unfold eS at this
      rwa [List.length_map, List.length_range] at this
    have hy' : y = .err (j + 1) (f j) := by
      unfold eS at hy
      rw [List.getElem?_map, List.getElem?_range hj13] at hy
      exact (Option.some.inj hy).symm
    subst hy'
    have q1 := isE0 (h := h2) (c := j + 1) (fs := f j) (by omega)
    have q2 := isV0 (h := h2) (c := j + 1) (fs := f j) (by omega)
    have q3 := classes_run (h := h2) (c := j + 1) (fs := f j) (by omega)
    have q4 : pNe (.lst (clsB (j + 1))) (.lst (clsB (j + 1))) h2 = .ok (.bl false, h2) := dat_ne clsB_dat
    have q5 : ∀ a0 a2 a3, plC [a0, some (.int (j : Int)), a2, a3] h2 = .ok (.lst (clsB (j + 1)), h2) := fun _ _ _ => plC_run hj13
    unfold plB
    simp only [r_run, List.map_cons, List.map_nil, List.length_cons, List.length_nil, List.replicate, List.cons_append, List.nil_append, List.append_nil, List.set_cons_zero, List.set_cons_succ, List.set_nil, Nat.sub_self, Nat.zero_add, Nat.reduceAdd, Nat.reduceSub, Nat.reduceEqDiff, Nat.reduceLeDiff, Res.bind_ok, ofO_some, T_ok, T_bind, if_true, if_false, Bool.false_eq_true, Bool.not_true, Bool.not_false, r_eK, r_eV0, r_eVs, r_e1, r_e2, r_e3, r_eL0, r_eLs, r_eF, r_eAnd, r_eOr, r_eNot, r_eIf, r_eTree, r_eLst, r_eTup, r_eDic, r_tN, r_tL0, r_tLs, r_tT, r_sNil, r_sPass, r_sE, r_sAsg, r_sRet, r_sRetN, r_sBrk, r_sCnt, r_sIf, r_sSet, r_sCons, r_sFor, r_eCall, r_l1, r_l2, r_l3, r_eM, r_eComp, r_eChain, andThen_nx, andThen_rt, andThen_bk, andThen_ct, hb_nx, hb_rt, fin_raw, fin_int, fin_bl, fin_str, fin_non, truthy_bl, truthy_non, truthy_int, add_int, sub_int, lt_int, le_int, gt_int, ge_int, is_non, isN_non, isNon_non, isNon_int, isNon_str, fiL_lst, fiL_tup, fiL_str, decide_true, decide_false, decide_eq_true_eq, lineW_eq, mkL_f, mkL_t, Nat.reduceLeDiff, ix_tup3_0, ix_tup3_1, ix_tup3_2, ix_tup2_0, ix_tup2_1, sl_tup3_1, r_forG0, r_forGs, nextF_nx, nextF_ct, nextF_bk, nextF_rt, nW_none, nW_some, Option.isNone_none, Option.isNone_some, Nat.reduceLT, fin_new_lst, len_names, fiL_names, fiE_names, len2_le, len3_le, q1, q2, q3, q5, q4]
    exact ⟨trivial, _, _, _, rfl⟩
  · rintro ρ _ ⟨rfl, _, _, _, rfl⟩
    exact ⟨_, rfl⟩
  · rintro _ ⟨ρ', rfl⟩
    simp only [r_run, List.map_cons, List.map_nil, List.length_cons, List.length_nil, List.replicate, List.cons_append, List.nil_append, List.append_nil, List.set_cons_zero, List.set_cons_succ, List.set_nil, Nat.sub_self, Nat.zero_add, Nat.reduceAdd, Nat.reduceSub, Nat.reduceEqDiff, Nat.reduceLeDiff, Res.bind_ok, ofO_some, T_ok, T_bind, if_true, if_false, Bool.false_eq_true, Bool.not_true, Bool.not_false, r_eK, r_eV0, r_eVs, r_e1, r_e2, r_e3, r_eL0, r_eLs, r_eF, r_eAnd, r_eOr, r_eNot, r_eIf, r_eTree, r_eLst, r_eTup, r_eDic, r_tN, r_tL0, r_tLs, r_tT, r_sNil, r_sPass, r_sE, r_sAsg, r_sRet, r_sRetN, r_sBrk, r_sCnt, r_sIf, r_sSet, r_sCons, r_sFor, r_eCall, r_l1, r_l2, r_l3, r_eM, r_eComp, r_eChain, andThen_nx, andThen_rt, andThen_bk, andThen_ct, hb_nx, hb_rt, fin_raw, fin_int, fin_bl, fin_str, fin_non, truthy_bl, truthy_non, truthy_int, add_int, sub_int, lt_int, le_int, gt_int, ge_int, is_non, isN_non, isNon_non, isNon_int, isNon_str, fiL_lst, fiL_tup, fiL_str, decide_true, decide_false, decide_eq_true_eq, lineW_eq, mkL_f, mkL_t, Nat.reduceLeDiff, ix_tup3_0, ix_tup3_1, ix_tup3_2, ix_tup2_0, ix_tup2_1, sl_tup3_1, r_forG0, r_forGs, nextF_nx, nextF_ct, nextF_bk, nextF_rt, nW_none, nW_some, Option.isNone_none, Option.isNone_some, Nat.reduceLT, fin_new_lst, len_names, fiL_names, fiE_names, len2_le, len3_le]
def errs (v : W) : List W := [.err 1 [(vN, v)], .err 2 [(vN, v)], .err 3 [(vN, v)], .err 4 [(vN, v)], .err 5 [(vN, v)], .err 6 [(vN, v)], .err 7 [(vN, v)], .err 8 [(vN, v)], .err 9 [(vN, v)], .err 10 [(vN, v)], .err 11 [(nN, v)], .err 12 [(tN', v)]]
def fOf (v : W) (i : Nat) : List (Str × W) := if i < 10 then [(vN, v)] else if i = 10 then [(nN, v)] else if i = 11 then [(tN', v)] else []
theorem errs_eq : errs v ++ [.err 13 []] = eS (fOf v) := rfl
def r12 (v : W) : List W := List.replicate 12 v
def r24 (v : W) : List W := List.replicate 24 v
theorem fields_run : f__law_fields [.lst (errs v)] h = .ok (.lst (r12 v), h) := by
  have g1 : pSl false false true (.lst (errs v)) .non (.int 10) h = .ok (.lst ((errs v).take 10), h) := sl_toL (n := 10) (by show 12 ≤ _; decide)
  have g2 : ∀ h, fiL [.lst ((errs v).take 10)] h = some ⟨(errs v).take 10, fun _ => true⟩ := fun _ => rfl
  have c1 : ∀ a0 a1, compG (fun _ => true) [1] (tN 1) none (e1 (pFle [1, 2, 3, 4, 5, 6, 7, 8, 9, 10] vN) (eV 1)) [a0, a1] ((errs v).take 10) [] h = .ok ((((errs v).take 10).filter fun _ => true).map fun _ => v, h) := by
    intro a0 a1
    refine comp1 (fun _ => true) _ (fun x hx => ⟨rfl, fun _ => ?_⟩) (by show 10 ≤ _; decide)
    have q : pFle [1, 2, 3, 4, 5, 6, 7, 8, 9, 10] vN x h = .ok (v, h) := by
      have hx : x ∈ [W.err 1 [(vN, v)], .err 2 [(vN, v)], .err 3 [(vN, v)], .err 4 [(vN, v)], .err 5 [(vN, v)], .err 6 [(vN, v)], .err 7 [(vN, v)], .err 8 [(vN, v)], .err 9 [(vN, v)], .err 10 [(vN, v)]] := hx
      simp only [List.mem_cons, List.not_mem_nil, or_false] at hx
      rcases hx with rfl | rfl | rfl | rfl | rfl | rfl | rfl | rfl | rfl | rfl <;> rfl
    simp only [r_run, List.map_cons, List.map_nil, List.length_cons, List.length_nil, List.replicate, List.cons_append, List.nil_append, List.append_nil, List.set_cons_zero, List.set_cons_succ, List.set_nil, Nat.sub_self, Nat.zero_add, Nat.reduceAdd, Nat.reduceSub, Nat.reduceEqDiff, Nat.reduceLeDiff, Res.bind_ok, ofO_some, T_ok, T_bind, if_true, if_false, Bool.false_eq_true, Bool.not_true, Bool.not_false, r_eK, r_eV0, r_eVs, r_e1, r_e2, r_e3, r_eL0, r_eLs, r_eF, r_eAnd, r_eOr, r_eNot, r_eIf, r_eTree, r_eLst, r_eTup, r_eDic, r_tN, r_tL0, r_tLs, r_tT, r_sNil, r_sPass, r_sE, r_sAsg, r_sRet, r_sRetN, r_sBrk, r_sCnt, r_sIf, r_sSet, r_sCons, r_sFor, r_eCall, r_l1, r_l2, r_l3, r_eM, r_eComp, r_eChain, andThen_nx, andThen_rt, andThen_bk, andThen_ct, hb_nx, hb_rt, fin_raw, fin_int, fin_bl, fin_str, fin_non, truthy_bl, truthy_non, truthy_int, add_int, sub_int, lt_int, le_int, gt_int, ge_int, is_non, isN_non, isNon_non, isNon_int, isNon_str, fiL_lst, fiL_tup, fiL_str, decide_true, decide_false, decide_eq_true_eq, lineW_eq, mkL_f, mkL_t, Nat.reduceLeDiff, ix_tup3_0, ix_tup3_1, ix_tup3_2, ix_tup2_0, ix_tup2_1, sl_tup3_1, r_forG0, r_forGs, nextF_nx, nextF_ct, nextF_bk, nextF_rt, nW_none, nW_some, Option.isNone_none, Option.isNone_some, Nat.reduceLT, fin_new_lst, len_names, fiL_names, fiE_names, len2_le, len3_le, q]
  have c2 : (((errs v).take 10).filter fun _ => true).map (fun _ => v) = List.replicate 10 v := rfl
  have i1 : pIx (.lst (errs v)) (.int 10) h = .ok (.err 11 [(nN, v)], h) := ix_nat (k := 10) rfl
  have i2 : pIx (.lst (errs v)) (.int 11) h = .ok (.err 12 [(tN', v)], h) := ix_nat (k := 11) rfl
  have f1 : pFle [11] nN (.err 11 [(nN, v)]) h = .ok (v, h) := rfl
  have f2 : pFle [12] tN' (.err 12 [(tN', v)]) h = .ok (v, h) := rfl
  have m1 : mkL false (List.replicate 10 v) h = .ok (.lst (List.replicate 10 v), h) := mkL_f (by rw [List.length_replicate]; decide)
  have a1 : pAdd false (.lst (List.replicate 10 v)) (.lst [v, v]) h = .ok (.lst (List.replicate 10 v ++ [v, v]), h) := add_lst (by rw [List.length_replicate]; show 12 ≤ lineW; decide)
  unfold f__law_fields b__law_fields
  unfold vN at c1
  unfold nN at f1
  unfold tN' at f2
  simp only [r_run, List.map_cons, List.map_nil, List.length_cons, List.length_nil, List.replicate, List.cons_append, List.nil_append, List.append_nil, List.set_cons_zero, List.set_cons_succ, List.set_nil, Nat.sub_self, Nat.zero_add, Nat.reduceAdd, Nat.reduceSub, Nat.reduceEqDiff, Nat.reduceLeDiff, Res.bind_ok, ofO_some, T_ok, T_bind, if_true, if_false, Bool.false_eq_true, Bool.not_true, Bool.not_false, r_eK, r_eV0, r_eVs, r_e1, r_e2, r_e3, r_eL0, r_eLs, r_eF, r_eAnd, r_eOr, r_eNot, r_eIf, r_eTree, r_eLst, r_eTup, r_eDic, r_tN, r_tL0, r_tLs, r_tT, r_sNil, r_sPass, r_sE, r_sAsg, r_sRet, r_sRetN, r_sBrk, r_sCnt, r_sIf, r_sSet, r_sCons, r_sFor, r_eCall, r_l1, r_l2, r_l3, r_eM, r_eComp, r_eChain, andThen_nx, andThen_rt, andThen_bk, andThen_ct, hb_nx, hb_rt, fin_raw, fin_int, fin_bl, fin_str, fin_non, truthy_bl, truthy_non, truthy_int, add_int, sub_int, lt_int, le_int, gt_int, ge_int, is_non, isN_non, isNon_non, isNon_int, isNon_str, fiL_lst, fiL_tup, fiL_str, decide_true, decide_false, decide_eq_true_eq, lineW_eq, mkL_f, mkL_t, Nat.reduceLeDiff, ix_tup3_0, ix_tup3_1, ix_tup3_2, ix_tup2_0, ix_tup2_1, sl_tup3_1, r_forG0, r_forGs, nextF_nx, nextF_ct, nextF_bk, nextF_rt, nW_none, nW_some, Option.isNone_none, Option.isNone_some, Nat.reduceLT, fin_new_lst, len_names, fiL_names, fiE_names, len2_le, len3_le, g1, g2, c1, c2, i1, i2, f1, f2, m1, a1]
  rfl
theorem drfs_rep {n : Nat} : drfs h (List.replicate n v) = List.replicate n (drf h v) := by
  induction n with
  | zero => rfl
  | succ n ih =>
    show drf h v :: drfs h (List.replicate n v) = _
    rw [ih]
    rfl
theorem rep24 (e : drf h v = w) (r : Rep 57 w 400) : ∃ s, pReprD (.lst (r24 v)) h = .ok (.str s, h) ∧ strFine s = true := by
  have r24 : Rep 58 (.lst (List.replicate 24 w)) 10000 := Rep.lst (d := 57) (n := 400) (k := 24) (fun x hx => by
    rw [List.eq_of_mem_replicate hx]
    exact r) (by rw [List.length_replicate]; exact Nat.le_refl _) (by decide)
  refine Rep.run (w := .lst (List.replicate 24 w)) ?_ r24 (by decide)
  show W.lst (drfs h (List.replicate 24 v)) = _
  rw [drfs_rep, e]
inductive Vl (h : Hh) (v : W) : Prop where
  | tree {K : Kd} {w : W} (hk : kindW h v = some K) (hn : K ≠ .list) (hd : drf h v = w) (r : Rep 57 w 400) : Vl h v
  | cell {i : Nat} {ws : List W} {w w' : W} (ev : v = .ref i) (e : h[i]? = some (.lst ws)) (hl : ws.length < 100) (hd : drf h v = w) (r : Rep 57 w 400) (hd' : drf (h.set i (.lst (ws ++ [.str laterS]))) v = w') (r' : Rep 57 w' 400) : Vl h v
def extT (m : Int) : Hh := [.lst [], .lst [.int m], .dic false [], .dic false [(.str (mkS [97]), .int m)], .lst [.lst [.int m], .non]]
def valsT (b : Nat) (m : Int) : List W := [.int m, .int (0 - m), .non, .bl true, .bl false, .str (mkS []), .str (mkS (List.replicate (m.fmod 5).toNat 122)), .ref b, .ref (b + 1), .tup [], .tup [.int m, .str (mkS [97])], .ref (b + 2), .ref (b + 3), .ref (b + 4), .str (mkS [118, 97, 108, 117, 101])]
theorem ext_get {m : Int} {c : Cell} (e : (extT m)[k]? = some c) : (h ++ extT m)[h.length + k]? = some c := by
  rw [List.getElem?_append_right (Nat.le_add_right _ _), Nat.add_sub_cancel_left]
  exact e
theorem look_l {ws : List W} (e : h[i]? = some (.lst ws)) : look h (.ref i) = .lst ws := by
  unfold look
  simp only [e]
  rfl
theorem drf_d {b : Bool} {kvs : List (HK × W)} (e : h[i]? = some (.dic b kvs)) : drf h (.ref i) = .dic b kvs := by
  show look h (.ref i) = _
  unfold look
  simp only [e]
  rfl
theorem kd_d {kvs : List (HK × W)} (e : h[i]? = some (.dic false kvs)) : kindW h (.ref i) = some .dict := by
  unfold kindW
  simp only [e]
  rfl
theorem kd_l {ws : List W} (e : h[i]? = some (.lst ws)) : kindW h (.ref i) = some .list := by
  unfold kindW
  simp only [e]
theorem vl_cell {ws : List W} (e : h[i]? = some (.lst ws)) (hl : ws.length < 100) (r : Rep 57 (.lst ws) 200) (r' : Rep 57 (.lst (ws ++ [.str laterS])) 400) : Vl h (.ref i) := by
  exact .cell rfl e hl (look_l e) (r.mono (by decide)) (look_l (List.getElem?_set_self (List.getElem?_eq_some_iff.mp e).1)) r'
theorem rep_int {m : Int} {d : Nat} (hm : m.natAbs < 10 ^ 40) : Rep d (.int m) 41 := Rep.int hm (Nat.le_refl _)
theorem rep_later {d : Nat} : Rep d (.str laterS) 41 := Rep.str (l := [108, 97, 116, 101, 114]) (by decide) (by decide) (by decide)
theorem vals_ok {m : Int} (h0 : 0 ≤ m) (h1 : m < 10 ^ 30) (hv : v ∈ valsT h.length m) : Vl (h ++ extT m) v := by
  have hm : m.natAbs < 10 ^ 40 := by omega
  have hm2 : (0 - m).natAbs < 10 ^ 40 := by omega
  have ls : ∀ {ws : List W} {d : Nat}, (∀ x ∈ ws, Rep d x 41) → ws.length ≤ 4 → Rep (d + 1) (.lst ws) 200 := fun a b => Rep.lst (k := 4) a b (by decide)
  have ls4 : ∀ {ws : List W} {d : Nat}, (∀ x ∈ ws, Rep d x 60) → ws.length ≤ 4 → Rep (d + 1) (.lst ws) 400 := fun a b => Rep.lst (k := 4) a b (by decide)
  have five : (m.fmod 5).toNat < 5 := by
    rw [Int.fmod_eq_emod_of_nonneg _ (by decide)]
    have := Int.emod_lt_of_pos m (show (0 : Int) < 5 by decide)
    have := Int.emod_nonneg m (show (5 : Int) ≠ 0 by decide)
    omega
  unfold valsT at hv
  simp only [List.mem_cons, List.not_mem_nil, or_false] at hv
  rcases hv with rfl | rfl | rfl | rfl | rfl | rfl | rfl | rfl | rfl | rfl | rfl | rfl | rfl | rfl | rfl
  · exact .tree (K := .int) rfl (by decide) rfl ((rep_int hm).mono (by decide))
  · exact .tree (K := .int) rfl (by decide) rfl ((rep_int hm2).mono (by decide))
  · exact .tree (K := .non) rfl (by decide) rfl (Rep.non (by decide))
  · exact .tree (K := .bool) rfl (by decide) rfl (Rep.bl (by decide))
  · exact .tree (K := .bool) rfl (by decide) rfl (Rep.bl (by decide))
  · exact .tree (K := .str) rfl (by decide) rfl (Rep.str (by decide) (by decide) (by decide))
  · exact .tree (K := .str) rfl (by decide) rfl (Rep.str (fun c hc => by rw [List.eq_of_mem_replicate hc]; decide) (by rw [List.length_replicate]; omega) (by rw [List.length_replicate]; omega))
  · have e : (h ++ extT m)[h.length]? = some (.lst []) := ext_get (k := 0) rfl
    exact vl_cell e (by decide) (ls (fun _ q => nomatch q) (by decide)) (ls4 (fun x hx => by
      rw [List.mem_singleton.mp hx]
      exact rep_later.mono (by decide)) (by decide))
  · have e : (h ++ extT m)[h.length + 1]? = some (.lst [.int m]) := ext_get (k := 1) rfl
    exact vl_cell e (by show 1 < 100; decide) (ls (fun x hx => by
      rw [List.mem_singleton.mp hx]
      exact rep_int hm) (by show 1 ≤ 4; decide)) (ls4 (fun x hx => by
      rcases List.mem_cons.mp hx with z | z
      · rw [z]; exact (rep_int hm).mono (by decide)
      · rw [List.mem_singleton.mp z]; exact rep_later.mono (by decide)) (by show 2 ≤ 4; decide))
  · exact .tree (K := .tuple) (w := .tup []) rfl (by decide) rfl (Rep.tup (d := 56) (n := 41) (k := 4) (fun _ q => nomatch q) (by decide) (by decide))
  · exact .tree (K := .tuple) (w := .tup [.int m, .str (mkS [97])]) rfl (by decide) rfl (Rep.tup (d := 56) (n := 41) (k := 4) (fun x hx => by
      rcases List.mem_cons.mp hx with z | z
      · rw [z]; exact rep_int hm
      · rw [List.mem_singleton.mp z]; exact Rep.str (by decide) (by decide) (by decide)) (by show 2 ≤ 4; decide) (by decide))
  · have e : (h ++ extT m)[h.length + 2]? = some (.dic false []) := ext_get (k := 2) rfl
    exact .tree (K := .dict) (kd_d e) (by decide) (drf_d e) (Rep.dic0 (by decide))
  · have e : (h ++ extT m)[h.length + 3]? = some (.dic false [(.str (mkS [97]), .int m)]) := ext_get (k := 3) rfl
    exact .tree (K := .dict) (kd_d e) (by decide) (drf_d e) (Rep.dic1 (l := [97]) (n := 41) (by decide) (by decide) (rep_int hm) (by decide))
  · have e : (h ++ extT m)[h.length + 4]? = some (.lst [.lst [.int m], .non]) := ext_get (k := 4) rfl
    have i1 : ∀ d, Rep (d + 1) (.lst [.int m]) 60 := fun d => Rep.lst (n := 41) (k := 1) (fun x hx => by
      rw [List.mem_singleton.mp hx]
      exact rep_int hm) (by show 1 ≤ 1; decide) (by decide)
    exact vl_cell e (by show 2 < 100; decide) (Rep.lst (d := 56) (n := 60) (k := 3) (fun x hx => by
      rcases List.mem_cons.mp hx with z | z
      · rw [z]; exact i1 _
      · rw [List.mem_singleton.mp z]; exact Rep.non (by decide)) (by show 2 ≤ 3; decide) (by decide)) (ls4 (fun x hx => by
      rcases List.mem_cons.mp hx with z | z
      · rw [z]; exact i1 _
      · rcases List.mem_cons.mp z with z | z
        · rw [z]; exact Rep.non (by decide)
        · rw [List.mem_singleton.mp z]; exact rep_later.mono (by decide)) (by show 3 ≤ 4; decide))
  · exact .tree (K := .str) rfl (by decide) rfl (Rep.str (by decide) (by decide) (by decide))
theorem flat_one {n : Nat} : (List.replicate n (sg (mkS [122]))).flatten = List.replicate n 122 := by
  have e : sg (mkS [122]) = [122] := by decide +kernel
  rw [e]
  induction n with
  | zero => rfl
  | succ n ih => rw [List.replicate_succ, List.flatten_cons, ih]; rfl
theorem mk_at {ws : List W} {cs : Hh} (hn : nors ws = true) (hl : ws.length ≤ lineW) : mkL true ws (h ++ cs) = .ok (.ref (h.length + cs.length), h ++ (cs ++ [.lst ws])) := by
  rw [mkL_t hn hl, List.length_append, List.append_assoc]
theorem thing_run {a : Int} (hj : j ≤ 900) : T (f__law_thing [.int a, .int (j : Int)] h) fun q => ∃ v m, q = (v, h ++ extT m) ∧ Vl (h ++ extT m) v := by
  have p1 := pow_run (h := h) (i := 10) (j := 30) (by omega) (by omega) (by decide)
  have ep : ((10 : Int) ^ (30 : Int).toNat) = ((10 ^ 30 : Nat) : Int) := by decide +kernel
  rw [ep] at p1
  have m1 := mod_run (H := h) (a := a) (j := ((10 ^ 30 : Nat) : Int)) (by decide +kernel)
  have f1 := A.fm (a := a) (m := 10 ^ 30) (by decide)
  generalize hm : a.fmod ((10 ^ 30 : Nat) : Int) = m at m1 f1
  have f2 : m < 10 ^ 30 := Int.lt_of_lt_of_le f1.2 (by decide)
  obtain ⟨f0, _⟩ := f1
  have i1 : pInt (.int a) h = .ok (.int a, h) := rfl
  have m5 := mod_run (H := h) (a := m) (j := 5) (by decide)
  have five := A.fm (a := m) (m := 5) (by decide)
  have five : 0 ≤ m.fmod 5 ∧ m.fmod 5 < 5 := five
  have z1 : pMul true (.str (mkS [122])) (.int (m.fmod 5)) h = .ok (.str (mkS (List.replicate (m.fmod 5).toNat 122)), h) := by
    show (if (mkS [122]).length * (m.fmod 5).toNat ≤ 1000000 ∧ -1000000 ≤ m.fmod 5 ∧ m.fmod 5 ≤ 1000000 then _ else _) = _
    rw [if_pos ⟨by show 1 * _ ≤ _; omega, by omega, by omega⟩]
    congr 4
    exact flat_one
  have t1 : mkL true [] h = .ok (.ref h.length, h ++ [.lst []]) := mkL_t rfl (by decide)
  have t2 : mkL true [.int m] (h ++ [.lst []]) = .ok (.ref (h.length + 1), h ++ [.lst [], .lst [.int m]]) := mk_at (cs := [.lst []]) rfl (by show 1 ≤ lineW; decide)
  have t3 : mkD true false [] (h ++ [.lst [], .lst [.int m]]) = .ok (.ref (h.length + 2), h ++ [.lst [], .lst [.int m], .dic false []]) := by
    show Res.ok (W.ref _, _) = _
    rw [List.length_append, List.append_assoc]
    rfl
  have t4 : ∀ a0 a1 a3, eDic1 true (eK (.str (mkS [97]))) (eV 2) [a0, a1, some (.int m), a3] (h ++ [.lst [], .lst [.int m], .dic false []]) = .ok (.ref (h.length + 3), h ++ [.lst [], .lst [.int m], .dic false [], .dic false [(.str (mkS [97]), .int m)]]) := by
    intro a0 a1 a3
    show Res.ok (W.ref (h ++ [Cell.lst [], Cell.lst [.int m], Cell.dic false []]).length, (h ++ [.lst [], .lst [.int m], .dic false []]) ++ [.dic false [(.str (mkS [97]), .int m)]]) = _
    rw [List.length_append, List.append_assoc]
    rfl
  have t5 : mkL true [.lst [.int m], .non] (h ++ [.lst [], .lst [.int m], .dic false [], .dic false [(.str (mkS [97]), .int m)]]) = .ok (.ref (h.length + 4), h ++ extT m) := mk_at (cs := [.lst [], .lst [.int m], .dic false [], .dic false [(.str (mkS [97]), .int m)]]) rfl (by show 2 ≤ lineW; decide)
  have a1 : ∀ {as bs : List W} {g : Hh}, as.length + bs.length ≤ 100 → pAdd false (.lst as) (.lst bs) g = .ok (.lst (as ++ bs), g) := fun hl => add_lst (Nat.le_trans hl (by decide))
  have l1 : ∀ {as : List W} {g : Hh}, as.length ≤ 100 → mkL false as g = .ok (.lst as, g) := fun hl => mkL_f (Nat.le_trans hl (by decide))
  have k1 := A.fm (a := m + (j : Int)) (m := 15) (by decide)
  have k1 : 0 ≤ (m + (j : Int)).fmod 15 ∧ (m + (j : Int)).fmod 15 < 15 := k1
  have mk := mod_run (H := h ++ extT m) (a := m + (j : Int)) (j := 15) (by decide)
  obtain ⟨k, hk⟩ : ∃ k : Nat, (m + (j : Int)).fmod 15 = (k : Int) := ⟨((m + (j : Int)).fmod 15).toNat, by omega⟩
  have hk2 : k < (valsT h.length m).length := by show k < 15; omega
  have ix : pIx (.lst (valsT h.length m)) (.int (k : Int)) (h ++ extT m) = .ok ((valsT h.length m)[k], h ++ extT m) := ix_nat (List.getElem?_eq_getElem hk2)
  have mem := vals_ok (h := h) f0 f2 (List.getElem_mem hk2)
  generalize (valsT h.length m)[k] = v at ix mem
  have ln : pLen (.lst (valsT h.length m)) (h ++ extT m) = .ok (.int 15, h ++ extT m) := rfl
  unfold valsT at ix ln
  rw [hk] at mk
  unfold f__law_thing b__law_thing
  simp only [r_run, List.map_cons, List.map_nil, List.length_cons, List.length_nil, List.replicate, List.cons_append, List.nil_append, List.append_nil, List.set_cons_zero, List.set_cons_succ, List.set_nil, Nat.sub_self, Nat.zero_add, Nat.reduceAdd, Nat.reduceSub, Nat.reduceEqDiff, Nat.reduceLeDiff, Res.bind_ok, ofO_some, T_ok, T_bind, if_true, if_false, Bool.false_eq_true, Bool.not_true, Bool.not_false, r_eK, r_eV0, r_eVs, r_e1, r_e2, r_e3, r_eL0, r_eLs, r_eF, r_eAnd, r_eOr, r_eNot, r_eIf, r_eTree, r_eLst, r_eTup, r_eDic, r_tN, r_tL0, r_tLs, r_tT, r_sNil, r_sPass, r_sE, r_sAsg, r_sRet, r_sRetN, r_sBrk, r_sCnt, r_sIf, r_sSet, r_sCons, r_sFor, r_eCall, r_l1, r_l2, r_l3, r_eM, r_eComp, r_eChain, andThen_nx, andThen_rt, andThen_bk, andThen_ct, hb_nx, hb_rt, fin_raw, fin_int, fin_bl, fin_str, fin_non, truthy_bl, truthy_non, truthy_int, add_int, sub_int, lt_int, le_int, gt_int, ge_int, is_non, isN_non, isNon_non, isNon_int, isNon_str, fiL_lst, fiL_tup, fiL_str, decide_true, decide_false, decide_eq_true_eq, lineW_eq, mkL_f, mkL_t, Nat.reduceLeDiff, ix_tup3_0, ix_tup3_1, ix_tup3_2, ix_tup2_0, ix_tup2_1, sl_tup3_1, r_forG0, r_forGs, nextF_nx, nextF_ct, nextF_bk, nextF_rt, nW_none, nW_some, Option.isNone_none, Option.isNone_some, Nat.reduceLT, fin_new_lst, len_names, fiL_names, fiE_names, len2_le, len3_le, i1, p1, m1, m5, z1, t1, t2, t3, t4, t5, a1, l1, ln, mk, ix, Nat.reduceLeDiff]
  exact ⟨v, m, rfl, mem⟩
theorem r_eErr {c : Nat} {f : Str} {m : DE} {ρ : Ti.Env} : eErr c f m ρ h = (m ρ h).bind fun p => .ok (.err c [(f, p.1)], p.2) := rfl
theorem r_eErr0 {c : Nat} {fs : List (Str × W)} {ρ : Ti.Env} : eErr0 c fs ρ h = .ok (.err c fs, h) := rfl
theorem isi_of {K t : Kd} (e : kindW h v = some K) : pIsi t v h = .ok (.bl (isK K t), h) := by
  unfold pIsi
  rw [e]
  rfl
theorem mt_l {ws : List W} (e : h[i]? = some (.lst ws)) : isMT .list h (.ref i) = true := by
  show (asL h (.ref i)).isSome = true
  unfold asL
  simp only [e]
  rfl
theorem lwQ_run {a0 a1 a2 a3 a4 a5 a6 a8 : Option W} : lwQ [a0, a1, a2, a3, a4, a5, a6, some (.lst (errs v)), a8] h = .ok (.nx, [a0, a1, a2, a3, a4, a5, a6, some (.lst (errs v)), a8], h) := by
  have q1 : pAdd false (.lst (errs v)) (.lst [.err 13 []]) h = .ok (.lst (eS (fOf v)), h) := by
    rw [← errs_eq]
    exact add_lst (by show 13 ≤ lineW; decide)
  have q2 := placed_run (h := h) (f := fOf v)
  unfold lwQ
  simp only [r_run, List.map_cons, List.map_nil, List.length_cons, List.length_nil, List.replicate, List.cons_append, List.nil_append, List.append_nil, List.set_cons_zero, List.set_cons_succ, List.set_nil, Nat.sub_self, Nat.zero_add, Nat.reduceAdd, Nat.reduceSub, Nat.reduceEqDiff, Nat.reduceLeDiff, Res.bind_ok, ofO_some, T_ok, T_bind, if_true, if_false, Bool.false_eq_true, Bool.not_true, Bool.not_false, r_eK, r_eV0, r_eVs, r_e1, r_e2, r_e3, r_eL0, r_eLs, r_eF, r_eAnd, r_eOr, r_eNot, r_eIf, r_eTree, r_eLst, r_eTup, r_eDic, r_tN, r_tL0, r_tLs, r_tT, r_sNil, r_sPass, r_sE, r_sAsg, r_sRet, r_sRetN, r_sBrk, r_sCnt, r_sIf, r_sSet, r_sCons, r_sFor, r_eCall, r_l1, r_l2, r_l3, r_eM, r_eComp, r_eChain, andThen_nx, andThen_rt, andThen_bk, andThen_ct, hb_nx, hb_rt, fin_raw, fin_int, fin_bl, fin_str, fin_non, truthy_bl, truthy_non, truthy_int, add_int, sub_int, lt_int, le_int, gt_int, ge_int, is_non, isN_non, isNon_non, isNon_int, isNon_str, fiL_lst, fiL_tup, fiL_str, decide_true, decide_false, decide_eq_true_eq, lineW_eq, mkL_f, mkL_t, Nat.reduceLeDiff, ix_tup3_0, ix_tup3_1, ix_tup3_2, ix_tup2_0, ix_tup2_1, sl_tup3_1, r_forG0, r_forGs, nextF_nx, nextF_ct, nextF_bk, nextF_rt, nW_none, nW_some, Option.isNone_none, Option.isNone_some, Nat.reduceLT, fin_new_lst, len_names, fiL_names, fiE_names, len2_le, len3_le, r_eErr0, q1, q2]
theorem p24 : pAdd false (.lst (r12 v)) (.lst (r12 v)) h = .ok (.lst (r24 v), h) := (add_lst (by show 24 ≤ lineW; decide)).trans rfl
theorem m24 : pMul false (.lst [v]) (.int 24) h = .ok (.lst (r24 v), h) := rfl
theorem bare_run {a0 a1 a2 a3 a4 a5 a6 a7 a8 : Option W} : compG (fun _ => true) [8] (tN 8) (some (e2 pIsN (eV 8) (eK W.non))) (eV 8) [a0, a1, a2, a3, a4, a5, a6, a7, a8] (r12 .non) [] h = .ok ([], h) := by
  have e : compG (fun _ => true) [8] (tN 8) (some (e2 pIsN (eV 8) (eK W.non))) (eV 8) [a0, a1, a2, a3, a4, a5, a6, a7, a8] (r12 .non) [] h = .ok (((r12 .non).filter fun _ => false).map fun x => x, h) := by
    refine comp1 (fun _ => false) (fun x => x) (fun x hx => ⟨⟨.bl false, ?_, rfl⟩, fun z => nomatch z⟩) (by show 12 ≤ lineW; decide)
    have hx : x = .non := List.eq_of_mem_replicate hx
    subst hx
    rfl
  rw [e]
  rfl
theorem str_ne {s : Str} (f : strFine s = true) : pNe (.str s) (.str s) h = .ok (.bl false, h) := dat_ne f
theorem lwR_run {a0 a1 a2 a7 a8 : Option W} (q : Vl h v) : ∃ h', lwR [a0, a1, a2, some v, some (.lst (errs v)), some (.lst (errs v)), some (.lst (errs .non)), a7, a8] h = .ok (.nx, [a0, a1, a2, some v, some (.lst (errs v)), some (.lst (errs v)), some (.lst (errs .non)), a7, a8], h') := by
  have f1 := fields_run (h := h) (v := v)
  have f2 := fields_run (h := h) (v := .non)
  have b1 : ∀ a8, compG (fun _ => true) [8] (tN 8) (some (e2 pIsN (eV 8) (eK W.non))) (eV 8) [a0, a1, a2, some v, some (.lst (errs v)), some (.lst (errs v)), some (.lst (errs .non)), a7, a8] (r12 .non) [] h = .ok ([], h) := fun _ => bare_run
  have l1 : ∀ {as : List W} {g : Hh}, as.length ≤ 100 → mkL false as g = .ok (.lst as, g) := fun hl => mkL_f (Nat.le_trans hl (by decide))
  have n0 : ∀ h, pNe (.lst []) (.lst []) h = .ok (.bl false, h) := fun _ => dat_ne rfl
  have pp := p24 (v := v) (h := h)
  have mm := m24 (v := v) (h := h)
  cases q with
  | @tree K w hk hn hd r =>
    obtain ⟨s, hr, hf⟩ := rep24 hd r
    have n1 := str_ne (h := h) hf
    have i1 : pIsi .list v h = .ok (.bl false, h) := by
      rw [isi_of hk]
      cases K <;> first | rfl | exact absurd rfl hn
    refine ⟨h, T.eq ?_⟩
    unfold lwR
    simp only [r_run, List.map_cons, List.map_nil, List.length_cons, List.length_nil, List.replicate, List.cons_append, List.nil_append, List.append_nil, List.set_cons_zero, List.set_cons_succ, List.set_nil, Nat.sub_self, Nat.zero_add, Nat.reduceAdd, Nat.reduceSub, Nat.reduceEqDiff, Nat.reduceLeDiff, Res.bind_ok, ofO_some, T_ok, T_bind, if_true, if_false, Bool.false_eq_true, Bool.not_true, Bool.not_false, r_eK, r_eV0, r_eVs, r_e1, r_e2, r_e3, r_eL0, r_eLs, r_eF, r_eAnd, r_eOr, r_eNot, r_eIf, r_eTree, r_eLst, r_eTup, r_eDic, r_tN, r_tL0, r_tLs, r_tT, r_sNil, r_sPass, r_sE, r_sAsg, r_sRet, r_sRetN, r_sBrk, r_sCnt, r_sIf, r_sSet, r_sCons, r_sFor, r_eCall, r_l1, r_l2, r_l3, r_eM, r_eComp, r_eChain, andThen_nx, andThen_rt, andThen_bk, andThen_ct, hb_nx, hb_rt, fin_raw, fin_int, fin_bl, fin_str, fin_non, truthy_bl, truthy_non, truthy_int, add_int, sub_int, lt_int, le_int, gt_int, ge_int, is_non, isN_non, isNon_non, isNon_int, isNon_str, fiL_lst, fiL_tup, fiL_str, decide_true, decide_false, decide_eq_true_eq, lineW_eq, mkL_f, mkL_t, Nat.reduceLeDiff, ix_tup3_0, ix_tup3_1, ix_tup3_2, ix_tup2_0, ix_tup2_1, sl_tup3_1, r_forG0, r_forGs, nextF_nx, nextF_ct, nextF_bk, nextF_rt, nW_none, nW_some, Option.isNone_none, Option.isNone_some, Nat.reduceLT, fin_new_lst, len_names, fiL_names, fiE_names, len2_le, len3_le, f1, f2, b1, l1, n0, pp, mm, hr, n1, i1]
  | @cell i ws w w' ev e hl hd r hd' r' =>
    subst ev
    obtain ⟨s, hr, hf⟩ := rep24 hd r
    have n1 := str_ne (h := h) hf
    have i1 : pIsi .list (.ref i) h = .ok (.bl true, h) := isi_of (kd_l e)
    have a1 := app_at (h := h) (y := .str laterS) e rfl (small_lt (by omega))
    have f1' := fields_run (h := h.set i (.lst (ws ++ [.str laterS]))) (v := .ref i)
    have pp' := p24 (v := .ref i) (h := h.set i (.lst (ws ++ [.str laterS])))
    have mm' := m24 (v := .ref i) (h := h.set i (.lst (ws ++ [.str laterS])))
    obtain ⟨s', hr', hf'⟩ := rep24 hd' r'
    have n1' := str_ne (h := h.set i (.lst (ws ++ [.str laterS]))) hf'
    have mt := mt_l e
    refine ⟨h.set i (.lst (ws ++ [.str laterS])), T.eq ?_⟩
    unfold laterS at a1 f1' pp' mm' hr' n1' ⊢
    unfold lwR
    simp only [r_run, List.map_cons, List.map_nil, List.length_cons, List.length_nil, List.replicate, List.cons_append, List.nil_append, List.append_nil, List.set_cons_zero, List.set_cons_succ, List.set_nil, Nat.sub_self, Nat.zero_add, Nat.reduceAdd, Nat.reduceSub, Nat.reduceEqDiff, Nat.reduceLeDiff, Res.bind_ok, ofO_some, T_ok, T_bind, if_true, if_false, Bool.false_eq_true, Bool.not_true, Bool.not_false, r_eK, r_eV0, r_eVs, r_e1, r_e2, r_e3, r_eL0, r_eLs, r_eF, r_eAnd, r_eOr, r_eNot, r_eIf, r_eTree, r_eLst, r_eTup, r_eDic, r_tN, r_tL0, r_tLs, r_tT, r_sNil, r_sPass, r_sE, r_sAsg, r_sRet, r_sRetN, r_sBrk, r_sCnt, r_sIf, r_sSet, r_sCons, r_sFor, r_eCall, r_l1, r_l2, r_l3, r_eM, r_eComp, r_eChain, andThen_nx, andThen_rt, andThen_bk, andThen_ct, hb_nx, hb_rt, fin_raw, fin_int, fin_bl, fin_str, fin_non, truthy_bl, truthy_non, truthy_int, add_int, sub_int, lt_int, le_int, gt_int, ge_int, is_non, isN_non, isNon_non, isNon_int, isNon_str, fiL_lst, fiL_tup, fiL_str, decide_true, decide_false, decide_eq_true_eq, lineW_eq, mkL_f, mkL_t, Nat.reduceLeDiff, ix_tup3_0, ix_tup3_1, ix_tup3_2, ix_tup2_0, ix_tup2_1, sl_tup3_1, r_forG0, r_forGs, nextF_nx, nextF_ct, nextF_bk, nextF_rt, nW_none, nW_some, Option.isNone_none, Option.isNone_some, Nat.reduceLT, fin_new_lst, len_names, fiL_names, fiE_names, len2_le, len3_le, f1, f2, b1, l1, n0, pp, mm, hr, n1, i1, mt, a1, f1', pp', mm', hr', n1']
theorem lwF_run {a0 a1 a2 a7 a8 : Option W} (q : Vl h v) : ∃ a7' h', lwF [a0, a1, a2, some v, some (.lst (errs v)), some (.lst (errs v)), some (.lst (errs .non)), a7, a8] h = .ok (.nx, [a0, a1, a2, some v, some (.lst (errs v)), some (.lst (errs v)), some (.lst (errs .non)), a7', a8], h') := by
  have q1 : ∀ {x} {a0 a1 a2 a3 a4 a5 a6 a8 : Option W}, lwQ [a0, a1, a2, a3, a4, a5, a6, some (.lst (errs x)), a8] h = .ok (.nx, [a0, a1, a2, a3, a4, a5, a6, some (.lst (errs x)), a8], h) := lwQ_run
  obtain ⟨h', e⟩ := lwR_run (a0 := a0) (a1 := a1) (a2 := a2) (a7 := some (.lst (errs .non))) (a8 := a8) q
  refine ⟨some (.lst (errs .non)), h', T.eq ?_⟩
  unfold lwF
  simp only [r_run, List.map_cons, List.map_nil, List.length_cons, List.length_nil, List.replicate, List.cons_append, List.nil_append, List.append_nil, List.set_cons_zero, List.set_cons_succ, List.set_nil, Nat.sub_self, Nat.zero_add, Nat.reduceAdd, Nat.reduceSub, Nat.reduceEqDiff, Nat.reduceLeDiff, Res.bind_ok, ofO_some, T_ok, T_bind, if_true, if_false, Bool.false_eq_true, Bool.not_true, Bool.not_false, r_eK, r_eV0, r_eVs, r_e1, r_e2, r_e3, r_eL0, r_eLs, r_eF, r_eAnd, r_eOr, r_eNot, r_eIf, r_eTree, r_eLst, r_eTup, r_eDic, r_tN, r_tL0, r_tLs, r_tT, r_sNil, r_sPass, r_sE, r_sAsg, r_sRet, r_sRetN, r_sBrk, r_sCnt, r_sIf, r_sSet, r_sCons, r_sFor, r_eCall, r_l1, r_l2, r_l3, r_eM, r_eComp, r_eChain, andThen_nx, andThen_rt, andThen_bk, andThen_ct, hb_nx, hb_rt, fin_raw, fin_int, fin_bl, fin_str, fin_non, truthy_bl, truthy_non, truthy_int, add_int, sub_int, lt_int, le_int, gt_int, ge_int, is_non, isN_non, isNon_non, isNon_int, isNon_str, fiL_lst, fiL_tup, fiL_str, decide_true, decide_false, decide_eq_true_eq, lineW_eq, mkL_f, mkL_t, Nat.reduceLeDiff, ix_tup3_0, ix_tup3_1, ix_tup3_2, ix_tup2_0, ix_tup2_1, sl_tup3_1, r_forG0, r_forGs, nextF_nx, nextF_ct, nextF_bk, nextF_rt, nW_none, nW_some, Option.isNone_none, Option.isNone_some, Nat.reduceLT, fin_new_lst, len_names, fiL_names, fiE_names, len2_le, len3_le, q1, e]
theorem lwB_run {a1 a3 a4 a5 a6 a7 a8 : Option W} (hj : j ≤ 900) : T (lwB [some (.scr ns), a1, some (.int (j : Int)), a3, a4, a5, a6, a7, a8] h) fun q => ∃ b3 b4 b5 b6 b7 b8 h', q = (.nx, [some (.scr ns), a1, some (.int (j : Int)), b3, b4, b5, b6, b7, b8], h') := by
  have ej : (j : Int) + 1 = ((j + 1 : Nat) : Int) := by omega
  have l1 := cutL_len (l := ns) (a := j) (b := j + 1)
  generalize hm : cutL ns (some (j : Int)) (some ((j + 1 : Nat) : Int)) = ms at l1
  have e1 : pSl false true true (.scr ns) (.int (j : Int)) (.int ((j + 1 : Nat) : Int)) h = .ok (.lst (ms.map W.int), h) := by
    show mkL false ((cutL ns (some (j : Int)) (some ((j + 1 : Nat) : Int))).map .int) h = _
    rw [hm]
    exact mkL_f (by rw [List.length_map]; exact Nat.le_trans l1 (Nat.le_trans (Nat.succ_le_succ hj) (by decide)))
  have a2 : ∀ {as bs : List W} {g : Hh}, as.length + bs.length ≤ 100 → pAdd false (.lst as) (.lst bs) g = .ok (.lst (as ++ bs), g) := fun hl => add_lst (Nat.le_trans hl (by decide))
  have l2 : ∀ {as : List W} {g : Hh}, as.length ≤ 100 → mkL false as g = .ok (.lst as, g) := fun hl => mkL_f (Nat.le_trans hl (by decide))
  unfold lwB
  simp only [r_run, List.map_cons, List.map_nil, List.length_cons, List.length_nil, List.replicate, List.cons_append, List.nil_append, List.append_nil, List.set_cons_zero, List.set_cons_succ, List.set_nil, Nat.sub_self, Nat.zero_add, Nat.reduceAdd, Nat.reduceSub, Nat.reduceEqDiff, Nat.reduceLeDiff, Res.bind_ok, ofO_some, T_ok, T_bind, if_true, if_false, Bool.false_eq_true, Bool.not_true, Bool.not_false, r_eK, r_eV0, r_eVs, r_e1, r_e2, r_e3, r_eL0, r_eLs, r_eF, r_eAnd, r_eOr, r_eNot, r_eIf, r_eTree, r_eLst, r_eTup, r_eDic, r_tN, r_tL0, r_tLs, r_tT, r_sNil, r_sPass, r_sE, r_sAsg, r_sRet, r_sRetN, r_sBrk, r_sCnt, r_sIf, r_sSet, r_sCons, r_sFor, r_eCall, r_l1, r_l2, r_l3, r_eM, r_eComp, r_eChain, andThen_nx, andThen_rt, andThen_bk, andThen_ct, hb_nx, hb_rt, fin_raw, fin_int, fin_bl, fin_str, fin_non, truthy_bl, truthy_non, truthy_int, add_int, sub_int, lt_int, le_int, gt_int, ge_int, is_non, isN_non, isNon_non, isNon_int, isNon_str, fiL_lst, fiL_tup, fiL_str, decide_true, decide_false, decide_eq_true_eq, lineW_eq, mkL_f, mkL_t, Nat.reduceLeDiff, ix_tup3_0, ix_tup3_1, ix_tup3_2, ix_tup2_0, ix_tup2_1, sl_tup3_1, r_forG0, r_forGs, nextF_nx, nextF_ct, nextF_bk, nextF_rt, nW_none, nW_some, Option.isNone_none, Option.isNone_some, Nat.reduceLT, fin_new_lst, len_names, fiL_names, fiE_names, len2_le, len3_le, ej, e1, sum_run]
  refine T.mono (thing_run hj) ?_
  rintro _ ⟨v, m, rfl, q⟩
  obtain ⟨a7', h', e⟩ := lwF_run (a0 := some (.scr ns)) (a1 := a1) (a2 := some (.int (j : Int))) (a7 := a7) (a8 := a8) q
  unfold errs vN nN tN' at e
  simp only [r_run, List.map_cons, List.map_nil, List.length_cons, List.length_nil, List.replicate, List.cons_append, List.nil_append, List.append_nil, List.set_cons_zero, List.set_cons_succ, List.set_nil, Nat.sub_self, Nat.zero_add, Nat.reduceAdd, Nat.reduceSub, Nat.reduceEqDiff, Nat.reduceLeDiff, Res.bind_ok, ofO_some, T_ok, T_bind, if_true, if_false, Bool.false_eq_true, Bool.not_true, Bool.not_false, r_eK, r_eV0, r_eVs, r_e1, r_e2, r_e3, r_eL0, r_eLs, r_eF, r_eAnd, r_eOr, r_eNot, r_eIf, r_eTree, r_eLst, r_eTup, r_eDic, r_tN, r_tL0, r_tLs, r_tT, r_sNil, r_sPass, r_sE, r_sAsg, r_sRet, r_sRetN, r_sBrk, r_sCnt, r_sIf, r_sSet, r_sCons, r_sFor, r_eCall, r_l1, r_l2, r_l3, r_eM, r_eComp, r_eChain, andThen_nx, andThen_rt, andThen_bk, andThen_ct, hb_nx, hb_rt, fin_raw, fin_int, fin_bl, fin_str, fin_non, truthy_bl, truthy_non, truthy_int, add_int, sub_int, lt_int, le_int, gt_int, ge_int, is_non, isN_non, isNon_non, isNon_int, isNon_str, fiL_lst, fiL_tup, fiL_str, decide_true, decide_false, decide_eq_true_eq, lineW_eq, mkL_f, mkL_t, Nat.reduceLeDiff, ix_tup3_0, ix_tup3_1, ix_tup3_2, ix_tup2_0, ix_tup2_1, sl_tup3_1, r_forG0, r_forGs, nextF_nx, nextF_ct, nextF_bk, nextF_rt, nW_none, nW_some, Option.isNone_none, Option.isNone_some, Nat.reduceLT, fin_new_lst, len_names, fiL_names, fiE_names, len2_le, len3_le, r_eErr, r_eErr0, l2, a2, e]
  exact ⟨_, _, _, _, _, _, _, rfl⟩
theorem law_ok (ns : List Int) : f_law [.scr ns] [] = .ok (.bl true, []) := by
  obtain ⟨p, m, n, hn, e1, e2, e3⟩ := script_few (h := []) (ns := ns) (k := 20) (by decide) (by decide)
  have e1 : pSl false false true (.scr ns) .non (.int 20) [] = .ok p := e1
  have g1 : ∀ h, pIsV [0, 1, 2, 3, 4, 5, 6, 7, 8, 9, 10, 11, 12, 13] (.err 0 []) h = .ok (.bl true, h) := fun _ => isV0 (by decide)
  have g2 := classes_0 (h := []) (fs := [])
  have g3 : pIn (.bl true) (.lst (clsB 0)) [] = .ok (.bl false, []) := by rfl
  apply T.eq
  unfold f_law
  rw [r_run, b_law_eq]
  simp only [r_run, List.map_cons, List.map_nil, List.length_cons, List.length_nil, List.replicate, List.cons_append, List.nil_append, List.append_nil, List.set_cons_zero, List.set_cons_succ, List.set_nil, Nat.sub_self, Nat.zero_add, Nat.reduceAdd, Nat.reduceSub, Nat.reduceEqDiff, Nat.reduceLeDiff, Res.bind_ok, ofO_some, T_ok, T_bind, if_true, if_false, Bool.false_eq_true, Bool.not_true, Bool.not_false, r_eK, r_eV0, r_eVs, r_e1, r_e2, r_e3, r_eL0, r_eLs, r_eF, r_eAnd, r_eOr, r_eNot, r_eIf, r_eTree, r_eLst, r_eTup, r_eDic, r_tN, r_tL0, r_tLs, r_tT, r_sNil, r_sPass, r_sE, r_sAsg, r_sRet, r_sRetN, r_sBrk, r_sCnt, r_sIf, r_sSet, r_sCons, r_sFor, r_eCall, r_l1, r_l2, r_l3, r_eM, r_eComp, r_eChain, andThen_nx, andThen_rt, andThen_bk, andThen_ct, hb_nx, hb_rt, fin_raw, fin_int, fin_bl, fin_str, fin_non, truthy_bl, truthy_non, truthy_int, add_int, sub_int, lt_int, le_int, gt_int, ge_int, is_non, isN_non, isNon_non, isNon_int, isNon_str, fiL_lst, fiL_tup, fiL_str, decide_true, decide_false, decide_eq_true_eq, lineW_eq, mkL_f, mkL_t, Nat.reduceLeDiff, ix_tup3_0, ix_tup3_1, ix_tup3_2, ix_tup2_0, ix_tup2_1, sl_tup3_1, r_forG0, r_forGs, nextF_nx, nextF_ct, nextF_bk, nextF_rt, nW_none, nW_some, Option.isNone_none, Option.isNone_some, Nat.reduceLT, fin_new_lst, len_names, fiL_names, fiE_names, len2_le, len3_le, r_eErr0, g1, g2, g3, e1, e2, e3, range_nat (h := []) (n := n) (by omega)]
  refine T.mono (T_range (Q := fun q => ∃ ρ' h', q = (.nx, ρ', h')) (fun i ρ h => ∃ a1 a2 a3 a4 a5 a6 a7 a8, ρ = [some (.scr ns), a1, a2, a3, a4, a5, a6, a7, a8]) ⟨_, _, _, _, _, _, _, _, rfl⟩ ?_ ?_) ?_
  · rintro i ρ h hi ⟨a1, a2, a3, a4, a5, a6, a7, a8, rfl⟩
    simp only [r_run, List.map_cons, List.map_nil, List.length_cons, List.length_nil, List.replicate, List.cons_append, List.nil_append, List.append_nil, List.set_cons_zero, List.set_cons_succ, List.set_nil, Nat.sub_self, Nat.zero_add, Nat.reduceAdd, Nat.reduceSub, Nat.reduceEqDiff, Nat.reduceLeDiff, Res.bind_ok, ofO_some, T_ok, T_bind, if_true, if_false, Bool.false_eq_true, Bool.not_true, Bool.not_false, r_eK, r_eV0, r_eVs, r_e1, r_e2, r_e3, r_eL0, r_eLs, r_eF, r_eAnd, r_eOr, r_eNot, r_eIf, r_eTree, r_eLst, r_eTup, r_eDic, r_tN, r_tL0, r_tLs, r_tT, r_sNil, r_sPass, r_sE, r_sAsg, r_sRet, r_sRetN, r_sBrk, r_sCnt, r_sIf, r_sSet, r_sCons, r_sFor, r_eCall, r_l1, r_l2, r_l3, r_eM, r_eComp, r_eChain, andThen_nx, andThen_rt, andThen_bk, andThen_ct, hb_nx, hb_rt, fin_raw, fin_int, fin_bl, fin_str, fin_non, truthy_bl, truthy_non, truthy_int, add_int, sub_int, lt_int, le_int, gt_int, ge_int, is_non, isN_non, isNon_non, isNon_int, isNon_str, fiL_lst, fiL_tup, fiL_str, decide_true, decide_false, decide_eq_true_eq, lineW_eq, mkL_f, mkL_t, Nat.reduceLeDiff, ix_tup3_0, ix_tup3_1, ix_tup3_2, ix_tup2_0, ix_tup2_1, sl_tup3_1, r_forG0, r_forGs, nextF_nx, nextF_ct, nextF_bk, nextF_rt, nW_none, nW_some, Option.isNone_none, Option.isNone_some, Nat.reduceLT, fin_new_lst, len_names, fiL_names, fiE_names, len2_le, len3_le]
    refine T.mono (lwB_run (by omega)) ?_
    rintro _ ⟨b3, b4, b5, b6, b7, b8, h', rfl⟩
    exact ⟨_, _, _, _, _, _, _, _, rfl⟩
  · rintro ρ h _
    exact ⟨_, _, rfl⟩
  · rintro _ ⟨ρ, h, rfl⟩
    simp only [r_run, List.map_cons, List.map_nil, List.length_cons, List.length_nil, List.replicate, List.cons_append, List.nil_append, List.append_nil, List.set_cons_zero, List.set_cons_succ, List.set_nil, Nat.sub_self, Nat.zero_add, Nat.reduceAdd, Nat.reduceSub, Nat.reduceEqDiff, Nat.reduceLeDiff, Res.bind_ok, ofO_some, T_ok, T_bind, if_true, if_false, Bool.false_eq_true, Bool.not_true, Bool.not_false, r_eK, r_eV0, r_eVs, r_e1, r_e2, r_e3, r_eL0, r_eLs, r_eF, r_eAnd, r_eOr, r_eNot, r_eIf, r_eTree, r_eLst, r_eTup, r_eDic, r_tN, r_tL0, r_tLs, r_tT, r_sNil, r_sPass, r_sE, r_sAsg, r_sRet, r_sRetN, r_sBrk, r_sCnt, r_sIf, r_sSet, r_sCons, r_sFor, r_eCall, r_l1, r_l2, r_l3, r_eM, r_eComp, r_eChain, andThen_nx, andThen_rt, andThen_bk, andThen_ct, hb_nx, hb_rt, fin_raw, fin_int, fin_bl, fin_str, fin_non, truthy_bl, truthy_non, truthy_int, add_int, sub_int, lt_int, le_int, gt_int, ge_int, is_non, isN_non, isNon_non, isNon_int, isNon_str, fiL_lst, fiL_tup, fiL_str, decide_true, decide_false, decide_eq_true_eq, lineW_eq, mkL_f, mkL_t, Nat.reduceLeDiff, ix_tup3_0, ix_tup3_1, ix_tup3_2, ix_tup2_0, ix_tup2_1, sl_tup3_1, r_forG0, r_forGs, nextF_nx, nextF_ct, nextF_bk, nextF_rt, nW_none, nW_some, Option.isNone_none, Option.isNone_some, Nat.reduceLT, fin_new_lst, len_names, fiL_names, fiE_names, len2_le, len3_le, fin_bl0]
end
end Bd


namespace Hd
open PySem PySem.Spec PyProof.Rows L2
def top (i : Nat) : Stmt := PySem.Challenge.pw_takennames_k01_errors_made.main.body.getD i (.Pass ⟨0, 0, 0, 0⟩)
def mkD (i : Nat) (x : Str) (ds : List He.Dv) : He.DefD := ⟨(x, none), x, x, defArgs (top i), defBody (top i), defScope (top i), ds, []⟩
def mkM (i j : Nat) (c m q : Str) (ds : List He.Dv) : He.DefD := ⟨(c, some m), m, q, defArgs (inClass (top i) j), defBody (inClass (top i) j), defScope (inClass (top i) j), ds, []⟩
def fn : List He.DefD := [mkD 16 "_law_classes" [],
  mkD 17 "_law_fields" [],
  mkD 18 "_law_placed" [],
  mkD 19 "_law_thing" [],
  mkD 20 "law" [],
  mkM 2 0 "InvalidName" "__init__" "InvalidName.__init__" [.non],
  mkM 3 0 "InvalidNames" "__init__" "InvalidNames.__init__" [.non],
  mkM 4 0 "InvalidWidth" "__init__" "InvalidWidth.__init__" [.non],
  mkM 5 0 "InvalidNumber" "__init__" "InvalidNumber.__init__" [.non],
  mkM 6 0 "InvalidIndex" "__init__" "InvalidIndex.__init__" [.non],
  mkM 7 0 "InvalidGiven" "__init__" "InvalidGiven.__init__" [.non],
  mkM 8 0 "InvalidWishes" "__init__" "InvalidWishes.__init__" [.non],
  mkM 9 0 "InvalidCleaner" "__init__" "InvalidCleaner.__init__" [.non],
  mkM 10 0 "InvalidSteps" "__init__" "InvalidSteps.__init__" [.non],
  mkM 11 0 "InvalidSystems" "__init__" "InvalidSystems.__init__" [.non],
  mkM 12 0 "Refused" "__init__" "Refused.__init__" [.non],
  mkM 13 0 "TooMany" "__init__" "TooMany.__init__" [.non]]
def fa : List He.Fa := [.glo "_law_classes",
  .glo "_law_fields",
  .glo "_law_placed",
  .glo "_law_thing",
  .glo "law",
  .glo "TakenError",
  .glo "InvalidName",
  .meth "InvalidName" "__init__",
  .noat "InvalidName" "value",
  .glo "InvalidNames",
  .meth "InvalidNames" "__init__",
  .noat "InvalidNames" "value",
  .glo "InvalidWidth",
  .meth "InvalidWidth" "__init__",
  .noat "InvalidWidth" "value",
  .glo "InvalidNumber",
  .meth "InvalidNumber" "__init__",
  .noat "InvalidNumber" "value",
  .glo "InvalidIndex",
  .meth "InvalidIndex" "__init__",
  .noat "InvalidIndex" "value",
  .glo "InvalidGiven",
  .meth "InvalidGiven" "__init__",
  .noat "InvalidGiven" "value",
  .glo "InvalidWishes",
  .meth "InvalidWishes" "__init__",
  .noat "InvalidWishes" "value",
  .glo "InvalidCleaner",
  .meth "InvalidCleaner" "__init__",
  .noat "InvalidCleaner" "value",
  .glo "InvalidSteps",
  .meth "InvalidSteps" "__init__",
  .noat "InvalidSteps" "value",
  .glo "InvalidSystems",
  .meth "InvalidSystems" "__init__",
  .noat "InvalidSystems" "value",
  .glo "Refused",
  .meth "Refused" "__init__",
  .noat "Refused" "name",
  .glo "TooMany",
  .meth "TooMany" "__init__",
  .noat "TooMany" "tries",
  .glo "NothingToUndo",
  .free "ValueError",
  .free "enumerate",
  .free "int",
  .free "isinstance",
  .free "len",
  .free "list",
  .free "max",
  .free "range",
  .free "repr",
  .free "sum"]
def loose : List PySem.Str := (["TakenError", "InvalidName", "InvalidNames", "InvalidWidth", "InvalidNumber", "InvalidIndex", "InvalidGiven", "InvalidWishes", "InvalidCleaner", "InvalidSteps", "InvalidSystems", "Refused", "TooMany", "NothingToUndo", "_law_classes", "_law_fields", "_law_placed", "_law_thing"] : List PySem.Str)
abbrev R : PySem.W.OpenRow := PySem.W.OpenLaw.row PySem.Challenge.rw_takennames_k01_errors_made
def tf : List He.Defn := []
def tabL (K : PySem.W.Frag) : List (Addr × Str) := []
def ex (K : PySem.W.Frag) : Bool := [Ti.iseB K (fun i => He.ga K ((["TakenError", "InvalidName", "InvalidNames", "InvalidWidth", "InvalidNumber", "InvalidIndex", "InvalidGiven", "InvalidWishes", "InvalidCleaner", "InvalidSteps", "InvalidSystems", "Refused", "TooMany", "NothingToUndo"] : List Str).getD i "")) 0 [(0, true), (1, true), (2, true), (3, true), (4, true), (5, true), (6, true), (7, true), (8, true), (9, true), (10, true), (11, true), (12, true), (13, true)] [], Ti.iseB K (fun i => He.ga K ((["TakenError", "InvalidName", "InvalidNames", "InvalidWidth", "InvalidNumber", "InvalidIndex", "InvalidGiven", "InvalidWishes", "InvalidCleaner", "InvalidSteps", "InvalidSystems", "Refused", "TooMany", "NothingToUndo"] : List Str).getD i "")) 1 [(0, false), (1, true), (2, false), (3, false), (4, false), (5, false), (6, false), (7, false), (8, false), (9, false), (10, false), (11, false), (12, false), (13, false)] [], Ti.iseB K (fun i => He.ga K ((["TakenError", "InvalidName", "InvalidNames", "InvalidWidth", "InvalidNumber", "InvalidIndex", "InvalidGiven", "InvalidWishes", "InvalidCleaner", "InvalidSteps", "InvalidSystems", "Refused", "TooMany", "NothingToUndo"] : List Str).getD i "")) 2 [(0, false), (1, false), (2, true), (3, false), (4, false), (5, false), (6, false), (7, false), (8, false), (9, false), (10, false), (11, false), (12, false), (13, false)] [], Ti.iseB K (fun i => He.ga K ((["TakenError", "InvalidName", "InvalidNames", "InvalidWidth", "InvalidNumber", "InvalidIndex", "InvalidGiven", "InvalidWishes", "InvalidCleaner", "InvalidSteps", "InvalidSystems", "Refused", "TooMany", "NothingToUndo"] : List Str).getD i "")) 3 [(0, false), (1, false), (2, false), (3, true), (4, false), (5, false), (6, false), (7, false), (8, false), (9, false), (10, false), (11, false), (12, false), (13, false)] [], Ti.iseB K (fun i => He.ga K ((["TakenError", "InvalidName", "InvalidNames", "InvalidWidth", "InvalidNumber", "InvalidIndex", "InvalidGiven", "InvalidWishes", "InvalidCleaner", "InvalidSteps", "InvalidSystems", "Refused", "TooMany", "NothingToUndo"] : List Str).getD i "")) 4 [(0, false), (1, false), (2, false), (3, false), (4, true), (5, false), (6, false), (7, false), (8, false), (9, false), (10, false), (11, false), (12, false), (13, false)] [], Ti.iseB K (fun i => He.ga K ((["TakenError", "InvalidName", "InvalidNames", "InvalidWidth", "InvalidNumber", "InvalidIndex", "InvalidGiven", "InvalidWishes", "InvalidCleaner", "InvalidSteps", "InvalidSystems", "Refused", "TooMany", "NothingToUndo"] : List Str).getD i "")) 5 [(0, false), (1, false), (2, false), (3, false), (4, false), (5, true), (6, false), (7, false), (8, false), (9, false), (10, false), (11, false), (12, false), (13, false)] [], Ti.iseB K (fun i => He.ga K ((["TakenError", "InvalidName", "InvalidNames", "InvalidWidth", "InvalidNumber", "InvalidIndex", "InvalidGiven", "InvalidWishes", "InvalidCleaner", "InvalidSteps", "InvalidSystems", "Refused", "TooMany", "NothingToUndo"] : List Str).getD i "")) 6 [(0, false), (1, false), (2, false), (3, false), (4, false), (5, false), (6, true), (7, false), (8, false), (9, false), (10, false), (11, false), (12, false), (13, false)] [], Ti.iseB K (fun i => He.ga K ((["TakenError", "InvalidName", "InvalidNames", "InvalidWidth", "InvalidNumber", "InvalidIndex", "InvalidGiven", "InvalidWishes", "InvalidCleaner", "InvalidSteps", "InvalidSystems", "Refused", "TooMany", "NothingToUndo"] : List Str).getD i "")) 7 [(0, false), (1, false), (2, false), (3, false), (4, false), (5, false), (6, false), (7, true), (8, false), (9, false), (10, false), (11, false), (12, false), (13, false)] [], Ti.iseB K (fun i => He.ga K ((["TakenError", "InvalidName", "InvalidNames", "InvalidWidth", "InvalidNumber", "InvalidIndex", "InvalidGiven", "InvalidWishes", "InvalidCleaner", "InvalidSteps", "InvalidSystems", "Refused", "TooMany", "NothingToUndo"] : List Str).getD i "")) 8 [(0, false), (1, false), (2, false), (3, false), (4, false), (5, false), (6, false), (7, false), (8, true), (9, false), (10, false), (11, false), (12, false), (13, false)] [], Ti.iseB K (fun i => He.ga K ((["TakenError", "InvalidName", "InvalidNames", "InvalidWidth", "InvalidNumber", "InvalidIndex", "InvalidGiven", "InvalidWishes", "InvalidCleaner", "InvalidSteps", "InvalidSystems", "Refused", "TooMany", "NothingToUndo"] : List Str).getD i "")) 9 [(0, false), (1, false), (2, false), (3, false), (4, false), (5, false), (6, false), (7, false), (8, false), (9, true), (10, false), (11, false), (12, false), (13, false)] [], Ti.iseB K (fun i => He.ga K ((["TakenError", "InvalidName", "InvalidNames", "InvalidWidth", "InvalidNumber", "InvalidIndex", "InvalidGiven", "InvalidWishes", "InvalidCleaner", "InvalidSteps", "InvalidSystems", "Refused", "TooMany", "NothingToUndo"] : List Str).getD i "")) 10 [(0, false), (1, false), (2, false), (3, false), (4, false), (5, false), (6, false), (7, false), (8, false), (9, false), (10, true), (11, false), (12, false), (13, false)] [], Ti.iseB K (fun i => He.ga K ((["TakenError", "InvalidName", "InvalidNames", "InvalidWidth", "InvalidNumber", "InvalidIndex", "InvalidGiven", "InvalidWishes", "InvalidCleaner", "InvalidSteps", "InvalidSystems", "Refused", "TooMany", "NothingToUndo"] : List Str).getD i "")) 11 [(0, false), (1, false), (2, false), (3, false), (4, false), (5, false), (6, false), (7, false), (8, false), (9, false), (10, false), (11, true), (12, false), (13, false)] [], Ti.iseB K (fun i => He.ga K ((["TakenError", "InvalidName", "InvalidNames", "InvalidWidth", "InvalidNumber", "InvalidIndex", "InvalidGiven", "InvalidWishes", "InvalidCleaner", "InvalidSteps", "InvalidSystems", "Refused", "TooMany", "NothingToUndo"] : List Str).getD i "")) 12 [(0, false), (1, false), (2, false), (3, false), (4, false), (5, false), (6, false), (7, false), (8, false), (9, false), (10, false), (11, false), (12, true), (13, false)] [], Ti.iseB K (fun i => He.ga K ((["TakenError", "InvalidName", "InvalidNames", "InvalidWidth", "InvalidNumber", "InvalidIndex", "InvalidGiven", "InvalidWishes", "InvalidCleaner", "InvalidSteps", "InvalidSystems", "Refused", "TooMany", "NothingToUndo"] : List Str).getD i "")) 13 [(0, false), (1, false), (2, false), (3, false), (4, false), (5, false), (6, false), (7, false), (8, false), (9, false), (10, false), (11, false), (12, false), (13, true)] [], Ti.oexB K (He.ga K "InvalidName"), L2.errB K (He.ga K "InvalidName"), Ti.oexB K (He.ga K "InvalidNames"), L2.errB K (He.ga K "InvalidNames"), Ti.oexB K (He.ga K "InvalidWidth"), L2.errB K (He.ga K "InvalidWidth"), Ti.oexB K (He.ga K "InvalidNumber"), L2.errB K (He.ga K "InvalidNumber"), Ti.oexB K (He.ga K "InvalidIndex"), L2.errB K (He.ga K "InvalidIndex"), Ti.oexB K (He.ga K "InvalidGiven"), L2.errB K (He.ga K "InvalidGiven"), Ti.oexB K (He.ga K "InvalidWishes"), L2.errB K (He.ga K "InvalidWishes"), Ti.oexB K (He.ga K "InvalidCleaner"), L2.errB K (He.ga K "InvalidCleaner"), Ti.oexB K (He.ga K "InvalidSteps"), L2.errB K (He.ga K "InvalidSteps"), Ti.oexB K (He.ga K "InvalidSystems"), L2.errB K (He.ga K "InvalidSystems"), Ti.oexB K (He.ga K "Refused"), L2.errB K (He.ga K "Refused"), Ti.oexB K (He.ga K "TooMany"), L2.errB K (He.ga K "TooMany"), Ti.baseB K (He.ga K "TakenError"), Ti.isvB K (He.ga K "TakenError"), PySem.W.keepIn K (.ref (He.ga K "TakenError")), PySem.W.excIn K (He.ga K "TakenError") [.type "ValueError", .type "Exception", .type "BaseException", .type "object"] "ValueError.__new__", Ti.isvB K (He.ga K "InvalidName"), Ti.isvB K (He.ga K "InvalidNames"), Ti.isvB K (He.ga K "InvalidWidth"), Ti.isvB K (He.ga K "InvalidNumber"), Ti.isvB K (He.ga K "InvalidIndex"), Ti.isvB K (He.ga K "InvalidGiven"), Ti.isvB K (He.ga K "InvalidWishes"), Ti.isvB K (He.ga K "InvalidCleaner"), Ti.isvB K (He.ga K "InvalidSteps"), Ti.isvB K (He.ga K "InvalidSystems"), Ti.isvB K (He.ga K "Refused"), Ti.isvB K (He.ga K "TooMany"), Ti.isvB K (He.ga K "NothingToUndo"), PySem.W.keepIn K (.ref (He.ga K "NothingToUndo")), PySem.W.excIn K (He.ga K "NothingToUndo") [.type "ValueError", .type "Exception", .type "BaseException", .type "object"] "ValueError.__new__", Ti.smB K].all id
abbrev hk : PySem.W.Hook := Ti.hookY 4 fa fn [] tf ex
def ob (s : PySem.W.SharedT) : He.AlX := Ti.obsY 4 fa fn [] tf ex (HandSHeadRun.getT s)
theorem ob_eq (s : PySem.W.SharedT) : ob s = hk.obs s.abs := Ti.obsY_eq (HandSHeadRun.getT_eq s)
theorem run (w : World) : HandSHeadRun.RunEq R (PySem.W.view R.prog [20]) hk ob 9000 loose w := by
  intro os
  kernel_rfl
end Hd


namespace Bd
open PySem PySem.Spec PyProof.Rows L2 Ti
def B : List Str := ["ValueError", "enumerate", "int", "isinstance", "len", "list", "max", "range", "repr", "sum"]
def T0 : List (Str × Ent) := ("?TakenError", .ise "TakenError" 0 [(0, true), (1, true), (2, true), (3, true), (4, true), (5, true), (6, true), (7, true), (8, true), (9, true), (10, true), (11, true), (12, true), (13, true)] []) :: ("?InvalidName", .ise "InvalidName" 1 [(0, false), (1, true), (2, false), (3, false), (4, false), (5, false), (6, false), (7, false), (8, false), (9, false), (10, false), (11, false), (12, false), (13, false)] []) :: ("?InvalidNames", .ise "InvalidNames" 2 [(0, false), (1, false), (2, true), (3, false), (4, false), (5, false), (6, false), (7, false), (8, false), (9, false), (10, false), (11, false), (12, false), (13, false)] []) :: ("?InvalidWidth", .ise "InvalidWidth" 3 [(0, false), (1, false), (2, false), (3, true), (4, false), (5, false), (6, false), (7, false), (8, false), (9, false), (10, false), (11, false), (12, false), (13, false)] []) :: ("?InvalidNumber", .ise "InvalidNumber" 4 [(0, false), (1, false), (2, false), (3, false), (4, true), (5, false), (6, false), (7, false), (8, false), (9, false), (10, false), (11, false), (12, false), (13, false)] []) :: ("?InvalidIndex", .ise "InvalidIndex" 5 [(0, false), (1, false), (2, false), (3, false), (4, false), (5, true), (6, false), (7, false), (8, false), (9, false), (10, false), (11, false), (12, false), (13, false)] []) :: ("?InvalidGiven", .ise "InvalidGiven" 6 [(0, false), (1, false), (2, false), (3, false), (4, false), (5, false), (6, true), (7, false), (8, false), (9, false), (10, false), (11, false), (12, false), (13, false)] []) :: ("?InvalidWishes", .ise "InvalidWishes" 7 [(0, false), (1, false), (2, false), (3, false), (4, false), (5, false), (6, false), (7, true), (8, false), (9, false), (10, false), (11, false), (12, false), (13, false)] []) :: ("?InvalidCleaner", .ise "InvalidCleaner" 8 [(0, false), (1, false), (2, false), (3, false), (4, false), (5, false), (6, false), (7, false), (8, true), (9, false), (10, false), (11, false), (12, false), (13, false)] []) :: ("?InvalidSteps", .ise "InvalidSteps" 9 [(0, false), (1, false), (2, false), (3, false), (4, false), (5, false), (6, false), (7, false), (8, false), (9, true), (10, false), (11, false), (12, false), (13, false)] []) :: ("?InvalidSystems", .ise "InvalidSystems" 10 [(0, false), (1, false), (2, false), (3, false), (4, false), (5, false), (6, false), (7, false), (8, false), (9, false), (10, true), (11, false), (12, false), (13, false)] []) :: ("?Refused", .ise "Refused" 11 [(0, false), (1, false), (2, false), (3, false), (4, false), (5, false), (6, false), (7, false), (8, false), (9, false), (10, false), (11, true), (12, false), (13, false)] []) :: ("?TooMany", .ise "TooMany" 12 [(0, false), (1, false), (2, false), (3, false), (4, false), (5, false), (6, false), (7, false), (8, false), (9, false), (10, false), (11, false), (12, true), (13, false)] []) :: ("?NothingToUndo", .ise "NothingToUndo" 13 [(0, false), (1, false), (2, false), (3, false), (4, false), (5, false), (6, false), (7, false), (8, false), (9, false), (10, false), (11, false), (12, false), (13, true)] []) :: (":value", .fle "value" [1, 2, 3, 4, 5, 6, 7, 8, 9, 10]) :: (":name", .fle "name" [11]) :: (":tries", .fle "tries" [12]) :: ("!InvalidName", .exn "InvalidName" 1 "value") :: ("!InvalidNames", .exn "InvalidNames" 2 "value") :: ("!InvalidWidth", .exn "InvalidWidth" 3 "value") :: ("!InvalidNumber", .exn "InvalidNumber" 4 "value") :: ("!InvalidIndex", .exn "InvalidIndex" 5 "value") :: ("!InvalidGiven", .exn "InvalidGiven" 6 "value") :: ("!InvalidWishes", .exn "InvalidWishes" 7 "value") :: ("!InvalidCleaner", .exn "InvalidCleaner" 8 "value") :: ("!InvalidSteps", .exn "InvalidSteps" 9 "value") :: ("!InvalidSystems", .exn "InvalidSystems" 10 "value") :: ("!Refused", .exn "Refused" 11 "name") :: ("!TooMany", .exn "TooMany" 12 "tries") :: ("repr()", .smd) :: ("TakenError", .ern 0) :: ("InvalidName", .erp 1 "value") :: ("InvalidNames", .erp 2 "value") :: ("InvalidWidth", .erp 3 "value") :: ("InvalidNumber", .erp 4 "value") :: ("InvalidIndex", .erp 5 "value") :: ("InvalidGiven", .erp 6 "value") :: ("InvalidWishes", .erp 7 "value") :: ("InvalidCleaner", .erp 8 "value") :: ("InvalidSteps", .erp 9 "value") :: ("InvalidSystems", .erp 10 "value") :: ("Refused", .erp 11 "name") :: ("TooMany", .erp 12 "tries") :: ("NothingToUndo", .ern 13) :: ("InvalidName,value", .erk "InvalidName" 1 "value" ["value"]) :: ("InvalidNames,value", .erk "InvalidNames" 2 "value" ["value"]) :: ("InvalidWidth,value", .erk "InvalidWidth" 3 "value" ["value"]) :: ("InvalidNumber,value", .erk "InvalidNumber" 4 "value" ["value"]) :: ("InvalidIndex,value", .erk "InvalidIndex" 5 "value" ["value"]) :: ("InvalidGiven,value", .erk "InvalidGiven" 6 "value" ["value"]) :: ("InvalidWishes,value", .erk "InvalidWishes" 7 "value" ["value"]) :: ("InvalidCleaner,value", .erk "InvalidCleaner" 8 "value" ["value"]) :: ("InvalidSteps,value", .erk "InvalidSteps" 9 "value" ["value"]) :: ("InvalidSystems,value", .erk "InvalidSystems" 10 "value" ["value"]) :: ("Refused,name", .erk "Refused" 11 "name" ["name"]) :: ("TooMany,tries", .erk "TooMany" 12 "tries" ["tries"]) :: ("?ValueError", .isv [0, 1, 2, 3, 4, 5, 6, 7, 8, 9, 10, 11, 12, 13]) :: []
abbrev cm (K : PySem.W.Frag) : Cm := ⟨fun i => He.ga K ((["TakenError", "InvalidName", "InvalidNames", "InvalidWidth", "InvalidNumber", "InvalidIndex", "InvalidGiven", "InvalidWishes", "InvalidCleaner", "InvalidSteps", "InvalidSystems", "Refused", "TooMany", "NothingToUndo"] : List Str).getD i ""), Hd.tabL K⟩
theorem exAt {l : List Bool} (h : l.all id = true) (i : Nat) {b : Bool} (e : l[i]? = some b) : b = true := List.all_eq_true.mp h b (List.mem_iff_getElem?.mpr ⟨i, e⟩)
def T1 : List (Str × Ent) := ("_law_thing", .fn Bd.f__law_thing ["_law_cell", "_law_at"] 0 true) :: T0
def T2 : List (Str × Ent) := ("_law_classes", .fn Bd.f__law_classes ["_law_error"] 0 false) :: T1
def T3 : List (Str × Ent) := ("_law_placed", .fn Bd.f__law_placed ["_law_errors"] 0 false) :: T2
def T4 : List (Str × Ent) := ("_law_fields", .fn Bd.f__law_fields ["_law_errors"] 0 false) :: T3
theorem c__law_thing : cBody ⟨T0, B, ["_law_cell", "_law_at", "_law_many", "_law_values"]⟩ (defScope (Hd.top 19)) [0, 0, 0, 2] 1 (defBody (Hd.top 19)) = some Bd.b__law_thing := by kernel_rfl
theorem s__law_thing : FnScope ["_law_cell", "_law_at", "_law_many", "_law_values"] ["_law_cell", "_law_at"] (defScope (Hd.top 19)) := ⟨by kernel_rfl, by kernel_rfl, by kernel_rfl, by decide +kernel, by kernel_rfl, by decide +kernel, by decide +kernel⟩
theorem c__law_classes : cBody ⟨T1, B, ["_law_error", "_law_found"]⟩ (defScope (Hd.top 16)) [] 0 (defBody (Hd.top 16)) = some Bd.b__law_classes := by kernel_rfl
theorem s__law_classes : FnScope ["_law_error", "_law_found"] ["_law_error"] (defScope (Hd.top 16)) := ⟨by kernel_rfl, by kernel_rfl, by kernel_rfl, by decide +kernel, by kernel_rfl, by decide +kernel, by decide +kernel⟩
theorem c__law_placed : cBody ⟨T2, B, ["_law_errors", "_law_at", "_law_error", "_law_place"]⟩ (defScope (Hd.top 18)) [] 0 (defBody (Hd.top 18)) = some Bd.b__law_placed := by kernel_rfl
theorem s__law_placed : FnScope ["_law_errors", "_law_at", "_law_error", "_law_place"] ["_law_errors"] (defScope (Hd.top 18)) := ⟨by kernel_rfl, by kernel_rfl, by kernel_rfl, by decide +kernel, by kernel_rfl, by decide +kernel, by decide +kernel⟩
theorem c__law_fields : cBody ⟨T3, B, ["_law_errors", "_law_error"]⟩ (defScope (Hd.top 17)) [] 0 (defBody (Hd.top 17)) = some Bd.b__law_fields := by kernel_rfl
theorem s__law_fields : FnScope ["_law_errors", "_law_error"] ["_law_errors"] (defScope (Hd.top 17)) := ⟨by kernel_rfl, by kernel_rfl, by kernel_rfl, by decide +kernel, by kernel_rfl, by decide +kernel, by decide +kernel⟩
theorem c_law : cBody ⟨T4, B, ["_law_script", "_law_base", "_law_at", "_law_thing_here", "_law_errors", "_law_by_name", "_law_bare", "_law_some", "_law_field"]⟩ (defScope (Hd.top 20)) [0, 0, 0, 1] 0 (defBody (Hd.top 20)) = some Bd.b_law := by kernel_rfl
theorem s_law : FnScope ["_law_script", "_law_base", "_law_at", "_law_thing_here", "_law_errors", "_law_by_name", "_law_bare", "_law_some", "_law_field"] ["_law_script"] (defScope (Hd.top 20)) := ⟨by kernel_rfl, by kernel_rfl, by kernel_rfl, by decide +kernel, by kernel_rfl, by decide +kernel, by decide +kernel⟩
theorem si_InvalidName : FnScope ["self", "value"] ["self", "value"] (defScope (inClass (Hd.top 2) 0)) := ⟨by kernel_rfl, by kernel_rfl, by kernel_rfl, by decide +kernel, by kernel_rfl, by decide +kernel, by decide +kernel⟩
theorem ib_InvalidName : iniOf (defBody (inClass (Hd.top 2) 0)) = some (("TakenError" : Str), ("value" : Str), ("value" : Str)) := by kernel_rfl
theorem si_InvalidNames : FnScope ["self", "value"] ["self", "value"] (defScope (inClass (Hd.top 3) 0)) := ⟨by kernel_rfl, by kernel_rfl, by kernel_rfl, by decide +kernel, by kernel_rfl, by decide +kernel, by decide +kernel⟩
theorem ib_InvalidNames : iniOf (defBody (inClass (Hd.top 3) 0)) = some (("TakenError" : Str), ("value" : Str), ("value" : Str)) := by kernel_rfl
theorem si_InvalidWidth : FnScope ["self", "value"] ["self", "value"] (defScope (inClass (Hd.top 4) 0)) := ⟨by kernel_rfl, by kernel_rfl, by kernel_rfl, by decide +kernel, by kernel_rfl, by decide +kernel, by decide +kernel⟩
theorem ib_InvalidWidth : iniOf (defBody (inClass (Hd.top 4) 0)) = some (("TakenError" : Str), ("value" : Str), ("value" : Str)) := by kernel_rfl
theorem si_InvalidNumber : FnScope ["self", "value"] ["self", "value"] (defScope (inClass (Hd.top 5) 0)) := ⟨by kernel_rfl, by kernel_rfl, by kernel_rfl, by decide +kernel, by kernel_rfl, by decide +kernel, by decide +kernel⟩
theorem ib_InvalidNumber : iniOf (defBody (inClass (Hd.top 5) 0)) = some (("TakenError" : Str), ("value" : Str), ("value" : Str)) := by kernel_rfl
theorem si_InvalidIndex : FnScope ["self", "value"] ["self", "value"] (defScope (inClass (Hd.top 6) 0)) := ⟨by kernel_rfl, by kernel_rfl, by kernel_rfl, by decide +kernel, by kernel_rfl, by decide +kernel, by decide +kernel⟩
theorem ib_InvalidIndex : iniOf (defBody (inClass (Hd.top 6) 0)) = some (("TakenError" : Str), ("value" : Str), ("value" : Str)) := by kernel_rfl
theorem si_InvalidGiven : FnScope ["self", "value"] ["self", "value"] (defScope (inClass (Hd.top 7) 0)) := ⟨by kernel_rfl, by kernel_rfl, by kernel_rfl, by decide +kernel, by kernel_rfl, by decide +kernel, by decide +kernel⟩
theorem ib_InvalidGiven : iniOf (defBody (inClass (Hd.top 7) 0)) = some (("TakenError" : Str), ("value" : Str), ("value" : Str)) := by kernel_rfl
theorem si_InvalidWishes : FnScope ["self", "value"] ["self", "value"] (defScope (inClass (Hd.top 8) 0)) := ⟨by kernel_rfl, by kernel_rfl, by kernel_rfl, by decide +kernel, by kernel_rfl, by decide +kernel, by decide +kernel⟩
theorem ib_InvalidWishes : iniOf (defBody (inClass (Hd.top 8) 0)) = some (("TakenError" : Str), ("value" : Str), ("value" : Str)) := by kernel_rfl
theorem si_InvalidCleaner : FnScope ["self", "value"] ["self", "value"] (defScope (inClass (Hd.top 9) 0)) := ⟨by kernel_rfl, by kernel_rfl, by kernel_rfl, by decide +kernel, by kernel_rfl, by decide +kernel, by decide +kernel⟩
theorem ib_InvalidCleaner : iniOf (defBody (inClass (Hd.top 9) 0)) = some (("TakenError" : Str), ("value" : Str), ("value" : Str)) := by kernel_rfl
theorem si_InvalidSteps : FnScope ["self", "value"] ["self", "value"] (defScope (inClass (Hd.top 10) 0)) := ⟨by kernel_rfl, by kernel_rfl, by kernel_rfl, by decide +kernel, by kernel_rfl, by decide +kernel, by decide +kernel⟩
theorem ib_InvalidSteps : iniOf (defBody (inClass (Hd.top 10) 0)) = some (("TakenError" : Str), ("value" : Str), ("value" : Str)) := by kernel_rfl
theorem si_InvalidSystems : FnScope ["self", "value"] ["self", "value"] (defScope (inClass (Hd.top 11) 0)) := ⟨by kernel_rfl, by kernel_rfl, by kernel_rfl, by decide +kernel, by kernel_rfl, by decide +kernel, by decide +kernel⟩
theorem ib_InvalidSystems : iniOf (defBody (inClass (Hd.top 11) 0)) = some (("TakenError" : Str), ("value" : Str), ("value" : Str)) := by kernel_rfl
theorem si_Refused : FnScope ["self", "name"] ["self", "name"] (defScope (inClass (Hd.top 12) 0)) := ⟨by kernel_rfl, by kernel_rfl, by kernel_rfl, by decide +kernel, by kernel_rfl, by decide +kernel, by decide +kernel⟩
theorem ib_Refused : iniOf (defBody (inClass (Hd.top 12) 0)) = some (("TakenError" : Str), ("name" : Str), ("name" : Str)) := by kernel_rfl
theorem si_TooMany : FnScope ["self", "tries"] ["self", "tries"] (defScope (inClass (Hd.top 13) 0)) := ⟨by kernel_rfl, by kernel_rfl, by kernel_rfl, by decide +kernel, by kernel_rfl, by decide +kernel, by decide +kernel⟩
theorem ib_TooMany : iniOf (defBody (inClass (Hd.top 13) 0)) = some (("TakenError" : Str), ("tries" : Str), ("tries" : Str)) := by kernel_rfl
section
variable {P : Program} {w : World} {K : PySem.W.Frag} {h : Heap} {mg : Str → Option Value}
theorem facts (X : K.In h) (G : h.Ns mainGlobals mg) (c : He.SaysD Hd.fa Hd.fn K) (cx : Hd.ex K = true) (base : Heap) : (∀ x ∈ B, mg x = none) ∧ Tb P w K mg base (cm K) 2 T0 := by
  refine ⟨fun x hx => ?_, ?_⟩
  · have key : ∀ y ∈ B, (He.Fa.free y) ∈ Hd.fa := by
      intro y hy
      simp only [B, List.mem_cons, List.not_mem_nil, or_false] at hy
      rcases hy with rfl | rfl | rfl | rfl | rfl | rfl | rfl | rfl | rfl | rfl <;> simp [Hd.fa]
    exact He.free_ok X G (c.facts (key x hx))
  · exact Tb.cons (Tb.cons (Tb.cons (Tb.cons (Tb.cons (Tb.cons (Tb.cons (Tb.cons (Tb.cons (Tb.cons (Tb.cons (Tb.cons (Tb.cons (Tb.cons (Tb.cons (Tb.cons (Tb.cons (Tb.cons (Tb.cons (Tb.cons (Tb.cons (Tb.cons (Tb.cons (Tb.cons (Tb.cons (Tb.cons (Tb.cons (Tb.cons (Tb.cons (Tb.cons (Tb.cons (Tb.cons (Tb.cons (Tb.cons (Tb.cons (Tb.cons (Tb.cons (Tb.cons (Tb.cons (Tb.cons (Tb.cons (Tb.cons (Tb.cons (Tb.cons (Tb.cons (Tb.cons (Tb.cons (Tb.cons (Tb.cons (Tb.cons (Tb.cons (Tb.cons (Tb.cons (Tb.cons (Tb.cons (Tb.cons (Tb.cons (Tb.nil) (Nat.le_refl _) (fun q hq => (by
    simp only [List.mem_cons, List.not_mem_nil, or_false] at hq
    rcases hq with rfl | rfl | rfl | rfl | rfl | rfl | rfl | rfl | rfl | rfl | rfl | rfl | rfl | rfl
    · exact Ti.isvB_ok (exAt cx 39 rfl)
    · exact Ti.isvB_ok (exAt cx 42 rfl)
    · exact Ti.isvB_ok (exAt cx 43 rfl)
    · exact Ti.isvB_ok (exAt cx 44 rfl)
    · exact Ti.isvB_ok (exAt cx 45 rfl)
    · exact Ti.isvB_ok (exAt cx 46 rfl)
    · exact Ti.isvB_ok (exAt cx 47 rfl)
    · exact Ti.isvB_ok (exAt cx 48 rfl)
    · exact Ti.isvB_ok (exAt cx 49 rfl)
    · exact Ti.isvB_ok (exAt cx 50 rfl)
    · exact Ti.isvB_ok (exAt cx 51 rfl)
    · exact Ti.isvB_ok (exAt cx 52 rfl)
    · exact Ti.isvB_ok (exAt cx 53 rfl)
    · exact Ti.isvB_ok (exAt cx 54 rfl)))) (Nat.le_refl _) (by
    obtain ⟨fd, F⟩ := c.def_ 16 (d := Hd.mkM 13 0 "TooMany" "__init__" "TooMany.__init__" [.non]) rfl
    exact ⟨_, fd, ["self", "tries"], 1, Nat.le_refl _, He.glo_ok X G (c.fact 39 (f := .glo "TooMany") rfl), Ti.oexB_ok (exAt cx 36 rfl), (He.meth_ok (c.fact 40 (f := .meth "TooMany" "__init__") rfl)).at_, beq_iff_eq.mp (He.meth_ok (c.fact 40 (f := .meth "TooMany" "__init__") rfl)).fn, He.noat_ok (c.fact 41 (f := .noat "TooMany" "tries") rfl), Ti.ini_by F ib_TooMany si_TooMany (by kernel_rfl) (by kernel_rfl) (by kernel_rfl) (He.glo_ok X G (c.fact 5 (f := .glo "TakenError") rfl)) (exAt cx 38 rfl) (by decide) (by decide) (by decide), rfl, (kwi1 F fun _ _ _ _ _ _ _ u ws its hl hl2 => match ws, hl, its, hl2 with | [_], _, [_], _ => ⟨_, rfl, rfl⟩)⟩)) (Nat.le_refl _) (by
    obtain ⟨fd, F⟩ := c.def_ 15 (d := Hd.mkM 12 0 "Refused" "__init__" "Refused.__init__" [.non]) rfl
    exact ⟨_, fd, ["self", "name"], 1, Nat.le_refl _, He.glo_ok X G (c.fact 36 (f := .glo "Refused") rfl), Ti.oexB_ok (exAt cx 34 rfl), (He.meth_ok (c.fact 37 (f := .meth "Refused" "__init__") rfl)).at_, beq_iff_eq.mp (He.meth_ok (c.fact 37 (f := .meth "Refused" "__init__") rfl)).fn, He.noat_ok (c.fact 38 (f := .noat "Refused" "name") rfl), Ti.ini_by F ib_Refused si_Refused (by kernel_rfl) (by kernel_rfl) (by kernel_rfl) (He.glo_ok X G (c.fact 5 (f := .glo "TakenError") rfl)) (exAt cx 38 rfl) (by decide) (by decide) (by decide), rfl, (kwi1 F fun _ _ _ _ _ _ _ u ws its hl hl2 => match ws, hl, its, hl2 with | [_], _, [_], _ => ⟨_, rfl, rfl⟩)⟩)) (Nat.le_refl _) (by
    obtain ⟨fd, F⟩ := c.def_ 14 (d := Hd.mkM 11 0 "InvalidSystems" "__init__" "InvalidSystems.__init__" [.non]) rfl
    exact ⟨_, fd, ["self", "value"], 1, Nat.le_refl _, He.glo_ok X G (c.fact 33 (f := .glo "InvalidSystems") rfl), Ti.oexB_ok (exAt cx 32 rfl), (He.meth_ok (c.fact 34 (f := .meth "InvalidSystems" "__init__") rfl)).at_, beq_iff_eq.mp (He.meth_ok (c.fact 34 (f := .meth "InvalidSystems" "__init__") rfl)).fn, He.noat_ok (c.fact 35 (f := .noat "InvalidSystems" "value") rfl), Ti.ini_by F ib_InvalidSystems si_InvalidSystems (by kernel_rfl) (by kernel_rfl) (by kernel_rfl) (He.glo_ok X G (c.fact 5 (f := .glo "TakenError") rfl)) (exAt cx 38 rfl) (by decide) (by decide) (by decide), rfl, (kwi1 F fun _ _ _ _ _ _ _ u ws its hl hl2 => match ws, hl, its, hl2 with | [_], _, [_], _ => ⟨_, rfl, rfl⟩)⟩)) (Nat.le_refl _) (by
    obtain ⟨fd, F⟩ := c.def_ 13 (d := Hd.mkM 10 0 "InvalidSteps" "__init__" "InvalidSteps.__init__" [.non]) rfl
    exact ⟨_, fd, ["self", "value"], 1, Nat.le_refl _, He.glo_ok X G (c.fact 30 (f := .glo "InvalidSteps") rfl), Ti.oexB_ok (exAt cx 30 rfl), (He.meth_ok (c.fact 31 (f := .meth "InvalidSteps" "__init__") rfl)).at_, beq_iff_eq.mp (He.meth_ok (c.fact 31 (f := .meth "InvalidSteps" "__init__") rfl)).fn, He.noat_ok (c.fact 32 (f := .noat "InvalidSteps" "value") rfl), Ti.ini_by F ib_InvalidSteps si_InvalidSteps (by kernel_rfl) (by kernel_rfl) (by kernel_rfl) (He.glo_ok X G (c.fact 5 (f := .glo "TakenError") rfl)) (exAt cx 38 rfl) (by decide) (by decide) (by decide), rfl, (kwi1 F fun _ _ _ _ _ _ _ u ws its hl hl2 => match ws, hl, its, hl2 with | [_], _, [_], _ => ⟨_, rfl, rfl⟩)⟩)) (Nat.le_refl _) (by
    obtain ⟨fd, F⟩ := c.def_ 12 (d := Hd.mkM 9 0 "InvalidCleaner" "__init__" "InvalidCleaner.__init__" [.non]) rfl
    exact ⟨_, fd, ["self", "value"], 1, Nat.le_refl _, He.glo_ok X G (c.fact 27 (f := .glo "InvalidCleaner") rfl), Ti.oexB_ok (exAt cx 28 rfl), (He.meth_ok (c.fact 28 (f := .meth "InvalidCleaner" "__init__") rfl)).at_, beq_iff_eq.mp (He.meth_ok (c.fact 28 (f := .meth "InvalidCleaner" "__init__") rfl)).fn, He.noat_ok (c.fact 29 (f := .noat "InvalidCleaner" "value") rfl), Ti.ini_by F ib_InvalidCleaner si_InvalidCleaner (by kernel_rfl) (by kernel_rfl) (by kernel_rfl) (He.glo_ok X G (c.fact 5 (f := .glo "TakenError") rfl)) (exAt cx 38 rfl) (by decide) (by decide) (by decide), rfl, (kwi1 F fun _ _ _ _ _ _ _ u ws its hl hl2 => match ws, hl, its, hl2 with | [_], _, [_], _ => ⟨_, rfl, rfl⟩)⟩)) (Nat.le_refl _) (by
    obtain ⟨fd, F⟩ := c.def_ 11 (d := Hd.mkM 8 0 "InvalidWishes" "__init__" "InvalidWishes.__init__" [.non]) rfl
    exact ⟨_, fd, ["self", "value"], 1, Nat.le_refl _, He.glo_ok X G (c.fact 24 (f := .glo "InvalidWishes") rfl), Ti.oexB_ok (exAt cx 26 rfl), (He.meth_ok (c.fact 25 (f := .meth "InvalidWishes" "__init__") rfl)).at_, beq_iff_eq.mp (He.meth_ok (c.fact 25 (f := .meth "InvalidWishes" "__init__") rfl)).fn, He.noat_ok (c.fact 26 (f := .noat "InvalidWishes" "value") rfl), Ti.ini_by F ib_InvalidWishes si_InvalidWishes (by kernel_rfl) (by kernel_rfl) (by kernel_rfl) (He.glo_ok X G (c.fact 5 (f := .glo "TakenError") rfl)) (exAt cx 38 rfl) (by decide) (by decide) (by decide), rfl, (kwi1 F fun _ _ _ _ _ _ _ u ws its hl hl2 => match ws, hl, its, hl2 with | [_], _, [_], _ => ⟨_, rfl, rfl⟩)⟩)) (Nat.le_refl _) (by
    obtain ⟨fd, F⟩ := c.def_ 10 (d := Hd.mkM 7 0 "InvalidGiven" "__init__" "InvalidGiven.__init__" [.non]) rfl
    exact ⟨_, fd, ["self", "value"], 1, Nat.le_refl _, He.glo_ok X G (c.fact 21 (f := .glo "InvalidGiven") rfl), Ti.oexB_ok (exAt cx 24 rfl), (He.meth_ok (c.fact 22 (f := .meth "InvalidGiven" "__init__") rfl)).at_, beq_iff_eq.mp (He.meth_ok (c.fact 22 (f := .meth "InvalidGiven" "__init__") rfl)).fn, He.noat_ok (c.fact 23 (f := .noat "InvalidGiven" "value") rfl), Ti.ini_by F ib_InvalidGiven si_InvalidGiven (by kernel_rfl) (by kernel_rfl) (by kernel_rfl) (He.glo_ok X G (c.fact 5 (f := .glo "TakenError") rfl)) (exAt cx 38 rfl) (by decide) (by decide) (by decide), rfl, (kwi1 F fun _ _ _ _ _ _ _ u ws its hl hl2 => match ws, hl, its, hl2 with | [_], _, [_], _ => ⟨_, rfl, rfl⟩)⟩)) (Nat.le_refl _) (by
    obtain ⟨fd, F⟩ := c.def_ 9 (d := Hd.mkM 6 0 "InvalidIndex" "__init__" "InvalidIndex.__init__" [.non]) rfl
    exact ⟨_, fd, ["self", "value"], 1, Nat.le_refl _, He.glo_ok X G (c.fact 18 (f := .glo "InvalidIndex") rfl), Ti.oexB_ok (exAt cx 22 rfl), (He.meth_ok (c.fact 19 (f := .meth "InvalidIndex" "__init__") rfl)).at_, beq_iff_eq.mp (He.meth_ok (c.fact 19 (f := .meth "InvalidIndex" "__init__") rfl)).fn, He.noat_ok (c.fact 20 (f := .noat "InvalidIndex" "value") rfl), Ti.ini_by F ib_InvalidIndex si_InvalidIndex (by kernel_rfl) (by kernel_rfl) (by kernel_rfl) (He.glo_ok X G (c.fact 5 (f := .glo "TakenError") rfl)) (exAt cx 38 rfl) (by decide) (by decide) (by decide), rfl, (kwi1 F fun _ _ _ _ _ _ _ u ws its hl hl2 => match ws, hl, its, hl2 with | [_], _, [_], _ => ⟨_, rfl, rfl⟩)⟩)) (Nat.le_refl _) (by
    obtain ⟨fd, F⟩ := c.def_ 8 (d := Hd.mkM 5 0 "InvalidNumber" "__init__" "InvalidNumber.__init__" [.non]) rfl
    exact ⟨_, fd, ["self", "value"], 1, Nat.le_refl _, He.glo_ok X G (c.fact 15 (f := .glo "InvalidNumber") rfl), Ti.oexB_ok (exAt cx 20 rfl), (He.meth_ok (c.fact 16 (f := .meth "InvalidNumber" "__init__") rfl)).at_, beq_iff_eq.mp (He.meth_ok (c.fact 16 (f := .meth "InvalidNumber" "__init__") rfl)).fn, He.noat_ok (c.fact 17 (f := .noat "InvalidNumber" "value") rfl), Ti.ini_by F ib_InvalidNumber si_InvalidNumber (by kernel_rfl) (by kernel_rfl) (by kernel_rfl) (He.glo_ok X G (c.fact 5 (f := .glo "TakenError") rfl)) (exAt cx 38 rfl) (by decide) (by decide) (by decide), rfl, (kwi1 F fun _ _ _ _ _ _ _ u ws its hl hl2 => match ws, hl, its, hl2 with | [_], _, [_], _ => ⟨_, rfl, rfl⟩)⟩)) (Nat.le_refl _) (by
    obtain ⟨fd, F⟩ := c.def_ 7 (d := Hd.mkM 4 0 "InvalidWidth" "__init__" "InvalidWidth.__init__" [.non]) rfl
    exact ⟨_, fd, ["self", "value"], 1, Nat.le_refl _, He.glo_ok X G (c.fact 12 (f := .glo "InvalidWidth") rfl), Ti.oexB_ok (exAt cx 18 rfl), (He.meth_ok (c.fact 13 (f := .meth "InvalidWidth" "__init__") rfl)).at_, beq_iff_eq.mp (He.meth_ok (c.fact 13 (f := .meth "InvalidWidth" "__init__") rfl)).fn, He.noat_ok (c.fact 14 (f := .noat "InvalidWidth" "value") rfl), Ti.ini_by F ib_InvalidWidth si_InvalidWidth (by kernel_rfl) (by kernel_rfl) (by kernel_rfl) (He.glo_ok X G (c.fact 5 (f := .glo "TakenError") rfl)) (exAt cx 38 rfl) (by decide) (by decide) (by decide), rfl, (kwi1 F fun _ _ _ _ _ _ _ u ws its hl hl2 => match ws, hl, its, hl2 with | [_], _, [_], _ => ⟨_, rfl, rfl⟩)⟩)) (Nat.le_refl _) (by
    obtain ⟨fd, F⟩ := c.def_ 6 (d := Hd.mkM 3 0 "InvalidNames" "__init__" "InvalidNames.__init__" [.non]) rfl
    exact ⟨_, fd, ["self", "value"], 1, Nat.le_refl _, He.glo_ok X G (c.fact 9 (f := .glo "InvalidNames") rfl), Ti.oexB_ok (exAt cx 16 rfl), (He.meth_ok (c.fact 10 (f := .meth "InvalidNames" "__init__") rfl)).at_, beq_iff_eq.mp (He.meth_ok (c.fact 10 (f := .meth "InvalidNames" "__init__") rfl)).fn, He.noat_ok (c.fact 11 (f := .noat "InvalidNames" "value") rfl), Ti.ini_by F ib_InvalidNames si_InvalidNames (by kernel_rfl) (by kernel_rfl) (by kernel_rfl) (He.glo_ok X G (c.fact 5 (f := .glo "TakenError") rfl)) (exAt cx 38 rfl) (by decide) (by decide) (by decide), rfl, (kwi1 F fun _ _ _ _ _ _ _ u ws its hl hl2 => match ws, hl, its, hl2 with | [_], _, [_], _ => ⟨_, rfl, rfl⟩)⟩)) (Nat.le_refl _) (by
    obtain ⟨fd, F⟩ := c.def_ 5 (d := Hd.mkM 2 0 "InvalidName" "__init__" "InvalidName.__init__" [.non]) rfl
    exact ⟨_, fd, ["self", "value"], 1, Nat.le_refl _, He.glo_ok X G (c.fact 6 (f := .glo "InvalidName") rfl), Ti.oexB_ok (exAt cx 14 rfl), (He.meth_ok (c.fact 7 (f := .meth "InvalidName" "__init__") rfl)).at_, beq_iff_eq.mp (He.meth_ok (c.fact 7 (f := .meth "InvalidName" "__init__") rfl)).fn, He.noat_ok (c.fact 8 (f := .noat "InvalidName" "value") rfl), Ti.ini_by F ib_InvalidName si_InvalidName (by kernel_rfl) (by kernel_rfl) (by kernel_rfl) (He.glo_ok X G (c.fact 5 (f := .glo "TakenError") rfl)) (exAt cx 38 rfl) (by decide) (by decide) (by decide), rfl, (kwi1 F fun _ _ _ _ _ _ _ u ws its hl hl2 => match ws, hl, its, hl2 with | [_], _, [_], _ => ⟨_, rfl, rfl⟩)⟩)) (Nat.le_refl _) ⟨He.glo_ok X G (c.fact 42 (f := .glo "NothingToUndo") rfl), exAt cx 55 rfl, exAt cx 56 rfl⟩) (Nat.le_refl _) (by
    obtain ⟨fd, F⟩ := c.def_ 16 (d := Hd.mkM 13 0 "TooMany" "__init__" "TooMany.__init__" [.non]) rfl
    exact ⟨_, fd, ["self", "tries"], 1, Nat.le_refl _, He.glo_ok X G (c.fact 39 (f := .glo "TooMany") rfl), Ti.oexB_ok (exAt cx 36 rfl), (He.meth_ok (c.fact 40 (f := .meth "TooMany" "__init__") rfl)).at_, beq_iff_eq.mp (He.meth_ok (c.fact 40 (f := .meth "TooMany" "__init__") rfl)).fn, He.noat_ok (c.fact 41 (f := .noat "TooMany" "tries") rfl), Ti.ini_by F ib_TooMany si_TooMany (by kernel_rfl) (by kernel_rfl) (by kernel_rfl) (He.glo_ok X G (c.fact 5 (f := .glo "TakenError") rfl)) (exAt cx 38 rfl) (by decide) (by decide) (by decide), rfl, (by
      obtain ⟨ds, hv, hb⟩ := FunD.binds1 (ps := ["self", "tries"]) F 2 1 (List.cons_ne_nil _ _) rfl (fun T kV doc pm an cdv ct us its hl hl2 => match us, hl, its, hl2 with | [_, _], _, [_], _ => ⟨_, rfl, rfl⟩)
      cases hv
      exact hb), (by
      obtain ⟨ds, hv, hb⟩ := FunD.binds1 (ps := ["self", "tries"]) F 1 0 (List.cons_ne_nil _ _) rfl (fun T kV doc pm an cdv ct us its hl hl2 => match us, hl, its, hl2 with | [_], _, [_], _ => ⟨_, rfl, rfl⟩)
      cases hv with
      | cons a r => (cases r; cases a; exact hb))⟩)) (Nat.le_refl _) (by
    obtain ⟨fd, F⟩ := c.def_ 15 (d := Hd.mkM 12 0 "Refused" "__init__" "Refused.__init__" [.non]) rfl
    exact ⟨_, fd, ["self", "name"], 1, Nat.le_refl _, He.glo_ok X G (c.fact 36 (f := .glo "Refused") rfl), Ti.oexB_ok (exAt cx 34 rfl), (He.meth_ok (c.fact 37 (f := .meth "Refused" "__init__") rfl)).at_, beq_iff_eq.mp (He.meth_ok (c.fact 37 (f := .meth "Refused" "__init__") rfl)).fn, He.noat_ok (c.fact 38 (f := .noat "Refused" "name") rfl), Ti.ini_by F ib_Refused si_Refused (by kernel_rfl) (by kernel_rfl) (by kernel_rfl) (He.glo_ok X G (c.fact 5 (f := .glo "TakenError") rfl)) (exAt cx 38 rfl) (by decide) (by decide) (by decide), rfl, (by
      obtain ⟨ds, hv, hb⟩ := FunD.binds1 (ps := ["self", "name"]) F 2 1 (List.cons_ne_nil _ _) rfl (fun T kV doc pm an cdv ct us its hl hl2 => match us, hl, its, hl2 with | [_, _], _, [_], _ => ⟨_, rfl, rfl⟩)
      cases hv
      exact hb), (by
      obtain ⟨ds, hv, hb⟩ := FunD.binds1 (ps := ["self", "name"]) F 1 0 (List.cons_ne_nil _ _) rfl (fun T kV doc pm an cdv ct us its hl hl2 => match us, hl, its, hl2 with | [_], _, [_], _ => ⟨_, rfl, rfl⟩)
      cases hv with
      | cons a r => (cases r; cases a; exact hb))⟩)) (Nat.le_refl _) (by
    obtain ⟨fd, F⟩ := c.def_ 14 (d := Hd.mkM 11 0 "InvalidSystems" "__init__" "InvalidSystems.__init__" [.non]) rfl
    exact ⟨_, fd, ["self", "value"], 1, Nat.le_refl _, He.glo_ok X G (c.fact 33 (f := .glo "InvalidSystems") rfl), Ti.oexB_ok (exAt cx 32 rfl), (He.meth_ok (c.fact 34 (f := .meth "InvalidSystems" "__init__") rfl)).at_, beq_iff_eq.mp (He.meth_ok (c.fact 34 (f := .meth "InvalidSystems" "__init__") rfl)).fn, He.noat_ok (c.fact 35 (f := .noat "InvalidSystems" "value") rfl), Ti.ini_by F ib_InvalidSystems si_InvalidSystems (by kernel_rfl) (by kernel_rfl) (by kernel_rfl) (He.glo_ok X G (c.fact 5 (f := .glo "TakenError") rfl)) (exAt cx 38 rfl) (by decide) (by decide) (by decide), rfl, (by
      obtain ⟨ds, hv, hb⟩ := FunD.binds1 (ps := ["self", "value"]) F 2 1 (List.cons_ne_nil _ _) rfl (fun T kV doc pm an cdv ct us its hl hl2 => match us, hl, its, hl2 with | [_, _], _, [_], _ => ⟨_, rfl, rfl⟩)
      cases hv
      exact hb), (by
      obtain ⟨ds, hv, hb⟩ := FunD.binds1 (ps := ["self", "value"]) F 1 0 (List.cons_ne_nil _ _) rfl (fun T kV doc pm an cdv ct us its hl hl2 => match us, hl, its, hl2 with | [_], _, [_], _ => ⟨_, rfl, rfl⟩)
      cases hv with
      | cons a r => (cases r; cases a; exact hb))⟩)) (Nat.le_refl _) (by
    obtain ⟨fd, F⟩ := c.def_ 13 (d := Hd.mkM 10 0 "InvalidSteps" "__init__" "InvalidSteps.__init__" [.non]) rfl
    exact ⟨_, fd, ["self", "value"], 1, Nat.le_refl _, He.glo_ok X G (c.fact 30 (f := .glo "InvalidSteps") rfl), Ti.oexB_ok (exAt cx 30 rfl), (He.meth_ok (c.fact 31 (f := .meth "InvalidSteps" "__init__") rfl)).at_, beq_iff_eq.mp (He.meth_ok (c.fact 31 (f := .meth "InvalidSteps" "__init__") rfl)).fn, He.noat_ok (c.fact 32 (f := .noat "InvalidSteps" "value") rfl), Ti.ini_by F ib_InvalidSteps si_InvalidSteps (by kernel_rfl) (by kernel_rfl) (by kernel_rfl) (He.glo_ok X G (c.fact 5 (f := .glo "TakenError") rfl)) (exAt cx 38 rfl) (by decide) (by decide) (by decide), rfl, (by
      obtain ⟨ds, hv, hb⟩ := FunD.binds1 (ps := ["self", "value"]) F 2 1 (List.cons_ne_nil _ _) rfl (fun T kV doc pm an cdv ct us its hl hl2 => match us, hl, its, hl2 with | [_, _], _, [_], _ => ⟨_, rfl, rfl⟩)
      cases hv
      exact hb), (by
      obtain ⟨ds, hv, hb⟩ := FunD.binds1 (ps := ["self", "value"]) F 1 0 (List.cons_ne_nil _ _) rfl (fun T kV doc pm an cdv ct us its hl hl2 => match us, hl, its, hl2 with | [_], _, [_], _ => ⟨_, rfl, rfl⟩)
      cases hv with
      | cons a r => (cases r; cases a; exact hb))⟩)) (Nat.le_refl _) (by
    obtain ⟨fd, F⟩ := c.def_ 12 (d := Hd.mkM 9 0 "InvalidCleaner" "__init__" "InvalidCleaner.__init__" [.non]) rfl
    exact ⟨_, fd, ["self", "value"], 1, Nat.le_refl _, He.glo_ok X G (c.fact 27 (f := .glo "InvalidCleaner") rfl), Ti.oexB_ok (exAt cx 28 rfl), (He.meth_ok (c.fact 28 (f := .meth "InvalidCleaner" "__init__") rfl)).at_, beq_iff_eq.mp (He.meth_ok (c.fact 28 (f := .meth "InvalidCleaner" "__init__") rfl)).fn, He.noat_ok (c.fact 29 (f := .noat "InvalidCleaner" "value") rfl), Ti.ini_by F ib_InvalidCleaner si_InvalidCleaner (by kernel_rfl) (by kernel_rfl) (by kernel_rfl) (He.glo_ok X G (c.fact 5 (f := .glo "TakenError") rfl)) (exAt cx 38 rfl) (by decide) (by decide) (by decide), rfl, (by
      obtain ⟨ds, hv, hb⟩ := FunD.binds1 (ps := ["self", "value"]) F 2 1 (List.cons_ne_nil _ _) rfl (fun T kV doc pm an cdv ct us its hl hl2 => match us, hl, its, hl2 with | [_, _], _, [_], _ => ⟨_, rfl, rfl⟩)
      cases hv
      exact hb), (by
      obtain ⟨ds, hv, hb⟩ := FunD.binds1 (ps := ["self", "value"]) F 1 0 (List.cons_ne_nil _ _) rfl (fun T kV doc pm an cdv ct us its hl hl2 => match us, hl, its, hl2 with | [_], _, [_], _ => ⟨_, rfl, rfl⟩)
      cases hv with
      | cons a r => (cases r; cases a; exact hb))⟩)) (Nat.le_refl _) (by
    obtain ⟨fd, F⟩ := c.def_ 11 (d := Hd.mkM 8 0 "InvalidWishes" "__init__" "InvalidWishes.__init__" [.non]) rfl
    exact ⟨_, fd, ["self", "value"], 1, Nat.le_refl _, He.glo_ok X G (c.fact 24 (f := .glo "InvalidWishes") rfl), Ti.oexB_ok (exAt cx 26 rfl), (He.meth_ok (c.fact 25 (f := .meth "InvalidWishes" "__init__") rfl)).at_, beq_iff_eq.mp (He.meth_ok (c.fact 25 (f := .meth "InvalidWishes" "__init__") rfl)).fn, He.noat_ok (c.fact 26 (f := .noat "InvalidWishes" "value") rfl), Ti.ini_by F ib_InvalidWishes si_InvalidWishes (by kernel_rfl) (by kernel_rfl) (by kernel_rfl) (He.glo_ok X G (c.fact 5 (f := .glo "TakenError") rfl)) (exAt cx 38 rfl) (by decide) (by decide) (by decide), rfl, (by
      obtain ⟨ds, hv, hb⟩ := FunD.binds1 (ps := ["self", "value"]) F 2 1 (List.cons_ne_nil _ _) rfl (fun T kV doc pm an cdv ct us its hl hl2 => match us, hl, its, hl2 with | [_, _], _, [_], _ => ⟨_, rfl, rfl⟩)
      cases hv
      exact hb), (by
      obtain ⟨ds, hv, hb⟩ := FunD.binds1 (ps := ["self", "value"]) F 1 0 (List.cons_ne_nil _ _) rfl (fun T kV doc pm an cdv ct us its hl hl2 => match us, hl, its, hl2 with | [_], _, [_], _ => ⟨_, rfl, rfl⟩)
      cases hv with
      | cons a r => (cases r; cases a; exact hb))⟩)) (Nat.le_refl _) (by
    obtain ⟨fd, F⟩ := c.def_ 10 (d := Hd.mkM 7 0 "InvalidGiven" "__init__" "InvalidGiven.__init__" [.non]) rfl
    exact ⟨_, fd, ["self", "value"], 1, Nat.le_refl _, He.glo_ok X G (c.fact 21 (f := .glo "InvalidGiven") rfl), Ti.oexB_ok (exAt cx 24 rfl), (He.meth_ok (c.fact 22 (f := .meth "InvalidGiven" "__init__") rfl)).at_, beq_iff_eq.mp (He.meth_ok (c.fact 22 (f := .meth "InvalidGiven" "__init__") rfl)).fn, He.noat_ok (c.fact 23 (f := .noat "InvalidGiven" "value") rfl), Ti.ini_by F ib_InvalidGiven si_InvalidGiven (by kernel_rfl) (by kernel_rfl) (by kernel_rfl) (He.glo_ok X G (c.fact 5 (f := .glo "TakenError") rfl)) (exAt cx 38 rfl) (by decide) (by decide) (by decide), rfl, (by
      obtain ⟨ds, hv, hb⟩ := FunD.binds1 (ps := ["self", "value"]) F 2 1 (List.cons_ne_nil _ _) rfl (fun T kV doc pm an cdv ct us its hl hl2 => match us, hl, its, hl2 with | [_, _], _, [_], _ => ⟨_, rfl, rfl⟩)
      cases hv
      exact hb), (by
      obtain ⟨ds, hv, hb⟩ := FunD.binds1 (ps := ["self", "value"]) F 1 0 (List.cons_ne_nil _ _) rfl (fun T kV doc pm an cdv ct us its hl hl2 => match us, hl, its, hl2 with | [_], _, [_], _ => ⟨_, rfl, rfl⟩)
      cases hv with
      | cons a r => (cases r; cases a; exact hb))⟩)) (Nat.le_refl _) (by
    obtain ⟨fd, F⟩ := c.def_ 9 (d := Hd.mkM 6 0 "InvalidIndex" "__init__" "InvalidIndex.__init__" [.non]) rfl
    exact ⟨_, fd, ["self", "value"], 1, Nat.le_refl _, He.glo_ok X G (c.fact 18 (f := .glo "InvalidIndex") rfl), Ti.oexB_ok (exAt cx 22 rfl), (He.meth_ok (c.fact 19 (f := .meth "InvalidIndex" "__init__") rfl)).at_, beq_iff_eq.mp (He.meth_ok (c.fact 19 (f := .meth "InvalidIndex" "__init__") rfl)).fn, He.noat_ok (c.fact 20 (f := .noat "InvalidIndex" "value") rfl), Ti.ini_by F ib_InvalidIndex si_InvalidIndex (by kernel_rfl) (by kernel_rfl) (by kernel_rfl) (He.glo_ok X G (c.fact 5 (f := .glo "TakenError") rfl)) (exAt cx 38 rfl) (by decide) (by decide) (by decide), rfl, (by
      obtain ⟨ds, hv, hb⟩ := FunD.binds1 (ps := ["self", "value"]) F 2 1 (List.cons_ne_nil _ _) rfl (fun T kV doc pm an cdv ct us its hl hl2 => match us, hl, its, hl2 with | [_, _], _, [_], _ => ⟨_, rfl, rfl⟩)
      cases hv
      exact hb), (by
      obtain ⟨ds, hv, hb⟩ := FunD.binds1 (ps := ["self", "value"]) F 1 0 (List.cons_ne_nil _ _) rfl (fun T kV doc pm an cdv ct us its hl hl2 => match us, hl, its, hl2 with | [_], _, [_], _ => ⟨_, rfl, rfl⟩)
      cases hv with
      | cons a r => (cases r; cases a; exact hb))⟩)) (Nat.le_refl _) (by
    obtain ⟨fd, F⟩ := c.def_ 8 (d := Hd.mkM 5 0 "InvalidNumber" "__init__" "InvalidNumber.__init__" [.non]) rfl
    exact ⟨_, fd, ["self", "value"], 1, Nat.le_refl _, He.glo_ok X G (c.fact 15 (f := .glo "InvalidNumber") rfl), Ti.oexB_ok (exAt cx 20 rfl), (He.meth_ok (c.fact 16 (f := .meth "InvalidNumber" "__init__") rfl)).at_, beq_iff_eq.mp (He.meth_ok (c.fact 16 (f := .meth "InvalidNumber" "__init__") rfl)).fn, He.noat_ok (c.fact 17 (f := .noat "InvalidNumber" "value") rfl), Ti.ini_by F ib_InvalidNumber si_InvalidNumber (by kernel_rfl) (by kernel_rfl) (by kernel_rfl) (He.glo_ok X G (c.fact 5 (f := .glo "TakenError") rfl)) (exAt cx 38 rfl) (by decide) (by decide) (by decide), rfl, (by
      obtain ⟨ds, hv, hb⟩ := FunD.binds1 (ps := ["self", "value"]) F 2 1 (List.cons_ne_nil _ _) rfl (fun T kV doc pm an cdv ct us its hl hl2 => match us, hl, its, hl2 with | [_, _], _, [_], _ => ⟨_, rfl, rfl⟩)
      cases hv
      exact hb), (by
      obtain ⟨ds, hv, hb⟩ := FunD.binds1 (ps := ["self", "value"]) F 1 0 (List.cons_ne_nil _ _) rfl (fun T kV doc pm an cdv ct us its hl hl2 => match us, hl, its, hl2 with | [_], _, [_], _ => ⟨_, rfl, rfl⟩)
      cases hv with
      | cons a r => (cases r; cases a; exact hb))⟩)) (Nat.le_refl _) (by
    obtain ⟨fd, F⟩ := c.def_ 7 (d := Hd.mkM 4 0 "InvalidWidth" "__init__" "InvalidWidth.__init__" [.non]) rfl
    exact ⟨_, fd, ["self", "value"], 1, Nat.le_refl _, He.glo_ok X G (c.fact 12 (f := .glo "InvalidWidth") rfl), Ti.oexB_ok (exAt cx 18 rfl), (He.meth_ok (c.fact 13 (f := .meth "InvalidWidth" "__init__") rfl)).at_, beq_iff_eq.mp (He.meth_ok (c.fact 13 (f := .meth "InvalidWidth" "__init__") rfl)).fn, He.noat_ok (c.fact 14 (f := .noat "InvalidWidth" "value") rfl), Ti.ini_by F ib_InvalidWidth si_InvalidWidth (by kernel_rfl) (by kernel_rfl) (by kernel_rfl) (He.glo_ok X G (c.fact 5 (f := .glo "TakenError") rfl)) (exAt cx 38 rfl) (by decide) (by decide) (by decide), rfl, (by
      obtain ⟨ds, hv, hb⟩ := FunD.binds1 (ps := ["self", "value"]) F 2 1 (List.cons_ne_nil _ _) rfl (fun T kV doc pm an cdv ct us its hl hl2 => match us, hl, its, hl2 with | [_, _], _, [_], _ => ⟨_, rfl, rfl⟩)
      cases hv
      exact hb), (by
      obtain ⟨ds, hv, hb⟩ := FunD.binds1 (ps := ["self", "value"]) F 1 0 (List.cons_ne_nil _ _) rfl (fun T kV doc pm an cdv ct us its hl hl2 => match us, hl, its, hl2 with | [_], _, [_], _ => ⟨_, rfl, rfl⟩)
      cases hv with
      | cons a r => (cases r; cases a; exact hb))⟩)) (Nat.le_refl _) (by
    obtain ⟨fd, F⟩ := c.def_ 6 (d := Hd.mkM 3 0 "InvalidNames" "__init__" "InvalidNames.__init__" [.non]) rfl
    exact ⟨_, fd, ["self", "value"], 1, Nat.le_refl _, He.glo_ok X G (c.fact 9 (f := .glo "InvalidNames") rfl), Ti.oexB_ok (exAt cx 16 rfl), (He.meth_ok (c.fact 10 (f := .meth "InvalidNames" "__init__") rfl)).at_, beq_iff_eq.mp (He.meth_ok (c.fact 10 (f := .meth "InvalidNames" "__init__") rfl)).fn, He.noat_ok (c.fact 11 (f := .noat "InvalidNames" "value") rfl), Ti.ini_by F ib_InvalidNames si_InvalidNames (by kernel_rfl) (by kernel_rfl) (by kernel_rfl) (He.glo_ok X G (c.fact 5 (f := .glo "TakenError") rfl)) (exAt cx 38 rfl) (by decide) (by decide) (by decide), rfl, (by
      obtain ⟨ds, hv, hb⟩ := FunD.binds1 (ps := ["self", "value"]) F 2 1 (List.cons_ne_nil _ _) rfl (fun T kV doc pm an cdv ct us its hl hl2 => match us, hl, its, hl2 with | [_, _], _, [_], _ => ⟨_, rfl, rfl⟩)
      cases hv
      exact hb), (by
      obtain ⟨ds, hv, hb⟩ := FunD.binds1 (ps := ["self", "value"]) F 1 0 (List.cons_ne_nil _ _) rfl (fun T kV doc pm an cdv ct us its hl hl2 => match us, hl, its, hl2 with | [_], _, [_], _ => ⟨_, rfl, rfl⟩)
      cases hv with
      | cons a r => (cases r; cases a; exact hb))⟩)) (Nat.le_refl _) (by
    obtain ⟨fd, F⟩ := c.def_ 5 (d := Hd.mkM 2 0 "InvalidName" "__init__" "InvalidName.__init__" [.non]) rfl
    exact ⟨_, fd, ["self", "value"], 1, Nat.le_refl _, He.glo_ok X G (c.fact 6 (f := .glo "InvalidName") rfl), Ti.oexB_ok (exAt cx 14 rfl), (He.meth_ok (c.fact 7 (f := .meth "InvalidName" "__init__") rfl)).at_, beq_iff_eq.mp (He.meth_ok (c.fact 7 (f := .meth "InvalidName" "__init__") rfl)).fn, He.noat_ok (c.fact 8 (f := .noat "InvalidName" "value") rfl), Ti.ini_by F ib_InvalidName si_InvalidName (by kernel_rfl) (by kernel_rfl) (by kernel_rfl) (He.glo_ok X G (c.fact 5 (f := .glo "TakenError") rfl)) (exAt cx 38 rfl) (by decide) (by decide) (by decide), rfl, (by
      obtain ⟨ds, hv, hb⟩ := FunD.binds1 (ps := ["self", "value"]) F 2 1 (List.cons_ne_nil _ _) rfl (fun T kV doc pm an cdv ct us its hl hl2 => match us, hl, its, hl2 with | [_, _], _, [_], _ => ⟨_, rfl, rfl⟩)
      cases hv
      exact hb), (by
      obtain ⟨ds, hv, hb⟩ := FunD.binds1 (ps := ["self", "value"]) F 1 0 (List.cons_ne_nil _ _) rfl (fun T kV doc pm an cdv ct us its hl hl2 => match us, hl, its, hl2 with | [_], _, [_], _ => ⟨_, rfl, rfl⟩)
      cases hv with
      | cons a r => (cases r; cases a; exact hb))⟩)) (Nat.le_refl _) ⟨He.glo_ok X G (c.fact 5 (f := .glo "TakenError") rfl), exAt cx 40 rfl, exAt cx 41 rfl⟩) (Nat.le_refl _) (exAt cx 57 rfl)) (Nat.le_refl _) (by
    obtain ⟨fd, F⟩ := c.def_ 16 (d := Hd.mkM 13 0 "TooMany" "__init__" "TooMany.__init__" [.non]) rfl
    exact ⟨_, fd, ["self", "tries"], 1, Nat.le_refl _, He.glo_ok X G (c.fact 39 (f := .glo "TooMany") rfl), Ti.oexB_ok (exAt cx 36 rfl), (He.meth_ok (c.fact 40 (f := .meth "TooMany" "__init__") rfl)).at_, beq_iff_eq.mp (He.meth_ok (c.fact 40 (f := .meth "TooMany" "__init__") rfl)).fn, He.noat_ok (c.fact 41 (f := .noat "TooMany" "tries") rfl), Ti.ini_by F ib_TooMany si_TooMany (by kernel_rfl) (by kernel_rfl) (by kernel_rfl) (He.glo_ok X G (c.fact 5 (f := .glo "TakenError") rfl)) (exAt cx 38 rfl) (by decide) (by decide) (by decide), (by
      obtain ⟨ds, hv, hb⟩ := FunD.binds1 (ps := ["self", "tries"]) F 2 1 (List.cons_ne_nil _ _) rfl (fun T kV doc pm an cdv ct us its hl hl2 => match us, hl, its, hl2 with | [_, _], _, [_], _ => ⟨_, rfl, rfl⟩)
      cases hv
      exact hb)⟩)) (Nat.le_refl _) (by
    obtain ⟨fd, F⟩ := c.def_ 15 (d := Hd.mkM 12 0 "Refused" "__init__" "Refused.__init__" [.non]) rfl
    exact ⟨_, fd, ["self", "name"], 1, Nat.le_refl _, He.glo_ok X G (c.fact 36 (f := .glo "Refused") rfl), Ti.oexB_ok (exAt cx 34 rfl), (He.meth_ok (c.fact 37 (f := .meth "Refused" "__init__") rfl)).at_, beq_iff_eq.mp (He.meth_ok (c.fact 37 (f := .meth "Refused" "__init__") rfl)).fn, He.noat_ok (c.fact 38 (f := .noat "Refused" "name") rfl), Ti.ini_by F ib_Refused si_Refused (by kernel_rfl) (by kernel_rfl) (by kernel_rfl) (He.glo_ok X G (c.fact 5 (f := .glo "TakenError") rfl)) (exAt cx 38 rfl) (by decide) (by decide) (by decide), (by
      obtain ⟨ds, hv, hb⟩ := FunD.binds1 (ps := ["self", "name"]) F 2 1 (List.cons_ne_nil _ _) rfl (fun T kV doc pm an cdv ct us its hl hl2 => match us, hl, its, hl2 with | [_, _], _, [_], _ => ⟨_, rfl, rfl⟩)
      cases hv
      exact hb)⟩)) (Nat.le_refl _) (by
    obtain ⟨fd, F⟩ := c.def_ 14 (d := Hd.mkM 11 0 "InvalidSystems" "__init__" "InvalidSystems.__init__" [.non]) rfl
    exact ⟨_, fd, ["self", "value"], 1, Nat.le_refl _, He.glo_ok X G (c.fact 33 (f := .glo "InvalidSystems") rfl), Ti.oexB_ok (exAt cx 32 rfl), (He.meth_ok (c.fact 34 (f := .meth "InvalidSystems" "__init__") rfl)).at_, beq_iff_eq.mp (He.meth_ok (c.fact 34 (f := .meth "InvalidSystems" "__init__") rfl)).fn, He.noat_ok (c.fact 35 (f := .noat "InvalidSystems" "value") rfl), Ti.ini_by F ib_InvalidSystems si_InvalidSystems (by kernel_rfl) (by kernel_rfl) (by kernel_rfl) (He.glo_ok X G (c.fact 5 (f := .glo "TakenError") rfl)) (exAt cx 38 rfl) (by decide) (by decide) (by decide), (by
      obtain ⟨ds, hv, hb⟩ := FunD.binds1 (ps := ["self", "value"]) F 2 1 (List.cons_ne_nil _ _) rfl (fun T kV doc pm an cdv ct us its hl hl2 => match us, hl, its, hl2 with | [_, _], _, [_], _ => ⟨_, rfl, rfl⟩)
      cases hv
      exact hb)⟩)) (Nat.le_refl _) (by
    obtain ⟨fd, F⟩ := c.def_ 13 (d := Hd.mkM 10 0 "InvalidSteps" "__init__" "InvalidSteps.__init__" [.non]) rfl
    exact ⟨_, fd, ["self", "value"], 1, Nat.le_refl _, He.glo_ok X G (c.fact 30 (f := .glo "InvalidSteps") rfl), Ti.oexB_ok (exAt cx 30 rfl), (He.meth_ok (c.fact 31 (f := .meth "InvalidSteps" "__init__") rfl)).at_, beq_iff_eq.mp (He.meth_ok (c.fact 31 (f := .meth "InvalidSteps" "__init__") rfl)).fn, He.noat_ok (c.fact 32 (f := .noat "InvalidSteps" "value") rfl), Ti.ini_by F ib_InvalidSteps si_InvalidSteps (by kernel_rfl) (by kernel_rfl) (by kernel_rfl) (He.glo_ok X G (c.fact 5 (f := .glo "TakenError") rfl)) (exAt cx 38 rfl) (by decide) (by decide) (by decide), (by
      obtain ⟨ds, hv, hb⟩ := FunD.binds1 (ps := ["self", "value"]) F 2 1 (List.cons_ne_nil _ _) rfl (fun T kV doc pm an cdv ct us its hl hl2 => match us, hl, its, hl2 with | [_, _], _, [_], _ => ⟨_, rfl, rfl⟩)
      cases hv
      exact hb)⟩)) (Nat.le_refl _) (by
    obtain ⟨fd, F⟩ := c.def_ 12 (d := Hd.mkM 9 0 "InvalidCleaner" "__init__" "InvalidCleaner.__init__" [.non]) rfl
    exact ⟨_, fd, ["self", "value"], 1, Nat.le_refl _, He.glo_ok X G (c.fact 27 (f := .glo "InvalidCleaner") rfl), Ti.oexB_ok (exAt cx 28 rfl), (He.meth_ok (c.fact 28 (f := .meth "InvalidCleaner" "__init__") rfl)).at_, beq_iff_eq.mp (He.meth_ok (c.fact 28 (f := .meth "InvalidCleaner" "__init__") rfl)).fn, He.noat_ok (c.fact 29 (f := .noat "InvalidCleaner" "value") rfl), Ti.ini_by F ib_InvalidCleaner si_InvalidCleaner (by kernel_rfl) (by kernel_rfl) (by kernel_rfl) (He.glo_ok X G (c.fact 5 (f := .glo "TakenError") rfl)) (exAt cx 38 rfl) (by decide) (by decide) (by decide), (by
      obtain ⟨ds, hv, hb⟩ := FunD.binds1 (ps := ["self", "value"]) F 2 1 (List.cons_ne_nil _ _) rfl (fun T kV doc pm an cdv ct us its hl hl2 => match us, hl, its, hl2 with | [_, _], _, [_], _ => ⟨_, rfl, rfl⟩)
      cases hv
      exact hb)⟩)) (Nat.le_refl _) (by
    obtain ⟨fd, F⟩ := c.def_ 11 (d := Hd.mkM 8 0 "InvalidWishes" "__init__" "InvalidWishes.__init__" [.non]) rfl
    exact ⟨_, fd, ["self", "value"], 1, Nat.le_refl _, He.glo_ok X G (c.fact 24 (f := .glo "InvalidWishes") rfl), Ti.oexB_ok (exAt cx 26 rfl), (He.meth_ok (c.fact 25 (f := .meth "InvalidWishes" "__init__") rfl)).at_, beq_iff_eq.mp (He.meth_ok (c.fact 25 (f := .meth "InvalidWishes" "__init__") rfl)).fn, He.noat_ok (c.fact 26 (f := .noat "InvalidWishes" "value") rfl), Ti.ini_by F ib_InvalidWishes si_InvalidWishes (by kernel_rfl) (by kernel_rfl) (by kernel_rfl) (He.glo_ok X G (c.fact 5 (f := .glo "TakenError") rfl)) (exAt cx 38 rfl) (by decide) (by decide) (by decide), (by
      obtain ⟨ds, hv, hb⟩ := FunD.binds1 (ps := ["self", "value"]) F 2 1 (List.cons_ne_nil _ _) rfl (fun T kV doc pm an cdv ct us its hl hl2 => match us, hl, its, hl2 with | [_, _], _, [_], _ => ⟨_, rfl, rfl⟩)
      cases hv
      exact hb)⟩)) (Nat.le_refl _) (by
    obtain ⟨fd, F⟩ := c.def_ 10 (d := Hd.mkM 7 0 "InvalidGiven" "__init__" "InvalidGiven.__init__" [.non]) rfl
    exact ⟨_, fd, ["self", "value"], 1, Nat.le_refl _, He.glo_ok X G (c.fact 21 (f := .glo "InvalidGiven") rfl), Ti.oexB_ok (exAt cx 24 rfl), (He.meth_ok (c.fact 22 (f := .meth "InvalidGiven" "__init__") rfl)).at_, beq_iff_eq.mp (He.meth_ok (c.fact 22 (f := .meth "InvalidGiven" "__init__") rfl)).fn, He.noat_ok (c.fact 23 (f := .noat "InvalidGiven" "value") rfl), Ti.ini_by F ib_InvalidGiven si_InvalidGiven (by kernel_rfl) (by kernel_rfl) (by kernel_rfl) (He.glo_ok X G (c.fact 5 (f := .glo "TakenError") rfl)) (exAt cx 38 rfl) (by decide) (by decide) (by decide), (by
      obtain ⟨ds, hv, hb⟩ := FunD.binds1 (ps := ["self", "value"]) F 2 1 (List.cons_ne_nil _ _) rfl (fun T kV doc pm an cdv ct us its hl hl2 => match us, hl, its, hl2 with | [_, _], _, [_], _ => ⟨_, rfl, rfl⟩)
      cases hv
      exact hb)⟩)) (Nat.le_refl _) (by
    obtain ⟨fd, F⟩ := c.def_ 9 (d := Hd.mkM 6 0 "InvalidIndex" "__init__" "InvalidIndex.__init__" [.non]) rfl
    exact ⟨_, fd, ["self", "value"], 1, Nat.le_refl _, He.glo_ok X G (c.fact 18 (f := .glo "InvalidIndex") rfl), Ti.oexB_ok (exAt cx 22 rfl), (He.meth_ok (c.fact 19 (f := .meth "InvalidIndex" "__init__") rfl)).at_, beq_iff_eq.mp (He.meth_ok (c.fact 19 (f := .meth "InvalidIndex" "__init__") rfl)).fn, He.noat_ok (c.fact 20 (f := .noat "InvalidIndex" "value") rfl), Ti.ini_by F ib_InvalidIndex si_InvalidIndex (by kernel_rfl) (by kernel_rfl) (by kernel_rfl) (He.glo_ok X G (c.fact 5 (f := .glo "TakenError") rfl)) (exAt cx 38 rfl) (by decide) (by decide) (by decide), (by
      obtain ⟨ds, hv, hb⟩ := FunD.binds1 (ps := ["self", "value"]) F 2 1 (List.cons_ne_nil _ _) rfl (fun T kV doc pm an cdv ct us its hl hl2 => match us, hl, its, hl2 with | [_, _], _, [_], _ => ⟨_, rfl, rfl⟩)
      cases hv
      exact hb)⟩)) (Nat.le_refl _) (by
    obtain ⟨fd, F⟩ := c.def_ 8 (d := Hd.mkM 5 0 "InvalidNumber" "__init__" "InvalidNumber.__init__" [.non]) rfl
    exact ⟨_, fd, ["self", "value"], 1, Nat.le_refl _, He.glo_ok X G (c.fact 15 (f := .glo "InvalidNumber") rfl), Ti.oexB_ok (exAt cx 20 rfl), (He.meth_ok (c.fact 16 (f := .meth "InvalidNumber" "__init__") rfl)).at_, beq_iff_eq.mp (He.meth_ok (c.fact 16 (f := .meth "InvalidNumber" "__init__") rfl)).fn, He.noat_ok (c.fact 17 (f := .noat "InvalidNumber" "value") rfl), Ti.ini_by F ib_InvalidNumber si_InvalidNumber (by kernel_rfl) (by kernel_rfl) (by kernel_rfl) (He.glo_ok X G (c.fact 5 (f := .glo "TakenError") rfl)) (exAt cx 38 rfl) (by decide) (by decide) (by decide), (by
      obtain ⟨ds, hv, hb⟩ := FunD.binds1 (ps := ["self", "value"]) F 2 1 (List.cons_ne_nil _ _) rfl (fun T kV doc pm an cdv ct us its hl hl2 => match us, hl, its, hl2 with | [_, _], _, [_], _ => ⟨_, rfl, rfl⟩)
      cases hv
      exact hb)⟩)) (Nat.le_refl _) (by
    obtain ⟨fd, F⟩ := c.def_ 7 (d := Hd.mkM 4 0 "InvalidWidth" "__init__" "InvalidWidth.__init__" [.non]) rfl
    exact ⟨_, fd, ["self", "value"], 1, Nat.le_refl _, He.glo_ok X G (c.fact 12 (f := .glo "InvalidWidth") rfl), Ti.oexB_ok (exAt cx 18 rfl), (He.meth_ok (c.fact 13 (f := .meth "InvalidWidth" "__init__") rfl)).at_, beq_iff_eq.mp (He.meth_ok (c.fact 13 (f := .meth "InvalidWidth" "__init__") rfl)).fn, He.noat_ok (c.fact 14 (f := .noat "InvalidWidth" "value") rfl), Ti.ini_by F ib_InvalidWidth si_InvalidWidth (by kernel_rfl) (by kernel_rfl) (by kernel_rfl) (He.glo_ok X G (c.fact 5 (f := .glo "TakenError") rfl)) (exAt cx 38 rfl) (by decide) (by decide) (by decide), (by
      obtain ⟨ds, hv, hb⟩ := FunD.binds1 (ps := ["self", "value"]) F 2 1 (List.cons_ne_nil _ _) rfl (fun T kV doc pm an cdv ct us its hl hl2 => match us, hl, its, hl2 with | [_, _], _, [_], _ => ⟨_, rfl, rfl⟩)
      cases hv
      exact hb)⟩)) (Nat.le_refl _) (by
    obtain ⟨fd, F⟩ := c.def_ 6 (d := Hd.mkM 3 0 "InvalidNames" "__init__" "InvalidNames.__init__" [.non]) rfl
    exact ⟨_, fd, ["self", "value"], 1, Nat.le_refl _, He.glo_ok X G (c.fact 9 (f := .glo "InvalidNames") rfl), Ti.oexB_ok (exAt cx 16 rfl), (He.meth_ok (c.fact 10 (f := .meth "InvalidNames" "__init__") rfl)).at_, beq_iff_eq.mp (He.meth_ok (c.fact 10 (f := .meth "InvalidNames" "__init__") rfl)).fn, He.noat_ok (c.fact 11 (f := .noat "InvalidNames" "value") rfl), Ti.ini_by F ib_InvalidNames si_InvalidNames (by kernel_rfl) (by kernel_rfl) (by kernel_rfl) (He.glo_ok X G (c.fact 5 (f := .glo "TakenError") rfl)) (exAt cx 38 rfl) (by decide) (by decide) (by decide), (by
      obtain ⟨ds, hv, hb⟩ := FunD.binds1 (ps := ["self", "value"]) F 2 1 (List.cons_ne_nil _ _) rfl (fun T kV doc pm an cdv ct us its hl hl2 => match us, hl, its, hl2 with | [_, _], _, [_], _ => ⟨_, rfl, rfl⟩)
      cases hv
      exact hb)⟩)) (Nat.le_refl _) (by
    obtain ⟨fd, F⟩ := c.def_ 5 (d := Hd.mkM 2 0 "InvalidName" "__init__" "InvalidName.__init__" [.non]) rfl
    exact ⟨_, fd, ["self", "value"], 1, Nat.le_refl _, He.glo_ok X G (c.fact 6 (f := .glo "InvalidName") rfl), Ti.oexB_ok (exAt cx 14 rfl), (He.meth_ok (c.fact 7 (f := .meth "InvalidName" "__init__") rfl)).at_, beq_iff_eq.mp (He.meth_ok (c.fact 7 (f := .meth "InvalidName" "__init__") rfl)).fn, He.noat_ok (c.fact 8 (f := .noat "InvalidName" "value") rfl), Ti.ini_by F ib_InvalidName si_InvalidName (by kernel_rfl) (by kernel_rfl) (by kernel_rfl) (He.glo_ok X G (c.fact 5 (f := .glo "TakenError") rfl)) (exAt cx 38 rfl) (by decide) (by decide) (by decide), (by
      obtain ⟨ds, hv, hb⟩ := FunD.binds1 (ps := ["self", "value"]) F 2 1 (List.cons_ne_nil _ _) rfl (fun T kV doc pm an cdv ct us its hl hl2 => match us, hl, its, hl2 with | [_, _], _, [_], _ => ⟨_, rfl, rfl⟩)
      cases hv
      exact hb)⟩)) (Nat.le_refl _) (fun q hq => (by
    simp only [List.mem_cons, List.not_mem_nil, or_false] at hq
    rcases hq with rfl
    · exact ⟨L2.errB_ok (exAt cx 37 rfl), He.noat_ok (c.fact 41 (f := .noat "TooMany" "tries") rfl)⟩))) (Nat.le_refl _) (fun q hq => (by
    simp only [List.mem_cons, List.not_mem_nil, or_false] at hq
    rcases hq with rfl
    · exact ⟨L2.errB_ok (exAt cx 35 rfl), He.noat_ok (c.fact 38 (f := .noat "Refused" "name") rfl)⟩))) (Nat.le_refl _) (fun q hq => (by
    simp only [List.mem_cons, List.not_mem_nil, or_false] at hq
    rcases hq with rfl | rfl | rfl | rfl | rfl | rfl | rfl | rfl | rfl | rfl
    · exact ⟨L2.errB_ok (exAt cx 15 rfl), He.noat_ok (c.fact 8 (f := .noat "InvalidName" "value") rfl)⟩
    · exact ⟨L2.errB_ok (exAt cx 17 rfl), He.noat_ok (c.fact 11 (f := .noat "InvalidNames" "value") rfl)⟩
    · exact ⟨L2.errB_ok (exAt cx 19 rfl), He.noat_ok (c.fact 14 (f := .noat "InvalidWidth" "value") rfl)⟩
    · exact ⟨L2.errB_ok (exAt cx 21 rfl), He.noat_ok (c.fact 17 (f := .noat "InvalidNumber" "value") rfl)⟩
    · exact ⟨L2.errB_ok (exAt cx 23 rfl), He.noat_ok (c.fact 20 (f := .noat "InvalidIndex" "value") rfl)⟩
    · exact ⟨L2.errB_ok (exAt cx 25 rfl), He.noat_ok (c.fact 23 (f := .noat "InvalidGiven" "value") rfl)⟩
    · exact ⟨L2.errB_ok (exAt cx 27 rfl), He.noat_ok (c.fact 26 (f := .noat "InvalidWishes" "value") rfl)⟩
    · exact ⟨L2.errB_ok (exAt cx 29 rfl), He.noat_ok (c.fact 29 (f := .noat "InvalidCleaner" "value") rfl)⟩
    · exact ⟨L2.errB_ok (exAt cx 31 rfl), He.noat_ok (c.fact 32 (f := .noat "InvalidSteps" "value") rfl)⟩
    · exact ⟨L2.errB_ok (exAt cx 33 rfl), He.noat_ok (c.fact 35 (f := .noat "InvalidSystems" "value") rfl)⟩))) (Nat.le_refl _) ⟨He.glo_ok X G (c.fact 42 (f := .glo "NothingToUndo") rfl), Ti.iseB_ok (cm := cm K) (exAt cx 13 rfl) (fun o hm => nomatch hm)⟩) (Nat.le_refl _) ⟨He.glo_ok X G (c.fact 39 (f := .glo "TooMany") rfl), Ti.iseB_ok (cm := cm K) (exAt cx 12 rfl) (fun o hm => nomatch hm)⟩) (Nat.le_refl _) ⟨He.glo_ok X G (c.fact 36 (f := .glo "Refused") rfl), Ti.iseB_ok (cm := cm K) (exAt cx 11 rfl) (fun o hm => nomatch hm)⟩) (Nat.le_refl _) ⟨He.glo_ok X G (c.fact 33 (f := .glo "InvalidSystems") rfl), Ti.iseB_ok (cm := cm K) (exAt cx 10 rfl) (fun o hm => nomatch hm)⟩) (Nat.le_refl _) ⟨He.glo_ok X G (c.fact 30 (f := .glo "InvalidSteps") rfl), Ti.iseB_ok (cm := cm K) (exAt cx 9 rfl) (fun o hm => nomatch hm)⟩) (Nat.le_refl _) ⟨He.glo_ok X G (c.fact 27 (f := .glo "InvalidCleaner") rfl), Ti.iseB_ok (cm := cm K) (exAt cx 8 rfl) (fun o hm => nomatch hm)⟩) (Nat.le_refl _) ⟨He.glo_ok X G (c.fact 24 (f := .glo "InvalidWishes") rfl), Ti.iseB_ok (cm := cm K) (exAt cx 7 rfl) (fun o hm => nomatch hm)⟩) (Nat.le_refl _) ⟨He.glo_ok X G (c.fact 21 (f := .glo "InvalidGiven") rfl), Ti.iseB_ok (cm := cm K) (exAt cx 6 rfl) (fun o hm => nomatch hm)⟩) (Nat.le_refl _) ⟨He.glo_ok X G (c.fact 18 (f := .glo "InvalidIndex") rfl), Ti.iseB_ok (cm := cm K) (exAt cx 5 rfl) (fun o hm => nomatch hm)⟩) (Nat.le_refl _) ⟨He.glo_ok X G (c.fact 15 (f := .glo "InvalidNumber") rfl), Ti.iseB_ok (cm := cm K) (exAt cx 4 rfl) (fun o hm => nomatch hm)⟩) (Nat.le_refl _) ⟨He.glo_ok X G (c.fact 12 (f := .glo "InvalidWidth") rfl), Ti.iseB_ok (cm := cm K) (exAt cx 3 rfl) (fun o hm => nomatch hm)⟩) (Nat.le_refl _) ⟨He.glo_ok X G (c.fact 9 (f := .glo "InvalidNames") rfl), Ti.iseB_ok (cm := cm K) (exAt cx 2 rfl) (fun o hm => nomatch hm)⟩) (Nat.le_refl _) ⟨He.glo_ok X G (c.fact 6 (f := .glo "InvalidName") rfl), Ti.iseB_ok (cm := cm K) (exAt cx 1 rfl) (fun o hm => nomatch hm)⟩) (Nat.le_refl _) ⟨He.glo_ok X G (c.fact 5 (f := .glo "TakenError") rfl), Ti.iseB_ok (cm := cm K) (exAt cx 0 rfl) (fun o hm => nomatch hm)⟩
theorem e__law_thing (X : K.In h) (G : h.Ns mainGlobals mg) (c : He.SaysD Hd.fa Hd.fn K) (cx : Hd.ex K = true) {base : Heap} (hB : ∀ x ∈ B, mg x = none) (t : Tb P w K mg base (cm K) 2 T0) : Tb P w K mg base (cm K) 3 T1 := by
  obtain ⟨fd, F⟩ := c.def_ 3 (d := Hd.mkD 19 "_law_thing" []) rfl
  have gl := He.glo_ok X G (c.fact 3 (f := .glo "_law_thing") rfl)
  have fo := def_ok (N := ["_law_cell", "_law_at", "_law_many", "_law_values"]) (m := Bd.b__law_thing) (md := .raw) F s__law_thing t hB c__law_thing
  have t := t.cons (Nat.le_succ _) (x := "_law_thing") (show EntG P w K mg base (cm K) _ _ (.fn Bd.f__law_thing ["_law_cell", "_law_at"] 0 true) from ⟨_, fd, gl, F.kp, fo, (by
    exact F.bindsN fun _ _ _ _ _ _ us hl => match us, hl with | [_, _], _ => rfl), (by
    exact fun h => nomatch h)⟩)
  exact t
theorem e__law_classes (X : K.In h) (G : h.Ns mainGlobals mg) (c : He.SaysD Hd.fa Hd.fn K) (cx : Hd.ex K = true) {base : Heap} (hB : ∀ x ∈ B, mg x = none) (t : Tb P w K mg base (cm K) 3 T1) : Tb P w K mg base (cm K) 4 T2 := by
  obtain ⟨fd, F⟩ := c.def_ 0 (d := Hd.mkD 16 "_law_classes" []) rfl
  have gl := He.glo_ok X G (c.fact 0 (f := .glo "_law_classes") rfl)
  have fo := def_ok (N := ["_law_error", "_law_found"]) (m := Bd.b__law_classes) (md := .deep) F s__law_classes t hB c__law_classes
  have t := t.cons (Nat.le_succ _) (x := "_law_classes") (show EntG P w K mg base (cm K) _ _ (.fn Bd.f__law_classes ["_law_error"] 0 false) from ⟨_, fd, gl, F.kp, fo, (by
    exact F.bindsN fun _ _ _ _ _ _ us hl => match us, hl with | [_], _ => rfl), (by
    exact fun h => nomatch h)⟩)
  exact t
theorem e__law_placed (X : K.In h) (G : h.Ns mainGlobals mg) (c : He.SaysD Hd.fa Hd.fn K) (cx : Hd.ex K = true) {base : Heap} (hB : ∀ x ∈ B, mg x = none) (t : Tb P w K mg base (cm K) 4 T2) : Tb P w K mg base (cm K) 5 T3 := by
  obtain ⟨fd, F⟩ := c.def_ 2 (d := Hd.mkD 18 "_law_placed" []) rfl
  have gl := He.glo_ok X G (c.fact 2 (f := .glo "_law_placed") rfl)
  have fo := def_ok (N := ["_law_errors", "_law_at", "_law_error", "_law_place"]) (m := Bd.b__law_placed) (md := .deep) F s__law_placed t hB c__law_placed
  have t := t.cons (Nat.le_succ _) (x := "_law_placed") (show EntG P w K mg base (cm K) _ _ (.fn Bd.f__law_placed ["_law_errors"] 0 false) from ⟨_, fd, gl, F.kp, fo, (by
    exact F.bindsN fun _ _ _ _ _ _ us hl => match us, hl with | [_], _ => rfl), (by
    exact fun h => nomatch h)⟩)
  exact t
theorem e__law_fields (X : K.In h) (G : h.Ns mainGlobals mg) (c : He.SaysD Hd.fa Hd.fn K) (cx : Hd.ex K = true) {base : Heap} (hB : ∀ x ∈ B, mg x = none) (t : Tb P w K mg base (cm K) 5 T3) : Tb P w K mg base (cm K) 6 T4 := by
  obtain ⟨fd, F⟩ := c.def_ 1 (d := Hd.mkD 17 "_law_fields" []) rfl
  have gl := He.glo_ok X G (c.fact 1 (f := .glo "_law_fields") rfl)
  have fo := def_ok (N := ["_law_errors", "_law_error"]) (m := Bd.b__law_fields) (md := .raw) F s__law_fields t hB c__law_fields
  have t := t.cons (Nat.le_succ _) (x := "_law_fields") (show EntG P w K mg base (cm K) _ _ (.fn Bd.f__law_fields ["_law_errors"] 0 false) from ⟨_, fd, gl, F.kp, fo, (by
    exact F.bindsN fun _ _ _ _ _ _ us hl => match us, hl with | [_], _ => rfl), (by
    exact fun h => nomatch h)⟩)
  exact t
theorem law_facts (X : K.In h) (G : h.Ns mainGlobals mg) {fA : Addr} (hfa : mg ("law" : Str) = some (.ref fA)) (c : He.SaysD Hd.fa Hd.fn K) (cx : Hd.ex K = true) :
    ∃ fd : FuncData, (∀ (s : Shared) (v : Value), BindsTo s fd ⟨[v], []⟩ [("_law_script", v)]) ∧ ∀ base : Heap, K.In base → base.Ns mainGlobals mg → FnG P w K mg base CX0 7 fA fd ["_law_script"] (spRun K (cm K) 1 f_law) := by
  obtain ⟨fd, F⟩ := c.def_ 4 (d := Hd.mkD 20 "law" []) rfl
  have e := hfa.symm.trans (He.glo_ok X G (c.fact 4 (f := .glo "law") rfl))
  cases e
  have b := FunD.bindsA (ps := ["_law_script"]) F fun _ _ _ _ _ _ us hl => match us, hl with | [_], _ => rfl
  refine ⟨fd, fun s v => b s [v] rfl, fun base _ _ => ?_⟩
  obtain ⟨hB, t0⟩ := facts (P := P) (w := w) X G c cx base
  have t := e__law_fields X G c cx hB (e__law_placed X G c cx hB (e__law_classes X G c cx hB (e__law_thing X G c cx hB (t0))))
  have r := def_ok (N := ["_law_script", "_law_base", "_law_at", "_law_thing_here", "_law_errors", "_law_by_name", "_law_bare", "_law_some", "_law_field"]) (m := b_law) (md := .deep) F s_law t hB c_law
  exact r
end
end Bd
open PySem PySem.W PySem.Calls PyProof.Rows
theorem the_end (hl : ∀ ns : List Int, ns.length ≤ 63 → Bd.f_law [.scr ns] [] = .ok (.bl true, [])) : PySem.Challenge.rw_takennames_k01_errors_made.Holds := by
  w_on; o_law
  refine HandSHeadRun.head_any (r := OpenLaw.row PySem.Challenge.rw_takennames_k01_errors_made) (q := view (OpenLaw.row PySem.Challenge.rw_takennames_k01_errors_made).prog [20]) (H := Hd.hk) (ob := Hd.ob) (M := 9000) (loose := Hd.loose) (d := HandSHeadRun.topDef (OpenLaw.row PySem.Challenge.rw_takennames_k01_errors_made).prog 20) (kwd := []) Hd.ob_eq
    (by kernel_rfl) (fun s => by kernel_rfl) Hd.run (by kernel_rfl) (by kernel_rfl) (by kernel_rfl) (by rfl) (by first | assumption | decide +kernel) (by decide +kernel) ⟨rfl, rfl, rfl, rfl, rfl, by decide +kernel⟩ ?hw ?hc
  case hw => w_witness2
  case hc =>
    refine Ti.walk_G (l := PySem.Challenge.rw_takennames_k01_errors_made) (n := 63) (k := 7) (x := "_law_script") (CX := L2.CX0) rfl (by decide) (by kernel_rfl) ⟨rfl, by decide, by decide⟩ ?F (fun _ _ _ _ z => z)
    intro w mg fa h Y G hmg0
    obtain ⟨K, KX, c⟩ := Y
    have hmg : mg ("law" : PySem.Str) = some (.ref fa) := by
      have e : (HandSHeadRun.topDef (OpenLaw.row PySem.Challenge.rw_takennames_k01_errors_made).prog 20).name = ("law" : PySem.Str) := by kernel_rfl
      rw [← e]
      exact hmg0
    obtain ⟨fd, hb, hF⟩ := Bd.law_facts (P := (PySem.Challenge.rw_takennames_k01_errors_made).prog) (w := w) KX G hmg c.t.d c.more
    exact ⟨K, fd, _, KX, hb, fun H a ns hl' _ hS => Ti.sp_start hl H a ns hl' hS (fun p h => nomatch (show p ∈ ([] : List (PySem.Addr × PySem.Str)) from h)), hF⟩


theorem PySem.Challenge.cw_takennames_k01_errors_made_holds : PySem.Challenge.rw_takennames_k01_errors_made.Holds :=
  the_end (fun ns _ => Bd.law_ok ns)

