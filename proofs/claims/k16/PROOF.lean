import PyProof.Rows.All
import Wide.All
import OpenK.AllK
import Wide.FinOn
import HandS.ForMost
import HandS.Defaults
import HandS.Flow
import HandS.Wide
import HandS.WideBits
import HandS.Walk
import HandS.IsInst
import HandS.StrMore
import HandS.Style
import HandS.TupAny
import HandS.Deep
import PyProof.SliceStr2
import KE.IntTextLaws
import HandS.HeadEnd
import HandS.Small
import KE.KRevSl
import PyProof.Rows.SortStr
import HandS.More
import HandS.SortInts
import HandS.Dict
import PyProof.ReprRoads
import PyProof.SumWalkG
import PyProof.Rows.SumAny
import HandS.Sort
import KE.KStateDown
import Lean
import HandS.Exc
import HandS.Head0
import HandS.Head1
import HandS.Head2
import HandS.HeadHook1
import HandS.HeadHook2
import HandS.HeadHook4
import PySem.Challenge.RW_takennames_k16_folders_by_name
set_option Elab.async false
set_option linter.all false
set_option maxRecDepth 1000000
set_option maxHeartbeats 0
set_option exponentiation.threshold 3000
/-! Ti: a small evaluator over plain values. Values W, cells (what may change), results, combinators, primitive operations. -/
namespace Ti
open PySem

/-- keys of dicts -/
inductive HK where
  | non | int (i : Int) | str (x : Str) | tup (ks : List HK)

/-- values: data as trees (never changed), references to cells -/
inductive W where
  | non | bl (b : Bool) | int (i : Int) | str (x : Str)
  | tup (ws : List W) | lst (ws : List W) | dic (kd : Bool) (kvs : List (HK × W))
  | obj (c : Nat) (fs : List (Str × W))
  | ref (i : Nat)
  | scr (ns : List Int)

inductive Cell where
  | lst (ws : List W) | dic (kd : Bool) (kvs : List (HK × W)) | obj (c : Nat) (fs : List (Str × W)) | frz (w : W)

abbrev Hh := List Cell
abbrev Env := List (Option W)

inductive Res (α : Type) where
  | ok (a : α) | exc (e : W) (h : Hh) | bad

/-- sequencing -/
def Res.bind {α β : Type} (r : Res α) (f : α → Res β) : Res β := match r with
  | .ok a => f a
  | .exc e h => .exc e h
  | .bad => .bad
@[simp] theorem Res.bind_ok {α β : Type} (a : α) (f : α → Res β) : (Res.ok a).bind f = f a := rfl
@[simp] theorem Res.bind_exc {α β : Type} (e : W) (h : Hh) (f : α → Res β) : (Res.exc e h : Res α).bind f = .exc e h := rfl
@[simp] theorem Res.bind_bad {α β : Type} (f : α → Res β) : (Res.bad : Res α).bind f = .bad := rfl
theorem Res.bind_eq_ok {α β : Type} {r : Res α} {f : α → Res β} {b : β} (h : r.bind f = .ok b) : ∃ a, r = .ok a ∧ f a = .ok b := by
  cases r with
  | ok a => exact ⟨a, rfl, h⟩
  | exc e h' => cases h
  | bad => cases h
def ofO {α : Type} : Option α → Res α
  | some a => .ok a
  | none => .bad
@[simp] theorem ofO_some {α : Type} (a : α) : ofO (some a) = .ok a := rfl
@[simp] theorem ofO_none {α : Type} : (ofO none : Res α) = .bad := rfl
theorem ofO_eq_ok {α : Type} {o : Option α} {a : α} (h : ofO o = .ok a) : o = some a := by
  cases o with
  | none => cases h
  | some b => cases h; rfl

abbrev R1 := Res (W × Hh)
/-- an expression; a def by its values; targets; statements -/
abbrev DE := Env → Hh → R1
abbrev Fn := List W → Hh → R1
abbrev F1 := W → Hh → R1
abbrev F2 := W → W → Hh → R1
abbrev F3 := W → W → W → Hh → R1
abbrev DT := W → Env → Hh → Res (Env × Hh)
inductive Fl where
  | nx | rt (w : W) | bk | ct
abbrev DS := Env → Hh → Res (Fl × Env × Hh)

def lineW : Nat := 2 ^ 24

/-! ### no reference in it; a fresh cell's content in the place of its reference -/
mutual
def nor : W → Bool
  | .non | .bl _ | .int _ | .str _ | .scr _ => true
  | .tup ws | .lst ws => nors ws
  | .dic _ kvs => norK kvs
  | .obj _ fs => norF fs
  | .ref _ => false
def nors : List W → Bool
  | [] => true
  | w :: ws => nor w && nors ws
def norK : List (HK × W) → Bool
  | [] => true
  | (_, w) :: ws => nor w && norK ws
def norF : List (Str × W) → Bool
  | [] => true
  | (_, w) :: ws => nor w && norF ws
end
def Cell.tree : Cell → W
  | .lst ws => .lst ws
  | .dic kd kvs => .dic kd kvs
  | .obj c fs => .obj c fs
  | .frz w => w
mutual
def thaw (n : Nat) (h : Hh) : W → Option W
  | .non => some .non
  | .bl b => some (.bl b)
  | .int i => some (.int i)
  | .str x => some (.str x)
  | .scr ns => some (.scr ns)
  | .tup ws => (thaws n h ws).map .tup
  | .lst ws => (thaws n h ws).map .lst
  | .dic kd kvs => if norK kvs then some (.dic kd kvs) else none
  | .obj c fs => if norF fs then some (.obj c fs) else none
  | .ref i => if i < n then some (.ref i) else (h[i]?).map Cell.tree
def thaws (n : Nat) (h : Hh) : List W → Option (List W)
  | [] => some []
  | w :: ws => match thaw n h w, thaws n h ws with
    | some a, some b => some (a :: b)
    | _, _ => none
end
mutual
theorem thaw_nor {n : Nat} {h : Hh} : ∀ {w : W}, nor w = true → thaw n h w = some w
  | .non, _ => rfl
  | .bl _, _ => rfl
  | .int _, _ => rfl
  | .str _, _ => rfl
  | .scr _, _ => rfl
  | .tup ws, e => by
    have e : nors ws = true := e
    unfold thaw
    rw [thaws_nor e] <;> rfl
  | .lst ws, e => by
    have e : nors ws = true := e
    unfold thaw
    rw [thaws_nor e] <;> rfl
  | .dic kd kvs, e => by
    have e : norK kvs = true := e
    unfold thaw
    rw [if_pos e]
  | .obj c fs, e => by
    have e : norF fs = true := e
    unfold thaw
    rw [if_pos e]
  | .ref _, e => by cases e
theorem thaws_nor {n : Nat} {h : Hh} : ∀ {ws : List W}, nors ws = true → thaws n h ws = some ws
  | [], _ => rfl
  | w :: ws, e => by
    have e : (nor w && nors ws) = true := e
    rw [Bool.and_eq_true] at e
    unfold thaws
    rw [thaw_nor e.1, thaws_nor e.2]
end
/-- how a def hands back: all fresh cells frozen (deep), or a fresh cell alone kept (top), or all as it is (raw) -/
inductive Mode where
  | deep | top | raw
def fin (m : Mode) (n : Nat) (w : W) (h : Hh) : R1 := match m with
  | .deep => (ofO (thaw n h w)).bind fun t => .ok (t, h.take n)
  | .top => match w with
    | .ref i => if i < n then .bad else (ofO h[i]?).bind fun c => .ok (.ref n, h.take n ++ [c])
    | _ => .bad
  | .raw => .ok (w, h)

/-! ### reading through a reference -/
def asL (h : Hh) : W → Option (List W)
  | .lst ws => some ws
  | .ref i => match h[i]? with
    | some (.lst ws) => some ws
    | some (.frz (.lst ws)) => some ws
    | _ => none
  | _ => none
def asD (h : Hh) : W → Option (Bool × List (HK × W))
  | .dic kd kvs => some (kd, kvs)
  | .ref i => match h[i]? with
    | some (.dic kd kvs) => some (kd, kvs)
    | some (.frz (.dic kd kvs)) => some (kd, kvs)
    | _ => none
  | _ => none
/-- the value a reference stands for, where it is a list or a dict -/
def look (h : Hh) : W → W
  | .ref i => match h[i]? with
    | some c => c.tree
    | none => .ref i
  | w => w

/-! ### keys -/
mutual
def keyOf : W → Option HK
  | .non => some .non
  | .int i => some (.int i)
  | .str x => some (.str x)
  | .tup ws => (keysOf ws).map .tup
  | _ => none
def keysOf : List W → Option (List HK)
  | [] => some []
  | w :: ws => match keyOf w, keysOf ws with
    | some a, some b => some (a :: b)
    | _, _ => none
end
mutual
def HK.w : HK → W
  | .non => .non
  | .int i => .int i
  | .str x => .str x
  | .tup ks => .tup (HK.ws ks)
def HK.ws : List HK → List W
  | [] => []
  | k :: ks => HK.w k :: HK.ws ks
end
mutual
def HK.beq : HK → HK → Bool
  | .non, .non => true
  | .int i, .int j => i == j
  | .str x, .str y => decide (x = y)
  | .tup a, .tup b => HK.beqs a b
  | _, _ => false
def HK.beqs : List HK → List HK → Bool
  | [], [] => true
  | a :: as, b :: bs => HK.beq a b && HK.beqs as bs
  | _, _ => false
end
mutual
theorem HK.beq_eq : ∀ {a b : HK}, HK.beq a b = true → a = b
  | .non, b, e => by cases b <;> first | rfl | cases e
  | .int i, b, e => by
    cases b <;> first | cases e | skip
    have e : (i == _) = true := e
    rw [eq_of_beq e]
  | .str x, b, e => by
    cases b <;> first | cases e | skip
    rw [of_decide_eq_true (show decide (x = _) = true from e)]
  | .tup as, b, e => by
    cases b <;> first | cases e | skip
    rw [HK.beqs_eq (show HK.beqs as _ = true from e)]
theorem HK.beqs_eq : ∀ {a b : List HK}, HK.beqs a b = true → a = b
  | [], b, e => by cases b <;> first | rfl | cases e
  | a :: as, b, e => by
    cases b <;> first | cases e | skip
    have e : (HK.beq a _ && HK.beqs as _) = true := e
    rw [Bool.and_eq_true] at e
    rw [HK.beq_eq e.1, HK.beqs_eq e.2]
end
mutual
theorem HK.beq_self : ∀ a : HK, HK.beq a a = true
  | .non => rfl
  | .int i => beq_self_eq_true i
  | .str x => decide_eq_true rfl
  | .tup ks => HK.beqs_self ks
theorem HK.beqs_self : ∀ a : List HK, HK.beqs a a = true
  | [] => rfl
  | a :: as => by
    show (HK.beq a a && HK.beqs as as) = true
    rw [HK.beq_self a, HK.beqs_self as]
    rfl
end
instance : DecidableEq HK := fun a b => if e : HK.beq a b = true then .isTrue (HK.beq_eq e) else .isFalse fun q => e (by rw [q]; exact HK.beq_self b)
/-- a plain key: an int or a text; a tuple of such -/
def HK.flat : HK → Bool
  | .int _ | .str _ => true
  | _ => false
def HK.fits (kd : Bool) : HK → Bool
  | .int _ | .str _ => !kd
  | .tup ks => kd && ks.all HK.flat
  | .non => false
/-- a dict's lookup, store, removal -/
def dget {β : Type} (kvs : List (HK × β)) (k : HK) : Option β := (kvs.find? fun kv => decide (kv.1 = k)).map (·.2)
def dput {β : Type} (kvs : List (HK × β)) (k : HK) (v : β) : List (HK × β) :=
  if (kvs.any fun kv => decide (kv.1 = k)) = true then kvs.map fun kv => if kv.1 = k then (kv.1, v) else kv else kvs ++ [(k, v)]
def ddrop {β : Type} (kvs : List (HK × β)) (k : HK) : List (HK × β) := kvs.filter fun kv => decide (kv.1 ≠ k)

/-! ### == of data -/
mutual
def beq : W → W → Bool
  | .non, .non => true
  | .bl a, .bl b => a == b
  | .bl a, .int j => (if a then 1 else 0) == j
  | .int i, .bl b => i == (if b then 1 else 0)
  | .int i, .int j => i == j
  | .str x, .str y => decide (x = y)
  | .tup xs, .tup ys => beqs xs ys
  | .lst xs, .lst ys => beqs xs ys
  | _, _ => false
def beqs : List W → List W → Bool
  | [], [] => true
  | x :: xs, y :: ys => beq x y && beqs xs ys
  | _, _ => false
end
/-- data: None, bools, ints, texts, lists and tuples of such, at most so deep -/
def strFine (x : Str) : Bool := x.cps.all (fun c => decide (c < 128)) && decide (x.length ≤ 1000000)
mutual
def isDat (d : Nat) : W → Bool
  | .non | .bl _ | .int _ => true
  | .str x => strFine x
  | .tup ws | .lst ws => match d with
    | 0 => false
    | d + 1 => areDat d ws
  | _ => false
def areDat (d : Nat) : List W → Bool
  | [] => true
  | w :: ws => isDat d w && areDat d ws
end
def truthy (h : Hh) (w : W) : Option Bool := match w with
  | .non => some false
  | .bl b => some b
  | .int i => some (i != 0)
  | .str x => if x.length ≤ lineW then some (x.length != 0) else none
  | .tup ws => some (!ws.isEmpty)
  | w => (asL h w).map fun ws => !ws.isEmpty

/-! ### expressions -/
def eV (i : Nat) : DE := fun ρ h => match ρ[i]? with
  | some (some w) => .ok (w, h)
  | _ => .bad
def eK (w : W) : DE := fun _ h => .ok (w, h)
def e1 (f : F1) (a : DE) : DE := fun ρ h => (a ρ h).bind fun p => f p.1 p.2
def e2 (f : F2) (a b : DE) : DE := fun ρ h => (a ρ h).bind fun p => (b ρ p.2).bind fun q => f p.1 q.1 q.2
def e3 (f : F3) (a b c : DE) : DE := fun ρ h => (a ρ h).bind fun p => (b ρ p.2).bind fun q => (c ρ q.2).bind fun r => f p.1 q.1 r.1 r.2
def eL : List DE → Env → Hh → Res (List W × Hh)
  | [], _, h => .ok ([], h)
  | e :: es, ρ, h => (e ρ h).bind fun p => (eL es ρ p.2).bind fun q => .ok (p.1 :: q.1, q.2)
def eF (f : Fn) (es : List DE) : DE := fun ρ h => (eL es ρ h).bind fun p => f p.1 p.2
def eAnd (a b : DE) : DE := fun ρ h => (a ρ h).bind fun p => (ofO (truthy p.2 p.1)).bind fun k => if k = true then b ρ p.2 else .ok p
def eOr (a b : DE) : DE := fun ρ h => (a ρ h).bind fun p => (ofO (truthy p.2 p.1)).bind fun k => if k = true then .ok p else b ρ p.2
def eNot (a : DE) : DE := fun ρ h => (a ρ h).bind fun p => (ofO (truthy p.2 p.1)).bind fun k => .ok (.bl (!k), p.2)
def eIf (c a b : DE) : DE := fun ρ h => (c ρ h).bind fun p => (ofO (truthy p.2 p.1)).bind fun k => if k = true then a ρ p.2 else b ρ p.2
/-- a op b op' c -/
def eChain (f g : F2) (a b c : DE) : DE := fun ρ h => (a ρ h).bind fun p => (b ρ p.2).bind fun q => (f p.1 q.1 q.2).bind fun r =>
  match r.1 with
  | .bl k => if k = true then (c ρ r.2).bind fun s => g q.1 s.1 s.2 else .ok (.bl false, r.2)
  | _ => .bad
/-- all fresh cells frozen -/
def eTree (a : DE) : DE := fun ρ h => (a ρ h).bind fun p => fin .deep h.length p.1 p.2
/-- a new list: as a tree, or as a cell -/
def mkL (c : Bool) (ws : List W) (h : Hh) : R1 := if ws.length ≤ lineW then (if c then (if nors ws then .ok (.ref h.length, h ++ [.lst ws]) else .bad) else .ok (.lst ws, h)) else .bad
def mkD (c : Bool) (kd : Bool) (kvs : List (HK × W)) (h : Hh) : R1 := if kvs.length ≤ lineW then (if norK kvs then (if c then .ok (.ref h.length, h ++ [.dic kd kvs]) else .ok (.dic kd kvs, h)) else .bad) else .bad
def eLst (c : Bool) (es : List DE) : DE := fun ρ h => (eL es ρ h).bind fun p => mkL c p.1 p.2
def eTup (es : List DE) : DE := fun ρ h => (eL es ρ h).bind fun p => if p.1.length ≤ lineW then .ok (.tup p.1, p.2) else .bad
def eDic (c : Bool) (kd : Bool) : DE := fun _ h => mkD c kd [] h

/-! ### targets -/
def tN (i : Nat) : DT := fun w ρ h => .ok (ρ.set i (some w), h)
def tL : List DT → List W → Env → Hh → Res (Env × Hh)
  | [], [], ρ, h => .ok (ρ, h)
  | t :: ts, w :: ws, ρ, h => (t w ρ h).bind fun p => tL ts ws p.1 p.2
  | _, _, _, _ => .bad
def tT (ts : List DT) : DT := fun w ρ h => match w with
  | .tup ws => tL ts ws ρ h
  | _ => .bad

/-! ### walks: what a for or a comprehension walks; keep: it still stands so -/
structure Src where
  items : List W
  keep : Hh → Bool
abbrev FI := List W → Hh → Option Src
def wipeW (ρ : Env) : List Nat → Env
  | [] => ρ
  | v :: vs => (wipeW ρ vs).set v none
def compG (keep : Hh → Bool) (own : List Nat) (tg : DT) (cd : Option DE) (elt : DE) (ρ : Env) : List W → List W → Hh → Res (List W × Hh)
  | [], acc, h => if keep h then .ok (acc, h) else .bad
  | x :: xs, acc, h => if keep h then (tg x (wipeW ρ own) h).bind fun p =>
      (match cd with
        | none => (elt p.1 p.2).bind fun q => if acc.length < lineW then compG keep own tg cd elt ρ xs (acc ++ [q.1]) q.2 else .bad
        | some c => (c p.1 p.2).bind fun q => (ofO (truthy q.2 q.1)).bind fun k => if k = true then
            (elt p.1 q.2).bind fun r => if acc.length < lineW then compG keep own tg cd elt ρ xs (acc ++ [r.1]) r.2 else .bad
          else compG keep own tg cd elt ρ xs acc q.2)
    else .bad
def eComp (c : Bool) (own : List Nat) (tg : DT) (fi : FI) (src : List DE) (cd : Option DE) (elt : DE) : DE := fun ρ h =>
  (eL src ρ h).bind fun p => (ofO (fi p.1 p.2)).bind fun s => (compG s.keep own tg cd elt ρ s.items [] p.2).bind fun q => mkL c q.1 q.2
def forG (keep : Hh → Bool) (tg : DT) (b : DS) : List W → DS
  | [], ρ, h => if keep h then .ok (.nx, ρ, h) else .bad
  | x :: xs, ρ, h => if keep h then (tg x ρ h).bind fun p => (b p.1 p.2).bind fun q => match q.1 with
      | .nx => forG keep tg b xs q.2.1 q.2.2
      | .ct => forG keep tg b xs q.2.1 q.2.2
      | .bk => .ok (.nx, q.2)
      | .rt w => .ok (.rt w, q.2)
    else .bad
def bigFuel : Nat := 1000000000000000000
def whileG (c : DE) (b : DS) : Nat → DS
  | 0, _, _ => .bad
  | n + 1, ρ, h => (c ρ h).bind fun p => (ofO (truthy p.2 p.1)).bind fun k => if k = true then (b ρ p.2).bind fun q => (match q.1 with
      | .nx => whileG c b n q.2.1 q.2.2
      | .ct => whileG c b n q.2.1 q.2.2
      | .bk => .ok (.nx, q.2)
      | .rt w => .ok (.rt w, q.2))
    else .ok (.nx, ρ, p.2)

/-! ### statements -/
def sNil : DS := fun ρ h => .ok (.nx, ρ, h)
def sCons (a b : DS) : DS := fun ρ h => (a ρ h).bind fun q => match q.1 with
  | .nx => b q.2.1 q.2.2
  | f => .ok (f, q.2)
def sPass : DS := sNil
def sE (e : DE) : DS := fun ρ h => (e ρ h).bind fun p => .ok (.nx, ρ, p.2)
def sAsg (t : DT) (e : DE) : DS := fun ρ h => (e ρ h).bind fun p => (t p.1 ρ p.2).bind fun q => .ok (.nx, q)
def sRet (e : DE) : DS := fun ρ h => (e ρ h).bind fun p => .ok (.rt p.1, ρ, p.2)
def sRetN : DS := fun ρ h => .ok (.rt .non, ρ, h)
def sIf (c : DE) (a b : DS) : DS := fun ρ h => (c ρ h).bind fun p => (ofO (truthy p.2 p.1)).bind fun k => if k = true then a ρ p.2 else b ρ p.2
def sBrk : DS := fun ρ h => .ok (.bk, ρ, h)
def sCnt : DS := fun ρ h => .ok (.ct, ρ, h)
def sWhile (c : DE) (b : DS) : DS := whileG c b bigFuel
def sFor (tg : DT) (fi : FI) (src : List DE) (b : DS) : DS := fun ρ h =>
  (eL src ρ h).bind fun p => (ofO (fi p.1 p.2)).bind fun s => forG s.keep tg b s.items ρ p.2
/-- o[i] = e -/
def sSet (f : F3) (o i e : DE) : DS := fun ρ h => (e ρ h).bind fun p => (o ρ p.2).bind fun q => (i ρ q.2).bind fun r => (f q.1 r.1 p.1 r.2).bind fun s => .ok (.nx, ρ, s.2)
/-- a statement that is never reached -/
def sNev : DS := fun _ _ => .bad

/-! ### a def -/
def runDef (n : Nat) (m : Mode) (b : DS) : Fn := fun ws h => (b (ws.map some ++ List.replicate (n - ws.length) none) h).bind fun q => match q.1 with
  | .nx => fin m h.length .non q.2.2
  | .rt w => fin m h.length w q.2.2
  | _ => .bad
end Ti


/-! Ti: the primitive operations. -/
namespace Ti
open PySem

/-! ### texts as lists of signs -/
abbrev sg (x : Str) : List Nat := x.cps.toList
def mkS (l : List Nat) : Str := ⟨l.toArray⟩
theorem sg_mkS (l : List Nat) : sg (mkS l) = l := rfl
theorem mkS_sg (x : Str) : mkS (sg x) = x := rfl
theorem len_sg (x : Str) : x.length = (sg x).length := by simp [sg, Str.length]
theorem mkS_inj {a b : List Nat} (h : mkS a = mkS b) : a = b := by
  have := congrArg sg h
  exact this
/-- a place in a row of n, counted from the end where it is below nought -/
def clampI (n : Nat) (i : Int) : Nat := if i < 0 then (i + (n : Int)).toNat else min i.toNat n
def loI (n : Nat) : Option Int → Nat
  | none => 0
  | some i => clampI n i
def hiI (n : Nat) : Option Int → Nat
  | none => n
  | some i => clampI n i
def cutL {α : Type} (l : List α) (lo hi : Option Int) : List α := (l.take (hiI l.length hi)).drop (loI l.length lo)
def placeI (n : Nat) (i : Int) : Option Nat := if 0 ≤ i then (if i < (n : Int) then some i.toNat else none) else (if -(n : Int) ≤ i then some (i + (n : Int)).toNat else none)
def isDig (c : Nat) : Bool := decide (48 ≤ c) && decide (c ≤ 57)
def digsVal (l : List Nat) : Nat := l.foldl (fun a c => a * 10 + (c - 48)) 0
def numL (n : Nat) : List Nat := (Nat.toDigits 10 n).map Char.toNat

/-! ### numbers and texts -/
def pAdd (c : Bool) : F2 := fun x y h => match x, y with
  | .int i, .int j => .ok (.int (i + j), h)
  | .str a, .str b => if a.length + b.length ≤ lineW then .ok (.str (a ++ b), h) else .bad
  | .tup a, .tup b => if a.length + b.length ≤ lineW then .ok (.tup (a ++ b), h) else .bad
  | a, b => match asL h a, asL h b with
    | some as, some bs => mkL c (as ++ bs) h
    | _, _ => .bad
def pSub : F2 := fun x y h => match x, y with
  | .int i, .int j => .ok (.int (i - j), h)
  | _, _ => .bad
/-- a size that the model's products surely bear -/
def mulOk (i j : Int) : Bool := decide (i.natAbs.log2 + j.natAbs.log2 < 1000000)
def pMul (c : Bool) : F2 := fun x y h => match x, y with
  | .int i, .int j => if mulOk i j then .ok (.int (i * j), h) else .bad
  | .str a, .int n => if a.length * n.toNat ≤ 1000000 ∧ -1000000 ≤ n ∧ n ≤ 1000000 then .ok (.str (mkS (List.replicate n.toNat (sg a)).flatten), h) else .bad
  | a, .int n => match asL h a with
    | some as => if as.length * n.toNat ≤ 1000000 ∧ -1000000 ≤ n ∧ n ≤ 1000000 then mkL c (List.replicate n.toNat as).flatten h else .bad
    | none => .bad
  | _, _ => .bad
def pMod : F2 := fun x y h => match x, y with
  | .int i, .int j => if j = 0 then .bad else .ok (.int (i.fmod j), h)
  | _, _ => .bad
def pFdv : F2 := fun x y h => match x, y with
  | .int i, .int j => if 0 < j ∧ j.natAbs.log2 < 9000 then .ok (.int (i / j), h) else .bad
  | _, _ => .bad
def pPow : F2 := fun x y h => match x, y with
  | .int i, .int j => if 0 ≤ j ∧ j ≤ 1000 ∧ i.natAbs.log2 < 1000 then .ok (.int (i ^ j.toNat), h) else .bad
  | _, _ => .bad
def pNeg : F1 := fun x h => match x with
  | .int i => .ok (.int (-i), h)
  | _ => .bad

/-! ### comparisons -/
def eqB (h : Hh) (x y : W) : Option Bool :=
  if isDat 60 (look h x) && isDat 60 (look h y) then some (beq (look h x) (look h y)) else none
def pEq : F2 := fun x y h => (ofO (eqB h x y)).bind fun k => .ok (.bl k, h)
def pNe : F2 := fun x y h => (ofO (eqB h x y)).bind fun k => .ok (.bl (!k), h)
def pLt : F2 := fun x y h => match x, y with
  | .int i, .int j => .ok (.bl (decide (i < j)), h)
  | _, _ => .bad
def pLe : F2 := fun x y h => match x, y with
  | .int i, .int j => .ok (.bl (decide (i ≤ j)), h)
  | _, _ => .bad
def pGt : F2 := fun x y h => match x, y with
  | .int i, .int j => .ok (.bl (decide (j < i)), h)
  | _, _ => .bad
def pGe : F2 := fun x y h => match x, y with
  | .int i, .int j => .ok (.bl (decide (j ≤ i)), h)
  | _, _ => .bad
def isNon : W → Bool
  | .non => true
  | _ => false
def pIs : F2 := fun x y h => match y with
  | .non => .ok (.bl (isNon x), h)
  | _ => .bad
def pIsN : F2 := fun x y h => match y with
  | .non => .ok (.bl (!isNon x), h)
  | _ => .bad
/-- x in y -/
def inB (h : Hh) (x y : W) : Option Bool := match y with
  | .str z => match x with
    | .str c => match sg c with
      | [k] => some (decide (k ∈ sg z))
      | _ => none
    | _ => none
  | .tup ws => if isDat 0 (look h x) && areDat 0 ws then some (ws.any fun w => beq w (look h x)) else none
  | y => match asL h y with
    | some ws => if isDat 60 (look h x) && areDat 60 ws then some (ws.any fun w => beq w (look h x)) else none
    | none => match asD h y with
      | some (kd, kvs) => match keyOf x with
        | some k => if k.fits kd then some (dget kvs k).isSome else none
        | none => none
      | none => none
def pIn : F2 := fun x y h => (ofO (inB h x y)).bind fun k => .ok (.bl k, h)
def pNi : F2 := fun x y h => (ofO (inB h x y)).bind fun k => .ok (.bl (!k), h)

/-! ### items and slices -/
def itemW (ws : List W) : W → Option W
  | .int i => (placeI ws.length i).bind fun j => ws[j]?
  | _ => none
def entryW (kd : Bool) (kvs : List (HK × W)) (y : W) : Option W := match keyOf y with
  | some k => if k.fits kd then dget kvs k else none
  | none => none
def ixW (h : Hh) (x y : W) : Option W := match x with
  | .str z => match y with
    | .int i => if z.length ≤ lineW then (placeI (sg z).length i).bind fun j => (sg z)[j]?.map fun c => .str (mkS [c]) else none
    | _ => none
  | .tup ws => itemW ws y
  | x => match asL h x with
    | some ws => itemW ws y
    | none => match asD h x with
      | some (kd, kvs) => entryW kd kvs y
      | none => none
def pIx : F2 := fun x y h => (ofO (ixW h x y)).bind fun w => .ok (w, h)
def partI (b : Bool) (w : W) : Option (Option Int) := if b then (match w with | .int i => some (some i) | _ => none) else some none
/-- x[lo:hi]; which ends are written -/
def pSl (c bl bh : Bool) : F3 := fun x lo hi h => match partI bl lo, partI bh hi with
  | some l, some r => match x with
    | .str z => if z.length ≤ lineW then .ok (.str (mkS (cutL (sg z) l r)), h) else .bad
    | .tup ws => .ok (.tup (cutL ws l r), h)
    | .scr ns => mkL c ((cutL ns l r).map .int) h
    | x => match asL h x with
      | some ws => mkL c (cutL ws l r) h
      | none => .bad
  | _, _ => .bad
/-- x[::-1] -/
def pRev (c : Bool) : F1 := fun x h => match x with
  | .str z => if z.length ≤ 1000000 then .ok (.str (mkS (sg z).reverse), h) else .bad
  | x => match asL h x with
    | some ws => mkL c ws.reverse h
    | none => .bad

/-! ### built-in functions -/
def pLen : F1 := fun x h => match x with
  | .str z => if z.length ≤ lineW then .ok (.int z.length, h) else .bad
  | .tup ws => .ok (.int ws.length, h)
  | .scr ns => .ok (.int ns.length, h)
  | x => match asL h x with
    | some ws => .ok (.int ws.length, h)
    | none => match asD h x with
      | some (kd, kvs) => if kd then .bad else .ok (.int kvs.length, h)
      | none => .bad
def pInt : F1 := fun x h => match x with
  | .int i => .ok (.int i, h)
  | .bl b => .ok (.int (if b then 1 else 0), h)
  | .str z => if (sg z).all isDig = true ∧ sg z ≠ [] ∧ z.length ≤ 640 then .ok (.int (digsVal (sg z)), h) else .bad
  | _ => .bad
def pStr : F1 := fun x h => match x with
  | .int i => if 0 ≤ i ∧ i.natAbs.log2 < 1920 then .ok (.str (mkS (numL i.toNat)), h) else .bad
  | _ => .bad
def pMax : F2 := fun x y h => match x, y with
  | .int i, .int j => .ok (.int (if j > i then j else i), h)
  | _, _ => .bad
def pMin : F2 := fun x y h => match x, y with
  | .int i, .int j => .ok (.int (if j < i then j else i), h)
  | _, _ => .bad
def intsOf : List W → Option (List Int)
  | [] => some []
  | .int i :: ws => (intsOf ws).map (i :: ·)
  | _ => none
def pSum : F1 := fun x h => (ofO (asL h x)).bind fun ws => (ofO (intsOf ws)).bind fun ns => .ok (.int ns.sum, h)
def pBits : F1 := fun x h => match x with
  | .int i => if 0 < i then .ok (.int (i.natAbs.log2 + 1 : Nat), h) else .bad
  | _ => .bad
inductive Kd where
  | non | bool | int | str | list | tuple | dict
  deriving DecidableEq
/-- a value's built-in type -/
def kindT : W → Option Kd
  | .non => some .non
  | .bl _ => some .bool
  | .int _ => some .int
  | .str _ => some .str
  | .tup _ => some .tuple
  | .lst _ => some .list
  | .scr _ => some .list
  | .dic kd _ => if kd then none else some .dict
  | _ => none
def kindW (h : Hh) : W → Option Kd
  | .ref i => match h[i]? with
    | some (.lst _) => some .list
    | some (.dic kd _) => if kd then none else some .dict
    | _ => none
  | w => kindT w
def isK (u t : Kd) : Bool := decide (u = t) || (decide (u = .bool) && decide (t = .int))
def pIsi (t : Kd) : F1 := fun x h => (ofO (kindW h x)).bind fun u => .ok (.bl (isK u t), h)
/-- list(x), tuple(x) -/
def seqOf (h : Hh) : W → Option (List W)
  | .tup ws => some ws
  | x => asL h x
def pList (c : Bool) : F1 := fun x h => (ofO (seqOf h x)).bind fun ws => mkL c ws h

/-! ### methods -/
def pAppend : F2 := fun x y h => match x with
  | .ref i => match h[i]? with
    | some (.lst ws) => if ws.length < lineW ∧ nor y = true then .ok (.non, h.set i (.lst (ws ++ [y]))) else .bad
    | _ => .bad
  | _ => .bad
def pLstrip : F2 := fun x y h => match x, y with
  | .str a, .str b => if a.length ≤ lineW then .ok (.str (mkS ((sg a).dropWhile fun c => (sg b).contains c)), h) else .bad
  | _, _ => .bad
def pRstrip : F2 := fun x y h => match x, y with
  | .str a, .str b => if a.length ≤ lineW then .ok (.str (mkS ((sg a).reverse.dropWhile fun c => (sg b).contains c).reverse), h) else .bad
  | _, _ => .bad
/-- o[i] = e -/
def pSet : F3 := fun o i e h => match o with
  | .ref p => match h[p]? with
    | some (.lst ws) => match i with
      | .int k => match placeI ws.length k with
        | some j => if nor e then .ok (.non, h.set p (.lst (ws.set j e))) else .bad
        | none => .bad
      | _ => .bad
    | some (.dic kd kvs) => match keyOf i with
      | some k => if k.fits kd && nor e && decide (kvs.length < lineW) then .ok (.non, h.set p (.dic kd (dput kvs k e))) else .bad
      | none => .bad
    | _ => .bad
  | _ => .bad

/-! ### calls and methods -/
def l1 (g : F1) : Fn := fun ws h => match ws with
  | [a] => g a h
  | _ => .bad
def l2 (g : F2) : Fn := fun ws h => match ws with
  | [a, b] => g a b h
  | _ => .bad
def l3 (g : F3) : Fn := fun ws h => match ws with
  | [a, b, c] => g a b c h
  | _ => .bad
inductive MTy where
  | str | list | dict
def isMT (t : MTy) (h : Hh) (w : W) : Bool := match t with
  | .str => (match w with | .str _ => true | _ => false)
  | .list => (asL h w).isSome
  | .dict => (match w with | .ref i => (match h[i]? with | some (.dic _ _) => true | _ => false) | _ => false)
/-- a built-in type's method -/
def eM (t : MTy) (g : Fn) (a : DE) (es : List DE) : DE := fun ρ h => (a ρ h).bind fun p => if isMT t p.2 p.1 = true then (eL es ρ p.2).bind fun q => g (p.1 :: q.1) q.2 else .bad

/-! ### walks -/
def rangeW (lo : Int) (n : Nat) : List W := (List.range n).map fun (k : Nat) => .int (lo + (k : Int))
def okR (i : Int) : Bool := decide (i.natAbs < 4000000000000000000)
def fiR : FI := fun ws _ => match ws with
  | [.int n] => if okR n then some ⟨rangeW 0 n.toNat, fun _ => true⟩ else none
  | [.int a, .int b] => if okR a && okR b then some ⟨rangeW a (b - a).toNat, fun _ => true⟩ else none
  | _ => none
mutual
/-- the same data -/
def same : W → W → Bool
  | .non, .non => true
  | .bl a, .bl b => a == b
  | .int i, .int j => i == j
  | .str x, .str y => decide (x = y)
  | .tup xs, .tup ys => sames xs ys
  | .lst xs, .lst ys => sames xs ys
  | _, _ => false
def sames : List W → List W → Bool
  | [], [] => true
  | x :: xs, y :: ys => same x y && sames xs ys
  | _, _ => false
end
mutual
theorem same_eq : ∀ {a b : W}, same a b = true → a = b
  | .non, b, e => by cases b <;> first | rfl | cases e
  | .bl x, b, e => by
    cases b <;> first | cases e | skip
    rw [eq_of_beq (show (x == _) = true from e)]
  | .int x, b, e => by
    cases b <;> first | cases e | skip
    rw [eq_of_beq (show (x == _) = true from e)]
  | .str x, b, e => by
    cases b <;> first | cases e | skip
    rw [of_decide_eq_true (show decide (x = _) = true from e)]
  | .tup xs, b, e => by
    cases b <;> first | cases e | skip
    rw [sames_eq (show sames xs _ = true from e)]
  | .lst xs, b, e => by
    cases b <;> first | cases e | skip
    rw [sames_eq (show sames xs _ = true from e)]
  | .dic _ _, b, e => by cases b <;> cases e
  | .obj _ _, b, e => by cases b <;> cases e
  | .ref _, b, e => by cases b <;> cases e
  | .scr _, b, e => by cases b <;> cases e
theorem sames_eq : ∀ {a b : List W}, sames a b = true → a = b
  | [], b, e => by cases b <;> first | rfl | cases e
  | x :: xs, b, e => by
    cases b <;> first | cases e | skip
    have e : (same x _ && sames xs _) = true := e
    rw [Bool.and_eq_true] at e
    rw [same_eq e.1, sames_eq e.2]
end
/-- a list that stands so (a cell: asked anew at each turn) -/
def keepL (x : W) (ws : List W) : Hh → Bool := match x with
  | .ref _ => fun h => match asL h x with
    | some us => sames us ws
    | none => false
  | _ => fun _ => true
def fiL : FI := fun ws h => match ws with
  | [.str z] => some ⟨(sg z).map fun c => .str (mkS [c]), fun _ => true⟩
  | [.tup us] => some ⟨us, fun _ => true⟩
  | [x] => (asL h x).map fun us => ⟨us, keepL x us⟩
  | _ => none
def enumW (us : List W) : List W := us.zipIdx.map fun p => .tup [.int (p.2 : Nat), p.1]
def fiE : FI := fun ws h => match ws with
  | [x] => (asL h x).map fun us => ⟨enumW us, keepL x us⟩
  | _ => none
def fiZ : FI := fun ws h => match ws with
  | [x, y] => match asL h x, asL h y with
    | some us, some vs => some ⟨(us.zip vs).map fun p => .tup [p.1, p.2], fun h => keepL x us h && keepL y vs h⟩
    | _, _ => none
  | _ => none
end Ti


/-! Ti: what values and cells stand for in the layer's abstract heap. -/
namespace Ti
open PySem PySem.Spec PyProof.Rows L2

/-! ### values -/
def HK.key : HK → Option Key
  | .int i => some (.inl i)
  | .str x => some (.inr x)
  | _ => none
/-- the keys of a dict: all plain; all tuples of plain ones -/
def KeysK : List HK → List Key → Prop := Paired fun k q => k.key = some q
def KeysT : List HK → List (List Key) → Prop := Paired fun k q => ∃ ks, k = .tup ks ∧ KeysK ks q
mutual
/-- w stands at v: mu the cells' addresses, Z what never changes -/
def RW (K : PySem.W.Frag) (cm : Nat → Addr) (mu : List Addr) (Z : Hp) : W → V → Prop
  | .non, v => v = .non
  | .bl b, v => v = .bl b
  | .int i, v => v = .int i
  | .str x, v => v = .str x
  | .tup ws, v => ∃ a vs, v = .ref a ∧ Z a = some (.tup vs) ∧ RWs K cm mu Z ws vs
  | .lst ws, v => ∃ a vs, v = .ref a ∧ Z a = some (.lst vs) ∧ RWs K cm mu Z ws vs
  | .dic kd kvs, v => ∃ a, v = .ref a ∧ if kd then ∃ ks vs, KeysT (kvs.map (·.1)) ks ∧ Z a = some (.dT (ks.zip vs)) ∧ ks.length = vs.length ∧ RWk K cm mu Z kvs vs
      else ∃ ks vs, KeysK (kvs.map (·.1)) ks ∧ Z a = some (.dK (ks.zip vs)) ∧ ks.length = vs.length ∧ RWk K cm mu Z kvs vs
  | .obj c fs, v => ∃ a dx fvs, v = .ref a ∧ Z a = some (.ins (cm c) dx ((fs.map (·.1)).zip fvs)) ∧ RWf K cm mu Z fs fvs
  | .ref i, v => ∃ a, v = .ref a ∧ mu[i]? = some a
  | .scr ns, v => ∃ a, v = .ref a ∧ SqL K Z a (ns.map .int)
def RWs (K : PySem.W.Frag) (cm : Nat → Addr) (mu : List Addr) (Z : Hp) : List W → List V → Prop
  | [], vs => vs = []
  | w :: ws, vs => ∃ v r, vs = v :: r ∧ RW K cm mu Z w v ∧ RWs K cm mu Z ws r
def RWk (K : PySem.W.Frag) (cm : Nat → Addr) (mu : List Addr) (Z : Hp) : List (HK × W) → List V → Prop
  | [], vs => vs = []
  | (_, w) :: ws, vs => ∃ v r, vs = v :: r ∧ RW K cm mu Z w v ∧ RWk K cm mu Z ws r
def RWf (K : PySem.W.Frag) (cm : Nat → Addr) (mu : List Addr) (Z : Hp) : List (Str × W) → List V → Prop
  | [], vs => vs = []
  | (_, w) :: ws, vs => ∃ v r, vs = v :: r ∧ RW K cm mu Z w v ∧ RWf K cm mu Z ws r
end
/-- Z' says all that Z says -/
def Le (Z Z' : Hp) : Prop := ∀ a u, Z a = some u → Z' a = some u
theorem Le.refl (Z : Hp) : Le Z Z := fun _ _ h => h
theorem Le.trans {Z Z1 Z2 : Hp} (a : Le Z Z1) (b : Le Z1 Z2) : Le Z Z2 := fun x u h => b x u (a x u h)
theorem SqL.le {K : PySem.W.Frag} {Z Z' : Hp} (l : Le Z Z') {a : Addr} {xs : List V} (h : SqL K Z a xs) : SqL K Z' a xs := by
  rcases h with (h | ⟨o, h⟩) | h
  · exact .inl (.inl (l _ _ h))
  · exact .inl (.inr ⟨o, l _ _ h⟩)
  · exact .inr h
section
variable {K : PySem.W.Frag} {cm : Nat → Addr} {mu mu' : List Addr} {Z Z' : Hp}
mutual
theorem RW.mono (l : Le Z Z') (m : ∀ (i : Nat) (a : Addr), mu[i]? = some a → mu'[i]? = some a) : ∀ {w : W} {v : V}, RW K cm mu Z w v → RW K cm mu' Z' w v
  | .non, _, h => h
  | .bl _, _, h => h
  | .int _, _, h => h
  | .str _, _, h => h
  | .tup ws, _, h => by
    obtain ⟨a, vs, e, z, r⟩ := h
    exact ⟨a, vs, e, l _ _ z, RWs.mono l m r⟩
  | .lst ws, _, h => by
    obtain ⟨a, vs, e, z, r⟩ := h
    exact ⟨a, vs, e, l _ _ z, RWs.mono l m r⟩
  | .dic kd kvs, _, h => by
    obtain ⟨a, e, h⟩ := h
    refine ⟨a, e, ?_⟩
    cases kd with
    | true =>
      obtain ⟨ks, vs, h1, h2, h3, h4⟩ := (show ∃ ks vs, KeysT (kvs.map (·.1)) ks ∧ Z a = some (.dT (ks.zip vs)) ∧ ks.length = vs.length ∧ RWk K cm mu Z kvs vs from h)
      exact ⟨ks, vs, h1, l _ _ h2, h3, RWk.mono l m h4⟩
    | false =>
      obtain ⟨ks, vs, h1, h2, h3, h4⟩ := (show ∃ ks vs, KeysK (kvs.map (·.1)) ks ∧ Z a = some (.dK (ks.zip vs)) ∧ ks.length = vs.length ∧ RWk K cm mu Z kvs vs from h)
      exact ⟨ks, vs, h1, l _ _ h2, h3, RWk.mono l m h4⟩
  | .obj c fs, _, h => by
    obtain ⟨a, dx, fvs, e, z, r⟩ := h
    exact ⟨a, dx, fvs, e, l _ _ z, RWf.mono l m r⟩
  | .ref i, _, h => by
    obtain ⟨a, e, q⟩ := h
    exact ⟨a, e, m _ _ q⟩
  | .scr ns, _, h => by
    obtain ⟨a, e, q⟩ := h
    exact ⟨a, e, SqL.le l q⟩
theorem RWs.mono (l : Le Z Z') (m : ∀ (i : Nat) (a : Addr), mu[i]? = some a → mu'[i]? = some a) : ∀ {ws : List W} {vs : List V}, RWs K cm mu Z ws vs → RWs K cm mu' Z' ws vs
  | [], _, h => h
  | w :: ws, _, h => by
    obtain ⟨v, r, e, h1, h2⟩ := h
    exact ⟨v, r, e, RW.mono l m h1, RWs.mono l m h2⟩
theorem RWk.mono (l : Le Z Z') (m : ∀ (i : Nat) (a : Addr), mu[i]? = some a → mu'[i]? = some a) : ∀ {ws : List (HK × W)} {vs : List V}, RWk K cm mu Z ws vs → RWk K cm mu' Z' ws vs
  | [], _, h => h
  | (k, w) :: ws, _, h => by
    obtain ⟨v, r, e, h1, h2⟩ := h
    exact ⟨v, r, e, RW.mono l m h1, RWk.mono l m h2⟩
theorem RWf.mono (l : Le Z Z') (m : ∀ (i : Nat) (a : Addr), mu[i]? = some a → mu'[i]? = some a) : ∀ {ws : List (Str × W)} {vs : List V}, RWf K cm mu Z ws vs → RWf K cm mu' Z' ws vs
  | [], _, h => h
  | (k, w) :: ws, _, h => by
    obtain ⟨v, r, e, h1, h2⟩ := h
    exact ⟨v, r, e, RW.mono l m h1, RWf.mono l m h2⟩
end
mutual
/-- without references the cells do not matter -/
theorem RW.any : ∀ {w : W} {v : V}, nor w = true → RW K cm mu Z w v → RW K cm mu' Z w v
  | .non, _, _, h => h
  | .bl _, _, _, h => h
  | .int _, _, _, h => h
  | .str _, _, _, h => h
  | .tup ws, _, n, h => by
    obtain ⟨a, vs, e, z, r⟩ := h
    exact ⟨a, vs, e, z, RWs.any (show nors ws = true from n) r⟩
  | .lst ws, _, n, h => by
    obtain ⟨a, vs, e, z, r⟩ := h
    exact ⟨a, vs, e, z, RWs.any (show nors ws = true from n) r⟩
  | .dic kd kvs, _, n, h => by
    have n : norK kvs = true := n
    obtain ⟨a, e, h⟩ := h
    refine ⟨a, e, ?_⟩
    cases kd with
    | true =>
      obtain ⟨ks, vs, h1, h2, h3, h4⟩ := (show ∃ ks vs, KeysT (kvs.map (·.1)) ks ∧ Z a = some (.dT (ks.zip vs)) ∧ ks.length = vs.length ∧ RWk K cm mu Z kvs vs from h)
      exact ⟨ks, vs, h1, h2, h3, RWk.any n h4⟩
    | false =>
      obtain ⟨ks, vs, h1, h2, h3, h4⟩ := (show ∃ ks vs, KeysK (kvs.map (·.1)) ks ∧ Z a = some (.dK (ks.zip vs)) ∧ ks.length = vs.length ∧ RWk K cm mu Z kvs vs from h)
      exact ⟨ks, vs, h1, h2, h3, RWk.any n h4⟩
  | .obj c fs, _, n, h => by
    obtain ⟨a, dx, fvs, e, z, r⟩ := h
    exact ⟨a, dx, fvs, e, z, RWf.any (show norF fs = true from n) r⟩
  | .ref i, _, n, h => by cases n
  | .scr ns, _, _, h => h
theorem RWs.any : ∀ {ws : List W} {vs : List V}, nors ws = true → RWs K cm mu Z ws vs → RWs K cm mu' Z ws vs
  | [], _, _, h => h
  | w :: ws, _, n, h => by
    have n : (nor w && nors ws) = true := n
    rw [Bool.and_eq_true] at n
    obtain ⟨v, r, e, h1, h2⟩ := h
    exact ⟨v, r, e, RW.any n.1 h1, RWs.any n.2 h2⟩
theorem RWk.any : ∀ {ws : List (HK × W)} {vs : List V}, norK ws = true → RWk K cm mu Z ws vs → RWk K cm mu' Z ws vs
  | [], _, _, h => h
  | (k, w) :: ws, _, n, h => by
    have n : (nor w && norK ws) = true := n
    rw [Bool.and_eq_true] at n
    obtain ⟨v, r, e, h1, h2⟩ := h
    exact ⟨v, r, e, RW.any n.1 h1, RWk.any n.2 h2⟩
theorem RWf.any : ∀ {ws : List (Str × W)} {vs : List V}, norF ws = true → RWf K cm mu Z ws vs → RWf K cm mu' Z ws vs
  | [], _, _, h => h
  | (k, w) :: ws, _, n, h => by
    have n : (nor w && norF ws) = true := n
    rw [Bool.and_eq_true] at n
    obtain ⟨v, r, e, h1, h2⟩ := h
    exact ⟨v, r, e, RW.any n.1 h1, RWf.any n.2 h2⟩
end
end

/-! ### the heap -/
/-- what Z says is so in H: dicts may be locked by a walk -/
def ZIn (H : Hp) (a : Addr) : HO → Prop
  | .dK kvs => Rd H a (.dK kvs)
  | .dT kvs => Rd H a (.dT kvs)
  | u => H a = some u
def CellR (K : PySem.W.Frag) (cm : Nat → Addr) (Z H : Hp) (a : Addr) : Cell → Prop
  | .lst ws => Z a = none ∧ nors ws = true ∧ ∃ vs, H a = some (.lst vs) ∧ RWs K cm [] Z ws vs
  | .dic kd kvs => Z a = none ∧ norK kvs = true ∧ if kd then ∃ ks vs, KeysT (kvs.map (·.1)) ks ∧ H a = some (.dT (ks.zip vs)) ∧ ks.length = vs.length ∧ RWk K cm [] Z kvs vs
      else ∃ ks vs, KeysK (kvs.map (·.1)) ks ∧ H a = some (.dK (ks.zip vs)) ∧ ks.length = vs.length ∧ RWk K cm [] Z kvs vs
  | .obj c fs => Z a = none ∧ norF fs = true ∧ ∃ dx fvs, H a = some (.ins (cm c) dx ((fs.map (·.1)).zip fvs)) ∧ RWf K cm [] Z fs fvs
  | .frz w => nor w = true ∧ RW K cm [] Z w (.ref a)
structure RelH (K : PySem.W.Frag) (cm : Nat → Addr) (mu : List Addr) (Z H : Hp) (h : Hh) : Prop where
  len : mu.length = h.length
  nd : mu.Nodup
  zh : ∀ a u, Z a = some u → ZIn H a u
  mh : ∀ a ∈ mu, H a ≠ none
  cell : ∀ (i : Nat) (a : Addr) (c : Cell), mu[i]? = some a → h[i]? = some c → CellR K cm Z H a c
/-- what may have changed from one point to a later one -/
structure Ext (mu : List Addr) (Z H : Hp) (mu' : List Addr) (Z' H' : Hp) : Prop where
  m : ∀ (i : Nat) (a : Addr), mu[i]? = some a → mu'[i]? = some a
  z : Le Z Z'
  fr : ∀ a u, a ∉ mu → Z a = none → H a = some u → H' a = some u
  th : ∀ a u, a ∉ mu → H a = some u → H' a ≠ none
  nm : ∀ a ∈ mu', a ∈ mu ∨ H a = none
  nz : ∀ a, Z' a ≠ none → Z a ≠ none ∨ a ∈ mu ∨ H a = none
section
variable {K : PySem.W.Frag} {cm : Nat → Addr} {mu mu1 mu2 : List Addr} {Z H Z1 H1 Z2 H2 : Hp} {h h' : Hh}
theorem Ext.refl : Ext mu Z H mu Z H := ⟨fun _ _ e => e, Le.refl Z, fun _ _ _ _ e => e, fun _ _ _ e => (by rw [e]; exact fun z => nomatch z), fun _ e => .inl e, fun _ e => .inl e⟩
theorem Ext.trans (a : Ext mu Z H mu1 Z1 H1) (b : Ext mu1 Z1 H1 mu2 Z2 H2) : Ext mu Z H mu2 Z2 H2 := by
  have key : ∀ x, H1 x = none → x ∈ mu ∨ H x = none := fun x e => by
    by_cases hx : x ∈ mu
    · exact .inl hx
    · refine .inr ?_
      cases q : H x with
      | none => rfl
      | some u => exact absurd e (a.th x u hx q)
  have nin : ∀ x u, x ∉ mu → H x = some u → x ∉ mu1 := fun x u n e hm => by
    rcases a.nm x hm with q | q
    · exact n q
    · rw [q] at e; cases e
  refine ⟨fun i x e => b.m i x (a.m i x e), a.z.trans b.z, fun x u n z e => ?_, fun x u n e => ?_, fun x e => ?_, fun x e => ?_⟩
  · refine b.fr x u (nin x u n e) ?_ (a.fr x u n z e)
    cases q : Z1 x with
    | none => rfl
    | some w =>
      rcases a.nz x (by rw [q]; exact fun z => nomatch z) with k | k | k
      · exact absurd z k
      · exact absurd k n
      · rw [k] at e; cases e
  · cases q : H1 x with
    | none => exact absurd q (a.th x u n e)
    | some w => exact b.th x w (nin x u n e) q
  · rcases b.nm x e with q | q
    · exact a.nm x q
    · exact key x q
  · rcases b.nz x e with q | q | q
    · exact a.nz x q
    · exact .inr (a.nm x q)
    · exact .inr (key x q)
theorem ZIn.some {a : Addr} {u : HO} (z : ZIn H a u) : ∃ o, H a = some o := by
  cases u with
  | dK kvs => rcases z with e | ⟨o, e⟩ <;> exact ⟨_, e⟩
  | dT kvs => rcases z with e | ⟨o, e⟩ <;> exact ⟨_, e⟩
  | _ => exact ⟨_, z⟩
theorem RelH.zfree (r : RelH K cm mu Z H h) {p : Addr} (e : H p = none) : Z p = none := by
  cases q : Z p with
  | none => rfl
  | some u =>
    obtain ⟨o, q2⟩ := (r.zh p u q).some
    rw [e] at q2; cases q2
theorem RelH.mfree (r : RelH K cm mu Z H h) {p : Addr} (e : H p = none) : p ∉ mu := fun hm => r.mh p hm e
theorem ZIn.upd {a p : Addr} {u o : HO} (n : a ≠ p) (z : ZIn H a u) : ZIn (upd H p o) a u := by
  cases u with
  | dK kvs => rcases z with e | ⟨ob, e⟩; exact .inl (by rw [upd_ne n]; exact e); exact .inr ⟨ob, by rw [upd_ne n]; exact e⟩
  | dT kvs => rcases z with e | ⟨ob, e⟩; exact .inl (by rw [upd_ne n]; exact e); exact .inr ⟨ob, by rw [upd_ne n]; exact e⟩
  | _ => exact (upd_ne n).trans z
/-- cells lean on Z alone -/
theorem CellR.mono (l : Le Z Z1) {a : Addr} {c : Cell} (hz : Z a = none → Z1 a = none) (hh : ∀ u, Z a = none → H a = some u → H1 a = some u) (q : CellR K cm Z H a c) : CellR K cm Z1 H1 a c := by
  have m0 : ∀ (i : Nat) (a : Addr), ([] : List Addr)[i]? = some a → ([] : List Addr)[i]? = some a := fun _ _ e => e
  cases c with
  | lst ws =>
    obtain ⟨z, n, vs, e, r⟩ := q
    exact ⟨hz z, n, vs, hh _ z e, RWs.mono l m0 r⟩
  | dic kd kvs =>
    obtain ⟨z, n, q⟩ := q
    refine ⟨hz z, n, ?_⟩
    cases kd with
    | true =>
      obtain ⟨ks, vs, h1, h2, h3, h4⟩ := (show ∃ ks vs, KeysT (kvs.map (·.1)) ks ∧ H a = some (.dT (ks.zip vs)) ∧ ks.length = vs.length ∧ RWk K cm [] Z kvs vs from q)
      exact ⟨ks, vs, h1, hh _ z h2, h3, RWk.mono l m0 h4⟩
    | false =>
      obtain ⟨ks, vs, h1, h2, h3, h4⟩ := (show ∃ ks vs, KeysK (kvs.map (·.1)) ks ∧ H a = some (.dK (ks.zip vs)) ∧ ks.length = vs.length ∧ RWk K cm [] Z kvs vs from q)
      exact ⟨ks, vs, h1, hh _ z h2, h3, RWk.mono l m0 h4⟩
  | obj c fs =>
    obtain ⟨z, n, dx, fvs, e, r⟩ := q
    exact ⟨hz z, n, dx, fvs, hh _ z e, RWf.mono l m0 r⟩
  | frz w => exact ⟨q.1, RW.mono l m0 q.2⟩
/-- a new object, frozen at once -/
theorem RelH.newZ (r : RelH K cm mu Z H h) {p : Addr} {o : HO} (e : H p = none) (hz : ZIn (L2.upd H p o) p o) : RelH K cm mu (L2.upd Z p o) (L2.upd H p o) h ∧ Ext mu Z H mu (L2.upd Z p o) (L2.upd H p o) := by
  have zp := r.zfree e
  have le : Le Z (L2.upd Z p o) := fun a u q => by
    rw [upd_ne (show a ≠ p from fun z => by rw [z, zp] at q; cases q)]
    exact q
  refine ⟨⟨r.len, r.nd, fun a u q => ?_, fun a ha => ?_, fun i a c hm hc => ?_⟩, fun _ _ q => q, le, fun a u _ _ q => ?_, fun a u _ q => ?_, fun a ha => .inl ha, fun a ha => ?_⟩
  · by_cases ap : a = p
    · subst ap
      rw [upd_same] at q; cases q
      exact hz
    · rw [upd_ne ap] at q
      exact (r.zh a u q).upd ap
  · by_cases ap : a = p
    · subst ap; rw [upd_same]; exact fun z => nomatch z
    · rw [upd_ne ap]; exact r.mh a ha
  · have ap : a ≠ p := fun z => r.mh a (List.mem_of_getElem? hm) (by rw [z]; exact e)
    exact (r.cell i a c hm hc).mono le (fun z => by rw [upd_ne ap]; exact z) fun u _ q => by rw [upd_ne ap]; exact q
  · rw [upd_ne (show a ≠ p from fun z => by rw [z, e] at q; cases q)]
    exact q
  · rw [upd_ne (show a ≠ p from fun z => by rw [z, e] at q; cases q), q]
    exact fun z => nomatch z
  · by_cases ap : a = p
    · subst ap; exact .inr (.inr e)
    · rw [upd_ne ap] at ha
      exact .inl ha
/-- a new object as a cell -/
theorem RelH.newC (r : RelH K cm mu Z H h) {p : Addr} {o : HO} {c : Cell} (e : H p = none) (hc : CellR K cm Z (L2.upd H p o) p c) : RelH K cm (mu ++ [p]) Z (L2.upd H p o) (h ++ [c]) ∧ Ext mu Z H (mu ++ [p]) Z (L2.upd H p o) := by
  have nm := r.mfree e
  have mm : ∀ (i : Nat) (a : Addr), mu[i]? = some a → (mu ++ [p])[i]? = some a := fun i a q => by
    rw [List.getElem?_append_left (List.getElem?_eq_some_iff.mp q).1]
    exact q
  have ne : ∀ {a : Addr} {u : HO}, H a = some u → a ≠ p := fun {a u} q z => by rw [z, e] at q; cases q
  refine ⟨⟨by rw [List.length_append, List.length_append, r.len]; rfl, ?_, fun a u q => ?_, fun a ha => ?_, fun i a d hm hd => ?_⟩, mm, Le.refl Z, fun a u _ _ q => ?_, fun a u _ q => ?_, fun a ha => ?_, fun a ha => .inl ha⟩
  · rw [List.nodup_append]
    exact ⟨r.nd, by simp, fun a ha b hb z => by
      rw [List.mem_singleton] at hb
      subst hb z
      exact nm ha⟩
  · obtain ⟨o', q2⟩ := (r.zh a u q).some
    exact (r.zh a u q).upd (ne q2)
  · rcases List.mem_append.mp ha with ha | ha
    · cases q : H a with
      | none => exact absurd q (r.mh a ha)
      | some u => rw [upd_ne (ne q), q]; exact fun z => nomatch z
    · rw [List.mem_singleton] at ha
      subst ha
      rw [upd_same]; exact fun z => nomatch z
  · by_cases hi : i < mu.length
    · rw [List.getElem?_append_left hi] at hm
      rw [List.getElem?_append_left (by rw [← r.len]; exact hi)] at hd
      have ap : a ≠ p := fun z => r.mh a (List.mem_of_getElem? hm) (by rw [z]; exact e)
      exact (r.cell i a d hm hd).mono (Le.refl Z) (fun z => z) fun u _ q => by rw [upd_ne ap]; exact q
    · have hi' : mu.length ≤ i := Nat.le_of_not_lt hi
      rw [List.getElem?_append_right hi'] at hm
      rw [List.getElem?_append_right (by rw [← r.len]; exact hi'), ← r.len] at hd
      cases k : i - mu.length with
      | zero =>
        rw [k] at hm hd
        cases hm; cases hd
        exact hc
      | succ k' =>
        rw [k] at hm
        cases hm
  · rw [upd_ne (ne q)]; exact q
  · rw [upd_ne (ne q), q]; exact fun z => nomatch z
  · rcases List.mem_append.mp ha with ha | ha
    · exact .inl ha
    · rw [List.mem_singleton] at ha
      subst ha
      exact .inr e
theorem nodup_ix1 {N : List Addr} (hN : N.Nodup) {i j : Nat} {x : Addr} (a : N[i]? = some x) (b : N[j]? = some x) : i = j := by
  obtain ⟨h1, e1⟩ := List.getElem?_eq_some_iff.mp a
  obtain ⟨h2, e2⟩ := List.getElem?_eq_some_iff.mp b
  exact (List.getElem_inj hN).mp (e1.trans e2.symm)
/-- a cell written -/
theorem RelH.wr (r : RelH K cm mu Z H h) {i : Nat} {a : Addr} {c : Cell} {o : HO} (hm : mu[i]? = some a) (hz : Z a = none) (hc : CellR K cm Z (L2.upd H a o) a c) : RelH K cm mu Z (L2.upd H a o) (h.set i c) ∧ Ext mu Z H mu Z (L2.upd H a o) := by
  have hma := List.mem_of_getElem? hm
  refine ⟨⟨by rw [List.length_set]; exact r.len, r.nd, fun b u q => ?_, fun b hb => ?_, fun j b d hj hd => ?_⟩, fun _ _ q => q, Le.refl Z, fun b u n _ q => ?_, fun b u n q => ?_, fun b hb => .inl hb, fun b hb => .inl hb⟩
  · exact (r.zh b u q).upd fun z => by rw [z, hz] at q; cases q
  · by_cases ba : b = a
    · subst ba; rw [upd_same]; exact fun z => nomatch z
    · rw [upd_ne ba]; exact r.mh b hb
  · by_cases ij : i = j
    · subst ij
      rw [hm] at hj; cases hj
      rw [List.getElem?_set_self (by rw [← r.len]; exact (List.getElem?_eq_some_iff.mp hm).1)] at hd
      cases hd
      exact hc
    · rw [List.getElem?_set_ne ij] at hd
      have ba : b ≠ a := fun z => by
        subst z
        exact ij (nodup_ix1 r.nd hm hj)
      exact (r.cell j b d hj hd).mono (Le.refl Z) (fun z => z) fun u _ q => by rw [upd_ne ba]; exact q
  · rw [upd_ne (show b ≠ a from fun z => n (by rw [z]; exact hma))]; exact q
  · rw [upd_ne (show b ≠ a from fun z => n (by rw [z]; exact hma)), q]; exact fun z => nomatch z
end
end Ti


/-! Ti: the combinators over the layer's judgements. -/
namespace Ti
open PySem PySem.Spec PyProof.Rows L2

/-- the slots -/
structure Sl (K : PySem.W.Frag) (cm : Nat → Addr) (mu : List Addr) (Z : Hp) (ρ : Env) (σ : L2.St) : Prop where
  len : ρ.length = σ.length
  at_ : ∀ (i : Nat) (w : W), ρ[i]? = some (some w) → ∃ v, σ[i]? = some (some v) ∧ RW K cm mu Z w v
/-- what is wanted behind a value w that leaves the cells h' -/
def Fin (K : PySem.W.Frag) (cm : Nat → Addr) (mu : List Addr) (Z H : Hp) (w : W) (h' : Hh) (Q : VK) : Prop :=
  ∀ mu' Z' H' v, Ext mu Z H mu' Z' H' → RelH K cm mu' Z' H' h' → RW K cm mu' Z' w v → Q v H'
def FinT (K : PySem.W.Frag) (cm : Nat → Addr) (mu : List Addr) (Z H : Hp) (b : Bool) (h' : Hh) (Q : Bool → Hp → Prop) : Prop :=
  ∀ mu' Z' H', Ext mu Z H mu' Z' H' → RelH K cm mu' Z' H' h' → Q b H'
def FinL (K : PySem.W.Frag) (cm : Nat → Addr) (mu : List Addr) (Z H : Hp) (ws : List W) (h' : Hh) (Q : List V → Hp → Prop) : Prop :=
  ∀ mu' Z' H' vs, Ext mu Z H mu' Z' H' → RelH K cm mu' Z' H' h' → RWs K cm mu' Z' ws vs → Q vs H'
section
variable {K : PySem.W.Frag} {cm : Nat → Addr} {mu mu' : List Addr} {Z Z' H H' : Hp} {ρ : Env} {σ : L2.St} {h h' h2 : Hh} {w : W} {v : V} {Q : VK}
theorem Sl.ext (s : Sl K cm mu Z ρ σ) (x : Ext mu Z H mu' Z' H') : Sl K cm mu' Z' ρ σ := ⟨s.len, fun i w e => by
  obtain ⟨v, e1, r⟩ := s.at_ i w e
  exact ⟨v, e1, r.mono x.z x.m⟩⟩
theorem Sl.set (s : Sl K cm mu Z ρ σ) (i : Nat) (r : RW K cm mu Z w v) : Sl K cm mu Z (ρ.set i (some w)) (σ.set i (some v)) := by
  refine ⟨by rw [List.length_set, List.length_set]; exact s.len, fun j u e => ?_⟩
  by_cases ij : i = j
  · subst ij
    have hi : i < ρ.length := by
      have := (List.getElem?_eq_some_iff.mp e).1
      rwa [List.length_set] at this
    rw [List.getElem?_set_self hi] at e
    cases e
    exact ⟨v, List.getElem?_set_self (by rw [← s.len]; exact hi), r⟩
  · rw [List.getElem?_set_ne ij] at e
    rw [List.getElem?_set_ne ij]
    exact s.at_ j u e
theorem Fin.here (f : Fin K cm mu Z H w h Q) (r : RelH K cm mu Z H h) (q : RW K cm mu Z w v) : Q v H := f mu Z H v Ext.refl r q
theorem Fin.ext (x : Ext mu Z H mu' Z' H') (f : Fin K cm mu Z H w h Q) : Fin K cm mu' Z' H' w h Q := fun m z hh v e r q => f m z hh v (x.trans e) r q
end

/-- expressions, tests, argument lists, statements, targets by the evaluator -/
def tO (K : PySem.W.Frag) (cm : Nat → Addr) (m : DE) : TE := fun σ H Q => ∃ mu Z ρ h w h', RelH K cm mu Z H h ∧ Sl K cm mu Z ρ σ ∧ m ρ h = .ok (w, h') ∧ Fin K cm mu Z H w h' Q
def tOT (K : PySem.W.Frag) (cm : Nat → Addr) (m : DE) : TT := fun σ H Q => ∃ mu Z ρ h w h' b, RelH K cm mu Z H h ∧ Sl K cm mu Z ρ σ ∧ m ρ h = .ok (w, h') ∧ truthy h' w = some b ∧ FinT K cm mu Z H b h' Q
def tOL (K : PySem.W.Frag) (cm : Nat → Addr) (ms : List DE) : TA := fun σ H Q => ∃ mu Z ρ h ws h', RelH K cm mu Z H h ∧ Sl K cm mu Z ρ σ ∧ eL ms ρ h = .ok (ws, h') ∧ FinL K cm mu Z H ws h' Q
/-- how a statement ends -/
def Fl.post (K : PySem.W.Frag) (cm : Nat → Addr) (mu : List Addr) (Z H : Hp) (D : Ends) (f : Fl) (ρ' : Env) (h' : Hh) : Prop :=
  ∀ mu' Z' H', Ext mu Z H mu' Z' H' → RelH K cm mu' Z' H' h' → match f with
    | .nx => ∀ σ', Sl K cm mu' Z' ρ' σ' → D.nx σ' H'
    | .bk => ∀ σ', Sl K cm mu' Z' ρ' σ' → D.bk σ' H'
    | .ct => ∀ σ', Sl K cm mu' Z' ρ' σ' → D.ct σ' H'
    | .rt w => ∀ v, RW K cm mu' Z' w v → D.rt v H'
def tOS (K : PySem.W.Frag) (cm : Nat → Addr) (m : DS) : TS := fun D σ H => ∃ mu Z ρ h f ρ' h', RelH K cm mu Z H h ∧ Sl K cm mu Z ρ σ ∧ m ρ h = .ok (f, ρ', h') ∧ f.post K cm mu Z H D ρ' h'
/-- only these slots differ -/
def But (own : List Nat) (σ σ' : L2.St) : Prop := ∀ vs : List Nat, (∀ i ∈ own, i ∈ vs) → wipe σ' vs = wipe σ vs
def tOG (K : PySem.W.Frag) (cm : Nat → Addr) (own : List Nat) (t : DT) : TG := fun v σ H Q => ∃ mu Z ρ h w ρ' h', RelH K cm mu Z H h ∧ Sl K cm mu Z ρ σ ∧ RW K cm mu Z w v ∧ t w ρ h = .ok (ρ', h') ∧
  ∀ mu' Z' H' σ', Ext mu Z H mu' Z' H' → RelH K cm mu' Z' H' h' → Sl K cm mu' Z' ρ' σ' → But own σ σ' → Q σ' H'
def tOGs (K : PySem.W.Frag) (cm : Nat → Addr) (own : List Nat) (ts : List DT) : TGs := fun vs σ H Q => ∃ mu Z ρ h ws ρ' h', RelH K cm mu Z H h ∧ Sl K cm mu Z ρ σ ∧ RWs K cm mu Z ws vs ∧ tL ts ws ρ h = .ok (ρ', h') ∧
  ∀ mu' Z' H' σ', Ext mu Z H mu' Z' H' → RelH K cm mu' Z' H' h' → Sl K cm mu' Z' ρ' σ' → But own σ σ' → Q σ' H'
abbrev QE (X : Cx) (cm : Nat → Addr) (e : Expr) (m : DE) : Prop := PE X e (tO X.K cm m)
abbrev QT (X : Cx) (cm : Nat → Addr) (e : Expr) (m : DE) : Prop := PT X e (tOT X.K cm m)
abbrev QL (X : Cx) (cm : Nat → Addr) (es : List Expr) (ms : List DE) : Prop := PA X es (tOL X.K cm ms)
abbrev QS (X : Cx) (cm : Nat → Addr) (s : Stmt) (m : DS) : Prop := PS X s (tOS X.K cm m)
abbrev QSs (X : Cx) (cm : Nat → Addr) (s : List Stmt) (m : DS) : Prop := PSs X s (tOS X.K cm m)
abbrev QG (X : Cx) (cm : Nat → Addr) (own : List Nat) (e : Expr) (t : DT) : Prop := PG X e (tOG X.K cm own t)
abbrev QGs (X : Cx) (cm : Nat → Addr) (own : List Nat) (es : List Expr) (ts : List DT) : Prop := PGs X es (tOGs X.K cm own ts)

section
variable {X : Cx}
theorem PE.wk {e : Expr} {t t' : TE} (h : PE X e t) (i : ∀ σ H Q, t' σ H Q → t σ H Q) : PE X e t' := ⟨fun pins s σ H Q I q => h.run pins s σ H Q I (i σ H Q q)⟩
theorem PT.wk {e : Expr} {t t' : TT} (h : PT X e t) (i : ∀ σ H Q, t' σ H Q → t σ H Q) : PT X e t' := ⟨fun pins s σ H Q I q => h.run pins s σ H Q I (i σ H Q q)⟩
theorem PW.wk {e : Expr} {t t' : TT} (h : PW X e t) (i : ∀ σ H Q, t' σ H Q → t σ H Q) : PW X e t' := ⟨fun wh pins s σ H Q I q => h.run wh pins s σ H Q I (i σ H Q q)⟩
theorem PA.wk {es : List Expr} {t t' : TA} (h : PA X es t) (i : ∀ σ H Q, t' σ H Q → t σ H Q) : PA X es t' := ⟨fun pos pins s σ H Q I q => h.run pos pins s σ H Q I (i σ H Q q)⟩
theorem PS.wk {s : Stmt} {t t' : TS} (h : PS X s t) (i : ∀ D σ H, t' D σ H → t D σ H) : PS X s t' := ⟨fun pins s σ H D I q => h.run pins s σ H D I (i D σ H q)⟩
theorem PSs.wk {s : List Stmt} {t t' : TS} (h : PSs X s t) (i : ∀ D σ H, t' D σ H → t D σ H) : PSs X s t' := ⟨fun pins s σ H D I q => h.run pins s σ H D I (i D σ H q)⟩
theorem PG.wk {e : Expr} {t t' : TG} (h : PG X e t) (i : ∀ v σ H Q, t' v σ H Q → t v σ H Q) : PG X e t' := ⟨fun pins s σ H v u Q I r q => h.run pins s σ H v u Q I r (i v σ H Q q)⟩
theorem PGs.wk {e : List Expr} {t t' : TGs} (h : PGs X e t) (i : ∀ v σ H Q, t' v σ H Q → t v σ H Q) : PGs X e t' := ⟨fun pins s σ H v u Q I r q => h.run pins s σ H v u Q I r (i v σ H Q q)⟩
variable {cm : Nat → Addr}

/-! ### names, constants -/
theorem q_var {i : Nat} {x : Str} {pos : Pos} (hN : X.N[i]? = some x) (hv : Vis X.env.scope x) (hd : (x == ("__debug__" : Str)) = false) (hcd : (x == ("__classdict__" : Str)) = false) : QE X cm (.Name x pos) (eV i) := by
  refine PE.wk (pe_var hN hv hd hcd) fun σ H Q q => ?_
  obtain ⟨mu, Z, ρ, h, w, h', r, s, e, f⟩ := q
  unfold eV at e
  split at e
  · rename_i w0 e0
    cases e
    obtain ⟨v, e1, q⟩ := s.at_ i w e0
    exact ⟨v, e1, f.here r q⟩
  · cases e
/-- constants that need no object -/
def plainK : W → V → Bool
  | .non, .non => true
  | .bl a, .bl b => a == b
  | .int a, .int b => a == b
  | .str a, .str b => decide (a = b)
  | _, _ => false
theorem plainK_ok {K : PySem.W.Frag} {mu : List Addr} {Z : Hp} {w : W} {v : V} (e : plainK w v = true) : RW K cm mu Z w v := by
  cases w <;> cases v <;> first | cases e | skip
  · rfl
  · exact congrArg V.bl (eq_of_beq (show (_ == _) = true from e)).symm
  · exact congrArg V.int (eq_of_beq (show (_ == _) = true from e)).symm
  · exact congrArg V.str (of_decide_eq_true (show decide (_ = _) = true from e)).symm
theorem q_const {e : Expr} {w : W} {v : V} (h : PE X e (tC v)) (k : plainK w v = true) : QE X cm e (eK w) := by
  refine PE.wk h fun σ H Q q => ?_
  obtain ⟨mu, Z, ρ, h, w', h', r, s, e, f⟩ := q
  cases e
  exact f.here r (plainK_ok k)

/-! ### operators -/
/-- a rule by values does what f says -/
def Ok1 (K : PySem.W.Frag) (cm : Nat → Addr) (g : F1) (r : V → Hp → VK → Prop) : Prop :=
  ∀ mu Z H h w1 w h' v1 Q, RelH K cm mu Z H h → RW K cm mu Z w1 v1 → g w1 h = .ok (w, h') → Fin K cm mu Z H w h' Q → r v1 H Q
def Ok2 (K : PySem.W.Frag) (cm : Nat → Addr) (g : F2) (r : R2) : Prop :=
  ∀ mu Z H h w1 w2 w h' v1 v2 Q, RelH K cm mu Z H h → RW K cm mu Z w1 v1 → RW K cm mu Z w2 v2 → g w1 w2 h = .ok (w, h') → Fin K cm mu Z H w h' Q → r v1 v2 H Q
def OkL (K : PySem.W.Frag) (cm : Nat → Addr) (g : Fn) (r : List V → Hp → VK → Prop) : Prop :=
  ∀ mu Z H h ws w h' vs Q, RelH K cm mu Z H h → RWs K cm mu Z ws vs → g ws h = .ok (w, h') → Fin K cm mu Z H w h' Q → r vs H Q
theorem tO_bin {K : PySem.W.Frag} {ma mb : DE} {g : F2} {r : R2} (k : Ok2 K cm g r) (σ : L2.St) (H : Hp) (Q : VK) (q : tO K cm (e2 g ma mb) σ H Q) : tOp r (tO K cm ma) (tO K cm mb) σ H Q := by
  obtain ⟨mu, Z, ρ, h, w, h', rl, s, e, f⟩ := q
  obtain ⟨p, e1, e⟩ := Res.bind_eq_ok e
  obtain ⟨p2, e2, e⟩ := Res.bind_eq_ok e
  refine ⟨mu, Z, ρ, h, p.1, p.2, rl, s, e1, fun mu1 Z1 H1 v1 x1 r1 w1 => ?_⟩
  refine ⟨mu1, Z1, ρ, p.2, p2.1, p2.2, r1, s.ext x1, e2, fun mu2 Z2 H2 v2 x2 r2 w2 => ?_⟩
  exact k mu2 Z2 H2 p2.2 p.1 p2.1 w h' v1 v2 Q r2 (w1.mono x2.z x2.m) w2 e (f.ext (x1.trans x2))
theorem q_bin {op : Operator} {r : R2} {g : F2} {a b : Expr} {ma mb : DE} {pos : Pos} (ho : OpR X (binaryOp op) r) (k : Ok2 X.K cm g r) (ha : QE X cm a ma) (hb : QE X cm b mb) : QE X cm (.BinOp a op b pos) (e2 g ma mb) :=
  PE.wk (pe_op ho ha hb) fun σ H Q q => tO_bin k σ H Q q
theorem q_cmp {op : CmpOp} {r : R2} {g : F2} {a b : Expr} {ma mb : DE} {pos : Pos} (ho : OpR X (compareOp op) r) (k : Ok2 X.K cm g r) (ha : QE X cm a ma) (hb : QE X cm b mb) (hm : behindInMarks op b = false) : QE X cm (.Compare a [op] [b] pos) (e2 g ma mb) :=
  PE.wk (pe_cmpR ho ha hb hm) fun σ H Q q => tO_bin k σ H Q q
theorem q_un {op : UnaryOp} {r : V → Hp → VK → Prop} {g : F1} {a : Expr} {ma : DE} {pos : Pos} (ho : UnR X (unaryOp op) r) (k : Ok1 X.K cm g r) (ha : QE X cm a ma) : QE X cm (.UnaryOp op a pos) (e1 g ma) := by
  refine PE.wk (pe_un ho ha) fun σ H Q q => ?_
  obtain ⟨mu, Z, ρ, h, w, h', rl, s, e, f⟩ := q
  obtain ⟨p, e1, e⟩ := Res.bind_eq_ok e
  exact ⟨mu, Z, ρ, h, p.1, p.2, rl, s, e1, fun mu1 Z1 H1 v1 x1 r1 w1 => k mu1 Z1 H1 p.2 p.1 w h' v1 Q r1 w1 e (f.ext x1)⟩
theorem q_ix {r : R2} {g : F2} {a b : Expr} {ma mb : DE} {pos : Pos} (ho : IxR X r) (k : Ok2 X.K cm g r) (ha : QE X cm a ma) (hb : QE X cm b mb) (hs : PlainIx b) : QE X cm (.Subscript a b pos) (e2 g ma mb) :=
  PE.wk (pe_ix ho ha hb hs) fun σ H Q q => tO_bin k σ H Q q

/-! ### argument lists -/
theorem ql_nil : QL X cm [] [] := by
  refine PA.wk pa_nil fun σ H Q q => ?_
  obtain ⟨mu, Z, ρ, h, ws, h', rl, s, e, f⟩ := q
  cases e
  exact f mu Z H [] Ext.refl rl rfl
theorem ql_cons {e : Expr} {es : List Expr} {m : DE} {ms : List DE} (ha : QE X cm e m) (hr : QL X cm es ms) (hs : starEach (e :: es) X.env = (false, eval e X.env) :: starEach es X.env) : QL X cm (e :: es) (m :: ms) := by
  refine PA.wk (pa_cons ha hr hs) fun σ H Q q => ?_
  obtain ⟨mu, Z, ρ, h, ws, h', rl, s, e, f⟩ := q
  obtain ⟨p, e1, e⟩ := Res.bind_eq_ok e
  obtain ⟨p2, e2, e⟩ := Res.bind_eq_ok e
  cases e
  refine ⟨mu, Z, ρ, h, p.1, p.2, rl, s, e1, fun mu1 Z1 H1 v1 x1 r1 w1 => ?_⟩
  refine ⟨mu1, Z1, ρ, p.2, p2.1, p2.2, r1, s.ext x1, e2, fun mu2 Z2 H2 vs x2 r2 ws2 => ?_⟩
  exact f mu2 Z2 H2 (v1 :: vs) (x1.trans x2) r2 ⟨v1, vs, rfl, w1.mono x2.z x2.m, ws2⟩
theorem RWs.one {K : PySem.W.Frag} {mu : List Addr} {Z : Hp} {w : W} {vs : List V} (h : RWs K cm mu Z [w] vs) : ∃ v, vs = [v] ∧ RW K cm mu Z w v := by
  obtain ⟨v, r, e, h1, h2⟩ := h
  have h2 : r = [] := h2
  subst h2
  exact ⟨v, e, h1⟩
theorem RWs.two {K : PySem.W.Frag} {mu : List Addr} {Z : Hp} {w u : W} {vs : List V} (h : RWs K cm mu Z [w, u] vs) : ∃ v x, vs = [v, x] ∧ RW K cm mu Z w v ∧ RW K cm mu Z u x := by
  obtain ⟨v, r, e, h1, h2⟩ := h
  obtain ⟨x, rfl, h3⟩ := h2.one
  exact ⟨v, x, e, h1, h3⟩
theorem RWs.length {K : PySem.W.Frag} {mu : List Addr} {Z : Hp} : ∀ {ws : List W} {vs : List V}, RWs K cm mu Z ws vs → vs.length = ws.length
  | [], vs, h => by
    have h : vs = [] := h
    rw [h] <;> rfl
  | w :: ws, vs, h => by
    obtain ⟨v, r, e, _, h2⟩ := h
    rw [e, List.length_cons, List.length_cons, RWs.length h2]
theorem RWs.get {K : PySem.W.Frag} {mu : List Addr} {Z : Hp} : ∀ {ws : List W} {vs : List V} {i : Nat} {w : W}, RWs K cm mu Z ws vs → ws[i]? = some w → ∃ v, vs[i]? = some v ∧ RW K cm mu Z w v
  | [], _, _, _, _, e => by cases e
  | w :: ws, _, 0, _, h, e => by
    obtain ⟨v, r, rfl, h1, _⟩ := h
    cases e
    exact ⟨v, rfl, h1⟩
  | w :: ws, _, i + 1, u, h, e => by
    obtain ⟨v, r, rfl, _, h2⟩ := h
    exact RWs.get (i := i) h2 e
theorem RWs.append {K : PySem.W.Frag} {mu : List Addr} {Z : Hp} : ∀ {ws us : List W} {vs xs : List V}, RWs K cm mu Z ws vs → RWs K cm mu Z us xs → RWs K cm mu Z (ws ++ us) (vs ++ xs)
  | [], us, vs, xs, h, g => by
    have h : vs = [] := h
    subst h
    exact g
  | w :: ws, us, _, xs, h, g => by
    obtain ⟨v, r, rfl, h1, h2⟩ := h
    exact ⟨v, r ++ xs, rfl, h1, RWs.append h2 g⟩
theorem RWs.set {K : PySem.W.Frag} {mu : List Addr} {Z : Hp} {u : W} {x : V} (q : RW K cm mu Z u x) : ∀ {ws : List W} {vs : List V} (i : Nat), RWs K cm mu Z ws vs → RWs K cm mu Z (ws.set i u) (vs.set i x)
  | [], vs, i, h => by
    have h : vs = [] := h
    subst h
    exact rfl
  | w :: ws, _, 0, h => by
    obtain ⟨v, r, rfl, h1, h2⟩ := h
    exact ⟨x, r, rfl, q, h2⟩
  | w :: ws, _, i + 1, h => by
    obtain ⟨v, r, rfl, h1, h2⟩ := h
    exact ⟨v, r.set i x, rfl, h1, RWs.set q i h2⟩
theorem RWs.take {K : PySem.W.Frag} {mu : List Addr} {Z : Hp} : ∀ {ws : List W} {vs : List V} (i : Nat), RWs K cm mu Z ws vs → RWs K cm mu Z (ws.take i) (vs.take i)
  | [], vs, i, h => by
    have h : vs = [] := h
    subst h
    simp [RWs]
  | w :: ws, _, 0, h => rfl
  | w :: ws, _, i + 1, h => by
    obtain ⟨v, r, rfl, h1, h2⟩ := h
    exact ⟨v, r.take i, rfl, h1, RWs.take i h2⟩
theorem RWs.drop {K : PySem.W.Frag} {mu : List Addr} {Z : Hp} : ∀ {ws : List W} {vs : List V} (i : Nat), RWs K cm mu Z ws vs → RWs K cm mu Z (ws.drop i) (vs.drop i)
  | [], vs, i, h => by
    have h : vs = [] := h
    subst h
    simp [RWs]
  | w :: ws, _, 0, h => h
  | w :: ws, _, i + 1, h => by
    obtain ⟨v, r, rfl, h1, h2⟩ := h
    exact RWs.drop i h2
theorem RWs.reverse {K : PySem.W.Frag} {mu : List Addr} {Z : Hp} : ∀ {ws : List W} {vs : List V}, RWs K cm mu Z ws vs → RWs K cm mu Z ws.reverse vs.reverse
  | [], vs, h => by
    have h : vs = [] := h
    subst h
    exact rfl
  | w :: ws, _, h => by
    obtain ⟨v, r, rfl, h1, h2⟩ := h
    rw [List.reverse_cons, List.reverse_cons]
    exact RWs.append (RWs.reverse h2) ⟨v, [], rfl, h1, rfl⟩

/-! ### and, or, not, if -/
theorem q_one {op : BoolOp} {e : Expr} {m : DE} {pos : Pos} (h : QE X cm e m) : QE X cm (.BoolOp op [e] pos) m := pe_one h
end
end Ti


/-! Ti: truth, and, or, not, if; statements, targets, while. -/
namespace Ti
open PySem PySem.Spec PyProof.Rows L2
section
variable {K : PySem.W.Frag} {cm : Nat → Addr} {mu : List Addr} {Z H : Hp} {h : Hh} {w : W} {v : V} {ws : List W} {kd : Bool} {kvs : List (HK × W)}
theorem RelH.lstZ (r : RelH K cm mu Z H h) {a : Addr} {vs : List V} (e : Z a = some (.lst vs)) : H a = some (.lst vs) := r.zh a _ e
theorem RelH.tupZ (r : RelH K cm mu Z H h) {a : Addr} {vs : List V} (e : Z a = some (.tup vs)) : H a = some (.tup vs) := r.zh a _ e
theorem RelH.at_ (r : RelH K cm mu Z H h) {i : Nat} {a : Addr} {c : Cell} (m : mu[i]? = some a) (e : h[i]? = some c) : CellR K cm Z H a c := r.cell i a c m e
/-- a list, wherever it stands -/
theorem asL_ok (r : RelH K cm mu Z H h) (q : RW K cm mu Z w v) (e : asL h w = some ws) : ∃ a vs, v = .ref a ∧ H a = some (.lst vs) ∧ RWs K cm mu Z ws vs := by
  cases w with
  | lst us =>
    cases e
    obtain ⟨a, vs, e1, z, rs⟩ := q
    exact ⟨a, vs, e1, r.lstZ z, rs⟩
  | ref i =>
    obtain ⟨a, e1, m⟩ := q
    have e : (match h[i]? with | some (.lst ws) => some ws | some (.frz (.lst ws)) => some ws | _ => none) = some ws := e
    split at e
    · rename_i e2
      cases e
      obtain ⟨_, n, vs, e3, rs⟩ := (show Z a = none ∧ nors ws = true ∧ ∃ vs, H a = some (.lst vs) ∧ RWs K cm [] Z ws vs from r.at_ m e2)
      exact ⟨a, vs, e1, e3, RWs.any n rs⟩
    · rename_i e2
      cases e
      obtain ⟨n, q2⟩ := (show nor (.lst ws) = true ∧ RW K cm [] Z (.lst ws) (.ref a) from r.at_ m e2)
      obtain ⟨a', vs, e3, z, rs⟩ := q2
      cases e3
      exact ⟨a, vs, e1, r.lstZ z, RWs.any n rs⟩
    · cases e
  | _ => cases e
theorem asD_ok (r : RelH K cm mu Z H h) (q : RW K cm mu Z w v) (e : asD h w = some (kd, kvs)) : ∃ a, v = .ref a ∧ norK kvs = norK kvs ∧ if kd then ∃ ks vs, KeysT (kvs.map (·.1)) ks ∧ Rd H a (.dT (ks.zip vs)) ∧ ks.length = vs.length ∧ RWk K cm mu Z kvs vs
      else ∃ ks vs, KeysK (kvs.map (·.1)) ks ∧ Rd H a (.dK (ks.zip vs)) ∧ ks.length = vs.length ∧ RWk K cm mu Z kvs vs := by
  have zk : ∀ {a : Addr} {kd : Bool} {kvs : List (HK × W)} {m : List Addr}, (if kd then ∃ ks vs, KeysT (kvs.map (·.1)) ks ∧ Z a = some (.dT (ks.zip vs)) ∧ ks.length = vs.length ∧ RWk K cm m Z kvs vs
      else ∃ ks vs, KeysK (kvs.map (·.1)) ks ∧ Z a = some (.dK (ks.zip vs)) ∧ ks.length = vs.length ∧ RWk K cm m Z kvs vs) →
      (m = mu ∨ norK kvs = true) → (if kd then ∃ ks vs, KeysT (kvs.map (·.1)) ks ∧ Rd H a (.dT (ks.zip vs)) ∧ ks.length = vs.length ∧ RWk K cm mu Z kvs vs
      else ∃ ks vs, KeysK (kvs.map (·.1)) ks ∧ Rd H a (.dK (ks.zip vs)) ∧ ks.length = vs.length ∧ RWk K cm mu Z kvs vs) := by
    intro a kd kvs m q hm
    have mv : ∀ vs, RWk K cm m Z kvs vs → RWk K cm mu Z kvs vs := fun vs q => by
      rcases hm with e | n
      · rw [← e]; exact q
      · exact RWk.any n q
    cases kd with
    | true =>
      obtain ⟨ks, vs, h1, h2, h3, h4⟩ := (show ∃ ks vs, KeysT (kvs.map (·.1)) ks ∧ Z a = some (.dT (ks.zip vs)) ∧ ks.length = vs.length ∧ RWk K cm m Z kvs vs from q)
      exact ⟨ks, vs, h1, r.zh a _ h2, h3, mv vs h4⟩
    | false =>
      obtain ⟨ks, vs, h1, h2, h3, h4⟩ := (show ∃ ks vs, KeysK (kvs.map (·.1)) ks ∧ Z a = some (.dK (ks.zip vs)) ∧ ks.length = vs.length ∧ RWk K cm m Z kvs vs from q)
      exact ⟨ks, vs, h1, r.zh a _ h2, h3, mv vs h4⟩
  cases w with
  | dic kd' us =>
    cases e
    obtain ⟨a, e1, q⟩ := q
    exact ⟨a, e1, rfl, zk q (.inl rfl)⟩
  | ref i =>
    obtain ⟨a, e1, m⟩ := q
    have e : (match h[i]? with | some (.dic kd kvs) => some (kd, kvs) | some (.frz (.dic kd kvs)) => some (kd, kvs) | _ => none) = some (kd, kvs) := e
    split at e
    · rename_i e2
      cases e
      refine ⟨a, e1, rfl, ?_⟩
      obtain ⟨_, n, q⟩ := (show Z a = none ∧ norK kvs = true ∧ if kd then ∃ ks vs, KeysT (kvs.map (·.1)) ks ∧ H a = some (.dT (ks.zip vs)) ∧ ks.length = vs.length ∧ RWk K cm [] Z kvs vs
        else ∃ ks vs, KeysK (kvs.map (·.1)) ks ∧ H a = some (.dK (ks.zip vs)) ∧ ks.length = vs.length ∧ RWk K cm [] Z kvs vs from r.at_ m e2)
      cases kd with
      | true =>
        obtain ⟨ks, vs, h1, h2, h3, h4⟩ := (show ∃ ks vs, KeysT (kvs.map (·.1)) ks ∧ H a = some (.dT (ks.zip vs)) ∧ ks.length = vs.length ∧ RWk K cm [] Z kvs vs from q)
        exact ⟨ks, vs, h1, .inl h2, h3, RWk.any n h4⟩
      | false =>
        obtain ⟨ks, vs, h1, h2, h3, h4⟩ := (show ∃ ks vs, KeysK (kvs.map (·.1)) ks ∧ H a = some (.dK (ks.zip vs)) ∧ ks.length = vs.length ∧ RWk K cm [] Z kvs vs from q)
        exact ⟨ks, vs, h1, .inl h2, h3, RWk.any n h4⟩
    · rename_i e2
      cases e
      obtain ⟨n, a', e3, q2⟩ := (show nor (.dic kd kvs) = true ∧ RW K cm [] Z (.dic kd kvs) (.ref a) from r.at_ m e2)
      cases e3
      exact ⟨a, e1, rfl, zk q2 (.inr n)⟩
    · cases e
  | _ => cases e
theorem truthy_ok (r : RelH K cm mu Z H h) (q : RW K cm mu Z w v) {k : Bool} (e : truthy h w = some k) : TruV K v H k := by
  have lst : ∀ {us : List W}, asL h w = some us → k = !us.isEmpty → TruV K v H k := fun {us} e1 e2 => by
    obtain ⟨a, vs, rfl, e3, rs⟩ := asL_ok r q e1
    refine .inl ⟨vs, SqL.of e3, ?_⟩
    rw [e2]
    have := rs.length
    cases us <;> cases vs <;> first | rfl | cases this
  cases w with
  | non => cases e; cases q; rfl
  | bl b => cases e; cases q; rfl
  | int i => cases e; cases q; rfl
  | str x =>
    have q : v = .str x := q
    subst q
    have e : (if x.length ≤ lineW then some (x.length != 0) else none) = some k := e
    split at e
    · rename_i hl
      cases e
      refine ⟨hl, ?_⟩
      cases hx : x.length with
      | zero => rfl
      | succ n => rfl
    · cases e
  | tup us =>
    cases e
    obtain ⟨a, vs, rfl, z, rs⟩ := q
    refine .inr (.inl ⟨vs, SqT.of (r.tupZ z), ?_⟩)
    have := rs.length
    cases us <;> cases vs <;> first | rfl | cases this
  | lst us =>
    cases e
    exact lst rfl rfl
  | ref i =>
    have e : (asL h (.ref i)).map (fun ws => !ws.isEmpty) = some k := e
    cases e1 : asL h (.ref i) with
    | none => rw [e1] at e; cases e
    | some us =>
      rw [e1] at e
      cases e
      exact lst e1 rfl
  | _ => cases e
end
section
variable {X : Cx} {cm : Nat → Addr} {a b c : Expr} {ma mb mc : DE} {rest : List Expr} {pos : Pos}
theorem q_and (ha : QE X cm a ma) (hb : QE X cm (.BoolOp .And (b :: rest) pos) mb) : QE X cm (.BoolOp .And (a :: b :: rest) pos) (eAnd ma mb) := by
  refine PE.wk (pe_andT ha hb) fun σ H Q q => ?_
  obtain ⟨mu, Z, ρ, h, w, h', rl, s, e, f⟩ := q
  obtain ⟨p, e1, e⟩ := Res.bind_eq_ok e
  obtain ⟨k, e2, e⟩ := Res.bind_eq_ok e
  refine ⟨mu, Z, ρ, h, p.1, p.2, rl, s, e1, fun mu1 Z1 H1 v1 x1 r1 w1 => ⟨k, truthy_ok r1 w1 (ofO_eq_ok e2), ?_⟩⟩
  cases k with
  | true => exact ⟨mu1, Z1, ρ, p.2, w, h', r1, s.ext x1, e, f.ext x1⟩
  | false =>
    have e : Res.ok p = .ok (w, h') := e
    cases e
    exact f _ _ _ _ x1 r1 w1
theorem q_or (ha : QE X cm a ma) (hb : QE X cm (.BoolOp .Or (b :: rest) pos) mb) : QE X cm (.BoolOp .Or (a :: b :: rest) pos) (eOr ma mb) := by
  refine PE.wk (pe_orT ha hb) fun σ H Q q => ?_
  obtain ⟨mu, Z, ρ, h, w, h', rl, s, e, f⟩ := q
  obtain ⟨p, e1, e⟩ := Res.bind_eq_ok e
  obtain ⟨k, e2, e⟩ := Res.bind_eq_ok e
  refine ⟨mu, Z, ρ, h, p.1, p.2, rl, s, e1, fun mu1 Z1 H1 v1 x1 r1 w1 => ⟨k, truthy_ok r1 w1 (ofO_eq_ok e2), ?_⟩⟩
  cases k with
  | true =>
    have e : Res.ok p = .ok (w, h') := e
    cases e
    exact f _ _ _ _ x1 r1 w1
  | false => exact ⟨mu1, Z1, ρ, p.2, w, h', r1, s.ext x1, e, f.ext x1⟩
theorem q_not (ha : QE X cm a ma) : QE X cm (.UnaryOp .Not a pos) (eNot ma) := by
  refine PE.wk (pe_notT ha) fun σ H Q q => ?_
  obtain ⟨mu, Z, ρ, h, w, h', rl, s, e, f⟩ := q
  obtain ⟨p, e1, e⟩ := Res.bind_eq_ok e
  obtain ⟨k, e2, e⟩ := Res.bind_eq_ok e
  cases e
  exact ⟨mu, Z, ρ, h, p.1, p.2, rl, s, e1, fun mu1 Z1 H1 v1 x1 r1 w1 => ⟨k, truthy_ok r1 w1 (ofO_eq_ok e2), f _ _ _ _ x1 r1 rfl⟩⟩
theorem q_if (hc : QT X cm c mc) (ha : QE X cm a ma) (hb : QE X cm b mb) : QE X cm (.IfExp c a b pos) (eIf mc ma mb) := by
  refine PE.wk (pe_ifExp hc ha hb) fun σ H Q q => ?_
  obtain ⟨mu, Z, ρ, h, w, h', rl, s, e, f⟩ := q
  obtain ⟨p, e1, e⟩ := Res.bind_eq_ok e
  obtain ⟨k, e2, e⟩ := Res.bind_eq_ok e
  refine ⟨mu, Z, ρ, h, p.1, p.2, k, rl, s, e1, ofO_eq_ok e2, fun mu1 Z1 H1 x1 r1 => ?_⟩
  cases k with
  | true => exact ⟨mu1, Z1, ρ, p.2, w, h', r1, s.ext x1, e, f.ext x1⟩
  | false => exact ⟨mu1, Z1, ρ, p.2, w, h', r1, s.ext x1, e, f.ext x1⟩
/-! ### tests -/
theorem qt_truth (ha : QE X cm a ma) (he : ∀ whole, isTrue a X.env whole = (do let v ← whole; standAt a.pos; holding [v] (PySem.truthy v))) : QT X cm a ma := by
  refine PT.wk (pt_truth ha he) fun σ H Q q => ?_
  obtain ⟨mu, Z, ρ, h, w, h', k, rl, s, e, t, f⟩ := q
  exact ⟨mu, Z, ρ, h, w, h', rl, s, e, fun mu1 Z1 H1 v1 x1 r1 w1 => ⟨k, truthy_ok r1 w1 t, f _ _ _ x1 r1⟩⟩
/-- an operation that gives True or False -/
def BoolG (g : F2) : Prop := ∀ x y h w h', g x y h = .ok (w, h') → ∃ k, w = .bl k
theorem qt_cmp {op : CmpOp} {r : R2} {g : F2} (ho : OpR X (compareOp op) r) (k : Ok2 X.K cm g r) (kb : BoolG g) (ha : QE X cm a ma) (hb : QE X cm b mb) (hm : behindInMarks op b = false) : QT X cm (.Compare a [op] [b] pos) (e2 g ma mb) := by
  refine PT.wk (pt_cmpR ho ha hb hm) fun σ H Q q => ?_
  obtain ⟨mu, Z, ρ, h, w, h', t, rl, s, e, tt, f⟩ := q
  refine tO_bin k σ H _ ⟨mu, Z, ρ, h, w, h', rl, s, e, fun mu1 Z1 H1 v1 x1 r1 w1 => ?_⟩
  obtain ⟨p, e1, e⟩ := Res.bind_eq_ok e
  obtain ⟨p2, e2, e⟩ := Res.bind_eq_ok e
  obtain ⟨d, rfl⟩ := kb _ _ _ _ _ e
  cases tt
  exact ⟨_, w1, f _ _ _ x1 r1⟩
theorem qt_not (ha : QT X cm a ma) : QT X cm (.UnaryOp .Not a pos) (eNot ma) := by
  refine PT.wk (pt_not ha) fun σ H Q q => ?_
  obtain ⟨mu, Z, ρ, h, w, h', k, rl, s, e, tt, f⟩ := q
  obtain ⟨p, e1, e⟩ := Res.bind_eq_ok e
  obtain ⟨k2, e2, e⟩ := Res.bind_eq_ok e
  cases e
  cases tt
  exact ⟨mu, Z, ρ, h, p.1, p.2, k2, rl, s, e1, ofO_eq_ok e2, fun mu1 Z1 H1 x1 r1 => f _ _ _ x1 r1⟩
abbrev QW (X : Cx) (cm : Nat → Addr) (e : Expr) (m : DE) : Prop := PW X e (tOT X.K cm m)
theorem qw_and1 (ha : QT X cm a ma) : QW X cm (.BoolOp .And [a] pos) ma := pw_and1 ha
theorem qw_or1 (ha : QT X cm a ma) : QW X cm (.BoolOp .Or [a] pos) ma := pw_or1 ha
theorem qw_and (ha : QT X cm a ma) (hb : QW X cm (.BoolOp .And (b :: rest) pos) mb) : QW X cm (.BoolOp .And (a :: b :: rest) pos) (eAnd ma mb) := by
  refine PW.wk (pw_and ha hb) fun σ H Q q => ?_
  obtain ⟨mu, Z, ρ, h, w, h', k, rl, s, e, tt, f⟩ := q
  obtain ⟨p, e1, e⟩ := Res.bind_eq_ok e
  obtain ⟨k2, e2, e⟩ := Res.bind_eq_ok e
  refine ⟨mu, Z, ρ, h, p.1, p.2, k2, rl, s, e1, ofO_eq_ok e2, fun mu1 Z1 H1 x1 r1 => ?_⟩
  cases k2 with
  | true => exact ⟨mu1, Z1, ρ, p.2, w, h', k, r1, s.ext x1, e, tt, fun m z hh x r => f m z hh (x1.trans x) r⟩
  | false =>
    have e : Res.ok p = .ok (w, h') := e
    cases e
    have := (ofO_eq_ok e2).symm.trans tt
    cases this
    exact f _ _ _ x1 r1
theorem qw_or (ha : QT X cm a ma) (hb : QW X cm (.BoolOp .Or (b :: rest) pos) mb) : QW X cm (.BoolOp .Or (a :: b :: rest) pos) (eOr ma mb) := by
  refine PW.wk (pw_or ha hb) fun σ H Q q => ?_
  obtain ⟨mu, Z, ρ, h, w, h', k, rl, s, e, tt, f⟩ := q
  obtain ⟨p, e1, e⟩ := Res.bind_eq_ok e
  obtain ⟨k2, e2, e⟩ := Res.bind_eq_ok e
  refine ⟨mu, Z, ρ, h, p.1, p.2, k2, rl, s, e1, ofO_eq_ok e2, fun mu1 Z1 H1 x1 r1 => ?_⟩
  cases k2 with
  | true =>
    have e : Res.ok p = .ok (w, h') := e
    cases e
    have := (ofO_eq_ok e2).symm.trans tt
    cases this
    exact f _ _ _ x1 r1
  | false => exact ⟨mu1, Z1, ρ, p.2, w, h', k, r1, s.ext x1, e, tt, fun m z hh x r => f m z hh (x1.trans x) r⟩
/-! ### chains -/
theorem tO_chain {K : PySem.W.Frag} {g g' : F2} {r r' : R2} (k : Ok2 K cm g r) (k' : Ok2 K cm g' r') (σ : L2.St) (H : Hp) (Q : VK) (q : tO K cm (eChain g g' ma mb mc) σ H Q) : tChain r r' (tO K cm ma) (tO K cm mb) (tO K cm mc) σ H Q := by
  obtain ⟨mu, Z, ρ, h, w, h', rl, s, e, f⟩ := q
  obtain ⟨p, e1, e⟩ := Res.bind_eq_ok e
  obtain ⟨p2, e2, e⟩ := Res.bind_eq_ok e
  obtain ⟨p3, e3, e⟩ := Res.bind_eq_ok e
  refine ⟨mu, Z, ρ, h, p.1, p.2, rl, s, e1, fun mu1 Z1 H1 v1 x1 r1 w1 => ?_⟩
  refine ⟨mu1, Z1, ρ, p.2, p2.1, p2.2, r1, s.ext x1, e2, fun mu2 Z2 H2 v2 x2 r2 w2 => ?_⟩
  refine k mu2 Z2 H2 p2.2 p.1 p2.1 p3.1 p3.2 v1 v2 _ r2 (w1.mono x2.z x2.m) w2 e3 fun mu3 Z3 H3 v3 x3 r3 w3 => ?_
  obtain ⟨u3, h3⟩ := p3
  cases u3 with
  | bl d =>
    refine ⟨d, w3, ?_⟩
    cases d with
    | true =>
      have e : ((mc ρ h3).bind fun s => g' p2.1 s.1 s.2) = .ok (w, h') := e
      obtain ⟨p4, e4, e⟩ := Res.bind_eq_ok e
      have x13 := x1.trans (x2.trans x3)
      refine ⟨mu3, Z3, ρ, h3, p4.1, p4.2, r3, s.ext x13, e4, fun mu4 Z4 H4 v4 x4 r4 w4 => ?_⟩
      exact k' mu4 Z4 H4 p4.2 p2.1 p4.1 w h' v2 v4 Q r4 ((w2.mono x3.z x3.m).mono x4.z x4.m) w4 e (f.ext (x13.trans x4))
    | false =>
      have e : Res.ok (W.bl false, h3) = .ok (w, h') := e
      cases e
      exact f _ _ _ _ (x1.trans (x2.trans x3)) r3 rfl
  | _ => cases e
theorem q_chain {op op' : CmpOp} {r r' : R2} {g g' : F2} (ho : OpR X (compareOp op) r) (ho' : OpR X (compareOp op') r') (k : Ok2 X.K cm g r) (k' : Ok2 X.K cm g' r') (ha : QE X cm a ma) (hb : QE X cm b mb) (hc : QE X cm c mc)
    (hm : lastMarks [op, op'] [b, c] = false) : QE X cm (.Compare a [op, op'] [b, c] pos) (eChain g g' ma mb mc) :=
  PE.wk (pe_chain ho ho' ha hb hc hm) fun σ H Q q => tO_chain k k' σ H Q q
theorem qt_chain {op op' : CmpOp} {r r' : R2} {g g' : F2} (ho : OpR X (compareOp op) r) (ho' : OpR X (compareOp op') r') (k : Ok2 X.K cm g r) (k' : Ok2 X.K cm g' r') (kb : BoolG g') (ha : QE X cm a ma) (hb : QE X cm b mb) (hc : QE X cm c mc)
    (hm : lastMarks [op, op'] [b, c] = false) : QT X cm (.Compare a [op, op'] [b, c] pos) (eChain g g' ma mb mc) := by
  refine PT.wk (pt_chain ho ho' ha hb hc hm) fun σ H Q q => ?_
  obtain ⟨mu, Z, ρ, h, w, h', t, rl, s, e, tt, f⟩ := q
  refine tO_chain k k' σ H _ ⟨mu, Z, ρ, h, w, h', rl, s, e, fun mu1 Z1 H1 v1 x1 r1 w1 => ?_⟩
  have : ∃ d, w = .bl d := by
    obtain ⟨p, e1, e⟩ := Res.bind_eq_ok e
    obtain ⟨p2, e2, e⟩ := Res.bind_eq_ok e
    obtain ⟨p3, e3, e⟩ := Res.bind_eq_ok e
    obtain ⟨u3, h3⟩ := p3
    cases u3 with
    | bl d =>
      cases d with
      | true =>
        have e : ((mc ρ h3).bind fun s => g' p2.1 s.1 s.2) = .ok (w, h') := e
        obtain ⟨p4, e4, e⟩ := Res.bind_eq_ok e
        exact kb _ _ _ _ _ e
      | false =>
        have e : Res.ok (W.bl false, h3) = .ok (w, h') := e
        cases e
        exact ⟨_, rfl⟩
    | _ => cases e
  obtain ⟨d, rfl⟩ := this
  cases tt
  exact ⟨_, w1, f _ _ _ x1 r1⟩
end

/-! ### statements -/
section
variable {X : Cx} {cm : Nat → Addr} {e : Expr} {m : DE} {st : Stmt} {rest : List Stmt} {ms mr : DS} {pos : Pos}
theorem Fl.post.ext {K : PySem.W.Frag} {mu mu' : List Addr} {Z H Z' H' : Hp} {D : Ends} {f : Fl} {ρ' : Env} {h' : Hh} (x : Ext mu Z H mu' Z' H') (p : f.post K cm mu Z H D ρ' h') : f.post K cm mu' Z' H' D ρ' h' :=
  fun m z hh e r => p m z hh (x.trans e) r
theorem qs_nil : QSs X cm [] sNil := by
  refine PSs.wk pss_nil fun D σ H q => ?_
  obtain ⟨mu, Z, ρ, h, f, ρ', h', rl, s, e, p⟩ := q
  cases e
  exact p mu Z H Ext.refl rl σ s
theorem qs_cons (h1 : QS X cm st ms) (h2 : QSs X cm rest mr) : QSs X cm (st :: rest) (sCons ms mr) := by
  refine PSs.wk (pss_cons h1 h2) fun D σ H q => ?_
  obtain ⟨mu, Z, ρ, h, f, ρ', h', rl, s, e, p⟩ := q
  obtain ⟨q, e1, e⟩ := Res.bind_eq_ok e
  obtain ⟨f1, ρ1, h1⟩ := q
  refine ⟨mu, Z, ρ, h, f1, ρ1, h1, rl, s, e1, fun mu1 Z1 H1 x1 r1 => ?_⟩
  cases f1 with
  | nx => exact fun σ1 s1 => ⟨mu1, Z1, ρ1, h1, f, ρ', h', r1, s1, e, p.ext x1⟩
  | rt w =>
    cases e
    exact p _ _ _ x1 r1
  | bk =>
    cases e
    exact p _ _ _ x1 r1
  | ct =>
    cases e
    exact p _ _ _ x1 r1
theorem qs_one (h1 : QS X cm st ms) : QSs X cm [st] ms := pss_one h1
theorem qs_pass : QS X cm (.Pass pos) sPass := by
  refine PS.wk ps_pass fun D σ H q => ?_
  obtain ⟨mu, Z, ρ, h, f, ρ', h', rl, s, e, p⟩ := q
  cases e
  exact p mu Z H Ext.refl rl σ s
theorem qs_brk : QS X cm (.Break pos) sBrk := by
  refine PS.wk ps_break fun D σ H q => ?_
  obtain ⟨mu, Z, ρ, h, f, ρ', h', rl, s, e, p⟩ := q
  cases e
  exact p mu Z H Ext.refl rl σ s
theorem qs_cnt : QS X cm (.Continue pos) sCnt := by
  refine PS.wk ps_continue fun D σ H q => ?_
  obtain ⟨mu, Z, ρ, h, f, ρ', h', rl, s, e, p⟩ := q
  cases e
  exact p mu Z H Ext.refl rl σ s
theorem qs_nev : QS X cm st sNev := by
  refine PS.wk ps_never fun D σ H q => ?_
  obtain ⟨mu, Z, ρ, h, f, ρ', h', rl, s, e, p⟩ := q
  cases e
theorem qs_expr (he : QE X cm e m) (hs : swapsWith e none pos.line X.env = pure false) : QS X cm (.Expr e pos) (sE m) := by
  refine PS.wk (ps_expr he hs) fun D σ H q => ?_
  obtain ⟨mu, Z, ρ, h, f, ρ', h', rl, s, e, p⟩ := q
  obtain ⟨q, e1, e⟩ := Res.bind_eq_ok e
  cases e
  exact ⟨mu, Z, ρ, h, q.1, q.2, rl, s, e1, fun mu1 Z1 H1 v1 x1 r1 w1 => p _ _ _ x1 r1 σ (s.ext x1)⟩
theorem qs_ret (he : QE X cm e m) : QS X cm (.Return (some e) pos) (sRet m) := by
  refine PS.wk (ps_ret he) fun D σ H q => ?_
  obtain ⟨mu, Z, ρ, h, f, ρ', h', rl, s, e, p⟩ := q
  obtain ⟨q, e1, e⟩ := Res.bind_eq_ok e
  cases e
  exact ⟨mu, Z, ρ, h, q.1, q.2, rl, s, e1, fun mu1 Z1 H1 v1 x1 r1 w1 => p _ _ _ x1 r1 v1 w1⟩
theorem qs_retN : QS X cm (.Return none pos) sRetN := by
  refine PS.wk ps_retN fun D σ H q => ?_
  obtain ⟨mu, Z, ρ, h, f, ρ', h', rl, s, e, p⟩ := q
  cases e
  exact p mu Z H Ext.refl rl .non rfl
theorem qs_if {c : Expr} {mc : DE} {a b : List Stmt} {ma mb : DS} (hc : QT X cm c mc) (ha : QSs X cm a ma) (hb : QSs X cm b mb) : QS X cm (.If c a b pos) (sIf mc ma mb) := by
  refine PS.wk (ps_if hc ha hb) fun D σ H q => ?_
  obtain ⟨mu, Z, ρ, h, f, ρ', h', rl, s, e, p⟩ := q
  obtain ⟨q, e1, e⟩ := Res.bind_eq_ok e
  obtain ⟨k, e2, e⟩ := Res.bind_eq_ok e
  refine ⟨mu, Z, ρ, h, q.1, q.2, k, rl, s, e1, ofO_eq_ok e2, fun mu1 Z1 H1 x1 r1 => ?_⟩
  cases k with
  | true => exact ⟨mu1, Z1, ρ, q.2, f, ρ', h', r1, s.ext x1, e, p.ext x1⟩
  | false => exact ⟨mu1, Z1, ρ, q.2, f, ρ', h', r1, s.ext x1, e, p.ext x1⟩
/-! ### targets -/
theorem wipe_set {σ : L2.St} {i : Nat} {y : Option V} : ∀ {vs : List Nat}, i ∈ vs → wipe (σ.set i y) vs = wipe σ vs := by
  have comm : ∀ (vs : List Nat) (σ : L2.St) (i : Nat) (y : Option V), i ∉ vs → wipe (σ.set i y) vs = (wipe σ vs).set i y := by
    intro vs
    induction vs with
    | nil => intros; rfl
    | cons v vs ih =>
      intro σ i y hn
      rw [List.mem_cons, not_or] at hn
      show (wipe (σ.set i y) vs).set v none = ((wipe σ vs).set v none).set i y
      rw [ih σ i y hn.2, List.set_comm _ _ hn.1]
  intro vs
  induction vs with
  | nil => intro h; cases h
  | cons v vs ih =>
    intro h
    show (wipe (σ.set i y) vs).set v none = (wipe σ vs).set v none
    by_cases hi : i ∈ vs
    · rw [ih hi]
    · rcases List.mem_cons.mp h with e | e
      · subst e
        rw [comm vs σ i y hi, List.set_set]
      · exact absurd e hi
theorem qg_name {i : Nat} {x : Str} (hN : X.N.Nodup) (hi : X.N[i]? = some x) (hx : Loc X.env.scope x) (hf : X.fn x = true ∨ X.env.scope.names.lookup x = some .local) : QG X cm [i] (.Name x pos) (tN i) := by
  refine PG.wk (pg_name hN hi hx hf) fun v σ H Q q => ?_
  obtain ⟨mu, Z, ρ, h, w, ρ', h', rl, s, rw_, e, f⟩ := q
  cases e
  refine f mu Z H _ Ext.refl rl (s.set i rw_) fun vs hv => ?_
  exact wipe_set (hv i List.mem_cons_self)
theorem qgs_nil : QGs X cm [] [] [] := by
  refine PGs.wk pgs_nil fun vs σ H Q q => ?_
  obtain ⟨mu, Z, ρ, h, ws, ρ', h', rl, s, rw_, e, f⟩ := q
  cases ws with
  | nil =>
    cases e
    exact ⟨rw_, f mu Z H _ Ext.refl rl s fun _ _ => rfl⟩
  | cons _ _ => cases e
theorem qgs_cons {e : Expr} {es : List Expr} {t : DT} {ts : List DT} {o1 o2 : List Nat} (h1 : QG X cm o1 e t) (h2 : QGs X cm o2 es ts) (hs : (assignEach (e :: es) X.env).map (·.2) = assign e X.env :: (assignEach es X.env).map (·.2)) : QGs X cm (o1 ++ o2) (e :: es) (t :: ts) := by
  refine PGs.wk (pgs_cons h1 h2 hs) fun vs σ H Q q => ?_
  obtain ⟨mu, Z, ρ, h, ws, ρ', h', rl, s, rw_, e, f⟩ := q
  cases ws with
  | nil => cases e
  | cons w ws =>
    obtain ⟨v, r, rfl, w1, w2⟩ := rw_
    obtain ⟨p, e1, e⟩ := Res.bind_eq_ok e
    refine ⟨v, r, rfl, mu, Z, ρ, h, w, p.1, p.2, rl, s, w1, e1, fun mu1 Z1 H1 σ1 x1 r1 s1 b1 => ?_⟩
    exact ⟨mu1, Z1, p.1, p.2, ws, ρ', h', r1, s1, w2.mono x1.z x1.m, e, fun m z hh σ2 x2 r2 s2 b2 => f m z hh σ2 (x1.trans x2) r2 s2 fun vs hv =>
      (b2 vs fun i hi => hv i (List.mem_append_right _ hi)).trans (b1 vs fun i hi => hv i (List.mem_append_left _ hi))⟩
theorem tL_len : ∀ {ts : List DT} {ws : List W} {ρ : Env} {h : Hh} {p : Env × Hh}, tL ts ws ρ h = .ok p → ts.length = ws.length
  | [], [], _, _, _, _ => rfl
  | [], _ :: _, _, _, _, e => by cases e
  | _ :: _, [], _, _, _, e => by cases e
  | t :: ts, w :: ws, ρ, h, p, e => by
    obtain ⟨q, e1, e⟩ := Res.bind_eq_ok e
    rw [List.length_cons, List.length_cons, tL_len e]
theorem qg_tup {es : List Expr} {k : Nat} {ts : List DT} {own : List Nat} (hc : X.calm = true) (h : QGs X cm own es ts) (hn : (assignEach es X.env).length = ts.length) (hst : (assignEach es X.env).findIdx? (·.1) = none) : QG X cm own (.Tuple es k pos) (tT ts) := by
  refine PG.wk (pg_tup hc h hn hst) fun v σ H Q q => ?_
  obtain ⟨mu, Z, ρ, h, w, ρ', h', rl, s, rw_, e, f⟩ := q
  cases w with
  | tup ws =>
    have e : tL ts ws ρ h = .ok (ρ', h') := e
    obtain ⟨a, vs, rfl, z, rs⟩ := rw_
    refine ⟨a, vs, rfl, SqT.of (rl.tupZ z), ?_, mu, Z, ρ, h, ws, ρ', h', rl, s, rs, e, f⟩
    rw [rs.length, tL_len e]
  | _ => cases e
theorem qs_asg {tg : Expr} {t : DT} {own : List Nat} (he : QE X cm e m) (hg : QG X cm own tg t) (hs : swapsWithSole [tg] e pos.line X.env = pure false) (hw : swappedStores [tg] e X.env = pure none)
    (h1 : (assignEach [tg] X.env).map (·.2) = [assign tg X.env]) : QS X cm (.Assign [tg] e pos) (sAsg t m) := by
  refine PS.wk (ps_asg he hg hs hw h1) fun D σ H q => ?_
  obtain ⟨mu, Z, ρ, h, f, ρ', h', rl, s, e, p⟩ := q
  obtain ⟨q, e1, e⟩ := Res.bind_eq_ok e
  obtain ⟨q2, e2, e⟩ := Res.bind_eq_ok e
  cases e
  refine ⟨mu, Z, ρ, h, q.1, q.2, rl, s, e1, fun mu1 Z1 H1 v1 x1 r1 w1 => ?_⟩
  exact ⟨mu1, Z1, ρ, q.2, q.1, ρ', h', r1, s.ext x1, w1, e2, fun mu2 Z2 H2 σ2 x2 r2 s2 _ => p _ _ _ (x1.trans x2) r2 σ2 s2⟩
theorem qs_set {i : Nat} {x : Str} {pos' : Pos} (hN : X.N.Nodup) (hi : X.N[i]? = some x) (hx : Loc X.env.scope x) (he : QE X cm e m) (hs : swapsWith e (some (.Name x pos')) pos.line X.env = pure false) (hf : X.fn x = true ∨ X.env.scope.names.lookup x = some .local) :
    QS X cm (.Assign [.Name x pos'] e pos) (sAsg (tN i) m) := by
  refine PS.wk (ps_set hN hi hx he hs hf) fun D σ H q => ?_
  obtain ⟨mu, Z, ρ, h, f, ρ', h', rl, s, e, p⟩ := q
  obtain ⟨q, e1, e⟩ := Res.bind_eq_ok e
  obtain ⟨q2, e2, e⟩ := Res.bind_eq_ok e
  cases e
  cases e2
  exact ⟨mu, Z, ρ, h, q.1, q.2, rl, s, e1, fun mu1 Z1 H1 v1 x1 r1 w1 => p _ _ _ x1 r1 _ ((s.ext x1).set i w1)⟩
/-- while -/
theorem qs_while {c : Expr} {mc : DE} {body : List Stmt} {mb : DS} (hp : PassesOwn (model X.prog X.w) X.A X.env X.xe) (hc : QT X cm c mc) (hb : QSs X cm body mb) : QS X cm (.While c body [] pos) (sWhile mc mb) := by
  refine PS.wk (ps_while hp hc hb) fun D σ H q => ?_
  obtain ⟨mu, Z, ρ, h, f, ρ', h', rl, s, e, p⟩ := q
  refine ⟨fun n σ H => ∃ mu Z ρ h, RelH X.K cm mu Z H h ∧ Sl X.K cm mu Z ρ σ ∧ whileG mc mb n ρ h = .ok (f, ρ', h') ∧ f.post X.K cm mu Z H D ρ' h', ⟨bigFuel, mu, Z, ρ, h, rl, s, e, p⟩, ?_⟩
  clear rl s e p
  rintro n σ H ⟨mu, Z, ρ, h, rl, s, e, p⟩
  cases n with
  | zero => cases e
  | succ n =>
    obtain ⟨q, e1, e⟩ := Res.bind_eq_ok e
    obtain ⟨k, e2, e⟩ := Res.bind_eq_ok e
    refine ⟨mu, Z, ρ, h, q.1, q.2, k, rl, s, e1, ofO_eq_ok e2, fun mu1 Z1 H1 x1 r1 => ?_⟩
    cases k with
    | false =>
      cases e
      exact p _ _ _ x1 r1 σ (s.ext x1)
    | true =>
      rw [if_pos rfl] at e ⊢
      obtain ⟨q2, e3, e⟩ := Res.bind_eq_ok e
      obtain ⟨f2, ρ2, h2⟩ := q2
      refine ⟨fun σ' H' => ∃ m, m < n + 1 ∧ ∃ mu Z ρ h, RelH X.K cm mu Z H' h ∧ Sl X.K cm mu Z ρ σ' ∧ whileG mc mb m ρ h = .ok (f, ρ', h') ∧ f.post X.K cm mu Z H' D ρ' h', fun σ' H' z => z, ?_⟩
      refine ⟨mu1, Z1, ρ, q.2, f2, ρ2, h2, r1, s.ext x1, e3, fun mu2 Z2 H2 x2 r2 => ?_⟩
      have x12 := x1.trans x2
      cases f2 with
      | nx => exact fun σ' s' => ⟨n, Nat.lt_succ_self n, mu2, Z2, ρ2, h2, r2, s', e, p.ext x12⟩
      | ct => exact fun σ' s' => ⟨n, Nat.lt_succ_self n, mu2, Z2, ρ2, h2, r2, s', e, p.ext x12⟩
      | bk =>
        cases e
        exact fun σ' s' => p _ _ _ x12 r2 σ' s'
      | rt w =>
        cases e
        exact fun v wv => p _ _ _ x12 r2 v wv
end
end Ti


/-! Ti: how a def hands back; for; comprehensions. -/
namespace Ti
open PySem PySem.Spec PyProof.Rows L2
section
variable {K : PySem.W.Frag} {cm : Nat → Addr} {mu mu1 : List Addr} {Z H Z1 H1 : Hp} {h h1 h' : Hh} {w w1 : W} {v : V} {Q : VK}
/-- the cells from n on frozen -/
def frzZ (n : Nat) (mu : List Addr) (Z H : Hp) : Hp := fun a => if a ∈ mu.drop n then (match Z a with | none => H a | some u => some u) else Z a
theorem frzZ_le (n : Nat) (mu : List Addr) (Z H : Hp) : Le Z (frzZ n mu Z H) := fun a u e => by
  unfold frzZ
  split
  · rw [e]
  · exact e
theorem frzZ_new {n : Nat} {a : Addr} {u : HO} (hm : a ∈ mu.drop n) (hz : Z a = none) (hh : H a = some u) : frzZ n mu Z H a = some u := by
  unfold frzZ
  rw [if_pos hm, hz]
  exact hh
theorem mem_drop {n i : Nat} {a : Addr} (e : mu[i]? = some a) (hi : n ≤ i) : a ∈ mu.drop n := by
  apply List.mem_of_getElem? (i := i - n)
  rw [List.getElem?_drop, show n + (i - n) = i by omega]
  exact e
/-- a cell's content, frozen -/
theorem cell_tree {n i : Nat} {a : Addr} {c : Cell} {m : List Addr} (hm : a ∈ mu.drop n) (q : CellR K cm Z H a c) : RW K cm m (frzZ n mu Z H) c.tree (.ref a) := by
  have le := frzZ_le n mu Z H
  have m0 : ∀ (i : Nat) (a : Addr), m[i]? = some a → m[i]? = some a := fun _ _ e => e
  cases c with
  | lst ws =>
    obtain ⟨z, n, vs, e, r⟩ := q
    exact ⟨a, vs, rfl, frzZ_new hm z e, (RWs.any n r).mono le m0⟩
  | dic kd kvs =>
    obtain ⟨z, n, q⟩ := q
    refine ⟨a, rfl, ?_⟩
    cases kd with
    | true =>
      obtain ⟨ks, vs, h1, h2, h3, h4⟩ := (show ∃ ks vs, KeysT (kvs.map (·.1)) ks ∧ H a = some (.dT (ks.zip vs)) ∧ ks.length = vs.length ∧ RWk K cm [] Z kvs vs from q)
      exact ⟨ks, vs, h1, frzZ_new hm z h2, h3, (RWk.any n h4).mono le m0⟩
    | false =>
      obtain ⟨ks, vs, h1, h2, h3, h4⟩ := (show ∃ ks vs, KeysK (kvs.map (·.1)) ks ∧ H a = some (.dK (ks.zip vs)) ∧ ks.length = vs.length ∧ RWk K cm [] Z kvs vs from q)
      exact ⟨ks, vs, h1, frzZ_new hm z h2, h3, (RWk.any n h4).mono le m0⟩
  | obj c fs =>
    obtain ⟨z, n, dx, fvs, e, r⟩ := q
    exact ⟨a, dx, fvs, rfl, frzZ_new hm z e, (RWf.any n r).mono le m0⟩
  | frz w => exact (RW.any q.1 q.2).mono le m0
variable {n : Nat}
mutual
theorem thaw_ok (rl : RelH K cm mu1 Z H h) (hn : ∀ i a, i < n → mu1[i]? = some a → mu[i]? = some a) : ∀ {w t : W} {v : V}, thaw n h w = some t → RW K cm mu1 Z w v → RW K cm mu (frzZ n mu1 Z H) t v
  | .non, _, _, e, q => by cases e; exact q
  | .bl _, _, _, e, q => by cases e; exact q
  | .int _, _, _, e, q => by cases e; exact q
  | .str _, _, _, e, q => by cases e; exact q
  | .scr _, _, _, e, q => by
    cases e
    obtain ⟨a, e1, q⟩ := q
    exact ⟨a, e1, SqL.le (frzZ_le n mu1 Z H) q⟩
  | .tup ws, _, _, e, q => by
    unfold thaw at e
    cases e1 : thaws n h ws with
    | none => rw [e1] at e; cases e
    | some ts =>
      rw [e1] at e
      cases e
      obtain ⟨a, vs, e2, z, r⟩ := q
      exact ⟨a, vs, e2, frzZ_le n mu1 Z H _ _ z, thaws_ok rl hn e1 r⟩
  | .lst ws, _, _, e, q => by
    unfold thaw at e
    cases e1 : thaws n h ws with
    | none => rw [e1] at e; cases e
    | some ts =>
      rw [e1] at e
      cases e
      obtain ⟨a, vs, e2, z, r⟩ := q
      exact ⟨a, vs, e2, frzZ_le n mu1 Z H _ _ z, thaws_ok rl hn e1 r⟩
  | .dic kd kvs, _, _, e, q => by
    unfold thaw at e
    split at e
    · rename_i nn
      cases e
      exact (RW.any (w := .dic kd kvs) nn q).mono (frzZ_le n mu1 Z H) fun _ _ e => e
    · cases e
  | .obj c fs, _, _, e, q => by
    unfold thaw at e
    split at e
    · rename_i nn
      cases e
      exact (RW.any (w := .obj c fs) nn q).mono (frzZ_le n mu1 Z H) fun _ _ e => e
    · cases e
  | .ref i, _, _, e, q => by
    unfold thaw at e
    obtain ⟨a, e1, m⟩ := q
    split at e
    · rename_i hi
      cases e
      exact ⟨a, e1, hn i a hi m⟩
    · rename_i hi
      cases e2 : h[i]? with
      | none => rw [e2] at e; cases e
      | some c =>
        rw [e2] at e
        cases e
        subst e1
        exact cell_tree (i := i) (mem_drop m (by omega)) (rl.at_ m e2)
theorem thaws_ok (rl : RelH K cm mu1 Z H h) (hn : ∀ i a, i < n → mu1[i]? = some a → mu[i]? = some a) : ∀ {ws ts : List W} {vs : List V}, thaws n h ws = some ts → RWs K cm mu1 Z ws vs → RWs K cm mu (frzZ n mu1 Z H) ts vs
  | [], _, _, e, q => by cases e; exact q
  | w :: ws, _, _, e, q => by
    unfold thaws at e
    split at e
    · rename_i a b e1 e2
      cases e
      obtain ⟨v, r, e3, h1, h2⟩ := q
      exact ⟨v, r, e3, thaw_ok rl hn e1 h1, thaws_ok rl hn e2 h2⟩
    · cases e
end
theorem take_mu (rl : RelH K cm mu Z H h) (x : Ext mu Z H mu1 Z1 H1) : mu1.take mu.length = mu := by
  apply List.ext_getElem?
  intro i
  rw [List.getElem?_take]
  by_cases hi : i < mu.length
  · rw [if_pos hi, List.getElem?_eq_getElem hi]
    exact x.m i mu[i] (List.getElem?_eq_getElem hi)
  · rw [if_neg hi, List.getElem?_eq_none (by omega)]
theorem fin_ok {m : Mode} (rl : RelH K cm mu Z H h) (x : Ext mu Z H mu1 Z1 H1) (r1 : RelH K cm mu1 Z1 H1 h1) (q : RW K cm mu1 Z1 w1 v) (e : fin m h.length w1 h1 = .ok (w, h')) (f : Fin K cm mu Z H w h' Q) : Q v H1 := by
  have tk := take_mu rl x
  have low : ∀ i a, i < h.length → mu1[i]? = some a → mu[i]? = some a := fun i a hi e => by
    rw [← tk, List.getElem?_take, if_pos (by rw [rl.len]; exact hi)]
    exact e
  have nin : ∀ a, a ∈ mu → a ∉ mu1.drop h.length := fun a ha hb => by
    have nd := r1.nd
    rw [← List.take_append_drop mu.length mu1, tk, rl.len, List.nodup_append] at nd
    exact nd.2.2 a ha a hb rfl
  cases m with
  | deep =>
    obtain ⟨t, e1, e⟩ := Res.bind_eq_ok e
    cases e
    have e1 := ofO_eq_ok e1
    refine f mu (frzZ h.length mu1 Z1 H1) H1 v ⟨fun _ _ e => e, x.z.trans (frzZ_le _ _ _ _), x.fr, x.th, fun a ha => .inl ha, fun a ha => ?_⟩ ⟨?_, rl.nd, fun a u z => ?_, fun a ha => ?_, fun i a c hm hc => ?_⟩ (thaw_ok r1 low e1 q)
    · unfold frzZ at ha
      split at ha
      · rename_i hm
        rcases x.nm a (List.mem_of_mem_drop hm) with k | k
        · exact .inr (.inl k)
        · exact .inr (.inr k)
      · exact x.nz a ha
    · rw [List.length_take, ← r1.len, rl.len]
      have : mu.length ≤ mu1.length := by
        have := congrArg List.length tk
        rw [List.length_take] at this
        omega
      rw [rl.len] at this
      omega
    · unfold frzZ at z
      split at z
      · rename_i hm
        cases k : Z1 a with
        | none =>
          rw [k] at z
          cases u with
          | dK kvs => exact .inl z
          | dT kvs => exact .inl z
          | _ => exact z
        | some u' =>
          rw [k] at z
          cases z
          exact r1.zh a _ k
      · exact r1.zh a u z
    · obtain ⟨i, hi⟩ := List.mem_iff_getElem?.mp ha
      exact r1.mh a (List.mem_of_getElem? (x.m i a hi))
    · have hi : i < h.length := by
        have := (List.getElem?_eq_some_iff.mp hm).1
        rwa [rl.len] at this
      rw [List.getElem?_take, if_pos hi] at hc
      refine (r1.at_ (x.m i a hm) hc).mono (frzZ_le _ _ _ _) (fun z => ?_) fun u _ q => q
      unfold frzZ
      rw [if_neg (nin a (List.mem_of_getElem? hm))]
      exact z
  | top =>
    cases w1 with
    | ref i =>
      have e : (if i < h.length then Res.bad else (ofO h1[i]?).bind fun c => .ok (W.ref h.length, h1.take h.length ++ [c])) = .ok (w, h') := e
      split at e
      · cases e
      · rename_i hi
        obtain ⟨c, e1, e⟩ := Res.bind_eq_ok e
        cases e
        have e1 := ofO_eq_ok e1
        obtain ⟨a, ev, m⟩ := q
        have ham : a ∈ mu1.drop h.length := mem_drop m (by omega)
        have lenh : (h1.take h.length).length = h.length := by
          rw [List.length_take, ← r1.len]
          have := congrArg List.length tk
          rw [List.length_take, rl.len] at this
          omega
        refine f (mu ++ [a]) Z1 H1 v ⟨fun i b e => ?_, x.z, x.fr, x.th, fun b hb => ?_, x.nz⟩ ⟨?_, ?_, r1.zh, fun b hb => ?_, fun j b d hm hd => ?_⟩ ⟨a, ev, ?_⟩
        · rw [List.getElem?_append_left (List.getElem?_eq_some_iff.mp e).1]
          exact e
        · rcases List.mem_append.mp hb with hb | hb
          · exact .inl hb
          · rw [List.mem_singleton] at hb
            subst hb
            exact x.nm _ (List.mem_of_mem_drop ham)
        · rw [List.length_append, List.length_append, lenh, rl.len]; rfl
        · rw [List.nodup_append]
          exact ⟨rl.nd, by simp, fun b hb d hd z => by
            rw [List.mem_singleton] at hd
            subst hd z
            exact nin _ hb ham⟩
        · rcases List.mem_append.mp hb with hb | hb
          · obtain ⟨i, hi⟩ := List.mem_iff_getElem?.mp hb
            exact r1.mh b (List.mem_of_getElem? (x.m i b hi))
          · rw [List.mem_singleton] at hb
            subst hb
            exact r1.mh _ (List.mem_of_mem_drop ham)
        · by_cases hj : j < h.length
          · rw [List.getElem?_append_left (by rw [rl.len]; exact hj)] at hm
            rw [List.getElem?_append_left (by rw [lenh]; exact hj), List.getElem?_take, if_pos hj] at hd
            exact r1.at_ (x.m j b hm) hd
          · have hj' : h.length ≤ j := Nat.le_of_not_lt hj
            rw [List.getElem?_append_right (by rw [rl.len]; exact hj'), rl.len] at hm
            rw [List.getElem?_append_right (by rw [lenh]; exact hj'), lenh] at hd
            cases k : j - h.length with
            | zero =>
              rw [k] at hm hd
              cases hm; cases hd
              exact r1.at_ m e1
            | succ k' => rw [k] at hm; cases hm
        · rw [List.getElem?_append_right (by rw [rl.len]; exact Nat.le_refl _), rl.len, Nat.sub_self]; rfl
    | _ => cases e
  | raw =>
    cases e
    exact f mu1 Z1 H1 v x r1 q
end
section
variable {X : Cx} {cm : Nat → Addr}
theorem q_tree {e : Expr} {m : DE} (he : QE X cm e m) : QE X cm e (eTree m) := by
  refine PE.wk he fun σ H Q q => ?_
  obtain ⟨mu, Z, ρ, h, w, h', rl, s, e, f⟩ := q
  obtain ⟨p, e1, e⟩ := Res.bind_eq_ok e
  exact ⟨mu, Z, ρ, h, p.1, p.2, rl, s, e1, fun mu1 Z1 H1 v x1 r1 w1 => fin_ok rl x1 r1 w1 e f⟩

/-! ### new lists and dicts -/
theorem mkL_ok {K : PySem.W.Frag} {c : Bool} {mu : List Addr} {Z H : Hp} {h h' : Hh} {ws : List W} {vs : List V} {w : W} {Q : VK} (r : RelH K cm mu Z H h) (q : RWs K cm mu Z ws vs) (e : mkL c ws h = .ok (w, h')) (f : Fin K cm mu Z H w h' Q) : vs.length ≤ sizeLine ∧ ∀ p, H p = none → Q (.ref p) (L2.upd H p (.lst vs)) := by
  unfold mkL at e
  split at e
  · rename_i hl
    refine ⟨by rw [q.length]; exact hl, fun p hp => ?_⟩
    cases c with
    | true =>
      have e : (if nors ws = true then Res.ok (W.ref h.length, h ++ [Cell.lst ws]) else .bad) = .ok (w, h') := e
      split at e
      · rename_i nn
        cases e
        obtain ⟨r', x⟩ := r.newC (c := .lst ws) (o := .lst vs) hp ⟨r.zfree hp, nn, vs, upd_same, RWs.any nn q⟩
        refine f _ _ _ _ x r' ⟨p, rfl, ?_⟩
        rw [List.getElem?_append_right (by rw [r.len]; exact Nat.le_refl _), r.len, Nat.sub_self]
        rfl
      · cases e
    | false =>
      cases e
      obtain ⟨r', x⟩ := r.newZ (o := .lst vs) hp upd_same
      exact f _ _ _ _ x r' ⟨p, vs, rfl, upd_same, q.mono x.z x.m⟩
  · cases e
theorem q_lst {c : Bool} {es : List Expr} {ms : List DE} {pos : Pos} (h : QL X cm es ms) : QE X cm (.List es pos) (eLst c ms) := by
  refine PE.wk (pe_lst h) fun σ H Q q => ?_
  obtain ⟨mu, Z, ρ, h, w, h', rl, s, e, f⟩ := q
  obtain ⟨p, e1, e⟩ := Res.bind_eq_ok e
  exact ⟨mu, Z, ρ, h, p.1, p.2, rl, s, e1, fun mu1 Z1 H1 vs x1 r1 w1 => mkL_ok r1 w1 e (f.ext x1)⟩
theorem q_tup {es : List Expr} {ms : List DE} {k : Nat} {pos : Pos} (h : QL X cm es ms) : QE X cm (.Tuple es k pos) (eTup ms) := by
  refine PE.wk (pe_tup h) fun σ H Q q => ?_
  obtain ⟨mu, Z, ρ, h, w, h', rl, s, e, f⟩ := q
  obtain ⟨p, e1, e⟩ := Res.bind_eq_ok e
  split at e
  · rename_i hl
    cases e
    refine ⟨mu, Z, ρ, h, p.1, p.2, rl, s, e1, fun mu1 Z1 H1 vs x1 r1 w1 => ⟨by rw [w1.length]; exact hl, fun a ha => ?_⟩⟩
    obtain ⟨r', x⟩ := r1.newZ (o := .tup vs) ha upd_same
    exact f _ _ _ _ (x1.trans x) r' ⟨a, vs, rfl, upd_same, w1.mono x.z x.m⟩
  · cases e

/-! ### walks -/
/-- what a written iterable gives: the turns' items -/
def tOI (K : PySem.W.Frag) (cm : Nat → Addr) (fi : FI) (ms : List DE) : TI := fun σ H R => ∃ mu Z ρ h p s, RelH K cm mu Z H h ∧ Sl K cm mu Z ρ σ ∧ eL ms ρ h = .ok p ∧ fi p.1 p.2 = some s ∧
  ∀ mu' Z' H' J, Ext mu Z H mu' Z' H' → RelH K cm mu' Z' H' p.2 →
    (∃ G Y, Walk J s.items.length G Y ∧ (∀ mu2 Z2 H2 h2, Ext mu' Z' H' mu2 Z2 H2 → RelH K cm mu2 Z2 H2 h2 → s.keep h2 = true → G H2) ∧
      ∀ i mu2 Z2 H2 h2 x H3, Ext mu' Z' H' mu2 Z2 H2 → RelH K cm mu2 Z2 H2 h2 → s.keep h2 = true → Y i H2 x H3 → ∃ w Z3, s.items[i]? = some w ∧ Ext mu2 Z2 H2 mu2 Z3 H3 ∧ RelH K cm mu2 Z3 H3 h2 ∧ RW K cm mu2 Z3 w x) → R J H'
abbrev QI (X : Cx) (cm : Nat → Addr) (tg it : Expr) (fi : FI) (ms : List DE) : Prop := PI X tg it (tOI X.K cm fi ms)
theorem PI.wk {tg it : Expr} {t t' : TI} (h : PI X tg it t) (i : ∀ σ H R, t' σ H R → t σ H R) : PI X tg it t' := ⟨fun pins s σ H R I q => h.run pins s σ H R I (i σ H R q)⟩
theorem qs_for {tg it : Expr} {tgm : DT} {own : List Nat} {fi : FI} {src : List DE} {body : List Stmt} {mb : DS} {pos : Pos} (hp : PassesOwn (model X.prog X.w) X.A X.env X.xe) (hc : X.calm = true) (hi : QI X cm tg it fi src) (hg : QG X cm own tg tgm) (hb : QSs X cm body mb)
    (hs : ∀ x, foldedSetIterable it X.env x = pure x) : QS X cm (.For tg it body [] pos) (sFor tgm fi src mb) := by
  refine PS.wk (ps_for hp hc hi hg hb hs) fun D σ H q => ?_
  obtain ⟨mu, Z, ρ, h, f, ρ', h', rl, s, e, p⟩ := q
  obtain ⟨q, e1, e⟩ := Res.bind_eq_ok e
  obtain ⟨sr, e2, e⟩ := Res.bind_eq_ok e
  refine ⟨mu, Z, ρ, h, q, sr, rl, s, e1, ofO_eq_ok e2, fun mu1 Z1 H1 J x1 r1 hW => ?_⟩
  obtain ⟨G, Y, wk, hG, hY⟩ := hW
  -- the word: from turn i on the rest of the items is gone through
  refine ⟨fun i n σ H => n = sr.items.length - i ∧ i ≤ sr.items.length ∧ ∃ mu2 Z2 ρ2 h2, Ext mu1 Z1 H1 mu2 Z2 H ∧ RelH X.K cm mu2 Z2 H h2 ∧ Sl X.K cm mu2 Z2 ρ2 σ ∧ forG sr.keep tgm mb (sr.items.drop i) ρ2 h2 = .ok (f, ρ', h') ∧ f.post X.K cm mu2 Z2 H D ρ' h',
    ⟨sr.items.length, rfl, Nat.zero_le _, mu1, Z1, ρ, q.2, Ext.refl, r1, s.ext x1, e, p.ext x1⟩, ?_⟩
  rintro i n σ2 H2 ⟨rfl, hi, mu2, Z2, ρ2, h2, x2, r2, s2, e, p2⟩
  by_cases hlt : i < sr.items.length
  · rw [List.drop_eq_getElem_cons hlt] at e
    have e : (if sr.keep h2 = true then (tgm sr.items[i] ρ2 h2).bind fun p => (mb p.1 p.2).bind fun q => match q.1 with
      | .nx => forG sr.keep tgm mb (sr.items.drop (i + 1)) q.2.1 q.2.2
      | .ct => forG sr.keep tgm mb (sr.items.drop (i + 1)) q.2.1 q.2.2
      | .bk => .ok (.nx, q.2)
      | .rt w => .ok (.rt w, q.2)
      else .bad) = .ok (f, ρ', h') := e
    split at e
    · rename_i hk
      obtain ⟨q3, e3, e⟩ := Res.bind_eq_ok e
      obtain ⟨q4, e4, e⟩ := Res.bind_eq_ok e
      obtain ⟨f4, ρ4, h4⟩ := q4
      refine .inr ⟨wk.goes i H2 hlt (hG mu2 Z2 H2 h2 x2 r2 hk), fun σ' H' => i + 1 ≤ sr.items.length ∧ ∃ mu2 Z2 ρ2 h2, Ext mu1 Z1 H1 mu2 Z2 H' ∧ RelH X.K cm mu2 Z2 H' h2 ∧ Sl X.K cm mu2 Z2 ρ2 σ' ∧ forG sr.keep tgm mb (sr.items.drop (i + 1)) ρ2 h2 = .ok (f, ρ', h') ∧ f.post X.K cm mu2 Z2 H' D ρ' h',
        fun σ' H' z => ⟨sr.items.length - (i + 1), by omega, rfl, z.1, z.2⟩, fun x H3 y => ?_⟩
      obtain ⟨w, Z3, e5, x3, r3, w3⟩ := hY i mu2 Z2 H2 h2 x H3 x2 r2 hk (wk.yields i H2 x H3 hlt (hG mu2 Z2 H2 h2 x2 r2 hk) y)
      rw [List.getElem?_eq_getElem hlt] at e5
      cases e5
      refine ⟨mu2, Z3, ρ2, h2, sr.items[i], q3.1, q3.2, r3, s2.ext x3, w3, e3, fun mu4 Z4 H4 σ4 x4 r4 s4 _ => ?_⟩
      refine ⟨mu4, Z4, q3.1, q3.2, f4, ρ4, h4, r4, s4, e4, fun mu5 Z5 H5 x5 r5 => ?_⟩
      have x25 := x3.trans (x4.trans x5)
      cases f4 with
      | nx => exact fun σ5 s5 => ⟨hlt, mu5, Z5, ρ4, h4, x2.trans x25, r5, s5, e, p2.ext x25⟩
      | ct => exact fun σ5 s5 => ⟨hlt, mu5, Z5, ρ4, h4, x2.trans x25, r5, s5, e, p2.ext x25⟩
      | bk =>
        cases e
        exact fun σ5 s5 => p2 _ _ _ x25 r5 σ5 s5
      | rt w =>
        cases e
        exact fun v wv => p2 _ _ _ x25 r5 v wv
    · cases e
  · have hi' : i = sr.items.length := by omega
    subst hi'
    rw [List.drop_length] at e
    have e : (if sr.keep h2 = true then Res.ok (Fl.nx, ρ2, h2) else .bad) = .ok (f, ρ', h') := e
    split at e
    · rename_i hk
      cases e
      exact .inl ⟨wk.stops H2 (hG mu2 Z2 H2 _ x2 r2 hk), p2 _ _ _ Ext.refl r2 σ2 s2⟩
    · cases e
end
end Ti


/-! Ti: comprehensions. -/
namespace Ti
open PySem PySem.Spec PyProof.Rows L2
section
variable {K : PySem.W.Frag} {cm : Nat → Addr} {mu mu1 mu0 : List Addr} {Z H Z1 H1 Z0 H0 : Hp} {h h1 h' : Hh} {D : Addr} {o : HO}
/-- an object besides -/
theorem RelH.side (r : RelH K cm mu Z H h) (hm : D ∉ mu) (hz : Z D = none) : RelH K cm mu Z (L2.upd H D o) h := by
  have nz : ∀ a u, Z a = some u → a ≠ D := fun a u q z => by rw [z, hz] at q; cases q
  refine ⟨r.len, r.nd, fun a u q => (r.zh a u q).upd (nz a u q), fun a ha => ?_, fun i a c hi hc => ?_⟩
  · rw [upd_ne (show a ≠ D from fun z => hm (by rw [← z]; exact ha))]
    exact r.mh a ha
  · have ne : a ≠ D := fun z => hm (by rw [← z]; exact List.mem_of_getElem? hi)
    exact (r.at_ hi hc).mono (Le.refl Z) (fun z => z) fun u _ q => by rw [upd_ne ne]; exact q
theorem Ext.side (x : Ext mu Z H mu1 Z1 H1) (hD : H D = none) : Ext mu Z H mu1 Z1 (L2.upd H1 D o) := by
  have ne : ∀ a u, H a = some u → a ≠ D := fun a u q z => by rw [z, hD] at q; cases q
  exact ⟨x.m, x.z, fun a u n z e => by rw [upd_ne (ne a u e)]; exact x.fr a u n z e, fun a u n e => by rw [upd_ne (ne a u e)]; exact x.th a u n e, x.nm, x.nz⟩
/-- behind a step an object besides stands still, is no cell and not frozen -/
theorem Ext.keepS (x : Ext mu Z H mu1 Z1 H1) (hm : D ∉ mu) (hz : Z D = none) (hD : H D = some o) : D ∉ mu1 ∧ Z1 D = none ∧ H1 D = some o := by
  refine ⟨fun hd => ?_, ?_, x.fr D o hm hz hD⟩
  · rcases x.nm D hd with k | k
    · exact hm k
    · rw [hD] at k; cases k
  · cases q : Z1 D with
    | none => rfl
    | some u =>
      rcases x.nz D (by rw [q]; exact fun z => nomatch z) with k | k | k
      · exact absurd hz k
      · exact absurd k hm
      · rw [hD] at k; cases k
/-- such an object becomes a value -/
theorem mkL_at {c : Bool} {ws : List W} {vs : List V} {w : W} (r : RelH K cm mu Z H h) (hm : D ∉ mu) (hz : Z D = none) (hD : H D = some (.lst vs)) (q : RWs K cm mu Z ws vs) (e : mkL c ws h = .ok (w, h')) :
    ∃ mu' Z', RelH K cm mu' Z' H h' ∧ RW K cm mu' Z' w (.ref D) ∧ ∀ mu0 Z0 H0, Ext mu0 Z0 H0 mu Z H → H0 D = none → Ext mu0 Z0 H0 mu' Z' H := by
  unfold mkL at e
  split at e
  · rename_i hl
    have mm : ∀ (i : Nat) (a : Addr), mu[i]? = some a → (mu ++ [D])[i]? = some a := fun i a q => by
      rw [List.getElem?_append_left (List.getElem?_eq_some_iff.mp q).1]
      exact q
    cases c with
    | true =>
      have e : (if nors ws = true then Res.ok (W.ref h.length, h ++ [Cell.lst ws]) else .bad) = .ok (w, h') := e
      split at e
      · rename_i nn
        cases e
        refine ⟨mu ++ [D], Z, ⟨?_, ?_, r.zh, fun b hb => ?_, fun j b d hj hd => ?_⟩, ⟨D, rfl, ?_⟩, fun mu0 Z0 H0 x n => ⟨fun i a q => mm i a (x.m i a q), x.z, x.fr, x.th, fun a ha => ?_, x.nz⟩⟩
        · rw [List.length_append, List.length_append, r.len]; rfl
        · rw [List.nodup_append]
          exact ⟨r.nd, by simp, fun b hb d hd z => by
            rw [List.mem_singleton] at hd
            subst hd z
            exact hm hb⟩
        · rcases List.mem_append.mp hb with hb | hb
          · exact r.mh b hb
          · rw [List.mem_singleton] at hb
            subst hb
            rw [hD]; exact fun z => nomatch z
        · by_cases hj' : j < mu.length
          · rw [List.getElem?_append_left hj'] at hj
            rw [List.getElem?_append_left (by rw [← r.len]; exact hj')] at hd
            exact r.at_ hj hd
          · have hj2 : mu.length ≤ j := Nat.le_of_not_lt hj'
            rw [List.getElem?_append_right hj2] at hj
            rw [List.getElem?_append_right (by rw [← r.len]; exact hj2), ← r.len] at hd
            cases k : j - mu.length with
            | zero =>
              rw [k] at hj hd
              cases hj; cases hd
              exact ⟨hz, nn, vs, hD, RWs.any nn q⟩
            | succ k' => rw [k] at hj; cases hj
        · rw [List.getElem?_append_right (by rw [r.len]; exact Nat.le_refl _), r.len, Nat.sub_self]; rfl
        · rcases List.mem_append.mp ha with ha | ha
          · exact x.nm a ha
          · rw [List.mem_singleton] at ha
            subst ha
            exact .inr n
      · cases e
    | false =>
      cases e
      have le : Le Z (L2.upd Z D (.lst vs)) := fun a u k => by
        rw [upd_ne (show a ≠ D from fun z => by rw [z, hz] at k; cases k)]
        exact k
      refine ⟨mu, L2.upd Z D (.lst vs), ⟨r.len, r.nd, fun a u k => ?_, r.mh, fun i a d hi hd => ?_⟩, ⟨D, vs, rfl, upd_same, q.mono le fun _ _ e => e⟩, fun mu0 Z0 H0 x n => ⟨x.m, x.z.trans le, x.fr, x.th, x.nm, fun a ha => ?_⟩⟩
      · by_cases aD : a = D
        · subst aD
          rw [upd_same] at k; cases k
          exact hD
        · rw [upd_ne aD] at k
          exact r.zh a u k
      · have ne : a ≠ D := fun z => hm (by rw [← z]; exact List.mem_of_getElem? hi)
        exact (r.at_ hi hd).mono le (fun z => by rw [upd_ne ne]; exact z) fun u _ k => k
      · by_cases aD : a = D
        · subst aD; exact .inr (.inr n)
        · rw [upd_ne aD] at ha
          exact x.nz a ha
  · cases e
end
theorem wipeW_sl {K : PySem.W.Frag} {cm : Nat → Addr} {mu : List Addr} {Z : Hp} {ρ : Env} {σ : L2.St} (s : Sl K cm mu Z ρ σ) : ∀ vs : List Nat, Sl K cm mu Z (wipeW ρ vs) (wipe σ vs)
  | [] => s
  | v :: vs => by
    have ih := wipeW_sl s vs
    refine ⟨by show ((wipeW ρ vs).set v none).length = ((wipe σ vs).set v none).length; rw [List.length_set, List.length_set]; exact ih.len, fun i w e => ?_⟩
    have e : ((wipeW ρ vs).set v none)[i]? = some (some w) := e
    show ∃ x, ((wipe σ vs).set v none)[i]? = some (some x) ∧ _
    by_cases iv : v = i
    · subst iv
      by_cases hl : v < (wipeW ρ vs).length
      · rw [List.getElem?_set_self hl] at e; cases e
      · rw [List.getElem?_eq_none (by rw [List.length_set]; omega)] at e; cases e
    · rw [List.getElem?_set_ne iv] at e
      rw [List.getElem?_set_ne iv]
      exact ih.at_ i w e
theorem wipe_twice (σ : L2.St) (vs : List Nat) : wipe (wipe σ vs) vs = wipe σ vs := by
  apply List.ext_getElem?
  intro i
  have out : ∀ {τ : L2.St} (hi : i ∉ vs), (wipe τ vs)[i]? = τ[i]? := fun {τ} hi => wipe_out hi
  by_cases hi : i ∈ vs
  · have inn : ∀ {τ : L2.St} {us : List Nat}, i ∈ us → (wipe τ us)[i]? = if i < τ.length then some none else none := by
      intro τ us
      induction us with
      | nil => intro k; cases k
      | cons u us ih =>
        intro k
        show ((wipe τ us).set u none)[i]? = _
        by_cases ui : u = i
        · subst ui
          by_cases hl : u < τ.length
          · rw [List.getElem?_set_self (by rw [wipe_length]; exact hl), if_pos hl]
          · rw [List.getElem?_eq_none (by rw [List.length_set, wipe_length]; omega), if_neg hl]
        · rw [List.getElem?_set_ne ui]
          rcases List.mem_cons.mp k with k | k
          · exact absurd k.symm ui
          · exact ih k
    rw [inn hi, inn hi, wipe_length]
  · rw [out hi]
/-- a clause's test, if there is one -/
def tCd (K : PySem.W.Frag) (cm : Nat → Addr) : Option DE → TT
  | none => tYes
  | some m => tOT K cm m
theorem tLc_of {K : PySem.W.Frag} {cm : Nat → Addr} {c : Bool} {own own' : List Nat} {tg : DT} {fi : FI} {src : List DE} {cd : Option DE} {elt : DE} (ho : ∀ i ∈ own', i ∈ own) (σ : L2.St) (H : Hp) (Q : VK) (q : tO K cm (eComp c own tg fi src cd elt) σ H Q) :
    tLc (tOI K cm fi src) (tOG K cm own' tg) (tCd K cm cd) (tO K cm elt) own σ H Q := by
  obtain ⟨mu, Z, ρ, h, w, h', rl, s, e, f⟩ := q
  obtain ⟨q, e1, e⟩ := Res.bind_eq_ok e
  obtain ⟨sr, e2, e⟩ := Res.bind_eq_ok e
  obtain ⟨q5, e3, e⟩ := Res.bind_eq_ok e
  refine ⟨mu, Z, ρ, h, q, sr, rl, s, e1, ofO_eq_ok e2, fun mu1 Z1 H1 J x1 r1 hW D hD => ?_⟩
  obtain ⟨G, Y, wk, hG, hY⟩ := hW
  refine ⟨fun i n H => n = sr.items.length - i ∧ i ≤ sr.items.length ∧ ∃ mu2 Z2 h2 acc accV, Ext mu1 Z1 H1 mu2 Z2 H ∧ RelH K cm mu2 Z2 H h2 ∧ D ∉ mu2 ∧ Z2 D = none ∧ H D = some (.lst accV) ∧ RWs K cm mu2 Z2 acc accV ∧
      compG sr.keep own tg cd elt ρ (sr.items.drop i) acc h2 = .ok q5,
    ⟨sr.items.length, rfl, Nat.zero_le _, mu1, Z1, q.2, [], [], Ext.refl.side hD, r1.side (r1.mfree hD) (r1.zfree hD), r1.mfree hD, r1.zfree hD, upd_same, rfl, e3⟩, ?_⟩
  rintro i n H2 ⟨rfl, hi, mu2, Z2, h2, acc, accV, x2, r2, hm, hz, hDD, wa, e3⟩
  by_cases hlt : i < sr.items.length
  · rw [List.drop_eq_getElem_cons hlt] at e3
    have e3 : (if sr.keep h2 = true then (tg sr.items[i] (wipeW ρ own) h2).bind fun p =>
      (match cd with
        | none => (elt p.1 p.2).bind fun q => if acc.length < lineW then compG sr.keep own tg cd elt ρ (sr.items.drop (i + 1)) (acc ++ [q.1]) q.2 else .bad
        | some c => (c p.1 p.2).bind fun q => (ofO (truthy q.2 q.1)).bind fun k => if k = true then
            (elt p.1 q.2).bind fun r => if acc.length < lineW then compG sr.keep own tg cd elt ρ (sr.items.drop (i + 1)) (acc ++ [r.1]) r.2 else .bad
          else compG sr.keep own tg cd elt ρ (sr.items.drop (i + 1)) acc q.2)
      else .bad) = .ok q5 := e3
    split at e3
    · rename_i hk
      obtain ⟨q3, e4, e3⟩ := Res.bind_eq_ok e3
      refine .inr ⟨wk.goes i H2 hlt (hG mu2 Z2 H2 h2 x2 r2 hk), fun H' => i + 1 ≤ sr.items.length ∧ ∃ mu2 Z2 h2 acc accV, Ext mu1 Z1 H1 mu2 Z2 H' ∧ RelH K cm mu2 Z2 H' h2 ∧ D ∉ mu2 ∧ Z2 D = none ∧ H' D = some (.lst accV) ∧ RWs K cm mu2 Z2 acc accV ∧
          compG sr.keep own tg cd elt ρ (sr.items.drop (i + 1)) acc h2 = .ok q5, fun H' z => ⟨sr.items.length - (i + 1), by omega, rfl, z.1, z.2⟩, fun x H3 y => ?_⟩
      obtain ⟨w3, Z3, e5, x3, r3, w3q⟩ := hY i mu2 Z2 H2 h2 x H3 x2 r2 hk (wk.yields i H2 x H3 hlt (hG mu2 Z2 H2 h2 x2 r2 hk) y)
      rw [List.getElem?_eq_getElem hlt] at e5
      cases e5
      have x13 := x2.trans x3
      refine ⟨mu2, Z3, wipeW ρ own, h2, sr.items[i], q3.1, q3.2, r3, wipeW_sl (s.ext (x1.trans x13)) own, w3q, e4, fun mu4 Z4 H4 σ4 x4 r4 s4 b4 => ⟨?_, ?_⟩⟩
      · rw [b4 own ho]
        exact wipe_twice σ own
      have k3 := x3.keepS hm hz hDD
      have k4 := x4.keepS k3.1 k3.2.1 k3.2.2
      have x14 := x13.trans x4
      -- an item that is kept
      have step : ∀ (mu6 : List Addr) (Z6 H6 : Hp) (h6 : Hh), Ext mu1 Z1 H1 mu6 Z6 H6 → Ext mu4 Z4 H4 mu6 Z6 H6 → RelH K cm mu6 Z6 H6 h6 →
          ((elt q3.1 h6).bind fun r => if acc.length < lineW then compG sr.keep own tg cd elt ρ (sr.items.drop (i + 1)) (acc ++ [r.1]) r.2 else .bad) = .ok q5 →
          tO K cm elt σ4 H6 fun y H4 => ∃ acc, H4 D = some (.lst acc) ∧ acc.length < sizeLine ∧ (i + 1 ≤ sr.items.length ∧ ∃ mu2 Z2 h2 acc' accV, Ext mu1 Z1 H1 mu2 Z2 (L2.upd H4 D (.lst (acc ++ [y]))) ∧ RelH K cm mu2 Z2 (L2.upd H4 D (.lst (acc ++ [y]))) h2 ∧ D ∉ mu2 ∧ Z2 D = none ∧ (L2.upd H4 D (.lst (acc ++ [y]))) D = some (.lst accV) ∧ RWs K cm mu2 Z2 acc' accV ∧
            compG sr.keep own tg cd elt ρ (sr.items.drop (i + 1)) acc' h2 = .ok q5) := by
        intro mu6 Z6 H6 h6 x16 x46 r6 e6
        obtain ⟨r, e7, e6⟩ := Res.bind_eq_ok e6
        have k6 := x46.keepS k4.1 k4.2.1 k4.2.2
        split at e6
        · rename_i hl
          refine ⟨mu6, Z6, q3.1, h6, r.1, r.2, r6, s4.ext x46, e7, fun mu8 Z8 H8 v8 x8 r8 w8 => ?_⟩
          have k8 := x8.keepS k6.1 k6.2.1 k6.2.2
          refine ⟨accV, k8.2.2, by rw [wa.length]; exact hl, hlt, mu8, Z8, r.2, acc ++ [r.1], accV ++ [v8], (x16.trans x8).side hD, r8.side k8.1 k8.2.1, k8.1, k8.2.1, upd_same, ?_, e6⟩
          have x48 := x46.trans x8
          exact RWs.append (wa.mono (x3.z.trans (x4.z.trans x48.z)) fun i a k => x48.m i a (x4.m i a (x3.m i a k))) ⟨v8, [], rfl, w8, rfl⟩
        · cases e6
      cases cd with
      | none => exact step mu4 Z4 H4 q3.2 x14 Ext.refl r4 e3
      | some mc =>
        obtain ⟨q6, e6, e3⟩ := Res.bind_eq_ok e3
        obtain ⟨k, e7, e3⟩ := Res.bind_eq_ok e3
        refine ⟨mu4, Z4, q3.1, q3.2, q6.1, q6.2, k, r4, s4, e6, ofO_eq_ok e7, fun mu6 Z6 H6 x6 r6 => ?_⟩
        cases k with
        | true => exact step mu6 Z6 H6 q6.2 (x14.trans x6) x6 r6 e3
        | false =>
          have k6 := x6.keepS k4.1 k4.2.1 k4.2.2
          refine ⟨hlt, mu6, Z6, q6.2, acc, accV, x14.trans x6, r6, k6.1, k6.2.1, k6.2.2, ?_, e3⟩
          exact wa.mono (x3.z.trans (x4.z.trans x6.z)) fun i a k => x6.m i a (x4.m i a (x3.m i a k))
    · cases e3
  · have hi' : i = sr.items.length := by omega
    subst hi'
    rw [List.drop_length] at e3
    have e3 : (if sr.keep h2 = true then Res.ok (acc, h2) else .bad) = .ok q5 := e3
    split at e3
    · rename_i hk
      cases e3
      refine .inl ⟨wk.stops H2 (hG mu2 Z2 H2 _ x2 r2 hk), ?_⟩
      obtain ⟨mu', Z', r', w', k'⟩ := mkL_at r2 hm hz hDD wa e
      exact f mu' Z' H2 (.ref D) (x1.trans (k' mu1 Z1 H1 x2 hD)) r' w'
    · cases e3
section
variable {X : Cx} {cm : Nat → Addr}
/-- a clause's test by the evaluator -/
inductive QC (X : Cx) (cm : Nat → Addr) : List Expr → Option DE → Prop where
  | nil : QC X cm [] none
  | one {c : Expr} {m : DE} (h : QT X cm c m) : QC X cm [c] (some m)
theorem QC.pts {X : Cx} {ifs : List Expr} {cd : Option DE} (h : QC X cm ifs cd) : PTs X ifs (tCd X.K cm cd) := by
  cases h with
  | nil => exact pts_nil
  | one h => exact pts_one h
variable {c : Bool} {elt tg iter : Expr} {ifs : List Expr} {scope : Scope} {own : List (Str × Nat)} {own' : List Nat} {pos : Pos} {fi : FI} {src : List DE} {cd : Option DE} {me : DE} {tgm : DT}
theorem q_comp (hc : X.calm = true) (hN : X.N.Nodup) (hi : QI X cm tg iter fi src) (ok : BlkOk X.N X.env.scope scope own) (ho : ∀ i ∈ own', i ∈ own.map (·.2))
    (hg : ∀ (s : Shared) (H : Hp) (C : Addr) (cl : List (Str × Addr)) (fp : List Addr), QG (X.blk s H scope (compEnvC scope cl C X.env) fp) cm own' tg tgm)
    (ht : ∀ (s : Shared) (H : Hp) (C : Addr) (cl : List (Str × Addr)) (fp : List Addr), QC (X.blk s H scope (compEnvC scope cl C X.env) fp) cm ifs cd)
    (he : ∀ (s : Shared) (H : Hp) (C : Addr) (cl : List (Str × Addr)) (fp : List Addr), QE (X.blk s H scope (compEnvC scope cl C X.env) fp) cm elt me) (hs : ∀ x, foldedSetIterable iter X.env x = pure x) :
    QE X cm (.ListComp elt [⟨tg, iter, ifs, 0⟩] scope pos) (eComp c (own.map (·.2)) tgm fi src cd me) :=
  PE.wk (pe_lc (te := tO X.K cm me) (g := tOG X.K cm own' tgm) (tt := tCd X.K cm cd) hc hN hi ok hg (fun s H C cl fp => (ht s H C cl fp).pts) he hs) fun σ H Q q => tLc_of ho σ H Q q
theorem qs_setLc {i : Nat} {y : Str} {py spos : Pos} (hc : X.calm = true) (hN : X.N.Nodup) (hy : X.N[i]? = some y) (hyl : X.env.scope.names.lookup y = some .local)
    (hsw : swapsWith (.ListComp elt [⟨tg, iter, ifs, 0⟩] scope pos) (some (.Name y py)) spos.line X.env = pure true) (hi : QI X cm tg iter fi src) (ok : BlkOk X.N X.env.scope scope own) (ho : ∀ i ∈ own', i ∈ own.map (·.2))
    (hg : ∀ (s : Shared) (H : Hp) (C : Addr) (cl : List (Str × Addr)) (fp : List Addr), QG (X.blk s H scope (compEnvC scope cl C X.env) fp) cm own' tg tgm)
    (ht : ∀ (s : Shared) (H : Hp) (C : Addr) (cl : List (Str × Addr)) (fp : List Addr), QC (X.blk s H scope (compEnvC scope cl C X.env) fp) cm ifs cd)
    (he : ∀ (s : Shared) (H : Hp) (C : Addr) (cl : List (Str × Addr)) (fp : List Addr), QE (X.blk s H scope (compEnvC scope cl C X.env) fp) cm elt me) (hs : ∀ x, foldedSetIterable iter X.env x = pure x) :
    QS X cm (.Assign [.Name y py] (.ListComp elt [⟨tg, iter, ifs, 0⟩] scope pos) spos) (sAsg (tN i) (eComp c (own.map (·.2)) tgm fi src cd me)) := by
  refine PS.wk (ps_setLc (te := tO X.K cm me) (g := tOG X.K cm own' tgm) (tt := tCd X.K cm cd) hc hN hy hyl hsw hi ok hg (fun s H C cl fp => (ht s H C cl fp).pts) he hs) fun D σ H q => ?_
  obtain ⟨mu, Z, ρ, h, f, ρ', h', rl, s, e, p⟩ := q
  obtain ⟨q, e1, e⟩ := Res.bind_eq_ok e
  obtain ⟨q2, e2, e⟩ := Res.bind_eq_ok e
  cases e
  cases e2
  exact tLc_of ho σ H _ ⟨mu, Z, ρ, h, q.1, q.2, rl, s, e1, fun mu1 Z1 H1 v1 x1 r1 w1 => p _ _ _ x1 r1 _ ((s.ext x1).set i w1)⟩
end
end Ti


/-! Ti: the primitive operations over the layer's rules. -/
namespace Ti
open PySem PySem.Spec PyProof.Rows L2
section
variable {X : Cx} {K : PySem.W.Frag} {cm : Nat → Addr} {mu : List Addr} {Z H : Hp} {h h' : Hh} {w w1 w2 : W} {v v1 v2 : V} {Q : VK}

/-! ### numbers -/
def rAddT (K : PySem.W.Frag) : R2 := fun x y H Q => ((rI0 (fun i j => .int (i + j)) x y H Q ∨ (∃ i j, x = .str i ∧ y = .str j ∧ i.length + j.length ≤ sizeLine ∧ Q (.str (i ++ j)) H)) ∨ rCat x y H Q) ∨ rCatA K x y H Q
theorem op_addT : OpR X (binaryOp .Add) (rAddT X.K) := ((op_add.or op_add_str).or op_cat).or op_catA
theorem cat_ok (r : RelH K cm mu Z H h) {as bs : List W} (q1 : RW K cm mu Z w1 v1) (q2 : RW K cm mu Z w2 v2) (e1 : asL h w1 = some as) (e2 : asL h w2 = some bs) {c : Bool} (e : mkL c (as ++ bs) h = .ok (w, h')) (f : Fin K cm mu Z H w h' Q) : rCat v1 v2 H Q := by
  obtain ⟨a, xs, rfl, ha, ra⟩ := asL_ok r q1 e1
  obtain ⟨b, ys, rfl, hb, rb⟩ := asL_ok r q2 e2
  obtain ⟨hl, hp⟩ := mkL_ok r (RWs.append ra rb) e f
  exact ⟨a, b, xs, ys, rfl, rfl, ha, hb, by rw [List.length_append] at hl; exact hl, hp⟩
theorem ok_add {c : Bool} : Ok2 K cm (pAdd c) (rAddT K) := by
  intro mu Z H h w1 w2 w h' v1 v2 Q r q1 q2 e f
  have gen : ∀ {u1 u2 : W}, RW K cm mu Z u1 v1 → RW K cm mu Z u2 v2 → (match asL h u1, asL h u2 with | some as, some bs => mkL c (as ++ bs) h | _, _ => .bad) = .ok (w, h') → rAddT K v1 v2 H Q := fun {u1 u2} q1 q2 e => by
    split at e
    · rename_i as bs e1 e2
      exact .inl (.inr (cat_ok r q1 q2 e1 e2 e f))
    · cases e
  cases w1 with
  | int i =>
    cases w2 with
    | int j =>
      cases e; cases q1; cases q2
      exact .inl (.inl (.inl ⟨i, j, rfl, rfl, f.here r rfl⟩))
    | _ => exact gen q1 q2 e
  | str x =>
    cases w2 with
    | str y =>
      cases q1; cases q2
      have e : (if x.length + y.length ≤ lineW then Res.ok (W.str (x ++ y), h) else .bad) = .ok (w, h') := e
      split at e
      · rename_i hl
        cases e
        exact .inl (.inl (.inr ⟨x, y, rfl, rfl, hl, f.here r rfl⟩))
      · cases e
    | _ => exact gen q1 q2 e
  | tup as =>
    cases w2 with
    | tup bs =>
      have e : (if as.length + bs.length ≤ lineW then Res.ok (W.tup (as ++ bs), h) else .bad) = .ok (w, h') := e
      split at e
      · rename_i hc
        cases e
        obtain ⟨a, xs, rfl, za, ra⟩ := q1
        obtain ⟨b, ys, rfl, zb, rb⟩ := q2
        have la := ra.length
        have lb := rb.length
        refine .inr ⟨a, b, xs, ys, rfl, rfl, SqT.of (r.tupZ za), SqT.of (r.tupZ zb), by rw [la, lb]; exact hc, fun z => ?_, fun _ z => ?_, fun _ _ p hp => ?_⟩
        · rw [z] at la
          cases as with
          | nil => exact f.here r ⟨b, ys, rfl, zb, rb⟩
          | cons _ _ => cases la
        · rw [z] at lb
          cases bs with
          | nil => exact f.here r ⟨a, xs, rfl, za, by rw [List.append_nil]; exact ra⟩
          | cons _ _ => cases lb
        · obtain ⟨r', x⟩ := r.newZ (o := .tup (xs ++ ys)) hp upd_same
          exact f _ _ _ _ x r' ⟨p, xs ++ ys, rfl, upd_same, (RWs.append ra rb).mono x.z x.m⟩
      · cases e
    | _ => exact gen q1 q2 e
  | _ => exact gen q1 q2 e
theorem ok_sub : Ok2 K cm pSub (rI0 fun i j => .int (i - j)) := by
  intro mu Z H h w1 w2 w h' v1 v2 Q r q1 q2 e f
  cases w1 with
  | int i =>
    cases w2 with
    | int j =>
      cases e; cases q1; cases q2
      exact ⟨i, j, rfl, rfl, f.here r rfl⟩
    | _ => cases e
  | _ => cases e
/-- a text times a number -/
def rMulS : R2 := fun x y H Q => ∃ a n, x = .str a ∧ y = .int n ∧ a.length * n.toNat ≤ 1000000 ∧ -1000000 ≤ n ∧ n ≤ 1000000 ∧ Q (.str (mkS (List.replicate n.toNat (sg a)).flatten)) H
theorem rep_cps (x : Array Nat) : ∀ n : Nat, ((List.replicate n x).foldl (· ++ ·) #[]).toList = (List.replicate n x.toList).flatten := by
  have key : ∀ (n : Nat) (acc : Array Nat), ((List.replicate n x).foldl (· ++ ·) acc).toList = acc.toList ++ (List.replicate n x.toList).flatten := by
    intro n
    induction n with
    | zero => intro acc; simp
    | succ n ih =>
      intro acc
      rw [List.replicate_succ, List.foldl_cons, ih, List.replicate_succ, List.flatten_cons, Array.toList_append, List.append_assoc]
  intro n
  rw [key] <;> simp
theorem op_mulS : OpR X (binaryOp .Mult) rMulS := by
  intro pins s σ H x y v u Q I rx ry hq
  obtain ⟨a, n, rfl, rfl, hl, h1, h2, q⟩ := hq
  obtain ⟨t, rfl⟩ := rx
  obtain ⟨t', rfl⟩ := ry
  have two : (2 : Int) ^ 63 = 9223372036854775808 := by decide
  refine PySem.P.mul_str (by rw [two]; simp only [Bool.or_eq_false_iff, decide_eq_false_iff_not]; omega) (fun hn _ => ?_) (fun hn _ => ?_) ?_
  · rw [two]
    have hn' : 0 < n := by omega
    have ea : (a.length : Int) ≤ (a.length : Int) * n := by
      have : (a.length : Int) * 1 ≤ (a.length : Int) * n := Int.mul_le_mul_of_nonneg_left (by omega) (by omega)
      omega
    have eb : ((a.length * n.toNat : Nat) : Int) = (a.length : Int) * n := by
      rw [Int.natCast_mul, Int.toNat_of_nonneg (by omega)]
    have : (9223372036854775808 - 1) / n ≥ 1000000 := by
      rw [ge_iff_le, Int.le_ediv_iff_mul_le hn']
      omega
    omega
  · show decide (a.length * n.toNat > sizeLine) = false
    rw [sizeLine_eq]
    simp only [decide_eq_false_iff_not]
    omega
  · have res : ∀ z : Str, sg z = (List.replicate n.toNat (sg a)).flatten → z = mkS (List.replicate n.toNat (sg a)).flatten := fun z e => by
      rw [← e]
      rfl
    split
    · rename_i hn
      have e0 : n.toNat = 0 := by omega
      rw [← res Str.empty (by rw [e0]; rfl)] at q
      exact ⟨by decide, ⟨.str Str.empty, H, I.tok _, ⟨_, rfl⟩, q⟩⟩
    · split
      · rename_i hn hc
        rw [← res a ?_] at q
        · exact ⟨.str a, H, I, ⟨_, rfl⟩, q⟩
        · rw [Bool.or_eq_true, beq_iff_eq, beq_iff_eq] at hc
          rcases hc with hc | hc
          · rw [hc]
            show _ = (List.replicate 1 (sg a)).flatten
            simp
          · have : sg a = [] := by
              rw [len_sg] at hc
              exact List.eq_nil_of_length_eq_zero hc
            rw [this]
            symm
            rw [List.flatten_eq_nil_iff]
            intro l hl
            exact List.eq_of_mem_replicate hl
      · rw [← res ⟨(List.replicate n.toNat a.cps).foldl (· ++ ·) #[]⟩ (rep_cps a.cps n.toNat)] at q
        refine ⟨?_, ⟨.str _, H, I.tok _, ⟨_, rfl⟩, q⟩⟩
        have : ((List.replicate n.toNat a.cps).foldl (· ++ ·) #[]).size = n.toNat * a.cps.size := by
          rw [← Array.length_toList, rep_cps]
          simp
        have e3 : (⟨(List.replicate n.toNat a.cps).foldl (· ++ ·) #[]⟩ : Str).length = ((List.replicate n.toNat a.cps).foldl (· ++ ·) #[]).size := rfl
        rw [e3, this, sizeLine_eq, Nat.mul_comm]
        exact Nat.le_trans hl (by decide)
def rMulT : R2 := fun x y H Q => ((rI CMulW fun i j => .int (i * j)) x y H Q ∨ rMulS x y H Q) ∨ rRep x y H Q
theorem op_mulT : OpR X (binaryOp .Mult) rMulT := (op_mulW.or op_mulS).or op_rep
theorem ok_mul {c : Bool} : Ok2 K cm (pMul c) rMulT := by
  intro mu Z H h w1 w2 w h' v1 v2 Q r q1 q2 e f
  cases w2 with
  | int n =>
    have gen : ∀ {u1 : W}, RW K cm mu Z u1 v1 → (match asL h u1 with
        | some as => if as.length * n.toNat ≤ 1000000 ∧ -1000000 ≤ n ∧ n ≤ 1000000 then mkL c (List.replicate n.toNat as).flatten h else .bad
        | none => .bad) = .ok (w, h') → rMulT v1 v2 H Q := fun {u1} q1 e => by
      split at e
      · rename_i as e1
        split at e
        · rename_i hc
          cases q2
          obtain ⟨a, xs, rfl, ha, ra⟩ := asL_ok r q1 e1
          have rr : RWs K cm mu Z (List.replicate n.toNat as).flatten (List.replicate n.toNat xs).flatten := by
            generalize n.toNat = k
            induction k with
            | zero => exact rfl
            | succ k ih =>
              rw [List.replicate_succ, List.replicate_succ, List.flatten_cons, List.flatten_cons]
              exact RWs.append ra ih
          obtain ⟨hl, hp⟩ := mkL_ok r rr e f
          have two : (2 : Int) ^ 63 = 9223372036854775808 := by decide
          refine .inr ⟨a, n, xs, rfl, rfl, ha, by rw [two]; omega, by rw [two]; omega, ?_, hp⟩
          rw [ra.length, sizeLine_eq]
          omega
        · cases e
      · cases e
    cases w1 with
    | int i =>
      have e : (if mulOk i n = true then Res.ok (W.int (i * n), h) else .bad) = .ok (w, h') := e
      split at e
      · rename_i hc
        cases e; cases q1; cases q2
        exact .inl (.inl ⟨i, n, rfl, rfl, (show i.natAbs.log2 + n.natAbs.log2 < 1000000 from of_decide_eq_true hc), f.here r rfl⟩)
      · cases e
    | str a =>
      have e : (if a.length * n.toNat ≤ 1000000 ∧ -1000000 ≤ n ∧ n ≤ 1000000 then Res.ok (W.str (mkS (List.replicate n.toNat (sg a)).flatten), h) else .bad) = .ok (w, h') := e
      split at e
      · rename_i hc
        cases e; cases q1; cases q2
        exact .inl (.inr ⟨a, n, rfl, rfl, hc.1, hc.2.1, hc.2.2, f.here r rfl⟩)
      · cases e
    | _ => exact gen q1 e
  | _ => cases w1 <;> cases e
theorem ok_mod : Ok2 K cm pMod (rI (fun _ j => j ≠ 0) fun i j => .int (i.fmod j)) := by
  intro mu Z H h w1 w2 w h' v1 v2 Q r q1 q2 e f
  cases w1 with
  | int i =>
    cases w2 with
    | int j =>
      have e : (if j = 0 then Res.bad else .ok (W.int (i.fmod j), h)) = .ok (w, h') := e
      split at e
      · cases e
      · rename_i hj
        cases e; cases q1; cases q2
        exact ⟨i, j, rfl, rfl, hj, f.here r rfl⟩
    | _ => cases e
  | _ => cases e
theorem ok_fdv : Ok2 K cm pFdv (rI CDivW fun i j => .int (i / j)) := by
  intro mu Z H h w1 w2 w h' v1 v2 Q r q1 q2 e f
  cases w1 with
  | int i =>
    cases w2 with
    | int j =>
      have e : (if 0 < j ∧ j.natAbs.log2 < 9000 then Res.ok (W.int (i / j), h) else .bad) = .ok (w, h') := e
      split at e
      · rename_i hj
        cases e; cases q1; cases q2
        exact ⟨i, j, rfl, rfl, hj, f.here r rfl⟩
      · cases e
    | _ => cases e
  | _ => cases e
def CPowW (i j : Int) : Prop := 0 ≤ j ∧ (Builtin.Int.intBits i : Int) * j ≤ 2 ^ 27
theorem op_powW : OpR X (binaryOp .Pow) (rI CPowW fun i j => .int (i ^ j.toNat)) := opI fun _ _ _ _ _ _ _ hc q => pow_int hc.1 hc.2 q
theorem ok_pow : Ok2 K cm pPow (rI CPowW fun i j => .int (i ^ j.toNat)) := by
  intro mu Z H h w1 w2 w h' v1 v2 Q r q1 q2 e f
  cases w1 with
  | int i =>
    cases w2 with
    | int j =>
      have e : (if 0 ≤ j ∧ j ≤ 1000 ∧ i.natAbs.log2 < 1000 then Res.ok (W.int (i ^ j.toNat), h) else .bad) = .ok (w, h') := e
      split at e
      · rename_i hj
        cases e; cases q1; cases q2
        refine ⟨i, j, rfl, rfl, ⟨hj.1, ?_⟩, f.here r rfl⟩
        have b : (Builtin.Int.intBits i : Int) ≤ 1000 := by
          have : Builtin.Int.intBits i ≤ i.natAbs.log2 + 1 := by
            unfold Builtin.Int.intBits
            split <;> omega
          omega
        have : (Builtin.Int.intBits i : Int) * j ≤ 1000 * 1000 := Int.mul_le_mul b hj.2.1 hj.1 (by decide)
        exact Int.le_trans this (by decide)
      · cases e
    | _ => cases e
  | _ => cases e
theorem ok_neg : Ok1 K cm pNeg (rU fun i => .int (-i)) := by
  intro mu Z H h w1 w h' v1 Q r q1 e f
  cases w1 with
  | int i => cases e; cases q1; exact ⟨i, rfl, f.here r rfl⟩
  | _ => cases e

/-! ### comparisons -/
theorem ok_ints {g : F2} {p : Int → Int → Bool} (hg : ∀ x y h w h', g x y h = .ok (w, h') → ∃ i j, x = .int i ∧ y = .int j ∧ w = .bl (p i j) ∧ h' = h) : Ok2 K cm g (rI0 fun i j => .bl (p i j)) := by
  intro mu Z H h w1 w2 w h' v1 v2 Q r q1 q2 e f
  obtain ⟨i, j, rfl, rfl, rfl, rfl⟩ := hg _ _ _ _ _ e
  cases q1; cases q2
  exact ⟨i, j, rfl, rfl, f.here r rfl⟩
theorem lt_g : ∀ x y h w h', pLt x y h = .ok (w, h') → ∃ i j : Int, x = .int i ∧ y = .int j ∧ w = .bl (decide (i < j)) ∧ h' = h := by
  intro x y h w h' e
  cases x <;> first | (cases e; done) | (cases y <;> first | (cases e; done) | (cases e; exact ⟨_, _, rfl, rfl, rfl, rfl⟩))
theorem le_g : ∀ x y h w h', pLe x y h = .ok (w, h') → ∃ i j : Int, x = .int i ∧ y = .int j ∧ w = .bl (decide (i ≤ j)) ∧ h' = h := by
  intro x y h w h' e
  cases x <;> first | (cases e; done) | (cases y <;> first | (cases e; done) | (cases e; exact ⟨_, _, rfl, rfl, rfl, rfl⟩))
theorem gt_g : ∀ x y h w h', pGt x y h = .ok (w, h') → ∃ i j : Int, x = .int i ∧ y = .int j ∧ w = .bl (decide (j < i)) ∧ h' = h := by
  intro x y h w h' e
  cases x <;> first | (cases e; done) | (cases y <;> first | (cases e; done) | (cases e; exact ⟨_, _, rfl, rfl, rfl, rfl⟩))
theorem ge_g : ∀ x y h w h', pGe x y h = .ok (w, h') → ∃ i j : Int, x = .int i ∧ y = .int j ∧ w = .bl (decide (j ≤ i)) ∧ h' = h := by
  intro x y h w h' e
  cases x <;> first | (cases e; done) | (cases y <;> first | (cases e; done) | (cases e; exact ⟨_, _, rfl, rfl, rfl, rfl⟩))
theorem ok_lt : Ok2 K cm pLt (rI0 fun i j => .bl (decide (i < j))) := ok_ints lt_g
theorem ok_le : Ok2 K cm pLe (rI0 fun i j => .bl (decide (i ≤ j))) := ok_ints le_g
theorem ok_gt : Ok2 K cm pGt (rI0 fun i j => .bl (decide (j < i))) := ok_ints gt_g
theorem ok_ge : Ok2 K cm pGe (rI0 fun i j => .bl (decide (j ≤ i))) := ok_ints ge_g
theorem bg_of {g : F2} {p : Int → Int → Bool} (hg : ∀ x y h w h', g x y h = .ok (w, h') → ∃ i j, x = .int i ∧ y = .int j ∧ w = .bl (p i j) ∧ h' = h) : BoolG g := fun x y h w h' e => by
  obtain ⟨i, j, _, _, e, _⟩ := hg x y h w h' e
  exact ⟨_, e⟩
theorem bg_o {o : Option Bool} {f : Bool → Bool} {h h' : Hh} {w : W} (e : (ofO o).bind (fun k => Res.ok (W.bl (f k), h)) = .ok (w, h')) : ∃ k, o = some k ∧ w = .bl (f k) ∧ h' = h := by
  obtain ⟨k, e1, e⟩ := Res.bind_eq_ok e
  cases e
  exact ⟨k, ofO_eq_ok e1, rfl, rfl⟩
theorem bg_eq : BoolG pEq := fun _ _ _ _ _ e => let ⟨k, _, e, _⟩ := bg_o (f := id) e; ⟨_, e⟩
theorem bg_ne : BoolG pNe := fun _ _ _ _ _ e => let ⟨k, _, e, _⟩ := bg_o (f := (! ·)) e; ⟨_, e⟩
theorem bg_in : BoolG pIn := fun _ _ _ _ _ e => let ⟨k, _, e, _⟩ := bg_o (f := id) e; ⟨_, e⟩
theorem bg_ni : BoolG pNi := fun _ _ _ _ _ e => let ⟨k, _, e, _⟩ := bg_o (f := (! ·)) e; ⟨_, e⟩
theorem bg_is : BoolG pIs := fun x y h w h' e => by
  cases y <;> first | (cases e; done) | (cases e; exact ⟨_, rfl⟩)
theorem bg_isN : BoolG pIsN := fun x y h w h' e => by
  cases y <;> first | (cases e; done) | (cases e; exact ⟨_, rfl⟩)
/-- is None -/
theorem isNon_ok (q : RW K cm mu Z w v) : decide (v = V.non) = isNon w := by
  have no : ∀ {x : V}, x ≠ .non → decide (x = V.non) = false := fun h => decide_eq_false h
  cases w with
  | non => cases q; rfl
  | bl _ => cases q; rfl
  | int _ => cases q; rfl
  | str _ => cases q; rfl
  | tup _ => obtain ⟨a, vs, rfl, _⟩ := q; rfl
  | lst _ => obtain ⟨a, vs, rfl, _⟩ := q; rfl
  | dic _ _ => obtain ⟨a, rfl, _⟩ := q; rfl
  | obj _ _ => obtain ⟨a, dx, fvs, rfl, _⟩ := q; rfl
  | ref _ => obtain ⟨a, rfl, _⟩ := q; rfl
  | scr _ => obtain ⟨a, rfl, _⟩ := q; rfl
theorem ok_is : Ok2 K cm pIs (fun x y H Q => y = .non ∧ Q (.bl (decide (x = .non))) H) := by
  intro mu Z H h w1 w2 w h' v1 v2 Q r q1 q2 e f
  cases w2 with
  | non =>
    cases e
    have q2 : v2 = .non := q2
    exact ⟨q2, f.here r (by rw [isNon_ok q1]; exact rfl)⟩
  | _ => cases e
theorem ok_isN : Ok2 K cm pIsN (fun x y H Q => y = .non ∧ Q (.bl (!decide (x = .non))) H) := by
  intro mu Z H h w1 w2 w h' v1 v2 Q r q1 q2 e f
  cases w2 with
  | non =>
    cases e
    have q2 : v2 = .non := q2
    exact ⟨q2, f.here r (by rw [isNon_ok q1]; exact rfl)⟩
  | _ => cases e

/-! ### data -/
mutual
def toP : W → PyData
  | .non => .none
  | .bl b => .bool b
  | .int i => .int i
  | .str x => .str x
  | .tup ws => .tuple (toPs ws)
  | .lst ws => .list (toPs ws)
  | _ => .none
def toPs : List W → List PyData
  | [] => []
  | w :: ws => toP w :: toPs ws
end
theorem strFine_ok {x : Str} (e : strFine x = true) : PyData.strOk x = true := by
  unfold strFine at e
  rw [Bool.and_eq_true] at e
  unfold PyData.strOk
  rw [Array.all_eq_true] at e ⊢
  intro i hi
  have := of_decide_eq_true (e.1 i hi)
  exact decide_eq_true (by omega)
mutual
theorem toP_eqv {d1 d2 : Nat} : ∀ {a b : W}, isDat d1 a = true → isDat d2 b = true → PyData.eqv (toP a) (toP b) = beq a b
  | .non, b, _, hb => by cases b <;> first | rfl | (cases hb; done)
  | .bl _, b, _, hb => by cases b <;> first | rfl | (cases hb; done)
  | .int _, b, _, hb => by cases b <;> first | rfl | (cases hb; done)
  | .str x, b, _, hb => by
    cases b <;> first | rfl | (cases hb; done)
  | .tup xs, b, ha, hb => by
    cases b <;> first | rfl | (cases hb; done) | skip
    cases d1 with
    | zero => cases ha
    | succ d1 =>
      cases d2 with
      | zero => cases hb
      | succ d2 => exact toPs_eqv (show areDat d1 xs = true from ha) (show areDat d2 _ = true from hb)
  | .lst xs, b, ha, hb => by
    cases b <;> first | rfl | (cases hb; done) | skip
    cases d1 with
    | zero => cases ha
    | succ d1 =>
      cases d2 with
      | zero => cases hb
      | succ d2 => exact toPs_eqv (show areDat d1 xs = true from ha) (show areDat d2 _ = true from hb)
  | .dic _ _, _, ha, _ => by cases ha
  | .obj _ _, _, ha, _ => by cases ha
  | .ref _, _, ha, _ => by cases ha
  | .scr _, _, ha, _ => by cases ha
theorem toPs_eqv {d1 d2 : Nat} : ∀ {a b : List W}, areDat d1 a = true → areDat d2 b = true → PyData.eqvAll (toPs a) (toPs b) = beqs a b
  | [], b, _, _ => by cases b <;> rfl
  | x :: xs, b, ha, hb => by
    cases b with
    | nil => rfl
    | cons y ys =>
      have ha : (isDat d1 x && areDat d1 xs) = true := ha
      have hb : (isDat d2 y && areDat d2 ys) = true := hb
      rw [Bool.and_eq_true] at ha hb
      show (PyData.eqv (toP x) (toP y) && PyData.eqvAll (toPs xs) (toPs ys)) = (beq x y && beqs xs ys)
      rw [toP_eqv ha.1 hb.1, toPs_eqv ha.2 hb.2]
end
mutual
theorem toP_can : ∀ {d : Nat} {a : W}, isDat d a = true → (toP a).canLay0 = true
  | _, .non, _ => rfl
  | _, .bl _, _ => rfl
  | _, .int _, _ => rfl
  | _, .str x, h => strFine_ok h
  | d, .tup xs, h => by
    cases d with
    | zero => cases h
    | succ d => exact toPs_can (show areDat d xs = true from h)
  | d, .lst xs, h => by
    cases d with
    | zero => cases h
    | succ d => exact toPs_can (show areDat d xs = true from h)
  | _, .dic _ _, h => by cases h
  | _, .obj _ _, h => by cases h
  | _, .ref _, h => by cases h
  | _, .scr _, h => by cases h
theorem toPs_can : ∀ {d : Nat} {a : List W}, areDat d a = true → PyData.canLayAll0 (toPs a) = true
  | _, [], _ => rfl
  | d, x :: xs, h => by
    have h : (isDat d x && areDat d xs) = true := h
    rw [Bool.and_eq_true] at h
    show (PyData.canLay0 (toP x) && PyData.canLayAll0 (toPs xs)) = true
    rw [toP_can h.1, toPs_can h.2]
    rfl
end
mutual
theorem toP_Dp (r : RelH K cm mu Z H h) : ∀ {d : Nat} {a : W} {v : V}, isDat d a = true → RW K cm mu Z a v → Dp K H v (toP a)
  | _, .non, _, _, q => by cases q; exact .non
  | _, .bl _, _, _, q => by cases q; exact .bl _
  | _, .int _, _, _, q => by cases q; exact .int _
  | _, .str x, _, h, q => by cases q; exact .str _
  | d, .tup xs, _, h, q => by
    cases d with
    | zero => cases h
    | succ d =>
      obtain ⟨a, vs, rfl, z, rs⟩ := q
      exact .tup (SqT.of (r.tupZ z)) (toPs_Dp r (show areDat d xs = true from h) rs)
  | d, .lst xs, _, h, q => by
    cases d with
    | zero => cases h
    | succ d =>
      obtain ⟨a, vs, rfl, z, rs⟩ := q
      exact .lst (SqL.of (r.lstZ z)) (toPs_Dp r (show areDat d xs = true from h) rs)
  | _, .dic _ _, _, h, _ => by cases h
  | _, .obj _ _, _, h, _ => by cases h
  | _, .ref _, _, h, _ => by cases h
  | _, .scr _, _, h, _ => by cases h
theorem toPs_Dp (r : RelH K cm mu Z H h) : ∀ {d : Nat} {a : List W} {vs : List V}, areDat d a = true → RWs K cm mu Z a vs → DpAll K H vs (toPs a)
  | _, [], _, _, q => by
    cases (show _ = [] from q)
    exact .nil
  | d, x :: xs, _, h, q => by
    have h : (isDat d x && areDat d xs) = true := h
    rw [Bool.and_eq_true] at h
    obtain ⟨v, rs, rfl, q1, q2⟩ := q
    exact .cons (toP_Dp r h.1 q1) (toPs_Dp r h.2 q2)
end
end
end Ti


/-! Ti: ==, in, items, slices, built-in functions over the layer's rules. -/
namespace Ti
open PySem PySem.Spec PyProof.Rows L2
mutual
theorem toP_depth : ∀ {d : Nat} {a : W}, isDat d a = true → (toP a).depth ≤ d
  | _, .non, _ => Nat.zero_le _
  | _, .bl _, _ => Nat.zero_le _
  | _, .int _, _ => Nat.zero_le _
  | _, .str x, h => Nat.zero_le _
  | d, .tup xs, h => by
    cases d with
    | zero => cases h
    | succ d => exact Nat.succ_le_succ (toPs_depth (show areDat d xs = true from h))
  | d, .lst xs, h => by
    cases d with
    | zero => cases h
    | succ d => exact Nat.succ_le_succ (toPs_depth (show areDat d xs = true from h))
  | _, .dic _ _, h => by cases h
  | _, .obj _ _, h => by cases h
  | _, .ref _, h => by cases h
  | _, .scr _, h => by cases h
theorem toPs_depth : ∀ {d : Nat} {a : List W}, areDat d a = true → PyData.depthAll (toPs a) ≤ d
  | _, [], _ => Nat.zero_le _
  | d, x :: xs, h => by
    have h : (isDat d x && areDat d xs) = true := h
    rw [Bool.and_eq_true] at h
    exact Nat.max_le.mpr ⟨toP_depth h.1, toPs_depth h.2⟩
end
theorem toP_shaped {d : Nat} {a : W} (hd : d ≤ 64) (h : isDat d a = true) : SeqAt.shaped (toP a) = true := by
  unfold SeqAt.shaped
  rw [toP_can h, decide_eq_true (Nat.le_trans (toP_depth h) hd)]
  rfl
section
variable {X : Cx} {K : PySem.W.Frag} {cm : Nat → Addr} {mu : List Addr} {Z H : Hp} {h h' : Hh} {w w1 w2 : W} {v v1 v2 : V} {Q : VK}
/-- data, wherever it stands -/
theorem look_Dp (r : RelH K cm mu Z H h) {d : Nat} (q : RW K cm mu Z w v) (e : isDat d (look h w) = true) : Dp K H v (toP (look h w)) := by
  cases w with
  | ref i =>
    obtain ⟨a, rfl, m⟩ := q
    have e : isDat d (match h[i]? with | some c => c.tree | none => W.ref i) = true := e
    show Dp K H (.ref a) (toP (match h[i]? with | some c => c.tree | none => W.ref i))
    cases e1 : h[i]? with
    | none => rw [e1] at e; cases e
    | some c =>
      rw [e1] at e
      have cr := r.at_ m e1
      cases c with
      | lst ws =>
        obtain ⟨_, n, vs, e2, rs⟩ := (show Z a = none ∧ nors ws = true ∧ ∃ vs, H a = some (.lst vs) ∧ RWs K cm [] Z ws vs from cr)
        cases d with
        | zero => cases e
        | succ d => exact .lst (SqL.of e2) (toPs_Dp (cm := cm) r (show areDat d ws = true from e) (RWs.any n rs))
      | dic _ _ => cases e
      | obj _ _ => cases e
      | frz w =>
        obtain ⟨n, q2⟩ := (show nor w = true ∧ RW K cm [] Z w (.ref a) from cr)
        exact toP_Dp (cm := cm) r e (RW.any n q2)
  | _ => exact toP_Dp (cm := cm) r e q
theorem look_any {d : Nat} (e : isDat d (look h w) = true) : ∃ u, look h w = u ∧ isDat d u = true := ⟨_, rfl, e⟩
theorem ok_eq : Ok2 K cm pEq (rEqD K) := by
  intro mu Z H h w1 w2 w h' v1 v2 Q r q1 q2 e f
  obtain ⟨k, e1, rfl, rfl⟩ := bg_o (f := id) e
  unfold eqB at e1
  split at e1
  · rename_i hd
    cases e1
    rw [Bool.and_eq_true] at hd
    refine ⟨_, _, look_Dp r q1 hd.1, look_Dp r q2 hd.2, toP_shaped (by decide) hd.1, toP_shaped (by decide) hd.2, ?_⟩
    rw [toP_eqv hd.1 hd.2]
    exact f.here r rfl
  · cases e1
theorem ok_ne : Ok2 K cm pNe (rNeD K) := by
  intro mu Z H h w1 w2 w h' v1 v2 Q r q1 q2 e f
  obtain ⟨k, e1, rfl, rfl⟩ := bg_o (f := (! ·)) e
  unfold eqB at e1
  split at e1
  · rename_i hd
    cases e1
    rw [Bool.and_eq_true] at hd
    refine ⟨_, _, look_Dp r q1 hd.1, look_Dp r q2 hd.2, toP_shaped (by decide) hd.1, toP_shaped (by decide) hd.2, ?_⟩
    rw [toP_eqv hd.1 hd.2]
    exact f.here r rfl
  · cases e1

/-! ### keys -/
mutual
theorem key_flat {q : Key} : ∀ {w : W} {v : V} {k : HK}, RW K cm mu Z w v → keyOf w = some k → k.key = some q → v = kV q
  | .int i, _, _, h, e, eq => by cases h; cases e; cases eq; rfl
  | .str x, _, _, h, e, eq => by cases h; cases e; cases eq; rfl
  | .non, _, _, _, e, eq => by cases e; cases eq
  | .tup ws, _, _, _, e, eq => by
    unfold keyOf at e
    cases e1 : keysOf ws with
    | none => rw [e1] at e; cases e
    | some ks => rw [e1] at e; cases e; cases eq
  | .bl _, _, _, _, e, _ => by cases e
  | .lst _, _, _, _, e, _ => by cases e
  | .dic _ _, _, _, _, e, _ => by cases e
  | .obj _ _, _, _, _, e, _ => by cases e
  | .ref _, _, _, _, e, _ => by cases e
  | .scr _, _, _, _, e, _ => by cases e
end
theorem keys_flat : ∀ {ws : List W} {vs : List V} {ks : List HK} {qs : List Key}, RWs K cm mu Z ws vs → keysOf ws = some ks → KeysK ks qs → vs = qs.map kV
  | [], _, _, _, h, e, r => by
    cases e
    cases (show _ = [] from h)
    cases r
    rfl
  | w :: ws, _, _, _, h, e, r => by
    unfold keysOf at e
    split at e
    · rename_i a b e1 e2
      cases e
      obtain ⟨v, vr, rfl, h1, h2⟩ := h
      cases r with
      | cons r1 r2 => rw [List.map_cons, key_flat h1 e1 r1, keys_flat h2 e2 r2]
    · cases e
theorem fits_key {k : HK} (e : k.fits false = true) : ∃ q, k.key = some q := by
  cases k with
  | int i => exact ⟨_, rfl⟩
  | str x => exact ⟨_, rfl⟩
  | tup ks => cases e
  | non => cases e
theorem flat_keys : ∀ {ks : List HK}, ks.all HK.flat = true → ∃ qs, KeysK ks qs
  | [], _ => ⟨[], .nil⟩
  | k :: ks, e => by
    rw [List.all_cons, Bool.and_eq_true] at e
    obtain ⟨qs, r⟩ := flat_keys e.2
    cases k with
    | int i => exact ⟨_, .cons rfl r⟩
    | str x => exact ⟨_, .cons rfl r⟩
    | _ => cases e.1
theorem fits_keys {k : HK} (e : k.fits true = true) : ∃ ks qs, k = .tup ks ∧ KeysK ks qs := by
  cases k with
  | tup ks =>
    obtain ⟨qs, r⟩ := flat_keys (show ks.all HK.flat = true from e)
    exact ⟨ks, qs, rfl, r⟩
  | _ => cases e
theorem key_inj : ∀ {a b : HK} {p : Key}, a.key = some p → b.key = some p → a = b := by
  intro a b p ha hb
  cases a <;> first | (cases ha; done) | (cases ha; cases b <;> first | (cases hb; done) | (cases hb; rfl))
theorem keysK_inj : ∀ {a b : List HK} {p : List Key}, KeysK a p → KeysK b p → a = b
  | [], _, _, .nil, r => by cases r; rfl
  | _ :: _, _, _, .cons h1 h2, r => by
    cases r with
    | cons g1 g2 => rw [key_inj h1 g1, keysK_inj h2 g2]
theorem keysK_fun : ∀ {a : List HK} {p q : List Key}, KeysK a p → KeysK a q → p = q
  | [], _, _, .nil, r => by cases r; rfl
  | _ :: _, _, _, .cons h1 h2, r => by
    cases r with
    | cons g1 g2 => rw [Option.some.inj (h1.symm.trans g1), keysK_fun h2 g2]
/-- what stands at a key -/
def RO (K : PySem.W.Frag) (cm : Nat → Addr) (mu : List Addr) (Z : Hp) : Option W → Option V → Prop
  | some w, some v => RW K cm mu Z w v
  | none, none => True
  | _, _ => False
theorem dget_K {k : HK} {q : Key} (hk : k.key = some q) : ∀ {kvs : List (HK × W)} {ks : List Key} {vs : List V}, KeysK (kvs.map (·.1)) ks → ks.length = vs.length → RWk K cm mu Z kvs vs → RO K cm mu Z (dget kvs k) (valV (ks.zip vs) q)
  | [], _, _, .nil, _, r => by
    cases (show _ = [] from r)
    exact True.intro
  | (k0, w0) :: kvs, _, _, .cons h1 h2, hl, r => by
    obtain ⟨v, vr, rfl, r1, r2⟩ := r
    rename_i q0 qs
    have ih := dget_K hk h2 (Nat.succ.inj hl) r2
    rw [List.zip_cons_cons]
    by_cases e : k0 = k
    · subst e
      have eq : q0 = q := Option.some.inj (h1.symm.trans hk)
      subst eq
      rw [valV_pos rfl]
      unfold dget
      rw [List.find?_cons, decide_eq_true rfl]
      exact r1
    · have ne : ¬ q0 = q := fun z => by
        subst z
        exact e (key_inj h1 hk)
      rw [valV_neg ne]
      unfold dget
      rw [List.find?_cons, decide_eq_false (show ¬ ((k0, w0) : HK × W).1 = k from e)]
      exact ih
theorem dget_T {ks0 : List HK} {q : List Key} (hk : KeysK ks0 q) : ∀ {kvs : List (HK × W)} {ks : List (List Key)} {vs : List V}, KeysT (kvs.map (·.1)) ks → ks.length = vs.length → RWk K cm mu Z kvs vs → RO K cm mu Z (dget kvs (.tup ks0)) (valV (ks.zip vs) q)
  | [], _, _, .nil, _, r => by
    cases (show _ = [] from r)
    exact True.intro
  | (k0, w0) :: kvs, _, _, .cons h1 h2, hl, r => by
    obtain ⟨v, vr, rfl, r1, r2⟩ := r
    obtain ⟨l0, e0, h1⟩ := h1
    have e0 : k0 = .tup l0 := e0
    rename_i q0 qs0 _
    have ih := dget_T hk h2 (Nat.succ.inj hl) r2
    rw [List.zip_cons_cons]
    by_cases e : l0 = ks0
    · subst e
      have eq : q0 = q := keysK_fun h1 hk
      subst eq
      rw [valV_pos rfl]
      unfold dget
      rw [List.find?_cons, decide_eq_true (show ((k0, w0) : HK × W).1 = _ from e0)]
      exact r1
    · have ne : ¬ q0 = q := fun z => by
        subst z
        exact e (keysK_inj h1 hk)
      rw [valV_neg ne]
      unfold dget
      rw [List.find?_cons, decide_eq_false (show ¬ ((k0, w0) : HK × W).1 = .tup ks0 from fun z => by
        rw [show ((k0, w0) : HK × W).1 = .tup l0 from e0] at z
        exact e (HK.tup.inj z))]
      exact ih
/-- a dict asked -/
theorem dic_get (r : RelH K cm mu Z H h) (q1 : RW K cm mu Z w1 v1) (q2 : RW K cm mu Z w2 v2) {kd : Bool} {kvs : List (HK × W)} {k : HK} (e1 : asD h w1 = some (kd, kvs)) (e2 : keyOf w2 = some k) (e3 : k.fits kd = true) :
    ∃ a o, v1 = .ref a ∧ DGet H a v2 o ∧ RO K cm mu Z (dget kvs k) o := by
  obtain ⟨a, ev, _, hd⟩ := asD_ok r q1 e1
  cases kd with
  | false =>
    obtain ⟨ks, vs, h1, h2, h3, h4⟩ := (show ∃ ks vs, KeysK (kvs.map (·.1)) ks ∧ Rd H a (.dK (ks.zip vs)) ∧ ks.length = vs.length ∧ RWk K cm mu Z kvs vs from hd)
    obtain ⟨q, hq⟩ := fits_key e3
    exact ⟨a, _, ev, .inl ⟨_, q, h2, key_flat q2 e2 hq, rfl⟩, dget_K hq h1 h3 h4⟩
  | true =>
    obtain ⟨ks, vs, h1, h2, h3, h4⟩ := (show ∃ ks vs, KeysT (kvs.map (·.1)) ks ∧ Rd H a (.dT (ks.zip vs)) ∧ ks.length = vs.length ∧ RWk K cm mu Z kvs vs from hd)
    obtain ⟨l, q, rfl, hq⟩ := fits_keys e3
    cases w2 with
    | tup ws =>
      unfold keyOf at e2
      cases e4 : keysOf ws with
      | none => rw [e4] at e2; cases e2
      | some ks2 =>
        rw [e4] at e2
        cases e2
        obtain ⟨b, xs, rfl, z, rs⟩ := q2
        refine ⟨a, _, ev, .inr ⟨_, q, b, h2, rfl, ?_, rfl⟩, dget_T hq h1 h3 h4⟩
        rw [r.tupZ z, keys_flat rs e4 hq]
    | _ => cases e2

/-! ### in -/
def rInX (K : PySem.W.Frag) (neg : Bool) : R2 := fun x y H Q => ((∃ (c : Nat) (z : Str), x = .str ⟨#[c]⟩ ∧ y = .str z ∧ Q (.bl (if neg then !decide (c ∈ z.cps.toList) else decide (c ∈ z.cps.toList))) H) ∨
  (∃ d ds, Dp K H x d ∧ Dp K H y (.list ds) ∧ SeqAt.shaped d = true ∧ SeqAt.shaped (.list ds) = true ∧ Q (.bl (if neg then !(ds.any fun z => PyData.eqv z d) else ds.any fun z => PyData.eqv z d)) H)) ∨
  rIn K neg x y H Q ∨ ∃ a o, y = .ref a ∧ DGet H a x o ∧ Q (.bl (if neg then !o.isSome else o.isSome)) H
theorem op_inX (hu : X.A.units + 65 < cLine) : OpR X (compareOp .In) (rInX X.K false) := by
  intro pins s σ H x y v u Q I rx ry q
  rcases q with (q | q) | q | ⟨a, o, rfl, g, q⟩
  · exact op_in_sign pins s σ H x y v u Q I rx ry q
  · exact op_inD hu pins s σ H x y v u Q I rx ry q
  · exact op_in_seq pins s σ H x y v u Q I rx ry q
  · cases (show u = Value.ref a from ry)
    exact d_in (by omega) I g rx fun s' I' => ⟨.bl o.isSome, H, I', rfl, q⟩
theorem op_niX (hu : X.A.units + 65 < cLine) : OpR X (compareOp .NotIn) (rInX X.K true) := by
  intro pins s σ H x y v u Q I rx ry q
  rcases q with (q | q) | q | ⟨a, o, rfl, g, q⟩
  · exact op_notIn_sign pins s σ H x y v u Q I rx ry q
  · exact op_notInD hu pins s σ H x y v u Q I rx ry q
  · exact op_notIn_seq pins s σ H x y v u Q I rx ry q
  · cases (show u = Value.ref a from ry)
    exact d_notIn (by omega) I g rx fun s' I' => ⟨.bl (!o.isSome), H, I', rfl, q⟩
theorem any_P {d : Nat} {u : W} (hu : isDat 60 u = true) : ∀ {ws : List W}, areDat 60 ws = true → ((toPs ws).any fun z => PyData.eqv z (toP u)) = ws.any fun w => beq w u
  | [], _ => rfl
  | w :: ws, h => by
    have h : (isDat 60 w && areDat 60 ws) = true := h
    rw [Bool.and_eq_true] at h
    show (PyData.eqv (toP w) (toP u) || (toPs ws).any _) = (beq w u || ws.any _)
    rw [toP_eqv h.1 hu, any_P (d := d) hu h.2]
theorem flat_V {w : W} {v : V} (e : isDat 0 w = true) (q : RW K cm mu Z w v) : flatV v = true := by
  cases w with
  | non => cases q; rfl
  | bl _ => cases q; rfl
  | int _ => cases q; rfl
  | str _ => cases q; rfl
  | _ => cases e
theorem beq_V {w u : W} {v x : V} (e1 : isDat 0 w = true) (e2 : isDat 0 u = true) (q1 : RW K cm mu Z w v) (q2 : RW K cm mu Z u x) : eqV v x = beq w u := by
  cases w <;> first | (cases e1; done) | (cases u <;> first | (cases e2; done) | (cases q1; cases q2; first | rfl | skip))
theorem any_V {u : W} {x : V} (e2 : isDat 0 u = true) (q2 : RW K cm mu Z u x) : ∀ {ws : List W} {vs : List V}, areDat 0 ws = true → RWs K cm mu Z ws vs → vs.all flatV = true ∧ inV x vs = ws.any fun w => beq w u
  | [], _, _, q => by
    cases (show _ = [] from q)
    exact ⟨rfl, rfl⟩
  | w :: ws, _, h, q => by
    have h : (isDat 0 w && areDat 0 ws) = true := h
    rw [Bool.and_eq_true] at h
    obtain ⟨v, r, rfl, r1, r2⟩ := q
    obtain ⟨i1, i2⟩ := any_V e2 q2 h.2 r2
    refine ⟨?_, ?_⟩
    · rw [List.all_cons, flat_V h.1 r1, i1]
      rfl
    · show (eqV v x || inV x r) = (beq w u || _)
      rw [beq_V h.1 e2 r1 q2, i2]
end
end Ti


/-! Ti: in, items, slices, built-in functions. -/
namespace Ti
open PySem PySem.Spec PyProof.Rows L2
section
variable {X : Cx} {K : PySem.W.Frag} {cm : Nat → Addr} {mu : List Addr} {Z H : Hp} {h h' : Hh} {w w1 w2 : W} {v v1 v2 : V} {Q : VK}
theorem RelH.scrZ (r : RelH K cm mu Z H h) {a : Addr} {xs : List V} (q : SqL K Z a xs) : SqL K H a xs := by
  rcases q with (q | ⟨o, q⟩) | q
  · exact .inl (.inl (r.zh a _ q))
  · exact .inl (.inr ⟨o, r.zh a _ q⟩)
  · exact .inr q
theorem RWs.ints : ∀ ns : List Int, RWs K cm mu Z (ns.map W.int) (ns.map V.int)
  | [] => rfl
  | n :: ns => ⟨.int n, ns.map V.int, rfl, rfl, RWs.ints ns⟩
/-- what in asks, either way -/
theorem in_core {neg : Bool} {k : Bool} (r : RelH K cm mu Z H h) (q1 : RW K cm mu Z w1 v1) (q2 : RW K cm mu Z w2 v2) (e : inB h w1 w2 = some k) (f : Q (.bl (if neg then !k else k)) H) : rInX K neg v1 v2 H Q := by
  have gen : ∀ {u : W}, RW K cm mu Z u v2 → (match asL h u with
      | some ws => if isDat 60 (look h w1) && areDat 60 ws then some (ws.any fun w => beq w (look h w1)) else none
      | none => match asD h u with
        | some (kd, kvs) => match keyOf w1 with
          | some k => if k.fits kd then some (dget kvs k).isSome else none
          | none => none
        | none => none) = some k → rInX K neg v1 v2 H Q := fun {u} q2 e => by
    split at e
    · rename_i ws e1
      split at e
      · rename_i hd
        cases e
        rw [Bool.and_eq_true] at hd
        obtain ⟨a, vs, rfl, ha, rs⟩ := asL_ok r q2 e1
        refine .inl (.inr ⟨toP (look h w1), toPs ws, look_Dp r q1 hd.1, .lst (SqL.of ha) (toPs_Dp r hd.2 rs), toP_shaped (by decide) hd.1, toP_shaped (d := 61) (a := .lst ws) (by decide) hd.2, ?_⟩)
        rw [any_P (d := 60) hd.1 hd.2]
        exact f
      · cases e
    · split at e
      · rename_i kd kvs e2
        split at e
        · rename_i hk e3
          split at e
          · rename_i e4
            cases e
            obtain ⟨a, o, ev, g, ro⟩ := dic_get r q2 q1 e2 e3 e4
            refine .inr (.inr ⟨a, o, ev, g, ?_⟩)
            have : (dget kvs hk).isSome = o.isSome := by
              cases e5 : dget kvs hk <;> cases o <;> rw [e5] at ro <;> first | rfl | cases ro
            rw [← this]
            exact f
          · cases e
        · cases e
      · cases e
  cases w2 with
  | str z =>
    cases w1 with
    | str c =>
      have e : (match sg c with | [k] => some (decide (k ∈ sg z)) | _ => none) = some k := e
      split at e
      · rename_i n e1
        cases e; cases q1; cases q2
        refine .inl (.inl ⟨n, z, ?_, rfl, f⟩)
        have : c = ⟨#[n]⟩ := by
          have : mkS (sg c) = mkS [n] := by rw [e1]
          exact this
        rw [this]
      · cases e
    | _ => cases e
  | tup ws =>
    have e : (if isDat 0 (look h w1) && areDat 0 ws then some (ws.any fun w => beq w (look h w1)) else none) = some k := e
    split at e
    · rename_i hd
      cases e
      rw [Bool.and_eq_true] at hd
      obtain ⟨a, vs, rfl, z, rs⟩ := q2
      have q1' : RW K cm mu Z (look h w1) v1 := by
        cases w1 with
        | ref i =>
          obtain ⟨b, rfl, m⟩ := q1
          have hd1 : isDat 0 (match h[i]? with | some c => c.tree | none => W.ref i) = true := hd.1
          show RW K cm mu Z (match h[i]? with | some c => c.tree | none => W.ref i) (.ref b)
          cases e1 : h[i]? with
          | none => rw [e1] at hd1; cases hd1
          | some c =>
            rw [e1] at hd1
            cases c with
            | frz u =>
              obtain ⟨n, q3⟩ := (show nor u = true ∧ RW K cm [] Z u (.ref b) from r.at_ m e1)
              exact RW.any n q3
            | _ => cases hd1
        | _ => exact q1
      obtain ⟨i1, i2⟩ := any_V hd.1 q1' hd.2 rs
      refine .inr (.inl ⟨a, vs, rfl, .inr (SqT.of (r.tupZ z)), flat_V hd.1 q1', i1, ?_⟩)
      rw [i2]
      exact f
    · cases e
  | _ => exact gen q2 e
theorem ok_in : Ok2 K cm pIn (rInX K false) := by
  intro mu Z H h w1 w2 w h' v1 v2 Q r q1 q2 e f
  obtain ⟨k, e1, rfl, rfl⟩ := bg_o (f := id) e
  exact in_core r q1 q2 e1 (f.here r rfl)
theorem ok_ni : Ok2 K cm pNi (rInX K true) := by
  intro mu Z H h w1 w2 w h' v1 v2 Q r q1 q2 e f
  obtain ⟨k, e1, rfl, rfl⟩ := bg_o (f := (! ·)) e
  exact in_core r q1 q2 e1 (f.here r rfl)

/-! ### items -/
def rIxD : R2 := fun x y H Q => ∃ a v, x = .ref a ∧ DGet H a y (some v) ∧ Q v H
theorem ix_dict (hu : X.A.units + 1 < cLine) : IxR X rIxD := by
  intro value slice pins s σ H x y v u Q I rx ry hq hs
  obtain ⟨a, z, rfl, g, q⟩ := hq
  cases (show v = Value.ref a from rx)
  exact tail_any (dict_typeIs I g) (PySem.F.slot_dict_getitem.lookup) (d_getItem hu I g ry fun w' s' I' rw' => ⟨z, H, I', rw', q⟩) hs
def rIxX (K : PySem.W.Frag) : R2 := fun x y H Q => rIx K x y H Q ∨ rIxD x y H Q
theorem ix_X (hu : X.A.units + 1 < cLine) : IxR X (rIxX X.K) := ix_seq.or (ix_dict hu)
theorem place_at {α : Type} {xs : List α} {i : Int} {j : Nat} {v : α} (e : placeI xs.length i = some j) (e2 : xs[j]? = some v) : atI xs i = some v := by
  have : ixN xs.length i = some j := e
  unfold atI
  rw [this]
  exact e2
theorem ok_ix : Ok2 K cm pIx (rIxX K) := by
  intro mu Z H h w1 w2 w h' v1 v2 Q r q1 q2 e f
  obtain ⟨u, e1, e⟩ := Res.bind_eq_ok e
  cases e
  have e1 := ofO_eq_ok e1
  have gen : ∀ {u : W}, RW K cm mu Z u v1 → (match asL h u with
      | some ws => itemW ws w2
      | none => match asD h u with
        | some (kd, kvs) => entryW kd kvs w2
        | none => none) = some w → rIxX K v1 v2 H Q := fun {u} q1 e => by
    split at e
    · rename_i ws e2
      cases w2 with
      | int i =>
        obtain ⟨j, e3, e4⟩ := Option.bind_eq_some_iff.mp (show (placeI ws.length i).bind (fun j => ws[j]?) = some w from e)
        cases q2
        obtain ⟨a, vs, rfl, ha, rs⟩ := asL_ok r q1 e2
        obtain ⟨z, e5, qz⟩ := rs.get e4
        exact .inl (.inl ⟨a, vs, i, z, rfl, rfl, SqL.of ha, place_at (by rw [rs.length]; exact e3) e5, f.here r qz⟩)
      | _ => cases e
    · split at e
      · rename_i kd kvs e2
        unfold entryW at e
        split at e
        · rename_i hk e3
          split at e
          · rename_i e4
            obtain ⟨a, o, ev, g, ro⟩ := dic_get r q1 q2 e2 e3 e4
            rw [e] at ro
            cases o with
            | none => cases ro
            | some z => exact .inr ⟨a, z, ev, g, f.here r ro⟩
          · cases e
        · cases e
      · cases e
  cases w1 with
  | str z =>
    cases w2 with
    | int i =>
      have e1 : (if z.length ≤ lineW then (placeI (sg z).length i).bind fun j => (sg z)[j]?.map fun c => W.str (mkS [c]) else none) = some w := e1
      split at e1
      · rename_i hl
        obtain ⟨j, e3, e4⟩ := Option.bind_eq_some_iff.mp e1
        obtain ⟨c, e5, rfl⟩ := Option.map_eq_some_iff.mp e4
        cases q1; cases q2
        exact .inl (.inr (.inr ⟨z, i, c, rfl, rfl, hl, place_at e3 e5, f.here r rfl⟩))
      · cases e1
    | _ => cases e1
  | tup ws =>
    cases w2 with
    | int i =>
      obtain ⟨j, e3, e4⟩ := Option.bind_eq_some_iff.mp (show (placeI ws.length i).bind (fun j => ws[j]?) = some w from e1)
      cases q2
      obtain ⟨a, vs, rfl, z, rs⟩ := q1
      obtain ⟨y, e5, qz⟩ := rs.get e4
      exact .inl (.inr (.inl ⟨a, vs, i, y, rfl, rfl, SqT.of (r.tupZ z), place_at (by rw [rs.length]; exact e3) e5, f.here r qz⟩))
    | _ => cases e1
  | _ => exact gen q1 e1

/-! ### slices -/
theorem clamp_sIx (n d : Nat) (i : Int) : min n (clampI n i) = HT.sIx n d (some i) := by
  have e := HT.clip_eq i n d
  unfold clampI
  split at e <;> split <;> omega
theorem cutL_eq {α : Type} (l : List α) (lo hi : Option Int) : cutL l lo hi = (l.drop (HT.sIx l.length 0 lo)).take (HT.sIx l.length l.length hi - HT.sIx l.length 0 lo) := by
  have tk : ∀ n, l.take n = l.take (min l.length n) := fun n => by
    rcases Nat.le_total n l.length with h | h
    · rw [Nat.min_eq_right h]
    · rw [Nat.min_eq_left h, List.take_of_length_le h, List.take_length]
  have ehi : l.take (hiI l.length hi) = l.take (HT.sIx l.length l.length hi) := by
    cases hi with
    | none => rfl
    | some j => rw [tk]; rw [show hiI l.length (some j) = clampI l.length j from rfl, clamp_sIx l.length l.length j]
  unfold cutL
  rw [ehi]
  have dr : ∀ (m : List α) (n : Nat), m.length ≤ l.length → m.drop n = m.drop (min l.length n) := fun m n hm => by
    rcases Nat.le_total n l.length with h | h
    · rw [Nat.min_eq_right h]
    · rw [Nat.min_eq_left h, List.drop_of_length_le (by omega), List.drop_of_length_le (by omega)]
  have elo : (l.take (HT.sIx l.length l.length hi)).drop (loI l.length lo) = (l.take (HT.sIx l.length l.length hi)).drop (HT.sIx l.length 0 lo) := by
    cases lo with
    | none => rfl
    | some j => rw [dr _ _ (by rw [List.length_take]; omega), show loI l.length (some j) = clampI l.length j from rfl, clamp_sIx l.length 0 j]
  rw [elo, List.drop_take]
theorem cutL_map {α β : Type} (g : α → β) (l : List α) (lo hi : Option Int) : cutL (l.map g) lo hi = (cutL l lo hi).map g := by
  unfold cutL
  rw [List.map_drop, List.map_take, List.length_map]
theorem RWs.cut {ws : List W} {vs : List V} (q : RWs K cm mu Z ws vs) (lo hi : Option Int) : RWs K cm mu Z (cutL ws lo hi) (cutV vs lo hi) := by
  rw [cutL_eq]
  unfold cutV
  rw [q.length]
  exact (q.drop _).take _
def rSlX (K : PySem.W.Frag) : V → Option Int → Option Int → Hp → VK → Prop := fun x lo hi H Q => (rSlS x lo hi H Q ∨ rSlL K x lo hi H Q) ∨ rSlA K x lo hi H Q
theorem sl_X : SlR X (rSlX X.K) := (sl_str.or sl_list).or sl_tupA
/-- a slice's end by the evaluator: a number, or none is written -/
inductive QO (X : Cx) (cm : Nat → Addr) : Option Expr → Bool → DE → Prop where
  | none {w : W} : QO X cm none false (eK w)
  | some {e : Expr} {m : DE} (h : QE X cm e m) : QO X cm (some e) true m
def tOO (K : PySem.W.Frag) (cm : Nat → Addr) (b : Bool) (m : DE) : TO := fun σ H Q => ∃ mu Z ρ h w h' o, RelH K cm mu Z H h ∧ Sl K cm mu Z ρ σ ∧ m ρ h = .ok (w, h') ∧ partI b w = some o ∧
  ∀ mu' Z' H', Ext mu Z H mu' Z' H' → RelH K cm mu' Z' H' h' → Q o H'
theorem PO.wk {e : Option Expr} {t t' : TO} (h : PO X e t) (i : ∀ σ H Q, t' σ H Q → t σ H Q) : PO X e t' := ⟨fun pins s σ H Q I q => h.run pins s σ H Q I (i σ H Q q)⟩
theorem QO.po {e : Option Expr} {b : Bool} {m : DE} (q : QO X cm e b m) : PO X e (tOO X.K cm b m) := by
  cases q with
  | none =>
    refine PO.wk po_none fun σ H Q q => ?_
    obtain ⟨mu, Z, ρ, h, w, h', o, rl, s, e, ep, f⟩ := q
    cases e
    cases ep
    exact f _ _ _ Ext.refl rl
  | some he =>
    refine PO.wk (po_some he) fun σ H Q q => ?_
    obtain ⟨mu, Z, ρ, h, w, h', o, rl, s, e, ep, f⟩ := q
    refine ⟨mu, Z, ρ, h, w, h', rl, s, e, fun mu1 Z1 H1 v1 x1 r1 w1 => ?_⟩
    cases w with
    | int i =>
      cases ep
      cases w1
      exact ⟨i, rfl, f _ _ _ x1 r1⟩
    | _ => cases ep
theorem q_sl {c : Bool} {a : Expr} {lo hi : Option Expr} {ma ml mh : DE} {bl bh : Bool} {p2 pos : Pos} (ha : QE X cm a ma) (hl : QO X cm lo bl ml) (hh : QO X cm hi bh mh) : QE X cm (.Subscript a (.Slice lo hi none p2) pos) (e3 (pSl c bl bh) ma ml mh) := by
  refine PE.wk (pe_slice sl_X ha hl.po hh.po) fun σ H Q q => ?_
  obtain ⟨mu, Z, ρ, h, w, h', rl, s, e, f⟩ := q
  obtain ⟨p1, e1, e⟩ := Res.bind_eq_ok e
  obtain ⟨p2, e2, e⟩ := Res.bind_eq_ok e
  obtain ⟨p3, e3, e⟩ := Res.bind_eq_ok e
  unfold pSl at e
  split at e
  · rename_i l r el er
    refine ⟨mu, Z, ρ, h, p1.1, p1.2, rl, s, e1, fun mu1 Z1 H1 v1 x1 r1 w1 => ?_⟩
    refine ⟨mu1, Z1, ρ, p1.2, p2.1, p2.2, l, r1, s.ext x1, e2, el, fun mu2 Z2 H2 x2 r2 => ?_⟩
    refine ⟨mu2, Z2, ρ, p2.2, p3.1, p3.2, r, r2, s.ext (x1.trans x2), e3, er, fun mu3 Z3 H3 x3 r3 => ?_⟩
    have w1 := w1.mono (x2.trans x3).z (x2.trans x3).m
    have f := f.ext (x1.trans (x2.trans x3))
    obtain ⟨u1, h1⟩ := p1
    have gen : ∀ {u : W}, RW X.K cm mu3 Z3 u v1 → (match asL p3.2 u with | some ws => mkL c (cutL ws l r) p3.2 | none => .bad) = .ok (w, h') → rSlX X.K v1 l r H3 Q := fun {u} q1 e => by
      split at e
      · rename_i ws e4
        obtain ⟨a, vs, rfl, ha, rs⟩ := asL_ok r3 q1 e4
        obtain ⟨_, hp⟩ := mkL_ok r3 (rs.cut l r) e f
        exact .inl (.inr ⟨a, vs, rfl, SqL.of ha, hp⟩)
      · cases e
    cases u1 with
    | str z =>
      have e : (if z.length ≤ lineW then Res.ok (W.str (mkS (cutL (sg z) l r)), p3.2) else .bad) = .ok (w, h') := e
      split at e
      · rename_i hz
        cases e; cases w1
        refine .inl (.inl ⟨z, rfl, hz, ?_⟩)
        have : cutS z l r = mkS (cutL (sg z) l r) := by
          rw [cutL_eq, ← len_sg]
          rfl
        rw [this]
        exact f.here r3 rfl
      · cases e
    | tup ws =>
      cases e
      obtain ⟨a, vs, rfl, z, rs⟩ := w1
      refine .inr ⟨a, vs, rfl, SqT.of (r3.tupZ z), fun hw => f.here r3 ⟨a, vs, rfl, z, ?_⟩, fun hw p hp => ?_⟩
      · have := rs.cut l r
        unfold cutV at this
        rw [hw.1, hw.2, List.drop_zero, Nat.sub_zero, List.take_length] at this
        exact this
      · obtain ⟨r', x⟩ := r3.newZ (o := .tup (cutV vs l r)) hp upd_same
        exact f _ _ _ _ x r' ⟨p, _, rfl, upd_same, (rs.cut l r).mono x.z x.m⟩
    | scr ns =>
      obtain ⟨a, rfl, q⟩ := w1
      have e : mkL c ((cutL ns l r).map .int) p3.2 = .ok (w, h') := e
      have : cutV (ns.map V.int) l r = (cutL ns l r).map V.int := by
        rw [← cutL_map, cutL_eq]
        rfl
      refine .inl (.inr ⟨a, ns.map V.int, rfl, r3.scrZ q, ?_⟩)
      rw [this]
      exact (mkL_ok r3 (RWs.ints _) e f).2
    | _ => exact gen w1 e
  · cases e
end
end Ti


/-! Ti: built-in functions and methods over the layer's rules. -/
namespace Ti
open PySem PySem.Spec PyProof.Rows L2
section
variable {X : Cx} {K : PySem.W.Frag} {cm : Nat → Addr} {mu : List Addr} {Z H : Hp} {h h' : Hh} {w w1 w2 : W} {v v1 v2 : V} {Q : VK}
theorem OkL.of1 {g : F1} {r : List V → Hp → VK → Prop} (k : Ok1 K cm g fun v H Q => r [v] H Q) : OkL K cm (l1 g) r := by
  intro mu Z H h ws w h' vs Q rl q e f
  match ws, e, q with
  | [a], e, q =>
    obtain ⟨v, rfl, q1⟩ := q.one
    exact k mu Z H h a w h' v Q rl q1 e f
  | [], e, _ => cases e
  | _ :: _ :: _, e, _ => cases e
theorem OkL.of2 {g : F2} {r : List V → Hp → VK → Prop} (k : Ok2 K cm g fun x y H Q => r [x, y] H Q) : OkL K cm (l2 g) r := by
  intro mu Z H h ws w h' vs Q rl q e f
  match ws, e, q with
  | [a, b], e, q =>
    obtain ⟨v, x, rfl, q1, q2⟩ := q.two
    exact k mu Z H h a b w h' v x Q rl q1 q2 e f
  | [], e, _ => cases e
  | [_], e, _ => cases e
  | _ :: _ :: _ :: _, e, _ => cases e
theorem tO_call {g : Fn} {ms : List DE} {r : List V → Hp → VK → Prop} (k : OkL K cm g r) (σ : L2.St) (H : Hp) (Q : VK) (q : tO K cm (eF g ms) σ H Q) : tCB r (tOL K cm ms) σ H Q := by
  obtain ⟨mu, Z, ρ, h, w, h', rl, s, e, f⟩ := q
  obtain ⟨p, e1, e⟩ := Res.bind_eq_ok e
  exact ⟨mu, Z, ρ, h, p.1, p.2, rl, s, e1, fun mu1 Z1 H1 vs x1 r1 w1 => k mu1 Z1 H1 p.2 p.1 w h' vs Q r1 w1 e (f.ext x1)⟩
theorem q_callB {id : String} {g : Fn} {r : List V → Hp → VK → Prop} {x : Str} {e : Expr} {es : List Expr} {ms : List DE} {p pos : Pos} (hc : CallR X (.builtin id) r) (k : OkL X.K cm g r) (hg : Gl X x) (hm : X.mg x = none) (hv : bootBuiltins x = some (.builtin id)) (ha : QL X cm (e :: es) ms) (hn : x ≠ "__name__") (hdb : (x == ("__debug__" : Str)) = false)
    (he : starEach (e :: es) X.env = (false, eval e X.env) :: starEach es X.env) (hpl : (backTo pos (starEach es X.env)).any (·.1) = false) : QE X cm (.Call (.Name x p) (e :: es) [] pos) (eF g ms) :=
  PE.wk (pe_callB hc hg hm hv ha hn hdb he hpl) fun σ H Q q => tO_call k σ H Q q
theorem q_callTy {T : String} {g : Fn} {r : List V → Hp → VK → Prop} {x : Str} {e : Expr} {es : List Expr} {ms : List DE} {p pos : Pos} (hc : CallR X (.type T) r) (k : OkL X.K cm g r) (hg : Gl X x) (hm : X.mg x = none) (hv : bootBuiltins x = some (.type T)) (ha : QL X cm (e :: es) ms) (hn : x ≠ "__name__") (hdb : (x == ("__debug__" : Str)) = false)
    (he : starEach (e :: es) X.env = (false, eval e X.env) :: starEach es X.env) (hpl : (backTo pos (starEach es X.env)).any (·.1) = false) : QE X cm (.Call (.Name x p) (e :: es) [] pos) (eF g ms) :=
  PE.wk (pe_callTy hc hg hm hv ha hn hdb he hpl) fun σ H Q q => tO_call k σ H Q q

/-! ### len, int, str, max, min, sum, list -/
def rLenD : List V → Hp → VK → Prop := fun xs H Q => ∃ d kvs, xs = [.ref d] ∧ Rd H d (.dK kvs) ∧ Q (.int kvs.length) H
theorem call_lenDk : CallR X (.builtin "len") rLenD := by
  intro pins s σ H xs us Q I r hq
  obtain ⟨d, kvs, rfl, hd, q⟩ := hq
  rw [Vals.ref1 r]
  exact d_len I hd fun t s' I' => ⟨.int kvs.length, H, I', ⟨_, rfl⟩, q⟩
def rLenX (K : PySem.W.Frag) : List V → Hp → VK → Prop := fun xs H Q => (∃ x n, xs = [x] ∧ LenV K x H n ∧ Q (.int n) H) ∨ rLenD xs H Q
theorem call_lenX : CallR X (.builtin "len") (rLenX X.K) := call_len.or call_lenDk
theorem ok_len : Ok1 K cm pLen fun v H Q => rLenX K [v] H Q := by
  intro mu Z H h w1 w h' v1 Q r q1 e f
  have gen : ∀ {u : W}, RW K cm mu Z u v1 → (match asL h u with
      | some ws => Res.ok (W.int ws.length, h)
      | none => match asD h u with
        | some (kd, kvs) => if kd then .bad else .ok (.int kvs.length, h)
        | none => .bad) = .ok (w, h') → rLenX K [v1] H Q := fun {u} q1 e => by
    split at e
    · rename_i ws e1
      cases e
      obtain ⟨a, vs, rfl, ha, rs⟩ := asL_ok r q1 e1
      refine .inl ⟨.ref a, ws.length, rfl, .inl ⟨vs, SqL.of ha, rs.length.symm⟩, f.here r rfl⟩
    · split at e
      · rename_i kd kvs e2
        split at e
        · cases e
        · rename_i hk
          cases e
          have hk : kd = false := by
            cases kd with
            | true => exact absurd rfl hk
            | false => rfl
          subst hk
          obtain ⟨a, rfl, _, hd⟩ := asD_ok r q1 e2
          obtain ⟨ks, vs, h1, h2, h3, h4⟩ := (show ∃ ks vs, KeysK (kvs.map (·.1)) ks ∧ Rd H a (.dK (ks.zip vs)) ∧ ks.length = vs.length ∧ RWk K cm mu Z kvs vs from hd)
          refine .inr ⟨a, _, rfl, h2, ?_⟩
          have : (ks.zip vs).length = kvs.length := by
            rw [List.length_zip, ← h3, Nat.min_self]
            have := Paired.length h1
            rw [List.length_map] at this
            exact this.symm
          rw [this]
          exact f.here r rfl
      · cases e
  cases w1 with
  | str z =>
    have e : (if z.length ≤ lineW then Res.ok (W.int z.length, h) else .bad) = .ok (w, h') := e
    split at e
    · rename_i hl
      cases e; cases q1
      exact .inl ⟨.str z, z.length, rfl, ⟨hl, rfl⟩, f.here r rfl⟩
    · cases e
  | tup ws =>
    cases e
    obtain ⟨a, vs, rfl, z, rs⟩ := q1
    exact .inl ⟨.ref a, ws.length, rfl, .inr ⟨vs, SqT.of (r.tupZ z), rs.length.symm⟩, f.here r rfl⟩
  | scr ns =>
    cases e
    obtain ⟨a, rfl, q⟩ := q1
    exact .inl ⟨.ref a, ns.length, rfl, .inl ⟨_, r.scrZ q, by rw [List.length_map]⟩, f.here r rfl⟩
  | _ => exact gen q1 e
def rIntX : List V → Hp → VK → Prop := fun xs H Q => ((∃ i, xs = [.int i] ∧ Q (.int i) H) ∨ ∃ k, xs = [.bl k] ∧ Q (.int (if k then 1 else 0)) H) ∨ ∃ a n, xs = [.str a] ∧ PySem.intText? a = some n ∧ a.length ≤ 640 ∧ Q (.int n) H
theorem call_intX : CallR X (.type "int") rIntX := call_int1.or call_int_str
theorem digs_val : ∀ (l : List Nat) (a : Nat), (∀ c ∈ l, 48 ≤ c ∧ c ≤ 57) → l.foldl (fun a c => a * 10 + (c - 48)) a = l.foldl (fun a c => a * 10 + (c - 48)) a := fun _ _ _ => rfl
theorem ok_int : Ok1 K cm pInt fun v H Q => rIntX [v] H Q := by
  intro mu Z H h w1 w h' v1 Q r q1 e f
  cases w1 with
  | int i => cases e; cases q1; exact .inl (.inl ⟨i, rfl, f.here r rfl⟩)
  | bl b => cases e; cases q1; exact .inl (.inr ⟨b, rfl, f.here r rfl⟩)
  | str z =>
    have e : (if (sg z).all isDig = true ∧ sg z ≠ [] ∧ z.length ≤ 640 then Res.ok (W.int (digsVal (sg z)), h) else .bad) = .ok (w, h') := e
    split at e
    · rename_i hc
      cases e; cases q1
      obtain ⟨h1, h2, h3⟩ := hc
      have ad : NumText.AllDigits z.cps.toList := fun c hcm => by
        have := List.all_eq_true.mp h1 c hcm
        unfold isDig at this
        rw [Bool.and_eq_true, decide_eq_true_eq, decide_eq_true_eq] at this
        exact this
      exact .inr ⟨z, _, rfl, PySem.intText_digits ad h2 (by omega), h3, f.here r rfl⟩
    · cases e
  | _ => cases e
theorem ok_str : Ok1 K cm pStr fun v H Q => (fun xs H Q => ∃ i : Int, xs = [V.int i] ∧ i.natAbs.log2 < 1920 ∧ Q (.str (toString i)) H) [v] H Q := by
  intro mu Z H h w1 w h' v1 Q r q1 e f
  cases w1 with
  | int i =>
    have e : (if 0 ≤ i ∧ i.natAbs.log2 < 1920 then Res.ok (W.str (mkS (Ti.numL i.toNat)), h) else .bad) = .ok (w, h') := e
    split at e
    · rename_i hc
      cases e; cases q1
      refine ⟨i, rfl, hc.2, ?_⟩
      have : (Str.ofString (toString i)) = mkS (Ti.numL i.toNat) := by
        have e1 := TL.tl_num i.toNat
        rw [Int.toNat_of_nonneg hc.1] at e1
        have : mkS (TL.tl (Str.ofString (toString i))) = mkS (Ti.numL i.toNat) := by
          rw [e1]
          rfl
        exact this
      have q := f.here (v := .str (mkS (Ti.numL i.toNat))) r rfl
      rw [← this] at q
      exact q
    · cases e
  | _ => cases e
theorem ok_max : Ok2 K cm pMax fun x y H Q => (fun xs H Q => ∃ i j : Int, xs = [V.int i, V.int j] ∧ Q (.int (if j > i then j else i)) H) [x, y] H Q := by
  intro mu Z H h w1 w2 w h' v1 v2 Q r q1 q2 e f
  cases w1 with
  | int i =>
    cases w2 with
    | int j => cases e; cases q1; cases q2; exact ⟨i, j, rfl, f.here r rfl⟩
    | _ => cases e
  | _ => cases e
theorem ok_min : Ok2 K cm pMin fun x y H Q => (fun xs H Q => ∃ i j : Int, xs = [V.int i, V.int j] ∧ Q (.int (if j < i then j else i)) H) [x, y] H Q := by
  intro mu Z H h w1 w2 w h' v1 v2 Q r q1 q2 e f
  cases w1 with
  | int i =>
    cases w2 with
    | int j => cases e; cases q1; cases q2; exact ⟨i, j, rfl, f.here r rfl⟩
    | _ => cases e
  | _ => cases e
theorem intsOf_ok : ∀ {ws : List W} {ns : List Int} {vs : List V}, intsOf ws = some ns → RWs K cm mu Z ws vs → vs = ns.map V.int
  | [], _, _, e, q => by cases e; exact q
  | .int i :: ws, _, _, e, q => by
    obtain ⟨ns, e1, rfl⟩ := Option.map_eq_some_iff.mp (show (intsOf ws).map (i :: ·) = some _ from e)
    obtain ⟨v, r, rfl, q1, q2⟩ := q
    cases q1
    rw [intsOf_ok e1 q2]
    rfl
  | .non :: _, _, _, e, _ => by cases e
  | .bl _ :: _, _, _, e, _ => by cases e
  | .str _ :: _, _, _, e, _ => by cases e
  | .tup _ :: _, _, _, e, _ => by cases e
  | .lst _ :: _, _, _, e, _ => by cases e
  | .dic _ _ :: _, _, _, e, _ => by cases e
  | .obj _ _ :: _, _, _, e, _ => by cases e
  | .ref _ :: _, _, _, e, _ => by cases e
  | .scr _ :: _, _, _, e, _ => by cases e
theorem ok_sum : Ok1 K cm pSum fun v H Q => rSum K [v] H Q := by
  intro mu Z H h w1 w h' v1 Q r q1 e f
  obtain ⟨ws, e1, e⟩ := Res.bind_eq_ok e
  obtain ⟨ns, e2, e⟩ := Res.bind_eq_ok e
  cases e
  obtain ⟨a, vs, rfl, ha, rs⟩ := asL_ok r q1 (ofO_eq_ok e1)
  have := intsOf_ok (ofO_eq_ok e2) rs
  subst this
  exact ⟨a, ns, rfl, SqL.of ha, f.here r rfl⟩
theorem ok_list {c : Bool} : Ok1 K cm (pList c) fun v H Q => (fun xs H Q => ∃ p ys, xs = [V.ref p] ∧ (SqL K H p ys ∨ SqT K H p ys) ∧ ∀ l, H l = none → Q (.ref l) (L2.upd H l (.lst ys))) [v] H Q := by
  intro mu Z H h w1 w h' v1 Q r q1 e f
  obtain ⟨ws, e1, e⟩ := Res.bind_eq_ok e
  have e1 := ofO_eq_ok e1
  have gen : asL h w1 = some ws → (∃ p ys, [v1] = [V.ref p] ∧ (SqL K H p ys ∨ SqT K H p ys) ∧ ∀ l, H l = none → Q (.ref l) (L2.upd H l (.lst ys))) := fun e1 => by
    obtain ⟨a, vs, rfl, ha, rs⟩ := asL_ok r q1 e1
    exact ⟨a, vs, rfl, .inl (SqL.of ha), (mkL_ok r rs e f).2⟩
  cases w1 with
  | tup us =>
    cases e1
    obtain ⟨a, vs, rfl, z, rs⟩ := q1
    exact ⟨a, vs, rfl, .inr (SqT.of (r.tupZ z)), (mkL_ok r rs e f).2⟩
  | _ => exact gen e1

/-! ### isinstance with a built-in type -/
def Kd.name : Kd → String
  | .non => "NoneType"
  | .bool => "bool"
  | .int => "int"
  | .str => "str"
  | .list => "list"
  | .tuple => "tuple"
  | .dict => "dict"
theorem kit4 (K : PySem.W.Frag) (u t : Kd) (ht : t ≠ .non) : PySem.W.kitOne K (.type u.name) (.type t.name) = some (isK u t) := by
  refine kit_ty ?_
  cases t <;> first | exact absurd rfl ht | (cases u <;> decide +kernel)
end
end Ti


/-! Ti: isinstance, methods, stores, walks. -/
namespace Ti
open PySem PySem.Spec PyProof.Rows L2
section
variable {X : Cx} {K : PySem.W.Frag} {cm : Nat → Addr} {mu : List Addr} {Z H : Hp} {h h' : Hh} {w w1 w2 : W} {v v1 v2 : V} {Q : VK}
/-- a value's built-in type -/
theorem kindT_of (r : RelH K cm mu Z H h) (q : RW K cm mu Z w v) {u : Kd} (e : kindT w = some u) : TyX K H v (.type u.name) := by
  cases w with
  | non => cases q; cases e; exact .base .non
  | bl x => cases q; cases e; exact .base (.bl x)
  | int x => cases q; cases e; exact .base (.int x)
  | str x => cases q; cases e; exact .base (.str x)
  | tup ws =>
    cases e
    obtain ⟨a, vs, rfl, z, rs⟩ := q
    exact .base (.tup (r.tupZ z))
  | lst ws =>
    cases e
    obtain ⟨a, vs, rfl, z, rs⟩ := q
    exact .base (.lst (r.lstZ z))
  | scr ns =>
    cases e
    obtain ⟨a, rfl, q⟩ := q
    rcases q with (q | ⟨o, q⟩) | ⟨o, its, n, q, c, _⟩
    · exact .base (.lst (r.zh a _ q))
    · exact .base (.frz (r.zh a _ q))
    · exact .kList q c
  | dic kd kvs =>
    cases kd with
    | true => cases e
    | false =>
      cases e
      obtain ⟨a, rfl, q⟩ := q
      obtain ⟨ks, vs, h1, h2, h3, h4⟩ := (show ∃ ks vs, KeysK (kvs.map (·.1)) ks ∧ Z a = some (.dK (ks.zip vs)) ∧ ks.length = vs.length ∧ RWk K cm mu Z kvs vs from q)
      rcases (show Rd H a (.dK (ks.zip vs)) from r.zh a _ h2) with h2 | ⟨o, h2⟩
      · exact .base (.dK h2)
      · exact .fDict h2
  | obj _ _ => cases e
  | ref _ => cases e
theorem kindW_of (r : RelH K cm mu Z H h) (q : RW K cm mu Z w v) {u : Kd} (e : kindW h w = some u) : TyX K H v (.type u.name) := by
  cases w with
  | ref i =>
    obtain ⟨a, rfl, m⟩ := q
    have e : (match h[i]? with | some (.lst _) => some Kd.list | some (.dic kd _) => if kd then none else some Kd.dict | _ => none) = some u := e
    split at e
    · rename_i ws e1
      cases e
      obtain ⟨_, n, vs, e2, rs⟩ := (show Z a = none ∧ nors ws = true ∧ ∃ vs, H a = some (.lst vs) ∧ RWs K cm [] Z ws vs from r.at_ m e1)
      exact .base (.lst e2)
    · rename_i kd kvs e1
      cases kd with
      | true => cases e
      | false =>
        cases e
        obtain ⟨_, n, q⟩ := r.at_ m e1
        obtain ⟨ks, vs, h1, h2, h3, h4⟩ := (show ∃ ks vs, KeysK (kvs.map (·.1)) ks ∧ H a = some (.dK (ks.zip vs)) ∧ ks.length = vs.length ∧ RWk K cm [] Z kvs vs from q)
        exact .base (.dK h2)
    · cases e
  | _ => exact kindT_of r q e
theorem q_isi {x U : Str} {t : Kd} {e : Expr} {m : DE} {p p2 pos : Pos} (ht : t ≠ .non) (hg : Gl X x) (hm : X.mg x = none) (hv : bootBuiltins x = some (.builtin "isinstance")) (ha : QE X cm e m) (hn : x ≠ "__name__") (hdb : (x == ("__debug__" : Str)) = false)
    (hgT : Gl X U) (hmT : X.mg U = none) (hvT : bootBuiltins U = some (.type t.name)) (hnT : U ≠ "__name__") (hdT : (U == ("__debug__" : Str)) = false) (h1 : starEach [e, .Name U p2] X.env = (false, eval e X.env) :: starEach [.Name U p2] X.env) :
    QE X cm (.Call (.Name x p) [e, .Name U p2] [] pos) (e1 (pIsi t) m) := by
  have hT : PE X (.Name U p2) (tC (.ty t.name)) := pe_bltn hgT hmT hvT rfl hnT hdT
  refine PE.wk (pe_callB call_isi hg hm hv (pa_cons ha (pa_cons hT pa_nil rfl) h1) hn hdb h1 rfl) fun σ H Q q => ?_
  obtain ⟨mu, Z, ρ, h, w, h', rl, s, e, f⟩ := q
  obtain ⟨p, e1, e⟩ := Res.bind_eq_ok e
  refine ⟨mu, Z, ρ, h, p.1, p.2, rl, s, e1, fun mu1 Z1 H1 v1 x1 r1 w1 => ?_⟩
  obtain ⟨u, e2, e⟩ := Res.bind_eq_ok e
  cases e
  exact ⟨v1, .ty t.name, .type u.name, .type t.name, isK u t, rfl, .ty t.name, kindW_of r1 w1 (ofO_eq_ok e2), kit4 X.K u t ht, f _ _ _ _ x1 r1 rfl⟩

/-! ### methods -/
def mtName : MTy → String
  | .str => "str"
  | .list => "list"
  | .dict => "dict"
theorem mt_ty (r : RelH K cm mu Z H h) (q : RW K cm mu Z w v) {t : MTy} (e : isMT t h w = true) : tyV K (mtName t) v H := by
  cases t with
  | str =>
    cases w <;> first | (cases e; done) | skip
    cases q
    rfl
  | list =>
    cases e1 : asL h w with
    | none =>
      have e : (asL h w).isSome = true := e
      rw [e1] at e; cases e
    | some ws =>
      obtain ⟨a, vs, rfl, ha, rs⟩ := asL_ok r q e1
      exact .inl ⟨rfl, vs, SqL.of ha⟩
  | dict =>
    cases w <;> first | (cases e; done) | skip
    rename_i i
    obtain ⟨a, rfl, m⟩ := q
    have e : (match h[i]? with | some (.dic _ _) => true | _ => false) = true := e
    split at e
    · rename_i kd kvs e1
      obtain ⟨_, n, q⟩ := r.at_ m e1
      refine .inr (.inr (.inl ⟨rfl, ?_⟩))
      cases kd with
      | true =>
        obtain ⟨ks, vs, h1, h2, h3, h4⟩ := (show ∃ ks vs, KeysT (kvs.map (·.1)) ks ∧ H a = some (.dT (ks.zip vs)) ∧ ks.length = vs.length ∧ RWk K cm [] Z kvs vs from q)
        exact .inr ⟨_, h2⟩
      | false =>
        obtain ⟨ks, vs, h1, h2, h3, h4⟩ := (show ∃ ks vs, KeysK (kvs.map (·.1)) ks ∧ H a = some (.dK (ks.zip vs)) ∧ ks.length = vs.length ∧ RWk K cm [] Z kvs vs from q)
        exact .inl ⟨_, h2⟩
    · cases e
def OkM (K : PySem.W.Frag) (cm : Nat → Addr) (g : Fn) (r : V → List V → Hp → VK → Prop) : Prop :=
  ∀ mu Z H h w1 ws w h' v1 vs Q, RelH K cm mu Z H h → RW K cm mu Z w1 v1 → RWs K cm mu Z ws vs → g (w1 :: ws) h = .ok (w, h') → Fin K cm mu Z H w h' Q → r v1 vs H Q
theorem OkM.of1 {g : F1} {r : V → List V → Hp → VK → Prop} (k : Ok1 K cm g fun v H Q => r v [] H Q) : OkM K cm (l1 g) r := by
  intro mu Z H h w1 ws w h' v1 vs Q rl q1 q e f
  cases ws with
  | nil =>
    cases (show vs = [] from q)
    exact k mu Z H h w1 w h' v1 Q rl q1 e f
  | cons _ _ => cases e
theorem OkM.of2 {g : F2} {r : V → List V → Hp → VK → Prop} (k : Ok2 K cm g fun x y H Q => r x [y] H Q) : OkM K cm (l2 g) r := by
  intro mu Z H h w1 ws w h' v1 vs Q rl q1 q e f
  match ws, e, q with
  | [b], e, q =>
    obtain ⟨v, rfl, q2⟩ := q.one
    exact k mu Z H h w1 b w h' v1 v Q rl q1 q2 e f
  | [], e, _ => cases e
  | _ :: _ :: _, e, _ => cases e
theorem q_m0 {t : MTy} {id : String} {name : Str} {r : V → List V → Hp → VK → Prop} {g : Fn} {o : Expr} {m : DE} {apos cpos : Pos} (pa : PlainAttrs (mtName t)) (slot : Slot (mtName t) name id) (hty : typeOf (.builtin id) = pure (.type "method_descriptor")) (hm : MtR X id r) (k : OkM X.K cm g r) (ho : QE X cm o m)
    (hbase : attributeBase o name X.env (eval o X.env) = eval o X.env) (hline : (apos.endLine == cpos.line) = true) : QE X cm (.Call (.Attribute o name apos) [] [] cpos) (eM t g m []) := by
  refine PE.wk (pe_bm0 pa slot hty hm ho hbase hline) fun σ H Q q => ?_
  obtain ⟨mu, Z, ρ, h, w, h', rl, s, e, f⟩ := q
  obtain ⟨p, e1, e⟩ := Res.bind_eq_ok e
  split at e
  · rename_i ht
    refine ⟨mu, Z, ρ, h, p.1, p.2, rl, s, e1, fun mu1 Z1 H1 v1 x1 r1 w1 => ⟨mt_ty r1 w1 ht, ?_⟩⟩
    exact k mu1 Z1 H1 p.2 p.1 [] w h' v1 [] Q r1 w1 rfl e (f.ext x1)
  · cases e
theorem q_m {t : MTy} {id : String} {name : Str} {r : V → List V → Hp → VK → Prop} {g : Fn} {o e : Expr} {es : List Expr} {m : DE} {ms : List DE} {apos cpos : Pos} (pa : PlainAttrs (mtName t)) (slot : Slot (mtName t) name id) (hty : typeOf (.builtin id) = pure (.type "method_descriptor")) (hm : MtR X id r) (k : OkM X.K cm g r) (ho : QE X cm o m) (ha : QL X cm (e :: es) ms)
    (hbase : attributeBase o name X.env (eval o X.env) = eval o X.env)
    (hfew : ((backTo cpos (starEach (e :: es) X.env)).all (fun x => !x.1) && (backToKw cpos (keywordEach [] X.env)).all (fun x => x.1.isSome)
      && decide ((e :: es).length + ([] : List Keyword).length + (if ([] : List Keyword).isEmpty then 0 else 1) < 30)) = true)
    (hline : (apos.endLine == cpos.line) = true) (hs : starEach (e :: es) X.env = (false, eval e X.env) :: starEach es X.env) (hplain : (backTo cpos (starEach es X.env)).any (·.1) = false) :
    QE X cm (.Call (.Attribute o name apos) (e :: es) [] cpos) (eM t g m ms) := by
  refine PE.wk (pe_bm pa slot hty hm ho ha hbase hfew hline hs hplain) fun σ H Q q => ?_
  obtain ⟨mu, Z, ρ, h, w, h', rl, s, e, f⟩ := q
  obtain ⟨p, e1, e⟩ := Res.bind_eq_ok e
  split at e
  · rename_i ht
    obtain ⟨p2, e2, e⟩ := Res.bind_eq_ok e
    refine ⟨mu, Z, ρ, h, p.1, p.2, rl, s, e1, fun mu1 Z1 H1 v1 x1 r1 w1 => ⟨mt_ty r1 w1 ht, ?_⟩⟩
    refine ⟨mu1, Z1, ρ, p.2, p2.1, p2.2, r1, s.ext x1, e2, fun mu2 Z2 H2 vs x2 r2 w2 => ?_⟩
    exact k mu2 Z2 H2 p2.2 p.1 p2.1 w h' v1 vs Q r2 (w1.mono x2.z x2.m) w2 e (f.ext (x1.trans x2))
  · cases e
theorem ok_append : Ok2 K cm pAppend fun x y H Q => rAppend x [y] H Q := by
  intro mu Z H h w1 w2 w h' v1 v2 Q r q1 q2 e f
  cases w1 with
  | ref i =>
    have e : (match h[i]? with | some (.lst ws) => if ws.length < lineW ∧ nor w2 = true then Res.ok (W.non, h.set i (.lst (ws ++ [w2]))) else .bad | _ => .bad) = .ok (w, h') := e
    split at e
    · rename_i ws e1
      split at e
      · rename_i hc
        cases e
        obtain ⟨a, rfl, m⟩ := q1
        obtain ⟨z, n, vs, e2, rs⟩ := (show Z a = none ∧ nors ws = true ∧ ∃ vs, H a = some (.lst vs) ∧ RWs K cm [] Z ws vs from r.at_ m e1)
        refine ⟨a, vs, v2, rfl, rfl, e2, by rw [rs.length]; exact hc.1, ?_⟩
        have nn : nors (ws ++ [w2]) = true := by
          have : ∀ l : List W, nors l = true → nors (l ++ [w2]) = true := by
            intro l
            induction l with
            | nil => intro _; show (nor w2 && true) = true; rw [hc.2]; rfl
            | cons x l ih =>
              intro hx
              have hx : (nor x && nors l) = true := hx
              rw [Bool.and_eq_true] at hx
              show (nor x && nors (l ++ [w2])) = true
              rw [hx.1, ih hx.2]
              rfl
          exact this ws n
        obtain ⟨r', x⟩ := r.wr (c := .lst (ws ++ [w2])) (o := .lst (vs ++ [v2])) m z ⟨z, nn, vs ++ [v2], upd_same, RWs.append rs ⟨v2, [], rfl, RW.any hc.2 q2, rfl⟩⟩
        exact f _ _ _ _ x r' rfl
      · cases e
    · cases e
  | _ => cases e
theorem lstrip_eq (a b : Str) : Txt.lstripChars a b = mkS ((sg a).dropWhile fun c => (sg b).contains c) := by
  have e1 : Txt.lstripChars a b = Builtin.Str.strSub a (((sg a).takeWhile fun c => b.cps.contains c).length) a.length := by
    show Txt.stripBy _ true false a = _
    rw [PyProof.Rows.stripBy_eq]
    rfl
  have e2 : (fun c => b.cps.contains c) = fun c => (sg b).contains c := by
    funext c
    exact (Array.contains_toList ..).symm
  rw [e1, e2]
  have : sg (Builtin.Str.strSub a (((sg a).takeWhile fun c => (sg b).contains c).length) a.length) = (sg a).dropWhile fun c => (sg b).contains c := by
    rw [show sg (Builtin.Str.strSub a (((sg a).takeWhile fun c => (sg b).contains c).length) a.length) = (sg a).drop (((sg a).takeWhile fun c => (sg b).contains c).length) from TL.tl_strSub_end a _]
    generalize (fun c => (sg b).contains c) = p
    induction sg a with
    | nil => rfl
    | cons x l ih =>
      rw [List.takeWhile_cons, List.dropWhile_cons]
      split
      · rw [List.length_cons, List.drop_succ_cons]
        exact ih
      · rfl
  rw [← this]
  rfl
theorem rstrip_eq (a b : Str) : Txt.rstripChars a b = mkS ((sg a).reverse.dropWhile fun c => (sg b).contains c).reverse := by
  have e2 : (fun c => b.cps.contains c) = fun c => (sg b).contains c := by
    funext c
    exact (Array.contains_toList ..).symm
  have e1 : Txt.rstripChars a b = Builtin.Str.strSub a 0 (a.length - ((sg a).reverse.takeWhile fun c => b.cps.contains c).length) := by
    show Txt.stripBy _ false true a = _
    rw [PyProof.Rows.stripBy_eq]
    rfl
  rw [e1, e2]
  have : sg (Builtin.Str.strSub a 0 (a.length - ((sg a).reverse.takeWhile fun c => (sg b).contains c).length)) = ((sg a).reverse.dropWhile fun c => (sg b).contains c).reverse := by
    rw [show sg (Builtin.Str.strSub a 0 (a.length - ((sg a).reverse.takeWhile fun c => (sg b).contains c).length)) = ((sg a).drop 0).take (a.length - ((sg a).reverse.takeWhile fun c => (sg b).contains c).length - 0) from TL.tl_strSub a 0 _]
    rw [List.drop_zero, Nat.sub_zero, len_sg]
    generalize (fun c => (sg b).contains c) = p
    have key : ∀ l : List Nat, l.reverse.dropWhile p = l.reverse.drop (l.reverse.takeWhile p).length := by
      intro l
      generalize l.reverse = m
      induction m with
      | nil => rfl
      | cons x l ih =>
        rw [List.takeWhile_cons, List.dropWhile_cons]
        split
        · rw [List.length_cons, List.drop_succ_cons]
          exact ih
        · rfl
    rw [key, List.drop_reverse, List.reverse_reverse]
  rw [← this]
  rfl
theorem ok_lstrip : Ok2 K cm pLstrip fun x y H Q => (fun x xs H Q => ∃ a b, x = V.str a ∧ xs = [V.str b] ∧ a.length ≤ sizeLine ∧ Q (.str (Txt.lstripChars a b)) H) x [y] H Q := by
  intro mu Z H h w1 w2 w h' v1 v2 Q r q1 q2 e f
  cases w1 with
  | str a =>
    cases w2 with
    | str b =>
      have e : (if a.length ≤ lineW then Res.ok (W.str (mkS ((sg a).dropWhile fun c => (sg b).contains c)), h) else .bad) = .ok (w, h') := e
      split at e
      · rename_i hl
        cases e; cases q1; cases q2
        exact ⟨a, b, rfl, rfl, hl, by rw [lstrip_eq]; exact f.here r rfl⟩
      · cases e
    | _ => cases e
  | _ => cases e
theorem ok_rstrip : Ok2 K cm pRstrip fun x y H Q => (fun x xs H Q => ∃ a b, x = V.str a ∧ xs = [V.str b] ∧ a.length ≤ sizeLine ∧ Q (.str (Txt.rstripChars a b)) H) x [y] H Q := by
  intro mu Z H h w1 w2 w h' v1 v2 Q r q1 q2 e f
  cases w1 with
  | str a =>
    cases w2 with
    | str b =>
      have e : (if a.length ≤ lineW then Res.ok (W.str (mkS ((sg a).reverse.dropWhile fun c => (sg b).contains c).reverse), h) else .bad) = .ok (w, h') := e
      split at e
      · rename_i hl
        cases e; cases q1; cases q2
        exact ⟨a, b, rfl, rfl, hl, by rw [rstrip_eq]; exact f.here r rfl⟩
      · cases e
    | _ => cases e
  | _ => cases e
theorem q_bits {o : Expr} {m : DE} {apos cpos : Pos} (ho : QE X cm o m) (hbase : attributeBase o "bit_length" X.env (eval o X.env) = eval o X.env) (hline : (apos.endLine == cpos.line) = true) : QE X cm (.Call (.Attribute o "bit_length" apos) [] [] cpos) (e1 pBits m) := by
  refine PE.wk (pe_bits ho hbase hline) fun σ H Q q => ?_
  obtain ⟨mu, Z, ρ, h, w, h', rl, s, e, f⟩ := q
  obtain ⟨p, e1, e⟩ := Res.bind_eq_ok e
  refine ⟨mu, Z, ρ, h, p.1, p.2, rl, s, e1, fun mu1 Z1 H1 v1 x1 r1 w1 => ?_⟩
  obtain ⟨u, h2⟩ := p
  cases u with
  | int i =>
    have e : (if 0 < i then Res.ok (W.int (i.natAbs.log2 + 1 : Nat), h2) else .bad) = .ok (w, h') := e
    split at e
    · rename_i hi
      cases e; cases w1
      refine ⟨i, rfl, ?_⟩
      have : Builtin.Int.intBits i = i.natAbs.log2 + 1 := by
        unfold Builtin.Int.intBits
        rw [if_neg (by rw [beq_iff_eq]; omega)]
      rw [this]
      exact f _ _ _ _ x1 r1 rfl
    · cases e
  | _ => cases e
end
end Ti


/-! Ti: defs promised where no repr is under way (the guards of the stack are none). -/
namespace Ti
open PySem PySem.Spec PyProof.Rows L2

/-- a def's promise, where no guard is up -/
structure FnG (P : Program) (w : World) (K : PySem.W.Frag) (mg : Str → Option Value) (base : Heap) (CX : CXT) (k : Nat) (f : Addr) (fd : FuncData) (ps : List Str) (sp : Sp) : Prop where
  len : ∀ vs H Q E, sp vs H Q E → vs.length = ps.length
  run : ∀ (A : Around) (outer : List PySem.Env) (s : Shared) (H : Hp) (args : Args) (us : List Value) (vs : List V) (Q : VK) (E : XK),
    A.guards = some [] → Room k A → Env0 P w K mg base A outer s H → BindsTo s fd args (ps.zip us) → Vals vs us → sp vs H Q E →
      codeAny (model P w) A (.call (.ref f) args) (CR CX outer P w H s Q E) s
theorem FnG.mono {P : Program} {w : World} {K : PySem.W.Frag} {mg : Str → Option Value} {base : Heap} {CX : CXT} {j k : Nat} {f : Addr} {fd : FuncData} {ps : List Str} {sp : Sp} (F : FnG P w K mg base CX j f fd ps sp) (h : j ≤ k) :
    FnG P w K mg base CX k f fd ps sp := ⟨F.len, fun A o s H g us vs Q E hg hr => F.run A o s H g us vs Q E hg (hr.mono h)⟩

section
variable {X : Cx} {CX : CXT} {k : Nat} {f : Addr} {fd : FuncData} {ps : List Str} {sp : Sp} {dvs : List V} {ds : List Value} {E : XK} {x : Str} {p pos : Pos} {e : Expr} {es : List Expr} {t : TA}
/-- what a call leaves, by its ends -/
theorem ends_of {pins : List (Addr × Obj)} {σ : L2.St} {H : Hp} {s s' : Shared} {Q : VK} {r : Result} (hx : Passes CX X E) (I : Inv X pins σ H s) (c : CR CX X.stack X.prog X.w H s Q E r s') :
    (match r with | .ok (.ret v) => EP X pins σ Q v s' | .ok _ => False | .error u => X.xe u s') := by
  rcases r with u | fl
  · exact hx pins σ H s u s' I c
  · rcases fl with _ | _ | _ | _
    all_goals first | exact False.elim c | exact I.after c
theorem run_G {pins : List (Addr × Obj)} {σ : L2.St} {H : Hp} {s : Shared} {Q : VK} {args : Args} {us' : List Value} {vs' : List V} (F : FnG X.prog X.w X.K X.mg X.base CX k f fd ps sp) (hr : Room k X.A) (gd : X.A.guards = some [])
    (hb : BindsTo s fd args (ps.zip us')) (r2 : Vals vs' us') (hx : Passes CX X E) (I : Inv X pins σ H s) (h : sp vs' H Q E) : wpAny (model X.prog X.w) X.A (call (.ref f) args.pos args.kw) (EP X pins σ Q) X.xe s := by
  refine wpAny_call (codeAny_mono (F.run X.A X.stack s H args us' vs' Q E gd hr I.env0 hb r2 h) fun r s' hq => ?_)
  have := ends_of hx I hq
  rcases r with u | fl
  · exact this
  · rcases fl with _ | _ | _ | _
    all_goals first | exact False.elim this | exact this
/-- f(e, ..) -/
theorem pe_callG (F : FnG X.prog X.w X.K X.mg X.base CX k f fd ps sp) (hr : Room k X.A) (gd : X.A.guards = some []) (hg : Gl X x) (hm : X.mg x = some (.ref f)) (hk : PySem.W.keepIn X.K (.ref f) = true)
    (hb : Binds X.K fd ps ds) (hd : Vals dvs ds) (hx : Passes CX X E) (ha : PA X (e :: es) t) (hdb : (x == ("__debug__" : Str)) = false)
    (he : starEach (e :: es) X.env = (false, eval e X.env) :: starEach es X.env) (hpl : (backTo pos (starEach es X.env)).any (·.1) = false) : PE X (.Call (.Name x p) (e :: es) [] pos) (tCall sp dvs E t) := by
  constructor
  intro pins s σ H Q I hq
  apply wpAny_Call_Name_kw
  refine ld_glob I hg hm (PySem.W.callWith_K (h₀ := X.base) I.ok.mod.kin hk (thn (ha.run pos pins s σ H _ I hq) ?_) he hpl) hdb
  rintro us s1 ⟨vs, H1, I1, r, q⟩
  refine ⟨I1.kIn, ?_⟩
  have r2 := r.append hd
  have hl : (us ++ ds).length = ps.length := r2.length.symm.trans (F.len _ _ _ _ q)
  exact run_G (args := ⟨us, []⟩) F hr gd (hb s1 us I1.kIn hl) r2 hx I1 q
theorem pe_callG0 (F : FnG X.prog X.w X.K X.mg X.base CX k f fd ps sp) (hr : Room k X.A) (gd : X.A.guards = some []) (hg : Gl X x) (hm : X.mg x = some (.ref f)) (hk : PySem.W.keepIn X.K (.ref f) = true)
    (hb : Binds X.K fd ps ds) (hd : Vals dvs ds) (hx : Passes CX X E) (hdb : (x == ("__debug__" : Str)) = false) : PE X (.Call (.Name x p) [] [] pos) (tCall sp dvs E tNil) := by
  constructor
  intro pins s σ H Q I hq
  apply wpAny_Call_Name_kw
  have hl : (([] : List Value) ++ ds).length = ps.length := hd.length.symm.trans (F.len _ _ _ _ hq)
  exact ld_glob I hg hm (PySem.W.callWith_K0 I.kIn hk (run_G (args := ⟨[], []⟩) F hr gd (hb s [] I.kIn hl) hd hx I hq)) hdb
/-- keywords alone: their values ws, in the parameters' order g ws -/
structure KwB (K : PySem.W.Frag) (fd : FuncData) (ps ks : List Str) (g : List Value → List Value) (gV : List V → List V) : Prop where
  to : ∀ (s : Shared) (ws : List Value), K.In s.heap → ws.length = ks.length → BindsTo s fd ⟨[], ks.zip ws⟩ (ps.zip (g ws))
  rel : ∀ {zs : List V} {ws : List Value}, Vals zs ws → Vals (gV zs) (g ws)
def tCallK (m : Nat) (sp : Sp) (gV : List V → List V) (E : XK) (t : TA) : TE := fun σ H Q => t σ H fun zs H2 => zs.length = m ∧ sp (gV zs) H2 Q E
theorem pe_callGK {ks : List Str} {g : List Value → List Value} {gV : List V → List V} {kws : List Keyword} (F : FnG X.prog X.w X.K X.mg X.base CX k f fd ps sp) (hr : Room k X.A) (gd : X.A.guards = some []) (hg : Gl X x) (hm : X.mg x = some (.ref f))
    (hk : PySem.W.keepIn X.K (.ref f) = true) (hb : KwB X.K fd ps ks g gV) (hx : Passes CX X E) (hkw : PK X kws t) (hdb : (x == ("__debug__" : Str)) = false)
    (hall : ∀ pos, (backToKw pos (keywordEach kws X.env)).all (·.1.isSome) = true) (hks : ∀ pos, (backToKw pos (keywordEach kws X.env)).filterMap (·.1) = ks) (hno : ∀ pos, (backToKw pos (keywordEach kws X.env)).any (·.1.isNone) = false) :
    PE X (.Call (.Name x p) [] kws pos) (tCallK ks.length sp gV E t) := by
  constructor
  intro pins s σ H Q I hq
  apply wpAny_Call_Name_kw
  refine ld_glob I hg hm (PySem.W.callWith_KW0 (h₀ := X.base) I.ok.mod.kin hk (hall pos) (thn (hkw.run pos pins s σ H _ I hq) ?_) ?_) hdb
  · rintro ws s2 ⟨zs, H2, I2, rz, l, q⟩
    refine ⟨I2.kIn, ?_⟩
    rw [hks pos]
    exact run_G (args := ⟨[], ks.zip ws⟩) F hr gd (hb.to s2 ws I2.kIn (rz.length.symm.trans l)) (hb.rel rz) hx I2 q
  · rw [hno pos]
    rfl
end
/-- a def keeps its promise by its body -/
theorem fnG_of {CX : CXT} {P : Program} {w : World} {K : PySem.W.Frag} {mg : Str → Option Value} {base : Heap} {k : Nat} {x qual : Str} {params : Arguments} {body : List Stmt} {scope : Scope} {dvs : List V} {kws : List (Str × V)} {f : Addr} {fd : FuncData} {N ps : List Str} {sp : Sp}
    (F : FunD K x qual params body scope dvs kws f fd) (S : FnScope N ps scope) (len : ∀ vs H Q E, sp vs H Q E → vs.length = ps.length)
    (hbody : ∀ (cdv : Value) (A : Around) (outer : List PySem.Env) (s : Shared) (H : Hp) (vs : List V) (Q : VK) (E : XK), A.guards = some [] → Room k (A.deeper (envOfC qual scope s.heap.objs.size f cdv)) → sp vs H Q E →
      ∃ t, PSs (cxOf CX P w K mg base N qual scope f cdv A outer s H E) body t ∧ t { nx := fun _ H' => Q .non H', rt := Q } (L2.start N vs) H) : FnG P w K mg base CX (k + 1) f fd ps sp := by
  obtain ⟨oc, od, dV, kV, doc, pm, an, cdv, ct, osl, rfl, lk, hcd, _, _⟩ := F.ex
  refine ⟨len, fun A outer s H args us vs Q E gd hr e0 hb r hsp => ?_⟩
  have kept : ∀ b o, base.get? b = some o → s.heap.get? b = some o := fun b o e => (e0.bs b o e).1
  have KX := e0.mod.kin.keeps kept
  have lim := e0.mod.nolimit.keeps kept
  refine codeAny_call_function hr.depth (KX _ _ lk) rfl S.co S.gen rfl (PySem.W.codeRec_of KX hcd) (hb _ _ _ _ (wpAny_newFunctionEnv_cells S.kind ?_ ?_))
  · rintro ⟨n, v⟩ hy
    rcases S.par n (List.of_mem_zip hy).1 with q | q
    · exact .inl q
    · exact .inr ⟨q, PySem.W.cellsFrom_some _ _ _ (.inl q)⟩
  · rintro env rfl s1 new
    refine ⟨lim.keeps new.toInCall.keep, codeAny_func ?_⟩
    obtain ⟨t, ht, hq⟩ := hbody cdv A outer s H vs Q E gd (hr.deeper _) hsp
    have I := inv_start (CX := CX) (E := E) (cd := cdv) S hr.hd e0 (len _ _ _ _ hsp) r new
    refine wpAny_mono (ht.run [] s1 (L2.start N vs) H _ I hq) ?_ fun e s' hs => hs
    rintro (_ | _ | _ | u) s' hs
    · obtain ⟨σ', H', J, q⟩ := hs
      exact ⟨V.non, H', J.os, J.bare, J.base, J.hok, rfl, q⟩
    · exact False.elim hs.choose_spec.choose_spec.2
    · exact False.elim hs.choose_spec.choose_spec.2
    · obtain ⟨v, σ', H', J, rv, q⟩ := hs
      exact ⟨v, H', J.os, J.bare, J.base, J.hok, rv, q⟩
/-- the law's own call -/
theorem callG_law {P : Program} {w : World} {K : PySem.W.Frag} {mg mb : Str → Option Value} {CX : CXT} {k : Nat} {fa a : Addr} {fd : FuncData} {x : Str} {sp : Sp} {s₁ : Shared} {vs : List Value} {ns : List Int}
    (KX : K.In s₁.heap) (hns : s₁.heap.Ns mainGlobals mg) (hb : s₁.heap.Ns builtinsNs mb) (hbb : ∀ x : Str, x ≠ "__name__" → mb x = bootBuiltins x) (hlim : s₁.heap.NoLimit) (hg : s₁.gens = #[])
    (ha : s₁.heap.get? a = some { cls := .type "list", data := .seq vs.toArray }) (hi : IntsAre vs ns) (hl : ns.length ≤ sizeLine) (hr : Room k callerA)
    (F : ∀ base : Heap, K.In base → base.Ns mainGlobals mg → FnG P w K mg base CX k fa fd [x] sp) (hbind : ∀ (s : Shared) (u : Value), BindsTo s fd ⟨[u], []⟩ [(x, u)])
    (hsp : ∀ H : Hp, Only H → SqL K H a (ns.map V.int) → sp [.ref a] H (fun v _ => v = .bl true) fun _ _ _ => False) (hCX : ∀ H e s', CX [] H s₁ (fun _ _ _ => False) e s' → False) :
    codeAny (model P w) callerA (.call (.ref fa) ⟨[.ref a], []⟩) (fun r s' => r = .ok (.ret (.bool true)) ∧ OldK s₁.heap s'.heap ∧ s'.os = s₁.os ∧ AllBare s'.gens) s₁ := by
  have rv := vals_ints hi
  have lenV := hi.length
  have core : ∀ H : Hp, Only H → SqL K H a (ns.map V.int) → HOk P w H s₁.heap → (∀ b, H b ≠ none → b = a) → (H a ≠ none → K.lookup a = none) →
      codeAny (model P w) callerA (.call (.ref fa) ⟨[.ref a], []⟩) (fun r s' => r = .ok (.ret (.bool true)) ∧ OldK s₁.heap s'.heap ∧ s'.os = s₁.os ∧ AllBare s'.gens) s₁ := by
    intro H hO hS hok only nok
    have isA : ∀ {b : Addr} {u : HO}, H b = some u → b = a := fun {b u} q => only b (by rw [q]; exact fun z => nomatch z)
    have freeNs : ∀ {b : Addr} {o : Obj} {es : Array DictEntry} {ep : Nat}, s₁.heap.get? b = some o → o.data = .dict es ep → H b = none := by
      intro b o es ep e d
      cases q : H b with
      | none => rfl
      | some u =>
        have eb := isA q
        rw [eb, ha] at e
        cases e
        cases d
    have keepNs : ∀ {b : Addr} {m : Str → Option Value}, s₁.heap.Ns b m → (hidT s₁.heap H).Ns b m := by
      rintro b m ⟨o, es, ep, e, d, r⟩
      exact ⟨o, es, ep, hidT_get e (freeNs e d), d, r⟩
    have KX' : K.In (hidT s₁.heap H) := by
      intro b o e
      refine hidT_get (KX b o e) ?_
      cases q : H b with
      | none => rfl
      | some u =>
        have eb := isA q
        subst eb
        rw [nok (by rw [q]; exact fun z => nomatch z)] at e
        cases e
    have modH : Mod K mg (hidT s₁.heap H) := by
      obtain ⟨mc, l1, l2⟩ := hlim
      exact ⟨KX', keepNs hns, ⟨mb, keepNs hb, hbb⟩, mc, keepNs l1, l2⟩
    have env0 : Env0 P w K mg (hidT s₁.heap H) callerA [] s₁ H :=
      ⟨rfl, modH, fun b o e => of_hidT e, Nat.le_of_eq (hidT_size _ _), trivial, fun b hb' => (List.not_mem_nil hb').elim, hok, .of_eq hg⟩
    have ran := (F _ KX' (keepNs hns)).run callerA [] s₁ H ⟨[.ref a], []⟩ [.ref a] [.ref a] _ _ rfl hr env0 (hbind s₁ (.ref a)) (.cons rfl .nil) (hsp H hO hS)
    refine codeAny_mono ran ?_
    rintro (e | fl) s' h
    · exact (hCX H e s' h).elim
    · rcases fl with _ | _ | _ | u
      · exact False.elim h
      · exact False.elim h
      · exact False.elim h
      · obtain ⟨v, H', os, bare, un, hok', r', q⟩ := h
        have q : v = .bl true := q
        subst q
        have r' : u = Value.bool true := r'
        subst r'
        refine ⟨rfl, OldK.of_keep ?_, os, bare⟩
        intro b o e
        cases q : H b with
        | none => exact un.keep b o e q (List.not_mem_nil) (List.not_mem_nil)
        | some u =>
          rcases hO b with z | ⟨ob, xs, z⟩
          · rw [q] at z
            cases z
          · have w1 := (hok b _ z).1
            have w2 := (hok' b _ (un.frzs b ob _ z)).1
            rw [e] at w1
            cases w1
            exact w2
  cases hk : K.lookup a with
  | some o =>
    have e := KX a o hk
    rw [ha] at e
    cases e
    refine core (fun _ => none) (fun _ => .inl rfl) (.inr ⟨_, vs.toArray, _, hk, rfl, rfl, rfl, ?_, ?_⟩) (fun b u z => (nomatch z)) (fun b z => absurd rfl z) fun z => absurd rfl z
    · rw [List.size_toArray, lenV]
      exact hl
    · exact rv
  | none =>
    let H0 : Hp := fun b => if b = a then some (.frz { cls := .type "list", data := .seq vs.toArray } (.lst (ns.map V.int))) else none
    have at_a : H0 a = some (.frz { cls := .type "list", data := .seq vs.toArray } (.lst (ns.map V.int))) := if_pos rfl
    have off : ∀ {b : Addr}, ¬ b = a → H0 b = none := fun h => if_neg h
    refine core H0 (fun b => ?_) (.inl (.inr ⟨_, at_a⟩)) (fun b u z => ?_) (fun b z => ?_) fun _ => hk
    · by_cases hb' : b = a
      · subst hb'
        exact .inr ⟨_, _, at_a⟩
      · exact .inl (off hb')
    · by_cases hb' : b = a
      · subst hb'
        rw [at_a] at z
        cases z
        exact ⟨ha, by rw [List.length_map]; exact hl, vs, _, rv, ha⟩
      · rw [off hb'] at z
        cases z
    · exact Decidable.byContradiction fun hb' => z (off hb')
/-- the end of a law's row -/
theorem walk_G {l : PySem.W.OpenLaw} {n k : Nat} {q : Program} {loose : List Str} {XP : (Str → Option Value) → Heap → Prop} {YP : World → Heap → Prop} {d : DefRec} {CX : CXT} {x : Str}
    (hn : l.most = some n) (hn2 : n ≤ sizeLine) (hdf : d.params.defaults = []) (hr : Room k callerA)
    (F : ∀ (w : World) (mg : Str → Option Value) (fa : Addr) (h : Heap), YP w h → h.Ns mainGlobals mg → mg d.name = some (.ref fa) →
      ∃ (K : PySem.W.Frag) (fd : FuncData) (sp : Sp), K.In h ∧ (∀ (s : Shared) (u : Value), BindsTo s fd ⟨[u], []⟩ [(x, u)]) ∧
        (∀ (H : Hp) (a : Addr) (ns : List Int), ns.length ≤ n → Only H → SqL K H a (ns.map V.int) → sp [.ref a] H (fun v _ => v = .bl true) fun _ _ _ => False) ∧
        ∀ base : Heap, K.In base → base.Ns mainGlobals mg → FnG l.prog w K mg base CX k fa fd [x] sp)
    (hCX : ∀ (H : Hp) (s : Shared) (e : Value) (s' : Shared), CX [] H s (fun _ _ _ => False) e s' → False) : PySem.W.WalkO q loose XP YP l.row.toRowW d [] (fun f vs => PySem.call f vs) := by
  apply Att.attach_call hn hdf
  intro w s₀ s₁ mg mb fa o pm cd doc a vs ns G Y ho hd hcd hmg hobj hints hlen hg
  obtain ⟨K, fd, sp, KX, hb, hsp, hF⟩ := F w mg fa _ Y G.T.g hmg
  exact callG_law KX G.T.g G.T.b G.T.builtins G.T.nolimit hg hobj hints (Nat.le_trans hlen hn2) hr hF hb (fun H hO hS => hsp H a ns hlen hO hS) (fun H e s' => hCX H s₁ e s')
end Ti


/-! Ti: walks, calls of defs, a def's promise. -/
namespace Ti
open PySem PySem.Spec PyProof.Rows L2
theorem piOr {X : Cx} {tg it : Expr} {t u : TI} (h : PI X tg it t) (g : PI X tg it u) : PI X tg it (fun σ H R => t σ H R ∨ u σ H R) := ⟨fun pins s σ H R I q => by
  rcases q with q | q
  · exact h.run pins s σ H R I q
  · exact g.run pins s σ H R I q⟩
section
variable {K : PySem.W.Frag} {cm : Nat → Addr} {mu mu2 : List Addr} {Z H Z2 H2 : Hp} {h h2 : Hh} {w : W} {v : V}
/-- a list walked, whatever stands there at each turn -/
theorem walk_listE {a : Addr} {n : Nat} : Walk (Itl K a) n (fun H => ∃ xs, SqL K H a xs ∧ xs.length = n) (fun i H x H' => H' = H ∧ ∀ xs, SqL K H a xs → xs[i]? = some x) :=
  ⟨fun i H hi q => by
    obtain ⟨xs, q, e⟩ := q
    exact ⟨xs, xs[i]'(by omega), q, List.getElem?_eq_getElem _⟩, fun H q => by
    obtain ⟨xs, q, e⟩ := q
    exact ⟨xs, q, by omega⟩, fun i H x H' _ q y => y⟩
/-- a new pair (x, y): what is known of both -/
def YTwo (g1 g2 : Hp → V → Prop) : Nat → Hp → V → Hp → Prop := fun i H v H' => ∃ T x y, v = .ref T ∧ H T = none ∧ H' = upd H T (.tup [x, y]) ∧ g1 H x ∧ g2 H y
theorem walk_enumE {a : Addr} {n : Nat} : Walk (Ite K a) n (fun H => ∃ xs, SqL K H a xs ∧ xs.length = n) (fun i H v H' => ∃ T x, v = .ref T ∧ H T = none ∧ H' = L2.upd H T (.tup [.int (i : Nat), x]) ∧ ∀ xs, SqL K H a xs → xs[i]? = some x) := by
  refine ⟨fun i H hi q => ?_, fun H q => ?_, fun i H v H' hi q y => ?_⟩
  · obtain ⟨xs, q, e⟩ := q
    exact ⟨xs, xs[i]'(by omega), q, List.getElem?_eq_getElem _⟩
  · obtain ⟨xs, q, e⟩ := q
    exact ⟨xs, q, by omega⟩
  · obtain ⟨T, x, h1, h2, h3, h4⟩ := y
    exact ⟨T, x, h1, h2, h3, h4⟩
theorem walk_zipE {a b : Addr} {n m : Nat} : Walk (Itz K a b) (min n m) (fun H => (∃ xs, SqL K H a xs ∧ xs.length = n) ∧ ∃ ys, SqL K H b ys ∧ ys.length = m) (fun i H v H' => ∃ T x y, v = .ref T ∧ H T = none ∧ H' = L2.upd H T (.tup [x, y]) ∧ (∀ xs, SqL K H a xs → xs[i]? = some x) ∧ ∀ ys, SqL K H b ys → ys[i]? = some y) := by
  refine ⟨fun i H hi q => ?_, fun H q => ?_, fun i H v H' hi q y => ?_⟩
  · obtain ⟨⟨xs, q1, e1⟩, ys, q2, e2⟩ := q
    have h1 : i < xs.length := by omega
    have h2 : i < ys.length := by omega
    exact ⟨xs, ys, xs[i], ys[i], q1, q2, List.getElem?_eq_getElem h1, List.getElem?_eq_getElem h2⟩
  · obtain ⟨⟨xs, q1, e1⟩, ys, q2, e2⟩ := q
    exact ⟨xs, ys, q1, q2, by omega⟩
  · obtain ⟨T, x, z, h1, h2, h3, h4, h5⟩ := y
    exact ⟨T, x, z, h1, h2, h3, h4, h5⟩
/-- a list's items at a later turn -/
theorem keep_ok {ws : List W} {a : Addr} (r : RelH K cm mu Z H h) (q : RW K cm mu Z w (.ref a)) (e : asL h w = some ws) (x : Ext mu Z H mu2 Z2 H2) (r2 : RelH K cm mu2 Z2 H2 h2) (k : keepL w ws h2 = true) : ∃ vs, H2 a = some (.lst vs) ∧ RWs K cm mu2 Z2 ws vs := by
  have q2 := q.mono x.z x.m
  cases w with
  | ref i =>
    have k : (match asL h2 (.ref i) with | some us => sames us ws | none => false) = true := k
    split at k
    · rename_i us e2
      have := sames_eq k
      subst this
      obtain ⟨b, vs, eb, hb, rs⟩ := asL_ok r2 q2 e2
      cases eb
      exact ⟨vs, hb, rs⟩
    · cases k
  | lst us =>
    cases e
    obtain ⟨b, vs, eb, z, rs⟩ := q2
    cases eb
    exact ⟨vs, r2.lstZ z, rs⟩
  | _ => cases e
theorem sqL_lst {a : Addr} {xs vs : List V} {X : Cx} (e : H a = some (.lst vs)) (s : Shared) (pins : List (Addr × Obj)) (σ : L2.St) (I : L2.Inv X pins σ H s) (q : SqL X.K H a xs) : xs = vs := I.list_inj q (SqL.of e)
end
section
variable {X : Cx} {cm : Nat → Addr}
theorem qi_seq {tg e : Expr} {m : DE} (he : QE X cm e m) : QI X cm tg e fiL [m] := by
  refine PI.wk (piOr (pi_list he) (piOr (pi_tup he) (pi_str he))) fun σ H R q => ?_
  obtain ⟨mu, Z, ρ, h, p, s, rl, sl, e, es, hR⟩ := q
  obtain ⟨q, e1, e⟩ := Res.bind_eq_ok e
  obtain ⟨q2, e2, e⟩ := Res.bind_eq_ok e
  cases e2
  cases e
  obtain ⟨w, h1⟩ := q
  have lst : (asL h1 w).map (fun us => (⟨us, keepL w us⟩ : Src)) = some s → iList X.K (tO X.K cm m) σ H R := fun e2 => by
    obtain ⟨ws, e3, rfl⟩ := Option.map_eq_some_iff.mp e2
    refine ⟨mu, Z, ρ, h, w, h1, rl, sl, e1, fun mu1 Z1 H1 v1 x1 r1 w1 => ?_⟩
    obtain ⟨a, vs, rfl, ha, rs⟩ := asL_ok r1 w1 e3
    refine ⟨a, rfl, ⟨vs, SqL.of ha⟩, hR mu1 Z1 H1 _ x1 r1 ⟨_, _, walk_listE, fun mu2 Z2 H2 h2 x2 r2 k => ?_, fun i mu2 Z2 H2 h2 x H3 x2 r2 k y => ?_⟩⟩
    · obtain ⟨vs2, h3, rs2⟩ := keep_ok r1 w1 e3 x2 r2 k
      exact ⟨vs2, SqL.of h3, rs2.length⟩
    · obtain ⟨vs2, h3, rs2⟩ := keep_ok r1 w1 e3 x2 r2 k
      obtain ⟨rfl, y⟩ := y
      have y := y vs2 (SqL.of h3)
      have hi : i < ws.length := by
        rw [← rs2.length]
        exact (List.getElem?_eq_some_iff.mp y).1
      obtain ⟨v', e5, q5⟩ := rs2.get (List.getElem?_eq_getElem hi)
      rw [y] at e5
      cases e5
      exact ⟨ws[i], Z2, List.getElem?_eq_getElem hi, Ext.refl, r2, q5⟩
  cases w with
  | str z =>
    cases es
    refine .inr (.inr ⟨mu, Z, ρ, h, .str z, h1, rl, sl, e1, fun mu1 Z1 H1 v1 x1 r1 w1 => ?_⟩)
    cases w1
    refine ⟨z, rfl, hR mu1 Z1 H1 _ x1 r1 ⟨fun _ => True, fun i H v H' => H' = H ∧ ∃ c, z.cps[i]? = some c ∧ v = .str ⟨#[c]⟩, ?_, fun _ _ _ _ _ _ _ => trivial, fun i mu2 Z2 H2 h2 x H3 x2 r2 k y => ?_⟩⟩
    · have := walk_str (z := z)
      have el : z.cps.size = ((sg z).map fun c => W.str (mkS [c])).length := by
        rw [List.length_map]
        exact (Array.length_toList).symm
      rw [el] at this
      exact this
    · obtain ⟨rfl, c, e2, rfl⟩ := y
      refine ⟨.str (mkS [c]), Z2, ?_, Ext.refl, r2, rfl⟩
      rw [List.getElem?_map, show (sg z)[i]? = some c from by rw [Array.getElem?_toList]; exact e2]
      rfl
  | tup ws =>
    cases es
    refine .inr (.inl ⟨mu, Z, ρ, h, .tup ws, h1, rl, sl, e1, fun mu1 Z1 H1 v1 x1 r1 w1 => ?_⟩)
    obtain ⟨a, vs, rfl, z, rs⟩ := w1
    refine ⟨a, rfl, ⟨vs, SqT.of (r1.tupZ z)⟩, hR mu1 Z1 H1 _ x1 r1 ⟨fun H => SqT X.K H a vs, YAt vs, ?_, fun mu2 Z2 H2 h2 x2 r2 k => SqT.of (r2.tupZ (x2.z _ _ z)), fun i mu2 Z2 H2 h2 x H3 x2 r2 k y => ?_⟩⟩
    · have := walk_tup (K := X.K) (a := a) (xs := vs)
      rw [rs.length] at this
      exact this
    · obtain ⟨rfl, y⟩ := y
      have hi : i < ws.length := by
        rw [← rs.length]
        exact (List.getElem?_eq_some_iff.mp y).1
      obtain ⟨v', e5, q5⟩ := rs.get (List.getElem?_eq_getElem hi)
      rw [y] at e5
      cases e5
      exact ⟨ws[i], Z2, List.getElem?_eq_getElem hi, Ext.refl, r2, q5.mono x2.z x2.m⟩
  | _ => exact .inl (lst es)
theorem range_items {lo : Int} {n i : Nat} (hi : i < n) : (rangeW lo n)[i]? = some (.int (lo + (i : Int))) := by
  unfold rangeW
  rw [List.getElem?_map, List.getElem?_range hi]
  rfl
theorem okR_ok {i : Int} (e : okR i = true) : -(2 ^ 62) ≤ i ∧ i < 2 ^ 62 := by
  unfold okR at e
  have e := of_decide_eq_true e
  omega
theorem range_R {K : PySem.W.Frag} {lo : Int} {n : Nat} {mu : List Addr} {Z H : Hp} : ∃ G Y, Walk (Itr lo n) (rangeW lo n).length G Y ∧ (∀ mu2 Z2 H2 h2, Ext mu Z H mu2 Z2 H2 → RelH K cm mu2 Z2 H2 h2 → true = true → G H2) ∧
      ∀ i mu2 Z2 H2 h2 x H3, Ext mu Z H mu2 Z2 H2 → RelH K cm mu2 Z2 H2 h2 → true = true → Y i H2 x H3 → ∃ w Z3, (rangeW lo n)[i]? = some w ∧ Ext mu2 Z2 H2 mu2 Z3 H3 ∧ RelH K cm mu2 Z3 H3 h2 ∧ RW K cm mu2 Z3 w x := by
  have el : (rangeW lo n).length = n := by unfold rangeW; rw [List.length_map, List.length_range]
  refine ⟨fun _ => True, fun i H x H' => i < n ∧ H' = H ∧ x = .int (lo + i), ?_, fun _ _ _ _ _ _ _ => trivial, fun i mu2 Z2 H2 h2 x H3 x2 r2 k y => ?_⟩
  · rw [el]
    exact ⟨fun i H hi _ => walk_range.goes i H hi trivial, fun H _ => walk_range.stops H trivial, fun i H x H' hi _ y => ⟨hi, walk_range.yields i H x H' hi trivial y⟩⟩
  · obtain ⟨hi, rfl, rfl⟩ := y
    exact ⟨_, Z2, range_items hi, Ext.refl, r2, rfl⟩
theorem qi_range1 {tg a : Expr} {m : DE} {p pos : Pos} (hg : Gl X "range") (hm : X.mg "range" = none) (ha : QL X cm [a] [m]) (hs : starEach [a] X.env = [(false, eval a X.env)]) : QI X cm tg (.Call (.Name "range" p) [a] [] pos) fiR [m] := by
  refine PI.wk (pi_range1 hg hm ha hs) fun σ H R q => ?_
  obtain ⟨mu, Z, ρ, h, p, s, rl, sl, e, es, hR⟩ := q
  refine ⟨mu, Z, ρ, h, p.1, p.2, rl, sl, e, fun mu1 Z1 H1 vs x1 r1 w1 => ?_⟩
  obtain ⟨ws, h1⟩ := p
  have one : ∃ w, ws = [w] := by
    obtain ⟨q, e1, e⟩ := Res.bind_eq_ok e
    obtain ⟨q2, e2, e⟩ := Res.bind_eq_ok e
    cases e2
    cases e
    exact ⟨_, rfl⟩
  obtain ⟨w, rfl⟩ := one
  obtain ⟨v, rfl, wv⟩ := w1.one
  cases w with
  | int n =>
    cases wv
    have es : (if okR n then some (⟨rangeW 0 n.toNat, fun _ => true⟩ : Src) else none) = some s := es
    split at es
    · rename_i hk
      cases es
      obtain ⟨k1, k2⟩ := okR_ok hk
      exact ⟨n, rfl, k1, k2, hR mu1 Z1 H1 _ x1 r1 range_R⟩
    · cases es
  | _ => cases es
theorem qi_range2 {tg a b : Expr} {m mb : DE} {p pos : Pos} (hg : Gl X "range") (hm : X.mg "range" = none) (ha : QL X cm [a, b] [m, mb]) (hs : starEach [a, b] X.env = [(false, eval a X.env), (false, eval b X.env)]) (hs2 : starEach [b] X.env = [(false, eval b X.env)]) : QI X cm tg (.Call (.Name "range" p) [a, b] [] pos) fiR [m, mb] := by
  refine PI.wk (pi_range2 hg hm ha hs hs2) fun σ H R q => ?_
  obtain ⟨mu, Z, ρ, h, p, s, rl, sl, e, es, hR⟩ := q
  refine ⟨mu, Z, ρ, h, p.1, p.2, rl, sl, e, fun mu1 Z1 H1 vs x1 r1 w1 => ?_⟩
  obtain ⟨ws, h1⟩ := p
  have two : ∃ w u, ws = [w, u] := by
    obtain ⟨q, e1, e⟩ := Res.bind_eq_ok e
    obtain ⟨q2, e2, e⟩ := Res.bind_eq_ok e
    obtain ⟨q3, e3, e2⟩ := Res.bind_eq_ok e2
    obtain ⟨q4, e4, e2⟩ := Res.bind_eq_ok e2
    cases e4
    cases e2
    cases e
    exact ⟨_, _, rfl⟩
  obtain ⟨w, u, rfl⟩ := two
  obtain ⟨v, v2, rfl, wv, wv2⟩ := w1.two
  cases w with
  | int i =>
    cases u with
    | int j =>
      cases wv
      cases wv2
      have es : (if okR i && okR j then some (⟨rangeW i (j - i).toNat, fun _ => true⟩ : Src) else none) = some s := es
      split at es
      · rename_i hk
        cases es
        rw [Bool.and_eq_true] at hk
        obtain ⟨k1, k2⟩ := okR_ok hk.1
        obtain ⟨k3, k4⟩ := okR_ok hk.2
        exact ⟨i, j, rfl, ⟨k1, k2, k3, k4⟩, hR mu1 Z1 H1 _ x1 r1 range_R⟩
      · cases es
    | _ => cases es
  | _ => cases es
theorem qi_enum {a : Expr} {elts : List Expr} {kk : Nat} {m : DE} {p pos tpos : Pos} (hg : Gl X "enumerate") (hm : X.mg "enumerate" = none) (ha : QL X cm [a] [m]) (hs : starEach [a] X.env = [(false, eval a X.env)]) : QI X cm (.Tuple elts kk tpos) (.Call (.Name "enumerate" p) [a] [] pos) fiE [m] := by
  refine PI.wk (pi_enum hg hm ha hs) fun σ H R q => ?_
  obtain ⟨mu, Z, ρ, h, p, s, rl, sl, e, es, hR⟩ := q
  refine ⟨mu, Z, ρ, h, p.1, p.2, rl, sl, e, fun mu1 Z1 H1 vs x1 r1 w1 => ?_⟩
  obtain ⟨ws, h1⟩ := p
  have one : ∃ w, ws = [w] := by
    obtain ⟨q, e1, e⟩ := Res.bind_eq_ok e
    obtain ⟨q2, e2, e⟩ := Res.bind_eq_ok e
    cases e2
    cases e
    exact ⟨_, rfl⟩
  obtain ⟨w, rfl⟩ := one
  obtain ⟨v, rfl, wv⟩ := w1.one
  obtain ⟨us, e3, rfl⟩ := Option.map_eq_some_iff.mp (show (asL h1 w).map (fun us => (⟨enumW us, keepL w us⟩ : Src)) = some s from es)
  obtain ⟨a, vs, rfl, hA, rs⟩ := asL_ok r1 wv e3
  have el : (enumW us).length = us.length := by unfold enumW; rw [List.length_map, List.length_zipIdx]
  refine ⟨a, vs, rfl, SqL.of hA, hR mu1 Z1 H1 _ x1 r1 ⟨_, _, by rw [el]; exact walk_enumE, fun mu2 Z2 H2 h2 x2 r2 k => ?_, fun i mu2 Z2 H2 h2 x H3 x2 r2 k y => ?_⟩⟩
  · obtain ⟨vs2, h3, rs2⟩ := keep_ok r1 wv e3 x2 r2 k
    exact ⟨vs2, SqL.of h3, rs2.length⟩
  · obtain ⟨vs2, h3, rs2⟩ := keep_ok r1 wv e3 x2 r2 k
    obtain ⟨T, z, rfl, hT, rfl, y⟩ := y
    have y := y vs2 (SqL.of h3)
    have hi : i < us.length := by
      rw [← rs2.length]
      exact (List.getElem?_eq_some_iff.mp y).1
    obtain ⟨v', e5, q5⟩ := rs2.get (List.getElem?_eq_getElem hi)
    rw [y] at e5
    cases e5
    obtain ⟨r', x'⟩ := r2.newZ (o := .tup [.int (i : Nat), z]) hT upd_same
    refine ⟨.tup [.int (i : Nat), us[i]], _, ?_, x', r', ⟨T, _, rfl, upd_same, .int (i : Nat), [z], rfl, rfl, z, [], rfl, q5.mono x'.z x'.m, rfl⟩⟩
    unfold enumW
    rw [List.getElem?_map, List.getElem?_zipIdx, List.getElem?_eq_getElem hi]
    simp
theorem qi_zip {a b : Expr} {elts : List Expr} {kk : Nat} {m mb : DE} {p pos tpos : Pos} (hg : Gl X "zip") (hm : X.mg "zip" = none) (ha : QL X cm [a, b] [m, mb]) (hs : starEach [a, b] X.env = (false, eval a X.env) :: starEach [b] X.env) (hpl : (backTo pos (starEach [b] X.env)).any (·.1) = false) : QI X cm (.Tuple elts kk tpos) (.Call (.Name "zip" p) [a, b] [] pos) fiZ [m, mb] := by
  refine PI.wk (pi_zip hg hm ha hs hpl) fun σ H R q => ?_
  obtain ⟨mu, Z, ρ, h, p, s, rl, sl, e, es, hR⟩ := q
  refine ⟨mu, Z, ρ, h, p.1, p.2, rl, sl, e, fun mu1 Z1 H1 vs x1 r1 w1 => ?_⟩
  obtain ⟨ws, h1⟩ := p
  have two : ∃ w u, ws = [w, u] := by
    obtain ⟨q, e1, e⟩ := Res.bind_eq_ok e
    obtain ⟨q2, e2, e⟩ := Res.bind_eq_ok e
    obtain ⟨q3, e3, e2⟩ := Res.bind_eq_ok e2
    obtain ⟨q4, e4, e2⟩ := Res.bind_eq_ok e2
    cases e4
    cases e2
    cases e
    exact ⟨_, _, rfl⟩
  obtain ⟨w, u, rfl⟩ := two
  obtain ⟨v, v2, rfl, wv, wv2⟩ := w1.two
  have es : (match asL h1 w, asL h1 u with
    | some us, some vs => some (⟨(us.zip vs).map fun p => .tup [p.1, p.2], fun h => keepL w us h && keepL u vs h⟩ : Src)
    | _, _ => none) = some s := es
  split at es
  · rename_i us ts e3 e4
    cases es
    obtain ⟨a, xs, rfl, hA, rs⟩ := asL_ok r1 wv e3
    obtain ⟨b, ys, rfl, hB, rt⟩ := asL_ok r1 wv2 e4
    have el : ((us.zip ts).map fun p => W.tup [p.1, p.2]).length = min us.length ts.length := by rw [List.length_map, List.length_zip]
    refine ⟨a, b, xs, ys, rfl, SqL.of hA, SqL.of hB, hR mu1 Z1 H1 _ x1 r1 ⟨_, _, by rw [el]; exact walk_zipE, fun mu2 Z2 H2 h2 x2 r2 k => ?_, fun i mu2 Z2 H2 h2 x H3 x2 r2 k y => ?_⟩⟩
    · rw [Bool.and_eq_true] at k
      obtain ⟨vs2, h3, rs2⟩ := keep_ok r1 wv e3 x2 r2 k.1
      obtain ⟨vs3, h4, rs3⟩ := keep_ok r1 wv2 e4 x2 r2 k.2
      exact ⟨⟨vs2, SqL.of h3, rs2.length⟩, vs3, SqL.of h4, rs3.length⟩
    · rw [Bool.and_eq_true] at k
      obtain ⟨vs2, h3, rs2⟩ := keep_ok r1 wv e3 x2 r2 k.1
      obtain ⟨vs3, h4, rs3⟩ := keep_ok r1 wv2 e4 x2 r2 k.2
      obtain ⟨T, z, z2, rfl, hT, rfl, y1, y2⟩ := y
      have y1 := y1 vs2 (SqL.of h3)
      have y2 := y2 vs3 (SqL.of h4)
      have hi : i < us.length := by
        rw [← rs2.length]
        exact (List.getElem?_eq_some_iff.mp y1).1
      have hj : i < ts.length := by
        rw [← rs3.length]
        exact (List.getElem?_eq_some_iff.mp y2).1
      obtain ⟨v', e5, q5⟩ := rs2.get (List.getElem?_eq_getElem hi)
      obtain ⟨v6, e6, q6⟩ := rs3.get (List.getElem?_eq_getElem hj)
      rw [y1] at e5
      rw [y2] at e6
      cases e5
      cases e6
      obtain ⟨r', x'⟩ := r2.newZ (o := .tup [z, z2]) hT upd_same
      refine ⟨.tup [us[i], ts[i]], _, ?_, x', r', ⟨T, _, rfl, upd_same, z, [z2], rfl, q5.mono x'.z x'.m, z2, [], rfl, q6.mono x'.z x'.m, rfl⟩⟩
      have ez : (us.zip ts)[i]? = some (us[i], ts[i]) := List.getElem?_zip_eq_some.mpr ⟨List.getElem?_eq_getElem hi, List.getElem?_eq_getElem hj⟩
      rw [List.getElem?_map, ez]
      rfl
  · cases es
end

/-! ### calls of defs -/
/-- what a def of n parameters promises: what f says -/
def spRun (K : PySem.W.Frag) (cm : Nat → Addr) (n : Nat) (f : Fn) : Sp := fun vs H Q _ => ∃ mu Z h ws w h', RelH K cm mu Z H h ∧ RWs K cm mu Z ws vs ∧ ws.length = n ∧ f ws h = .ok (w, h') ∧ Fin K cm mu Z H w h' Q
/-- the written arguments, then the defaults -/
def eCall (f : Fn) (n : Nat) (ds : List W) (es : List DE) : DE := fun ρ h => (eL es ρ h).bind fun p => if (p.1 ++ ds).length = n then f (p.1 ++ ds) p.2 else .bad
section
variable {X : Cx} {cm : Nat → Addr} {k n : Nat} {f C : Addr} {fd : FuncData} {ps : List Str} {dvs : List V} {ds : List Value} {x : Str} {p pos : Pos} {e : Expr} {es : List Expr} {g : Fn} {dw : List W} {ms : List DE}
theorem tO_def (hd : ∀ mu Z, RWs X.K cm mu Z dw dvs) (σ : L2.St) (H : Hp) (Q : VK) (q : tO X.K cm (eCall g n dw ms) σ H Q) : tCall (spRun X.K cm n g) dvs E0 (tOL X.K cm ms) σ H Q := by
  obtain ⟨mu, Z, ρ, h, w, h', rl, s, e, f⟩ := q
  obtain ⟨p, e1, e⟩ := Res.bind_eq_ok e
  refine ⟨mu, Z, ρ, h, p.1, p.2, rl, s, e1, fun mu1 Z1 H1 vs x1 r1 w1 => ?_⟩
  split at e
  · rename_i hn
    exact ⟨mu1, Z1, p.2, p.1 ++ dw, w, h', r1, RWs.append w1 (hd mu1 Z1), hn, e, f.ext x1⟩
  · cases e
theorem q_def (F : FnG X.prog X.w X.K X.mg X.base CX0 k f fd ps (spRun X.K cm n g)) (hr : Room k X.A) (gd : X.A.guards = some []) (hg : Gl X x) (hm : X.mg x = some (.ref f)) (hk : PySem.W.keepIn X.K (.ref f) = true) (hb : Binds X.K fd ps ds) (hv : Vals dvs ds) (hd : ∀ mu Z, RWs X.K cm mu Z dw dvs)
    (ha : QL X cm (e :: es) ms) (hdb : (x == ("__debug__" : Str)) = false) (he : starEach (e :: es) X.env = (false, eval e X.env) :: starEach es X.env) (hpl : (backTo pos (starEach es X.env)).any (·.1) = false) : QE X cm (.Call (.Name x p) (e :: es) [] pos) (eCall g n dw ms) :=
  PE.wk (pe_callG F hr gd hg hm hk hb hv pass0 ha hdb he hpl) fun σ H Q q => tO_def hd σ H Q q
theorem q_def0 (F : FnG X.prog X.w X.K X.mg X.base CX0 k f fd ps (spRun X.K cm n g)) (hr : Room k X.A) (gd : X.A.guards = some []) (hg : Gl X x) (hm : X.mg x = some (.ref f)) (hk : PySem.W.keepIn X.K (.ref f) = true) (hb : Binds X.K fd ps ds) (hv : Vals dvs ds) (hd : ∀ mu Z, RWs X.K cm mu Z dw dvs)
    (hdb : (x == ("__debug__" : Str)) = false) : QE X cm (.Call (.Name x p) [] [] pos) (eCall g n dw []) := by
  refine PE.wk (pe_callG0 F hr gd hg hm hk hb hv pass0 hdb) fun σ H Q q => ?_
  obtain ⟨mu, Z, ρ, h, w, h', rl, s, e, f⟩ := q
  obtain ⟨p, e1, e⟩ := Res.bind_eq_ok e
  cases e1
  split at e
  · rename_i hn
    exact ⟨mu, Z, h, dw, w, h', rl, hd mu Z, hn, e, f⟩
  · cases e
/-! keywords -/
def permV (ix : List Nat) (zs : List V) : List V := ix.map fun i => zs.getD i .non
def permU (ix : List Nat) (ws : List Value) : List Value := ix.map fun i => ws.getD i .none
def permW (ix : List Nat) (ws : List W) : List W := ix.map fun i => ws.getD i .non
theorem Vals.getD : ∀ {zs : List V} {ws : List Value}, Vals zs ws → ∀ i, L2.RelV (zs.getD i .non) (ws.getD i .none)
  | _, _, .nil, i => by simp [L2.RelV]
  | _, _, .cons r t, 0 => by simpa using r
  | _, _, .cons r t, i + 1 => by simpa using Vals.getD t i
theorem perm_rel {ix : List Nat} {zs : List V} {ws : List Value} (r : Vals zs ws) : Vals (permV ix zs) (permU ix ws) := by
  induction ix with
  | nil => exact .nil
  | cons i ix ih => exact .cons (Vals.getD r i) ih
theorem RWs.getD {K : PySem.W.Frag} {mu : List Addr} {Z : Hp} : ∀ {ws : List W} {vs : List V}, RWs K cm mu Z ws vs → ∀ i, RW K cm mu Z (ws.getD i .non) (vs.getD i .non)
  | [], vs, h, i => by
    have h : vs = [] := h
    subst h
    simp [RW]
  | w :: ws, _, ⟨v, r, rfl, h1, h2⟩, 0 => by simpa using h1
  | w :: ws, _, ⟨v, r, rfl, h1, h2⟩, i + 1 => by simpa using RWs.getD h2 i
theorem perm_rw {K : PySem.W.Frag} {mu : List Addr} {Z : Hp} {ix : List Nat} {ws : List W} {vs : List V} (r : RWs K cm mu Z ws vs) : RWs K cm mu Z (permW ix ws) (permV ix vs) := by
  induction ix with
  | nil => exact rfl
  | cons i ix ih => exact ⟨_, _, rfl, RWs.getD r i, ih⟩
/-- f(k = e, ..): m keywords, put in the parameters' order -/
def eKw (f : Fn) (n m : Nat) (ix : List Nat) (es : List DE) : DE := fun ρ h => (eL es ρ h).bind fun p => if ix.length = n ∧ p.1.length = m then f (permW ix p.1) p.2 else .bad
theorem q_kw {kws : List Keyword} {ks : List Str} {ix : List Nat} (F : FnG X.prog X.w X.K X.mg X.base CX0 k f fd ps (spRun X.K cm n g)) (hr : Room k X.A) (gd : X.A.guards = some []) (hg : Gl X x) (hm : X.mg x = some (.ref f)) (hk : PySem.W.keepIn X.K (.ref f) = true)
    (hb : KwB X.K fd ps ks (permU ix) (permV ix)) (ha : PK X kws (tOL X.K cm ms)) (hdb : (x == ("__debug__" : Str)) = false) (hall : ∀ pos, (backToKw pos (keywordEach kws X.env)).all (·.1.isSome) = true)
    (hks : ∀ pos, (backToKw pos (keywordEach kws X.env)).filterMap (·.1) = ks) (hno : ∀ pos, (backToKw pos (keywordEach kws X.env)).any (·.1.isNone) = false) : QE X cm (.Call (.Name x p) [] kws pos) (eKw g n ks.length ix ms) := by
  refine PE.wk (pe_callGK F hr gd hg hm hk hb pass0 ha hdb hall hks hno) fun σ H Q q => ?_
  obtain ⟨mu, Z, ρ, h, w, h', rl, s, e, f⟩ := q
  obtain ⟨p, e1, e⟩ := Res.bind_eq_ok e
  refine ⟨mu, Z, ρ, h, p.1, p.2, rl, s, e1, fun mu1 Z1 H1 vs x1 r1 w1 => ?_⟩
  split at e
  · rename_i hn
    exact ⟨w1.length.trans hn.2, mu1, Z1, p.2, permW ix p.1, w, h', r1, perm_rw w1, (List.length_map _).trans hn.1, e, f.ext x1⟩
  · cases e
theorem pk_nilQ : PK X [] (tOL X.K cm []) := ⟨fun pos pins s σ H Q I q => pk_nil.run pos pins s σ H Q I (by
  obtain ⟨mu, Z, ρ, h, ws, h', rl, s, e, f⟩ := q
  cases e
  exact f mu Z H [] Ext.refl rl rfl)⟩
theorem pk_consQ {nm : Option Str} {kpos : Pos} {kws : List Keyword} {m : DE} (ha : QE X cm e m) (hr : PK X kws (tOL X.K cm ms)) : PK X (⟨nm, e, kpos⟩ :: kws) (tOL X.K cm (m :: ms)) := ⟨fun pos pins s σ H Q I q => (pk_cons ha hr).run pos pins s σ H Q I (by
  obtain ⟨mu, Z, ρ, h, ws, h', rl, s, e, f⟩ := q
  obtain ⟨p, e1, e⟩ := Res.bind_eq_ok e
  obtain ⟨p2, e2, e⟩ := Res.bind_eq_ok e
  cases e
  refine ⟨mu, Z, ρ, h, p.1, p.2, rl, s, e1, fun mu1 Z1 H1 v1 x1 r1 w1 => ?_⟩
  refine ⟨mu1, Z1, ρ, p.2, p2.1, p2.2, r1, s.ext x1, e2, fun mu2 Z2 H2 vs x2 r2 ws2 => ?_⟩
  exact f mu2 Z2 H2 (v1 :: vs) (x1.trans x2) r2 ⟨v1, vs, rfl, w1.mono x2.z x2.m, ws2⟩)⟩
/-- a body that does what m says keeps the promise of runDef -/
theorem body_ok {K : PySem.W.Frag} {N : List Str} {np : Nat} {md : Mode} {m : DS} {vs : List V} {H : Hp} {Q : VK} {E : XK} (h : spRun K cm np (runDef N.length md m) vs H Q E) (hN : np ≤ N.length) :
    tOS K cm m { nx := fun _ H' => Q .non H', rt := Q } (start N vs) H := by
  obtain ⟨mu, Z, h, ws, w, h', rl, rs, hl, e, f⟩ := h
  obtain ⟨q, e1, e⟩ := Res.bind_eq_ok e
  obtain ⟨fl, ρ', h1⟩ := q
  have lv := rs.length
  refine ⟨mu, Z, _, h, fl, ρ', h1, rl, ⟨?_, fun i u ei => ?_⟩, e1, fun mu1 Z1 H1 x1 r1 => ?_⟩
  · show (ws.map some ++ List.replicate (N.length - ws.length) none).length = (vs.map some ++ List.replicate (N.length - vs.length) none).length
    simp [lv]
  · show ∃ v, (vs.map some ++ List.replicate (N.length - vs.length) none)[i]? = some (some v) ∧ _
    by_cases hi : i < ws.length
    · rw [List.getElem?_append_left (by rw [List.length_map]; exact hi), List.getElem?_map] at ei
      cases e2 : ws[i]? with
      | none => rw [e2] at ei; cases ei
      | some u' =>
        rw [e2] at ei
        cases ei
        obtain ⟨v, e3, q⟩ := rs.get e2
        refine ⟨v, ?_, q⟩
        rw [List.getElem?_append_left (by rw [List.length_map, lv]; exact hi), List.getElem?_map, e3]
        rfl
    · rw [List.getElem?_append_right (by rw [List.length_map]; omega), List.getElem?_replicate] at ei
      split at ei <;> cases ei
  · cases fl with
    | nx => exact fun σ' s' => fin_ok rl x1 r1 (w1 := .non) (v := .non) rfl e f
    | rt u => exact fun v wv => fin_ok rl x1 r1 wv e f
    | bk => cases e
    | ct => cases e
end
end Ti


/-! Ti: x[::-1], o[i] = e. -/
namespace Ti
open PySem PySem.Spec PyProof.Rows L2
section
variable {X : Cx} {cm : Nat → Addr}
/-! ### x[::-1] -/
theorem rev_made (z : Str) (t u : Tok) : PySem.sliceMade z t none none (some (-1, u)) = .str (mkS (sg z).reverse) := by
  have e0 : (((some ((-1 : Int), u)).map (·.1)).getD 1 == 1) = false := rfl
  have e1 : slicePicked z none none (some (-1, u)) = (List.range z.cps.size).reverse := by
    show Builtin.Str.strSliceIndices none none (-1) z.length = _
    show sliceRange (((z.cps.size : Nat) : Int) - 1) (-1) (-1) = _
    rw [PySem.W.krv_sliceRange, PySem.W.krv_range]
  unfold PySem.sliceMade
  rw [e0, e1, Bool.false_and, if_neg (by decide), List.filterMap_reverse, PySem.W.krv_all]
  rfl
def tRevS (te : TE) : TE := fun σ H Q => te σ H fun x H1 => ∃ z, x = .str z ∧ z.length ≤ sizeLine ∧ Q (.str (mkS (sg z).reverse)) H1
theorem pe_revS {e : Expr} {te : TE} {k : Nat} {p1 p2 p3 pos : Pos} (he : PE X e te) : PE X (.Subscript e (.Slice none none (some (.UnaryOp .USub (.Constant (.int 1) k p1) p2)) p3) pos) (tRevS te) := by
  refine ⟨fun pins s σ H Q I h => ?_⟩
  refine Subscript_ (thn (he.run pins s σ H _ I h) fun v s1 ⟨x, H1, I1, r1, q1⟩ => ?_)
  obtain ⟨z, ex, hz, q⟩ := q1
  subst ex
  obtain ⟨t, rfl⟩ := r1
  have hst : PO X (some (.UnaryOp .USub (.Constant (.int 1) k p1) p2)) (tPart (tUn (rU fun i => .int (-i)) (tC (.int 1)))) := po_some (pe_un un_neg pe_int)
  refine wpAny_Slice (thn (po_none.run pins s1 σ H1 (fun o H2 => o = none ∧ H2 = H1) I1 ⟨rfl, rfl⟩) fun vl s2 ⟨l, H2, I2, pl, el, e2⟩ => ?_)
  subst el e2
  refine thn (po_none.run pins s2 σ H2 (fun o H3 => o = none ∧ H3 = H2) I2 ⟨rfl, rfl⟩) fun vu s3 ⟨u, H3, I3, pu, eu, e3⟩ => ?_
  subst eu e3
  refine thn (hst.run pins s3 σ H3 (fun o H4 => o = some (-1) ∧ H4 = H3) I3 ⟨1, rfl, -1, rfl, rfl, rfl⟩) fun vs s4 ⟨o, H4, I4, ps, eo, e4⟩ => ?_
  subst eo e4
  have I5 : Inv X pins σ H4 { s4 with heap := s4.heap.push { cls := .type "slice", data := .fields #[vl, vu, vs] } } := I4.kept (t' := s4.toks) fun b ob q => Heap.get?_push_of_some _ q
  refine tail_any (ops := [.str z t, .ref s4.heap.objs.size]) (typeIs_str _ z t) PySem.F.slot_str_getitem.lookup ?_ (by with_unfolding_all rfl)
  cases pl
  cases pu
  obtain ⟨t3, rfl⟩ : ∃ t3, vs = .int (-1) t3 := by
    cases ps with
    | int _ t => exact ⟨t, rfl⟩
  refine wpAny_getItem_str_slice (l := none) (u := none) (st := some (-1, t3)) ⟨_, Heap.get?_push_size _ rfl, rfl, rfl⟩ rfl ?_
  rw [rev_made]
  exact ⟨by show (sg z).reverse.toArray.size ≤ sizeLine; rw [List.size_toArray, List.length_reverse, ← len_sg]; exact hz, .str _, H4, I5.tok _, ⟨_, rfl⟩, q⟩
theorem pe_either {e : Expr} {t u : TE} (h : PE X e t) (g : PE X e u) : PE X e (fun σ H Q => t σ H Q ∨ u σ H Q) := ⟨fun pins s σ H Q I q => by
  rcases q with q | q
  · exact h.run pins s σ H Q I q
  · exact g.run pins s σ H Q I q⟩
theorem q_rev {c : Bool} {e : Expr} {m : DE} {k : Nat} {p1 p2 p3 pos : Pos} (he : QE X cm e m) : QE X cm (.Subscript e (.Slice none none (some (.UnaryOp .USub (.Constant (.int 1) k p1) p2)) p3) pos) (e1 (pRev c) m) := by
  refine PE.wk (pe_either (pe_revS he) (pe_revL he)) fun σ H Q q => ?_
  obtain ⟨mu, Z, ρ, h, w, h', rl, s, e, f⟩ := q
  obtain ⟨p, e1, e⟩ := Res.bind_eq_ok e
  obtain ⟨u, h1⟩ := p
  have gen : (match asL h1 u with | some ws => mkL c ws.reverse h1 | none => .bad) = .ok (w, h') → tRevL X.K (tO X.K cm m) σ H Q := fun e => by
    refine ⟨mu, Z, ρ, h, u, h1, rl, s, e1, fun mu1 Z1 H1 v1 x1 r1 w1 => ?_⟩
    split at e
    · rename_i ws e4
      obtain ⟨a, vs, rfl, ha, rs⟩ := asL_ok r1 w1 e4
      exact ⟨a, vs, rfl, SqL.of ha, (mkL_ok r1 rs.reverse e (f.ext x1)).2⟩
    · cases e
  cases u with
  | str z =>
    have e : (if z.length ≤ 1000000 then Res.ok (W.str (mkS (sg z).reverse), h1) else .bad) = .ok (w, h') := e
    split at e
    · rename_i hz
      cases e
      refine .inl ⟨mu, Z, ρ, h, .str z, _, rl, s, e1, fun mu1 Z1 H1 v1 x1 r1 w1 => ?_⟩
      cases w1
      exact ⟨z, rfl, Nat.le_trans hz (by decide), f _ _ _ _ x1 r1 rfl⟩
    · cases e
  | _ => exact .inr (gen e)

/-! ### o[i] = e -/
def rSetX : TSet := fun o i v H Q => rSetL o i v H Q ∨ rSetD o i v H Q
theorem set_X (hu : X.A.units + 1 < cLine) : PSet X rSetX := fun pins s σ H o i v ov iv u Q I r1 r2 r3 q => by
  rcases q with q | q
  · exact set_list pins s σ H o i v ov iv u Q I r1 r2 r3 q
  · exact set_dict hu pins s σ H o i v ov iv u Q I r1 r2 r3 q
theorem nors_set {e : W} (he : nor e = true) : ∀ {ws : List W} (j : Nat), nors ws = true → nors (ws.set j e) = true
  | [], _, _ => rfl
  | w :: ws, 0, h => by
    have h : (nor w && nors ws) = true := h
    rw [Bool.and_eq_true] at h
    show (nor e && nors ws) = true
    rw [he, h.2]; rfl
  | w :: ws, j + 1, h => by
    have h : (nor w && nors ws) = true := h
    rw [Bool.and_eq_true] at h
    show (nor w && nors (ws.set j e)) = true
    rw [h.1, nors_set he j h.2]; rfl
theorem norK_map {e : W} {k : HK} (he : nor e = true) : ∀ {kvs : List (HK × W)}, norK kvs = true → norK (kvs.map fun kv => if kv.1 = k then (kv.1, e) else kv) = true
  | [], _ => rfl
  | p :: r, h => by
    have h : (nor p.2 && norK r) = true := h
    rw [Bool.and_eq_true] at h
    rw [List.map_cons]
    split
    · show (nor e && norK _) = true
      rw [he, norK_map he h.2]; rfl
    · show (nor p.2 && norK _) = true
      rw [h.1, norK_map he h.2]; rfl
theorem norK_app {e : W} {k : HK} (he : nor e = true) : ∀ {kvs : List (HK × W)}, norK kvs = true → norK (kvs ++ [(k, e)]) = true
  | [], _ => by show (nor e && true) = true; rw [he]; rfl
  | p :: r, h => by
    have h : (nor p.2 && norK r) = true := h
    rw [Bool.and_eq_true] at h
    show (nor p.2 && norK (r ++ _)) = true
    rw [h.1, norK_app he h.2]; rfl
theorem norK_put {e : W} {k : HK} (he : nor e = true) {kvs : List (HK × W)} (h : norK kvs = true) : norK (dput kvs k e) = true := by
  unfold dput
  split
  · exact norK_map he h
  · exact norK_app he h
theorem paired_snoc {κ : Type} {R : HK → κ → Prop} {k : HK} {q : κ} (hk : R k q) : ∀ {l : List HK} {ks : List κ}, Paired R l ks → Paired R (l ++ [k]) (ks ++ [q])
  | _, _, .nil => .cons hk .nil
  | _, _, .cons a r => .cons a (paired_snoc hk r)
theorem RWk.snoc {K : PySem.W.Frag} {cm : Nat → Addr} {mu : List Addr} {Z : Hp} {k : HK} {w : W} {v : V} (hw : RW K cm mu Z w v) : ∀ {kvs : List (HK × W)} {vs : List V}, RWk K cm mu Z kvs vs → RWk K cm mu Z (kvs ++ [(k, w)]) (vs ++ [v])
  | [], vs, h => by
    cases (show vs = [] from h)
    exact ⟨v, [], rfl, hw, rfl⟩
  | p :: r, vs, h => by
    obtain ⟨v0, vr, rfl, r1, r2⟩ := h
    exact ⟨v0, vr ++ [v], rfl, r1, RWk.snoc hw r2⟩
theorem put_gen {κ : Type} [DecidableEq κ] {R : HK → κ → Prop} (hi : ∀ a b p, R a p → R b p → a = b) (hf : ∀ a p q, R a p → R a q → p = q) {K : PySem.W.Frag} {mu : List Addr} {Z : Hp} {k : HK} {q : κ} {w : W} {v : V} (hk : R k q) (hw : RW K cm mu Z w v) {kvs : List (HK × W)} {ks : List κ} {vs : List V}
    (h1 : Paired R (kvs.map (·.1)) ks) (h2 : ks.length = vs.length) (h3 : RWk K cm mu Z kvs vs) : ∃ ks' vs', Paired R ((dput kvs k w).map (·.1)) ks' ∧ ks'.length = vs'.length ∧ putK (ks.zip vs) q v = ks'.zip vs' ∧ RWk K cm mu Z (dput kvs k w) vs' := by
  have anyE : ∀ {kvs : List (HK × W)} {ks : List κ} {vs : List V}, Paired R (kvs.map (·.1)) ks → ks.length = vs.length → RWk K cm mu Z kvs vs → ((ks.zip vs).any fun kv => decide (kv.1 = q)) = kvs.any fun kv => decide (kv.1 = k) := by
    intro kvs
    induction kvs with
    | nil => intro ks vs h1 h2 h3; cases h1; rfl
    | cons p r ih =>
      intro ks vs h1 h2 h3
      obtain ⟨k0, w0⟩ := p
      obtain ⟨v0, vr, rfl, r1, r2⟩ := h3
      cases h1 with
      | cons g1 g2 =>
        rename_i q0 qs
        rw [List.zip_cons_cons, List.any_cons, List.any_cons, ih g2 (Nat.succ.inj h2) r2]
        congr 1
        by_cases e : k0 = k
        · subst e
          rw [decide_eq_true (hf _ _ _ g1 hk), decide_eq_true rfl]
        · rw [decide_eq_false (show ¬ q0 = q from fun z => e (hi _ _ _ g1 (by rw [z]; exact hk))), decide_eq_false (show ¬ ((k0, w0) : HK × W).1 = k from e)]
  have mapE : ∀ {kvs : List (HK × W)} {ks : List κ} {vs : List V}, Paired R (kvs.map (·.1)) ks → ks.length = vs.length → RWk K cm mu Z kvs vs → ∃ vs', Paired R ((kvs.map fun kv => if kv.1 = k then (kv.1, w) else kv).map (·.1)) ks ∧ ks.length = vs'.length ∧ ((ks.zip vs).map fun kv => if kv.1 = q then (kv.1, v) else kv) = ks.zip vs' ∧ RWk K cm mu Z (kvs.map fun kv => if kv.1 = k then (kv.1, w) else kv) vs' := by
    intro kvs
    induction kvs with
    | nil => intro ks vs h1 h2 h3; cases h1; exact ⟨[], .nil, rfl, rfl, rfl⟩
    | cons p r ih =>
      intro ks vs h1 h2 h3
      obtain ⟨k0, w0⟩ := p
      obtain ⟨v0, vr, rfl, r1, r2⟩ := h3
      cases h1 with
      | cons g1 g2 =>
        rename_i q0 qs
        obtain ⟨vs', i1, i2, i3, i4⟩ := ih g2 (Nat.succ.inj h2) r2
        by_cases e : k0 = k
        · subst e
          have eq : q0 = q := hf _ _ _ g1 hk
          subst eq
          refine ⟨v :: vs', ?_, by rw [List.length_cons, List.length_cons, i2], ?_, ?_⟩
          · rw [List.map_cons, if_pos rfl, List.map_cons]
            exact .cons g1 i1
          · rw [List.zip_cons_cons, List.map_cons, if_pos rfl, i3]
            rfl
          · rw [List.map_cons, if_pos rfl]
            exact ⟨v, vs', rfl, hw, i4⟩
        · have ne : ¬ q0 = q := fun z => e (hi _ _ _ g1 (by rw [z]; exact hk))
          refine ⟨v0 :: vs', ?_, by rw [List.length_cons, List.length_cons, i2], ?_, ?_⟩
          · rw [List.map_cons, if_neg e, List.map_cons]
            exact .cons g1 i1
          · rw [List.zip_cons_cons, List.map_cons, if_neg ne, i3]
            rfl
          · rw [List.map_cons, if_neg e]
            exact ⟨v0, vs', rfl, r1, i4⟩
  unfold dput putK
  rw [anyE h1 h2 h3]
  split
  · obtain ⟨vs', i1, i2, i3, i4⟩ := mapE h1 h2 h3
    exact ⟨ks, vs', i1, i2, i3, i4⟩
  · refine ⟨ks ++ [q], vs ++ [v], ?_, by rw [List.length_append, List.length_append, h2]; rfl, ?_, ?_⟩
    · rw [List.map_append]
      exact paired_snoc hk h1
    · rw [List.zip_append h2]
      rfl
    · exact RWk.snoc hw h3
theorem ok_set {K : PySem.W.Frag} {mu : List Addr} {Z H : Hp} {h h' : Hh} {w1 w2 w3 w : W} {v1 v2 v3 : V} {Q : Hp → Prop} (r : RelH K cm mu Z H h) (q1 : RW K cm mu Z w1 v1) (q2 : RW K cm mu Z w2 v2) (q3 : RW K cm mu Z w3 v3) (e : pSet w1 w2 w3 h = .ok (w, h'))
    (f : ∀ mu' Z' H', Ext mu Z H mu' Z' H' → RelH K cm mu' Z' H' h' → Q H') : rSetX v1 v2 v3 H Q := by
  cases w1 with
  | ref p =>
    obtain ⟨a, rfl, m⟩ := q1
    unfold pSet at e
    simp only at e
    split at e
    · rename_i ws e1
      split at e
      · rename_i k
        split at e
        · rename_i j ej
          split at e
          · rename_i hn
            cases e
            cases q2
            obtain ⟨z, n, vs, e2, rs⟩ := (show Z a = none ∧ nors ws = true ∧ ∃ vs, H a = some (.lst vs) ∧ RWs K cm [] Z ws vs from r.at_ m e1)
            refine .inl ⟨a, vs, k, j, rfl, rfl, e2, by rw [rs.length]; exact ej, ?_⟩
            obtain ⟨r', x⟩ := r.wr (c := .lst (ws.set j w3)) (o := .lst (vs.set j v3)) m z ⟨z, nors_set hn j n, vs.set j v3, upd_same, RWs.set (RW.any hn q3) j rs⟩
            exact f _ _ _ x r'
          · cases e
        · cases e
      · cases e
    · rename_i kd kvs e1
      split at e
      · rename_i k ek
        split at e
        · rename_i hn
          cases e
          rw [Bool.and_eq_true, Bool.and_eq_true, decide_eq_true_eq] at hn
          obtain ⟨⟨hf, hn⟩, hl⟩ := hn
          obtain ⟨z, n, q⟩ := r.at_ m e1
          have n' : norK (dput kvs k w3) = true := norK_put hn n
          have len : ∀ {κ : Type} {R : HK → κ → Prop} {ks : List κ} {vs : List V}, Paired R (kvs.map (·.1)) ks → ks.length = vs.length → (ks.zip vs).length < sizeLine := fun {κ R ks vs} g1 g2 => by
            have : ∀ {l : List HK} {ks : List κ}, Paired R l ks → l.length = ks.length := by
              intro l ks g
              induction g with
              | nil => rfl
              | cons _ _ ih => rw [List.length_cons, List.length_cons, ih]
            rw [List.length_zip, ← g2, Nat.min_self, ← this g1, List.length_map]
            exact hl
          cases kd with
          | false =>
            obtain ⟨ks, vs, h1, h2, h3, h4⟩ := (show ∃ ks vs, KeysK (kvs.map (·.1)) ks ∧ H a = some (.dK (ks.zip vs)) ∧ ks.length = vs.length ∧ RWk K cm [] Z kvs vs from q)
            obtain ⟨k', hk⟩ := fits_key hf
            obtain ⟨ks', vs', i1, i2, i3, i4⟩ := put_gen (R := fun k q => k.key = some q) (fun _ _ _ => key_inj) (fun _ _ _ g g' => Option.some.inj (g.symm.trans g')) hk (RW.any (mu' := []) hn q3) h1 h3 h4
            refine .inr ⟨a, _, rfl, .inl ⟨_, k', h2, key_flat q2 ek hk, len h1 h3, rfl⟩, ?_⟩
            rw [i3]
            obtain ⟨r', x⟩ := r.wr (c := .dic false (dput kvs k w3)) (o := .dK (ks'.zip vs')) m z ⟨z, n', ks', vs', i1, upd_same, i2, i4⟩
            exact f _ _ _ x r'
          | true =>
            obtain ⟨ks, vs, h1, h2, h3, h4⟩ := (show ∃ ks vs, KeysT (kvs.map (·.1)) ks ∧ H a = some (.dT (ks.zip vs)) ∧ ks.length = vs.length ∧ RWk K cm [] Z kvs vs from q)
            obtain ⟨l, k', rfl, hk⟩ := fits_keys hf
            obtain ⟨ks', vs', i1, i2, i3, i4⟩ := put_gen (R := fun k q => ∃ ks, k = .tup ks ∧ KeysK ks q) (fun a b p g g' => by
              obtain ⟨x, rfl, g⟩ := g
              obtain ⟨y, rfl, g'⟩ := g'
              rw [keysK_inj g g']) (fun a p q g g' => by
              obtain ⟨x, rfl, g⟩ := g
              obtain ⟨y, e, g'⟩ := g'
              cases e
              exact keysK_fun g g') ⟨l, rfl, hk⟩ (RW.any (mu' := []) hn q3) h1 h3 h4
            cases w2 with
            | tup ws =>
              unfold keyOf at ek
              cases e4 : keysOf ws with
              | none => rw [e4] at ek; cases ek
              | some ks2 =>
                rw [e4] at ek
                cases ek
                obtain ⟨b, xs, rfl, zb, rs⟩ := q2
                refine .inr ⟨a, _, rfl, .inr ⟨_, k', b, h2, rfl, ?_, len h1 h3, rfl⟩, ?_⟩
                · rw [r.tupZ zb, keys_flat rs e4 hk]
                · rw [i3]
                  obtain ⟨r', x⟩ := r.wr (c := .dic true (dput kvs (.tup l) w3)) (o := .dT (ks'.zip vs')) m z ⟨z, n', ks', vs', i1, upd_same, i2, i4⟩
                  exact f _ _ _ x r'
            | _ => cases ek
        · cases e
      · cases e
    · cases e
  | _ => cases e
theorem qs_setItem {o i v : Expr} {mo mi mv : DE} {tpos pos : Pos} (hu : X.A.units + 65 < cLine) (ho : QE X cm o mo) (hi : QE X cm i mi) (hv : QE X cm v mv) (hs : swapsWithSole [.Subscript o i tpos] v pos.line X.env = pure false) (hw : swappedStores [.Subscript o i tpos] v X.env = pure none)
    (ha : ∀ v, assign (.Subscript o i tpos) X.env v = (do
      let ov ← holding [v] (eval o X.env)
      let iv ← holding [v, ov] (eval i X.env)
      standAt tpos
      holding [v, ov, iv] (setItem ov iv v)
      release [v, ov, iv] [])) : QS X cm (.Assign [.Subscript o i tpos] v pos) (sSet pSet mo mi mv) := by
  refine PS.wk (ps_asg hv (pg_sub ho hi (set_X (by omega)) ha) hs hw rfl) fun D σ H q => ?_
  obtain ⟨mu, Z, ρ, h, f, ρ', h', rl, s, e, p⟩ := q
  obtain ⟨q1, e1, e⟩ := Res.bind_eq_ok e
  obtain ⟨q2, e2, e⟩ := Res.bind_eq_ok e
  obtain ⟨q3, e3, e⟩ := Res.bind_eq_ok e
  obtain ⟨q4, e4, e⟩ := Res.bind_eq_ok e
  cases e
  refine ⟨mu, Z, ρ, h, q1.1, q1.2, rl, s, e1, fun mu1 Z1 H1 v1 x1 r1 w1 => ?_⟩
  refine ⟨mu1, Z1, ρ, q1.2, q2.1, q2.2, r1, s.ext x1, e2, fun mu2 Z2 H2 v2 x2 r2 w2 => ?_⟩
  refine ⟨mu2, Z2, ρ, q2.2, q3.1, q3.2, r2, s.ext (x1.trans x2), e3, fun mu3 Z3 H3 v3 x3 r3 w3 => ?_⟩
  refine ok_set r3 (w2.mono x3.z x3.m) w3 ((w1.mono x2.z x2.m).mono x3.z x3.m) e4 fun mu4 Z4 H4 x4 r4 => ?_
  have x := x1.trans (x2.trans (x3.trans x4))
  exact p _ _ _ x r4 σ (s.ext x)
end
end Ti


/-! Ti: more primitive operations: dict.get, list methods, methods of texts, repr, sorted. -/
namespace Ti
open PySem PySem.Spec PyProof.Rows L2

/-! ### what they do -/
def pGet2 : F3 := fun x k d h => match asD h x with
  | some (kd, kvs) => (match keyOf k with
    | some q => if q.fits kd then .ok ((dget kvs q).getD d, h) else .bad
    | none => .bad)
  | none => .bad
def pPop0 : F1 := fun x h => match x with
  | .ref i => (match h[i]? with
    | some (.lst ws) => (match ws[ws.length - 1]? with
      | some y => .ok (y, h.set i (.lst ws.dropLast))
      | none => .bad)
    | _ => .bad)
  | _ => .bad
def pInsert : F3 := fun x k y h => match x, k with
  | .ref i, .int n => (match h[i]? with
    | some (.lst ws) => if ws.length < lineW ∧ nor y = true ∧ 0 ≤ n ∧ n < 1000000000000 then .ok (.non, h.set i (.lst (ws.take n.toNat ++ [y] ++ ws.drop n.toNat))) else .bad
    | _ => .bad)
  | _, _ => .bad
def findW (u : W) : List W → Option Nat
  | [] => none
  | w :: ws => if beq w u = true then some 0 else (findW u ws).map (· + 1)
def pIndex : F2 := fun x y h => match asL h x with
  | some ws => if areDat 60 ws && isDat 60 (look h y) then (match findW (look h y) ws with
    | some j => .ok (.int (j : Nat), h)
    | none => .bad) else .bad
  | none => .bad
def pIsdigit : F1 := fun x h => match x with
  | .str a => .ok (.bl (Txt.isdigit a), h)
  | _ => .bad
def pUpper : F1 := fun x h => match x with
  | .str a => if a.length ≤ 1000000 then .ok (.str (Txt.upper a), h) else .bad
  | _ => .bad
def pStarts : F2 := fun x y h => match x, y with
  | .str a, .str b => .ok (.bl (Txt.startswith a b), h)
  | _, _ => .bad
def pEnds : F2 := fun x y h => match x, y with
  | .str a, .str b => .ok (.bl (Txt.endswith a b), h)
  | _, _ => .bad
def strsOf : List W → Option (List Str)
  | [] => some []
  | .str x :: ws => (strsOf ws).map (x :: ·)
  | _ => none
def pJoin : F2 := fun x y h => match x with
  | .str a => (match (asL h y).bind strsOf with
    | some ys => if (ys.map (·.length)).sum + ys.length * a.length ≤ 10000000 then .ok (.str (Txt.join a ys), h) else .bad
    | none => .bad)
  | _ => .bad
/-- what repr shows -/
def pRepr : F1 := fun x h => if isDat 60 (look h x) && (toP (look h x)).showable && decide ((toP (look h x)).shown.length ≤ 10000000) then .ok (.str (toP (look h x)).shown, h) else .bad
/-- texts in order -/
def strLe (a b : Str) : Bool := !ltCps b.cps.toList a.cps.toList
def srtS (l : List Str) : List Str := l.mergeSort strLe
def srtI (l : List Int) : List Int := l.mergeSort fun a b => decide (a ≤ b)
def keyStrs : List HK → Option (List Str)
  | [] => some []
  | .str x :: ks => (keyStrs ks).map (x :: ·)
  | _ => none
/-- what sorted gives: of a list of texts or ints, of a dict of texts -/
def pSorted (c : Bool) : F1 := fun x h => match asL h x with
  | some ws => (match strsOf ws with
    | some ys => if ys.length < 64 then mkL c ((srtS ys).map .str) h else .bad
    | none => (match intsOf ws with
      | some ns => mkL c ((srtI ns).map .int) h
      | none => .bad))
  | none => (match asD h x with
    | some (false, kvs) => (match keyStrs (kvs.map (·.1)) with
      | some ys => if ys.length < 64 then mkL c ((srtS ys).map .str) h else .bad
      | none => .bad)
    | _ => .bad)
def pTuple : F1 := fun x h => match x with
  | .tup ws => .ok (.tup ws, h)
  | x => (match asL h x with
    | some ws => .ok (.tup ws, h)
    | none => .bad)

/-! ### they do it -/
section
variable {X : Cx} {K : PySem.W.Frag} {cm : Nat → Addr} {mu : List Addr} {Z H : Hp} {h h' : Hh} {w w1 w2 : W} {v v1 v2 : V} {Q : VK}
/-- o.get(k, d) -/
def eGet (mo me mf : DE) : DE := fun ρ h => (mo ρ h).bind fun p => if (asD p.2 p.1).isSome = true then (me ρ p.2).bind fun q => (mf ρ q.2).bind fun r => pGet2 p.1 q.1 r.1 r.2 else .bad
theorem isD_of (r : RelH K cm mu Z H h) (q : RW K cm mu Z w v) (e : (asD h w).isSome = true) : ∃ a, v = .ref a ∧ IsD H a := by
  obtain ⟨⟨kd, kvs⟩, e1⟩ := Option.isSome_iff_exists.mp e
  obtain ⟨a, rfl, _, q⟩ := asD_ok r q e1
  refine ⟨a, rfl, ?_⟩
  cases kd with
  | true =>
    obtain ⟨ks, vs, _, h2, _⟩ := (show ∃ ks vs, KeysT (kvs.map (·.1)) ks ∧ Rd H a (.dT (ks.zip vs)) ∧ ks.length = vs.length ∧ RWk K cm mu Z kvs vs from q)
    exact .inr ⟨_, h2⟩
  | false =>
    obtain ⟨ks, vs, _, h2, _⟩ := (show ∃ ks vs, KeysK (kvs.map (·.1)) ks ∧ Rd H a (.dK (ks.zip vs)) ∧ ks.length = vs.length ∧ RWk K cm mu Z kvs vs from q)
    exact .inl ⟨_, h2⟩
theorem q_get2 {o e f : Expr} {mo me mf : DE} {apos cpos : Pos} (hu : X.A.units + 1 < cLine) (ho : QE X cm o mo) (he : QE X cm e me) (hf : QE X cm f mf) (m : M2 X o "get" apos e f cpos) : QE X cm (.Call (.Attribute o "get" apos) [e, f] [] cpos) (eGet mo me mf) := by
  refine PE.wk (pe_dget2 hu ho he hf m) fun σ H Q q => ?_
  obtain ⟨mu, Z, ρ, h, w, h', rl, s, e, ff⟩ := q
  obtain ⟨p, e1, e⟩ := Res.bind_eq_ok e
  split at e
  · rename_i hd
    obtain ⟨p2, e2, e⟩ := Res.bind_eq_ok e
    obtain ⟨p3, e3, e⟩ := Res.bind_eq_ok e
    refine ⟨mu, Z, ρ, h, p.1, p.2, rl, s, e1, fun mu1 Z1 H1 v1 x1 r1 w1 => ?_⟩
    obtain ⟨a, rfl, da⟩ := isD_of r1 w1 hd
    refine ⟨a, rfl, da, mu1, Z1, ρ, p.2, p2.1, p2.2, r1, s.ext x1, e2, fun mu2 Z2 H2 v2 x2 r2 w2 => ?_⟩
    refine ⟨mu2, Z2, ρ, p2.2, p3.1, p3.2, r2, s.ext (x1.trans x2), e3, fun mu3 Z3 H3 v3 x3 r3 w3 => ?_⟩
    unfold pGet2 at e
    split at e
    · rename_i kd kvs e4
      split at e
      · rename_i k e5
        split at e
        · rename_i hk
          cases e
          have x23 := x2.trans x3
          obtain ⟨b, ov, eb, dg, ro⟩ := dic_get r3 (w1.mono x23.z x23.m) (w2.mono x3.z x3.m) e4 e5 hk
          cases eb
          refine ⟨ov, dg, ?_⟩
          refine ff _ _ _ _ (x1.trans x23) r3 ?_
          cases hg : dget kvs k with
          | none =>
            rw [hg] at ro
            cases ov with
            | none => exact w3
            | some u => cases ro
          | some u =>
            rw [hg] at ro
            cases ov with
            | none => cases ro
            | some u' => exact ro
        · cases e
      · cases e
    · cases e
  · cases e
theorem OkM.of3 {g : F3} {r : V → List V → Hp → VK → Prop} (k : ∀ mu Z H h w1 w2 w3 w h' v1 v2 v3 Q, RelH K cm mu Z H h → RW K cm mu Z w1 v1 → RW K cm mu Z w2 v2 → RW K cm mu Z w3 v3 → g w1 w2 w3 h = .ok (w, h') → Fin K cm mu Z H w h' Q → r v1 [v2, v3] H Q) : OkM K cm (l3 g) r := by
  intro mu Z H h w1 ws w h' v1 vs Q rl q1 q e f
  match ws, e, q with
  | [b, c], e, q =>
    obtain ⟨v2, v3, rfl, h2, h3⟩ := q.two
    exact k mu Z H h w1 b c w h' v1 v2 v3 Q rl q1 h2 h3 e f
  | [], e, _ => cases e
  | [_], e, _ => cases e
  | _ :: _ :: _ :: _, e, _ => cases e
theorem ok_pop0 : OkM K cm (l1 pPop0) rPop := by
  refine OkM.of1 ?_
  intro mu Z H h w1 w h' v1 Q r q1 e f
  cases w1 with
  | ref i =>
    have e : (match h[i]? with | some (.lst ws) => (match ws[ws.length - 1]? with | some y => Res.ok (y, h.set i (.lst ws.dropLast)) | none => .bad) | _ => .bad) = .ok (w, h') := e
    split at e
    · rename_i ws e1
      split at e
      · rename_i y ey
        cases e
        obtain ⟨a, rfl, m⟩ := q1
        obtain ⟨z, n, vs, e2, rs⟩ := (show Z a = none ∧ nors ws = true ∧ ∃ vs, H a = some (.lst vs) ∧ RWs K cm [] Z ws vs from r.at_ m e1)
        obtain ⟨u, eu, ru⟩ := rs.get ey
        have ny : nor w = true := by
          have : ∀ (l : List W) (i : Nat) (y : W), nors l = true → l[i]? = some y → nor y = true := by
            intro l
            induction l with
            | nil => intro i y _ h; cases h
            | cons x l ih =>
              intro i y hn hi
              have hn : (nor x && nors l) = true := hn
              rw [Bool.and_eq_true] at hn
              cases i with
              | zero => cases hi; exact hn.1
              | succ i => exact ih i y hn.2 hi
          exact this ws _ w n ey
        have nd : nors ws.dropLast = true := by
          have : ∀ l : List W, nors l = true → nors l.dropLast = true := by
            intro l
            induction l with
            | nil => exact fun h => h
            | cons x l ih =>
              intro hn
              have hn : (nor x && nors l) = true := hn
              rw [Bool.and_eq_true] at hn
              cases l with
              | nil => rfl
              | cons y l =>
                show (nor x && nors (y :: l).dropLast) = true
                rw [hn.1, ih hn.2]
                rfl
          exact this ws n
        have rd : RWs K cm [] Z ws.dropLast vs.dropLast := by
          rw [List.dropLast_eq_take, List.dropLast_eq_take, rs.length]
          exact rs.take _
        obtain ⟨r', x⟩ := r.wr (c := .lst ws.dropLast) (o := .lst vs.dropLast) m z ⟨z, nd, vs.dropLast, upd_same, rd⟩
        refine ⟨a, vs, u, rfl, rfl, e2, by rw [rs.length]; exact eu, ?_⟩
        exact f _ _ _ _ x r' (RW.any ny ru)
      · cases e
    · cases e
  | _ => cases e
theorem nors_app {a b : List W} : nors (a ++ b) = (nors a && nors b) := by
  induction a with
  | nil => rfl
  | cons x a ih =>
    show (nor x && nors (a ++ b)) = (nor x && nors a && nors b)
    rw [ih, Bool.and_assoc]
theorem nors_take {a : List W} (n : Nat) (h : nors a = true) : nors (a.take n) = true := by
  have : nors (a.take n ++ a.drop n) = true := by rw [List.take_append_drop]; exact h
  rw [nors_app, Bool.and_eq_true] at this
  exact this.1
theorem nors_drop {a : List W} (n : Nat) (h : nors a = true) : nors (a.drop n) = true := by
  have : nors (a.take n ++ a.drop n) = true := by rw [List.take_append_drop]; exact h
  rw [nors_app, Bool.and_eq_true] at this
  exact this.2
def rInsert : V → List V → Hp → VK → Prop := fun x vs H Q => ∃ (l : Addr) (xs : List V) (i : Int) (y : V), x = .ref l ∧ vs = [.int i, y] ∧ H l = some (.lst xs) ∧ xs.length < sizeLine ∧ 0 ≤ i ∧ i < 2 ^ 63 ∧ Q .non (upd H l (.lst (xs.take i.toNat ++ [y] ++ xs.drop i.toNat)))
theorem ok_insert : OkM K cm (l3 pInsert) rInsert := by
  refine OkM.of3 fun mu Z H h w1 w2 w3 w h' v1 v2 v3 Q r q1 q2 q3 e f => ?_
  unfold pInsert at e
  split at e
  · rename_i i n
    split at e
    · rename_i ws e1
      split at e
      · rename_i hc
        obtain ⟨hl, hy, h0, hn⟩ := hc
        cases e
        obtain ⟨a, rfl, m⟩ := q1
        cases q2
        obtain ⟨z, nn, vs, e2, rs⟩ := (show Z a = none ∧ nors ws = true ∧ ∃ vs, H a = some (.lst vs) ∧ RWs K cm [] Z ws vs from r.at_ m e1)
        have rn : RWs K cm [] Z (ws.take n.toNat ++ [w3] ++ ws.drop n.toNat) (vs.take n.toNat ++ [v3] ++ vs.drop n.toNat) := RWs.append (RWs.append (rs.take _) ⟨v3, [], rfl, RW.any hy q3, rfl⟩) (rs.drop _)
        have nn2 : nors (ws.take n.toNat ++ [w3] ++ ws.drop n.toNat) = true := by
          rw [nors_app, nors_app, nors_take _ nn, nors_drop _ nn]
          show (true && (nor w3 && true) && true) = true
          rw [hy]
          rfl
        obtain ⟨r', x⟩ := r.wr (c := .lst (ws.take n.toNat ++ [w3] ++ ws.drop n.toNat)) (o := .lst (vs.take n.toNat ++ [v3] ++ vs.drop n.toNat)) m z ⟨z, nn2, _, upd_same, rn⟩
        exact ⟨a, vs, n, v3, rfl, rfl, e2, by rw [rs.length]; exact hl, h0, Int.lt_trans hn (by decide), f _ _ _ _ x r' rfl⟩
      · cases e
    · cases e
  · cases e
theorem findW_ok {u : W} : ∀ {ws : List W} {j : Nat}, findW u ws = some j → (∃ w, ws[j]? = some w ∧ beq w u = true) ∧ ∀ (m : Nat) (z : W), m < j → ws[m]? = some z → beq z u = false
  | [], j, h => by cases h
  | w :: ws, j, h => by
    unfold findW at h
    split at h
    · rename_i hb
      cases h
      exact ⟨⟨w, rfl, hb⟩, fun m z hm => absurd hm (Nat.not_lt_zero m)⟩
    · rename_i hb
      obtain ⟨i, e1, rfl⟩ := Option.map_eq_some_iff.mp h
      obtain ⟨h1, h2⟩ := findW_ok e1
      refine ⟨h1, fun m z hm hz => ?_⟩
      cases m with
      | zero =>
        cases hz
        exact Bool.eq_false_iff.mpr hb
      | succ m => exact h2 m z (by omega) hz
theorem toPs_get : ∀ {ws : List W} {j : Nat}, (toPs ws)[j]? = (ws[j]?).map toP
  | [], j => rfl
  | w :: ws, 0 => rfl
  | w :: ws, j + 1 => by
    show (toPs ws)[j]? = _
    rw [toPs_get]
    rfl
theorem areDat_get {d : Nat} : ∀ {ws : List W} {j : Nat} {w : W}, areDat d ws = true → ws[j]? = some w → isDat d w = true
  | [], _, _, _, h => by cases h
  | x :: ws, j, w, h, e => by
    have h : (isDat d x && areDat d ws) = true := h
    rw [Bool.and_eq_true] at h
    cases j with
    | zero => cases e; exact h.1
    | succ j => exact areDat_get h.2 e
theorem ok_index : OkM K cm (l2 pIndex) (rIndexD K) := by
  refine OkM.of2 ?_
  intro mu Z H h w1 w2 w h' v1 v2 Q r q1 q2 e f
  unfold pIndex at e
  split at e
  · rename_i ws e1
    split at e
    · rename_i hd
      rw [Bool.and_eq_true] at hd
      split at e
      · rename_i j e2
        cases e
        obtain ⟨a, vs, rfl, ha, rs⟩ := asL_ok r q1 e1
        obtain ⟨⟨u, eu, hu⟩, hno⟩ := findW_ok e2
        have hsh : SeqAt.shaped (toP (.lst ws)) = true := toP_shaped (d := 61) (by decide) hd.1
        refine ⟨a, v2, toP (look h w2), toPs ws, j, toP u, rfl, rfl, .lst (SqL.of ha) (toPs_Dp r hd.1 rs), look_Dp r q2 hd.2, hsh, toP_shaped (by decide) hd.2, by rw [toPs_get, eu]; rfl, ?_, fun m z' hm hz => ?_, f.here r rfl⟩
        · rw [toP_eqv (areDat_get hd.1 eu) hd.2]
          exact hu
        · rw [toPs_get] at hz
          obtain ⟨z, ez, rfl⟩ := Option.map_eq_some_iff.mp hz
          rw [toP_eqv (areDat_get hd.1 ez) hd.2]
          exact hno m z hm ez
      · cases e
    · cases e
  · cases e
theorem ok_isdigit : OkM K cm (l1 pIsdigit) (fun x xs H Q => ∃ a, x = .str a ∧ xs = [] ∧ True ∧ Q (.bl (Txt.isdigit a)) H) := by
  refine OkM.of1 ?_
  intro mu Z H h w1 w h' v1 Q r q1 e f
  unfold pIsdigit at e
  split at e
  · cases e; cases q1
    exact ⟨_, rfl, rfl, trivial, f.here r rfl⟩
  · cases e
theorem ok_upper : OkM K cm (l1 pUpper) (fun x xs H Q => ∃ a, x = .str a ∧ xs = [] ∧ a.length ≤ 5592405 ∧ Q (.str (Txt.upper a)) H) := by
  refine OkM.of1 ?_
  intro mu Z H h w1 w h' v1 Q r q1 e f
  unfold pUpper at e
  split at e
  · split at e
    · rename_i hl
      cases e; cases q1
      exact ⟨_, rfl, rfl, by omega, f.here r rfl⟩
    · cases e
  · cases e
theorem ok_starts : OkM K cm (l2 pStarts) (fun x xs H Q => ∃ a b, x = .str a ∧ xs = [.str b] ∧ Q (.bl (Txt.startswith a b)) H) := by
  refine OkM.of2 ?_
  intro mu Z H h w1 w2 w h' v1 v2 Q r q1 q2 e f
  unfold pStarts at e
  split at e
  · cases e; cases q1; cases q2
    exact ⟨_, _, rfl, rfl, f.here r rfl⟩
  · cases e
theorem ok_ends : OkM K cm (l2 pEnds) (fun x xs H Q => ∃ a b, x = .str a ∧ xs = [.str b] ∧ Q (.bl (Txt.endswith a b)) H) := by
  refine OkM.of2 ?_
  intro mu Z H h w1 w2 w h' v1 v2 Q r q1 q2 e f
  unfold pEnds at e
  split at e
  · cases e; cases q1; cases q2
    exact ⟨_, _, rfl, rfl, f.here r rfl⟩
  · cases e
theorem strsOf_ok : ∀ {ws : List W} {ys : List Str} {vs : List V}, strsOf ws = some ys → RWs K cm mu Z ws vs → vs = ys.map V.str
  | [], ys, vs, h, q => by
    cases h
    exact q
  | w :: ws, ys, vs, h, q => by
    cases w <;> first | (cases h; done) | skip
    rename_i x
    obtain ⟨r, e1, rfl⟩ := Option.map_eq_some_iff.mp (show (strsOf ws).map (x :: ·) = some ys from h)
    obtain ⟨v, vs', rfl, h1, h2⟩ := q
    cases h1
    rw [strsOf_ok e1 h2]
    rfl
def rJoin (K : PySem.W.Frag) : V → List V → Hp → VK → Prop := fun x xs H Q => ∃ a p, ∃ ys : List Str, x = .str a ∧ xs = [.ref p] ∧ (SqL K H p (ys.map V.str) ∨ SqT K H p (ys.map V.str)) ∧ (ys.map (·.length)).sum + ys.length * a.length ≤ 16777216 ∧ Q (.str (Txt.join a ys)) H
theorem ok_join : OkM K cm (l2 pJoin) (rJoin K) := by
  refine OkM.of2 ?_
  intro mu Z H h w1 w2 w h' v1 v2 Q r q1 q2 e f
  unfold pJoin at e
  split at e
  · rename_i a
    split at e
    · rename_i ys e1
      split at e
      · rename_i hl
        cases e; cases q1
        obtain ⟨ws, e2, e3⟩ := Option.bind_eq_some_iff.mp e1
        obtain ⟨p, vs, rfl, hp, rs⟩ := asL_ok r q2 e2
        have := strsOf_ok e3 rs
        subst this
        exact ⟨a, p, ys, rfl, rfl, .inl (SqL.of hp), by omega, f.here r rfl⟩
      · cases e
    · cases e
  · cases e

/-! ### repr -/
def rRepr (K : PySem.W.Frag) : List V → Hp → VK → Prop := fun xs H Q => ∃ x d, xs = [x] ∧ Dp K H x d ∧ d.showable = true ∧ d.hasDict = false ∧ d.depth ≤ 60 ∧ d.shown.length ≤ sizeLine ∧ Q (.str d.shown) H
theorem call_repr (gd : X.A.guards = some []) (hu : X.A.units + 65 < cLine) : CallR X (.builtin "repr") (rRepr X.K) := by
  intro pins s σ H xs us Q I r q
  obtain ⟨x, d, rfl, hd, hs, hn, hdp, hl, q⟩ := q
  obtain ⟨u, rfl, rx⟩ := vals1 r
  obtain ⟨as, rd⟩ := Dp.reads I d x u hd rx
  have plain : ∀ {t : Tok} {s' : Shared}, Inv X pins σ H s' → EP X pins σ Q (.str d.shown t) s' := fun {t s'} J => ⟨.str d.shown, H, J, ⟨t, rfl⟩, q⟩
  cases x with
  | ref a =>
    cases rx
    refine repr_of_reads' rd hs (PyData.noDict_hsm hn) gd (by omega) (fun _ _ e => e) (fun h' u tk hk => plain (I.kept hk)) hl
  | non =>
    cases hd
    cases rx
    have e : (PyData.none).shown = ("None" : Str) := PyData.shown_none
    rw [e] at plain
    exact PySem.P.repr_of_none (plain (I.tok _))
  | bl b =>
    cases hd
    cases rx
    have e : (PyData.bool b).shown = (if b then "True" else "False" : Str) := PyData.shown_bool b
    rw [e] at plain
    exact PySem.P.repr_of_bool (plain (I.tok _))
  | int i =>
    cases hd
    obtain ⟨t, rfl⟩ := rx
    have e : (PyData.int i).shown = ((toString i : String) : Str) := PyData.shown_int i
    rw [e] at plain
    refine PySem.P.repr_of_int ?_ (plain (I.tok _))
    simpa [PyData.showable] using hs
  | str x =>
    cases hd
    obtain ⟨t, rfl⟩ := rx
    have e : (PyData.str x).shown = reprText x := PyData.shown_str x
    rw [e] at plain hl
    exact PySem.P.repr_of_str (plain (I.tok _)) hl
  | _ => cases hd
mutual
theorem toP_noDict : ∀ a : W, (toP a).hasDict = false
  | .non => rfl
  | .bl _ => rfl
  | .int _ => rfl
  | .str _ => rfl
  | .tup ws => toPs_noDict ws
  | .lst ws => toPs_noDict ws
  | .dic _ _ => rfl
  | .obj _ _ => rfl
  | .ref _ => rfl
  | .scr _ => rfl
theorem toPs_noDict : ∀ a : List W, PyData.hasDictAll (toPs a) = false
  | [] => rfl
  | w :: ws => by
    show ((toP w).hasDict || PyData.hasDictAll (toPs ws)) = false
    rw [toP_noDict w, toPs_noDict ws]
    rfl
end
theorem ok_repr : OkL K cm (l1 pRepr) (rRepr K) := by
  refine OkL.of1 ?_
  intro mu Z H h w1 w h' v1 Q r q1 e f
  unfold pRepr at e
  split at e
  · rename_i hc
    rw [Bool.and_eq_true, Bool.and_eq_true, decide_eq_true_eq] at hc
    cases e
    exact ⟨v1, _, rfl, look_Dp r q1 hc.1.1, hc.1.2, toP_noDict _, toP_depth hc.1.1, Nat.le_trans hc.2 (by decide), f.here r rfl⟩
  · cases e

/-! ### sorted -/
theorem ltC {a b : Str} : ltCps a.cps.toList b.cps.toList = decide (a.cps.toList < b.cps.toList) := ltCps_eq _ _
theorem strLe_eq {a b : Str} : strLe a b = true ↔ ¬ b.cps.toList < a.cps.toList := by
  unfold strLe
  rw [ltC]
  simp
theorem strLe_trans (a b c : Str) (h1 : strLe a b = true) (h2 : strLe b c = true) : strLe a c = true := by
  rw [strLe_eq] at h1 h2 ⊢
  exact List.not_lt.mpr (List.le_trans (List.not_lt.mp h1) (List.not_lt.mp h2))
theorem strLe_total (a b : Str) : (strLe a b || strLe b a) = true := by
  rw [Bool.or_eq_true, strLe_eq, strLe_eq]
  rcases List.le_total a.cps.toList b.cps.toList with h | h
  · exact .inl (List.not_lt.mpr h)
  · exact .inr (List.not_lt.mpr h)
theorem strLe_anti {a b : Str} (h1 : strLe a b = true) (h2 : strLe b a = true) : a = b := by
  rw [strLe_eq] at h1 h2
  have := List.le_antisymm (List.not_lt.mp h1) (List.not_lt.mp h2)
  cases a; cases b
  simp at this
  rw [this]
theorem rising_pw : ∀ (x : Str) (l : List Str), risingS x l = true → (x :: l).Pairwise (fun a b => strLe a b = true)
  | x, [], _ => List.pairwise_singleton _ _
  | x, y :: l, h => by
    have h : (!ltCps y.cps.toList x.cps.toList && risingS y l) = true := h
    rw [Bool.and_eq_true] at h
    have ih := rising_pw y l h.2
    refine List.pairwise_cons.mpr ⟨fun z hz => ?_, ih⟩
    rcases List.mem_cons.mp hz with q | q
    · rw [q]; exact h.1
    · exact strLe_trans _ _ _ h.1 ((List.pairwise_cons.mp ih).1 z q)
theorem sorted_is {ys xs : List Str} (hp : ys.Perm xs) (hs : sortedS ys = true) : ys = srtS xs := by
  have pw : ys.Pairwise (fun a b => strLe a b = true) := by
    cases ys with
    | nil => exact .nil
    | cons x l => exact rising_pw x l hs
  have pw2 : (srtS xs).Pairwise (fun a b => strLe a b = true) := List.pairwise_mergeSort strLe_trans strLe_total xs
  exact List.Perm.eq_of_pairwise (fun a b _ _ h1 h2 => strLe_anti h1 h2) pw pw2 (hp.trans (List.mergeSort_perm xs strLe).symm)
theorem sortedI_is {ys xs : List Int} (hp : ys.Perm xs) (hs : ys.Pairwise (· ≤ ·)) : ys = srtI xs := by
  have pw : ys.Pairwise (fun a b => decide (a ≤ b) = true) := hs.imp fun h => decide_eq_true h
  have pw2 : (srtI xs).Pairwise (fun a b => decide (a ≤ b) = true) := List.pairwise_mergeSort (fun a b c h1 h2 => by
    rw [decide_eq_true_eq] at *
    omega) (fun a b => by
    rw [Bool.or_eq_true, decide_eq_true_eq, decide_eq_true_eq]
    omega) xs
  exact List.Perm.eq_of_pairwise (fun a b _ _ h1 h2 => by rw [decide_eq_true_eq] at h1 h2; omega) pw pw2 (hp.trans (List.mergeSort_perm xs _).symm)
theorem keyStrs_ok : ∀ {ks : List HK} {ys : List Str} {qs : List Key}, keyStrs ks = some ys → KeysK ks qs → qs = ys.map Sum.inr
  | [], ys, qs, h, q => by
    cases h
    cases q
    rfl
  | k :: ks, ys, qs, h, q => by
    cases k <;> first | (cases h; done) | skip
    rename_i x
    obtain ⟨r, e1, rfl⟩ := Option.map_eq_some_iff.mp (show (keyStrs ks).map (x :: ·) = some ys from h)
    cases q with
    | cons h1 h2 =>
      cases h1
      rw [keyStrs_ok e1 h2]
      rfl
def rSortD : List V → Hp → VK → Prop := fun xs H Q => ∃ (a : Addr) (kvs : List (Key × V)) (ks : List Str), xs = [.ref a] ∧ Rd H a (.dK kvs) ∧ kvs.map (·.1) = ks.map Sum.inr ∧ ks.length < 64 ∧ ∀ ys p, ys.Perm ks → sortedS ys = true → H p = none → Q (.ref p) (L2.upd H p (.lst (ys.map V.str)))
def rSortX (K : PySem.W.Frag) : List V → Hp → VK → Prop := fun xs H Q => (rSortedS K xs H Q ∨ rSortedI K xs H Q) ∨ rSortD xs H Q
theorem call_sortX (hc : X.calm = true) : CallR X (.builtin "sorted") (rSortX X.K) := (cr_sortedS.or cr_sortedI).or (call_sortedD hc)
theorem strs_rw : ∀ ys : List Str, RWs K cm mu Z (ys.map W.str) (ys.map V.str)
  | [] => rfl
  | x :: ys => ⟨_, _, rfl, rfl, strs_rw ys⟩
theorem zip_fst {α β : Type} : ∀ {ks : List α} {vs : List β}, ks.length = vs.length → (ks.zip vs).map (·.1) = ks
  | [], vs, _ => by simp
  | k :: ks, [], h => by simp at h
  | k :: ks, v :: vs, h => by
    rw [List.zip_cons_cons, List.map_cons, zip_fst (by simpa using h)]
theorem ok_sorted {c : Bool} : OkL K cm (l1 (pSorted c)) (rSortX K) := by
  refine OkL.of1 ?_
  intro mu Z H h w1 w h' v1 Q r q1 e f
  unfold pSorted at e
  split at e
  · rename_i ws e1
    obtain ⟨a, vs, rfl, ha, rs⟩ := asL_ok r q1 e1
    split at e
    · rename_i ys e2
      split at e
      · rename_i hl
        have := strsOf_ok e2 rs
        subst this
        refine .inl (.inl ⟨a, ys, rfl, SqL.of ha, hl, fun zs p hp hs hn => ?_⟩)
        rw [sorted_is hp hs]
        exact (mkL_ok r (strs_rw _) e f).2 p hn
      · cases e
    · split at e
      · rename_i ns e2
        have := intsOf_ok e2 rs
        subst this
        refine .inl (.inr ⟨a, ns, rfl, SqL.of ha, fun zs p hp hs hn => ?_⟩)
        rw [sortedI_is hp hs]
        exact (mkL_ok r (RWs.ints _) e f).2 p hn
      · cases e
  · split at e
    · rename_i kvs e1
      split at e
      · rename_i ys e2
        split at e
        · rename_i hl
          obtain ⟨a, rfl, _, q⟩ := asD_ok r q1 e1
          obtain ⟨ks, vs, h1, h2, h3, h4⟩ := (show ∃ ks vs, KeysK (kvs.map (·.1)) ks ∧ Rd H a (.dK (ks.zip vs)) ∧ ks.length = vs.length ∧ RWk K cm mu Z kvs vs from q)
          have := keyStrs_ok e2 h1
          refine .inr ⟨a, _, ys, rfl, h2, by rw [zip_fst h3, this], hl, fun zs p hp hs hn => ?_⟩
          rw [sorted_is hp hs]
          exact (mkL_ok r (strs_rw _) e f).2 p hn
        · cases e
      · cases e
    · cases e
theorem q_dic {c kd : Bool} {pos : Pos} : QE X cm (.Dict [] [] pos) (eDic c kd) := by
  have key : ∀ (σ : L2.St) (H : Hp) (Q : VK) (u : HO), (∀ {H : Hp} {p : Addr}, ZIn (L2.upd H p u) p u) → (∀ {Z H : Hp} {p : Addr}, Z p = none → CellR X.K cm Z (L2.upd H p u) p (.dic kd [])) → (∀ {mu Z} {p : Addr}, RW X.K cm mu (L2.upd Z p u) (.dic kd []) (.ref p)) →
      tO X.K cm (eDic c kd) σ H Q → ∀ p, H p = none → Q (.ref p) (L2.upd H p u) := by
    intro σ H Q u hz hc hr q p hp
    obtain ⟨mu, Z, ρ, h, w, h', rl, s, e, f⟩ := q
    have e : (if ([] : List (HK × W)).length ≤ lineW then (if norK ([] : List (HK × W)) then (if c then Res.ok (W.ref h.length, h ++ [.dic kd []]) else .ok (.dic kd [], h)) else .bad) else .bad) = .ok (w, h') := e
    rw [if_pos (show ([] : List (HK × W)).length ≤ lineW from Nat.zero_le _), if_pos (show norK ([] : List (HK × W)) = true from rfl)] at e
    cases c with
    | true =>
      cases e
      obtain ⟨r', x⟩ := rl.newC hp (hc (rl.zfree hp))
      refine f _ _ _ _ x r' ⟨p, rfl, ?_⟩
      rw [List.getElem?_append_right (Nat.le_of_eq rl.len), rl.len, Nat.sub_self]
      rfl
    | false =>
      cases e
      obtain ⟨r', x⟩ := rl.newZ hp hz
      exact f _ _ _ _ x r' hr
  cases kd with
  | false =>
    refine PE.wk pe_dnewK fun σ H Q q => key σ H Q (.dK []) (fun {H p} => .inl upd_same) (fun {Z H p} hz => ⟨hz, rfl, [], [], .nil, upd_same, rfl, rfl⟩) (fun {mu Z p} => ⟨p, rfl, [], [], .nil, upd_same, rfl, rfl⟩) q
  | true =>
    refine PE.wk pe_dnewT fun σ H Q q => key σ H Q (.dT []) (fun {H p} => .inl upd_same) (fun {Z H p} hz => ⟨hz, rfl, [], [], .nil, upd_same, rfl, rfl⟩) (fun {mu Z p} => ⟨p, rfl, [], [], .nil, upd_same, rfl, rfl⟩) q
end
end Ti


/-! Ti: sum(d.values()), a dict with int values. -/
namespace L2
open PySem PySem.Spec PyProof.Rows
section
variable {X : Cx} {o : Expr} {p pos apos mpos : Pos} {td : TE}
def tSumVals (td : TE) : TE := fun σ H Q => td σ H fun x H1 => ∃ (a : Addr) (kvs : List (Key × V)) (is : List Int), x = V.ref a ∧ Rd H1 a (.dK kvs) ∧ kvs.map (·.2) = is.map V.int ∧ Q (.int is.sum) H1
theorem preSum_get : ∀ {is : List Int}, preSum (fun i => is.getD i 0) is.length = is.sum
  | [] => rfl
  | n :: is => by
    have sh : ∀ (f : Nat → Int) (k : Nat), preSum f (k + 1) = f 0 + preSum (fun i => f (i + 1)) k := by
      intro f k
      induction k with
      | zero => simp [preSum]
      | succ k ih =>
        show preSum f (k + 1) + f (k + 1) = f 0 + (preSum (fun i => f (i + 1)) k + f (k + 1))
        rw [ih, Int.add_assoc]
    rw [List.length_cons, sh, List.sum_cons]
    have := @preSum_get is
    rw [← this]
    rfl
theorem pe_sumVals (hc : X.calm = true) (hg : Gl X "sum") (hm : X.mg "sum" = none) (hd : PE X o td) (hbase : attributeBase o "values" X.env (eval o X.env) = eval o X.env) (hline : (apos.endLine == mpos.line) = true)
    (hse : starEach [Expr.Call (.Attribute o "values" apos) [] [] mpos] X.env = [(false, eval (Expr.Call (.Attribute o "values" apos) [] [] mpos) X.env)] := by rfl) :
    PE X (.Call (.Name "sum" p) [.Call (.Attribute o "values" apos) [] [] mpos] [] pos) (tSumVals td) := by
  refine ⟨fun pins s σ H Q I h => ?_⟩
  refine wpAny_Call_Name_kw (ld_blt I hg hm (u := .builtin "sum") (by first | rfl | decide +kernel) ?_ (by first | decide +kernel | decide) (by first | decide +kernel | decide))
  rw [hse]
  refine PySem.callWith_builtin1 (wpAny_Call_method0_late hbase hline (thn (hd.run pins s σ H _ I h) fun v s1 ⟨x, H1, I1, r1, a, kvs, is, ex, ha, hv, q⟩ => ?_))
  subst ex
  obtain rfl : v = Value.ref a := r1
  obtain ⟨_, hsys, vs, rel, dof⟩ := dk_rd I1.hok ha
  obtain ⟨ep, dat⟩ := dof.dictAt
  have dat' := dat
  obtain ⟨ob, es, ho, ex, hdat, hko, hpr, hnd⟩ := dat'
  refine ⟨"dict", "dict.values", F.plainAttrs_dict, F.slot_dict_values, F.type_dict_values, ⟨ob, ho, ex.1⟩, fun b e => ?_, Calls.callWith_builtin rfl (PySem.evalArgs_none ?_)⟩
  · cases e
    exact ⟨ob, ho, ex.2.1⟩
  refine call_meetsIn F.slot_dict_values ⟨ob, ho, ex.1⟩ F.entry_dict_values (F.args_dict_values_1 _) (meets_dict_values (mixKind X.prog X.w) a hsys) ⟨⟨vs, dof⟩, ?_⟩
  have k1 : ∀ b u, s1.heap.get? b = some u → (s1.heap.push { cls := .type "dict_values", data := .fields #[.ref a] }).get? b = some u := fun b u e => Heap.get?_push_of_some _ e
  have dat1 : (s1.heap.push { cls := .type "dict_values", data := .fields #[.ref a] }).DictAt (mixKind X.prog X.w) a vs ep := dat.keep k1
  have hlv : vs.length = is.length := by
    have e1 := congrArg List.length hv
    rw [List.length_map, List.length_map] at e1
    rw [← e1]
    exact (KV.length rel).symm
  have hval : ∀ (i : Nat) (v : Value), (∃ k, vs[i]? = some (k, v)) → ∃ t, v = Value.int (is.getD i 0) t := fun i v ⟨k, hk⟩ => by
    obtain ⟨x, h1, h2⟩ := KV.at' rel hk
    have e1 : (kvs.map (·.2))[i]? = some x := by rw [List.getElem?_map, h1] <;> rfl
    rw [hv, List.getElem?_map] at e1
    obtain ⟨j, hj, e2⟩ := Option.map_eq_some_iff.mp e1
    subst e2
    obtain ⟨t, e3⟩ := h2
    refine ⟨t, ?_⟩
    rw [e3, List.getD_eq_getElem?_getD, hj] <;> rfl
  refine call_sum_walkG (wpAny_pyIter_values (v := s1.heap.objs.size) (d := a) ⟨_, Heap.get?_push_size _ rfl, rfl, rfl⟩ dat1 ?_)
  have hlt : a < s1.heap.objs.size := Heap.lt_size ho
  have hsz : (s1.heap.push { cls := .type "dict_values", data := .fields #[.ref a] }).objs.size = s1.heap.objs.size + 1 := Heap.size_push _ _
  refine ⟨_, _, _, _, _, _, fun i => is.getD i 0, rfl, Walks.dictValues (knd := mixKind X.prog X.w) (A := X.A.in1) (I.ok.hd hc) (s1.heap.push { cls := .type "dict_values", data := .fields #[.ref a] }).objs.size a (by rw [hsz]; exact Nat.ne_of_lt (Nat.lt_succ_of_lt hlt)) vs ep,
    ⟨⟨_, Heap.get?_push_size _ rfl, rfl, rfl⟩, dat1.keep fun b u e => Heap.get?_push_of_some _ e⟩, fun b hb => ?_, hval, fun h' tk t' hk => ?_⟩
  · show b < ((s1.heap.push _).push _).objs.size
    rw [Heap.size_push, Heap.size_push]
    rw [hsz] at hb
    rcases List.mem_cons.mp hb with e | hb
    · rw [e]
      exact Nat.lt_succ_self _
    · have e : b = a := List.mem_singleton.mp hb
      rw [e]
      exact Nat.lt_succ_of_lt (Nat.lt_succ_of_lt hlt)
  · have e : preSum (fun i => is.getD i 0) vs.length = is.sum := by rw [hlv]; exact preSum_get
    rw [e]
    refine ⟨.int _, H1, I1.kept (t' := tk) fun b u e => hk b u (fun hmem => ?_) (Heap.get?_push_of_some _ (k1 b u e)), ⟨t', rfl⟩, q⟩
    have e1 : b = (s1.heap.push { cls := .type "dict_values", data := .fields #[.ref a] }).objs.size := List.mem_singleton.mp hmem
    have e2 := Heap.lt_size e
    rw [hsz] at e1
    rw [e1] at e2
    exact absurd e2 (Nat.not_lt.mpr (Nat.le_succ _))
end
end L2
namespace Ti
open PySem PySem.Spec PyProof.Rows L2
/-- sum(x.values()) -/
def pSumV : F1 := fun x h => match asD h x with
  | some (false, kvs) => (ofO (intsOf (kvs.map (·.2)))).bind fun ns => .ok (.int ns.sum, h)
  | _ => .bad
section
variable {X : Cx} {K : PySem.W.Frag} {cm : Nat → Addr} {mu : List Addr} {Z : Hp}
theorem RWk.ws : ∀ {kvs : List (HK × W)} {vs : List V}, RWk K cm mu Z kvs vs → RWs K cm mu Z (kvs.map (·.2)) vs
  | [], _, h => h
  | (_, w) :: kvs, vs, h => by
    obtain ⟨v, r, rfl, q1, q2⟩ := (show ∃ v r, vs = v :: r ∧ RW K cm mu Z w v ∧ RWk K cm mu Z kvs r from h)
    exact ⟨v, r, rfl, q1, RWk.ws q2⟩
theorem q_sumV {o : Expr} {m : DE} {p pos apos mpos : Pos} (hc : X.calm = true) (hg : Gl X "sum") (hm : X.mg "sum" = none) (ho : QE X cm o m) (hbase : attributeBase o "values" X.env (eval o X.env) = eval o X.env) (hline : (apos.endLine == mpos.line) = true) :
    QE X cm (.Call (.Name "sum" p) [.Call (.Attribute o "values" apos) [] [] mpos] [] pos) (e1 pSumV m) := by
  refine PE.wk (pe_sumVals hc hg hm ho hbase hline) fun σ H Q q => ?_
  obtain ⟨mu, Z, ρ, h, w, h', rl, s, e, f⟩ := q
  obtain ⟨p, e1, e⟩ := Res.bind_eq_ok e
  refine ⟨mu, Z, ρ, h, p.1, p.2, rl, s, e1, fun mu1 Z1 H1 v1 x1 r1 w1 => ?_⟩
  obtain ⟨u, h2⟩ := p
  have e : pSumV u h2 = .ok (w, h') := e
  unfold pSumV at e
  split at e
  · rename_i kvs ed
    obtain ⟨ns, e2, e⟩ := Res.bind_eq_ok e
    cases e
    obtain ⟨a, rfl, _, q⟩ := asD_ok r1 w1 ed
    obtain ⟨ks, vs, _, hd, hl, rk⟩ := (show ∃ ks vs, KeysK (kvs.map (·.1)) ks ∧ Rd H1 a (.dK (ks.zip vs)) ∧ ks.length = vs.length ∧ RWk X.K cm mu1 Z1 kvs vs from q)
    have := intsOf_ok (ofO_eq_ok e2) rk.ws
    subst this
    exact ⟨a, _, ns, rfl, hd, List.map_snd_zip (Nat.le_of_eq hl.symm), f mu1 Z1 H1 _ x1 r1 rfl⟩
  · cases e
end
end Ti


/-! Ti: from the syntax to the combinators: expressions. -/
namespace Ti
open PySem PySem.Spec PyProof.Rows L2

/-- what a module's name stands for -/
inductive Ent where
  /-- a def: what it does, its parameters, how many defaults (None), whether it hands back cells -/
  | fn (f : Fn) (ps : List Str) (nd : Nat) (cells : Bool)
  | con (w : W)
  /-- x called by these keywords: what it does, how many parameters, where each parameter's value stands -/
  | kwd (x : Str) (f : Fn) (n : Nat) (ks : List Str) (ix : List Nat) (cells : Bool)
/-- names of defs and constants, built-in names that are free, slots -/
structure Cg where
  T : List (Str × Ent)
  B : List Str
  N : List Str
def ixOf : List Str → Str → Option Nat
  | [], _ => none
  | y :: ys, x => if y = x then some 0 else (ixOf ys x).map (· + 1)
theorem ixOf_ok : ∀ {l : List Str} {x : Str} {i : Nat}, ixOf l x = some i → l[i]? = some x
  | [], _, _, e => by cases e
  | y :: ys, x, i, e => by
    unfold ixOf at e
    split at e
    · rename_i h
      cases e
      rw [h]
      rfl
    · obtain ⟨j, e1, rfl⟩ := Option.map_eq_some_iff.mp e
      show (y :: ys)[j + 1]? = some x
      rw [List.getElem?_cons_succ]
      exact ixOf_ok e1
def cons? : W → Value → Prop := fun w u => ∃ v, RelV v u ∧ plainK w v = true
/-- the table is true of a context -/
def EntOk (X : Cx) (cm : Nat → Addr) (x : Str) : Ent → Prop
  | .con w => ∃ u v, X.mg x = some u ∧ RelV v u ∧ plainK w v = true
  | .fn f ps nd _ => ∃ fA fd k, X.mg x = some (.ref fA) ∧ PySem.W.keepIn X.K (.ref fA) = true ∧ FnG X.prog X.w X.K X.mg X.base CX0 k fA fd ps (spRun X.K cm ps.length f) ∧ Room k X.A ∧ Binds X.K fd ps [] ∧ (nd = 1 → Binds X.K fd ps [.none])
  | .kwd y f n ks ix _ => ∃ fA fd k ps, X.mg y = some (.ref fA) ∧ PySem.W.keepIn X.K (.ref fA) = true ∧ FnG X.prog X.w X.K X.mg X.base CX0 k fA fd ps (spRun X.K cm n f) ∧ Room k X.A ∧ KwB X.K fd ps ks (permU ix) (permV ix)
structure CxOk (X : Cx) (cm : Nat → Addr) (G : Cg) (sc : Scope) : Prop where
  N : X.N = G.N
  nd : G.N.Nodup
  calm : X.calm = true
  nev : X.xe = fun _ _ => False
  knd : X.env.scope.kind = .function
  loc : ∀ x, sc.names.lookup x = some .local → X.env.scope.names.lookup x = some .local
  cel : ∀ x, sc.names.lookup x = some .cell → X.env.scope.names.lookup x = some .cell ∧ X.fn x = true
  fre : ∀ x, sc.names.lookup x = some .free → X.env.scope.names.lookup x = some .cell ∨ X.env.scope.names.lookup x = some .free
  gl : ∀ x, sc.names.lookup x = some .globalImplicit → X.env.scope.names.lookup x = some .globalImplicit
  un : X.A.units + 65 < cLine
  gd : X.A.guards = some []
  tb : ∀ x en, G.T.lookup x = some en → EntOk X cm x en
  bl : ∀ x ∈ G.B, X.mg x = none
section
variable {X : Cx} {cm : Nat → Addr} {G : Cg} {sc : Scope}
theorem CxOk.hd (c : CxOk X cm G sc) : X.N.Nodup := by rw [c.N]; exact c.nd
theorem CxOk.pass (c : CxOk X cm G sc) : PassesOwn (model X.prog X.w) X.A X.env X.xe := by
  rw [c.nev]
  exact PassesOwn.never
theorem CxOk.g (c : CxOk X cm G sc) {x : Str} (e : sc.names.lookup x = some .globalImplicit) : Gl X x := c.gl x e
end
/-- one level of the compiler: expressions with a flag (0 a tree, 1 a cell, 2 a tree of cells, 3 a dict cell with tuple keys), tests -/
structure Co where
  E : Scope → Nat → Expr → Option DE
  T : Scope → Expr → Option DE
structure Co.Ok (c : Co) (cm : Nat → Addr) (G : Cg) : Prop where
  e : ∀ X sc fl x m, CxOk X cm G sc → c.E sc fl x = some m → QE X cm x m
  t : ∀ X sc x m, CxOk X cm G sc → c.T sc x = some m → QT X cm x m

/-! ### names, constants -/
def cName (G : Cg) (sc : Scope) (x : Str) : Option DE := if x = "__debug__" ∨ x = "__classdict__" then none else match sc.names.lookup x with
  | some .globalImplicit => (match G.T.lookup x with | some (.con w) => some (eK w) | _ => none)
  | some .local => (ixOf G.N x).map eV
  | some .cell => (ixOf G.N x).map eV
  | some .free => (ixOf G.N x).map eV
  | _ => none
theorem ne_beq {x y : Str} (h : ¬ x = y) : (x == y) = false := beq_eq_false_iff_ne.mpr h
theorem cName_ok {X : Cx} {cm : Nat → Addr} {G : Cg} {sc : Scope} {x : Str} {p : Pos} {m : DE} (k : CxOk X cm G sc) (e : cName G sc x = some m) : QE X cm (.Name x p) m := by
  unfold cName at e
  split at e
  · cases e
  · rename_i hn
    rw [not_or] at hn
    have var : ∀ {i : Nat}, ixOf G.N x = some i → Vis X.env.scope x → QE X cm (.Name x p) (eV i) := fun {i} e1 hv => q_var (by rw [k.N]; exact ixOf_ok e1) hv (ne_beq hn.1) (ne_beq hn.2)
    split at e
    · rename_i e1
      split at e
      · rename_i w e2
        cases e
        obtain ⟨u, v, hm, r, pk⟩ := k.tb x _ e2
        exact q_const (pe_glob (k.g e1) hm r (ne_beq hn.1)) pk
      · cases e
    · rename_i e1
      obtain ⟨i, e2, rfl⟩ := Option.map_eq_some_iff.mp e
      exact var e2 (.inl (k.loc x e1))
    · rename_i e1
      obtain ⟨i, e2, rfl⟩ := Option.map_eq_some_iff.mp e
      exact var e2 (.inr (.inl (k.cel x e1).1))
    · rename_i e1
      obtain ⟨i, e2, rfl⟩ := Option.map_eq_some_iff.mp e
      rcases k.fre x e1 with z | z
      · exact var e2 (.inr (.inl z))
      · exact var e2 (.inr (.inr z))
    · cases e
def cConst : Const → Option W
  | .none => some .non
  | .bool b => some (.bl b)
  | .int i => some (.int i)
  | .str x => some (.str x)
  | _ => none
theorem cConst_ok {X : Cx} {cm : Nat → Addr} {c : Const} {j : Nat} {p : Pos} {w : W} (e : cConst c = some w) : QE X cm (.Constant c j p) (eK w) := by
  cases c <;> first | (cases e; done) | skip
  · cases e; exact q_const pe_non rfl
  · cases e; exact q_const pe_bl (beq_self_eq_true _)
  · cases e; exact q_const pe_int (beq_self_eq_true _)
  · cases e; exact q_const pe_str (decide_eq_true rfl)

/-! ### operators -/
def binF (c : Bool) : Operator → Option F2
  | .Add => some (pAdd c)
  | .Sub => some pSub
  | .Mult => some (pMul c)
  | .Mod => some pMod
  | .FloorDiv => some pFdv
  | .Pow => some pPow
  | _ => none
theorem binF_ok {X : Cx} {cm : Nat → Addr} {c : Bool} {op : Operator} {g : F2} (e : binF c op = some g) : ∃ r, OpR X (binaryOp op) r ∧ Ok2 X.K cm g r := by
  cases op <;> first | (cases e; done) | skip
  · cases e; exact ⟨_, op_addT, ok_add⟩
  · cases e; exact ⟨_, op_sub, ok_sub⟩
  · cases e; exact ⟨_, op_mulT, ok_mul⟩
  · cases e; exact ⟨_, op_modN, ok_mod⟩
  · cases e; exact ⟨_, op_powW, ok_pow⟩
  · cases e; exact ⟨_, op_fdivW, ok_fdv⟩
def cmpF : CmpOp → Option F2
  | .Eq => some pEq
  | .NotEq => some pNe
  | .Lt => some pLt
  | .LtE => some pLe
  | .Gt => some pGt
  | .GtE => some pGe
  | .Is => some pIs
  | .IsNot => some pIsN
  | .In => some pIn
  | .NotIn => some pNi
theorem cmpF_ok {X : Cx} {cm : Nat → Addr} {op : CmpOp} {g : F2} (hu : X.A.units + 65 < cLine) (e : cmpF op = some g) : ∃ r, OpR X (compareOp op) r ∧ Ok2 X.K cm g r ∧ BoolG g := by
  cases op <;> cases e
  · exact ⟨_, op_eqD (by omega), ok_eq, bg_eq⟩
  · exact ⟨_, op_neD (by omega), ok_ne, bg_ne⟩
  · exact ⟨_, op_lt, ok_lt, bg_of lt_g⟩
  · exact ⟨_, op_le, ok_le, bg_of le_g⟩
  · exact ⟨_, op_gt, ok_gt, bg_of gt_g⟩
  · exact ⟨_, op_ge, ok_ge, bg_of ge_g⟩
  · exact ⟨_, op_isN, ok_is, bg_is⟩
  · exact ⟨_, op_notN, ok_isN, bg_isN⟩
  · exact ⟨_, op_inX hu, ok_in, bg_in⟩
  · exact ⟨_, op_niX hu, ok_ni, bg_ni⟩
def isSet : Expr → Bool
  | .Set _ _ _ => true
  | _ => false
theorem noSet {op : CmpOp} {b : Expr} (h : isSet b = false) : behindInMarks op b = false := by
  cases b <;> first | rfl | cases h
theorem noSetL {op op' : CmpOp} {b c : Expr} (h : isSet c = false) : lastMarks [op, op'] [b, c] = false := by
  show behindInMarks op' c = false
  exact noSet h

/-! ### argument lists -/
def isStar : Expr → Bool
  | .Starred _ _ => true
  | _ => false
theorem starE {e : Expr} {es : List Expr} {env : PySem.Env} (h : isStar e = false) : starEach (e :: es) env = (false, eval e env) :: starEach es env := by
  cases e <;> first | rfl | cases h
def cArgs (c : Co) (sc : Scope) : List Nat → List Expr → Option (List DE)
  | _, [] => some []
  | fs, e :: es => if isStar e then none else match c.E sc (fs.headD 0) e, cArgs c sc fs.tail es with
    | some m, some ms => some (m :: ms)
    | _, _ => none
section
variable {c : Co} {X : Cx} {cm : Nat → Addr} {G : Cg} {sc : Scope}
theorem cArgs_ok (ok : c.Ok cm G) (k : CxOk X cm G sc) : ∀ {fs : List Nat} {es : List Expr} {ms : List DE}, cArgs c sc fs es = some ms → QL X cm es ms ∧ (∀ pos, (backTo pos (starEach es X.env)).any (·.1) = false) ∧ ∀ e ∈ es, isStar e = false
  | fs, [], ms, e => by
    have e : some [] = some ms := by
      cases fs <;> exact e
    cases e
    exact ⟨ql_nil, fun _ => rfl, fun _ h => nomatch h⟩
  | fs, x :: xs, ms, e => by
    unfold cArgs at e
    split at e
    · cases e
    · rename_i hs
      have hs : isStar x = false := Bool.eq_false_iff.mpr hs
      split at e
      · rename_i m ms' e1 e2
        cases e
        obtain ⟨h1, h2, h3⟩ := cArgs_ok ok k e2
        refine ⟨ql_cons (ok.e X sc _ x m k e1) h1 (starE hs), fun pos => ?_, fun y hy => ?_⟩
        · rw [starE hs]
          show (false || (backTo pos (starEach xs X.env)).any (·.1)) = false
          rw [h2 pos]
          rfl
        · rcases List.mem_cons.mp hy with z | z
          · rw [z]; exact hs
          · exact h3 y z
      · cases e
theorem cArgs_all {es : List Expr} {env : PySem.Env} (h : ∀ e ∈ es, isStar e = false) (pos : Pos) : (backTo pos (starEach es env)).all (fun x => !x.1) = true := by
  induction es with
  | nil => rfl
  | cons e es ih =>
    rw [starE (h e List.mem_cons_self)]
    show (true && (backTo pos (starEach es env)).all _) = true
    rw [ih fun y hy => h y (List.mem_cons_of_mem _ hy)]
    rfl

/-! ### calls -/
/-- built-in functions and types by their names -/
def bltF (cl : Bool) (x : Str) (n : Nat) : Option Fn :=
  if x = "len" then (if n = 1 then some (l1 pLen) else none)
  else if x = "int" then (if n = 1 then some (l1 pInt) else none)
  else if x = "str" then (if n = 1 then some (l1 pStr) else none)
  else if x = "max" then (if n = 2 then some (l2 pMax) else none)
  else if x = "min" then (if n = 2 then some (l2 pMin) else none)
  else if x = "sum" then (if n = 1 then some (l1 pSum) else none)
  else if x = "list" then (if n = 1 then some (l1 (pList cl)) else none)
  else if x = "repr" then (if n = 1 then some (l1 pRepr) else none)
  else if x = "sorted" then (if n = 1 then some (l1 (pSorted cl)) else none)
  else none
theorem bltF_ok {cl : Bool} {x : Str} {n : Nat} {g : Fn} (k : CxOk X cm G sc) (e : bltF cl x n = some g) : x ≠ "__name__" ∧ (x == ("__debug__" : Str)) = false ∧
    ((∃ id r, bootBuiltins x = some (.builtin id) ∧ CallR X (.builtin id) r ∧ OkL X.K cm g r) ∨ ∃ T r, bootBuiltins x = some (.type T) ∧ CallR X (.type T) r ∧ OkL X.K cm g r) := by
  unfold bltF at e
  split at e
  · rename_i h; subst h
    split at e
    · cases e
      exact ⟨by decide +kernel, by decide +kernel, .inl ⟨"len", _, by decide +kernel, call_lenX, OkL.of1 ok_len⟩⟩
    · cases e
  split at e
  · rename_i h; subst h
    split at e
    · cases e
      exact ⟨by decide +kernel, by decide +kernel, .inr ⟨"int", _, by decide +kernel, call_intX, OkL.of1 ok_int⟩⟩
    · cases e
  split at e
  · rename_i h; subst h
    split at e
    · cases e
      exact ⟨by decide +kernel, by decide +kernel, .inr ⟨"str", _, by decide +kernel, call_str_int, OkL.of1 ok_str⟩⟩
    · cases e
  split at e
  · rename_i h; subst h
    split at e
    · cases e
      exact ⟨by decide +kernel, by decide +kernel, .inl ⟨"max", _, by decide +kernel, call_max2 k.calm, OkL.of2 ok_max⟩⟩
    · cases e
  split at e
  · rename_i h; subst h
    split at e
    · cases e
      exact ⟨by decide +kernel, by decide +kernel, .inl ⟨"min", _, by decide +kernel, call_min2 k.calm, OkL.of2 ok_min⟩⟩
    · cases e
  split at e
  · rename_i h; subst h
    split at e
    · cases e
      exact ⟨by decide +kernel, by decide +kernel, .inl ⟨"sum", _, by decide +kernel, cr_sum k.calm, OkL.of1 ok_sum⟩⟩
    · cases e
  split at e
  · rename_i h; subst h
    split at e
    · cases e
      exact ⟨by decide +kernel, by decide +kernel, .inr ⟨"list", _, by decide +kernel, call_list_of, OkL.of1 ok_list⟩⟩
    · cases e
  split at e
  · rename_i h; subst h
    split at e
    · cases e
      exact ⟨by decide +kernel, by decide +kernel, .inl ⟨"repr", _, by decide +kernel, call_repr k.gd (by have := k.un; omega), ok_repr⟩⟩
    · cases e
  split at e
  · rename_i h; subst h
    split at e
    · cases e
      exact ⟨by decide +kernel, by decide +kernel, .inl ⟨"sorted", _, by decide +kernel, call_sortX k.calm, ok_sorted⟩⟩
    · cases e
  · cases e
def kdOf (x : Str) : Option Kd :=
  if x = "int" then some .int else if x = "bool" then some .bool else if x = "str" then some .str else if x = "list" then some .list else if x = "tuple" then some .tuple else if x = "dict" then some .dict else none
theorem kdOf_ok {x : Str} {t : Kd} (e : kdOf x = some t) : t ≠ .non ∧ bootBuiltins x = some (.type t.name) ∧ x ≠ "__name__" ∧ (x == ("__debug__" : Str)) = false := by
  unfold kdOf at e
  split at e
  · rename_i h; subst h; cases e; exact ⟨by decide, by decide +kernel, by decide +kernel, by decide +kernel⟩
  split at e
  · rename_i h; subst h; cases e; exact ⟨by decide, by decide +kernel, by decide +kernel, by decide +kernel⟩
  split at e
  · rename_i h; subst h; cases e; exact ⟨by decide, by decide +kernel, by decide +kernel, by decide +kernel⟩
  split at e
  · rename_i h; subst h; cases e; exact ⟨by decide, by decide +kernel, by decide +kernel, by decide +kernel⟩
  split at e
  · rename_i h; subst h; cases e; exact ⟨by decide, by decide +kernel, by decide +kernel, by decide +kernel⟩
  split at e
  · rename_i h; subst h; cases e; exact ⟨by decide, by decide +kernel, by decide +kernel, by decide +kernel⟩
  · cases e
def free? (G : Cg) (sc : Scope) (x : Str) : Bool := decide (sc.names.lookup x = some .globalImplicit) && decide (x ∈ G.B)
theorem free_ok {x : Str} (k : CxOk X cm G sc) (e : free? G sc x = true) : Gl X x ∧ X.mg x = none := by
  unfold free? at e
  rw [Bool.and_eq_true, decide_eq_true_eq, decide_eq_true_eq] at e
  exact ⟨k.g e.1, k.bl x e.2⟩
def cIsi (c : Co) (G : Cg) (sc : Scope) (x : Str) : List Expr → Option DE
  | [e, .Name U _] => if x = "isinstance" ∧ free? G sc x = true ∧ free? G sc U = true ∧ isStar e = false then (match kdOf U, c.E sc 0 e with
      | some t, some m => some (e1 (pIsi t) m)
      | _, _ => none) else none
  | _ => none
theorem cIsi_ok (ok : c.Ok cm G) (k : CxOk X cm G sc) {x : Str} {es : List Expr} {m : DE} {p pos : Pos} (e : cIsi c G sc x es = some m) : QE X cm (.Call (.Name x p) es [] pos) m := by
  unfold cIsi at e
  split at e
  · rename_i a U p2
    split at e
    · rename_i h
      obtain ⟨rfl, h1, h2, h3⟩ := h
      split at e
      · rename_i t m' e1 e2
        cases e
        obtain ⟨k1, k2, k3, k4⟩ := kdOf_ok e1
        obtain ⟨g1, g2⟩ := free_ok k h1
        obtain ⟨g3, g4⟩ := free_ok k h2
        exact q_isi k1 g1 g2 (by decide +kernel) (ok.e X sc 0 a m' k e2) (by decide +kernel) (by decide +kernel) g3 g4 k2 k3 k4 (starE h3)
      · cases e
    · cases e
  · cases e
/-- a call of a built-in function or of a def -/
def cCall (c : Co) (G : Cg) (sc : Scope) (fl : Nat) (x : Str) (es : List Expr) : Option DE :=
  if decide (sc.names.lookup x = some .globalImplicit) = true then
    (match cArgs c sc [] es with
    | some ms => if decide (x ∈ G.B) = true then (match es with
        | [] => none
        | _ :: _ => (bltF (fl == 1) x es.length).map fun g => eF g ms)
      else if x = "__debug__" then none else match G.T.lookup x with
        | some (.fn f ps nd cells) => if es.length = ps.length then (let m := eCall f ps.length [] ms; some (if cells && fl == 0 then eTree m else m))
          else if nd = 1 ∧ es.length + 1 = ps.length then (let m := eCall f ps.length [.non] ms; some (if cells && fl == 0 then eTree m else m)) else none
        | _ => none
    | none => none)
  else none
theorem cCall_ok (ok : c.Ok cm G) (k : CxOk X cm G sc) {fl : Nat} {x : Str} {es : List Expr} {m : DE} {p pos : Pos} (e : cCall c G sc fl x es = some m) : QE X cm (.Call (.Name x p) es [] pos) m := by
  unfold cCall at e
  split at e
  · rename_i hg
    have hg := of_decide_eq_true hg
    split at e
    · rename_i ms ea
      obtain ⟨a1, a2, a3⟩ := cArgs_ok ok k ea
      split at e
      · rename_i hB
        have hB := k.bl x (of_decide_eq_true hB)
        cases es with
        | nil => cases e
        | cons y ys =>
          obtain ⟨g, e1, rfl⟩ := Option.map_eq_some_iff.mp e
          have hst : starEach (y :: ys) X.env = (false, eval y X.env) :: starEach ys X.env := starE (a3 y List.mem_cons_self)
          have hpl : (backTo pos (starEach ys X.env)).any (·.1) = false := by
            have := a2 pos
            rw [hst] at this
            exact (Bool.or_eq_false_iff.mp (show (false || (backTo pos (starEach ys X.env)).any (·.1)) = false from this)).2
          obtain ⟨n1, n2, h | h⟩ := bltF_ok k e1
          · obtain ⟨id, r, hv, hc, hk⟩ := h
            exact q_callB hc hk (k.g hg) hB hv a1 n1 n2 hst hpl
          · obtain ⟨T, r, hv, hc, hk⟩ := h
            exact q_callTy hc hk (k.g hg) hB hv a1 n1 n2 hst hpl
      · split at e
        · cases e
        · rename_i hdb
          have wrap : ∀ {m0 : DE} {b : Bool}, QE X cm (.Call (.Name x p) es [] pos) m0 → QE X cm (.Call (.Name x p) es [] pos) (if b = true then eTree m0 else m0) := fun {m0 b} h => by
            cases b with
            | true => exact q_tree h
            | false => exact h
          split at e
          · rename_i f ps nd cells eT
            obtain ⟨fA, fd, lv, hm, hk, F, hr, b0, b1⟩ := k.tb x _ eT
            have go : ∀ {ds : List Value} {dvs : List V} {dw : List W}, Binds X.K fd ps ds → Vals dvs ds → (∀ mu Z, RWs X.K cm mu Z dw dvs) → QE X cm (.Call (.Name x p) es [] pos) (eCall f ps.length dw ms) := fun {ds dvs dw} hb hv hd => by
              cases es with
              | nil =>
                have : ms = [] := by
                  have ea : some [] = some ms := ea
                  cases ea
                  rfl
                subst this
                exact q_def0 F hr k.gd (k.g hg) hm hk hb hv hd (ne_beq hdb)
              | cons y ys =>
                have hst : starEach (y :: ys) X.env = (false, eval y X.env) :: starEach ys X.env := starE (a3 y List.mem_cons_self)
                have hpl : (backTo pos (starEach ys X.env)).any (·.1) = false := by
                  have := a2 pos
                  rw [hst] at this
                  exact (Bool.or_eq_false_iff.mp (show (false || (backTo pos (starEach ys X.env)).any (·.1)) = false from this)).2
                exact q_def F hr k.gd (k.g hg) hm hk hb hv hd a1 (ne_beq hdb) hst hpl
            split at e
            · cases e
              exact wrap (go b0 .nil fun _ _ => rfl)
            · split at e
              · rename_i hn
                cases e
                exact wrap (go (b1 hn.1) (.cons (a := V.non) rfl .nil) fun _ _ => ⟨.non, [], rfl, rfl, rfl⟩)
              · cases e
          · cases e
    · cases e
  · cases e

/-! ### calls by keywords -/
def kwNames : List Keyword → Option (List Str)
  | [] => some []
  | ⟨some x, _, _⟩ :: r => (kwNames r).map (x :: ·)
  | ⟨none, _, _⟩ :: _ => none
theorem kwNames_ok {env : PySem.Env} {pos : Pos} : ∀ {kws : List Keyword} {ks : List Str}, kwNames kws = some ks →
    (backToKw pos (keywordEach kws env)).all (·.1.isSome) = true ∧ (backToKw pos (keywordEach kws env)).filterMap (·.1) = ks ∧ (backToKw pos (keywordEach kws env)).any (·.1.isNone) = false
  | [], ks, h => by
    cases h
    exact ⟨rfl, rfl, rfl⟩
  | ⟨some x, v, q⟩ :: r, ks, h => by
    obtain ⟨ks', e1, rfl⟩ := Option.map_eq_some_iff.mp (show (kwNames r).map (x :: ·) = some ks from h)
    obtain ⟨h1, h2, h3⟩ := kwNames_ok (env := env) (pos := pos) e1
    refine ⟨?_, ?_, ?_⟩
    · show (true && (backToKw pos (keywordEach r env)).all (·.1.isSome)) = true
      rw [h1]; rfl
    · show x :: (backToKw pos (keywordEach r env)).filterMap (·.1) = x :: ks'
      rw [h2]
    · show (false || (backToKw pos (keywordEach r env)).any (·.1.isNone)) = false
      rw [h3]; rfl
  | ⟨none, v, q⟩ :: r, ks, h => by cases h
def kwKey (x : Str) (ks : List Str) : Str := ks.foldl (fun a k => a ++ "," ++ k) x
def cKwArgs (c : Co) (sc : Scope) : List Keyword → Option (List DE)
  | [] => some []
  | ⟨_, e, _⟩ :: r => (match c.E sc 0 e, cKwArgs c sc r with
    | some m, some ms => some (m :: ms)
    | _, _ => none)
theorem cKwArgs_ok (ok : c.Ok cm G) (k : CxOk X cm G sc) : ∀ {kws : List Keyword} {ms : List DE}, cKwArgs c sc kws = some ms → PK X kws (tOL X.K cm ms)
  | [], ms, h => by
    cases h
    exact pk_nilQ
  | ⟨nm, e, q⟩ :: r, ms, h => by
    unfold cKwArgs at h
    split at h
    · rename_i m ms' e1 e2
      cases h
      exact pk_consQ (ok.e X sc 0 e m k e1) (cKwArgs_ok ok k e2)
    · cases h
def cCallK (c : Co) (G : Cg) (sc : Scope) (fl : Nat) (x : Str) (kws : List Keyword) : Option DE :=
  if decide (sc.names.lookup x = some .globalImplicit) = true ∧ ¬ x = "__debug__" then
    (match kwNames kws, cKwArgs c sc kws with
    | some ks, some ms => (match G.T.lookup (kwKey x ks) with
      | some (.kwd y f n ks' ix cells) => if y = x ∧ ks' = ks then (let m := eKw f n ks.length ix ms; some (if cells && fl == 0 then eTree m else m)) else none
      | _ => none)
    | _, _ => none)
  else none
theorem cCallK_ok (ok : c.Ok cm G) (k : CxOk X cm G sc) {fl : Nat} {x : Str} {kws : List Keyword} {m : DE} {p pos : Pos} (e : cCallK c G sc fl x kws = some m) : QE X cm (.Call (.Name x p) [] kws pos) m := by
  unfold cCallK at e
  split at e
  · rename_i hg
    split at e
    · rename_i ks ms e1 e2
      split at e
      · rename_i y f n ks' ix cells eT
        split at e
        · rename_i hy
          obtain ⟨rfl, rfl⟩ := hy
          cases e
          obtain ⟨fA, fd, lv, ps, hm, hk, F, hr, hb⟩ := k.tb _ _ eT
          have q := q_kw (p := p) (pos := pos) F hr k.gd (k.g (of_decide_eq_true hg.1)) hm hk hb (cKwArgs_ok ok k e2) (ne_beq hg.2) (fun pos => (kwNames_ok (env := X.env) (pos := pos) e1).1) (fun pos => (kwNames_ok (env := X.env) (pos := pos) e1).2.1) (fun pos => (kwNames_ok (env := X.env) (pos := pos) e1).2.2)
          cases hb : (cells && fl == 0) with
          | true => exact q_tree q
          | false => exact q
        · cases e
      · cases e
    · cases e
  · cases e

/-! ### methods -/
def isSup : Expr → Bool
  | .Call (.Name _ _) [] [] _ => true
  | _ => false
theorem noSup {o : Expr} {a : Str} {env : PySem.Env} {wh : Sem Value} (h : isSup o = false) : attributeBase o a env wh = wh := by
  unfold attributeBase
  split
  · cases h
  · rfl
def metF (x : Str) (n : Nat) : Option (MTy × Fn) :=
  if x = "append" then (if n = 1 then some (.list, l2 pAppend) else none)
  else if x = "lstrip" then (if n = 1 then some (.str, l2 pLstrip) else none)
  else if x = "rstrip" then (if n = 1 then some (.str, l2 pRstrip) else none)
  else if x = "insert" then (if n = 2 then some (.list, l3 pInsert) else none)
  else if x = "index" then (if n = 1 then some (.list, l2 pIndex) else none)
  else if x = "startswith" then (if n = 1 then some (.str, l2 pStarts) else none)
  else if x = "endswith" then (if n = 1 then some (.str, l2 pEnds) else none)
  else if x = "join" then (if n = 1 then some (.str, l2 pJoin) else none)
  else none
theorem metF_ok {x : Str} {n : Nat} {t : MTy} {g : Fn} (hu : X.A.units + 65 < cLine) (e : metF x n = some (t, g)) : n ≠ 0 ∧ n < 20 ∧ ∃ id r, PlainAttrs (mtName t) ∧ Slot (mtName t) x id ∧ typeOf (.builtin id) = pure (.type "method_descriptor") ∧ MtR X id r ∧ OkM X.K cm g r := by
  unfold metF at e
  split at e
  · rename_i h; subst h
    split at e
    · rename_i h; subst h
      cases e
      exact ⟨by decide, by decide, _, _, PySem.F.plainAttrs_list, PySem.F.slot_list_append, PySem.F.type_list_append, mt_append, OkM.of2 ok_append⟩
    · cases e
  split at e
  · rename_i h; subst h
    split at e
    · rename_i h; subst h
      cases e
      exact ⟨by decide, by decide, _, _, PySem.F.plainAttrs_str, PySem.F.slot_str_lstrip, PySem.F.type_str_lstrip, mt_lstripChars, OkM.of2 ok_lstrip⟩
    · cases e
  split at e
  · rename_i h; subst h
    split at e
    · rename_i h; subst h
      cases e
      exact ⟨by decide, by decide, _, _, PySem.F.plainAttrs_str, PySem.F.slot_str_rstrip, PySem.F.type_str_rstrip, mt_rstripChars, OkM.of2 ok_rstrip⟩
    · cases e
  split at e
  · rename_i h; subst h
    split at e
    · rename_i h; subst h
      cases e
      exact ⟨by decide, by decide, _, _, PySem.F.plainAttrs_list, PySem.F.slot_list_insert, PySem.F.type_list_insert, mt_insert, ok_insert⟩
    · cases e
  split at e
  · rename_i h; subst h
    split at e
    · rename_i h; subst h
      cases e
      exact ⟨by decide, by decide, _, _, PySem.F.plainAttrs_list, PySem.F.slot_list_index, PySem.F.type_list_index, mt_indexD hu, ok_index⟩
    · cases e
  split at e
  · rename_i h; subst h
    split at e
    · rename_i h; subst h
      cases e
      exact ⟨by decide, by decide, _, _, PySem.F.plainAttrs_str, PySem.F.slot_str_startswith, PySem.F.type_str_startswith, mt_startswith, ok_starts⟩
    · cases e
  split at e
  · rename_i h; subst h
    split at e
    · rename_i h; subst h
      cases e
      exact ⟨by decide, by decide, _, _, PySem.F.plainAttrs_str, PySem.F.slot_str_endswith, PySem.F.type_str_endswith, mt_endswith, ok_ends⟩
    · cases e
  split at e
  · rename_i h; subst h
    split at e
    · rename_i h; subst h
      cases e
      exact ⟨by decide, by decide, _, _, PySem.F.plainAttrs_str, PySem.F.slot_str_join, PySem.F.type_str_join, mt_join, ok_join⟩
    · cases e
  · cases e
/-- methods without arguments -/
def metF0 (x : Str) : Option (MTy × Fn) :=
  if x = "pop" then some (.list, l1 pPop0)
  else if x = "isdigit" then some (.str, l1 pIsdigit)
  else if x = "upper" then some (.str, l1 pUpper)
  else none
theorem metF0_ok {x : Str} {t : MTy} {g : Fn} (e : metF0 x = some (t, g)) : ∃ id r, PlainAttrs (mtName t) ∧ Slot (mtName t) x id ∧ typeOf (.builtin id) = pure (.type "method_descriptor") ∧ MtR X id r ∧ OkM X.K cm g r := by
  unfold metF0 at e
  split at e
  · rename_i h; subst h; cases e
    exact ⟨_, _, PySem.F.plainAttrs_list, PySem.F.slot_list_pop, PySem.F.type_list_pop, mt_pop, ok_pop0⟩
  split at e
  · rename_i h; subst h; cases e
    exact ⟨_, _, PySem.F.plainAttrs_str, PySem.F.slot_str_isdigit, PySem.F.type_str_isdigit, mt_isdigit, ok_isdigit⟩
  split at e
  · rename_i h; subst h; cases e
    exact ⟨_, _, PySem.F.plainAttrs_str, PySem.F.slot_str_upper, PySem.F.type_str_upper, mt_upper, ok_upper⟩
  · cases e
def cMeth (c : Co) (sc : Scope) (o : Expr) (x : Str) (same : Bool) (es : List Expr) : Option DE :=
  if isSup o = true ∨ same = false then none else match c.E sc 0 o with
    | some mo => if x = "bit_length" then (match es with
        | [] => some (e1 pBits mo)
        | _ :: _ => none)
      else if x = "get" then (match es with
        | [a, b] => if isStar a = true ∨ isStar b = true then none else (match c.E sc 0 a, c.E sc 0 b with
          | some ma, some mb => some (eGet mo ma mb)
          | _, _ => none)
        | _ => none)
      else if es.isEmpty = true then (metF0 x).map fun p => eM p.1 p.2 mo []
      else (match metF x es.length, cArgs c sc [] es with
        | some (t, g), some ms => some (eM t g mo ms)
        | _, _ => none)
    | none => none
theorem cMeth_ok (ok : c.Ok cm G) (k : CxOk X cm G sc) {o : Expr} {x : Str} {es : List Expr} {m : DE} {apos pos : Pos} (e : cMeth c sc o x (apos.endLine == pos.line) es = some m) : QE X cm (.Call (.Attribute o x apos) es [] pos) m := by
  unfold cMeth at e
  split at e
  · cases e
  · rename_i hn
    rw [not_or] at hn
    have h1 : isSup o = false := Bool.eq_false_iff.mpr hn.1
    have h2 : (apos.endLine == pos.line) = true := by
      cases q : (apos.endLine == pos.line) with
      | true => rfl
      | false => exact absurd q hn.2
    split at e
    · rename_i mo eo
      have qo := ok.e X sc 0 o mo k eo
      split at e
      · rename_i hx
        subst hx
        cases es with
        | nil =>
          cases e
          exact q_bits qo (noSup h1) h2
        | cons _ _ => cases e
      split at e
      · rename_i hx
        subst hx
        split at e
        · rename_i a b
          split at e
          · cases e
          · rename_i hst
            rw [not_or] at hst
            have sa : isStar a = false := Bool.eq_false_iff.mpr hst.1
            have sb : isStar b = false := Bool.eq_false_iff.mpr hst.2
            split at e
            · rename_i ma mb ea eb
              cases e
              have tr : starEach [a, b] X.env = [(false, eval a X.env), (false, eval b X.env)] := by
                rw [starE sa, starE sb]
                rfl
              refine q_get2 (by have := k.un; omega) qo (ok.e X sc 0 a ma k ea) (ok.e X sc 0 b mb k eb) ⟨noSup h1, ?_, h2, ?_⟩
              · rw [tr]
                rfl
              · rw [tr]
                rfl
            · cases e
        · cases e
      split at e
      · rename_i hem
        obtain ⟨⟨t, g⟩, e1, rfl⟩ := Option.map_eq_some_iff.mp e
        obtain ⟨id, r, pa, sl, ty, hm, hk⟩ := metF0_ok (X := X) (cm := cm) e1
        cases es with
        | nil => exact q_m0 pa sl ty hm hk qo (noSup h1) h2
        | cons _ _ => cases hem
      · split at e
        · rename_i t g ms e1 e2
          cases e
          obtain ⟨n0, n1, id, r, pa, sl, ty, hm, hk⟩ := metF_ok (X := X) (cm := cm) k.un e1
          obtain ⟨a1, a2, a3⟩ := cArgs_ok ok k e2
          cases es with
          | nil => exact absurd rfl n0
          | cons y ys =>
            have hst : starEach (y :: ys) X.env = (false, eval y X.env) :: starEach ys X.env := starE (a3 y List.mem_cons_self)
            have hpl : (backTo pos (starEach ys X.env)).any (·.1) = false := by
              have := a2 pos
              rw [hst] at this
              exact (Bool.or_eq_false_iff.mp (show (false || (backTo pos (starEach ys X.env)).any (·.1)) = false from this)).2
            refine q_m pa sl ty hm hk qo a1 (noSup h1) ?_ h2 hst hpl
            rw [cArgs_all a3 pos]
            show (true && true && decide ((y :: ys).length + 0 + 0 < 30)) = true
            rw [decide_eq_true (show (y :: ys).length + 0 + 0 < 30 by omega)]
            rfl
        · cases e
    · cases e
/-- sum(o.values()) -/
def cSumV (c : Co) (G : Cg) (sc : Scope) (x : Str) : List Expr → Option DE
  | [.Call (.Attribute o y apos) [] [] mpos] => if x = "sum" ∧ y = "values" ∧ free? G sc x = true ∧ isSup o = false ∧ (apos.endLine == mpos.line) = true then (c.E sc 0 o).map (e1 pSumV) else none
  | _ => none
theorem cSumV_ok (ok : c.Ok cm G) (k : CxOk X cm G sc) {x : Str} {es : List Expr} {m : DE} {p pos : Pos} (e : cSumV c G sc x es = some m) : QE X cm (.Call (.Name x p) es [] pos) m := by
  unfold cSumV at e
  split at e
  · split at e
    · rename_i h
      obtain ⟨rfl, rfl, h1, h2, h3⟩ := h
      obtain ⟨mo, e1, rfl⟩ := Option.map_eq_some_iff.mp e
      obtain ⟨g1, g2⟩ := free_ok k h1
      exact q_sumV k.calm g1 g2 (ok.e X sc 0 _ mo k e1) (noSup h2) h3
    · cases e
  · cases e
end
end Ti


/-! Ti: from the syntax to the combinators: the whole. -/
namespace Ti
open PySem PySem.Spec PyProof.Rows L2
section
variable {c : Co} {X : Cx} {cm : Nat → Addr} {G : Cg} {sc : Scope}

/-! ### subscripts -/
def isSlice : Expr → Bool
  | .Slice _ _ _ _ => true
  | _ => false
theorem plainIx {b : Expr} (h : isSlice b = false) : PlainIx b := by
  intro o i
  cases b <;> first | rfl | cases h
def cPart (c : Co) (sc : Scope) : Option Expr → Option (Bool × DE)
  | none => some (false, eK .non)
  | some e => (c.E sc 0 e).map fun m => (true, m)
theorem cPart_ok (ok : c.Ok cm G) (k : CxOk X cm G sc) {o : Option Expr} {b : Bool} {m : DE} (e : cPart c sc o = some (b, m)) : QO X cm o b m := by
  cases o with
  | none => cases e; exact .none
  | some x =>
    obtain ⟨m', e1, e2⟩ := Option.map_eq_some_iff.mp e
    cases e2
    exact .some (ok.e X sc 0 x m k e1)
def cSub (c : Co) (sc : Scope) (fl : Nat) (a : Expr) : Expr → Option DE
  | .Slice lo hi none _ => (match c.E sc 0 a, cPart c sc lo, cPart c sc hi with
    | some ma, some (bl, ml), some (bh, mh) => some (e3 (pSl (fl == 1) bl bh) ma ml mh)
    | _, _, _ => none)
  | .Slice none none (some (.UnaryOp .USub (.Constant (.int 1) _ _) _)) _ => (c.E sc 0 a).map (e1 (pRev (fl == 1)))
  | b => if isSlice b = true then none else (match c.E sc 0 a, c.E sc 0 b with
    | some ma, some mb => some (e2 pIx ma mb)
    | _, _ => none)
theorem cSub_ok (ok : c.Ok cm G) (k : CxOk X cm G sc) {fl : Nat} {a b : Expr} {pos : Pos} {m : DE} (e : cSub c sc fl a b = some m) : QE X cm (.Subscript a b pos) m := by
  unfold cSub at e
  split at e
  · split at e
    · rename_i ma bl ml bh mh e1 e2 e3
      cases e
      exact q_sl (ok.e X sc 0 a ma k e1) (cPart_ok ok k e2) (cPart_ok ok k e3)
    · cases e
  · obtain ⟨m', e1, rfl⟩ := Option.map_eq_some_iff.mp e
    exact q_rev (ok.e X sc 0 a m' k e1)
  · split at e
    · cases e
    · rename_i hs
      split at e
      · rename_i ma mb e1 e2
        cases e
        exact q_ix (ix_X (by have := k.un; omega)) ok_ix (ok.e X sc 0 a ma k e1) (ok.e X sc 0 b mb k e2) (plainIx (Bool.eq_false_iff.mpr hs))
      · cases e

/-! ### targets -/
def cTg (G : Cg) (sc : Scope) : Expr → Option (List Nat × DT)
  | .Name x _ => (match sc.names.lookup x with
    | some .local => (ixOf G.N x).map fun i => ([i], tN i)
    | some .cell => (ixOf G.N x).map fun i => ([i], tN i)
    | _ => none)
  | _ => none
def cTgs (G : Cg) (sc : Scope) : List Expr → Option (List Nat × List DT)
  | [] => some ([], [])
  | e :: es => (match cTg G sc e, cTgs G sc es with
    | some (o1, t), some (o2, ts) => some (o1 ++ o2, t :: ts)
    | _, _ => none)
theorem cTg_ok (k : CxOk X cm G sc) {e : Expr} {o : List Nat} {t : DT} (h : cTg G sc e = some (o, t)) : QG X cm o e t ∧ (∃ x p, e = .Name x p) := by
  unfold cTg at h
  split at h
  · rename_i x p
    split at h
    · rename_i e1
      obtain ⟨i, e2, e3⟩ := Option.map_eq_some_iff.mp h
      cases e3
      exact ⟨qg_name k.hd (by rw [k.N]; exact ixOf_ok e2) (.inl (k.loc x e1)) (.inr (k.loc x e1)), x, p, rfl⟩
    · rename_i e1
      obtain ⟨i, e2, e3⟩ := Option.map_eq_some_iff.mp h
      cases e3
      exact ⟨qg_name k.hd (by rw [k.N]; exact ixOf_ok e2) (.inr (k.cel x e1).1) (.inl (k.cel x e1).2), x, p, rfl⟩
    · cases h
  · cases h
theorem cTgs_ok (k : CxOk X cm G sc) : ∀ {es : List Expr} {o : List Nat} {ts : List DT}, cTgs G sc es = some (o, ts) → QGs X cm o es ts ∧ (assignEach es X.env).length = ts.length ∧ (assignEach es X.env).findIdx? (·.1) = none
  | [], o, ts, h => by
    cases h
    exact ⟨qgs_nil, rfl, rfl⟩
  | e :: es, o, ts, h => by
    unfold cTgs at h
    split at h
    · rename_i o1 t o2 ts' e1 e2
      cases h
      obtain ⟨g, x, p, rfl⟩ := cTg_ok k e1
      obtain ⟨gs, l, fi⟩ := cTgs_ok k e2
      refine ⟨qgs_cons g gs rfl, ?_, ?_⟩
      · show (assignEach es X.env).length + 1 = ts'.length + 1
        rw [l]
      · show List.findIdx? _ (_ :: assignEach es X.env) = none
        rw [List.findIdx?_cons]
        simp [fi]
    · cases h
def cTgt (G : Cg) (sc : Scope) : Expr → Option (List Nat × DT)
  | .Tuple es _ _ => (cTgs G sc es).map fun p => (p.1, tT p.2)
  | e => cTg G sc e
theorem cTgt_ok (k : CxOk X cm G sc) {e : Expr} {o : List Nat} {t : DT} (h : cTgt G sc e = some (o, t)) : QG X cm o e t := by
  unfold cTgt at h
  split at h
  · obtain ⟨p, e1, e2⟩ := Option.map_eq_some_iff.mp h
    cases e2
    obtain ⟨gs, l, fi⟩ := cTgs_ok (o := p.1) (ts := p.2) k e1
    exact qg_tup k.calm gs l fi
  · exact (cTg_ok k h).1

/-! ### walks -/
def cIt (c : Co) (G : Cg) (sc : Scope) (tg : Expr) : Expr → Option (FI × List DE)
  | .Call (.Name x p) es [] pos => if x = "range" ∧ free? G sc "range" = true then (match es, cArgs c sc [] es with
        | [_], some [m] => some (fiR, [m])
        | [_, _], some [m, mb] => some (fiR, [m, mb])
        | _, _ => none)
      else if x = "enumerate" ∧ free? G sc "enumerate" = true then (match tg, es, cArgs c sc [] es with
        | .Tuple _ _ _, [_], some [m] => some (fiE, [m])
        | _, _, _ => none)
      else if x = "zip" ∧ free? G sc "zip" = true then (match tg, es, cArgs c sc [] es with
        | .Tuple _ _ _, [_, _], some [m, mb] => some (fiZ, [m, mb])
        | _, _, _ => none)
      else (c.E sc 0 (.Call (.Name x p) es [] pos)).map fun m => (fiL, [m])
  | e => if isSet e = true then none else (c.E sc 0 e).map fun m => (fiL, [m])
theorem cIt_ok (ok : c.Ok cm G) (k : CxOk X cm G sc) {tg it : Expr} {fi : FI} {ms : List DE} (h : cIt c G sc tg it = some (fi, ms)) : QI X cm tg it fi ms ∧ ∀ x, foldedSetIterable it X.env x = pure x := by
  have noFold : isSet it = false → ∀ x, foldedSetIterable it X.env x = pure x := fun hs x => by
    cases it <;> first | rfl | cases hs
  unfold cIt at h
  split at h
  · rename_i x p es pos
    refine ⟨?_, noFold rfl⟩
    split at h
    · rename_i hx
      obtain ⟨rfl, hf⟩ := hx
      obtain ⟨g1, g2⟩ := free_ok k hf
      split at h
      · rename_i a m ea
        cases h
        obtain ⟨a1, a2, a3⟩ := cArgs_ok ok k ea
        exact qi_range1 g1 g2 a1 (starE (a3 _ List.mem_cons_self))
      · rename_i a b m mb ea
        cases h
        obtain ⟨a1, a2, a3⟩ := cArgs_ok ok k ea
        have s2 : starEach [b] X.env = [(false, eval b X.env)] := starE (a3 b (by simp))
        exact qi_range2 g1 g2 a1 (by rw [starE (a3 a (by simp)), s2]) s2
      · cases h
    · split at h
      · rename_i hx
        obtain ⟨rfl, hf⟩ := hx
        obtain ⟨g1, g2⟩ := free_ok k hf
        split at h
        · rename_i a m ea
          cases h
          obtain ⟨a1, a2, a3⟩ := cArgs_ok ok k ea
          exact qi_enum g1 g2 a1 (starE (a3 _ List.mem_cons_self))
        · cases h
      · split at h
        · rename_i hx
          obtain ⟨rfl, hf⟩ := hx
          obtain ⟨g1, g2⟩ := free_ok k hf
          split at h
          · rename_i a b m mb ea
            cases h
            obtain ⟨a1, a2, a3⟩ := cArgs_ok ok k ea
            have s2 : starEach [b] X.env = [(false, eval b X.env)] := starE (a3 b (by simp))
            refine qi_zip g1 g2 a1 (starE (a3 a (by simp))) ?_
            rw [s2]
            rfl
          · cases h
        · obtain ⟨m, e1, e2⟩ := Option.map_eq_some_iff.mp h
          cases e2
          exact qi_seq (ok.e X sc 0 _ m k e1)
  · split at h
    · cases h
    · rename_i hs
      obtain ⟨m, e1, e2⟩ := Option.map_eq_some_iff.mp h
      cases e2
      exact ⟨qi_seq (ok.e X sc 0 _ m k e1), noFold (Bool.eq_false_iff.mpr hs)⟩

/-! ### comprehensions -/
def ownOf (N : List Str) (names : List (Str × NameKind)) : List (Str × Nat) := names.filterMap fun y => match y.2 with
  | .local => (ixOf N y.1).map fun i => (y.1, i)
  | .cell => (ixOf N y.1).map fun i => (y.1, i)
  | _ => none
theorem lookup_free {sc : Scope} : ∀ {names : List (Str × NameKind)} {x : Str}, names.lookup x = some .free →
    (names.map fun (n, k) => if (k == NameKind.free && sc.kind == .function && sc.names.lookup n == some .cell) then (n, NameKind.cell) else (n, k)).lookup x = some .cell ∨
    (names.map fun (n, k) => if (k == NameKind.free && sc.kind == .function && sc.names.lookup n == some .cell) then (n, NameKind.cell) else (n, k)).lookup x = some .free
  | [], _, h => by cases h
  | (n, k₀) :: r, x, h => by
    have ih := @lookup_free sc r x
    show List.lookup x ((if (k₀ == NameKind.free && sc.kind == .function && sc.names.lookup n == some .cell) = true then (n, NameKind.cell) else (n, k₀)) :: (r.map _)) = some .cell ∨ List.lookup x ((if (k₀ == NameKind.free && sc.kind == .function && sc.names.lookup n == some .cell) = true then (n, NameKind.cell) else (n, k₀)) :: (r.map _)) = some .free
    cases hx : x == n with
    | true =>
      simp only [List.lookup_cons, hx] at h
      cases h
      by_cases hc : (NameKind.free == NameKind.free && sc.kind == .function && sc.names.lookup n == some .cell) = true
      · rw [if_pos hc]
        simp only [List.lookup_cons, hx]
        exact .inl trivial
      · rw [if_neg hc]
        simp only [List.lookup_cons, hx]
        exact .inr trivial
    | false =>
      simp only [List.lookup_cons, hx] at h
      by_cases hc : (k₀ == NameKind.free && sc.kind == .function && sc.names.lookup n == some .cell) = true
      · rw [if_pos hc]
        simp only [List.lookup_cons, hx]
        exact ih h
      · rw [if_neg hc]
        simp only [List.lookup_cons, hx]
        exact ih h
/-- within a comprehension's block -/
theorem CxOk.blk (k : CxOk X cm G sc) {scope : Scope} {own : List (Str × Nat)} (b : BlkOk G.N sc scope own) (s : Shared) (H : Hp) (C : Addr) (cl : List (Str × Addr)) (fp : List Addr) : CxOk (X.blk s H scope (compEnvC scope cl C X.env) fp) cm G scope := by
  have es : (X.blk s H scope (compEnvC scope cl C X.env) fp).env.scope = relS scope X.env.scope := rfl
  refine ⟨k.N, k.nd, k.calm, rfl, b.kind, fun x e => ?_, fun x e => ⟨?_, ?_⟩, fun x e => ?_, fun x e => ?_, k.un, k.gd, fun x en e => ?_, k.bl⟩
  · rw [es]; exact lookup_relS_keep (by decide) e
  · rw [es]; exact lookup_relS_keep (by decide) e
  · show (scope.names.lookup x == some .cell) = true
    rw [e]
    rfl
  · rw [es]; exact lookup_free e
  · rw [es]; exact lookup_relS_keep (by decide) e
  · have := k.tb x en e
    cases en with
    | fn f ps nd cells => exact this
    | con w => exact this
    | kwd y f n ks ix cells => exact this
theorem CxOk.blkOk (k : CxOk X cm G sc) {scope : Scope} {own : List (Str × Nat)} (b : BlkOk G.N sc scope own) : BlkOk X.N X.env.scope scope own := by
  refine ⟨b.kind, b.uniq, by rw [k.N]; exact b.ix, fun y hy e => ?_, by rw [k.N]; exact b.own⟩
  rcases b.free y hy e with z | z
  · exact .inl (k.cel _ z).1
  · exact k.fre _ z
def cCond (c : Co) (sc : Scope) : List Expr → Option (Option DE)
  | [] => some none
  | [e] => (c.T sc e).map some
  | _ => none
theorem cCond_ok (ok : c.Ok cm G) (k : CxOk X cm G sc) {ifs : List Expr} {cd : Option DE} (h : cCond c sc ifs = some cd) : QC X cm ifs cd := by
  match ifs, h with
  | [], h => cases h; exact .nil
  | [e], h =>
    obtain ⟨m, e1, e2⟩ := Option.map_eq_some_iff.mp h
    cases e2
    exact .one (ok.t X sc e m k e1)
  | _ :: _ :: _, h => cases h
/-- the parts of a comprehension -/
def cCp (c : Co) (G : Cg) (sc : Scope) (fl : Nat) (elt tg it : Expr) (ifs : List Expr) (scope : Scope) : Option DE :=
  let own := ownOf G.N scope.names
  if blkC G.N sc scope own = true then (match cIt c G sc tg it, cTgt G scope tg, cCond c scope ifs, c.E scope (if fl = 2 then 1 else 0) elt with
    | some (fi, src), some (o, t), some cd, some me => if o.all (fun i => decide (i ∈ own.map (·.2))) = true then some (eComp (fl == 1) (own.map (·.2)) t fi src cd me) else none
    | _, _, _, _ => none)
  else none
theorem cCp_ok (ok : c.Ok cm G) (k : CxOk X cm G sc) {fl : Nat} {elt tg it : Expr} {ifs : List Expr} {scope : Scope} {m : DE} (h : cCp c G sc fl elt tg it ifs scope = some m) :
    ∃ (own : List (Str × Nat)) (own' : List Nat) (fi : FI) (src : List DE) (cd : Option DE) (me : DE) (t : DT), m = eComp (fl == 1) (own.map (·.2)) t fi src cd me ∧ QI X cm tg it fi src ∧ BlkOk X.N X.env.scope scope own ∧ (∀ i ∈ own', i ∈ own.map (·.2)) ∧
      (∀ (s : Shared) (H : Hp) (C : Addr) (cl : List (Str × Addr)) (fp : List Addr), QG (X.blk s H scope (compEnvC scope cl C X.env) fp) cm own' tg t) ∧
      (∀ (s : Shared) (H : Hp) (C : Addr) (cl : List (Str × Addr)) (fp : List Addr), QC (X.blk s H scope (compEnvC scope cl C X.env) fp) cm ifs cd) ∧
      (∀ (s : Shared) (H : Hp) (C : Addr) (cl : List (Str × Addr)) (fp : List Addr), QE (X.blk s H scope (compEnvC scope cl C X.env) fp) cm elt me) ∧ (∀ x, foldedSetIterable it X.env x = pure x) ∧ BlkOk G.N sc scope own := by
  unfold cCp at h
  simp only at h
  split at h
  · rename_i hb
    have b := blkOk_by hb
    split at h
    · rename_i fi src o t cd me e1 e2 e3 e4
      split at h
      · rename_i ho
        cases h
        obtain ⟨qi, fo⟩ := cIt_ok ok k e1
        refine ⟨_, o, fi, src, cd, me, t, rfl, qi, k.blkOk b, fun i hi => of_decide_eq_true (List.all_eq_true.mp ho i hi), fun s H C cl fp => cTgt_ok (k.blk b s H C cl fp) e2, fun s H C cl fp => cCond_ok ok (k.blk b s H C cl fp) e3, fun s H C cl fp => ok.e _ scope _ elt me (k.blk b s H C cl fp) e4, fo, b⟩
      · cases h
    · cases h
  · cases h

/-! ### one level -/
def cBool (c : Co) (sc : Scope) (f : DE → DE → DE) : List Expr → Option DE
  | [] => none
  | [e] => c.E sc 0 e
  | e :: e' :: es => (match c.E sc 0 e, cBool c sc f (e' :: es) with
    | some m, some ms => some (f m ms)
    | _, _ => none)
def cBoolT (c : Co) (sc : Scope) (f : DE → DE → DE) : List Expr → Option DE
  | [] => none
  | [e] => c.T sc e
  | e :: e' :: es => (match c.T sc e, cBoolT c sc f (e' :: es) with
    | some m, some ms => some (f m ms)
    | _, _ => none)
theorem cBool_and (ok : c.Ok cm G) (k : CxOk X cm G sc) {pos : Pos} : ∀ {es : List Expr} {m : DE}, cBool c sc eAnd es = some m → QE X cm (.BoolOp .And es pos) m
  | [], _, h => by cases h
  | [e], m, h => q_one (ok.e X sc 0 e m k h)
  | e :: e' :: es, m, h => by
    unfold cBool at h
    split at h
    · rename_i m1 m2 e1 e2
      cases h
      exact q_and (ok.e X sc 0 e m1 k e1) (cBool_and ok k e2)
    · cases h
theorem cBool_or (ok : c.Ok cm G) (k : CxOk X cm G sc) {pos : Pos} : ∀ {es : List Expr} {m : DE}, cBool c sc eOr es = some m → QE X cm (.BoolOp .Or es pos) m
  | [], _, h => by cases h
  | [e], m, h => q_one (ok.e X sc 0 e m k h)
  | e :: e' :: es, m, h => by
    unfold cBool at h
    split at h
    · rename_i m1 m2 e1 e2
      cases h
      exact q_or (ok.e X sc 0 e m1 k e1) (cBool_or ok k e2)
    · cases h
theorem cBoolT_and (ok : c.Ok cm G) (k : CxOk X cm G sc) {pos : Pos} : ∀ {es : List Expr} {m : DE}, cBoolT c sc eAnd es = some m → QW X cm (.BoolOp .And es pos) m
  | [], _, h => by cases h
  | [e], m, h => qw_and1 (ok.t X sc e m k h)
  | e :: e' :: es, m, h => by
    unfold cBoolT at h
    split at h
    · rename_i m1 m2 e1 e2
      cases h
      exact qw_and (ok.t X sc e m1 k e1) (cBoolT_and ok k e2)
    · cases h
theorem cBoolT_or (ok : c.Ok cm G) (k : CxOk X cm G sc) {pos : Pos} : ∀ {es : List Expr} {m : DE}, cBoolT c sc eOr es = some m → QW X cm (.BoolOp .Or es pos) m
  | [], _, h => by cases h
  | [e], m, h => qw_or1 (ok.t X sc e m k h)
  | e :: e' :: es, m, h => by
    unfold cBoolT at h
    split at h
    · rename_i m1 m2 e1 e2
      cases h
      exact qw_or (ok.t X sc e m1 k e1) (cBoolT_or ok k e2)
    · cases h
def stepE (G : Cg) (c : Co) (sc : Scope) (fl : Nat) : Expr → Option DE
  | .Constant v _ _ => (cConst v).map eK
  | .Name x _ => cName G sc x
  | .BinOp a op b _ => (match binF (fl == 1) op, c.E sc 0 a, c.E sc 0 b with
    | some g, some ma, some mb => some (e2 g ma mb)
    | _, _, _ => none)
  | .UnaryOp .USub a _ => (c.E sc 0 a).map (e1 pNeg)
  | .UnaryOp .Not a _ => (c.E sc 0 a).map eNot
  | .BoolOp .And es _ => cBool c sc eAnd es
  | .BoolOp .Or es _ => cBool c sc eOr es
  | .Compare a [op] [b] _ => if isSet b = true then none else (match cmpF op, c.E sc 0 a, c.E sc 0 b with
    | some g, some ma, some mb => some (e2 g ma mb)
    | _, _, _ => none)
  | .Compare a [op, op'] [b, d] _ => if isSet d = true then none else (match cmpF op, cmpF op', c.E sc 0 a, c.E sc 0 b, c.E sc 0 d with
    | some g, some g', some ma, some mb, some md => some (eChain g g' ma mb md)
    | _, _, _, _, _ => none)
  | .IfExp t a b _ => (match c.T sc t, c.E sc fl a, c.E sc fl b with
    | some mt, some ma, some mb => some (eIf mt ma mb)
    | _, _, _ => none)
  | .Call (.Name x _) es [] _ => if x = "isinstance" then cIsi c G sc x es else if x = "sum" ∧ (cSumV c G sc x es).isSome = true then cSumV c G sc x es else cCall c G sc fl x es
  | .Call (.Attribute o x apos) es [] pos => cMeth c sc o x (apos.endLine == pos.line) es
  | .Call (.Name x _) [] (kw :: kws) _ => cCallK c G sc fl x (kw :: kws)
  | .List es _ => (cArgs c sc (List.replicate es.length (if fl = 2 then 1 else 0)) es).map (eLst (fl == 1))
  | .Tuple es _ _ => (cArgs c sc [] es).map eTup
  | .Dict [] [] _ => some (eDic (fl == 1 || fl == 3) (fl == 3))
  | .Subscript a b _ => cSub c sc fl a b
  | .ListComp elt [⟨tg, it, ifs, 0⟩] scope _ => cCp c G sc fl elt tg it ifs scope
  | _ => none
def plainT : Expr → Bool
  | .Name _ _ | .Call _ _ _ _ | .Subscript _ _ _ | .Attribute _ _ _ => true
  | _ => false
def stepT (G : Cg) (c : Co) (sc : Scope) : Expr → Option DE
  | .UnaryOp .Not a _ => (c.T sc a).map eNot
  | .BoolOp .And es _ => cBoolT c sc eAnd es
  | .BoolOp .Or es _ => cBoolT c sc eOr es
  | .Compare a [op] [b] _ => if isSet b = true then none else (match cmpF op, c.E sc 0 a, c.E sc 0 b with
    | some g, some ma, some mb => some (e2 g ma mb)
    | _, _, _ => none)
  | .Compare a [op, op'] [b, d] _ => if isSet d = true then none else (match cmpF op, cmpF op', c.E sc 0 a, c.E sc 0 b, c.E sc 0 d with
    | some g, some g', some ma, some mb, some md => some (eChain g g' ma mb md)
    | _, _, _, _, _ => none)
  | e => if plainT e = true then c.E sc 0 e else none
def step (G : Cg) (c : Co) : Co := ⟨stepE G c, stepT G c⟩
theorem stepE_ok (ok : c.Ok cm G) (k : CxOk X cm G sc) {fl : Nat} {e : Expr} {m : DE} (h : stepE G c sc fl e = some m) : QE X cm e m := by
  unfold stepE at h
  split at h
  · obtain ⟨w, e1, rfl⟩ := Option.map_eq_some_iff.mp h
    exact cConst_ok e1
  · exact cName_ok k h
  · split at h
    · rename_i g ma mb e1 e2 e3
      cases h
      obtain ⟨r, ho, hk⟩ := binF_ok (X := X) (cm := cm) e1
      exact q_bin ho hk (ok.e X sc 0 _ ma k e2) (ok.e X sc 0 _ mb k e3)
    · cases h
  · obtain ⟨m', e1, rfl⟩ := Option.map_eq_some_iff.mp h
    exact q_un un_neg ok_neg (ok.e X sc 0 _ m' k e1)
  · obtain ⟨m', e1, rfl⟩ := Option.map_eq_some_iff.mp h
    exact q_not (ok.e X sc 0 _ m' k e1)
  · exact cBool_and ok k h
  · exact cBool_or ok k h
  · split at h
    · cases h
    · rename_i hs
      split at h
      · rename_i g ma mb e1 e2 e3
        cases h
        obtain ⟨r, ho, hk, _⟩ := cmpF_ok (cm := cm) k.un e1
        exact q_cmp ho hk (ok.e X sc 0 _ ma k e2) (ok.e X sc 0 _ mb k e3) (noSet (Bool.eq_false_iff.mpr hs))
      · cases h
  · split at h
    · cases h
    · rename_i hs
      split at h
      · rename_i g g' ma mb md e1 e2 e3 e4 e5
        cases h
        obtain ⟨r, ho, hk, _⟩ := cmpF_ok (cm := cm) k.un e1
        obtain ⟨r', ho', hk', _⟩ := cmpF_ok (cm := cm) k.un e2
        exact q_chain ho ho' hk hk' (ok.e X sc 0 _ ma k e3) (ok.e X sc 0 _ mb k e4) (ok.e X sc 0 _ md k e5) (noSetL (Bool.eq_false_iff.mpr hs))
      · cases h
  · split at h
    · rename_i mt ma mb e1 e2 e3
      cases h
      exact q_if (ok.t X sc _ mt k e1) (ok.e X sc fl _ ma k e2) (ok.e X sc fl _ mb k e3)
    · cases h
  · split at h
    · exact cIsi_ok ok k h
    · split at h
      · exact cSumV_ok ok k h
      · exact cCall_ok ok k h
  · exact cMeth_ok ok k h
  · exact cCallK_ok ok k h
  · obtain ⟨ms, e1, rfl⟩ := Option.map_eq_some_iff.mp h
    exact q_lst (cArgs_ok ok k e1).1
  · obtain ⟨ms, e1, rfl⟩ := Option.map_eq_some_iff.mp h
    exact q_tup (cArgs_ok ok k e1).1
  · cases h; exact q_dic
  · exact cSub_ok ok k h
  · obtain ⟨own, own', fi, src, cd, me, t, rfl, h1, h2, h3, h4, h5, h6, h7, _⟩ := cCp_ok ok k h
    exact q_comp k.calm k.hd h1 h2 h3 h4 h5 h6 h7
  · cases h
theorem stepT_ok (ok : c.Ok cm G) (k : CxOk X cm G sc) {e : Expr} {m : DE} (h : stepT G c sc e = some m) : QT X cm e m := by
  unfold stepT at h
  split at h
  · obtain ⟨m', e1, rfl⟩ := Option.map_eq_some_iff.mp h
    exact qt_not (ok.t X sc _ m' k e1)
  · exact (cBoolT_and ok k h).pt
  · exact (cBoolT_or ok k h).pt
  · split at h
    · cases h
    · rename_i hs
      split at h
      · rename_i g ma mb e1 e2 e3
        cases h
        obtain ⟨r, ho, hk, hb⟩ := cmpF_ok (cm := cm) k.un e1
        exact qt_cmp ho hk hb (ok.e X sc 0 _ ma k e2) (ok.e X sc 0 _ mb k e3) (noSet (Bool.eq_false_iff.mpr hs))
      · cases h
  · split at h
    · cases h
    · rename_i hs
      split at h
      · rename_i g g' ma mb md e1 e2 e3 e4 e5
        cases h
        obtain ⟨r, ho, hk, _⟩ := cmpF_ok (cm := cm) k.un e1
        obtain ⟨r', ho', hk', hb'⟩ := cmpF_ok (cm := cm) k.un e2
        exact qt_chain ho ho' hk hk' hb' (ok.e X sc 0 _ ma k e3) (ok.e X sc 0 _ mb k e4) (ok.e X sc 0 _ md k e5) (noSetL (Bool.eq_false_iff.mpr hs))
      · cases h
  · split at h
    · rename_i hp
      refine qt_truth (ok.e X sc 0 _ m k h) fun wh => ?_
      cases e <;> first | rfl | cases hp
    · cases h
def cAt (G : Cg) : Nat → Co
  | 0 => ⟨fun _ _ _ => none, fun _ _ => none⟩
  | n + 1 => step G (cAt G n)
theorem cAt_ok (cm : Nat → Addr) (G : Cg) : ∀ n, (cAt G n).Ok cm G
  | 0 => ⟨fun _ _ _ _ _ _ h => by (cases h), fun _ _ _ _ _ h => by (cases h)⟩
  | n + 1 => ⟨fun X sc fl x m k h => stepE_ok (cAt_ok cm G n) k h, fun X sc x m k h => stepT_ok (cAt_ok cm G n) k h⟩
end
end Ti


/-! Ti: statements; a def; a table of defs. -/
namespace Ti
open PySem PySem.Spec PyProof.Rows L2

/-! ### which stores the model swaps -/
def isCpr : Expr → Bool
  | .ListComp _ _ _ _ | .SetComp _ _ _ _ | .DictComp _ _ _ _ _ => true
  | _ => false
theorem sw_non {e : Expr} {t : Option Expr} {l : Nat} {env : PySem.Env} (h : isCpr e = false) : swapsWith e t l env = pure false := by
  cases e <;> first | rfl | cases h
theorem sw_sole {e t : Expr} {l : Nat} {env : PySem.Env} (h : isCpr e = false) : swapsWithSole [t] e l env = pure false := sw_non h
def notNm : Expr → Bool
  | .Name _ _ => false
  | _ => true
theorem sw_tgt {e t : Expr} {l : Nat} {env : PySem.Env} (h : notNm t = true) : swapsWith e (some t) l env = pure false := by
  unfold swapsWith
  cases e <;> first | rfl | (cases t <;> first | rfl | cases h)
/-- a comprehension whose store is not swapped: another line, a cell, or a name of the comprehension's own -/
def swNo (sc : Scope) (x : Str) (px pos : Pos) (scope : Scope) : Bool := !(sc.names.lookup x == some .local && px.line == pos.line && !(scope.names.any fun (n, k) => n == x && (k == .local || k == .cell)))
theorem sw_cp {elt : Expr} {gs : List Comprehension} {scope : Scope} {pos px : Pos} {x : Str} {l : Nat} {env : PySem.Env} (hk : env.scope.kind = .function) (h : swNo env.scope x px pos scope = true) : swapsWith (.ListComp elt gs scope pos) (some (.Name x px)) l env = pure false := by
  have hb : env.blockKind = .function := by unfold PySem.Env.blockKind; rw [hk]; rfl
  have h : (env.kindOf x == some .local && px.line == pos.line && !(scope.names.any fun (n, k) => n == x && (k == .local || k == .cell))) = false := by
    have : (!(env.kindOf x == some .local && px.line == pos.line && !(scope.names.any fun (n, k) => n == x && (k == .local || k == .cell)))) = true := h
    rw [Bool.not_eq_true'] at this
    exact this
  unfold swapsWith
  show pure (env.blockKind == .function && env.kindOf x == some .local && px.line == pos.line && !(scope.names.any fun (n, k) => n == x && (k == .local || k == .cell))) = (pure false : Sem Bool)
  rw [hb]
  show pure (true && env.kindOf x == some .local && px.line == pos.line && !(scope.names.any fun (n, k) => n == x && (k == .local || k == .cell))) = (pure false : Sem Bool)
  rw [Bool.true_and, h]
def swO (sc : Scope) (ts vs : List Expr) : Option (Option (List Str)) :=
  if (!(ts.length == 2 || ts.length == 3) || vs.length != ts.length) = true then some none
  else if (vs.any fun | .Starred .. => true | _ => false) = true then some none
  else
    let line := (ts.head?.map (·.pos.line)).getD 0
    let names := ts.filterMap fun
      | .Name id pos => if sc.names.lookup id == some .local && pos.line == line then some id else none
      | _ => none
    if (names.length != ts.length || names.eraseDups.length != names.length) = true then some none
    else if vs.all (foldedForSure 8) = true then some none
    else if vs.all (constantsAlone 8) = true then none
    else some (some names)
theorem swO_ok {ts vs : List Expr} {k k2} {p p2 : Pos} {env : PySem.Env} {r : Option (List Str)} (hk : env.scope.kind = .function) (h : swO env.scope ts vs = some r) : swappedStores [.Tuple ts k p] (.Tuple vs k2 p2) env = pure r := by
  have hb : (env.blockKind != .function) = false := by unfold PySem.Env.blockKind; rw [hk]; rfl
  have kd : ∀ x, env.kindOf x = env.scope.names.lookup x := fun _ => rfl
  unfold swO at h
  unfold swappedStores
  simp only [hb, kd, Bool.or_false] at h ⊢
  split at h
  · rename_i c
    cases h
    exact if_pos c
  · rename_i c
    refine (if_neg c).trans ?_
    split at h
    · rename_i c2
      cases h
      exact if_pos c2
    · rename_i c2
      refine (if_neg c2).trans ?_
      split at h
      · rename_i c3
        cases h
        exact if_pos c3
      · rename_i c3
        refine (if_neg c3).trans ?_
        split at h
        · rename_i c4
          cases h
          exact if_pos c4
        · rename_i c4
          refine (if_neg c4).trans ?_
          split at h
          · cases h
          · rename_i c5
            cases h
            exact if_neg c5
def isTup : Expr → Bool
  | .Tuple _ _ _ => true
  | _ => false
theorem sw_notTup {ts : List Expr} {k} {p : Pos} {e : Expr} {env : PySem.Env} (h : isTup e = false) : swappedStores [.Tuple ts k p] e env = pure none := by
  cases e <;> first | rfl | cases h
theorem sw_oneName {t e : Expr} {env : PySem.Env} (h : notNm t = false) : swappedStores [t] e env = pure none := by
  cases t <;> first | cases h | skip
  cases e <;> rfl
end Ti


/-! Ti: statements; a def; a table of defs. -/
namespace Ti
open PySem PySem.Spec PyProof.Rows L2
section
variable {X : Cx} {cm : Nat → Addr} {G : Cg} {sc : Scope} {c : Co}

/-! ### stores from the right -/
theorem qs_par {i j : Nat} {x y : Str} {a b : Expr} {ms : List DE} {px py pt pos : Pos} {kt k2 pt2} (hc : X.calm = true) (hN : X.N.Nodup) (hi : X.N[i]? = some x) (hj : X.N[j]? = some y) (hij : i ≠ j)
    (hx : X.env.scope.names.lookup x = some .local) (hy : X.env.scope.names.lookup y = some .local) (ha : QL X cm [a, b] ms)
    (hw : swappedStores [.Tuple [.Name x px, .Name y py] kt pt] (.Tuple [a, b] k2 pt2) X.env = pure (some [x, y])) :
    QS X cm (.Assign [.Tuple [.Name x px, .Name y py] kt pt] (.Tuple [a, b] k2 pt2) pos) (sAsg (tT [tN i, tN j]) (eTup ms)) := by
  refine PS.wk (ps_par hc hN hi hj hij hx hy ha hw rfl) fun D σ H q => ?_
  obtain ⟨mu, Z, ρ, h, f, ρ', h', rl, s, e, p⟩ := q
  obtain ⟨q, e1, e⟩ := Res.bind_eq_ok e
  obtain ⟨q2, e2, e⟩ := Res.bind_eq_ok e
  cases e
  obtain ⟨q3, e3, e1⟩ := Res.bind_eq_ok e1
  split at e1
  · cases e1
    refine ⟨mu, Z, ρ, h, q3.1, q3.2, rl, s, e3, fun mu1 Z1 H1 vs x1 r1 w1 => ?_⟩
    obtain ⟨ws, h1⟩ := q3
    match ws, e2, w1 with
    | [u1, u2], e2, w1 =>
      cases e2
      obtain ⟨v1, v2, rfl, k1, k2⟩ := w1.two
      exact ⟨v1, v2, rfl, p _ _ _ x1 r1 _ (((s.ext x1).set i k1).set j k2)⟩
  · cases e1
theorem qs_par3 {i j l : Nat} {x y z : Str} {a b d : Expr} {ms : List DE} {px py pz pt pos : Pos} {kt k2 pt2} (hc : X.calm = true) (hN : X.N.Nodup) (hi : X.N[i]? = some x) (hj : X.N[j]? = some y) (hl : X.N[l]? = some z) (hij : i ≠ j) (hil : i ≠ l) (hjl : j ≠ l)
    (hx : X.env.scope.names.lookup x = some .local) (hy : X.env.scope.names.lookup y = some .local) (hz : X.env.scope.names.lookup z = some .local) (ha : QL X cm [a, b, d] ms)
    (hw : swappedStores [.Tuple [.Name x px, .Name y py, .Name z pz] kt pt] (.Tuple [a, b, d] k2 pt2) X.env = pure (some [x, y, z])) :
    QS X cm (.Assign [.Tuple [.Name x px, .Name y py, .Name z pz] kt pt] (.Tuple [a, b, d] k2 pt2) pos) (sAsg (tT [tN i, tN j, tN l]) (eTup ms)) := by
  refine PS.wk (ps_par3 hc hN hi hj hl hij hil hjl hx hy hz ha hw rfl) fun D σ H q => ?_
  obtain ⟨mu, Z, ρ, h, f, ρ', h', rl, s, e, p⟩ := q
  obtain ⟨q, e1, e⟩ := Res.bind_eq_ok e
  obtain ⟨q2, e2, e⟩ := Res.bind_eq_ok e
  cases e
  obtain ⟨q3, e3, e1⟩ := Res.bind_eq_ok e1
  split at e1
  · cases e1
    refine ⟨mu, Z, ρ, h, q3.1, q3.2, rl, s, e3, fun mu1 Z1 H1 vs x1 r1 w1 => ?_⟩
    obtain ⟨ws, h1⟩ := q3
    match ws, e2, w1 with
    | [u1, u2, u3], e2, w1 =>
      cases e2
      obtain ⟨v1, r, rfl, k1, w1⟩ := w1
      obtain ⟨v2, v3, rfl, k2, k3⟩ := w1.two
      exact ⟨v1, v2, v3, rfl, p _ _ _ x1 r1 _ ((((s.ext x1).set i k1).set j k2).set l k3)⟩
  · cases e1

/-! ### statements -/
def cAsgN (G : Cg) (sc : Scope) (c : Co) (fl i : Nat) (x : Str) (px : Pos) : Expr → Option DS
  | .ListComp elt [⟨tg, it, ifs, 0⟩] scope p2 => if swNo sc x px p2 scope = true then (c.E sc fl (.ListComp elt [⟨tg, it, ifs, 0⟩] scope p2)).map (sAsg (tN i))
      else if sc.names.lookup x = some .local then (cCp c G sc fl elt tg it ifs scope).map (sAsg (tN i)) else none
  | e => if isCpr e = true then none else (c.E sc fl e).map (sAsg (tN i))
theorem cAsgN_ok (ok : c.Ok cm G) (k : CxOk X cm G sc) (he : X.env.scope = sc) {fl i : Nat} {x : Str} {px pos : Pos} {e : Expr} {m : DS} (hi : ixOf G.N x = some i) (hx : sc.names.lookup x = some .local ∨ sc.names.lookup x = some .cell) (h : cAsgN G sc c fl i x px e = some m) : QS X cm (.Assign [.Name x px] e pos) m := by
  have hN : X.N[i]? = some x := by rw [k.N]; exact ixOf_ok hi
  have hl : Loc X.env.scope x := by rw [he]; exact hx
  have hf : X.fn x = true ∨ X.env.scope.names.lookup x = some .local := by
    rcases hx with hx | hx
    · exact .inr (k.loc x hx)
    · exact .inl (k.cel x hx).2
  unfold cAsgN at h
  split at h
  · rename_i elt tg it ifs scope p2
    split at h
    · rename_i hs
      obtain ⟨m', e1, rfl⟩ := Option.map_eq_some_iff.mp h
      exact qs_set k.hd hN hl (ok.e X sc fl _ m' k e1) (sw_cp k.knd (by rw [he]; exact hs)) hf
    · rename_i hs
      have hs := Bool.eq_false_iff.mpr hs
      split at h
      · rename_i hx
        obtain ⟨m', e1, rfl⟩ := Option.map_eq_some_iff.mp h
        obtain ⟨own, own', fi, src, cd, me, t, rfl, h1, h2, h3, h4, h5, h6, h7, _⟩ := cCp_ok ok k e1
        have hs : (sc.names.lookup x == some .local && px.line == p2.line && !(scope.names.any fun (n, k) => n == x && (k == .local || k == .cell))) = true := by
          have := hs
          unfold swNo at this
          rw [Bool.not_eq_false'] at this
          exact this
        rw [Bool.and_eq_true, Bool.and_eq_true, Bool.not_eq_true'] at hs
        exact qs_setLc k.calm k.hd hN (k.loc x hx) (sw_true k.knd (k.loc x hx) hs.1.2 hs.2) h1 h2 h3 h4 h5 h6 h7
      · cases h
  · split at h
    · cases h
    · rename_i hs
      obtain ⟨m', e1, rfl⟩ := Option.map_eq_some_iff.mp h
      exact qs_set k.hd hN hl (ok.e X sc fl _ m' k e1) (sw_non (Bool.eq_false_iff.mpr hs)) hf
/-- two or three names stored from the right -/
def cPar (G : Cg) (sc : Scope) (c : Co) (M : List Nat) (ts vs : List Expr) (xs : List Str) : Option DS := match ts, vs, xs with
  | [.Name x _, .Name y _], [a, b], [x', y'] => (match ixOf G.N x, ixOf G.N y with
      | some i, some j => if x' = x ∧ y' = y ∧ i ≠ j ∧ sc.names.lookup x = some .local ∧ sc.names.lookup y = some .local then (cArgs c sc [M.getD i 0, M.getD j 0] [a, b]).map fun ms => sAsg (tT [tN i, tN j]) (eTup ms) else none
      | _, _ => none)
  | [.Name x _, .Name y _, .Name z _], [a, b, d], [x', y', z'] => (match ixOf G.N x, ixOf G.N y, ixOf G.N z with
      | some i, some j, some l => if x' = x ∧ y' = y ∧ z' = z ∧ i ≠ j ∧ i ≠ l ∧ j ≠ l ∧ sc.names.lookup x = some .local ∧ sc.names.lookup y = some .local ∧ sc.names.lookup z = some .local then (cArgs c sc [M.getD i 0, M.getD j 0, M.getD l 0] [a, b, d]).map fun ms => sAsg (tT [tN i, tN j, tN l]) (eTup ms) else none
      | _, _, _ => none)
  | _, _, _ => none
theorem cPar_ok (ok : c.Ok cm G) (k : CxOk X cm G sc) (he : X.env.scope = sc) {M : List Nat} {ts vs : List Expr} {xs : List Str} {kt k2} {p p2 pos : Pos} {m : DS} (hw : swO sc ts vs = some (some xs)) (h : cPar G sc c M ts vs xs = some m) : QS X cm (.Assign [.Tuple ts kt p] (.Tuple vs k2 p2) pos) m := by
  have hw : swappedStores [.Tuple ts kt p] (.Tuple vs k2 p2) X.env = pure (some xs) := swO_ok k.knd (by rw [he]; exact hw)
  unfold cPar at h
  split at h
  · split at h
    · rename_i i j e1 e2
      split at h
      · rename_i hq
        obtain ⟨rfl, rfl, h1, h2, h3⟩ := hq
        obtain ⟨ms, e3, rfl⟩ := Option.map_eq_some_iff.mp h
        exact qs_par k.calm k.hd (by rw [k.N]; exact ixOf_ok e1) (by rw [k.N]; exact ixOf_ok e2) h1 (k.loc _ h2) (k.loc _ h3) (cArgs_ok ok k e3).1 hw
      · cases h
    · cases h
  · split at h
    · rename_i i j l e1 e2 e4
      split at h
      · rename_i hq
        obtain ⟨rfl, rfl, rfl, h1, h2, h3, h4, h5, h6⟩ := hq
        obtain ⟨ms, e3, rfl⟩ := Option.map_eq_some_iff.mp h
        exact qs_par3 k.calm k.hd (by rw [k.N]; exact ixOf_ok e1) (by rw [k.N]; exact ixOf_ok e2) (by rw [k.N]; exact ixOf_ok e4) h1 h2 h3 (k.loc _ h4) (k.loc _ h5) (k.loc _ h6) (cArgs_ok ok k e3).1 hw
      · cases h
    · cases h
  · cases h
/-- a, b = e -/
def tgFl (G : Cg) (M : List Nat) (ts : List Expr) : List Nat := ts.map fun | .Name x _ => (match ixOf G.N x with | some i => M.getD i 0 | none => 0) | _ => 0
def cAsgT (G : Cg) (sc : Scope) (c : Co) (M : List Nat) (ts : List Expr) : Expr → Option DS
  | .Tuple vs k2 p2 => (match swO sc ts vs with
      | some none => (match cTgs G sc ts, cArgs c sc (tgFl G M ts) vs with
          | some p, some ms => some (sAsg (tT p.2) (eTup ms))
          | _, _ => none)
      | some (some xs) => cPar G sc c M ts vs xs
      | none => none)
  | e => if isCpr e = true ∨ isTup e = true then none else (match cTgs G sc ts, c.E sc 0 e with
          | some p, some m => some (sAsg (tT p.2) m)
          | _, _ => none)
theorem cAsgT_ok (ok : c.Ok cm G) (k : CxOk X cm G sc) (he : X.env.scope = sc) {M : List Nat} {ts : List Expr} {e : Expr} {kt} {p pos : Pos} {m : DS} (h : cAsgT G sc c M ts e = some m) : QS X cm (.Assign [.Tuple ts kt p] e pos) m := by
  have tg : ∀ {q : List Nat × List DT}, cTgs G sc ts = some q → QG X cm q.1 (.Tuple ts kt p) (tT q.2) := fun {q} e1 => by
    obtain ⟨gs, l, fi⟩ := cTgs_ok (o := q.1) (ts := q.2) k e1
    exact qg_tup k.calm gs l fi
  unfold cAsgT at h
  split at h
  · split at h
    · rename_i hw
      split at h
      · rename_i q m' e1 e2
        cases h
        exact qs_asg (q_tup (cArgs_ok ok k e2).1) (tg e1) (sw_sole rfl) (swO_ok k.knd (by rw [he]; exact hw)) rfl
      · cases h
    · rename_i xs hw
      exact cPar_ok ok k he hw h
    · cases h
  · split at h
    · cases h
    · rename_i hn
      rw [not_or] at hn
      split at h
      · rename_i q m' e1 e2
        cases h
        exact qs_asg (ok.e X sc 0 _ m' k e2) (tg e1) (sw_sole (Bool.eq_false_iff.mpr hn.1)) (sw_notTup (Bool.eq_false_iff.mpr hn.2)) rfl
      · cases h
def cSt (G : Cg) (sc : Scope) (c : Co) (M : List Nat) (rf : Nat) (rec : List Stmt → Option DS) : Stmt → Option DS
  | .Pass _ => some sPass
  | .Break _ => some sBrk
  | .Continue _ => some sCnt
  | .Expr e _ => if isCpr e = true then none else (c.E sc 0 e).map sE
  | .Return (some e) _ => (c.E sc rf e).map sRet
  | .Return none _ => some sRetN
  | .If t a b _ => (match c.T sc t, rec a, rec b with
      | some mt, some ma, some mb => some (sIf mt ma mb)
      | _, _, _ => none)
  | .While t b [] _ => (match c.T sc t, rec b with
      | some mt, some mb => some (sWhile mt mb)
      | _, _ => none)
  | .For tg it b [] _ => (match cIt c G sc tg it, cTgt G sc tg, rec b with
      | some (fi, src), some (_, t), some mb => some (sFor t fi src mb)
      | _, _, _ => none)
  | .Raise _ _ _ => some sNev
  | .Assign [.Name x px] e _ => (match ixOf G.N x with
      | some i => if sc.names.lookup x = some .local ∨ sc.names.lookup x = some .cell then cAsgN G sc c (M.getD i 0) i x px e else none
      | none => none)
  | .Assign [.Tuple ts _ _] e _ => cAsgT G sc c M ts e
  | .Assign [.Subscript o i _] e _ => if isSlice i = true ∨ isCpr e = true then none else (match c.E sc 0 o, c.E sc 0 i, c.E sc 0 e with
      | some mo, some mi, some me => some (sSet pSet mo mi me)
      | _, _, _ => none)
  | _ => none
theorem cSt_ok (ok : c.Ok cm G) (k : CxOk X cm G sc) (he : X.env.scope = sc) {M : List Nat} {rf : Nat} {rec : List Stmt → Option DS} (hr : ∀ b m, rec b = some m → QSs X cm b m) {st : Stmt} {m : DS} (h : cSt G sc c M rf rec st = some m) : QS X cm st m := by
  unfold cSt at h
  split at h
  · cases h; exact qs_pass
  · cases h; exact qs_brk
  · cases h; exact qs_cnt
  · split at h
    · cases h
    · rename_i hs
      obtain ⟨m', e1, rfl⟩ := Option.map_eq_some_iff.mp h
      exact qs_expr (ok.e X sc 0 _ m' k e1) (sw_non (Bool.eq_false_iff.mpr hs))
  · obtain ⟨m', e1, rfl⟩ := Option.map_eq_some_iff.mp h
    exact qs_ret (ok.e X sc rf _ m' k e1)
  · cases h; exact qs_retN
  · split at h
    · rename_i mt ma mb e1 e2 e3
      cases h
      exact qs_if (ok.t X sc _ mt k e1) (hr _ _ e2) (hr _ _ e3)
    · cases h
  · split at h
    · rename_i mt mb e1 e2
      cases h
      exact qs_while k.pass (ok.t X sc _ mt k e1) (hr _ _ e2)
    · cases h
  · split at h
    · rename_i fi src o t mb e1 e2 e3
      cases h
      obtain ⟨qi, fo⟩ := cIt_ok ok k e1
      exact qs_for k.pass k.calm qi (cTgt_ok k e2) (hr _ _ e3) fo
    · cases h
  · cases h; exact qs_nev
  · split at h
    · rename_i i hi
      split at h
      · rename_i hx
        exact cAsgN_ok ok k he hi hx h
      · cases h
    · cases h
  · exact cAsgT_ok ok k he h
  · rename_i o i tpos e pos'
    split at h
    · cases h
    · rename_i hn
      rw [not_or] at hn
      split at h
      · rename_i mo mi me e1 e2 e3
        cases h
        refine qs_setItem k.un (ok.e X sc 0 _ mo k e1) (ok.e X sc 0 _ mi k e2) (ok.e X sc 0 _ me k e3) (sw_sole (Bool.eq_false_iff.mpr hn.2)) ?_ ?_
        · cases e <;> rfl
        · intro v
          have hq : isSlice i = false := Bool.eq_false_iff.mpr hn.1
          cases i <;> first | rfl | cases hq
      · cases h
  · cases h
def cSs (f : Stmt → Option DS) : List Stmt → Option DS
  | [] => some sNil
  | [s] => f s
  | s :: t :: r => (match f s, cSs f (t :: r) with
      | some a, some b => some (sCons a b)
      | _, _ => none)
theorem cSs_ok {f : Stmt → Option DS} (hf : ∀ s m, f s = some m → QS X cm s m) : ∀ {l : List Stmt} {m : DS}, cSs f l = some m → QSs X cm l m
  | [], _, h => by cases h; exact qs_nil
  | [s], m, h => qs_one (hf s m h)
  | s :: t :: r, m, h => by
    unfold cSs at h
    split at h
    · rename_i a b e1 e2
      cases h
      exact qs_cons (hf s a e1) (cSs_ok hf e2)
    · cases h
def cAtS (G : Cg) (sc : Scope) (c : Co) (M : List Nat) (rf : Nat) : Nat → List Stmt → Option DS
  | 0 => fun _ => none
  | n + 1 => cSs (cSt G sc c M rf (cAtS G sc c M rf n))
theorem cAtS_ok (ok : c.Ok cm G) (k : CxOk X cm G sc) (he : X.env.scope = sc) {M : List Nat} {rf : Nat} : ∀ (n : Nat) {l : List Stmt} {m : DS}, cAtS G sc c M rf n l = some m → QSs X cm l m
  | 0, _, _, h => by cases h
  | n + 1, l, m, h => cSs_ok (fun s m' h' => cSt_ok ok k he (fun b m2 h2 => cAtS_ok ok k he n h2) h') h
end

/-! ### a def -/
/-- the docstring and the like are constants: compiled as they are. The whole body. -/
def cBody (G : Cg) (sc : Scope) (M : List Nat) (rf : Nat) (body : List Stmt) : Option DS := cAtS G sc (cAt G 40) M rf 20 body
section
variable {P : Program} {w : World} {K : PySem.W.Frag} {mg : Str → Option Value} {base : Heap} {cm : Nat → Addr}
def EntG (P : Program) (w : World) (K : PySem.W.Frag) (mg : Str → Option Value) (base : Heap) (cm : Nat → Addr) (k : Nat) (x : Str) : Ent → Prop
  | .con w => ∃ u v, mg x = some u ∧ RelV v u ∧ plainK w v = true
  | .fn f ps nd _ => ∃ fA fd, mg x = some (.ref fA) ∧ PySem.W.keepIn K (.ref fA) = true ∧ FnG P w K mg base CX0 k fA fd ps (spRun K cm ps.length f) ∧ Binds K fd ps [] ∧ (nd = 1 → Binds K fd ps [.none])
  | .kwd y f n ks ix _ => ∃ fA fd ps, mg y = some (.ref fA) ∧ PySem.W.keepIn K (.ref fA) = true ∧ FnG P w K mg base CX0 k fA fd ps (spRun K cm n f) ∧ KwB K fd ps ks (permU ix) (permV ix)
def Tb (P : Program) (w : World) (K : PySem.W.Frag) (mg : Str → Option Value) (base : Heap) (cm : Nat → Addr) (k : Nat) (T : List (Str × Ent)) : Prop := ∀ x en, T.lookup x = some en → EntG P w K mg base cm k x en
theorem EntG.mono {j k : Nat} (h : j ≤ k) {x : Str} {en : Ent} (e : EntG P w K mg base cm j x en) : EntG P w K mg base cm k x en := by
  cases en with
  | con w => exact e
  | fn f ps nd cl =>
    obtain ⟨fA, fd, h1, h2, h3, h4, h5⟩ := e
    exact ⟨fA, fd, h1, h2, h3.mono h, h4, h5⟩
  | kwd y f n ks ix cl =>
    obtain ⟨fA, fd, ps, h1, h2, h3, h4⟩ := e
    exact ⟨fA, fd, ps, h1, h2, h3.mono h, h4⟩
theorem plainK_str {x : Str} : plainK (.str x) (.str x) = true := decide_eq_true rfl
theorem plainK_int {i : Int} : plainK (.int i) (.int i) = true := beq_self_eq_true _
theorem Tb.nil {k : Nat} : Tb P w K mg base cm k [] := fun _ _ h => nomatch h
theorem Tb.cons {j k : Nat} {T : List (Str × Ent)} {x : Str} {en : Ent} (t : Tb P w K mg base cm j T) (h : j ≤ k) (e : EntG P w K mg base cm k x en) : Tb P w K mg base cm k ((x, en) :: T) := fun y en' h' => by
  rw [List.lookup_cons] at h'
  split at h'
  · rename_i hy
    cases h'
    rw [eq_of_beq hy]
    exact e
  · exact (t y en' h').mono h
theorem def_ok {k : Nat} {T : List (Str × Ent)} {B N ps : List Str} {M : List Nat} {rf : Nat} {md : Mode} {m : DS} {x qual : Str} {params : Arguments} {body : List Stmt} {scope : Scope} {dvs : List V} {kws : List (Str × V)} {fA : Addr} {fd : FuncData}
    (F : FunD K x qual params body scope dvs kws fA fd) (S : FnScope N ps scope) (tb : Tb P w K mg base cm k T) (hB : ∀ x ∈ B, mg x = none) (hc : cBody ⟨T, B, N⟩ scope M rf body = some m) :
    FnG P w K mg base CX0 (k + 1) fA fd ps (spRun K cm ps.length (runDef N.length md m)) := by
  refine fnG_of F S (fun vs H Q E h => ?_) fun cdv A outer s H vs Q E gd hr h => ⟨_, PSs.nox (t := tOS K cm m) ?_, body_ok h ?_⟩
  · obtain ⟨mu, Z, h, ws, w, h', rl, rs, hl, e, f⟩ := h
    rw [rs.length, hl]
  · have k' : CxOk (cxOf CX0 P w K mg base N qual scope fA cdv A outer s H E).nox cm ⟨T, B, N⟩ scope := by
      refine ⟨rfl, S.nd, rfl, rfl, S.kind, fun _ h => h, fun _ h => ⟨h, rfl⟩, fun x h => ?_, fun _ h => h, ?_, gd, fun x en e => ?_, hB⟩
      · exact absurd rfl (S.nofree _ (PySem.mem_of_lookup h))
      · have := hr.un
        show (A.deeper (envOfC qual scope s.heap.objs.size fA cdv)).units + 65 < cLine
        omega
      · have := tb x en e
        cases en with
        | con w => exact this
        | fn f ps nd cl =>
          obtain ⟨fA', fd', h1, h2, h3, h4, h5⟩ := this
          exact ⟨fA', fd', k, h1, h2, h3, hr, h4, h5⟩
        | kwd y f n ks ix cl =>
          obtain ⟨fA', fd', ps', h1, h2, h3, h4⟩ := this
          exact ⟨fA', fd', k, ps', h1, h2, h3, hr, h4⟩
    exact cAtS_ok (cAt_ok cm ⟨T, B, N⟩ 40) k' rfl 20 hc
  · have := congrArg List.length S.pre
    rw [List.length_take] at this
    omega
/-! calls by keywords bind -/
theorem kwb0 {x qual : Str} {params : Arguments} {body : List Stmt} {scope : Scope} {kws : List (Str × V)} {f : Addr} {fd : FuncData} {ps ks : List Str} {ix : List Nat} (F : FunD K x qual params body scope [] kws f fd)
    (h : ∀ (kV doc pm : Value) (an : Option Addr) (cdv ct : Value) (ws : List Value), ws.length = ks.length → bindArgs (PySem.W.fnOf x qual params body scope .none kV doc pm an cdv ct) ⟨[], ks.zip ws⟩ = pure (ps.zip (permU ix ws))) : KwB K fd ps ks (permU ix) (permV ix) := by
  obtain ⟨oc, od, dV, kV, doc, pm, an, cdv, ct, osl, rfl, lk, hcd, hD, hK⟩ := F.ex
  rcases hD with ⟨_, rfl⟩ | ⟨e, _⟩
  · exact ⟨fun s ws _ hl => .of_eq (h kV doc pm an cdv ct ws hl), perm_rel⟩
  · exact absurd rfl e
theorem kwb1 {x qual : Str} {params : Arguments} {body : List Stmt} {scope : Scope} {kws : List (Str × V)} {f : Addr} {fd : FuncData} {ps ks : List Str} {ix : List Nat} (F : FunD K x qual params body scope [.non] kws f fd)
    (h : ∀ (T : Addr) (kV doc pm : Value) (an : Option Addr) (cdv ct : Value) (ws its : List Value), ws.length = ks.length → its.length = 1 →
      ∃ k, bindArgs (PySem.W.fnOf x qual params body scope (.ref T) kV doc pm an cdv ct) ⟨[], ks.zip ws⟩ = seqItems? (.ref T) >>= k ∧ k (some its.toArray) = pure (ps.zip (permU ix (ws ++ its)))) : KwB K fd ps ks (permU ix) (permV ix) := by
  obtain ⟨oc, od, dV, kV, doc, pm, an, cdv, ct, osl, rfl, lk, hcd, hD, hK⟩ := F.ex
  rcases hD with ⟨e, _⟩ | ⟨_, T, o, its, m, rfl, lT, oT, rT⟩
  · cases e
  · refine ⟨fun s ws X hl => ?_, perm_rel⟩
    have hi : its = [.none] := by
      cases rT with
      | cons r t =>
        cases t
        cases r
        rfl
    subst hi
    obtain ⟨k, e1, e2⟩ := h T kV doc pm an cdv ct ws [.none] hl rfl
    have ep : permU ix (ws ++ [.none]) = permU ix ws := by
      unfold permU
      refine List.map_congr_left fun i _ => ?_
      rw [List.getD_eq_getElem?_getD, List.getD_eq_getElem?_getD]
      by_cases hi : i < ws.length
      · rw [List.getElem?_append_left hi]
      · rw [List.getElem?_append_right (by omega), List.getElem?_eq_none (by omega : ws.length ≤ i)]
        cases i - ws.length <;> rfl
    rw [ep] at e2
    refine BindsTo.of_looks fun M => ?_
    rw [e1]
    exact looks_items X lT oT (.of_pure e2)
theorem sp_start {n : Nat} {f : Fn} (hl : ∀ ns : List Int, ns.length ≤ n → f [.scr ns] [] = .ok (.bl true, [])) (H : Hp) (a : Addr) (ns : List Int) (h : ns.length ≤ n) (hS : SqL K H a (ns.map V.int)) : spRun K cm 1 f [.ref a] H (fun v _ => v = .bl true) (fun _ _ _ => False) :=
  ⟨[], H, [], [.scr ns], .bl true, [], ⟨rfl, List.nodup_nil, fun a u e => (by cases u <;> first | exact e | exact .inl e), fun _ h => (nomatch h), fun _ _ _ h _ => (nomatch h)⟩, ⟨.ref a, [], rfl, ⟨a, rfl, hS⟩, rfl⟩, rfl, hl ns h, fun _ _ _ _ _ _ q => q⟩
end
end Ti


/-! Ti: running bodies, plain Lean: what a run gives. -/
namespace Ti
open PySem

/-- the run gives a value that Q holds of -/
def T {α : Type} (r : Res α) (Q : α → Prop) : Prop := ∃ a, r = .ok a ∧ Q a
section
variable {α β : Type} {Q Q' : α → Prop} {r : Res α}
@[simp] theorem T_ok {a : α} : T (.ok a) Q ↔ Q a := ⟨fun ⟨b, e, q⟩ => (by cases e; exact q), fun q => ⟨a, rfl, q⟩⟩
@[simp] theorem T_bad : T .bad Q ↔ False := ⟨fun ⟨b, e, q⟩ => (by cases e), fun q => False.elim q⟩
@[simp] theorem T_exc {e : W} {h : Hh} : T (.exc e h) Q ↔ False := ⟨fun ⟨b, e, q⟩ => (by cases e), fun q => False.elim q⟩
@[simp] theorem T_bind {f : α → Res β} {Q : β → Prop} : T (r.bind f) Q ↔ T r (fun a => T (f a) Q) :=
  ⟨fun ⟨b, e, q⟩ => (by obtain ⟨a, e1, e2⟩ := Res.bind_eq_ok e; exact ⟨a, e1, b, e2, q⟩), fun ⟨a, e1, b, e2, q⟩ => ⟨b, (by rw [e1]; exact e2), q⟩⟩
theorem T.mono (h : T r Q) (i : ∀ a, Q a → Q' a) : T r Q' := let ⟨a, e, q⟩ := h; ⟨a, e, i a q⟩
theorem T.eq {a : α} (h : T r (· = a)) : r = .ok a := let ⟨b, e, q⟩ := h; by rw [e, q]
theorem T.of {a : α} (e : r = .ok a) (q : Q a) : T r Q := ⟨a, e, q⟩
@[simp] theorem T_ofO {o : Option α} : T (ofO o) Q ↔ ∃ a, o = some a ∧ Q a := by
  cases o with
  | none => exact ⟨fun ⟨a, e, q⟩ => (by cases e), fun ⟨a, e, q⟩ => (by cases e)⟩
  | some a => exact ⟨fun ⟨b, e, q⟩ => (by cases e; exact ⟨_, rfl, q⟩), fun ⟨b, e, q⟩ => (by cases e; exact ⟨_, rfl, q⟩)⟩
theorem T_ite {c : Prop} [Decidable c] {r r' : Res α} : T (if c then r else r') Q ↔ if c then T r Q else T r' Q := by split <;> rfl
end
section
variable {ρ : Env} {h : Hh} {Q : W × Hh → Prop} {Qs : Fl × Env × Hh → Prop} {Qe : Env × Hh → Prop} {a b c : DE}
@[simp] theorem r_eK {w : W} : eK w ρ h = .ok (w, h) := rfl.trans rfl
@[simp] theorem r_eV0 {x : W} {r : Env} : eV 0 (some x :: r) h = .ok (x, h) := rfl.trans rfl
@[simp] theorem r_eVs {i : Nat} {x : Option W} {r : Env} : eV (i + 1) (x :: r) h = eV i r h := rfl.trans rfl
@[simp] theorem r_e1 {f : F1} : e1 f a ρ h = (a ρ h).bind fun p => f p.1 p.2 := rfl.trans rfl
@[simp] theorem r_e2 {f : F2} : e2 f a b ρ h = (a ρ h).bind fun p => (b ρ p.2).bind fun q => f p.1 q.1 q.2 := rfl.trans rfl
@[simp] theorem r_e3 {f : F3} : e3 f a b c ρ h = (a ρ h).bind fun p => (b ρ p.2).bind fun q => (c ρ q.2).bind fun r => f p.1 q.1 r.1 r.2 := rfl.trans rfl
@[simp] theorem r_eL0 : eL [] ρ h = .ok ([], h) := rfl.trans rfl
@[simp] theorem r_eLs {es : List DE} : eL (a :: es) ρ h = (a ρ h).bind fun p => (eL es ρ p.2).bind fun q => .ok (p.1 :: q.1, q.2) := rfl.trans rfl
@[simp] theorem r_eF {f : Fn} {es : List DE} : eF f es ρ h = (eL es ρ h).bind fun p => f p.1 p.2 := rfl.trans rfl
@[simp] theorem r_eAnd : eAnd a b ρ h = (a ρ h).bind fun p => (ofO (truthy p.2 p.1)).bind fun k => if k = true then b ρ p.2 else .ok p := rfl.trans rfl
@[simp] theorem r_eOr : eOr a b ρ h = (a ρ h).bind fun p => (ofO (truthy p.2 p.1)).bind fun k => if k = true then .ok p else b ρ p.2 := rfl.trans rfl
@[simp] theorem r_eNot : eNot a ρ h = (a ρ h).bind fun p => (ofO (truthy p.2 p.1)).bind fun k => .ok (.bl (!k), p.2) := rfl.trans rfl
@[simp] theorem r_eIf : eIf c a b ρ h = (c ρ h).bind fun p => (ofO (truthy p.2 p.1)).bind fun k => if k = true then a ρ p.2 else b ρ p.2 := rfl.trans rfl
@[simp] theorem r_eChain {f g : F2} : eChain f g a b c ρ h = (a ρ h).bind fun p => (b ρ p.2).bind fun q => (f p.1 q.1 q.2).bind fun r =>
  match r.1 with
  | .bl k => if k = true then (c ρ r.2).bind fun s => g q.1 s.1 s.2 else .ok (.bl false, r.2)
  | _ => .bad := rfl.trans rfl
@[simp] theorem r_eTree : eTree a ρ h = (a ρ h).bind fun p => fin .deep h.length p.1 p.2 := rfl.trans rfl
@[simp] theorem r_eLst {k : Bool} {es : List DE} : eLst k es ρ h = (eL es ρ h).bind fun p => mkL k p.1 p.2 := rfl.trans rfl
@[simp] theorem r_eTup {es : List DE} : eTup es ρ h = (eL es ρ h).bind fun p => if p.1.length ≤ lineW then .ok (.tup p.1, p.2) else .bad := rfl.trans rfl
@[simp] theorem r_eDic {k kd : Bool} : eDic k kd ρ h = mkD k kd [] h := rfl.trans rfl
@[simp] theorem r_tN {i : Nat} {w : W} : tN i w ρ h = .ok (ρ.set i (some w), h) := rfl.trans rfl
@[simp] theorem r_tL0 : tL [] [] ρ h = .ok (ρ, h) := rfl.trans rfl
@[simp] theorem r_tLs {t : DT} {ts : List DT} {w : W} {ws : List W} : tL (t :: ts) (w :: ws) ρ h = (t w ρ h).bind fun p => tL ts ws p.1 p.2 := rfl.trans rfl
@[simp] theorem r_tT {ts : List DT} {ws : List W} : tT ts (.tup ws) ρ h = tL ts ws ρ h := rfl.trans rfl
@[simp] theorem r_sNil : sNil ρ h = .ok (.nx, ρ, h) := rfl.trans rfl
@[simp] theorem r_sPass : sPass ρ h = .ok (.nx, ρ, h) := rfl.trans rfl
@[simp] theorem r_sE : sE a ρ h = (a ρ h).bind fun p => .ok (.nx, ρ, p.2) := rfl.trans rfl
@[simp] theorem r_sAsg {t : DT} : sAsg t a ρ h = (a ρ h).bind fun p => (t p.1 ρ p.2).bind fun q => .ok (.nx, q) := rfl.trans rfl
@[simp] theorem r_sRet : sRet a ρ h = (a ρ h).bind fun p => .ok (.rt p.1, ρ, p.2) := rfl.trans rfl
@[simp] theorem r_sRetN : sRetN ρ h = .ok (.rt .non, ρ, h) := rfl.trans rfl
@[simp] theorem r_sBrk : sBrk ρ h = .ok (.bk, ρ, h) := rfl.trans rfl
@[simp] theorem r_sCnt : sCnt ρ h = .ok (.ct, ρ, h) := rfl.trans rfl
@[simp] theorem r_sNev : sNev ρ h = .bad := rfl.trans rfl
@[simp] theorem r_sIf {s t : DS} : sIf c s t ρ h = (c ρ h).bind fun p => (ofO (truthy p.2 p.1)).bind fun k => if k = true then s ρ p.2 else t ρ p.2 := rfl.trans rfl
@[simp] theorem r_sSet {f : F3} : sSet f a b c ρ h = (c ρ h).bind fun p => (a ρ p.2).bind fun q => (b ρ q.2).bind fun r => (f q.1 r.1 p.1 r.2).bind fun s => .ok (.nx, ρ, s.2) := rfl.trans rfl
/-- what comes behind a statement -/
def andThen (b : DS) (q : Fl × Env × Hh) : Res (Fl × Env × Hh) := match q.1 with
  | .nx => b q.2.1 q.2.2
  | f => .ok (f, q.2)
@[simp] theorem r_sCons {s t : DS} : sCons s t ρ h = (s ρ h).bind (andThen t) := rfl.trans rfl
@[simp] theorem andThen_nx {b : DS} {q : Env × Hh} : andThen b (.nx, q) = b q.1 q.2 := rfl.trans rfl
@[simp] theorem andThen_rt {b : DS} {w : W} {q : Env × Hh} : andThen b (.rt w, q) = .ok (.rt w, q) := rfl.trans rfl
@[simp] theorem andThen_bk {b : DS} {q : Env × Hh} : andThen b (.bk, q) = .ok (.bk, q) := rfl.trans rfl
@[simp] theorem andThen_ct {b : DS} {q : Env × Hh} : andThen b (.ct, q) = .ok (.ct, q) := rfl.trans rfl
/-- how a def ends -/
def handBack (m : Mode) (n : Nat) (q : Fl × Env × Hh) : R1 := match q.1 with
  | .nx => fin m n .non q.2.2
  | .rt w => fin m n w q.2.2
  | _ => .bad
theorem r_run {n : Nat} {m : Mode} {b : DS} {ws : List W} : runDef n m b ws h = (b (ws.map some ++ List.replicate (n - ws.length) none) h).bind (handBack m h.length) := rfl.trans rfl
@[simp] theorem hb_nx {m : Mode} {n : Nat} {q : Env × Hh} : handBack m n (.nx, q) = fin m n .non q.2 := rfl.trans rfl
@[simp] theorem hb_rt {m : Mode} {n : Nat} {w : W} {q : Env × Hh} : handBack m n (.rt w, q) = fin m n w q.2 := rfl.trans rfl
@[simp] theorem hb_bk {m : Mode} {n : Nat} {q : Env × Hh} : handBack m n (.bk, q) = .bad := rfl.trans rfl
@[simp] theorem hb_ct {m : Mode} {n : Nat} {q : Env × Hh} : handBack m n (.ct, q) = .bad := rfl.trans rfl
theorem fin_same {w : W} {h' : Hh} {n : Nat} (hn : nor w = true) (hl : h'.length = n) : fin .deep n w h' = .ok (w, h') := by
  unfold fin
  rw [thaw_nor hn, ← hl, List.take_length]
  rfl
theorem fin_here {w : W} (hn : nor w = true) : fin .deep h.length w h = .ok (w, h) := fin_same hn rfl
@[simp] theorem fin_raw {w : W} {n : Nat} : fin .raw n w h = .ok (w, h) := rfl.trans rfl
@[simp] theorem mkL_f {ws : List W} (hl : ws.length ≤ lineW) : mkL false ws h = .ok (.lst ws, h) := by
  unfold mkL
  rw [if_pos hl]
  rfl
@[simp] theorem r_eCall {f : Fn} {n : Nat} {ds : List W} {es : List DE} : eCall f n ds es ρ h = (eL es ρ h).bind fun p => if (p.1 ++ ds).length = n then f (p.1 ++ ds) p.2 else .bad := rfl.trans rfl
@[simp] theorem r_l1 {g : F1} {x : W} : l1 g [x] h = g x h := rfl.trans rfl
@[simp] theorem r_l2 {g : F2} {x y : W} : l2 g [x, y] h = g x y h := rfl.trans rfl
@[simp] theorem r_l3 {g : F3} {x y z : W} : l3 g [x, y, z] h = g x y z h := rfl.trans rfl
@[simp] theorem r_eM {t : MTy} {g : Fn} {es : List DE} : eM t g a es ρ h = (a ρ h).bind fun p => if isMT t p.2 p.1 = true then (eL es ρ p.2).bind fun q => g (p.1 :: q.1) q.2 else .bad := rfl.trans rfl

@[simp] theorem nor_non : nor .non = true := rfl.trans rfl
@[simp] theorem nor_bl {b : Bool} : nor (.bl b) = true := rfl.trans rfl
@[simp] theorem nor_int {i : Int} : nor (.int i) = true := rfl.trans rfl
@[simp] theorem nor_str {x : Str} : nor (.str x) = true := rfl.trans rfl
@[simp] theorem nor_tup {ws : List W} : nor (.tup ws) = nors ws := rfl.trans rfl
@[simp] theorem nor_lst {ws : List W} : nor (.lst ws) = nors ws := rfl.trans rfl
@[simp] theorem nors_nil : nors [] = true := rfl.trans rfl
@[simp] theorem nors_cons {w : W} {ws : List W} : nors (w :: ws) = (nor w && nors ws) := rfl.trans rfl
@[simp] theorem fin_int {n : Int} : fin .deep h.length (.int n) h = .ok (.int n, h) := fin_here rfl
@[simp] theorem fin_bl {n : Bool} : fin .deep h.length (.bl n) h = .ok (.bl n, h) := fin_here rfl
@[simp] theorem fin_str {n : Str} : fin .deep h.length (.str n) h = .ok (.str n, h) := fin_here rfl
@[simp] theorem fin_non : fin .deep h.length .non h = .ok (.non, h) := fin_here rfl
@[simp] theorem truthy_bl {b : Bool} : truthy h (.bl b) = some b := rfl.trans rfl
@[simp] theorem truthy_non : truthy h .non = some false := rfl.trans rfl
@[simp] theorem truthy_int {i : Int} : truthy h (.int i) = some (i != 0) := rfl.trans rfl

@[simp] theorem add_int {k : Bool} {i j : Int} : pAdd k (.int i) (.int j) h = .ok (.int (i + j), h) := rfl.trans rfl
@[simp] theorem sub_int {i j : Int} : pSub (.int i) (.int j) h = .ok (.int (i - j), h) := rfl.trans rfl
theorem mul_int {k : Bool} {i j : Int} (m : mulOk i j = true) : pMul k (.int i) (.int j) h = .ok (.int (i * j), h) := if_pos m
@[simp] theorem lt_int {i j : Int} : pLt (.int i) (.int j) h = .ok (.bl (decide (i < j)), h) := rfl.trans rfl
@[simp] theorem le_int {i j : Int} : pLe (.int i) (.int j) h = .ok (.bl (decide (i ≤ j)), h) := rfl.trans rfl
@[simp] theorem gt_int {i j : Int} : pGt (.int i) (.int j) h = .ok (.bl (decide (j < i)), h) := rfl.trans rfl
@[simp] theorem ge_int {i j : Int} : pGe (.int i) (.int j) h = .ok (.bl (decide (j ≤ i)), h) := rfl.trans rfl
@[simp] theorem is_non {x : W} : pIs x .non h = .ok (.bl (isNon x), h) := rfl.trans rfl
@[simp] theorem isN_non {x : W} : pIsN x .non h = .ok (.bl (!isNon x), h) := rfl.trans rfl
@[simp] theorem isNon_non : isNon .non = true := rfl.trans rfl
@[simp] theorem isNon_int {i : Int} : isNon (.int i) = false := rfl.trans rfl
@[simp] theorem isNon_str {i : Str} : isNon (.str i) = false := rfl.trans rfl

/-! ### loops -/
theorem T_while {Q : Fl × Env × Hh → Prop} {s : DS} (I : Nat → Env → Hh → Prop) {n : Nat} (hn : n < bigFuel) (h0 : I n ρ h)
    (hs : ∀ n ρ h, I n ρ h → T (c ρ h) fun p => ∃ k, truthy p.2 p.1 = some k ∧ if k = true then T (s ρ p.2) fun q => (match q.1 with
      | .nx => ∃ m, m < n ∧ I m q.2.1 q.2.2
      | .ct => ∃ m, m < n ∧ I m q.2.1 q.2.2
      | .bk => Q (.nx, q.2)
      | .rt w => Q (.rt w, q.2)) else Q (.nx, ρ, p.2)) : T (sWhile c s ρ h) Q := by
  have key : ∀ (f : Nat) (n : Nat) (ρ : Env) (h : Hh), n < f → I n ρ h → T (whileG c s f ρ h) Q := by
    intro f
    induction f with
    | zero => intro n ρ h hf; omega
    | succ f ih =>
      intro n ρ h hf hI
      obtain ⟨p, e1, k, e2, hk⟩ := hs n ρ h hI
      show T ((c ρ h).bind fun p => (ofO (truthy p.2 p.1)).bind fun k => if k = true then (s ρ p.2).bind fun q => (match q.1 with
        | .nx => whileG c s f q.2.1 q.2.2
        | .ct => whileG c s f q.2.1 q.2.2
        | .bk => .ok (.nx, q.2)
        | .rt w => .ok (.rt w, q.2))
        else .ok (.nx, ρ, p.2)) Q
      rw [e1]
      simp only [Res.bind_ok]
      rw [e2]
      simp only [ofO_some, Res.bind_ok]
      cases k with
      | false => exact T_ok.mpr hk
      | true =>
        obtain ⟨q, e3, hq⟩ := (show T (s ρ p.2) _ from hk)
        rw [if_pos rfl, e3]
        obtain ⟨fl, ρ', h'⟩ := q
        cases fl with
        | nx => obtain ⟨m, hm, hq⟩ := hq; exact ih m _ _ (by omega) hq
        | ct => obtain ⟨m, hm, hq⟩ := hq; exact ih m _ _ (by omega) hq
        | bk => exact T_ok.mpr hq
        | rt w => exact T_ok.mpr hq
  exact key bigFuel n ρ h hn h0
/-- over items that do not change -/
theorem T_forG {Q : Fl × Env × Hh → Prop} {keep : Hh → Bool} {tg : DT} {s : DS} {xs : List W} (I : Nat → Env → Hh → Prop) (hk : ∀ i ρ h, I i ρ h → keep h = true) (h0 : I 0 ρ h)
    (hs : ∀ i x ρ h, xs[i]? = some x → I i ρ h → T (tg x ρ h) fun p => T (s p.1 p.2) fun q => (match q.1 with
      | .nx => I (i + 1) q.2.1 q.2.2
      | .ct => I (i + 1) q.2.1 q.2.2
      | .bk => Q (.nx, q.2)
      | .rt w => Q (.rt w, q.2))) (he : ∀ ρ h, I xs.length ρ h → Q (.nx, ρ, h)) : T (forG keep tg s xs ρ h) Q := by
  have key : ∀ (ys : List W) (i : Nat) (ρ : Env) (h : Hh), xs.drop i = ys → i + ys.length = xs.length → I i ρ h → T (forG keep tg s ys ρ h) Q := by
    intro ys
    induction ys with
    | nil =>
      intro i ρ h _ hl hI
      show T (if keep h = true then .ok (.nx, ρ, h) else .bad) Q
      rw [if_pos (hk i ρ h hI)]
      exact T_ok.mpr (he ρ h (by rw [← hl]; exact hI))
    | cons y ys ih =>
      intro i ρ h hd hl hI
      have hy : xs[i]? = some y := by
        have := congrArg (·[0]?) hd
        simp only [List.getElem?_drop, Nat.add_zero, List.getElem?_cons_zero] at this
        exact this
      have hd2 : xs.drop (i + 1) = ys := by
        rw [← List.drop_drop, hd]; rfl
      obtain ⟨p, e1, q, e2, hq⟩ := hs i y ρ h hy hI
      show T (if keep h = true then (tg y ρ h).bind fun p => (s p.1 p.2).bind fun q => match q.1 with
        | .nx => forG keep tg s ys q.2.1 q.2.2
        | .ct => forG keep tg s ys q.2.1 q.2.2
        | .bk => .ok (.nx, q.2)
        | .rt w => .ok (.rt w, q.2)
        else .bad) Q
      rw [if_pos (hk i ρ h hI), e1, Res.bind_ok, e2, Res.bind_ok]
      obtain ⟨fl, ρ', h'⟩ := q
      cases fl with
      | nx => exact ih (i + 1) ρ' h' hd2 (by rw [List.length_cons] at hl; omega) hq
      | ct => exact ih (i + 1) ρ' h' hd2 (by rw [List.length_cons] at hl; omega) hq
      | bk => exact T_ok.mpr hq
      | rt w => exact T_ok.mpr hq
  exact key xs 0 ρ h List.drop_zero (by simp) h0
@[simp] theorem r_sFor {tg : DT} {fi : FI} {src : List DE} {s : DS} : sFor tg fi src s ρ h = (eL src ρ h).bind fun p => (ofO (fi p.1 p.2)).bind fun sr => forG sr.keep tg s sr.items ρ p.2 := rfl.trans rfl
/-- a comprehension over items that do not change; the items kept: b, made: r -/
theorem compG_pure {keep : Hh → Bool} {own : List Nat} {tg : DT} {elt : DE} {xs : List W} {h : Hh} (b : W → Bool) (r : W → W) (cd : Option DE) (hk : keep h = true) {acc : List W}
    (hs : ∀ x ∈ xs, ∃ ρ', tg x (wipeW ρ own) h = .ok (ρ', h) ∧ (match cd with
      | none => b x = true
      | some c => ∃ w, c ρ' h = .ok (w, h) ∧ truthy h w = some (b x)) ∧ (b x = true → elt ρ' h = .ok (r x, h))) (hl : acc.length + xs.length ≤ lineW) :
    compG keep own tg cd elt ρ xs acc h = .ok (acc ++ (xs.filter b).map r, h) := by
  induction xs generalizing acc with
  | nil => simp [compG, hk]
  | cons x xs ih =>
    obtain ⟨ρ', e1, e2, e3⟩ := hs x List.mem_cons_self
    have ih' := fun acc hl => ih (acc := acc) (fun y hy => hs y (List.mem_cons_of_mem _ hy)) hl
    have hlt : acc.length < lineW := by rw [List.length_cons] at hl; omega
    unfold compG
    rw [if_pos hk, e1, Res.bind_ok]
    cases cd with
    | none =>
      have e2 : b x = true := e2
      simp only [e3 e2, Res.bind_ok, if_pos hlt]
      rw [ih' _ (by simp; rw [List.length_cons] at hl; omega), List.filter_cons, if_pos e2]
      simp
    | some c =>
      obtain ⟨w, e4, e5⟩ := e2
      simp only [e4, Res.bind_ok, e5, ofO_some]
      cases hb : b x with
      | true =>
        simp only [if_true, e3 hb, Res.bind_ok, if_pos hlt]
        rw [ih' _ (by simp; rw [List.length_cons] at hl; omega), List.filter_cons, if_pos hb]
        simp
      | false =>
        simp only [Bool.false_eq_true, if_false]
        rw [ih' _ (by rw [List.length_cons] at hl; omega), List.filter_cons, if_neg (by rw [hb]; decide)]
@[simp] theorem r_eComp {k : Bool} {own : List Nat} {tg : DT} {fi : FI} {src : List DE} {cd : Option DE} {elt : DE} : eComp k own tg fi src cd elt ρ h =
  (eL src ρ h).bind fun p => (ofO (fi p.1 p.2)).bind fun s => (compG s.keep own tg cd elt ρ s.items [] p.2).bind fun q => mkL k q.1 q.2 := rfl.trans rfl
end

/-! ### walks -/
theorem okR_of {i : Int} (h1 : -1000000000000 ≤ i) (h2 : i ≤ 1000000000000) : okR i = true := by
  unfold okR
  exact decide_eq_true (by omega)
theorem range_one {n : Int} {h : Hh} (h1 : -1000000000000 ≤ n) (h2 : n ≤ 1000000000000) : fiR [.int n] h = some ⟨rangeW 0 n.toNat, fun _ => true⟩ := by
  unfold fiR
  simp only [okR_of h1 h2, if_true]
theorem range_nat {n : Nat} {h : Hh} (h2 : n ≤ 1000000000000) : fiR [.int (n : Int)] h = some ⟨rangeW 0 n, fun _ => true⟩ := range_one (n := (n : Int)) (by omega) (by omega)
theorem range_two {a b : Int} {h : Hh} (h1 : -1000000000000 ≤ a) (h2 : a ≤ 1000000000000) (h3 : -1000000000000 ≤ b) (h4 : b ≤ 1000000000000) : fiR [.int a, .int b] h = some ⟨rangeW a (b - a).toNat, fun _ => true⟩ := by
  unfold fiR
  simp only [okR_of h1 h2, okR_of h3 h4, if_true, Bool.and_self]
theorem range_len {a : Int} {n : Nat} : (rangeW a n).length = n := by unfold rangeW; rw [List.length_map, List.length_range]
theorem range_get {a : Int} {n i : Nat} {x : W} (e : (rangeW a n)[i]? = some x) : i < n ∧ x = .int (a + (i : Int)) := by
  have hi : i < n := by
    have := (List.getElem?_eq_some_iff.mp e).1
    rwa [range_len] at this
  rw [range_items hi] at e
  cases e
  exact ⟨hi, rfl⟩
@[simp] theorem fiL_lst {ws : List W} {h : Hh} : fiL [.lst ws] h = some ⟨ws, fun _ => true⟩ := rfl.trans rfl
@[simp] theorem fiL_tup {ws : List W} {h : Hh} : fiL [.tup ws] h = some ⟨ws, fun _ => true⟩ := rfl.trans rfl
@[simp] theorem fiL_str {l : List Nat} {h : Hh} : fiL [.str (mkS l)] h = some ⟨l.map fun c => .str (mkS [c]), fun _ => true⟩ := rfl.trans rfl

/-! ### texts -/
@[simp] theorem mkS_len (l : List Nat) : (mkS l).length = l.length := by simp [mkS, Str.length]
@[simp] theorem sg_mk (l : List Nat) : sg (mkS l) = l := rfl.trans rfl
@[simp] theorem mkS_eq {a b : List Nat} : (mkS a = mkS b) ↔ a = b := ⟨mkS_inj, fun e => by rw [e]⟩
@[simp] theorem strFine_mk (l : List Nat) : strFine (mkS l) = (l.all (fun c => decide (c < 128)) && decide (l.length ≤ 1000000)) := by
  unfold strFine
  rw [mkS_len]
  simp [mkS]
theorem mkS_app (a b : List Nat) : mkS a ++ mkS b = mkS (a ++ b) := by
  show Str.mk (a.toArray ++ b.toArray) = _
  simp [mkS]
end Ti


/-! Ti: the laws' purses (where their numbers come from), the first form. -/
namespace Ti
open PySem
theorem lt_log {n k : Nat} (h : n < 2 ^ k) (hk : 0 < k) : n.log2 < k := by
  by_cases h0 : n = 0
  · subst h0; simpa using hk
  · exact (Nat.log2_lt h0).mpr h
theorem mulOk_of {i j : Int} (hi : i.natAbs < 2 ^ 256) (hj : j.natAbs < 2 ^ 256) : mulOk i j = true := by
  unfold mulOk
  have h1 := lt_log hi (by omega)
  have h2 := lt_log hj (by omega)
  exact decide_eq_true (by omega)
/-- a purse: its number, its cell, how many draws, its place -/
structure Pu where
  a : Int
  b : Int
  c : Int
  d : Int
def Pu.ws (p : Pu) : List W := [.int p.a, .int p.b, .int p.c, .int p.d]
def Pu.cell (p : Pu) : Cell := .lst p.ws
structure Pu.Ok (p : Pu) (B : Nat) : Prop where
  a0 : 0 ≤ p.a
  b0 : 0 ≤ p.b
  b1 : p.b < 2147483629
  c0 : 0 ≤ p.c
  c1 : p.c ≤ B
  d0 : 0 ≤ p.d
  d1 : p.d ≤ 1000
section
variable {H : Hh} {i : Nat} {p : Pu}
theorem pu_asL (h : H[i]? = some p.cell) : asL H (.ref i) = some p.ws := by
  show (match H[i]? with
    | some (.lst ws) => some ws
    | some (.frz (.lst ws)) => some ws
    | _ => none) = _
  rw [h]
  rfl
theorem pu_ix0 (h : H[i]? = some p.cell) : pIx (.ref i) (.int 0) H = .ok (.int p.a, H) := by
  unfold pIx ixW
  simp only [pu_asL h]
  rfl
theorem pu_ix1 (h : H[i]? = some p.cell) : pIx (.ref i) (.int 1) H = .ok (.int p.b, H) := by
  unfold pIx ixW
  simp only [pu_asL h]
  rfl
theorem pu_ix2 (h : H[i]? = some p.cell) : pIx (.ref i) (.int 2) H = .ok (.int p.c, H) := by
  unfold pIx ixW
  simp only [pu_asL h]
  rfl
theorem pu_ix3 (h : H[i]? = some p.cell) : pIx (.ref i) (.int 3) H = .ok (.int p.d, H) := by
  unfold pIx ixW
  simp only [pu_asL h]
  rfl
theorem pu_set0 (h : H[i]? = some p.cell) {n : Int} : pSet (.ref i) (.int 0) (.int n) H = .ok (.non, H.set i (Pu.cell ⟨n, p.b, p.c, p.d⟩)) := by
  unfold pSet
  simp only [h, Pu.cell]
  rfl
theorem pu_set2 (h : H[i]? = some p.cell) {n : Int} : pSet (.ref i) (.int 2) (.int n) H = .ok (.non, H.set i (Pu.cell ⟨p.a, p.b, n, p.d⟩)) := by
  unfold pSet
  simp only [h, Pu.cell]
  rfl
theorem at_set {c c' : Cell} (h : H[i]? = some c) : (H.set i c')[i]? = some c' := by
  rw [List.getElem?_set_self (List.getElem?_eq_some_iff.mp h).1]
theorem set_same {c : Cell} (h : H[i]? = some c) : H.set i c = H := by
  apply List.ext_getElem?
  intro j
  by_cases e : i = j
  · subst e; rw [at_set h, h]
  · rw [List.getElem?_set_ne e]
end
theorem fdv_run {H : Hh} {a j : Int} (h0 : 0 < j) (h1 : j < 2 ^ 200) : pFdv (.int a) (.int j) H = .ok (.int (a / j), H) :=
  if_pos ⟨h0, Nat.lt_trans (lt_log (k := 200) (by omega) (by omega)) (by omega)⟩
theorem mod_run {H : Hh} {a j : Int} (h0 : 0 < j) : pMod (.int a) (.int j) H = .ok (.int (a.fmod j), H) := if_neg (by omega)
namespace A
def b_mixed : DS := (sCons (sAsg (tN 3) (e2 (pAdd false) (e2 (pMul false) (eV 0) (eK (W.int 69069))) (e2 (pMul false) (e2 (pMul false) (eK (W.int 104729)) (eV 1)) (eV 1)))) (sCons (sAsg (tN 3) (e2 pMod (e2 (pAdd false) (e2 (pAdd false) (eV 3) (e2 (pMul false) (eK (W.int 7919)) (eV 2))) (eV 1)) (eK (W.int 2147483647)))) (sCons (sAsg (tN 3) (e2 pMod (e2 (pAdd false) (e2 (pMul false) (eV 3) (eV 3)) (eK (W.int 40503))) (eK (W.int 2147483629)))) (sRet (e2 pMod (e2 (pMul false) (eV 3) (eK (W.int 48271))) (eK (W.int 2147483587)))))))
def f_mixed : Fn := runDef 4 .deep b_mixed
def b_draw : DS := (sCons (sIf (e2 pGt (e2 pIx (eV 0) (eK (W.int 0))) (eK (W.int 0))) (sCons (sAsg (tN 4) (e2 pMod (e2 pIx (eV 0) (eK (W.int 0))) (eV 1))) (sCons (sSet pSet (eV 0) (eK (W.int 0)) (e2 pFdv (e2 pIx (eV 0) (eK (W.int 0))) (eV 1))) (sRet (eV 4)))) sNil) (sCons (sAsg (tN 2) (eK (W.int 0))) (sCons (sFor (tN 3) fiR [(e2 (pAdd false) (eK (W.int 1)) (e2 pFdv (e1 pBits (eV 1)) (eK (W.int 28))))] (sCons (sSet pSet (eV 0) (eK (W.int 2)) (e2 (pAdd false) (e2 pIx (eV 0) (eK (W.int 2))) (eK (W.int 1)))) (sAsg (tN 2) (e2 (pAdd false) (e2 (pMul false) (eV 2) (eK (W.int 2147483587))) (eCall f_mixed 3 [] [(e2 pIx (eV 0) (eK (W.int 1))), (e2 pIx (eV 0) (eK (W.int 2))), (e2 pIx (eV 0) (eK (W.int 3)))]))))) (sRet (e2 pMod (eV 2) (eV 1))))))
def f_draw : Fn := runDef 5 .deep b_draw
def mixv (x t d : Int) : Int :=
  let y := (x * 69069 + 104729 * t * t + 7919 * d + t).fmod 2147483647
  let z := (y * y + 40503).fmod 2147483629
  (z * 48271).fmod 2147483587
theorem fm {a : Int} {m : Nat} (hm : 0 < m) : 0 ≤ a.fmod (m : Int) ∧ a.fmod (m : Int) < (m : Int) := by
  rw [Int.fmod_eq_emod_of_nonneg _ (by omega)]
  exact ⟨Int.emod_nonneg _ (by omega), Int.emod_lt_of_pos _ (by omega)⟩
theorem mixed_run {H : Hh} {x t d : Int} {B : Nat} (hx : 0 ≤ x ∧ x < 2147483629) (ht : 0 ≤ t ∧ t ≤ B) (hB : B < 2 ^ 64) (hd : 0 ≤ d ∧ d ≤ 1000) : f_mixed [.int x, .int t, .int d] H = .ok (.int (mixv x t d), H) ∧ 0 ≤ mixv x t d ∧ mixv x t d < 2147483587 := by
  have h1 : mulOk x 69069 = true := mulOk_of (by omega) (by decide)
  have t1 : t.natAbs < 2 ^ 64 := by omega
  have h2 : mulOk 104729 t = true := mulOk_of (by decide) (by omega)
  have h3 : mulOk (104729 * t) t = true := mulOk_of (by omega) (by omega)
  have h4 : mulOk 7919 d = true := mulOk_of (by decide) (by omega)
  have g1 := fm (a := x * 69069 + 104729 * t * t + 7919 * d + t) (m := 2147483647) (by decide)
  generalize hy : (x * 69069 + 104729 * t * t + 7919 * d + t).fmod ((2147483647 : Nat) : Int) = y at g1
  have h5 : mulOk y y = true := mulOk_of (by omega) (by omega)
  have g2 := fm (a := y * y + 40503) (m := 2147483629) (by decide)
  generalize hz : (y * y + 40503).fmod ((2147483629 : Nat) : Int) = z at g2
  have h6 : mulOk z 48271 = true := mulOk_of (by omega) (by decide)
  have g3 := fm (a := z * 48271) (m := 2147483587) (by decide)
  have hy' : (x * 69069 + 104729 * t * t + 7919 * d + t).fmod 2147483647 = y := hy
  have hz' : (y * y + 40503).fmod 2147483629 = z := hz
  have e : mixv x t d = (z * 48271).fmod 2147483587 := by
    unfold mixv
    simp only [hy', hz']
  rw [e]
  refine ⟨?_, g3.1, g3.2⟩
  unfold f_mixed b_mixed
  simp [r_run, pAdd, pMul, pMod, h1, h2, h3, h4, h5, h6, hy', hz', List.replicate]
theorem bits_run {H : Hh} {m : Int} (hm : 0 < m) (h2 : m < 2 ^ 200) : ∃ x : Int, pBits (.int m) H = .ok (.int x, H) ∧ 0 < x ∧ x ≤ 200 := by
  have : m.natAbs.log2 < 200 := lt_log (by omega) (by omega)
  exact ⟨((m.natAbs.log2 + 1 : Nat) : Int), if_pos hm, by omega, by omega⟩
theorem pieces_run {H : Hh} {x : Int} (h1 : 0 < x) (h2 : x ≤ 200) : ∃ n : Nat, pAdd false (.int 1) (.int (x / 28)) H = .ok (.int (n : Int), H) ∧ n ≤ 8 := by
  refine ⟨(1 + x / 28).toNat, ?_, by omega⟩
  rw [add_int, Int.toNat_of_nonneg (by omega)]
theorem draw_run {H : Hh} {i : Nat} {p : Pu} {B : Nat} {m : Int} (hH : H[i]? = some p.cell) (ok : p.Ok B) (hB : B + 10 < 2 ^ 64) (hm : 0 < m) (hm2 : m < 2 ^ 200) :
    ∃ (v : Int) (p' : Pu), 0 ≤ v ∧ v < m ∧ p'.Ok (B + 10) ∧ f_draw [.ref i, .int m] H = .ok (.int v, H.set i p'.cell) := by
  have hl := (List.getElem?_eq_some_iff.mp hH).1
  suffices h : T (f_draw [.ref i, .int m] H) fun r => ∃ (v : Int) (p' : Pu), 0 ≤ v ∧ v < m ∧ p'.Ok (B + 10) ∧ r = (.int v, H.set i p'.cell) by
    obtain ⟨r, e, v, p', h1, h2, h3, rfl⟩ := h
    exact ⟨v, p', h1, h2, h3, e⟩
  have mm : ∃ k : Nat, 0 < k ∧ m = (k : Int) := ⟨m.toNat, by omega, by omega⟩
  obtain ⟨k, hk, rfl⟩ := mm
  have fk := fun a => fm (a := a) hk
  unfold f_draw b_draw
  by_cases ha : 0 < p.a
  · have e1 : pMod (.int p.a) (.int (k : Int)) H = .ok (.int (p.a.fmod k), H) := by
      show (if (k : Int) = 0 then Res.bad else _) = _
      rw [if_neg (by omega)]
    have e2 : pFdv (.int p.a) (.int (k : Int)) H = .ok (.int (p.a / k), H) := fdv_run (by omega) hm2
    simp only [r_run, List.map_cons, List.map_nil, List.length_cons, List.length_nil, List.replicate, r_sCons, r_sIf, r_e2, r_eV0, r_eVs, r_eK, Res.bind_ok, pu_ix0 hH, pGt, truthy_bl, ofO_some, decide_eq_true ha, if_true, r_sNil, andThen_nx, andThen_rt, r_sAsg, r_sSet, r_sRet, r_tN, List.cons_append, List.nil_append, List.set_cons_zero, List.set_cons_succ, e1, e2, pu_set0 hH, hb_rt]
    rw [fin_same rfl (by rw [List.length_set]), T_ok]
    refine ⟨_, ⟨p.a / k, p.b, p.c, p.d⟩, (fk p.a).1, (fk p.a).2, ⟨Int.ediv_nonneg ok.a0 (by omega), ok.b0, ok.b1, ok.c0, by have := ok.c1; show p.c ≤ _; omega, ok.d0, ok.d1⟩, rfl⟩
  · obtain ⟨x, e3, x1, x2⟩ := bits_run (H := H) hm hm2
    have e4 := @fdv_run H x 28 (by omega) (by omega)
    obtain ⟨n, e5, hn⟩ := pieces_run (H := H) x1 x2
    have e6 : fiR [.int (n : Int)] H = some ⟨rangeW 0 n, fun _ => true⟩ := range_nat (by omega)
    simp only [r_run, List.map_cons, List.map_nil, List.length_cons, List.length_nil, List.replicate, r_sCons, r_sIf, r_e2, r_eV0, r_eVs, r_eK, Res.bind_ok, pu_ix0 hH, pGt, truthy_bl, ofO_some, decide_eq_false ha, Bool.false_eq_true, if_false, r_sNil, andThen_nx, r_sAsg, r_tN, r_sFor, r_eLs, r_eL0, r_e1, List.cons_append, List.nil_append, List.set_cons_zero, List.set_cons_succ, e3, e4, e5, e6, T_bind]
    refine T.mono (T_forG (Q := fun q => q.1 = .nx ∧ ∃ (p' : Pu) (f : Int) (x y : Option W), p'.Ok (B + n) ∧ 0 ≤ f ∧ q.2 = ([some (.ref i), some (.int (k : Int)), some (.int f), x, y], H.set i p'.cell))
      (fun j ρ h => ∃ (p' : Pu) (f : Int) (x y : Option W), p'.Ok (B + j) ∧ 0 ≤ f ∧ f < 2 ^ (31 * j) ∧ ρ = [some (.ref i), some (.int (k : Int)), some (.int f), x, y] ∧ h = H.set i p'.cell)
      (fun _ _ _ _ => rfl) ⟨p, 0, none, none, ⟨ok.a0, ok.b0, ok.b1, ok.c0, by have := ok.c1; omega, ok.d0, ok.d1⟩, by omega, by decide, rfl, (set_same hH).symm⟩ ?_ ?_) ?_
    · rintro j x ρ h hx ⟨q, f, x0, y0, okq, f0, f1, rfl, rfl⟩
      have hj : j < n := by
        have := (List.getElem?_eq_some_iff.mp hx).1
        unfold rangeW at this
        rw [List.length_map, List.length_range] at this
        exact this
      have hq : (H.set i q.cell)[i]? = some q.cell := at_set hH
      have hq2 : (H.set i (Pu.cell ⟨q.a, q.b, q.c + 1, q.d⟩))[i]? = some (Pu.cell ⟨q.a, q.b, q.c + 1, q.d⟩) := at_set hH
      have f2 : f < 2 ^ 248 := Int.lt_of_lt_of_le f1 (by
        have : (2 : Nat) ^ (31 * j) ≤ 2 ^ 248 := Nat.pow_le_pow_right (by omega) (by omega)
        exact_mod_cast this)
      have m1 : mulOk f 2147483587 = true := mulOk_of (by omega) (by decide)
      obtain ⟨r1, r2, r3⟩ := mixed_run (H := H.set i (Pu.cell ⟨q.a, q.b, q.c + 1, q.d⟩)) (x := q.b) (t := q.c + 1) (d := q.d) (B := B + j + 1) ⟨okq.b0, okq.b1⟩ ⟨by have := okq.c0; omega, by have := okq.c1; omega⟩ (by omega) ⟨okq.d0, okq.d1⟩
      simp only [r_tN, List.set_cons_zero, List.set_cons_succ, T_ok, r_sCons, r_sSet, r_e2, r_eV0, r_eVs, r_eK, Res.bind_ok, pu_ix2 hq, pu_ix1 hq2, pu_ix2 hq2, pu_ix3 hq2, pAdd, pMul, m1, if_true, pu_set2 hq, andThen_nx, r_sAsg, r_eCall, r_eLs, r_eL0, List.cons_append, List.nil_append, List.append_nil, List.length_cons, List.length_nil, r1, List.set_set]
      refine ⟨⟨q.a, q.b, q.c + 1, q.d⟩, f * 2147483587 + mixv q.b (q.c + 1) q.d, some x, y0, ⟨okq.a0, okq.b0, okq.b1, by have := okq.c0; show 0 ≤ q.c + 1; omega, by have := okq.c1; show q.c + 1 ≤ _; omega, okq.d0, okq.d1⟩, by omega, ?_, rfl, rfl⟩
      have : (2 : Int) ^ (31 * (j + 1)) = 2 ^ (31 * j) * 2147483648 := by
        rw [show 31 * (j + 1) = 31 * j + 31 by omega, Int.pow_add]
        rfl
      rw [this]
      omega
    · rintro ρ h ⟨q, f, x0, y0, okq, f0, f1, rfl, rfl⟩
      have el : (rangeW 0 n).length = n := by unfold rangeW; rw [List.length_map, List.length_range]
      rw [el] at okq
      exact ⟨rfl, q, f, x0, y0, okq, f0, rfl⟩
    · rintro ⟨fl, ρ, h⟩ ⟨e1, q, f, x0, y0, okq, f0, e2⟩
      cases e1
      cases e2
      have e1 : pMod (.int f) (.int (k : Int)) (H.set i q.cell) = .ok (.int (f.fmod k), H.set i q.cell) := by
        show (if (k : Int) = 0 then Res.bad else _) = _
        rw [if_neg (by omega)]
      simp only [andThen_nx, r_sRet, r_e2, r_eV0, r_eVs, Res.bind_ok, e1, T_ok, hb_rt]
      rw [fin_same rfl (by rw [List.length_set]), T_ok]
      exact ⟨_, q, (fk f).1, (fk f).2, ⟨okq.a0, okq.b0, okq.b1, okq.c0, by have := okq.c1; omega, okq.d0, okq.d1⟩, rfl⟩
end A
end Ti


/-! Ti: the program's forms and names, plain: is_whole, is_name, is_width, fits, checks, parts. -/
namespace Ti
open PySem
/-! ### numbers as texts -/
theorem numL_digs {n : Nat} : ∀ c ∈ numL n, isDig c = true := by
  intro c hc
  obtain ⟨d, hd, rfl⟩ := List.mem_map.mp hc
  have := Nat.isDigit_of_mem_toDigits (by decide) (by decide) hd
  unfold Char.isDigit at this
  rw [Bool.and_eq_true, decide_eq_true_eq, decide_eq_true_eq] at this
  unfold isDig
  rw [Bool.and_eq_true, decide_eq_true_eq, decide_eq_true_eq]
  exact ⟨this.1, this.2⟩
theorem numL_len {n k : Nat} (hk : 0 < k) (h : n < 10 ^ k) : (numL n).length ≤ k := by
  unfold numL
  rw [List.length_map]
  exact (Nat.length_toDigits_le_iff (by decide) hk).mpr h
theorem numL_ne {n : Nat} : numL n ≠ [] := by
  intro e
  have : Nat.toDigits 10 n = [] := List.map_eq_nil_iff.mp e
  exact Nat.toDigits_ne_nil this
theorem digsVal_lt : ∀ {l : List Nat}, (∀ c ∈ l, isDig c = true) → ∀ a, l.foldl (fun a c => a * 10 + (c - 48)) a < (a + 1) * 10 ^ l.length
  | [], _, a => by simp
  | c :: l, h, a => by
    have hc := h c List.mem_cons_self
    unfold isDig at hc
    rw [Bool.and_eq_true, decide_eq_true_eq, decide_eq_true_eq] at hc
    have ih := digsVal_lt (fun d hd => h d (List.mem_cons_of_mem _ hd)) (a * 10 + (c - 48))
    rw [List.foldl_cons, List.length_cons]
    refine Nat.lt_of_lt_of_le ih ?_
    rw [Nat.pow_succ, Nat.mul_comm (10 ^ l.length) 10, ← Nat.mul_assoc]
    exact Nat.mul_le_mul_right _ (by omega)
theorem digsVal_bound {l : List Nat} (h : ∀ c ∈ l, isDig c = true) : digsVal l < 10 ^ l.length := by
  have := digsVal_lt h 0
  simpa [digsVal] using this
def nines (k : Nat) : List Nat := List.replicate k 57
theorem digsVal_nines : ∀ k, digsVal (nines k) + 1 = 10 ^ k := by
  have key : ∀ k a, (nines k).foldl (fun a c => a * 10 + (c - 48)) a + 1 = (a + 1) * 10 ^ k := by
    intro k
    induction k with
    | zero => intro a; simp [nines]
    | succ k ih =>
      intro a
      show (nines k).foldl _ (a * 10 + (57 - 48)) + 1 = _
      rw [ih, Nat.pow_succ, Nat.mul_comm (10 ^ k) 10, ← Nat.mul_assoc]
      congr 1
      omega
  intro k
  have := key k 0
  simpa [digsVal] using this
/-! ### signs, names -/
def signs : List Nat := [45, 48, 49, 50, 51, 52, 53, 54, 55, 56, 57, 97, 98, 99, 100, 101, 102, 103, 104, 105, 106, 107, 108, 109, 110, 111, 112, 113, 114, 115, 116, 117, 118, 119, 120, 121, 122]
def digits : List Nat := [48, 49, 50, 51, 52, 53, 54, 55, 56, 57]
theorem digits_iff {c : Nat} : c ∈ digits ↔ isDig c = true := by
  unfold isDig digits
  rw [Bool.and_eq_true, decide_eq_true_eq, decide_eq_true_eq]
  simp only [List.mem_cons, List.not_mem_nil, or_false]
  omega
theorem sign_lt {c : Nat} (h : c ∈ signs) : c < 128 := by
  unfold signs at h
  simp only [List.mem_cons, List.not_mem_nil, or_false] at h
  omega
theorem dig_sign {c : Nat} (h : isDig c = true) : c ∈ signs := by
  unfold isDig at h
  rw [Bool.and_eq_true, decide_eq_true_eq, decide_eq_true_eq] at h
  unfold signs
  simp only [List.mem_cons, List.not_mem_nil, or_false]
  omega
structure Name (l : List Nat) : Prop where
  ne : l ≠ []
  all : ∀ c ∈ l, c ∈ signs
  len : l.length ≤ 100000
theorem fine_signs {l : List Nat} (h : ∀ c ∈ l, c ∈ signs) (hl : l.length ≤ 1000000) : strFine (mkS l) = true := by
  rw [strFine_mk, Bool.and_eq_true, decide_eq_true_eq]
  exact ⟨List.all_eq_true.mpr fun c hc => decide_eq_true (sign_lt (h c hc)), hl⟩
theorem eq_str {a b : List Nat} {h : Hh} (ha : strFine (mkS a) = true) (hb : strFine (mkS b) = true) : pEq (.str (mkS a)) (.str (mkS b)) h = .ok (.bl (decide (a = b)), h) := by
  unfold pEq eqB
  simp only [look, isDat, ha, hb, Bool.and_self, if_true, ofO_some, Res.bind_ok, beq, mkS_eq]
theorem ne_str {a b : List Nat} {h : Hh} (ha : strFine (mkS a) = true) (hb : strFine (mkS b) = true) : pNe (.str (mkS a)) (.str (mkS b)) h = .ok (.bl (!decide (a = b)), h) := by
  unfold pNe eqB
  simp only [look, isDat, ha, hb, Bool.and_self, if_true, ofO_some, Res.bind_ok, beq, mkS_eq]
theorem in_str {c : Nat} {l : List Nat} {h : Hh} : pIn (.str (mkS [c])) (.str (mkS l)) h = .ok (.bl (decide (c ∈ l)), h) := rfl
theorem ni_str {c : Nat} {l : List Nat} {h : Hh} : pNi (.str (mkS [c])) (.str (mkS l)) h = .ok (.bl (!decide (c ∈ l)), h) := rfl
theorem len_str {l : List Nat} {h : Hh} (hl : l.length ≤ 10000000) : pLen (.str (mkS l)) h = .ok (.int l.length, h) := by
  show (if (mkS l).length ≤ lineW then Res.ok (W.int (mkS l).length, h) else .bad) = _
  rw [mkS_len, if_pos (Nat.le_trans hl (by decide))]
theorem add_str {k : Bool} {a b : List Nat} {h : Hh} (hl : a.length + b.length ≤ 10000000) : pAdd k (.str (mkS a)) (.str (mkS b)) h = .ok (.str (mkS (a ++ b)), h) := by
  show (if (mkS a).length + (mkS b).length ≤ lineW then Res.ok (W.str (mkS a ++ mkS b), h) else .bad) = _
  rw [mkS_len, mkS_len, if_pos (Nat.le_trans hl (by decide)), mkS_app]
namespace Pr
def b_is_whole : DS := (sRet (eAnd (e1 (pIsi .int) (eV 0)) (eNot (e1 (pIsi .bool) (eV 0)))))
def f_is_whole : Fn := runDef 1 .deep b_is_whole
def b_is_width : DS := (sRet (eOr (e2 pIs (eV 0) (eK W.non)) (eAnd (eCall f_is_whole 1 [] [(eV 0)]) (eChain pLe pLe (eK (W.int 1)) (eV 0) (eK (W.int 40))))))
def f_is_width : Fn := runDef 1 .deep b_is_width
def b_fits : DS := (sRet (eOr (e2 pIs (eV 1) (eK W.non)) (e2 pLe (eF (l1 pLen) [(eV 0)]) (eV 1))))
def f_fits : Fn := runDef 2 .deep b_fits
def b_is_name : DS := (sRet (eAnd (e1 (pIsi .str) (eV 0)) (eAnd (e2 pNe (eV 0) (eK (W.str (mkS [])))) (e2 pEq (eComp false [1] (tN 1) fiL [(eV 0)] (some (e2 pNi (eV 1) (eK (W.str (mkS [45, 48, 49, 50, 51, 52, 53, 54, 55, 56, 57, 97, 98, 99, 100, 101, 102, 103, 104, 105, 106, 107, 108, 109, 110, 111, 112, 113, 114, 115, 116, 117, 118, 119, 120, 121, 122]))))) (eV 1)) (eLst false [])))))
def f_is_name : Fn := runDef 2 .deep b_is_name
def b_check_name : DS := (sIf (eNot (eCall f_is_name 1 [] [(eV 0)])) sNev sNil)
def f_check_name : Fn := runDef 1 .deep b_check_name
def b_check_width : DS := (sIf (eNot (eCall f_is_width 1 [] [(eV 0)])) sNev sNil)
def f_check_width : Fn := runDef 1 .deep b_check_width
def b_check_fitting_name : DS := (sIf (eNot (eCall f_fits 2 [] [(eV 0), (eV 1)])) sNev sNil)
def f_check_fitting_name : Fn := runDef 2 .deep b_check_fitting_name
section
variable {h : Hh}
theorem is_whole_int {n : Int} : f_is_whole [.int n] h = .ok (.bl true, h) := by
  unfold f_is_whole b_is_whole
  simp [r_run, pIsi, kindW, kindT, isK]
/-- a width: None, or 1 to 40 -/
inductive Wd : W → Prop where
  | non : Wd .non
  | int {n : Int} (h1 : 1 ≤ n) (h2 : n ≤ 40) : Wd (.int n)
theorem is_width_ok {w : W} (hw : Wd w) : f_is_width [w] h = .ok (.bl true, h) := by
  unfold f_is_width b_is_width
  cases hw with
  | non => simp [r_run]
  | int h1 h2 => simp [r_run, is_whole_int, h1, h2]
theorem check_width_ok {w : W} (hw : Wd w) : f_check_width [w] h = .ok (.non, h) := by
  unfold f_check_width b_check_width
  simp [r_run, is_width_ok hw]
/-- it fits -/
def Fits (l : List Nat) : W → Prop
  | .int n => (l.length : Int) ≤ n
  | _ => True
theorem fits_ok {l : List Nat} {w : W} (hl : l.length ≤ 100000) (hw : Wd w) (hf : Fits l w) : f_fits [.str (mkS l), w] h = .ok (.bl true, h) := by
  unfold f_fits b_fits
  cases hw with
  | non => simp [r_run]
  | int h1 h2 => simp [r_run, len_str (show l.length ≤ 10000000 by omega), show (l.length : Int) ≤ _ from hf]
theorem check_fitting_name_ok {l : List Nat} {w : W} (hl : l.length ≤ 100000) (hw : Wd w) (hf : Fits l w) : f_check_fitting_name [.str (mkS l), w] h = .ok (.non, h) := by
  unfold f_check_fitting_name b_check_fitting_name
  simp [r_run, fits_ok hl hw hf]
theorem is_name_ok {l : List Nat} (hl : Name l) : f_is_name [.str (mkS l)] h = .ok (.bl true, h) := by
  unfold f_is_name b_is_name
  have f0 : strFine (mkS []) = true := fine_signs (fun _ h => nomatch h) (by decide)
  have f1 : strFine (mkS l) = true := fine_signs hl.all (Nat.le_trans hl.len (by decide))
  have d1 : pIsi .str (.str (mkS l)) h = .ok (.bl true, h) := rfl
  have d2 := ne_str (h := h) f1 f0
  rw [decide_eq_false hl.ne] at d2
  have e3 : compG (fun _ => true) [1] (tN 1) (some (e2 pNi (eV 1) (eK (W.str (mkS signs))))) (eV 1) [some (.str (mkS l)), none] (l.map fun c => W.str (mkS [c])) [] h = .ok ([], h) := by
    rw [compG_pure (fun _ => false) id _ rfl ?_ (by simp; exact Nat.le_trans hl.len (by decide))]
    · rw [List.filter_eq_nil_iff.mpr (fun _ _ => by decide)]
      rfl
    · intro x hx
      obtain ⟨c, hc, rfl⟩ := List.mem_map.mp hx
      refine ⟨[some (.str (mkS l)), some (.str (mkS [c]))], rfl, ⟨.bl false, ?_, rfl⟩, fun z => nomatch z⟩
      rw [r_e2]
      simp only [r_eVs, r_eV0, r_eK, Res.bind_ok]
      rw [ni_str, decide_eq_true (hl.all c hc)]
      rfl
  have e4 : pEq (.lst []) (.lst []) h = .ok (.bl true, h) := rfl
  have e5 : mkL false [] h = .ok (.lst [], h) := rfl
  simp only [r_run, List.map_cons, List.map_nil, List.length_cons, List.length_nil, List.replicate, r_sRet, r_eAnd, r_e1, r_e2, r_eV0, r_eVs, r_eK, Res.bind_ok, List.cons_append, List.nil_append, d1, d2, truthy_bl, ofO_some, if_true, Bool.not_false, r_eComp, r_eLs, r_eL0, fiL_str]
  rw [show ([45, 48, 49, 50, 51, 52, 53, 54, 55, 56, 57, 97, 98, 99, 100, 101, 102, 103, 104, 105, 106, 107, 108, 109, 110, 111, 112, 113, 114, 115, 116, 117, 118, 119, 120, 121, 122] : List Nat) = signs from rfl, e3]
  simp only [Res.bind_ok, e5, r_eLst, r_eL0, e4, hb_rt, fin_bl]
theorem check_name_ok {l : List Nat} (hl : Name l) : f_check_name [.str (mkS l)] h = .ok (.non, h) := by
  unfold f_check_name b_check_name
  simp [r_run, is_name_ok hl]
end
end Pr
end Ti


/-! Ti: a name's parts, its follower, plain. -/
namespace Ti
open PySem
section
variable {h : Hh} {l : List Nat}
theorem place_nat {n j : Nat} (hj : j < n) : placeI n (j : Int) = some j := by
  unfold placeI
  rw [if_pos (by omega), if_pos (by omega)]
  rfl
theorem ix_str {j c : Nat} (e : l[j]? = some c) (hl : l.length ≤ 10000000) : pIx (.str (mkS l)) (.int (j : Int)) h = .ok (.str (mkS [c]), h) := by
  have hj := (List.getElem?_eq_some_iff.mp e).1
  have : ixW h (.str (mkS l)) (.int (j : Int)) = some (.str (mkS [c])) := by
    show (if (mkS l).length ≤ lineW then (placeI (sg (mkS l)).length (j : Int)).bind fun j => (sg (mkS l))[j]?.map fun c => W.str (mkS [c]) else none) = _
    rw [mkS_len, if_pos (Nat.le_trans hl (by decide)), sg_mk, place_nat hj, Option.bind_some, e]
    rfl
  unfold pIx
  rw [this]
  rfl
theorem cut_to {α : Type} {l : List α} {k : Nat} : cutL l none (some (k : Int)) = l.take k := by
  show (l.take (if (k : Int) < 0 then ((k : Int) + (l.length : Int)).toNat else min (k : Int).toNat l.length)).drop 0 = _
  rw [if_neg (by omega), List.drop_zero, Int.toNat_natCast]
  by_cases hk : k ≤ l.length
  · rw [Nat.min_eq_left hk]
  · rw [Nat.min_eq_right (by omega), List.take_length, List.take_of_length_le (by omega)]
theorem cut_from {α : Type} {l : List α} {k : Nat} : cutL l (some (k : Int)) none = l.drop k := by
  show (l.take l.length).drop (if (k : Int) < 0 then ((k : Int) + (l.length : Int)).toNat else min (k : Int).toNat l.length) = _
  rw [if_neg (by omega), List.take_length, Int.toNat_natCast]
  by_cases hk : k ≤ l.length
  · rw [Nat.min_eq_left hk]
  · rw [Nat.min_eq_right (by omega), List.drop_length, List.drop_of_length_le (by omega)]
theorem sl_to {k : Bool} {n : Nat} (hl : l.length ≤ 10000000) : pSl k false true (.str (mkS l)) .non (.int (n : Int)) h = .ok (.str (mkS (l.take n)), h) := by
  show (if (mkS l).length ≤ lineW then Res.ok (W.str (mkS (cutL (sg (mkS l)) none (some (n : Int)))), h) else .bad) = _
  rw [mkS_len, if_pos (Nat.le_trans hl (by decide)), sg_mk, cut_to]
theorem sl_from {k : Bool} {n : Nat} (hl : l.length ≤ 10000000) : pSl k true false (.str (mkS l)) (.int (n : Int)) .non h = .ok (.str (mkS (l.drop n)), h) := by
  show (if (mkS l).length ≤ lineW then Res.ok (W.str (mkS (cutL (sg (mkS l)) (some (n : Int)) none)), h) else .bad) = _
  rw [mkS_len, if_pos (Nat.le_trans hl (by decide)), sg_mk, cut_from]
end
/-- how many digits stand last; where they begin; where they begin without noughts -/
def tlN (l : List Nat) : Nat := (l.reverse.takeWhile isDig).length
def at1 (l : List Nat) : Nat := l.length - tlN l
def cutN (l : List Nat) : Nat := at1 l + ((l.drop (at1 l)).takeWhile (· == 48)).length
theorem tw_len {α : Type} (p : α → Bool) : ∀ l : List α, (l.takeWhile p).length ≤ l.length
  | [] => Nat.le_refl _
  | a :: l => by
    rw [List.takeWhile_cons]
    split
    · have := tw_len p l; simp only [List.length_cons]; omega
    · simp
theorem tw_in {α : Type} (p : α → Bool) : ∀ (l : List α) (i : Nat) (a : α), i < (l.takeWhile p).length → l[i]? = some a → p a = true
  | [], i, a, h, _ => by simp at h
  | b :: l, i, a, h, e => by
    rw [List.takeWhile_cons] at h
    split at h
    · rename_i hb
      cases i with
      | zero => cases e; exact hb
      | succ i => exact tw_in p l i a (by simp only [List.length_cons] at h; omega) e
    · simp at h
theorem tw_end {α : Type} (p : α → Bool) : ∀ (l : List α) (a : α), l[(l.takeWhile p).length]? = some a → p a = false
  | [], a, e => by simp at e
  | b :: l, a, e => by
    rw [List.takeWhile_cons] at e
    split at e
    · exact tw_end p l a e
    · rename_i hb
      cases e
      exact Bool.eq_false_iff.mpr hb
theorem dw_drop {α : Type} (p : α → Bool) : ∀ l : List α, l.dropWhile p = l.drop (l.takeWhile p).length
  | [] => rfl
  | a :: l => by
    rw [List.dropWhile_cons, List.takeWhile_cons]
    split
    · rw [dw_drop p l]; rfl
    · rfl
section
variable {l : List Nat}
theorem tlN_le : tlN l ≤ l.length := by
  have := tw_len isDig l.reverse
  rwa [List.length_reverse] at this
theorem at1_le : at1 l ≤ l.length := by unfold at1; omega
theorem at1_dig {j c : Nat} (h1 : at1 l ≤ j) (e : l[j]? = some c) : isDig c = true := by
  have hj := (List.getElem?_eq_some_iff.mp e).1
  have := @tlN_le l
  refine tw_in isDig l.reverse (l.length - 1 - j) c (by unfold at1 at h1; unfold tlN at h1 this; omega) ?_
  rw [List.getElem?_reverse (by omega), show l.length - 1 - (l.length - 1 - j) = j by omega]
  exact e
theorem at1_not {c : Nat} (h0 : 0 < at1 l) (e : l[at1 l - 1]? = some c) : isDig c = false := by
  refine tw_end isDig l.reverse c ?_
  have := @tlN_le l
  unfold at1 at h0
  rw [List.getElem?_reverse (by unfold tlN at h0; omega)]
  rw [← e]
  congr 1
  unfold at1 tlN
  omega
theorem cutN_le : cutN l ≤ l.length := by
  have h1 := tw_len (· == 48) (l.drop (at1 l))
  rw [List.length_drop] at h1
  have := @at1_le l
  unfold cutN
  omega
theorem cutN_in {j c : Nat} (h1 : at1 l ≤ j) (h2 : j < cutN l) (e : l[j]? = some c) : c = 48 := by
  have := tw_in (· == 48) (l.drop (at1 l)) (j - at1 l) c (by unfold cutN at h2; omega) (by rw [List.getElem?_drop, show at1 l + (j - at1 l) = j by omega]; exact e)
  exact eq_of_beq this
theorem cutN_end {c : Nat} (e : l[cutN l]? = some c) : c ≠ 48 := by
  have := tw_end (· == 48) (l.drop (at1 l)) c (by rw [List.getElem?_drop]; exact e)
  exact beq_eq_false_iff_ne.mp this
theorem drop_digs : ∀ c ∈ l.drop (cutN l), isDig c = true := by
  intro c hc
  obtain ⟨i, hi⟩ := List.mem_iff_getElem?.mp hc
  rw [List.getElem?_drop] at hi
  exact at1_dig (by unfold cutN; omega) hi
end
namespace Pr
def b_parts : DS := (sCons (sAsg (tN 1) (eF (l1 pLen) [(eV 0)])) (sCons (sWhile (eAnd (e2 pGt (eV 1) (eK (W.int 0))) (e2 pIn (e2 pIx (eV 0) (e2 pSub (eV 1) (eK (W.int 1)))) (eK (W.str (mkS [48, 49, 50, 51, 52, 53, 54, 55, 56, 57]))))) (sAsg (tN 1) (e2 pSub (eV 1) (eK (W.int 1))))) (sCons (sWhile (eAnd (e2 pLt (eV 1) (eF (l1 pLen) [(eV 0)])) (e2 pEq (e2 pIx (eV 0) (eV 1)) (eK (W.str (mkS [48]))))) (sAsg (tN 1) (e2 (pAdd false) (eV 1) (eK (W.int 1))))) (sRet (eTup [(e3 (pSl false false true) (eV 0) (eK W.non) (eV 1)), (e3 (pSl false true false) (eV 0) (eV 1) (eK W.non))])))))
def f_parts : Fn := runDef 2 .deep b_parts
theorem parts_ok {h : Hh} {l : List Nat} (hl : l.length ≤ 100000) (hs : ∀ c ∈ l, c < 128) : f_parts [.str (mkS l)] h = .ok (.tup [.str (mkS (l.take (cutN l))), .str (mkS (l.drop (cutN l)))], h) := by
  have hl7 : l.length ≤ 10000000 := by omega
  apply T.eq
  unfold f_parts b_parts
  simp only [r_run, List.map_cons, List.map_nil, List.length_cons, List.length_nil, List.replicate, r_sCons, r_sAsg, r_eF, r_eLs, r_eL0, r_eV0, r_eVs, Res.bind_ok, r_l1, len_str hl7, r_tN, List.cons_append, List.nil_append, List.set_cons_zero, List.set_cons_succ, andThen_nx, T_bind]
  refine T.mono (T_while (Q := fun q => q = (.nx, [some (.str (mkS l)), some (.int (at1 l : Int))], h)) (fun n ρ h' => h' = h ∧ at1 l ≤ n ∧ n ≤ l.length ∧ ρ = [some (.str (mkS l)), some (.int (n : Int))]) (n := l.length) (Nat.lt_of_le_of_lt hl (by decide)) ⟨rfl, at1_le, Nat.le_refl _, rfl⟩ ?_) ?_
  · rintro n ρ h' ⟨rfl, h1, h2, rfl⟩
    simp only [r_eAnd, r_e2, r_eV0, r_eVs, r_eK, Res.bind_ok, gt_int, truthy_bl, ofO_some]
    by_cases h0 : n = 0
    · subst h0
      have e0 : at1 l = 0 := by omega
      simp only [show decide ((0 : Int) < ((0 : Nat) : Int)) = false from rfl, Bool.false_eq_true, if_false, T_ok, truthy_bl]
      exact ⟨false, rfl, by rw [e0]; rfl⟩
    · have e0 : ((n : Int) - 1) = ((n - 1 : Nat) : Int) := by omega
      have hlt : n - 1 < l.length := by omega
      have e1 := ix_str (h := h') (List.getElem?_eq_getElem hlt) hl7
      rw [decide_eq_true (show (0 : Int) < (n : Int) by omega)]
      simp only [if_true, sub_int, Res.bind_ok, e0, e1, in_str, T_ok, truthy_bl, r_sAsg, r_e2, r_eVs, r_eV0, r_eK, r_tN, List.set_cons_zero, List.set_cons_succ]
      refine ⟨_, rfl, ?_⟩
      by_cases h3 : at1 l < n
      · have : decide (l[n - 1] ∈ ([48, 49, 50, 51, 52, 53, 54, 55, 56, 57] : List Nat)) = true := decide_eq_true (digits_iff.mpr (at1_dig (j := n - 1) (by omega) (List.getElem?_eq_getElem hlt)))
        rw [if_pos this]
        exact ⟨n - 1, by omega, trivial, by omega, by omega, rfl⟩
      · have hn : n = at1 l := by omega
        have : ¬ decide (l[n - 1] ∈ ([48, 49, 50, 51, 52, 53, 54, 55, 56, 57] : List Nat)) = true := by
          intro z
          have z2 := digits_iff.mp (of_decide_eq_true z)
          rw [at1_not (l := l) (c := l[n - 1]) (by omega) (by rw [← hn]; exact List.getElem?_eq_getElem hlt)] at z2
          cases z2
        rw [if_neg this, hn]
  · rintro _ rfl
    simp only [andThen_nx, r_sCons, T_bind]
    refine T.mono (T_while (Q := fun q => q = (.nx, [some (.str (mkS l)), some (.int (cutN l : Int))], h)) (fun n ρ h' => h' = h ∧ ∃ a, n = l.length - a ∧ at1 l ≤ a ∧ a ≤ cutN l ∧ ρ = [some (.str (mkS l)), some (.int (a : Int))]) (n := l.length - at1 l) (Nat.lt_of_le_of_lt (Nat.le_trans (Nat.sub_le _ _) hl) (by decide)) ⟨rfl, at1 l, rfl, Nat.le_refl _, by unfold cutN; omega, rfl⟩ ?_) ?_
    · rintro n ρ h' ⟨rfl, a, rfl, h1, h2, rfl⟩
      have h3 := @cutN_le l
      simp only [r_eAnd, r_e2, r_eF, r_eLs, r_eL0, r_eV0, r_eVs, r_eK, Res.bind_ok, r_l1, len_str hl7, lt_int, truthy_bl, ofO_some]
      by_cases h0 : a < l.length
      · have e1 := ix_str (h := h') (List.getElem?_eq_getElem h0) hl7
        have f1 : strFine (mkS [l[a]]) = true := by
          rw [strFine_mk]
          simp [hs _ (List.getElem_mem h0)]
        have f2 : strFine (mkS [48]) = true := by rw [strFine_mk]; decide
        rw [decide_eq_true (show (a : Int) < (l.length : Int) by omega)]
        simp only [if_true, e1, Res.bind_ok, eq_str f1 f2, T_ok, truthy_bl, r_sAsg, r_e2, r_eVs, r_eV0, r_eK, add_int, r_tN, List.set_cons_zero, List.set_cons_succ]
        refine ⟨_, rfl, ?_⟩
        by_cases h4 : a < cutN l
        · have : decide ([l[a]] = [48]) = true := decide_eq_true (by rw [cutN_in h1 h4 (List.getElem?_eq_getElem h0)])
          rw [if_pos this]
          exact ⟨l.length - (a + 1), by omega, trivial, a + 1, rfl, by omega, by omega, rfl⟩
        · have ha : a = cutN l := by omega
          have : ¬ decide ([l[a]] = [48]) = true := by
            intro z
            have z2 := of_decide_eq_true z
            exact cutN_end (l := l) (c := l[a]) (by rw [← ha]; exact List.getElem?_eq_getElem h0) (List.cons.inj z2).1
          rw [if_neg this, ha]
      · have ha : a = cutN l := by omega
        rw [decide_eq_false (show ¬ (a : Int) < (l.length : Int) by omega)]
        simp only [Bool.false_eq_true, if_false, T_ok, truthy_bl]
        exact ⟨false, rfl, by rw [ha]; rfl⟩
    · rintro _ rfl
      simp only [andThen_nx, r_sRet, r_eTup, r_eLs, r_eL0, r_e3, r_eV0, r_eVs, r_eK, Res.bind_ok, sl_to hl7, sl_from hl7]
      simp only [List.length_cons, List.length_nil, show (0 + 1 + 1 ≤ lineW) from by decide, if_true, Res.bind_ok, T_ok, hb_rt]
      rw [fin_same rfl rfl, T_ok]
end Pr
end Ti


/-! Ti: a name's follower, its number, its stem, plain. -/
namespace Ti
open PySem
section
variable {h : Hh}
theorem int_str {d : List Nat} (hd : ∀ c ∈ d, isDig c = true) (hn : d ≠ []) (hl : d.length ≤ 640) : pInt (.str (mkS d)) h = .ok (.int (digsVal d : Int), h) := by
  show (if (sg (mkS d)).all isDig = true ∧ sg (mkS d) ≠ [] ∧ (mkS d).length ≤ 640 then Res.ok (W.int (digsVal (sg (mkS d))), h) else .bad) = _
  rw [mkS_len, sg_mk, if_pos ⟨List.all_eq_true.mpr hd, hn, hl⟩]
theorem pow_lt {n k : Nat} (h : n < 10 ^ k) (hk : k ≤ 470) : n.log2 < 1920 := by
  refine lt_log (Nat.lt_of_lt_of_le h ?_) (by omega)
  calc 10 ^ k ≤ 16 ^ k := Nat.pow_le_pow_left (by omega) k
    _ = 2 ^ (4 * k) := by rw [show (16 : Nat) = 2 ^ 4 by decide, ← Nat.pow_mul]
    _ ≤ 2 ^ 1920 := Nat.pow_le_pow_right (by omega) (by omega)
theorem str_int {n k : Nat} (hn : n < 10 ^ k) (hk : k ≤ 470) : pStr (.int (n : Int)) h = .ok (.str (mkS (numL n)), h) := by
  show (if 0 ≤ (n : Int) ∧ (n : Int).natAbs.log2 < 1920 then Res.ok (W.str (mkS (numL (n : Int).toNat)), h) else .bad) = _
  rw [Int.toNat_natCast, if_pos ⟨by omega, by rw [Int.natAbs_natCast]; exact pow_lt hn hk⟩]
end
/-- the digits that count; the follower's digits -/
def dgs (l : List Nat) : List Nat := l.drop (cutN l)
def stm (l : List Nat) : List Nat := l.take (cutN l)
def fol (l : List Nat) : List Nat := if dgs l = [] then [50] else numL (digsVal (dgs l) + 1)
theorem dgs_len {l : List Nat} : (dgs l).length ≤ l.length := by unfold dgs; rw [List.length_drop]; omega
theorem stm_len {l : List Nat} : (stm l).length ≤ l.length := by unfold stm; rw [List.length_take]; omega
theorem fol_lt {l : List Nat} : digsVal (dgs l) + 1 < 10 ^ (l.length + 1) := by
  have h1 := digsVal_bound (l := dgs l) drop_digs
  have h2 : 10 ^ (dgs l).length ≤ 10 ^ l.length := Nat.pow_le_pow_right (by omega) dgs_len
  have h3 : 0 < 10 ^ l.length := Nat.pow_pos (by omega)
  rw [Nat.pow_succ]
  omega
theorem fol_len {l : List Nat} : (fol l).length ≤ l.length + 1 := by
  unfold fol
  split
  · simp
  · exact numL_len (by omega) fol_lt
theorem fol_pos {l : List Nat} : 0 < (fol l).length := by
  unfold fol
  split
  · simp
  · exact List.length_pos_iff.mpr numL_ne
theorem fol_digs {l : List Nat} : ∀ c ∈ fol l, isDig c = true := by
  unfold fol
  split
  · intro c hc
    rw [List.mem_singleton] at hc
    subst hc
    decide
  · exact numL_digs
theorem fine_le {l : List Nat} (h : ∀ c ∈ l, c < 128) (hl : l.length ≤ 1000000) : strFine (mkS l) = true := by
  rw [strFine_mk, Bool.and_eq_true, decide_eq_true_eq]
  exact ⟨List.all_eq_true.mpr fun c hc => decide_eq_true (h c hc), hl⟩
theorem dig_lt {c : Nat} (h : isDig c = true) : c < 128 := sign_lt (dig_sign h)
theorem fine_nil : strFine (mkS []) = true := by rw [strFine_mk]; decide
/-- what after gives -/
def aft (l : List Nat) : W → W
  | .int n => if n < ((fol l).length : Int) then .non else .str (mkS ((stm l).take (n.toNat - (fol l).length) ++ fol l))
  | _ => .str (mkS (stm l ++ fol l))
namespace Pr
def b_after : DS := (sCons (sAsg (tT [(tN 3), (tN 4)]) (eCall f_parts 1 [] [(eV 0)])) (sCons (sAsg (tN 2) (eIf (e2 pEq (eV 4) (eK (W.str (mkS [])))) (eK (W.str (mkS [50]))) (eF (l1 pStr) [(e2 (pAdd false) (eF (l1 pInt) [(eV 4)]) (eK (W.int 1)))]))) (sCons (sIf (e2 pIs (eV 1) (eK W.non)) (sRet (e2 (pAdd false) (eV 3) (eV 2))) sNil) (sRet (eIf (e2 pGt (eF (l1 pLen) [(eV 2)]) (eV 1)) (eK W.non) (e2 (pAdd false) (e3 (pSl false false true) (eV 3) (eK W.non) (e2 pSub (eV 1) (eF (l1 pLen) [(eV 2)]))) (eV 2)))))))
def f_after : Fn := runDef 5 .deep b_after
def b_next_name : DS := (sCons (sE (eCall f_check_name 1 [] [(eV 0)])) (sCons (sE (eCall f_check_width 1 [] [(eV 1)])) (sCons (sE (eCall f_check_fitting_name 2 [] [(eV 0), (eV 1)])) (sRet (eCall f_after 2 [] [(eV 0), (eV 1)])))))
def f_next_name : Fn := runDef 2 .deep b_next_name
def b_stem : DS := (sCons (sE (eCall f_check_name 1 [] [(eV 0)])) (sRet (e2 pIx (eCall f_parts 1 [] [(eV 0)]) (eK (W.int 0)))))
def f_stem : Fn := runDef 1 .deep b_stem
def b_number : DS := (sCons (sE (eCall f_check_name 1 [] [(eV 0)])) (sCons (sAsg (tN 1) (e2 pIx (eCall f_parts 1 [] [(eV 0)]) (eK (W.int 1)))) (sRet (eIf (e2 pEq (eV 1) (eK (W.str (mkS [])))) (eK W.non) (eF (l1 pInt) [(eV 1)])))))
def f_number : Fn := runDef 2 .deep b_number
section
variable {h : Hh} {l : List Nat} {w : W}
/-- the follower's digits as the code makes them -/
theorem fol_run {ρ : Env} (hl : l.length ≤ 400) {e : DE} (he : ∀ h, e ρ h = .ok (.str (mkS (dgs l)), h)) :
    (eF (l1 pStr) [(e2 (pAdd false) (eF (l1 pInt) [e]) (eK (W.int 1)))]) ρ h = (if dgs l = [] then .bad else .ok (.str (mkS (fol l)), h)) := by
  simp only [r_eF, r_eLs, r_eL0, r_e2, he, Res.bind_ok, r_l1, r_eK]
  by_cases hd : dgs l = []
  · rw [hd]; rfl
  · have hi := int_str (h := h) (d := dgs l) drop_digs hd (by have := @dgs_len l; omega)
    have e1 : (digsVal (dgs l) : Int) + 1 = ((digsVal (dgs l) + 1 : Nat) : Int) := by omega
    rw [hi, if_neg hd]
    simp only [Res.bind_ok, add_int, e1, r_l1, str_int (h := h) (@fol_lt l) (by omega)]
    unfold fol
    rw [if_neg hd]
theorem after_ok (hl : l.length ≤ 400) (hs : ∀ c ∈ l, c < 128) (hw : Wd w) : f_after [.str (mkS l), w] h = .ok (aft l w, h) := by
  have hp := parts_ok (h := h) (l := l) (by omega) hs
  have fd : strFine (mkS (dgs l)) = true := fine_le (fun c hc => dig_lt (drop_digs c hc)) (by have := @dgs_len l; omega)
  have f2 := @fol_len l
  have s2 := @stm_len l
  have ff : (if dgs l = [] then Res.ok (W.str (mkS [50]), h) else .ok (.str (mkS (fol l)), h)) = .ok (.str (mkS (fol l)), h) := by
    split
    · rename_i e
      unfold fol
      rw [if_pos e]
    · rfl
  have fr := fol_run (h := h) (ρ := [some (.str (mkS l)), some w, none, some (.str (mkS (stm l))), some (.str (mkS (dgs l)))]) (l := l) hl (e := eV 4) (fun _ => rfl)
  unfold f_after b_after
  simp only [r_run, List.map_cons, List.map_nil, List.length_cons, List.length_nil, List.replicate, r_sCons, r_sAsg, r_eCall, r_eLs, r_eL0, r_eV0, r_eVs, Res.bind_ok, List.append_nil, List.cons_append, List.nil_append, if_true, hp, r_tT, r_tLs, r_tL0, r_tN, List.set_cons_zero, List.set_cons_succ, andThen_nx]
  rw [show l.take (cutN l) = stm l from rfl, show l.drop (cutN l) = dgs l from rfl]
  have e1 : (eIf (e2 pEq (eV 4) (eK (W.str (mkS [])))) (eK (W.str (mkS [50]))) (eF (l1 pStr) [(e2 (pAdd false) (eF (l1 pInt) [(eV 4)]) (eK (W.int 1)))])) [some (.str (mkS l)), some w, none, some (.str (mkS (stm l))), some (.str (mkS (dgs l)))] h = .ok (.str (mkS (fol l)), h) := by
    rw [r_eIf]
    simp only [r_e2, r_eVs, r_eV0, r_eK, Res.bind_ok, eq_str fd fine_nil, truthy_bl, ofO_some, decide_eq_true_eq]
    by_cases hd : dgs l = []
    · rw [if_pos hd, ← ff, if_pos hd]
    · rw [if_neg hd, fr, if_neg hd]
  rw [e1]
  simp only [Res.bind_ok, List.set_cons_zero, List.set_cons_succ, andThen_nx, r_sCons, r_sIf, r_e2, r_eVs, r_eV0, r_eK, is_non, truthy_bl, ofO_some]
  cases hw with
  | non =>
    simp only [isNon_non, if_true, r_sRet, r_e2, r_eVs, r_eV0, Res.bind_ok, add_str (h := h) (k := false) (a := stm l) (b := fol l) (by omega), andThen_rt, hb_rt, fin_str]
    rfl
  | @int n n1 n2 =>
    obtain ⟨k, rfl⟩ : ∃ k : Nat, n = (k : Int) := ⟨n.toNat, by omega⟩
    simp only [isNon_int, Bool.false_eq_true, if_false, r_sNil, andThen_nx, r_sRet, r_eIf, r_e2, r_eF, r_eLs, r_eL0, r_l1, r_eVs, r_eV0, Res.bind_ok, len_str (h := h) (l := fol l) (by omega), gt_int, truthy_bl, ofO_some, decide_eq_true_eq]
    rw [show aft l (.int (k : Int)) = if (k : Int) < ((fol l).length : Int) then .non else .str (mkS ((stm l).take ((k : Int).toNat - (fol l).length) ++ fol l)) from rfl]
    by_cases hk : (k : Int) < ((fol l).length : Int)
    · rw [if_pos hk, if_pos hk]
      simp only [r_eK, Res.bind_ok, hb_rt, fin_non]
    · have e2 : (k : Int) - ((fol l).length : Int) = ((k - (fol l).length : Nat) : Int) := by omega
      rw [if_neg hk, if_neg hk]
      simp only [r_e3, r_eVs, r_eV0, r_eK, Res.bind_ok, r_e2, r_eF, r_eLs, r_eL0, r_l1, len_str (h := h) (l := fol l) (by omega), sub_int, e2, sl_to (h := h) (l := stm l) (k := false) (by omega), Int.toNat_natCast]
      rw [add_str (by have := List.length_take_le' (k - (fol l).length) (stm l); omega)]
      simp only [Res.bind_ok, hb_rt, fin_str]
theorem next_name_ok (hn : Name l) (hl : l.length ≤ 400) (hw : Wd w) (hf : Fits l w) : f_next_name [.str (mkS l), w] h = .ok (aft l w, h) := by
  have hd : nor (aft l w) = true := by
    unfold aft
    split
    · split <;> rfl
    · rfl
  unfold f_next_name b_next_name
  simp only [r_run, List.map_cons, List.map_nil, List.length_cons, List.length_nil, List.replicate, r_sCons, r_sE, r_eCall, r_eLs, r_eL0, r_eV0, r_eVs, Res.bind_ok, List.append_nil, List.cons_append, List.nil_append, if_true, check_name_ok hn, check_width_ok hw, check_fitting_name_ok hn.len hw hf, andThen_nx, r_sRet, after_ok hl (fun c hc => sign_lt (hn.all c hc)) hw, hb_rt, fin_here hd]
theorem stem_ok (hn : Name l) : f_stem [.str (mkS l)] h = .ok (.str (mkS (stm l)), h) := by
  have e1 : pIx (.tup [.str (mkS (l.take (cutN l))), .str (mkS (l.drop (cutN l)))]) (.int 0) h = .ok (.str (mkS (stm l)), h) := rfl
  unfold f_stem b_stem
  simp only [r_run, List.map_cons, List.map_nil, List.length_cons, List.length_nil, List.replicate, r_sCons, r_sE, r_eCall, r_eLs, r_eL0, r_eV0, r_eVs, r_e2, r_eK, Res.bind_ok, List.append_nil, List.cons_append, List.nil_append, if_true, check_name_ok hn, andThen_nx, r_sRet, parts_ok hn.len (fun c hc => sign_lt (hn.all c hc)), e1, hb_rt, fin_str]
/-- a name's number -/
def num (l : List Nat) : W := if dgs l = [] then .non else .int (digsVal (dgs l))
theorem number_ok (hn : Name l) (hl : l.length ≤ 400) : f_number [.str (mkS l)] h = .ok (num l, h) := by
  have e1 : pIx (.tup [.str (mkS (l.take (cutN l))), .str (mkS (l.drop (cutN l)))]) (.int 1) h = .ok (.str (mkS (dgs l)), h) := rfl
  have fd : strFine (mkS (dgs l)) = true := fine_le (fun c hc => dig_lt (drop_digs c hc)) (by have := @dgs_len l; omega)
  unfold f_number b_number
  simp only [r_run, List.map_cons, List.map_nil, List.length_cons, List.length_nil, List.replicate, r_sCons, r_sE, r_sAsg, r_eCall, r_eLs, r_eL0, r_eV0, r_eVs, r_e2, r_eK, Res.bind_ok, List.append_nil, List.cons_append, List.nil_append, if_true, check_name_ok hn, andThen_nx, r_sRet, parts_ok hn.len (fun c hc => sign_lt (hn.all c hc)), e1, r_tN, List.set_cons_zero, List.set_cons_succ, r_eIf, eq_str fd fine_nil, truthy_bl, ofO_some, decide_eq_true_eq]
  unfold num
  by_cases hd : dgs l = []
  · rw [if_pos hd, if_pos hd]
    simp only [r_eK, Res.bind_ok, hb_rt, fin_non]
  · rw [if_neg hd, if_neg hd]
    simp only [r_eF, r_eLs, r_eL0, r_eVs, r_eV0, Res.bind_ok, r_l1, int_str (h := h) (d := dgs l) drop_digs hd (by have := @dgs_len l; omega), hb_rt, fin_int]
end
end Pr
end Ti


/-! Ti: the laws' own parts and follower of a name, plain. -/
namespace Ti
open PySem
theorem strip0 {l : List Nat} : (l.drop (at1 l)).dropWhile (fun c => ([48] : List Nat).contains c) = dgs l := by
  have : (fun c : Nat => ([48] : List Nat).contains c) = (· == 48) := by
    funext c
    simp [List.contains_cons]
    rfl
  rw [this, dw_drop, List.drop_drop]
  rfl
theorem lstrip_run {h : Hh} {l : List Nat} (hl : l.length ≤ 100000) : pLstrip (.str (mkS (l.drop (at1 l)))) (.str (mkS [48])) h = .ok (.str (mkS (dgs l)), h) := by
  show (if (mkS (l.drop (at1 l))).length ≤ lineW then Res.ok (W.str (mkS ((sg (mkS (l.drop (at1 l)))).dropWhile fun c => (sg (mkS [48])).contains c)), h) else .bad) = _
  rw [mkS_len, if_pos (Nat.le_trans (by rw [List.length_drop]; omega) (Nat.le_trans hl (by decide))), sg_mk, sg_mk, strip0]
theorem rev_str {h : Hh} {l : List Nat} {k : Bool} (hl : l.length ≤ 100000) : pRev k (.str (mkS l)) h = .ok (.str (mkS l.reverse), h) := by
  show (if (mkS l).length ≤ 1000000 then Res.ok (W.str (mkS (sg (mkS l)).reverse), h) else .bad) = _
  rw [mkS_len, if_pos (by omega), sg_mk]
namespace Pr
def b_law_parts : DS := (sCons (sAsg (tN 1) (eK (W.str (mkS [])))) (sCons (sFor (tN 2) fiL [(e1 (pRev false) (eV 0))] (sCons (sIf (e2 pNi (eV 2) (eK (W.str (mkS [48, 49, 50, 51, 52, 53, 54, 55, 56, 57])))) sBrk sNil) (sAsg (tN 1) (e2 (pAdd false) (eV 2) (eV 1))))) (sCons (sAsg (tN 1) (eM .str (l2 pLstrip) (eV 1) [(eK (W.str (mkS [48])))])) (sRet (eTup [(e3 (pSl false false true) (eV 0) (eK W.non) (e2 pSub (eF (l1 pLen) [(eV 0)]) (eF (l1 pLen) [(eV 1)]))), (eV 1)])))))
def f_law_parts : Fn := runDef 3 .deep b_law_parts
def b_law_after : DS := (sCons (sAsg (tT [(tN 3), (tN 4)]) (eCall f_law_parts 1 [] [(eV 0)])) (sCons (sAsg (tN 2) (eIf (e2 pNe (eV 4) (eK (W.str (mkS [])))) (eF (l1 pStr) [(e2 (pAdd false) (eF (l1 pInt) [(eV 4)]) (eK (W.int 1)))]) (eK (W.str (mkS [50]))))) (sCons (sIf (eOr (e2 pIs (eV 1) (eK W.non)) (e2 pLe (e2 (pAdd false) (eF (l1 pLen) [(eV 3)]) (eF (l1 pLen) [(eV 2)])) (eV 1))) (sRet (e2 (pAdd false) (eV 3) (eV 2))) sNil) (sRet (eIf (e2 pLe (eF (l1 pLen) [(eV 2)]) (eV 1)) (e2 (pAdd false) (e3 (pSl false false true) (eV 3) (eK W.non) (e2 pSub (eV 1) (eF (l1 pLen) [(eV 2)]))) (eV 2)) (eK W.non))))))
def f_law_after : Fn := runDef 5 .deep b_law_after
section
variable {h : Hh} {l : List Nat} {w : W}
theorem law_parts_ok (hl : l.length ≤ 100000) : f_law_parts [.str (mkS l)] h = .ok (.tup [.str (mkS (stm l)), .str (mkS (dgs l))], h) := by
  have hl7 : l.length ≤ 10000000 := by omega
  have hd := @dgs_len l
  have hc := @cutN_le l
  have h9 : (l.length : Int) - ((dgs l).length : Int) = (cutN l : Int) := by
    unfold dgs
    rw [List.length_drop]
    omega
  apply T.eq
  unfold f_law_parts b_law_parts
  simp only [r_run, List.map_cons, List.map_nil, List.length_cons, List.length_nil, List.replicate, r_sCons, r_sAsg, r_sFor, r_e1, r_eLs, r_eL0, r_eV0, r_eVs, r_eK, Res.bind_ok, r_tN, List.cons_append, List.nil_append, List.set_cons_zero, List.set_cons_succ, andThen_nx, rev_str hl, fiL_str, ofO_some, T_bind]
  refine T.mono (T_forG (Q := fun q => ∃ x, q = (.nx, [some (.str (mkS l)), some (.str (mkS (l.drop (at1 l)))), x], h)) (fun i ρ h' => h' = h ∧ i ≤ tlN l ∧ ∃ x, ρ = [some (.str (mkS l)), some (.str (mkS (l.drop (l.length - i)))), x]) (fun _ _ _ _ => rfl) ⟨rfl, Nat.zero_le _, none, by rw [Nat.sub_zero, List.drop_length]⟩ ?_ ?_) ?_
  · rintro i x ρ h' hx ⟨rfl, hi, x0, rfl⟩
    rw [List.getElem?_map] at hx
    obtain ⟨c, hc', rfl⟩ := Option.map_eq_some_iff.mp hx
    have hil : i < l.length := by
      have := (List.getElem?_eq_some_iff.mp hc').1
      rwa [List.length_reverse] at this
    rw [List.getElem?_reverse hil] at hc'
    simp only [r_tN, List.set_cons_zero, List.set_cons_succ, T_ok, r_sCons, r_sIf, r_e2, r_eVs, r_eV0, r_eK, Res.bind_ok, ni_str, truthy_bl, ofO_some]
    by_cases hlt : i < tlN l
    · have hdg : isDig c = true := at1_dig (j := l.length - 1 - i) (by unfold at1; omega) hc'
      rw [decide_eq_true (show c ∈ ([48, 49, 50, 51, 52, 53, 54, 55, 56, 57] : List Nat) from digits_iff.mpr hdg)]
      simp only [Bool.not_true, Bool.false_eq_true, if_false, r_sNil, Res.bind_ok, andThen_nx, r_sAsg, r_e2, r_eVs, r_eV0, add_str (h := h') (k := false) (a := [c]) (b := l.drop (l.length - i)) (by rw [List.length_drop]; simp only [List.length_cons, List.length_nil]; omega), r_tN, List.set_cons_zero, List.set_cons_succ, T_ok]
      refine ⟨trivial, by omega, some (.str (mkS [c])), ?_⟩
      have : [c] ++ l.drop (l.length - i) = l.drop (l.length - (i + 1)) := by
        have e1 : l.length - (i + 1) < l.length := by omega
        rw [List.drop_eq_getElem_cons e1, show l.length - (i + 1) + 1 = l.length - i by omega]
        have e2 : l[l.length - (i + 1)] = c := by
          have := List.getElem?_eq_getElem e1
          rw [show l.length - 1 - i = l.length - (i + 1) by omega, this] at hc'
          exact Option.some.inj hc'
        rw [e2]
        rfl
      rw [this]
    · have ht : i = tlN l := by omega
      have hnd : ¬ c ∈ ([48, 49, 50, 51, 52, 53, 54, 55, 56, 57] : List Nat) := by
        intro z
        have z2 := digits_iff.mp z
        rw [at1_not (l := l) (c := c) (by unfold at1; omega) (by unfold at1; rw [← ht, show l.length - i - 1 = l.length - 1 - i by omega]; exact hc')] at z2
        cases z2
      rw [decide_eq_false hnd]
      simp only [Bool.not_false, if_true, r_sBrk, Res.bind_ok, andThen_bk, T_ok]
      refine ⟨some (.str (mkS [c])), ?_⟩
      unfold at1
      rw [← ht]
  · rintro ρ h' ⟨rfl, hi, x, rfl⟩
    rw [List.length_map, List.length_reverse] at hi ⊢
    have := @tlN_le l
    refine ⟨x, ?_⟩
    unfold at1
    rw [show tlN l = l.length by omega]
  · rintro _ ⟨x, rfl⟩
    simp only [andThen_nx, r_sCons, r_sAsg, r_eM, r_eVs, r_eV0, Res.bind_ok, isMT, if_true, r_eLs, r_eL0, r_eK, r_l2, lstrip_run hl, r_tN, List.set_cons_zero, List.set_cons_succ, r_sRet, r_eTup, r_e3, r_e2, r_eF, r_l1, len_str (h := h) hl7, len_str (h := h) (l := dgs l) (by omega), sub_int, h9, sl_to (h := h) (l := l) (k := false) hl7]
    simp only [List.length_cons, List.length_nil, show (0 + 1 + 1 ≤ lineW) from by decide, if_true, Res.bind_ok, T_ok, hb_rt]
    rw [fin_same rfl rfl, T_ok]
    rfl
theorem law_after_ok (hl : l.length ≤ 400) (hw : Wd w) : f_law_after [.str (mkS l), w] h = .ok (aft l w, h) := by
  have hp := law_parts_ok (h := h) (l := l) (by omega)
  have fd : strFine (mkS (dgs l)) = true := fine_le (fun c hc => dig_lt (drop_digs c hc)) (by have := @dgs_len l; omega)
  have f2 := @fol_len l
  have s2 := @stm_len l
  have fr := fol_run (h := h) (ρ := [some (.str (mkS l)), some w, none, some (.str (mkS (stm l))), some (.str (mkS (dgs l)))]) (l := l) hl (e := eV 4) (fun _ => rfl)
  unfold f_law_after b_law_after
  simp only [r_run, List.map_cons, List.map_nil, List.length_cons, List.length_nil, List.replicate, r_sCons, r_sAsg, r_eCall, r_eLs, r_eL0, r_eV0, r_eVs, Res.bind_ok, List.append_nil, List.cons_append, List.nil_append, if_true, hp, r_tT, r_tLs, r_tL0, r_tN, List.set_cons_zero, List.set_cons_succ, andThen_nx]
  have e1 : (eIf (e2 pNe (eV 4) (eK (W.str (mkS [])))) (eF (l1 pStr) [(e2 (pAdd false) (eF (l1 pInt) [(eV 4)]) (eK (W.int 1)))]) (eK (W.str (mkS [50])))) [some (.str (mkS l)), some w, none, some (.str (mkS (stm l))), some (.str (mkS (dgs l)))] h = .ok (.str (mkS (fol l)), h) := by
    rw [r_eIf]
    simp only [r_e2, r_eVs, r_eV0, r_eK, Res.bind_ok, ne_str fd fine_nil, truthy_bl, ofO_some, Bool.not_eq_true', decide_eq_false_iff_not]
    by_cases hd : dgs l = []
    · rw [if_neg (fun z => z hd)]
      unfold fol
      rw [if_pos hd]
    · rw [if_pos hd, fr, if_neg hd]
  rw [e1]
  simp only [Res.bind_ok, List.set_cons_zero, List.set_cons_succ, andThen_nx, r_sCons, r_sIf, r_eOr, r_e2, r_eVs, r_eV0, r_eK, is_non, truthy_bl, ofO_some]
  cases hw with
  | non =>
    simp only [isNon_non, if_true, Res.bind_ok, truthy_bl, ofO_some, r_sRet, r_e2, r_eVs, r_eV0, add_str (h := h) (k := false) (a := stm l) (b := fol l) (by omega), andThen_rt, hb_rt, fin_str]
    rfl
  | @int n n1 n2 =>
    obtain ⟨k, rfl⟩ : ∃ k : Nat, n = (k : Int) := ⟨n.toNat, by omega⟩
    rw [show aft l (.int (k : Int)) = if (k : Int) < ((fol l).length : Int) then .non else .str (mkS ((stm l).take ((k : Int).toNat - (fol l).length) ++ fol l)) from rfl]
    simp only [isNon_int, Bool.false_eq_true, if_false, r_eF, r_eLs, r_eL0, r_l1, r_e2, r_eVs, r_eV0, Res.bind_ok, len_str (h := h) (l := fol l) (by omega), len_str (h := h) (l := stm l) (by omega), add_int, le_int, truthy_bl, ofO_some, decide_eq_true_eq]
    by_cases h1 : ((stm l).length : Int) + ((fol l).length : Int) ≤ (k : Int)
    · rw [if_pos h1, if_neg (by omega)]
      simp only [r_sRet, r_e2, r_eVs, r_eV0, Res.bind_ok, add_str (h := h) (k := false) (a := stm l) (b := fol l) (by omega), andThen_rt, hb_rt, fin_str]
      rw [List.take_of_length_le (by omega)]
    · rw [if_neg h1]
      simp only [r_sNil, Res.bind_ok, andThen_nx, r_sRet, r_eIf, r_e2, r_eF, r_eLs, r_eL0, r_l1, r_eVs, r_eV0, len_str (h := h) (l := fol l) (by omega), le_int, truthy_bl, ofO_some, decide_eq_true_eq]
      by_cases hk : ((fol l).length : Int) ≤ (k : Int)
      · have e2 : (k : Int) - ((fol l).length : Int) = ((k - (fol l).length : Nat) : Int) := by omega
        rw [if_pos hk, if_neg (by omega)]
        simp only [r_e3, r_eVs, r_eV0, r_eK, Res.bind_ok, r_e2, r_eF, r_eLs, r_eL0, r_l1, len_str (h := h) (l := fol l) (by omega), sub_int, e2, sl_to (h := h) (l := stm l) (k := false) (by omega), Int.toNat_natCast]
        rw [add_str (by have := List.length_take_le' (k - (fol l).length) (stm l); omega)]
        simp only [Res.bind_ok, hb_rt, fin_str]
      · rw [if_neg hk, if_pos (by omega)]
        simp only [r_eK, Res.bind_ok, hb_rt, fin_non]
end
end Pr
end Ti


/-! Ti: names and widths drawn, plain. -/
namespace Ti
open PySem
/-- a run that draws from the purse at i: its value, the purse behind it -/
def Dr (f : R1) (H : Hh) (i B : Nat) (Q : W → Prop) : Prop := ∃ (w : W) (p : Pu), p.Ok B ∧ Q w ∧ f = .ok (w, H.set i p.cell)
theorem Pu.Ok.mono {p : Pu} {B B' : Nat} (o : p.Ok B) (h : B ≤ B') : p.Ok B' := ⟨o.a0, o.b0, o.b1, o.c0, by have := o.c1; omega, o.d0, o.d1⟩
section
variable {h H : Hh}
theorem place_int {n : Nat} {v : Int} (h0 : 0 ≤ v) (h1 : v < n) : placeI n v = some v.toNat := by
  unfold placeI
  rw [if_pos h0, if_pos h1]
theorem ix_lst {ws : List W} {v : Int} (h0 : 0 ≤ v) (h1 : v < ws.length) : ∃ w ∈ ws, pIx (.lst ws) (.int v) h = .ok (w, h) := by
  have hv : v.toNat < ws.length := by omega
  refine ⟨ws[v.toNat], List.getElem_mem hv, ?_⟩
  have : ixW h (.lst ws) (.int v) = some ws[v.toNat] := by
    show (placeI ws.length v).bind (fun j => ws[j]?) = _
    rw [place_int h0 h1, Option.bind_some, List.getElem?_eq_getElem hv]
  unfold pIx
  rw [this]
  exact rfl
theorem ix_sign {l : List Nat} {v : Int} (h0 : 0 ≤ v) (h1 : v < l.length) (hl : l.length ≤ 10000000) : ∃ c ∈ l, pIx (.str (mkS l)) (.int v) h = .ok (.str (mkS [c]), h) := by
  have hv : v.toNat < l.length := by omega
  refine ⟨l[v.toNat], List.getElem_mem hv, ?_⟩
  have := ix_str (h := h) (List.getElem?_eq_getElem hv) hl
  rwa [Int.toNat_of_nonneg h0] at this
theorem mul_sign {k : Bool} {c : Nat} {n : Nat} (hn : n ≤ 1000) : pMul k (.str (mkS [c])) (.int (n : Int)) h = .ok (.str (mkS (List.replicate n c)), h) := by
  show (if (mkS [c]).length * (n : Int).toNat ≤ 1000000 ∧ -1000000 ≤ (n : Int) ∧ (n : Int) ≤ 1000000 then Res.ok (W.str (mkS (List.replicate (n : Int).toNat (sg (mkS [c]))).flatten), h) else .bad) = _
  rw [mkS_len, sg_mk, Int.toNat_natCast, if_pos ⟨by simp; omega, by omega, by omega⟩]
  have : (List.replicate n [c]).flatten = List.replicate n c := by
    clear hn
    induction n with
    | zero => rfl
    | succ n ih => rw [List.replicate_succ, List.flatten_cons, ih]; rfl
  rw [this]
theorem pow_int {i j : Int} {v : Int} (h : pPow (.int i) (.int j) H = .ok (.int v, H)) : pPow (.int i) (.int j) H = .ok (.int v, H) := h
end
namespace Pr
def b_law_text : DS := (sCons (sAsg (tN 2) (eK (W.str (mkS [])))) (sCons (sFor (tN 3) fiR [(e2 (pAdd false) (eK (W.int 1)) (eCall A.f_draw 2 [] [(eV 0), (eV 1)]))] (sAsg (tN 2) (e2 (pAdd false) (eV 2) (e2 pIx (eK (W.str (mkS [97, 98, 99, 100, 101, 102, 103, 104, 105, 106, 107, 108, 109, 110, 111, 112, 113, 114, 115, 116, 117, 118, 119, 120, 121, 122, 48, 49, 50, 51, 52, 53, 54, 55, 56, 57, 45]))) (eCall A.f_draw 2 [] [(eV 0), (eK (W.int 37))]))))) (sRet (eV 2))))
def f_law_text : Fn := runDef 4 .deep b_law_text
def b_law_base : DS := (sCons (sAsg (tN 1) (eLst false [(eK (W.str (mkS []))), (eK (W.str (mkS [97]))), (eK (W.str (mkS [98]))), (eK (W.str (mkS [112, 108, 97, 110]))), (eK (W.str (mkS [97, 48]))), (eK (W.str (mkS [45]))), (eK (W.str (mkS [97, 49, 98]))), (eK (W.str (mkS [120, 45, 48, 48]))), (eK (W.str (mkS [98, 57, 122]))), (eK (W.str (mkS [48]))), (eK (W.str (mkS [48, 48]))), (eK (W.str (mkS [97, 98, 99, 100, 101, 102, 103, 104]))), (eK (W.str (mkS [97, 49, 50, 98]))), (eK (W.str (mkS [97, 49, 48, 98]))), (eK (W.str (mkS [98, 57, 57, 45])))])) (sRet (e2 pIx (e2 (pAdd false) (eV 1) (eLst false [(eCall f_law_text 2 [] [(eV 0), (eK (W.int 8))])])) (eCall A.f_draw 2 [] [(eV 0), (eK (W.int 16))]))))
def f_law_base : Fn := runDef 2 .deep b_law_base
def b_law_ending : DS := (sCons (sAsg (tN 1) (eF (l1 pStr) [(e2 (pAdd false) (eK (W.int 1)) (eCall A.f_draw 2 [] [(eV 0), (e2 pPow (eK (W.int 10)) (eK (W.int 20)))]))])) (sRet (e2 pIx (eLst false [(eK (W.str (mkS []))), (eK (W.str (mkS []))), (eK (W.str (mkS [50]))), (eK (W.str (mkS [55]))), (eK (W.str (mkS [57]))), (eK (W.str (mkS [49, 48]))), (eK (W.str (mkS [57, 57]))), (eK (W.str (mkS [48]))), (eK (W.str (mkS [48, 57]))), (eK (W.str (mkS [49, 48, 48]))), (eK (W.str (mkS [49]))), (eV 1)]) (eCall A.f_draw 2 [] [(eV 0), (eK (W.int 12))]))))
def f_law_ending : Fn := runDef 2 .deep b_law_ending
def b_law_width : DS := (sRet (e2 pIx (eLst false [(eK W.non), (eK W.non), (eK (W.int 1)), (eK (W.int 2)), (eK (W.int 3)), (eK (W.int 4)), (eK (W.int 8)), (e2 (pAdd false) (eK (W.int 1)) (eCall A.f_draw 2 [] [(eV 0), (eK (W.int 40))]))]) (eCall A.f_draw 2 [] [(eV 0), (eK (W.int 8))])))
def f_law_width : Fn := runDef 1 .deep b_law_width
def b_law_name : DS := (sCons (sAsg (tN 2) (e2 (pAdd false) (eCall f_law_base 1 [] [(eV 0)]) (eCall f_law_ending 1 [] [(eV 0)]))) (sCons (sAsg (tN 2) (e2 pIx (eLst false [(eV 2), (eV 2), (eV 2), (e2 (pAdd false) (e2 (pMul false) (eK (W.str (mkS [97]))) (eCall A.f_draw 2 [] [(eV 0), (eK (W.int 20))])) (eV 2))]) (eCall A.f_draw 2 [] [(eV 0), (eK (W.int 4))]))) (sCons (sAsg (tN 2) (e3 (pSl false false true) (eV 2) (eK W.non) (eIf (e2 pIs (eV 1) (eK W.non)) (eK (W.int 40)) (eV 1)))) (sCons (sIf (eAnd (e2 pIsN (eV 1) (eK W.non)) (e2 pEq (eCall A.f_draw 2 [] [(eV 0), (eK (W.int 4))]) (eK (W.int 0)))) (sAsg (tN 2) (eF (l1 pStr) [(e2 pSub (eF (l1 pInt) [(e2 (pMul false) (eK (W.str (mkS [57]))) (eV 1))]) (eCall A.f_draw 2 [] [(eV 0), (eK (W.int 4))]))])) sNil) (sRet (eIf (e2 pEq (eV 2) (eK (W.str (mkS [])))) (eK (W.str (mkS [97]))) (eV 2)))))))
def f_law_name : Fn := runDef 3 .deep b_law_name
section
variable {H : Hh} {i B : Nat} {p : Pu}
theorem draw_dr (hH : H[i]? = some p.cell) (ok : p.Ok B) (hB : B < 1000000) {m : Int} (hm : 0 < m) (hm2 : m < 2 ^ 200) : Dr (A.f_draw [.ref i, .int m] H) H i (B + 10) fun w => ∃ v : Int, w = .int v ∧ 0 ≤ v ∧ v < m := by
  obtain ⟨v, p', h1, h2, h3, e⟩ := A.draw_run hH ok (by omega) hm hm2
  exact ⟨.int v, p', h3, ⟨v, rfl, h1, h2⟩, e⟩
theorem width_dr (hH : H[i]? = some p.cell) (ok : p.Ok B) (hB : B < 900000) : Dr (f_law_width [.ref i] H) H i (B + 20) Wd := by
  obtain ⟨v, p1, a1, a2, o1, e1⟩ := A.draw_run (m := 40) hH ok (by omega) (by omega) (by omega)
  obtain ⟨u, p2, b1, b2, o2, e2⟩ := A.draw_run (m := 8) (at_set hH) o1 (by omega) (by omega) (by omega)
  obtain ⟨w, hw, e3⟩ := ix_lst (h := (H.set i p1.cell).set i p2.cell) (ws := [.non, .non, .int 1, .int 2, .int 3, .int 4, .int 8, .int (1 + v)]) b1 (by simp only [List.length_cons, List.length_nil]; omega)
  have hW : Wd w := by
    simp only [List.mem_cons, List.not_mem_nil, or_false] at hw
    rcases hw with rfl | rfl | rfl | rfl | rfl | rfl | rfl | rfl
    · exact .non
    · exact .non
    · exact .int (by omega) (by omega)
    · exact .int (by omega) (by omega)
    · exact .int (by omega) (by omega)
    · exact .int (by omega) (by omega)
    · exact .int (by omega) (by omega)
    · exact .int (by omega) (by omega)
  refine ⟨w, p2, o2.mono (by omega), hW, ?_⟩
  unfold f_law_width b_law_width
  simp only [r_run, List.map_cons, List.map_nil, List.length_cons, List.length_nil, List.replicate, r_sRet, r_e2, r_eLst, r_eLs, r_eL0, r_eK, r_eCall, r_eV0, r_eVs, Res.bind_ok, List.append_nil, List.cons_append, List.nil_append, if_true, e1, add_int]
  rw [mkL_f (by simp only [List.length_cons, List.length_nil]; decide)]
  simp only [Res.bind_ok, e2, e3, hb_rt]
  have hn : nor w = true := by cases hW <;> rfl
  rw [fin_same hn (by rw [List.length_set, List.length_set]), List.set_set]
/-- signs only, at most n -/
def Sg (n : Nat) (w : W) : Prop := ∃ l, w = .str (mkS l) ∧ l.length ≤ n ∧ ∀ c ∈ l, c ∈ signs
def abc : List Nat := [97, 98, 99, 100, 101, 102, 103, 104, 105, 106, 107, 108, 109, 110, 111, 112, 113, 114, 115, 116, 117, 118, 119, 120, 121, 122, 48, 49, 50, 51, 52, 53, 54, 55, 56, 57, 45]
theorem abc_sign {c : Nat} (h : c ∈ abc) : c ∈ signs := by
  unfold abc at h
  unfold signs
  simp only [List.mem_cons, List.not_mem_nil, or_false] at h ⊢
  omega
theorem text_dr (hH : H[i]? = some p.cell) (ok : p.Ok B) (hB : B < 900000) : Dr (f_law_text [.ref i, .int 8] H) H i (B + 100) (Sg 8) := by
  obtain ⟨v, p1, a1, a2, o1, e1⟩ := A.draw_run (m := 8) hH ok (by omega) (by omega) (by omega)
  suffices h : T (f_law_text [.ref i, .int 8] H) fun r => ∃ (w : W) (p : Pu), p.Ok (B + 100) ∧ Sg 8 w ∧ r = (w, H.set i p.cell) by
    obtain ⟨r, e, w, p', h1, h2, rfl⟩ := h
    exact ⟨w, p', h1, h2, e⟩
  obtain ⟨n, rfl⟩ : ∃ n : Nat, v = (n : Int) := ⟨v.toNat, by omega⟩
  have en : (1 : Int) + (n : Int) = ((n + 1 : Nat) : Int) := by omega
  unfold f_law_text b_law_text
  simp only [r_run, List.map_cons, List.map_nil, List.length_cons, List.length_nil, List.replicate, r_sCons, r_sAsg, r_sFor, r_eLs, r_eL0, r_e2, r_eK, r_eCall, r_eV0, r_eVs, Res.bind_ok, r_tN, List.set_cons_zero, List.set_cons_succ, andThen_nx, List.append_nil, List.cons_append, List.nil_append, if_true, e1, add_int, en, range_nat (h := H.set i p1.cell) (n := n + 1) (by omega), ofO_some, T_bind]
  refine T.mono (T_forG (Q := fun q => ∃ (w : W) (p : Pu) (x : Option W), p.Ok (B + 100) ∧ Sg 8 w ∧ q = (.nx, [some (.ref i), some (.int 8), some w, x], H.set i p.cell)) (fun j ρ h => j ≤ 8 ∧ ∃ (w : W) (p : Pu) (x : Option W), p.Ok (B + 10 + 10 * j) ∧ Sg j w ∧ ρ = [some (.ref i), some (.int 8), some w, x] ∧ h = H.set i p.cell) (fun _ _ _ _ => rfl) ⟨by omega, .str (mkS []), p1, none, o1, ⟨[], rfl, Nat.le_refl _, fun _ h => nomatch h⟩, rfl, rfl⟩ ?_ ?_) ?_
  · rintro j x ρ h hx ⟨hj, _, q, x0, oq, ⟨l, rfl, hl, hs⟩, rfl, rfl⟩
    obtain ⟨hj2, rfl⟩ := range_get hx
    obtain ⟨u, p2, b1, b2, o2, e2⟩ := A.draw_run (m := 37) (at_set (c' := q.cell) hH) oq (by omega) (by omega) (by omega)
    rw [List.set_set] at e2
    obtain ⟨c, hc, e3⟩ := ix_sign (h := H.set i p2.cell) (l := abc) b1 (by show u < 37; exact b2) (by decide)
    have e4 := add_str (h := H.set i p2.cell) (k := false) (a := l) (b := [c]) (by simp only [List.length_cons, List.length_nil]; omega)
    rw [show ([97, 98, 99, 100, 101, 102, 103, 104, 105, 106, 107, 108, 109, 110, 111, 112, 113, 114, 115, 116, 117, 118, 119, 120, 121, 122, 48, 49, 50, 51, 52, 53, 54, 55, 56, 57, 45] : List Nat) = abc from rfl]
    simp only [r_tN, List.set_cons_zero, List.set_cons_succ, T_ok, r_sAsg, r_e2, r_eCall, r_eLs, r_eL0, r_eV0, r_eVs, r_eK, Res.bind_ok, List.append_nil, List.length_cons, List.length_nil, if_true, e2, e3, e4]
    refine ⟨by omega, .str (mkS (l ++ [c])), p2, _, o2.mono (by omega), ⟨l ++ [c], rfl, by rw [List.length_append]; simp only [List.length_cons, List.length_nil]; omega, fun d hd => ?_⟩, rfl, rfl⟩
    rcases List.mem_append.mp hd with hd | hd
    · exact hs d hd
    · rw [List.mem_singleton] at hd
      rw [hd]; exact abc_sign hc
  · rintro ρ h ⟨hj, w, q, x0, oq, ⟨l, rfl, hl, hs⟩, rfl, rfl⟩
    rw [range_len] at hj hl oq
    exact ⟨_, q, x0, oq.mono (by omega), ⟨l, rfl, by omega, hs⟩, rfl⟩
  · rintro _ ⟨w, q, x, oq, hw, rfl⟩
    simp only [andThen_nx, r_sRet, r_eV0, r_eVs, Res.bind_ok, T_ok, hb_rt]
    have hn : nor w = true := by obtain ⟨l, rfl, _⟩ := hw; rfl
    rw [fin_same hn (by rw [List.length_set]), T_ok]
    exact ⟨w, q, oq, hw, rfl⟩
theorem base_dr (hH : H[i]? = some p.cell) (ok : p.Ok B) (hB : B < 900000) : Dr (f_law_base [.ref i] H) H i (B + 120) (Sg 8) := by
  obtain ⟨t, p1, o1, ht, e1⟩ := text_dr hH ok hB
  obtain ⟨u, p2, b1, b2, o2, e2⟩ := A.draw_run (m := 16) (at_set (c' := p1.cell) hH) o1 (by omega) (by omega) (by omega)
  rw [List.set_set] at e2
  obtain ⟨w, hw, e3⟩ := ix_lst (h := H.set i p2.cell) (ws := [.str (mkS []), .str (mkS [97]), .str (mkS [98]), .str (mkS [112, 108, 97, 110]), .str (mkS [97, 48]), .str (mkS [45]), .str (mkS [97, 49, 98]), .str (mkS [120, 45, 48, 48]), .str (mkS [98, 57, 122]), .str (mkS [48]), .str (mkS [48, 48]), .str (mkS [97, 98, 99, 100, 101, 102, 103, 104]), .str (mkS [97, 49, 50, 98]), .str (mkS [97, 49, 48, 98]), .str (mkS [98, 57, 57, 45]), t]) b1 (by simp only [List.length_cons, List.length_nil]; omega)
  have hW : Sg 8 w := by
    simp only [List.mem_cons, List.not_mem_nil, or_false] at hw
    rcases hw with rfl | rfl | rfl | rfl | rfl | rfl | rfl | rfl | rfl | rfl | rfl | rfl | rfl | rfl | rfl | rfl
    all_goals first | exact ht | exact ⟨_, rfl, by decide, by decide⟩
  refine ⟨w, p2, o2.mono (by omega), hW, ?_⟩
  have m1 : ∀ (ws : List W) (h : Hh), ws.length ≤ 20 → mkL false ws h = .ok (.lst ws, h) := fun ws h hl => mkL_f (Nat.le_trans hl (by decide))
  have hn : nor w = true := by obtain ⟨l, rfl, _⟩ := hW; rfl
  have e4 : ∀ h : Hh, pAdd false (.lst [.str (mkS []), .str (mkS [97]), .str (mkS [98]), .str (mkS [112, 108, 97, 110]), .str (mkS [97, 48]), .str (mkS [45]), .str (mkS [97, 49, 98]), .str (mkS [120, 45, 48, 48]), .str (mkS [98, 57, 122]), .str (mkS [48]), .str (mkS [48, 48]), .str (mkS [97, 98, 99, 100, 101, 102, 103, 104]), .str (mkS [97, 49, 50, 98]), .str (mkS [97, 49, 48, 98]), .str (mkS [98, 57, 57, 45])]) (.lst [t]) h = .ok (.lst [.str (mkS []), .str (mkS [97]), .str (mkS [98]), .str (mkS [112, 108, 97, 110]), .str (mkS [97, 48]), .str (mkS [45]), .str (mkS [97, 49, 98]), .str (mkS [120, 45, 48, 48]), .str (mkS [98, 57, 122]), .str (mkS [48]), .str (mkS [48, 48]), .str (mkS [97, 98, 99, 100, 101, 102, 103, 104]), .str (mkS [97, 49, 50, 98]), .str (mkS [97, 49, 48, 98]), .str (mkS [98, 57, 57, 45]), t], h) := fun h => m1 _ h (by simp only [List.length_cons, List.length_nil, List.cons_append, List.nil_append]; omega)
  unfold f_law_base b_law_base
  simp only [r_run, List.map_cons, List.map_nil, List.length_cons, List.length_nil, List.replicate, r_sCons, r_sAsg, r_sRet, r_e2, r_eLst, r_eLs, r_eL0, r_eK, r_eCall, r_eV0, r_eVs, Res.bind_ok, List.append_nil, List.cons_append, List.nil_append, if_true]
  rw [m1 _ _ (by simp only [List.length_cons, List.length_nil]; omega)]
  simp only [Res.bind_ok, r_tN, List.set_cons_zero, List.set_cons_succ, andThen_nx, r_sRet, r_e2, r_eLst, r_eLs, r_eL0, r_eK, r_eCall, r_eV0, r_eVs, List.append_nil, List.length_cons, List.length_nil, if_true, e1]
  rw [m1 _ _ (by simp only [List.length_cons, List.length_nil]; omega)]
  simp only [Res.bind_ok, e4, e2, e3, hb_rt]
  rw [fin_same hn (by rw [List.length_set])]
theorem pow20 {h : Hh} : pPow (.int 10) (.int 20) h = .ok (.int 100000000000000000000, h) := rfl
theorem ending_dr (hH : H[i]? = some p.cell) (ok : p.Ok B) (hB : B < 900000) : Dr (f_law_ending [.ref i] H) H i (B + 20) (Sg 21) := by
  obtain ⟨v, p1, a1, a2, o1, e1⟩ := A.draw_run (m := 100000000000000000000) hH ok (by omega) (by omega) (by omega)
  obtain ⟨u, p2, b1, b2, o2, e2⟩ := A.draw_run (m := 12) (at_set (c' := p1.cell) hH) o1 (by omega) (by omega) (by omega)
  rw [List.set_set] at e2
  obtain ⟨n, rfl⟩ : ∃ n : Nat, v = (n : Int) := ⟨v.toNat, by omega⟩
  have en : (1 : Int) + (n : Int) = ((n + 1 : Nat) : Int) := by omega
  have hlt : n + 1 < 10 ^ 21 := by omega
  have e5 := str_int (h := H.set i p1.cell) hlt (by omega)
  obtain ⟨w, hw, e3⟩ := ix_lst (h := H.set i p2.cell) (ws := [.str (mkS []), .str (mkS []), .str (mkS [50]), .str (mkS [55]), .str (mkS [57]), .str (mkS [49, 48]), .str (mkS [57, 57]), .str (mkS [48]), .str (mkS [48, 57]), .str (mkS [49, 48, 48]), .str (mkS [49]), .str (mkS (numL (n + 1)))]) b1 (by simp only [List.length_cons, List.length_nil]; omega)
  have hW : Sg 21 w := by
    simp only [List.mem_cons, List.not_mem_nil, or_false] at hw
    rcases hw with rfl | rfl | rfl | rfl | rfl | rfl | rfl | rfl | rfl | rfl | rfl | rfl
    all_goals first | exact ⟨_, rfl, numL_len (by omega) hlt, fun c hc => dig_sign (numL_digs c hc)⟩ | exact ⟨_, rfl, by decide, by decide⟩
  refine ⟨w, p2, o2.mono (by omega), hW, ?_⟩
  have m1 : ∀ (ws : List W) (h : Hh), ws.length ≤ 20 → mkL false ws h = .ok (.lst ws, h) := fun ws h hl => mkL_f (Nat.le_trans hl (by decide))
  have hn : nor w = true := by obtain ⟨l, rfl, _⟩ := hW; rfl
  unfold f_law_ending b_law_ending
  simp only [r_run, List.map_cons, List.map_nil, List.length_cons, List.length_nil, List.replicate, r_sCons, r_sAsg, r_sRet, r_e2, r_eF, r_eLst, r_eLs, r_eL0, r_eK, r_eCall, r_eV0, r_eVs, Res.bind_ok, List.append_nil, List.cons_append, List.nil_append, if_true, pow20, e1, add_int, en, r_l1, e5, r_tN, List.set_cons_zero, List.set_cons_succ, andThen_nx]
  rw [m1 _ _ (by simp only [List.length_cons, List.length_nil]; omega)]
  simp only [Res.bind_ok, e2, e3, hb_rt]
  rw [fin_same hn (by rw [List.length_set])]
theorem eq_int {a b : Int} {h : Hh} : pEq (.int a) (.int b) h = .ok (.bl (a == b), h) := rfl
theorem sl_room {l : List Nat} {n : Nat} (hs : ∀ c ∈ l, c ∈ signs) : ∀ c ∈ l.take n, c ∈ signs := fun c hc => hs c (List.mem_of_mem_take hc)
/-- what a room bears -/
def roomN : W → Nat
  | .int n => n.toNat
  | _ => 40
def lastW (l : List Nat) : List Nat := if l = [] then [97] else l
theorem lastW_name {l : List Nat} {n : Nat} (hl : l.length ≤ n) (hn : 1 ≤ n) (hn2 : n ≤ 40) (hs : ∀ c ∈ l, c ∈ signs) : Name (lastW l) ∧ (lastW l).length ≤ n := by
  unfold lastW
  split
  · exact ⟨⟨by decide, by decide, by decide⟩, by simp only [List.length_cons, List.length_nil]; omega⟩
  · rename_i h0
    exact ⟨⟨h0, hs, by omega⟩, hl⟩
theorem last_run {l : List Nat} {h : Hh} {a b : Option W} (hl : l.length ≤ 1000) (hs : ∀ c ∈ l, c ∈ signs) : (sRet (eIf (e2 pEq (eV 2) (eK (W.str (mkS [])))) (eK (W.str (mkS [97]))) (eV 2))) [a, b, some (.str (mkS l))] h = .ok (.rt (.str (mkS (lastW l))), [a, b, some (.str (mkS l))], h) := by
  simp only [r_sRet, r_eIf, r_e2, r_eVs, r_eV0, r_eK, Res.bind_ok, eq_str (fine_signs hs (by omega)) fine_nil, truthy_bl, ofO_some, decide_eq_true_eq]
  unfold lastW
  by_cases h0 : l = []
  · rw [if_pos h0, if_pos h0]
    rfl
  · rw [if_neg h0, if_neg h0]
    rfl
theorem name_dr {w : W} (hw : Wd w) (hH : H[i]? = some p.cell) (ok : p.Ok B) (hB : B < 800000) : Dr (f_law_name [.ref i, w] H) H i (B + 200) (fun r => ∃ l, r = .str (mkS l) ∧ Name l ∧ l.length ≤ roomN w) := by
  obtain ⟨b0, p1, o1, ⟨lb, rfl, hb, sb⟩, e1⟩ := base_dr hH ok (by omega)
  obtain ⟨x0, p2, o2, ⟨le, rfl, he, se⟩, d2⟩ := ending_dr (at_set (c' := p1.cell) hH) o1 (by omega)
  rw [List.set_set] at d2
  obtain ⟨v, p3, a1, a2, o3, d3⟩ := A.draw_run (m := 20) (at_set (c' := p2.cell) hH) o2 (by omega) (by omega) (by omega)
  rw [List.set_set] at d3
  obtain ⟨u, p4, b1, b2, o4, d4⟩ := A.draw_run (m := 4) (at_set (c' := p3.cell) hH) o3 (by omega) (by omega) (by omega)
  rw [List.set_set] at d4
  obtain ⟨n, rfl⟩ : ∃ n : Nat, v = (n : Int) := ⟨v.toNat, by omega⟩
  have f1 := add_str (h := H.set i p2.cell) (k := false) (a := lb) (b := le) (by omega)
  have f2 := mul_sign (h := H.set i p3.cell) (k := false) (c := 97) (n := n) (by omega)
  have f3 := add_str (h := H.set i p3.cell) (k := false) (a := List.replicate n 97) (b := lb ++ le) (by rw [List.length_replicate, List.length_append]; omega)
  have m1 : ∀ (ws : List W) (h : Hh), ws.length ≤ 20 → mkL false ws h = .ok (.lst ws, h) := fun ws h hl => mkL_f (Nat.le_trans hl (by decide))
  obtain ⟨x, hx, e3⟩ := ix_lst (h := H.set i p4.cell) (ws := [.str (mkS (lb ++ le)), .str (mkS (lb ++ le)), .str (mkS (lb ++ le)), .str (mkS (List.replicate n 97 ++ (lb ++ le)))]) b1 (by simp only [List.length_cons, List.length_nil]; omega)
  have sg1 : ∀ c ∈ lb ++ le, c ∈ signs := fun c hc => by
    rcases List.mem_append.mp hc with hc | hc
    · exact sb c hc
    · exact se c hc
  have hX : Sg 100 x := by
    simp only [List.mem_cons, List.not_mem_nil, or_false] at hx
    have g1 : Sg 100 (.str (mkS (lb ++ le))) := ⟨_, rfl, by rw [List.length_append]; omega, sg1⟩
    rcases hx with rfl | rfl | rfl | rfl
    · exact g1
    · exact g1
    · exact g1
    · refine ⟨_, rfl, by rw [List.length_append, List.length_append, List.length_replicate]; omega, fun c hc => ?_⟩
      rcases List.mem_append.mp hc with hc | hc
      · rw [(List.mem_replicate.mp hc).2]; decide
      · exact sg1 c hc
  obtain ⟨lx, rfl, hxl, hxs⟩ := hX
  unfold f_law_name b_law_name
  simp only [r_run, List.map_cons, List.map_nil, List.length_cons, List.length_nil, List.replicate, r_sCons, r_sAsg, r_e2, r_eLst, r_eLs, r_eL0, r_eK, r_eCall, r_eV0, r_eVs, Res.bind_ok, List.append_nil, List.cons_append, List.nil_append, if_true, e1, d2, f1, r_tN, List.set_cons_zero, List.set_cons_succ, andThen_nx, d3, f2, f3]
  rw [m1 _ _ (by simp only [List.length_cons, List.length_nil]; omega)]
  simp only [Res.bind_ok, d4, e3, r_tN, List.set_cons_zero, List.set_cons_succ, andThen_nx, r_sCons, r_sAsg, r_e3, r_eV0, r_eVs, r_eK, r_eIf, r_e2, is_non, truthy_bl, ofO_some]
  cases hw with
  | non =>
    obtain ⟨n1, n2⟩ := lastW_name (l := lx.take 40) (n := 40) (by rw [List.length_take]; omega) (by omega) (by omega) (sl_room hxs)
    have s1 := sl_to (h := H.set i p4.cell) (l := lx) (k := false) (n := 40) (by omega)
    have s1 : pSl false false true (.str (mkS lx)) .non (.int 40) (H.set i p4.cell) = _ := s1
    simp only [isNon_non, if_true, Res.bind_ok, s1, r_tN, List.set_cons_zero, List.set_cons_succ, andThen_nx, r_sCons, r_sIf, r_eAnd, r_e2, r_eV0, r_eVs, r_eK, isN_non, Bool.not_true, truthy_bl, ofO_some, Bool.false_eq_true, if_false, r_sNil, last_run (l := lx.take 40) (h := H.set i p4.cell) (by rw [List.length_take]; omega) (sl_room hxs), andThen_rt, hb_rt]
    refine ⟨.str (mkS (lastW (lx.take 40))), p4, o4.mono (by omega), ⟨_, rfl, n1, n2⟩, ?_⟩
    rw [fin_same rfl (by rw [List.length_set])]
  | @int k0 k1 k2 =>
    obtain ⟨k, rfl⟩ : ∃ k : Nat, k0 = (k : Int) := ⟨k0.toNat, by omega⟩
    obtain ⟨n1, n2⟩ := lastW_name (l := lx.take k) (n := k) (by rw [List.length_take]; omega) (by omega) (by omega) (sl_room hxs)
    have s1 := sl_to (h := H.set i p4.cell) (l := lx) (k := false) (n := k) (by omega)
    obtain ⟨t, p5, t1, t2, o5, d5⟩ := A.draw_run (m := 4) (at_set (c' := p4.cell) hH) o4 (by omega) (by omega) (by omega)
    rw [List.set_set] at d5
    simp only [isNon_int, Bool.false_eq_true, if_false, Res.bind_ok, s1, r_tN, List.set_cons_zero, List.set_cons_succ, andThen_nx, r_sCons, r_sIf, r_eAnd, r_e2, r_eV0, r_eVs, r_eK, isN_non, Bool.not_false, truthy_bl, ofO_some, if_true, r_eCall, r_eLs, r_eL0, List.append_nil, List.length_cons, List.length_nil, d5, eq_int]
    by_cases ht : (t == 0) = true
    · rw [if_pos ht]
      have hk : 1 ≤ k := by omega
      have g1 := mul_sign (h := H.set i p5.cell) (k := false) (c := 57) (n := k) (by omega)
      have g2 := int_str (h := H.set i p5.cell) (d := nines k) (fun c hc => by rw [(List.mem_replicate.mp hc).2]; decide) (by intro z; have := congrArg List.length z; unfold nines at this; rw [List.length_replicate] at this; simp at this; omega) (by unfold nines; rw [List.length_replicate]; omega)
      obtain ⟨r, p6, r1, r2, o6, d6⟩ := A.draw_run (m := 4) (at_set (c' := p5.cell) hH) o5 (by omega) (by omega) (by omega)
      rw [List.set_set] at d6
      have h9 := digsVal_nines k
      have h10 : 10 ≤ 10 ^ k := by
        calc 10 = 10 ^ 1 := rfl
          _ ≤ 10 ^ k := Nat.pow_le_pow_right (by omega) hk
      obtain ⟨z, hz, hz2⟩ : ∃ z : Nat, (digsVal (nines k) : Int) - r = (z : Int) ∧ z < 10 ^ k := ⟨digsVal (nines k) - r.toNat, by omega, by omega⟩
      have g3 := str_int (h := H.set i p6.cell) hz2 (by omega)
      rw [show List.replicate k 57 = nines k from rfl] at g1
      obtain ⟨q1, q2⟩ := lastW_name (l := numL z) (n := k) (numL_len (by omega) hz2) (by omega) (by omega) (fun c hc => dig_sign (numL_digs c hc))
      simp only [r_sAsg, r_eF, r_eLs, r_eL0, r_e2, r_eK, r_eV0, r_eVs, Res.bind_ok, r_l1, g1, g2, r_eCall, List.append_nil, List.length_cons, List.length_nil, if_true, d6, sub_int, hz, g3, r_tN, List.set_cons_zero, List.set_cons_succ, andThen_nx, last_run (l := numL z) (h := H.set i p6.cell) (by have := numL_len (n := z) (k := k) (by omega) hz2; omega) (fun c hc => dig_sign (numL_digs c hc)), andThen_rt, hb_rt]
      refine ⟨.str (mkS (lastW (numL z))), p6, o6.mono (by omega), ⟨_, rfl, q1, by show _ ≤ ((k : Int)).toNat; omega⟩, ?_⟩
      rw [fin_same rfl (by rw [List.length_set])]
    · rw [if_neg ht]
      simp only [r_sNil, Res.bind_ok, andThen_nx, last_run (l := lx.take k) (h := H.set i p5.cell) (by rw [List.length_take]; omega) (sl_room hxs), andThen_rt, hb_rt]
      refine ⟨.str (mkS (lastW (lx.take k))), p5, o5.mono (by omega), ⟨_, rfl, n1, by show _ ≤ ((k : Int)).toNat; omega⟩, ?_⟩
      rw [fin_same rfl (by rw [List.length_set])]
end
end Pr
end Ti


/-! law k02: what is right of a name. -/
namespace Ti
open PySem
theorem T_compG {ρ : Env} {h : Hh} {Q : List W × Hh → Prop} {keep : Hh → Bool} {own : List Nat} {tg : DT} {elt : DE} {xs acc : List W} (I : Nat → List W → Hh → Prop) (hk : ∀ i a h, I i a h → keep h = true) (h0 : I 0 acc h)
    (hs : ∀ i x a h, xs[i]? = some x → I i a h → T (tg x (wipeW ρ own) h) fun p => T (elt p.1 p.2) fun q => a.length < lineW ∧ I (i + 1) (a ++ [q.1]) q.2) (he : ∀ a h, I xs.length a h → Q (a, h)) : T (compG keep own tg none elt ρ xs acc h) Q := by
  have key : ∀ (ys : List W) (i : Nat) (a : List W) (h : Hh), xs.drop i = ys → i + ys.length = xs.length → I i a h → T (compG keep own tg none elt ρ ys a h) Q := by
    intro ys
    induction ys with
    | nil =>
      intro i a h _ hl hI
      show T (if keep h = true then .ok (a, h) else .bad) Q
      rw [if_pos (hk i a h hI)]
      exact T_ok.mpr (he a h (by rw [← hl]; exact hI))
    | cons y ys ih =>
      intro i a h hd hl hI
      have hy : xs[i]? = some y := by
        have := congrArg (·[0]?) hd
        simp only [List.getElem?_drop, Nat.add_zero, List.getElem?_cons_zero] at this
        exact this
      have hd2 : xs.drop (i + 1) = ys := by
        rw [← List.drop_drop, hd]; rfl
      obtain ⟨p, e1, q, e2, hlt, hq⟩ := hs i y a h hy hI
      show T (if keep h = true then (tg y (wipeW ρ own) h).bind fun p => (elt p.1 p.2).bind fun q => if a.length < lineW then compG keep own tg none elt ρ ys (a ++ [q.1]) q.2 else .bad else .bad) Q
      rw [if_pos (hk i a h hI), e1, Res.bind_ok, e2, Res.bind_ok, if_pos hlt]
      exact ih (i + 1) _ _ hd2 (by rw [List.length_cons] at hl; omega) hq
  exact key xs 0 acc h List.drop_zero (by simp) h0
theorem beq_self_aft {l : List Nat} {w : W} : beq (aft l w) (aft l w) = true := by
  unfold aft
  split
  · split
    · rfl
    · exact decide_eq_true rfl
  · exact decide_eq_true rfl
theorem dat_str {l : List Nat} {d : Nat} (h : strFine (mkS l) = true) : isDat d (.str (mkS l)) = true := h
namespace Pr
def b_right2 : DS := (sCons (sAsg (tT [(tN 2), (tN 3)]) (eCall f_law_parts 1 [] [(eV 0)])) (sCons (sAsg (tT [(tN 4), (tN 5)]) (eTup [(eCall f_next_name 2 [] [(eV 0), (eV 1)]), (eCall f_law_after 2 [] [(eV 0), (eV 1)])])) (sCons (sIf (eOr (e2 pNe (eCall f_stem 1 [] [(eV 0)]) (eV 2)) (e2 pNe (eCall f_number 1 [] [(eV 0)]) (eIf (e2 pNe (eV 3) (eK (W.str (mkS [])))) (eF (l1 pInt) [(eV 3)]) (eK W.non)))) (sRet (eK (W.bl false))) sNil) (sCons (sIf (eOr (e1 (pIsi .bool) (eCall f_number 1 [] [(eV 0)])) (e2 pNe (eV 4) (eV 5))) (sRet (eK (W.bl false))) sNil) (sRet (eOr (e2 pIs (eV 1) (eK W.non)) (eOr (e2 pIs (eV 4) (eK W.non)) (e2 pLe (eF (l1 pLen) [(eV 4)]) (eV 1)))))))))
def f_right2 : Fn := runDef 6 .deep b_right2
theorem stm_signs {l : List Nat} (hs : ∀ c ∈ l, c ∈ signs) : ∀ c ∈ stm l, c ∈ signs := fun c hc => hs c (List.mem_of_mem_take hc)
theorem aft_dat {l : List Nat} {w : W} (hn : Name l) (hl : l.length ≤ 400) : isDat 60 (aft l w) = true := by
  have f2 := @fol_len l
  have s2 := @stm_len l
  have key : ∀ a : List Nat, a.length ≤ 400 → (∀ c ∈ a, c ∈ signs) → isDat 60 (.str (mkS (a ++ fol l))) = true := fun a h1 h2 => dat_str (fine_signs (fun c hc => by
    rcases List.mem_append.mp hc with hc | hc
    · exact h2 c hc
    · exact dig_sign (fol_digs c hc)) (by rw [List.length_append]; omega))
  unfold aft
  split
  · split
    · rfl
    · exact key _ (Nat.le_trans (List.length_take_le' _ _) (by omega)) fun c hc => stm_signs hn.all c (List.mem_of_mem_take hc)
  · exact key _ (by omega) (stm_signs hn.all)
theorem look_aft {l : List Nat} {w : W} {h : Hh} : look h (aft l w) = aft l w := by
  unfold aft
  split
  · split <;> rfl
  · rfl
theorem num_dat {l : List Nat} : isDat 60 (num l) = true ∧ beq (num l) (num l) = true ∧ ∀ h, look h (num l) = num l ∧ pIsi .bool (num l) h = .ok (.bl false, h) := by
  unfold num
  split
  · exact ⟨rfl, rfl, fun h => ⟨rfl, rfl⟩⟩
  · exact ⟨rfl, beq_self_eq_true _, fun h => ⟨rfl, rfl⟩⟩
theorem right2_ok {h : Hh} {l : List Nat} {w : W} (hn : Name l) (hl : l.length ≤ 400) (hw : Wd w) (hf : Fits l w) : f_right2 [.str (mkS l), w] h = .ok (.bl true, h) := by
  have hp := law_parts_ok (h := h) (l := l) (by omega)
  have e1 := next_name_ok (h := h) hn hl hw hf
  have d2 := law_after_ok (h := h) hl hw
  have d3 := stem_ok (h := h) hn
  have d4 := number_ok (h := h) hn hl
  have s2 := @stm_len l
  have g2 := @dgs_len l
  have fs : strFine (mkS (stm l)) = true := fine_signs (stm_signs hn.all) (by omega)
  have fd : strFine (mkS (dgs l)) = true := fine_le (fun c hc => dig_lt (drop_digs c hc)) (by omega)
  obtain ⟨n1, n2, n3⟩ := @num_dat l
  have d5 : pNe (.str (mkS (stm l))) (.str (mkS (stm l))) h = .ok (.bl false, h) := by rw [ne_str fs fs, decide_eq_true rfl]; rfl
  have d6 : pNe (num l) (num l) h = .ok (.bl false, h) := by
    unfold pNe eqB
    rw [(n3 h).1, n1, n2]
    rfl
  have d7 : pNe (aft l w) (aft l w) h = .ok (.bl false, h) := by
    unfold pNe eqB
    rw [look_aft, aft_dat hn hl, beq_self_aft]
    rfl
  have d8 : (eIf (e2 pNe (eV 3) (eK (W.str (mkS [])))) (eF (l1 pInt) [(eV 3)]) (eK W.non)) [some (.str (mkS l)), some w, some (.str (mkS (stm l))), some (.str (mkS (dgs l))), some (aft l w), some (aft l w)] h = .ok (num l, h) := by
    simp only [r_eIf, r_e2, r_eVs, r_eV0, r_eK, Res.bind_ok, ne_str fd fine_nil, truthy_bl, ofO_some, Bool.not_eq_true', decide_eq_false_iff_not]
    unfold num
    by_cases hd : dgs l = []
    · rw [if_neg (fun z => z hd), if_pos hd]
    · rw [if_pos hd, if_neg hd]
      simp only [r_eF, r_eLs, r_eL0, r_eVs, r_eV0, Res.bind_ok, r_l1, int_str (h := h) (d := dgs l) drop_digs hd (by omega)]
  unfold f_right2 b_right2
  simp only [r_run, List.map_cons, List.map_nil, List.length_cons, List.length_nil, List.replicate, r_sCons, r_sAsg, r_eCall, r_eLs, r_eL0, r_eV0, r_eVs, Res.bind_ok, List.append_nil, List.cons_append, List.nil_append, if_true, hp, r_tT, r_tLs, r_tL0, r_tN, List.set_cons_zero, List.set_cons_succ, andThen_nx, r_eTup, e1, d2]
  rw [if_pos (show (0 + 1 + 1 ≤ lineW) from by decide)]
  simp only [Res.bind_ok, r_tT, r_tLs, r_tL0, r_tN, List.set_cons_zero, List.set_cons_succ, andThen_nx, r_sCons, r_sIf, r_eOr, r_e2, r_eCall, r_eLs, r_eL0, r_eV0, r_eVs, List.append_nil, List.length_cons, List.length_nil, if_true, d3, d5, truthy_bl, ofO_some, Bool.false_eq_true, if_false, d4, d8, d6, r_sNil, r_e1, (n3 h).2, d7, r_sRet, r_eK, is_non]
  have last : ∀ k : W, Wd k → Fits l k → aft l k = .non ∨ k = .non ∨ ∃ (a : List Nat) (n : Nat), k = .int (n : Int) ∧ aft l k = .str (mkS a) ∧ a.length ≤ n ∧ a.length ≤ 1000 := by
    intro k hk hfk
    cases hk with
    | non => exact .inr (.inl rfl)
    | @int n k1 k2 =>
      obtain ⟨m, rfl⟩ : ∃ m : Nat, n = (m : Int) := ⟨n.toNat, by omega⟩
      have f2 := @fol_len l
      rw [show aft l (.int (m : Int)) = if (m : Int) < ((fol l).length : Int) then .non else .str (mkS ((stm l).take ((m : Int).toNat - (fol l).length) ++ fol l)) from rfl]
      by_cases hk : (m : Int) < ((fol l).length : Int)
      · rw [if_pos hk]; exact .inl rfl
      · rw [if_neg hk]
        refine .inr (.inr ⟨_, m, rfl, rfl, ?_, ?_⟩)
        · rw [List.length_append, List.length_take, Int.toNat_natCast]; omega
        · rw [List.length_append, List.length_take]; omega
  rcases last w hw hf with z | z | ⟨a, n, rfl, za, zl, zl2⟩
  · rw [z]
    cases w <;> simp only [isNon, Res.bind_ok, truthy_bl, ofO_some, if_true, Bool.false_eq_true, if_false, hb_rt, fin_bl]
  · subst z
    simp only [isNon, Res.bind_ok, truthy_bl, ofO_some, if_true, hb_rt, fin_bl]
  · rw [za]
    simp only [isNon, Res.bind_ok, truthy_bl, ofO_some, Bool.false_eq_true, if_false, r_eF, r_eLs, r_eL0, r_eV0, r_eVs, r_l1, len_str (h := h) (l := a) (by omega), le_int, decide_eq_true (show (a.length : Int) ≤ (n : Int) by omega), hb_rt, fin_bl]
end Pr
end Ti


/-! Ti: the purses made of a script, form A. -/
namespace Ti
open PySem
theorem pow_run {i j : Int} {h : Hh} (h0 : 0 ≤ j) (h1 : j ≤ 1000) (hi : i.natAbs < 2 ^ 250) : pPow (.int i) (.int j) h = .ok (.int (i ^ j.toNat), h) :=
  if_pos ⟨h0, h1, Nat.lt_trans (lt_log hi (by omega)) (by omega)⟩
theorem intsOf_map : ∀ ms : List Int, intsOf (ms.map W.int) = some ms
  | [] => rfl
  | m :: ms => by
    show (intsOf (ms.map W.int)).map (m :: ·) = _
    rw [intsOf_map ms]
    rfl
theorem sum_run {ms : List Int} {h : Hh} : pSum (.lst (ms.map W.int)) h = .ok (.int ms.sum, h) := by
  show (ofO (intsOf (ms.map W.int))).bind _ = _
  rw [intsOf_map]
  rfl
theorem max_int {a b : Int} {h : Hh} : pMax (.int a) (.int b) h = .ok (.int (if b > a then b else a), h) := rfl
theorem min_int {a b : Int} {h : Hh} : pMin (.int a) (.int b) h = .ok (.int (if b < a then b else a), h) := rfl
theorem cutL_len {α : Type} {l : List α} {a b : Nat} : (cutL l (some (a : Int)) (some (b : Int))).length ≤ b := by
  have : hiI l.length (some (b : Int)) = min b l.length := by
    show (if (b : Int) < 0 then ((b : Int) + (l.length : Int)).toNat else min (b : Int).toNat l.length) = _
    rw [if_neg (by omega), Int.toNat_natCast]
  unfold cutL
  rw [this, List.length_drop, List.length_take]
  omega
namespace Pr
def b_law_purse : DS := (sCons (sAsg (tN 2) (eF (l1 pSum) [(e3 (pSl false true true) (eV 0) (eV 1) (e2 (pAdd false) (eV 1) (eK (W.int 1))))])) (sRet (eLst true [(e2 pMod (eF (l2 pMax) [(e2 pSub (eV 2) (e2 pPow (eK (W.int 10)) (eK (W.int 18)))), (eK (W.int 0))]) (e2 pPow (e2 pPow (eK (W.int 10)) (eK (W.int 60))) (eK (W.int 8)))), (e2 pMod (eV 2) (eK (W.int 2147483629))), (eK (W.int 0)), (eV 1)])))
def f_law_purse : Fn := runDef 3 .raw b_law_purse
def b_law_purses : DS := (sRet (eComp false [2] (tN 2) fiR [(eF (l2 pMax) [(eK (W.int 1)), (eF (l2 pMin) [(eV 1), (eF (l1 pLen) [(eV 0)])])])] none (eCall f_law_purse 2 [] [(eV 0), (eV 2)])))
def f_law_purses : Fn := runDef 3 .raw b_law_purses
theorem purse_ok {ns : List Int} {j : Nat} {h : Hh} (hj : j ≤ 900) : ∃ p : Pu, p.Ok 0 ∧ f_law_purse [.scr ns, .int (j : Int)] h = .ok (.ref h.length, h ++ [p.cell]) := by
  have ej : (j : Int) + 1 = ((j + 1 : Nat) : Int) := by omega
  have l1 := cutL_len (l := ns) (a := j) (b := j + 1)
  generalize hm : cutL ns (some (j : Int)) (some ((j + 1 : Nat) : Int)) = ms at l1
  have e1 : pSl false true true (.scr ns) (.int (j : Int)) (.int ((j + 1 : Nat) : Int)) h = .ok (.lst (ms.map W.int), h) := by
    show mkL false ((cutL ns (some (j : Int)) (some ((j + 1 : Nat) : Int))).map .int) h = _
    rw [hm]
    exact mkL_f (by rw [List.length_map]; exact Nat.le_trans l1 (Nat.le_trans (Nat.succ_le_succ hj) (by decide)))
  have p1 := pow_run (h := h) (i := 10) (j := 18) (by omega) (by omega) (by decide)
  have p2 := pow_run (h := h) (i := 10) (j := 60) (by omega) (by omega) (by decide)
  have p3 := pow_run (h := h) (i := 10 ^ (60 : Int).toNat) (j := 8) (by omega) (by omega) (by decide +kernel)
  generalize hq : (10 ^ (60 : Int).toNat : Int) ^ (8 : Int).toNat = q at p3
  have q0 : 0 < q := by rw [← hq]; decide +kernel
  generalize hx : (if (0 : Int) > ms.sum - 10 ^ (18 : Int).toNat then (0 : Int) else ms.sum - 10 ^ (18 : Int).toNat) = x
  have x0 : 0 ≤ x := by rw [← hx]; split <;> omega
  obtain ⟨k, rfl⟩ : ∃ k : Nat, q = (k : Int) := ⟨q.toNat, by omega⟩
  have f1 := A.fm (a := x) (m := k) (by omega)
  have f2 := A.fm (a := ms.sum) (m := 2147483629) (by decide)
  refine ⟨⟨x.fmod k, ms.sum.fmod 2147483629, 0, (j : Int)⟩, ⟨f1.1, f2.1, f2.2, by show (0 : Int) ≤ 0; omega, by show (0 : Int) ≤ ((0 : Nat) : Int); omega, by show (0 : Int) ≤ (j : Int); omega, by show (j : Int) ≤ 1000; omega⟩, ?_⟩
  have m1 := mod_run (H := h) (a := x) (j := (k : Int)) q0
  have m2 := mod_run (H := h) (a := ms.sum) (j := 2147483629) (by omega)
  have mk : ∀ a b c d : Int, mkL true [.int a, .int b, .int c, .int d] h = .ok (.ref h.length, h ++ [Pu.cell ⟨a, b, c, d⟩]) := fun a b c d => rfl
  unfold f_law_purse b_law_purse
  simp only [r_run, List.map_cons, List.map_nil, List.length_cons, List.length_nil, List.replicate, r_sCons, r_sAsg, r_eF, r_eLs, r_eL0, r_e3, r_e2, r_eV0, r_eVs, r_eK, Res.bind_ok, List.append_nil, List.cons_append, List.nil_append, add_int, ej, e1, r_l1, sum_run, r_tN, List.set_cons_zero, List.set_cons_succ, andThen_nx, r_sRet, r_eLst, p1, sub_int, r_l2, max_int, hx, p2, p3, m1, m2, mk, hb_rt, fin_raw]
/-- the purses of a script -/
theorem purses_ok {ns : List Int} : ∃ (n : Nat) (ps : List Pu), n ≤ 40 ∧ ps.length = n ∧ (∀ p ∈ ps, p.Ok 0) ∧ f_law_purses [.scr ns, .int 40] [] = .ok (.lst ((List.range n).map fun j => .ref j), ps.map Pu.cell) := by
  obtain ⟨n, hn, hn2⟩ : ∃ n : Nat, (if (if (ns.length : Int) < 40 then (ns.length : Int) else 40) > (1 : Int) then (if (ns.length : Int) < 40 then (ns.length : Int) else 40) else 1) = (n : Int) ∧ n ≤ 40 := by
    refine ⟨(if (if (ns.length : Int) < 40 then (ns.length : Int) else 40) > (1 : Int) then (if (ns.length : Int) < 40 then (ns.length : Int) else 40) else 1).toNat, ?_, ?_⟩ <;> (split <;> split <;> omega)
  have el : pLen (.scr ns) [] = .ok (.int ns.length, []) := rfl
  suffices h : T (f_law_purses [.scr ns, .int 40] []) fun r => ∃ ps : List Pu, ps.length = n ∧ (∀ p ∈ ps, p.Ok 0) ∧ r = (.lst ((List.range n).map fun j => .ref j), ps.map Pu.cell) by
    obtain ⟨r, e, ps, h1, h2, rfl⟩ := h
    exact ⟨n, ps, hn2, h1, h2, e⟩
  unfold f_law_purses b_law_purses
  simp only [r_run, List.map_cons, List.map_nil, List.length_cons, List.length_nil, List.replicate, r_sRet, r_eComp, r_eF, r_eLs, r_eL0, r_eV0, r_eVs, r_eK, Res.bind_ok, List.cons_append, List.nil_append, r_l1, r_l2, el, max_int, min_int, hn, range_nat (h := []) (n := n) (by omega), ofO_some, T_bind]
  refine T.mono (T_compG (Q := fun q => ∃ ps : List Pu, ps.length = n ∧ (∀ p ∈ ps, p.Ok 0) ∧ q = ((List.range n).map (fun j => W.ref j), ps.map Pu.cell)) (fun i a h => i ≤ n ∧ a = (List.range i).map (fun j => W.ref j) ∧ ∃ ps : List Pu, ps.length = i ∧ (∀ p ∈ ps, p.Ok 0) ∧ h = ps.map Pu.cell) (fun _ _ _ _ => rfl) ⟨by omega, rfl, [], rfl, fun _ h => (nomatch h), rfl⟩ ?_ ?_) ?_
  · rintro i x a h hx ⟨hi, rfl, ps, h1, h2, rfl⟩
    obtain ⟨hin, rfl⟩ := range_get hx
    obtain ⟨p, o, e⟩ := purse_ok (ns := ns) (j := i) (h := ps.map Pu.cell) (by omega)
    rw [Int.zero_add]
    simp only [r_tN, wipeW, List.set_cons_zero, List.set_cons_succ, T_ok, r_eCall, r_eLs, r_eL0, r_eV0, r_eVs, Res.bind_ok, List.append_nil, List.length_cons, List.length_nil, if_true, e]
    refine ⟨by rw [List.length_map, List.length_range]; exact Nat.lt_of_le_of_lt hi (Nat.lt_of_le_of_lt hn2 (by decide)), by omega, ?_, ps ++ [p], by rw [List.length_append, h1]; rfl, fun q hq => ?_, by rw [List.map_append]; rfl⟩
    · rw [List.range_succ, List.map_append, List.length_map, h1]
      rfl
    · rcases List.mem_append.mp hq with hq | hq
      · exact h2 q hq
      · rw [List.mem_singleton.mp hq]; exact o
  · rintro a h ⟨hi, rfl, ps, h1, h2, rfl⟩
    rw [range_len] at h1 ⊢
    exact ⟨ps, h1, h2, rfl⟩
  · rintro _ ⟨ps, h1, h2, rfl⟩
    rw [mkL_f (by rw [List.length_map, List.length_range]; exact Nat.le_trans hn2 (by decide))]
    simp only [T_ok, hb_rt, fin_raw]
    exact ⟨ps, h1, h2, rfl⟩
end Pr
end Ti


/-! Nm: names and their roads, plain: no program in it. -/
namespace Ti
open PySem

/-! ### numbers as digits -/
theorem head_app {a b : List Nat} (h : a ≠ []) : (a ++ b).head? = a.head? := by
  cases a with
  | nil => exact absurd rfl h
  | cons c a => rfl
theorem numL_eq {n : Nat} : numL n = if n < 10 then [48 + n] else numL (n / 10) ++ [48 + n % 10] := by
  have key : ∀ d, d < 10 → (Nat.digitChar d).toNat = 48 + d := by decide
  unfold numL
  rw [Nat.toDigits_eq_if (by decide)]
  split
  · rename_i h
    rw [List.map_cons, List.map_nil, key n h]
  · rename_i h
    rw [List.map_append, List.map_cons, List.map_nil, key _ (Nat.mod_lt _ (by decide))]
theorem digsVal_app (a b : List Nat) : digsVal (a ++ b) = digsVal a * 10 ^ b.length + digsVal b := by
  have key : ∀ (b : List Nat) (x : Nat), b.foldl (fun a c => a * 10 + (c - 48)) x = x * 10 ^ b.length + b.foldl (fun a c => a * 10 + (c - 48)) 0 := by
    intro b
    induction b with
    | nil => intro x; simp
    | cons c b ih =>
      intro x
      rw [List.foldl_cons, List.foldl_cons, ih (x * 10 + (c - 48)), ih (0 * 10 + (c - 48)), List.length_cons, Nat.pow_succ, Nat.zero_mul, Nat.zero_add, Nat.add_mul, Nat.mul_assoc x 10, Nat.mul_comm 10, Nat.add_assoc]
  unfold digsVal
  rw [List.foldl_append]
  exact key b _
theorem digsVal_numL (n : Nat) : digsVal (numL n) = n := by
  induction n using Nat.strongRecOn with
  | _ n ih =>
    rw [numL_eq]
    split
    · simp [digsVal]
    · rw [digsVal_app, ih (n / 10) (by omega)]
      simp [digsVal]
      omega
theorem numL_inj {a b : Nat} (h : numL a = numL b) : a = b := by rw [← digsVal_numL a, h, digsVal_numL]
theorem numL_head {n : Nat} (h : 0 < n) : (numL n).head? ≠ some 48 := by
  induction n using Nat.strongRecOn with
  | _ n ih =>
    rw [numL_eq]
    split
    · intro e
      have := Option.some.inj e
      omega
    · intro e
      have h2 := ih (n / 10) (by omega) (by omega)
      rw [head_app numL_ne] at e
      exact h2 e
theorem numL_len_iff {n k : Nat} (hk : 0 < k) : (numL n).length ≤ k ↔ n < 10 ^ k := by
  unfold numL
  rw [List.length_map]
  exact Nat.length_toDigits_le_iff (by decide) hk
theorem numL_pos {n : Nat} : 0 < (numL n).length := List.length_pos_iff.mpr numL_ne
/-- digits that do not begin with a nought are those of their number -/
theorem numL_digsVal {d : List Nat} (hd : ∀ c ∈ d, isDig c = true) (hn : d ≠ []) (h0 : d.head? ≠ some 48) : numL (digsVal d) = d := by
  have key : ∀ (m : Nat) (d : List Nat), d.length = m → (∀ c ∈ d, isDig c = true) → d ≠ [] → d.head? ≠ some 48 → numL (digsVal d) = d ∧ 0 < digsVal d := by
    intro m
    induction m with
    | zero => intro d hl _ hn; exact absurd (List.length_eq_zero_iff.mp hl) hn
    | succ m ih =>
      intro d hl hd hn h0
      have e := List.dropLast_concat_getLast hn
      generalize hx : d.getLast hn = x at e
      have hxd : isDig x = true := hd x (by rw [← hx]; exact List.getLast_mem hn)
      have hx2 : 48 ≤ x ∧ x ≤ 57 := by
        unfold isDig at hxd
        rw [Bool.and_eq_true, decide_eq_true_eq, decide_eq_true_eq] at hxd
        exact hxd
      by_cases hm : d.dropLast = []
      · rw [hm, List.nil_append] at e
        rw [← e]
        have hx3 : x ≠ 48 := by
          intro z
          rw [← e, z] at h0
          exact h0 rfl
        have : digsVal [x] = x - 48 := by simp [digsVal]
        rw [this, numL_eq, if_pos (by omega)]
        refine ⟨?_, by omega⟩
        congr 1
        omega
      · have hl2 : d.dropLast.length = m := by rw [List.length_dropLast, hl]; omega
        have hh : d.dropLast.head? ≠ some 48 := by
          rw [← e, head_app hm] at h0
          exact h0
        obtain ⟨i1, i2⟩ := ih _ hl2 (fun c hc => hd c (List.dropLast_subset d hc)) hm hh
        have hv : digsVal d = digsVal d.dropLast * 10 + (x - 48) := by
          conv => lhs; rw [← e, digsVal_app]
          simp [digsVal]
        rw [hv, numL_eq, if_neg (by omega), show (digsVal d.dropLast * 10 + (x - 48)) / 10 = digsVal d.dropLast by omega, show (digsVal d.dropLast * 10 + (x - 48)) % 10 = x - 48 by omega, i1]
        refine ⟨?_, by omega⟩
        rw [show 48 + (x - 48) = x by omega]
        exact e
  exact (key _ d rfl hd hn h0).1
end Ti


/-! Nm2: stems, numbers, followers, roads. -/
namespace Ti
open PySem
section
variable {l b d c x y : List Nat} {n m k i j : Nat} {w : Option Nat}
theorem stm_dgs : stm l ++ dgs l = l := List.take_append_drop _ _
/-- no number behind it -/
def Stem (b : List Nat) : Prop := dgs b = []
theorem stem_iff : Stem b ↔ cutN b = b.length := by
  unfold Stem dgs
  rw [List.drop_eq_nil_iff]
  have := @cutN_le b
  omega
theorem at1_app (hd : ∀ c ∈ d, isDig c = true) : at1 (b ++ d) = at1 b := by
  have : tlN (b ++ d) = d.length + tlN b := by
    unfold tlN
    rw [List.reverse_append, List.takeWhile_append_of_pos (fun c hc => hd c (List.mem_reverse.mp hc)), List.length_append, List.length_reverse]
  unfold at1
  rw [this, List.length_append]
  have := @tlN_le b
  omega
theorem noughts {j c : Nat} (hb : Stem b) (h1 : at1 b ≤ j) (e : b[j]? = some c) : c = 48 :=
  cutN_in h1 (by rw [stem_iff.mp hb]; exact (List.getElem?_eq_some_iff.mp e).1) e
theorem parts_app (hb : Stem b) (hd : ∀ c ∈ d, isDig c = true) (h0 : d.head? ≠ some 48) : cutN (b ++ d) = b.length := by
  have h1 : ∀ c ∈ b.drop (at1 b), (c == 48) = true := by
    intro c hc
    obtain ⟨i, hi⟩ := List.mem_iff_getElem?.mp hc
    rw [List.getElem?_drop] at hi
    rw [noughts hb (by omega) hi]
    rfl
  have h2 : d.takeWhile (· == 48) = [] := by
    cases d with
    | nil => rfl
    | cons c d =>
      rw [List.takeWhile_cons]
      have : (c == 48) = false := beq_eq_false_iff_ne.mpr fun z => h0 (by rw [z]; rfl)
      rw [this]
      rfl
  have h3 := @at1_le b
  unfold cutN
  rw [at1_app hd, List.drop_append_of_le_length h3, List.takeWhile_append_of_pos h1, h2, List.append_nil, List.length_drop]
  omega
theorem stm_app (hb : Stem b) (hd : ∀ c ∈ d, isDig c = true) (h0 : d.head? ≠ some 48) : stm (b ++ d) = b := by
  unfold stm
  rw [parts_app hb hd h0, List.take_left']
  rfl
theorem dgs_app (hb : Stem b) (hd : ∀ c ∈ d, isDig c = true) (h0 : d.head? ≠ some 48) : dgs (b ++ d) = d := by
  unfold dgs
  rw [parts_app hb hd h0, List.drop_left']
  rfl
theorem dgs_head : (dgs l).head? ≠ some 48 := by
  intro e
  unfold dgs at e
  rw [List.head?_drop] at e
  exact cutN_end e rfl
theorem stem_stm : Stem (stm l) := by
  rw [stem_iff]
  have h1 : at1 (stm l) = at1 l := by
    have := @at1_app (stm l) (dgs l) drop_digs
    rw [stm_dgs] at this
    exact this.symm
  have h2 : (stm l).length = cutN l := by
    unfold stm
    rw [List.length_take]
    have := @cutN_le l
    omega
  have h3 : at1 l ≤ cutN l := by unfold cutN; omega
  have h4 : ∀ c ∈ (stm l).drop (at1 l), (c == 48) = true := by
    intro c hc
    obtain ⟨i, hi⟩ := List.mem_iff_getElem?.mp hc
    rw [List.getElem?_drop] at hi
    have hlt : at1 l + i < cutN l := by
      have := (List.getElem?_eq_some_iff.mp hi).1
      omega
    unfold stm at hi
    rw [List.getElem?_take, if_pos hlt] at hi
    rw [cutN_in (by omega) hlt hi]
    rfl
  have h5 : ((stm l).drop (at1 l)).takeWhile (· == 48) = (stm l).drop (at1 l) := by
    have := List.takeWhile_append_of_pos (l₂ := []) h4
    rw [List.append_nil, List.takeWhile_nil, List.append_nil] at this
    exact this
  conv => lhs; unfold cutN
  rw [h1, h5, List.length_drop, h2]
  omega
/-- the number -/
def vl (l : List Nat) : Nat := digsVal (dgs l)
theorem numL_vl (h : dgs l ≠ []) : numL (vl l) = dgs l := numL_digsVal drop_digs h dgs_head
theorem vl_pos (h : dgs l ≠ []) : 0 < vl l := by
  cases hv : vl l with
  | succ n => omega
  | zero =>
    have h2 := numL_vl h
    rw [hv] at h2
    have h3 := @dgs_head l
    rw [← h2] at h3
    exact absurd (by decide : (numL 0).head? = some 48) h3
theorem stm_num (hb : Stem b) (hn : 0 < n) : stm (b ++ numL n) = b := stm_app hb numL_digs (numL_head hn)
theorem dgs_num (hb : Stem b) (hn : 0 < n) : dgs (b ++ numL n) = numL n := dgs_app hb numL_digs (numL_head hn)
theorem vl_num (hb : Stem b) (hn : 0 < n) : vl (b ++ numL n) = n := by unfold vl; rw [dgs_num hb hn, digsVal_numL]
theorem dgs_ne (hb : Stem b) (hn : 0 < n) : dgs (b ++ numL n) ≠ [] := by rw [dgs_num hb hn]; exact numL_ne
theorem num_form (h : dgs l ≠ []) : l = stm l ++ numL (vl l) := by rw [numL_vl h]; exact stm_dgs.symm
theorem nines_numL (h : 0 < m) : nines m = numL (10 ^ m - 1) := by
  have h1 : digsVal (nines m) = 10 ^ m - 1 := by
    have := digsVal_nines m
    omega
  rw [← h1, numL_digsVal]
  · intro c hc
    rw [List.eq_of_mem_replicate hc]
    rfl
  · intro z
    have := congrArg List.length z
    simp [nines] at this
    omega
  · intro z
    cases m with
    | zero => omega
    | succ m =>
      have : (nines (m + 1)).head? = some 57 := rfl
      rw [this] at z
      cases z
theorem pow10 (m : Nat) : 0 < 10 ^ m := Nat.pow_pos (by decide)
theorem numL_lt : n < 10 ^ (numL n).length := (numL_len_iff numL_pos).mp (Nat.le_refl _)
theorem numL_ge (hn : 0 < n) : 10 ^ ((numL n).length - 1) ≤ n := by
  by_cases h : (numL n).length - 1 = 0
  · rw [h]; omega
  · have := (numL_len_iff (n := n) (k := (numL n).length - 1) (by omega))
    by_cases z : 10 ^ ((numL n).length - 1) ≤ n
    · exact z
    · have h2 := this.mpr (by omega)
      have := @numL_pos n
      omega

/-! ### the number that counts on; followers -/
def Nn (l : List Nat) : Nat := if dgs l = [] then 1 else vl l
theorem Nn_pos : 0 < Nn l := by
  unfold Nn
  split
  · omega
  · exact vl_pos (by assumption)
theorem fol_eq : fol l = numL (Nn l + 1) := by
  unfold fol Nn
  split
  · decide
  · rfl
theorem Nn_num (hb : Stem b) (hn : 0 < n) : Nn (b ++ numL n) = n := by
  unfold Nn
  rw [if_neg (dgs_ne hb hn), vl_num hb hn]
/-- behind any text -/
theorem app_num (hn : 0 < n) : dgs (c ++ numL n) ≠ [] ∧ n ≤ Nn (c ++ numL n) := by
  have h1 : at1 (c ++ numL n) = at1 c := at1_app numL_digs
  have h2 := @at1_le c
  have h3 : cutN (c ++ numL n) ≤ c.length := by
    apply Nat.le_of_not_lt
    intro z
    have h4 : (c ++ numL n)[c.length]? = (numL n).head? := by
      rw [List.getElem?_append_right (Nat.le_refl _), Nat.sub_self, List.head?_eq_getElem?]
    cases h5 : (numL n).head? with
    | none => exact numL_ne (List.head?_eq_none_iff.mp h5)
    | some a =>
      rw [h5] at h4
      have := cutN_in (l := c ++ numL n) (by rw [h1]; exact h2) z h4
      rw [this] at h5
      exact numL_head hn h5
  have h4 : dgs (c ++ numL n) = c.drop (cutN (c ++ numL n)) ++ numL n := by
    unfold dgs
    rw [List.drop_append_of_le_length h3]
  have h5 : dgs (c ++ numL n) ≠ [] := by
    rw [h4]
    intro z
    exact numL_ne (List.append_eq_nil_iff.mp z).2
  refine ⟨h5, ?_⟩
  unfold Nn
  rw [if_neg h5]
  unfold vl
  rw [h4, digsVal_app, digsVal_numL]
  omega
/-- the next name -/
def nxt (w : Option Nat) (l : List Nat) : Option (List Nat) := match w with
  | none => some (stm l ++ fol l)
  | some k => if k < (fol l).length then none else some ((stm l).take (k - (fol l).length) ++ fol l)
def wW : Option Nat → W
  | none => .non
  | some k => .int (k : Int)
def nW : Option (List Nat) → W
  | none => .non
  | some l => .str (mkS l)
theorem wW_none : wW none = .non := rfl
theorem wW_some : wW (some k) = .int (k : Int) := rfl
theorem nW_none : nW none = .non := rfl
theorem nW_some : nW (some l) = .str (mkS l) := rfl
theorem aft_eq : aft l (wW w) = nW (nxt w l) := by
  cases w with
  | none => rfl
  | some k =>
    show (if (k : Int) < ((fol l).length : Int) then W.non else .str (mkS ((stm l).take ((k : Int).toNat - (fol l).length) ++ fol l))) = _
    unfold nxt
    by_cases h : k < (fol l).length
    · simp only [if_pos h, if_pos (show (k : Int) < ((fol l).length : Int) by omega)]
      rfl
    · simp only [if_neg h, if_neg (show ¬ (k : Int) < ((fol l).length : Int) by omega), Int.toNat_natCast]
      rfl
theorem nxt_form (h : nxt w l = some x) : ∃ c, x = c ++ numL (Nn l + 1) ∧ ∃ t, c = (stm l).take t := by
  cases w with
  | none =>
    cases h
    exact ⟨stm l, by rw [fol_eq], (stm l).length, List.take_length.symm⟩
  | some k =>
    unfold nxt at h
    simp only [] at h
    split at h
    · cases h
    · cases h
      exact ⟨_, by rw [fol_eq], _, rfl⟩
theorem nxt_dgs (h : nxt w l = some x) : dgs x ≠ [] := by
  obtain ⟨c, rfl, _⟩ := nxt_form h
  exact (app_num (by omega)).1
theorem nxt_Nn (h : nxt w l = some x) : Nn l < Nn x := by
  obtain ⟨c, rfl, _⟩ := nxt_form h
  exact (app_num (c := c) (n := Nn l + 1) (by omega)).2
theorem nxt_len (h : nxt (some k) l = some x) : x.length ≤ k := by
  unfold nxt at h
  simp only [] at h
  split at h
  · cases h
  · cases h
    rw [List.length_append, List.length_take]
    omega
theorem nxt_len0 (h : nxt w l = some x) : x.length ≤ l.length + 1 := by
  obtain ⟨c, rfl, t, rfl⟩ := nxt_form h
  rw [List.length_append, List.length_take, ← fol_eq]
  have h1 : (fol l).length ≤ (dgs l).length + 1 := by
    rw [fol_eq]
    refine numL_len (by omega) ?_
    unfold Nn
    split
    · rename_i e
      rw [e]
      decide
    · have h1 := digsVal_bound (l := dgs l) drop_digs
      have h2 := pow10 (dgs l).length
      rw [Nat.pow_succ]
      unfold vl
      omega
  have h3 := congrArg List.length (@stm_dgs l)
  rw [List.length_append] at h3
  omega
theorem nxt_signs (hs : ∀ a ∈ l, a ∈ signs) (h : nxt w l = some x) : ∀ a ∈ x, a ∈ signs := by
  obtain ⟨c, rfl, t, rfl⟩ := nxt_form h
  intro a ha
  rcases List.mem_append.mp ha with h1 | h1
  · exact hs a (List.take_subset _ _ (List.take_subset _ _ h1))
  · exact dig_sign (numL_digs a h1)
theorem nxt_ne (h : nxt w l = some x) : x ≠ [] := by
  obtain ⟨c, rfl, _⟩ := nxt_form h
  intro z
  exact numL_ne (List.append_eq_nil_iff.mp z).2
theorem nxt_run (hb : Stem b) (hn : 0 < n) : nxt none (b ++ numL n) = some (b ++ numL (n + 1)) := by
  show some (stm (b ++ numL n) ++ fol (b ++ numL n)) = _
  rw [stm_num hb hn, fol_eq, Nn_num hb hn]
theorem nxt_runW (hb : Stem b) (hn : 0 < n) (hl : b.length + (numL (n + 1)).length ≤ k) : nxt (some k) (b ++ numL n) = some (b ++ numL (n + 1)) := by
  unfold nxt
  simp only []
  rw [stm_num hb hn, fol_eq, Nn_num hb hn, if_neg (by omega), List.take_of_length_le (by omega)]

/-! ### roads -/
def rd (w : Option Nat) (o : Option (List Nat)) : Nat → Option (List Nat)
  | 0 => o
  | n + 1 => (rd w o n).bind (nxt w)
theorem rd_add {o : Option (List Nat)} (a b : Nat) : rd w o (a + b) = rd w (rd w o a) b := by
  induction b with
  | zero => rfl
  | succ b ih => show (rd w o (a + b)).bind (nxt w) = _; rw [ih]; rfl
theorem rd_succ {o : Option (List Nat)} (a : Nat) : rd w o (a + 1) = rd w (o.bind (nxt w)) a := by
  rw [Nat.add_comm, rd_add]
  rfl
theorem rd_none (i : Nat) : rd w none i = none := by
  induction i with
  | zero => rfl
  | succ i ih => show (rd w none i).bind (nxt w) = _; rw [ih]; rfl
theorem rd_end {o : Option (List Nat)} (h : rd w o i = none) (hij : i ≤ j) : rd w o j = none := by
  obtain ⟨t, rfl⟩ := Nat.le.dest hij
  rw [rd_add, h, rd_none]
theorem rd_Nn {o : Option (List Nat)} (hi : rd w o i = some x) (hj : rd w o j = some y) (hij : i < j) : Nn x < Nn y := by
  obtain ⟨t, rfl⟩ := Nat.le.dest hij
  induction t generalizing y with
  | zero =>
    have hj : (rd w o i).bind (nxt w) = some y := hj
    rw [hi] at hj
    exact nxt_Nn hj
  | succ t ih =>
    have hj : (rd w o (i + 1 + t)).bind (nxt w) = some y := hj
    obtain ⟨z, e1, e2⟩ := Option.bind_eq_some_iff.mp hj
    exact Nat.lt_trans (ih e1 (by omega)) (nxt_Nn e2)
theorem rd_inj {o : Option (List Nat)} (hi : rd w o i = some x) (hj : rd w o j = some x) : i = j := by
  rcases Nat.lt_trichotomy i j with h | h | h
  · exact absurd (rd_Nn hi hj h) (Nat.lt_irrefl _)
  · exact h
  · exact absurd (rd_Nn hj hi h) (Nat.lt_irrefl _)
theorem rd_dgs {o : Option (List Nat)} (h : rd w o i = some x) (h0 : 0 < i) : dgs x ≠ [] := by
  obtain ⟨t, rfl⟩ := Nat.le.dest h0
  rw [Nat.add_comm] at h
  have h : (rd w o (t + 0)).bind (nxt w) = some x := h
  obtain ⟨z, _, e2⟩ := Option.bind_eq_some_iff.mp h
  exact nxt_dgs e2
theorem rd_run (hb : Stem b) (hn : 0 < n) : rd none (some (b ++ numL n)) j = some (b ++ numL (n + j)) := by
  induction j with
  | zero => rfl
  | succ j ih =>
    show (rd none (some (b ++ numL n)) j).bind (nxt none) = _
    rw [ih]
    exact nxt_run hb (by omega)
theorem rd_runW (hb : Stem b) (hn : 0 < n) (hl : (b ++ numL n).length ≤ k) (hj : n + j < 10 ^ (numL n).length) : rd (some k) (some (b ++ numL n)) j = some (b ++ numL (n + j)) := by
  induction j with
  | zero => rfl
  | succ j ih =>
    show (rd (some k) (some (b ++ numL n)) j).bind (nxt (some k)) = _
    rw [ih (by omega)]
    refine nxt_runW hb (by omega) ?_
    have := (numL_len_iff (n := n + j + 1) (k := (numL n).length) numL_pos).mpr hj
    rw [List.length_append] at hl
    omega
end
end Ti


/-! Nm3: roads by stretches. -/
namespace Ti
open PySem
/-- a stretch: its stem, its first number, how many names -/
abbrev Stch := List Nat × Option Nat × Option Nat
inductive Desc (w : Option Nat) : Option (List Nat) → List Stch → Prop
  | done : Desc w none []
  | one {x s} : dgs x = [] → Desc w (nxt w x) s → Desc w (some x) ((x, none, some 1) :: s)
  | run {b n k s} : w = some k → Stem b → 0 < n → (b ++ numL n).length ≤ k → Desc w (nxt w (b ++ numL (10 ^ (numL n).length - 1))) s → Desc w (some (b ++ numL n)) ((b, some n, some (10 ^ (numL n).length - n)) :: s)
  | free {b n} : w = none → Stem b → 0 < n → Desc w (some (b ++ numL n)) [(b, some n, none)]
def nmd (b : List Nat) (f : Option Nat) (c : Nat) : List Nat := match f with
  | none => b
  | some n => b ++ numL (n + c)
def nthS : List Stch → Nat → Option (List Nat)
  | [], _ => none
  | (b, f, m) :: s, c => match m with
    | none => some (nmd b f c)
    | some m => if c < m then some (nmd b f c) else nthS s (c - m)
def hit (z b : List Nat) (n : Nat) (m : Option Nat) : Prop := b = stm z ∧ dgs z ≠ [] ∧ n ≤ vl z ∧ (∀ k, m = some k → vl z < n + k)
instance {z b : List Nat} {n : Nat} {m : Option Nat} : Decidable (hit z b n m) := by
  unfold hit
  cases m with
  | none => exact decidable_of_iff (b = stm z ∧ dgs z ≠ [] ∧ n ≤ vl z) ⟨fun h => ⟨h.1, h.2.1, h.2.2, fun _ e => nomatch e⟩, fun h => ⟨h.1, h.2.1, h.2.2.1⟩⟩
  | some k => exact decidable_of_iff (b = stm z ∧ dgs z ≠ [] ∧ n ≤ vl z ∧ vl z < n + k) ⟨fun h => ⟨h.1, h.2.1, h.2.2.1, fun _ e => by cases e; exact h.2.2.2⟩, fun h => ⟨h.1, h.2.1, h.2.2.1, h.2.2.2 k rfl⟩⟩
def plcS (z : List Nat) : List Stch → Nat → Option Nat
  | [], _ => none
  | (b, none, m) :: s, t => if z = b then some t else plcS z s (t + m.getD 0)
  | (b, some n, m) :: s, t => if hit z b n m then some (t + vl z - n) else plcS z s (t + m.getD 0)
section
variable {w : Option Nat} {o o' : Option (List Nat)} {s t : List Stch} {z : List Nat} {i j c : Nat}
theorem run_off {b : List Nat} {n k : Nat} (hb : Stem b) (hn : 0 < n) (hl : (b ++ numL n).length ≤ k) : rd (some k) (some (b ++ numL n)) (10 ^ (numL n).length - n + i) = rd (some k) (nxt (some k) (b ++ numL (10 ^ (numL n).length - 1))) i := by
  have h1 := @numL_lt n
  obtain ⟨m, hm⟩ : ∃ m, 10 ^ (numL n).length - n = m + 1 := ⟨10 ^ (numL n).length - n - 1, by omega⟩
  rw [rd_add, hm]
  show rd _ ((rd (some k) (some (b ++ numL n)) m).bind (nxt (some k))) i = _
  rw [rd_runW hb hn hl (by omega), Option.bind_some, show n + m = 10 ^ (numL n).length - 1 by omega]
theorem Desc.nth (d : Desc w o s) : nthS s c = rd w o c := by
  induction d generalizing c with
  | done => exact (rd_none c).symm
  | one hx _ ih =>
    show (if c < 1 then _ else _) = _
    split
    · rw [show c = 0 by omega]; rfl
    · rw [ih, show c = (c - 1) + 1 by omega, rd_succ]; rfl
  | @run b n k s hw hb hn hl _ ih =>
    subst hw
    show (if c < _ then some (b ++ numL (n + c)) else _) = _
    split
    · exact (rd_runW hb hn hl (by omega)).symm
    · rw [ih, ← run_off hb hn hl]
      congr 1
      omega
  | free hw hb hn =>
    subst hw
    exact (rd_run hb hn).symm
theorem hit_run {b : List Nat} {n : Nat} {m : Option Nat} (h : hit z b n m) : z = b ++ numL (n + (vl z - n)) := by
  obtain ⟨h1, h2, h3, _⟩ := h
  rw [show n + (vl z - n) = vl z by omega, h1]
  exact num_form h2
theorem Desc.plc_none (d : Desc w o s) (t : Nat) : plcS z s t = none ↔ ∀ i, rd w o i ≠ some z := by
  induction d generalizing t with
  | done => exact ⟨fun _ i e => (by rw [rd_none] at e; cases e), fun _ => rfl⟩
  | @one x s hx _ ih =>
    show (if z = x then some t else plcS z s (t + 1)) = none ↔ _
    split
    · rename_i e
      exact ⟨fun h => (nomatch h), fun h => absurd (by rw [e]; rfl) (h 0)⟩
    · rename_i e
      rw [ih]
      refine ⟨fun h i => ?_, fun h i => ?_⟩
      · cases i with
        | zero => exact fun q => e (Option.some.inj q).symm
        | succ i => rw [rd_succ]; exact h i
      · have := h (i + 1)
        rw [rd_succ] at this
        exact this
  | @run b n k s hw hb hn hl _ ih =>
    subst hw
    have h1 := @numL_lt n
    show (if hit z b n (some (10 ^ (numL n).length - n)) then some (t + vl z - n) else plcS z s (t + (10 ^ (numL n).length - n))) = none ↔ _
    split
    · rename_i e
      refine ⟨fun h => (nomatch h), fun h => absurd ?_ (h (vl z - n))⟩
      have h4 := e.2.2.2 _ rfl
      have h3 := e.2.2.1
      rw [rd_runW hb hn hl (by omega), ← hit_run e]
    · rename_i e
      rw [ih]
      refine ⟨fun h i q => ?_, fun h i => ?_⟩
      · by_cases hi : i < 10 ^ (numL n).length - n
        · rw [rd_runW hb hn hl (by omega)] at q
          cases q
          refine e ⟨(stm_num hb (by omega)).symm, dgs_ne hb (by omega), ?_, fun k' ek => ?_⟩
          · rw [vl_num hb (by omega)]; omega
          · cases ek
            rw [vl_num hb (by omega)]; omega
        · rw [show i = 10 ^ (numL n).length - n + (i - (10 ^ (numL n).length - n)) by omega, run_off hb hn hl] at q
          exact h _ q
      · rw [← run_off hb hn hl]
        exact h _
  | @free b n hw hb hn =>
    subst hw
    show (if hit z b n none then some (t + vl z - n) else none) = none ↔ _
    split
    · rename_i e
      refine ⟨fun h => (nomatch h), fun h => absurd ?_ (h (vl z - n))⟩
      rw [rd_run hb hn, ← hit_run e]
    · rename_i e
      refine ⟨fun _ i q => ?_, fun _ => rfl⟩
      rw [rd_run hb hn] at q
      cases q
      exact e ⟨(stm_num hb (by omega)).symm, dgs_ne hb (by omega), by rw [vl_num hb (by omega)]; omega, fun _ ek => nomatch ek⟩
theorem Desc.plc_some (d : Desc w o s) (t : Nat) : plcS z s t = some j → ∃ i, j = t + i ∧ rd w o i = some z := by
  induction d generalizing t with
  | done => exact fun h => nomatch h
  | @one x s hx _ ih =>
    show (if z = x then some t else plcS z s (t + 1)) = some j → _
    split
    · rename_i e
      intro h
      cases h
      exact ⟨0, rfl, by rw [e]; rfl⟩
    · intro h
      obtain ⟨i, h1, h2⟩ := ih _ h
      exact ⟨i + 1, by omega, by rw [rd_succ]; exact h2⟩
  | @run b n k s hw hb hn hl _ ih =>
    subst hw
    have h1 := @numL_lt n
    show (if hit z b n (some (10 ^ (numL n).length - n)) then some (t + vl z - n) else plcS z s (t + (10 ^ (numL n).length - n))) = some j → _
    split
    · rename_i e
      intro h
      cases h
      have h4 := e.2.2.2 _ rfl
      have h3 := e.2.2.1
      exact ⟨vl z - n, by omega, by rw [rd_runW hb hn hl (by omega), ← hit_run e]⟩
    · intro h
      obtain ⟨i, h3, h2⟩ := ih _ h
      exact ⟨10 ^ (numL n).length - n + i, by omega, by rw [run_off hb hn hl]; exact h2⟩
  | @free b n hw hb hn =>
    subst hw
    show (if hit z b n none then some (t + vl z - n) else none) = some j → _
    split
    · rename_i e
      intro h
      cases h
      have h3 := e.2.2.1
      exact ⟨vl z - n, by omega, by rw [rd_run hb hn, ← hit_run e]⟩
    · exact fun h => nomatch h
theorem Desc.plc (d : Desc w o s) : plcS z s 0 = some j ↔ rd w o j = some z := by
  constructor
  · intro h
    obtain ⟨i, h1, h2⟩ := d.plc_some 0 h
    rw [show j = i by omega]
    exact h2
  · intro h
    cases q : plcS z s 0 with
    | none => exact absurd h ((d.plc_none 0).mp q j)
    | some i =>
      obtain ⟨i', h1, h2⟩ := d.plc_some 0 q
      rw [rd_inj h h2, show i = i' by omega]
/-- where a name stands on a road -/
theorem Desc.plc_eq (d : Desc w o s) (d' : Desc w o t) : plcS z s 0 = plcS z t 0 := by
  cases q : plcS z s 0 with
  | none => exact ((d'.plc_none 0).mpr ((d.plc_none 0).mp q)).symm
  | some i => exact (d'.plc.mpr (d.plc.mp q)).symm

/-! ### where two roads meet -/
def lim (n : Nat) (m : Option Nat) (v : Nat) : Prop := n ≤ v ∧ ∀ k, m = some k → v < n + k
def cmn (S T : Stch) : Option Nat := match S, T with
  | (b, some n, m), (b', some n', m') => if b = b' ∧ (m.all fun k => decide (max n n' < n + k)) = true ∧ (m'.all fun k => decide (max n n' < n' + k)) = true then some (max n n') else none
  | _, _ => none
def rowS (S : Stch) (t : List Stch) : Option Nat := t.findSome? (cmn S)
theorem row_cons {S T : Stch} {s : List Stch} : rowS S (T :: s) = match cmn S T with | some f => some f | none => rowS S s := by
  unfold rowS
  rw [List.findSome?_cons]
  cases cmn S T <;> rfl
def fcS (s t : List Stch) : Option (List Nat) := match s with
  | [] => none
  | S :: s => match rowS S t with
    | some f => some (S.1 ++ numL f)
    | none => fcS s t
theorem first_Nn {x : List Nat} (h : rd w (some x) i = some z) : Nn x ≤ Nn z := by
  by_cases h0 : i = 0
  · subst h0
    cases h
    exact Nat.le_refl _
  · exact Nat.le_of_lt (rd_Nn (i := 0) rfl h (by omega))
theorem Nn_vl (h : dgs z ≠ []) : Nn z = vl z := if_neg h
/-- the first common number of a stretch and a road -/
theorem Desc.row {b : List Nat} {n : Nat} {m : Option Nat} (hb : Stem b) (hn : 0 < n) (hm : ∀ k, m = some k → 0 < k) (d : Desc w o s) :
    match rowS (b, some n, m) s with
    | none => ∀ i z, rd w o i = some z → dgs z ≠ [] → stm z = b → ¬ lim n m (vl z)
    | some f => lim n m f ∧ (∃ j, rd w o j = some (b ++ numL f)) ∧ ∀ i z, rd w o i = some z → dgs z ≠ [] → stm z = b → lim n m (vl z) → f ≤ vl z := by
  induction d with
  | done => exact fun i z h => (by rw [rd_none] at h; cases h)
  | @one x s hx _ ih =>
    have e : rowS (b, some n, m) ((x, none, some 1) :: s) = rowS (b, some n, m) s := rfl
    rw [e]
    have tail : ∀ i z, rd w (some x) i = some z → dgs z ≠ [] → ∃ i', rd w (nxt w x) i' = some z := fun i z h hz => by
      cases i with
      | zero => cases h; exact absurd hx hz
      | succ i => exact ⟨i, by rw [rd_succ] at h; exact h⟩
    split
    · rename_i q
      rw [q] at ih
      intro i z h hz hs
      obtain ⟨i', h'⟩ := tail i z h hz
      exact ih i' z h' hz hs
    · rename_i f q
      rw [q] at ih
      obtain ⟨h1, ⟨j, h2⟩, h3⟩ := ih
      refine ⟨h1, ⟨j + 1, by rw [rd_succ]; exact h2⟩, fun i z h hz => ?_⟩
      obtain ⟨i', h'⟩ := tail i z h hz
      exact h3 i' z h' hz
  | @run b' n' k s hw hb' hn' hl _ ih =>
    subst hw
    have h1 := @numL_lt n'
    generalize hM : 10 ^ (numL n').length - n' = M at ih
    have hM0 : 0 < M := by omega
    have hc : cmn (b, some n, m) (b', some n', some M) = if b = b' ∧ (m.all fun k => decide (max n n' < n + k)) = true ∧ decide (max n n' < n' + M) = true then some (max n n') else none := rfl
    have e := @row_cons (b, some n, m) (b', some n', some M) s
    rw [e, hc]
    have spl : ∀ i z, rd (some k) (some (b' ++ numL n')) i = some z → (z = b' ++ numL (n' + i) ∧ i < M) ∨ ∃ i', rd (some k) (nxt (some k) (b' ++ numL (10 ^ (numL n').length - 1))) i' = some z := fun i z h => by
      by_cases hi : i < M
      · rw [rd_runW hb' hn' hl (by omega)] at h
        cases h
        exact .inl ⟨rfl, hi⟩
      · rw [show i = M + (i - M) by omega, ← hM, run_off hb' hn' hl, hM] at h
        exact .inr ⟨_, h⟩
    have fst : ∀ i z, rd (some k) (some (b' ++ numL n')) i = some z → dgs z ≠ [] → n' ≤ vl z := fun i z h hz => by
      have := first_Nn h
      rw [Nn_num hb' hn', Nn_vl hz] at this
      exact this
    by_cases hq : b = b' ∧ (m.all fun k => decide (max n n' < n + k)) = true ∧ decide (max n n' < n' + M) = true
    · rw [if_pos hq]
      dsimp only
      obtain ⟨rfl, q1, q2⟩ := hq
      have q2 := of_decide_eq_true q2
      refine ⟨⟨by omega, fun k' e => ?_⟩, ⟨max n n' - n', ?_⟩, fun i z h hz hs hlim => ?_⟩
      · subst e
        exact of_decide_eq_true q1
      · rw [rd_runW hb' hn' hl (by omega), show n' + (max n n' - n') = max n n' by omega]
      · have := fst i z h hz
        have := hlim.1
        omega
    · rw [if_neg hq]
      dsimp only
      have nin : ∀ i, i < M → stm (b' ++ numL (n' + i)) = b → ¬ lim n m (n' + i) := fun i hi hs hlim => by
        have hs' : b = b' := by rw [← hs, stm_num hb' (by omega)]
        apply hq
        refine ⟨hs', ?_, decide_eq_true (by have := hlim.1; omega)⟩
        cases m with
        | none => rfl
        | some k' =>
          have := hlim.2 k' rfl
          have := hlim.1
          exact decide_eq_true (by omega)
      have hv : ∀ i, vl (b' ++ numL (n' + i)) = n' + i := fun i => vl_num hb' (by omega)
      split
      · rename_i q
        rw [q] at ih
        intro i z h hz hs hlim
        rcases spl i z h with ⟨rfl, hi⟩ | ⟨i', h'⟩
        · rw [hv] at hlim
          exact nin i hi hs hlim
        · exact ih i' z h' hz hs hlim
      · rename_i f q
        rw [q] at ih
        obtain ⟨h3, ⟨j, h4⟩, h5⟩ := ih
        refine ⟨h3, ⟨M + j, by rw [← hM, run_off hb' hn' hl]; exact h4⟩, fun i z h hz hs hlim => ?_⟩
        rcases spl i z h with ⟨rfl, hi⟩ | ⟨i', h'⟩
        · rw [hv] at hlim
          exact absurd hlim (nin i hi hs)
        · exact h5 i' z h' hz hs hlim
  | @free b' n' hw hb' hn' =>
    subst hw
    have e := @row_cons (b, some n, m) (b', some n', none) []
    have hc : cmn (b, some n, m) (b', some n', none) = if b = b' ∧ (m.all fun k => decide (max n n' < n + k)) = true ∧ true = true then some (max n n') else none := rfl
    rw [e, hc]
    by_cases hq : b = b' ∧ (m.all fun k => decide (max n n' < n + k)) = true ∧ true = true
    · rw [if_pos hq]
      dsimp only
      obtain ⟨rfl, q1, _⟩ := hq
      refine ⟨⟨by omega, fun k' e => ?_⟩, ⟨max n n' - n', by rw [rd_run hb' hn', show n' + (max n n' - n') = max n n' by omega]⟩, fun i z h hz hs hlim => ?_⟩
      · subst e
        exact of_decide_eq_true q1
      · have := first_Nn h
        rw [Nn_num hb' hn', Nn_vl hz] at this
        have := hlim.1
        omega
    · rw [if_neg hq]
      show ∀ i z, _
      intro i z h hz hs hlim
      rw [rd_run hb' hn'] at h
      cases h
      have hs' : b = b' := by rw [← hs, stm_num hb' (by omega)]
      have hv : vl (b' ++ numL (n' + i)) = n' + i := vl_num hb' (by omega)
      rw [hv] at hlim
      apply hq
      refine ⟨hs', ?_, rfl⟩
      cases m with
      | none => rfl
      | some k' =>
        have := hlim.2 k' rfl
        have := hlim.1
        have := hm k' rfl
        exact decide_eq_true (by omega)
/-- the first name of a road that stands on another one -/
theorem Desc.fc (d : Desc w o s) (d' : Desc w o' t) (hne : ∀ x i j, rd w o i = some x → rd w o' j = some x → dgs x ≠ []) :
    match fcS s t with
    | none => ∀ i j z, rd w o i = some z → rd w o' j ≠ some z
    | some z => ∃ i j, rd w o i = some z ∧ rd w o' j = some z ∧ ∀ i' j' z', rd w o i' = some z' → rd w o' j' = some z' → i ≤ i' := by
  induction d with
  | done => exact fun i j z h => (by rw [rd_none] at h; cases h)
  | @one x s hx _ ih =>
    have e : fcS ((x, none, some 1) :: s) t = fcS s t := by
      have h1 : rowS (x, none, some 1) t = none := by
        unfold rowS
        rw [List.findSome?_eq_none_iff]
        exact fun _ _ => rfl
      show (match rowS (x, none, some 1) t with | some f => some (x ++ numL f) | none => fcS s t) = _
      rw [h1]
    rw [e]
    have ih := ih fun z i j h1 h2 => hne z (i + 1) j (by rw [rd_succ]; exact h1) h2
    have hd : ∀ i j z, rd w (some x) i = some z → rd w o' j = some z → ∃ i', i = i' + 1 ∧ rd w (nxt w x) i' = some z := fun i j z h1 h2 => by
      cases i with
      | zero => cases h1; exact absurd hx (hne x 0 j rfl h2)
      | succ i => exact ⟨i, rfl, by rw [rd_succ] at h1; exact h1⟩
    split
    · rename_i q
      rw [q] at ih
      intro i j z h1 h2
      obtain ⟨i', rfl, h3⟩ := hd i j z h1 h2
      exact ih i' j z h3 h2
    · rename_i z q
      rw [q] at ih
      obtain ⟨i, j, h1, h2, h3⟩ := ih
      refine ⟨i + 1, j, by rw [rd_succ]; exact h1, h2, fun i' j' z' h4 h5 => ?_⟩
      obtain ⟨i2, rfl, h6⟩ := hd i' j' z' h4 h5
      have := h3 i2 j' z' h6 h5
      omega
  | @run b n k s hw hb hn hl _ ih =>
    subst hw
    have h1 := @numL_lt n
    have r := d'.row (b := b) (n := n) (m := some (10 ^ (numL n).length - n)) hb hn (fun k' e => by cases e; omega)
    have ih := ih fun z i j h1 h2 => hne z (10 ^ (numL n).length - n + i) j (by rw [run_off hb hn hl]; exact h1) h2
    generalize hM : 10 ^ (numL n).length - n = M at ih r
    show match (match rowS (b, some n, some M) t with | some f => some (b ++ numL f) | none => fcS s t) with | none => _ | some z => _
    have spl : ∀ i z, rd (some k) (some (b ++ numL n)) i = some z → (z = b ++ numL (n + i) ∧ i < M) ∨ ∃ i', i = M + i' ∧ rd (some k) (nxt (some k) (b ++ numL (10 ^ (numL n).length - 1))) i' = some z := fun i z h => by
      by_cases hi : i < M
      · rw [rd_runW hb hn hl (by omega)] at h
        cases h
        exact .inl ⟨rfl, hi⟩
      · rw [show i = M + (i - M) by omega, ← hM, run_off hb hn hl, hM] at h
        exact .inr ⟨_, by omega, h⟩
    cases hr : rowS (b, some n, some M) t with
    | some f =>
      rw [hr] at r
      obtain ⟨r1, ⟨j, r2⟩, r3⟩ := r
      have r4 := r1.1
      have r5 := r1.2 M rfl
      refine ⟨f - n, j, ?_, r2, fun i' j' z' h4 h5 => ?_⟩
      · rw [rd_runW hb hn hl (by omega), show n + (f - n) = f by omega]
      · rcases spl i' z' h4 with ⟨rfl, hi⟩ | ⟨i2, rfl, _⟩
        · have := r3 j' _ h5 (dgs_ne hb (by omega)) (stm_num hb (by omega)) ⟨by rw [vl_num hb (by omega)]; omega, fun k' e => by cases e; rw [vl_num hb (by omega)]; omega⟩
          rw [vl_num hb (by omega)] at this
          omega
        · omega
    | none =>
      rw [hr] at r
      have hd : ∀ i j z, rd (some k) (some (b ++ numL n)) i = some z → rd (some k) o' j = some z → ∃ i', i = M + i' ∧ rd (some k) (nxt (some k) (b ++ numL (10 ^ (numL n).length - 1))) i' = some z := fun i j z h1 h2 => by
        rcases spl i z h1 with ⟨rfl, hi⟩ | q
        · exact absurd ⟨by rw [vl_num hb (by omega)]; omega, fun k' e => by cases e; rw [vl_num hb (by omega)]; omega⟩ (r j _ h2 (dgs_ne hb (by omega)) (stm_num hb (by omega)))
        · exact q
      simp only []
      split
      · rename_i q
        rw [q] at ih
        intro i j z h1 h2
        obtain ⟨i', rfl, h3⟩ := hd i j z h1 h2
        exact ih i' j z h3 h2
      · rename_i z q
        rw [q] at ih
        obtain ⟨i, j, h1, h2, h3⟩ := ih
        refine ⟨M + i, j, by rw [← hM, run_off hb hn hl]; exact h1, h2, fun i' j' z' h4 h5 => ?_⟩
        obtain ⟨i2, rfl, h6⟩ := hd i' j' z' h4 h5
        have := h3 i2 j' z' h6 h5
        omega
  | @free b n hw hb hn =>
    subst hw
    have r := d'.row (b := b) (n := n) (m := none) hb hn (fun k' e => nomatch e)
    show match (match rowS (b, some n, none) t with | some f => some (b ++ numL f) | none => none) with | none => _ | some z => _
    cases hr : rowS (b, some n, none) t with
    | some f =>
      rw [hr] at r
      obtain ⟨r1, ⟨j, r2⟩, r3⟩ := r
      have r4 := r1.1
      refine ⟨f - n, j, by rw [rd_run hb hn, show n + (f - n) = f by omega], r2, fun i' j' z' h4 h5 => ?_⟩
      rw [rd_run hb hn] at h4
      cases h4
      have := r3 j' _ h5 (dgs_ne hb (by omega)) (stm_num hb (by omega)) ⟨by rw [vl_num hb (by omega)]; omega, fun k' e => nomatch e⟩
      rw [vl_num hb (by omega)] at this
      omega
    | none =>
      rw [hr] at r
      intro i j z h1 h2
      rw [rd_run hb hn] at h1
      cases h1
      exact r j _ h2 (dgs_ne hb (by omega)) (stm_num hb (by omega)) ⟨by rw [vl_num hb (by omega)]; omega, fun k' e => nomatch e⟩
/-- where two roads meet: the first name of the one that stands on the other -/
def fstC (x y : List Nat) (s t : List Stch) : Option (List Nat) := if x = y then some x else fcS s t
def IsMeet (w : Option Nat) (x y : List Nat) : Option (List Nat) → Prop
  | none => ∀ i j z, rd w (some x) i = some z → rd w (some y) j ≠ some z
  | some z => ∃ i j, rd w (some x) i = some z ∧ rd w (some y) j = some z ∧ ∀ i' j' z', rd w (some x) i' = some z' → rd w (some y) j' = some z' → i ≤ i'
theorem Desc.meet {x y : List Nat} (d : Desc w (some x) s) (d' : Desc w (some y) t) : IsMeet w x y (fstC x y s t) := by
  unfold fstC
  split
  · rename_i e
    subst e
    exact ⟨0, 0, rfl, rfl, fun _ _ _ _ _ => Nat.zero_le _⟩
  · rename_i e
    have := d.fc d' fun z i j h1 h2 => by
      by_cases hi : 0 < i
      · exact rd_dgs h1 hi
      · by_cases hj : 0 < j
        · exact rd_dgs h2 hj
        · have e1 : i = 0 := by omega
          have e2 : j = 0 := by omega
          subst e1; subst e2
          cases h1
          cases h2
          exact absurd rfl e
    exact this
theorem IsMeet.eq {x y : List Nat} {a b : Option (List Nat)} (h1 : IsMeet w x y a) (h2 : IsMeet w x y b) : a = b := by
  cases a with
  | none =>
    cases b with
    | none => rfl
    | some z =>
      obtain ⟨i, j, k1, k2, _⟩ := h2
      exact absurd k2 (h1 i j z k1)
  | some u =>
    cases b with
    | none =>
      obtain ⟨i, j, k1, k2, _⟩ := h1
      exact absurd k2 (h2 i j u k1)
    | some z =>
      obtain ⟨i, j, k1, k2, k3⟩ := h1
      obtain ⟨i', j', l1, l2, l3⟩ := h2
      have e1 := k3 i' j' z l1 l2
      have e2 := l3 i j u k1 k2
      rw [show i' = i by omega, k1] at l1
      exact l1
theorem IsMeet.symm {x y : List Nat} {a : Option (List Nat)} (h : IsMeet w x y a) : IsMeet w y x a := by
  cases a with
  | none => exact fun i j z h1 h2 => h j i z h2 h1
  | some z =>
    obtain ⟨i, j, k1, k2, k3⟩ := h
    refine ⟨j, i, k2, k1, fun j' i' z' h1 h2 => ?_⟩
    apply Nat.le_of_not_lt
    intro hlt
    have h3 := k3 i' j' z' h2 h1
    obtain ⟨t, rfl⟩ := Nat.le.dest (Nat.le_of_lt hlt)
    have e1 : rd w (some y) (j' + t) = rd w (some z') t := by rw [rd_add, h1]
    have e2 : rd w (some x) (i' + t) = rd w (some z') t := by rw [rd_add, h2]
    rw [k2] at e1
    rw [← e1] at e2
    have := rd_inj k1 e2
    omega
end
end Ti


/-! Ti: fresh cells: made, grown, frozen at the end. -/
namespace Ti
open PySem
section
variable {h : Hh} {c c' : Cell} {ws us : List W} {w y : W} {n : Nat}
theorem new_at : (h ++ [c])[h.length]? = some c := by
  rw [List.getElem?_append_right (Nat.le_refl _), Nat.sub_self]; rfl
theorem new_set : (h ++ [c]).set h.length c' = h ++ [c'] := by
  rw [List.set_append_right _ _ (Nat.le_refl _), Nat.sub_self]; rfl
theorem take_new {g : List Cell} : (h ++ g).take h.length = h := List.take_left' rfl
theorem mkL_new (hn : nors ws = true) (hl : ws.length ≤ lineW) : mkL true ws h = .ok (.ref h.length, h ++ [.lst ws]) := by
  unfold mkL
  rw [if_pos hl, if_pos rfl, if_pos hn]
theorem app_at {i : Nat} (e : h[i]? = some (.lst ws)) (hn : nor y = true) (hl : ws.length < lineW) : pAppend (.ref i) y h = .ok (.non, h.set i (.lst (ws ++ [y]))) := by
  unfold pAppend
  simp only [e]
  rw [if_pos ⟨hl, hn⟩]
theorem app_new (hn : nor y = true) (hl : ws.length < lineW) : pAppend (.ref h.length) y (h ++ [.lst ws]) = .ok (.non, h ++ [.lst (ws ++ [y])]) := by
  rw [app_at new_at hn hl, new_set]
theorem fin_new : fin .deep h.length (.ref h.length) (h ++ [c]) = .ok (c.tree, h) := by
  unfold fin
  simp only []
  unfold thaw
  rw [if_neg (Nat.lt_irrefl _), new_at, Option.map_some, ofO_some, Res.bind_ok, take_new]
theorem fin_drop {g : List Cell} (hn : nor w = true) : fin .deep h.length w (h ++ g) = .ok (w, h) := by
  unfold fin
  simp only []
  rw [thaw_nor hn, ofO_some, Res.bind_ok, take_new]
@[simp] theorem fin_new_lst : fin .deep h.length (.ref h.length) (h ++ [.lst ws]) = .ok (.lst ws, h) := fin_new
theorem asL_at {i : Nat} (e : h[i]? = some (.lst ws)) : asL h (.ref i) = some ws := by
  show (match h[i]? with | some (.lst ws) => some ws | some (.frz (.lst ws)) => some ws | _ => none) = _
  rw [e]
theorem asL_new : asL (h ++ [.lst ws]) (.ref h.length) = some ws := asL_at new_at
theorem isL_new : isMT .list (h ++ [.lst ws]) (.ref h.length) = true := by
  show (asL _ _).isSome = true
  rw [asL_new]; rfl
theorem isL_at {i : Nat} (e : h[i]? = some (.lst ws)) : isMT .list h (.ref i) = true := by
  show (asL _ _).isSome = true
  rw [asL_at e]; rfl
theorem len_at {i : Nat} (e : h[i]? = some (.lst ws)) : pLen (.ref i) h = .ok (.int ws.length, h) := by
  unfold pLen
  simp only [asL_at e]
theorem len_new : pLen (.ref h.length) (h ++ [.lst ws]) = .ok (.int ws.length, h ++ [.lst ws]) := len_at new_at
@[simp] theorem len_lst : pLen (.lst ws) h = .ok (.int ws.length, h) := rfl
theorem nors_map {α : Type} {f : α → W} {l : List α} (hf : ∀ a ∈ l, nor (f a) = true) : nors (l.map f) = true := by
  induction l with
  | nil => rfl
  | cons a l ih =>
    rw [List.map_cons, nors_cons, hf a List.mem_cons_self, ih fun b hb => hf b (List.mem_cons_of_mem _ hb)]
    rfl
theorem ix_tup3_0 {a b c : W} : pIx (.tup [a, b, c]) (.int 0) h = .ok (a, h) := rfl.trans rfl
theorem ix_tup3_1 {a b c : W} : pIx (.tup [a, b, c]) (.int 1) h = .ok (b, h) := rfl.trans rfl
theorem ix_tup3_2 {a b c : W} : pIx (.tup [a, b, c]) (.int 2) h = .ok (c, h) := rfl.trans rfl
theorem ix_tup2_0 {a b : W} : pIx (.tup [a, b]) (.int 0) h = .ok (a, h) := rfl.trans rfl
theorem ix_tup2_1 {a b : W} : pIx (.tup [a, b]) (.int 1) h = .ok (b, h) := rfl.trans rfl
theorem sl_tup3_1 {k : Bool} {a b c : W} : pSl k true false (.tup [a, b, c]) (.int 1) .non h = .ok (.tup [b, c], h) := rfl.trans rfl
theorem lineW_eq : lineW = 16777216 := rfl.trans rfl
theorem mkL_t (hn : nors ws = true) (hl : ws.length ≤ lineW) : mkL true ws h = .ok (.ref h.length, h ++ [.lst ws]) := mkL_new hn hl
theorem two_le : (0 + 1 + 1 ≤ lineW) = True := eq_true (by decide)
theorem len1_le : (1 ≤ lineW) = True := eq_true (by decide)
theorem len2_le : (2 ≤ lineW) = True := eq_true (by decide)
theorem len3_le : (3 ≤ lineW) = True := eq_true (by decide)
theorem len5_le : (5 ≤ lineW) = True := eq_true (by decide)
end
end Ti
namespace Ti
open PySem
section
variable {ρ : Env} {h : Hh}
def nextF (tg : DT) (b : DS) (xs : List W) (q : Fl × Env × Hh) : Res (Fl × Env × Hh) := match q.1 with
  | .nx => forG (fun _ => true) tg b xs q.2.1 q.2.2
  | .ct => forG (fun _ => true) tg b xs q.2.1 q.2.2
  | .bk => .ok (.nx, q.2)
  | .rt w => .ok (.rt w, q.2)
theorem r_forG0 {tg : DT} {b : DS} : forG (fun _ => true) tg b [] ρ h = .ok (.nx, ρ, h) := rfl
theorem r_forGs {tg : DT} {b : DS} {x : W} {xs : List W} : forG (fun _ => true) tg b (x :: xs) ρ h = (tg x ρ h).bind fun p => (b p.1 p.2).bind (nextF tg b xs) := rfl
theorem nextF_nx {tg : DT} {b : DS} {xs : List W} {q : Env × Hh} : nextF tg b xs (.nx, q) = forG (fun _ => true) tg b xs q.1 q.2 := rfl
theorem nextF_ct {tg : DT} {b : DS} {xs : List W} {q : Env × Hh} : nextF tg b xs (.ct, q) = forG (fun _ => true) tg b xs q.1 q.2 := rfl
theorem nextF_bk {tg : DT} {b : DS} {xs : List W} {q : Env × Hh} : nextF tg b xs (.bk, q) = .ok (.nx, q) := rfl
theorem nextF_rt {tg : DT} {b : DS} {xs : List W} {q : Env × Hh} {w : W} : nextF tg b xs (.rt w, q) = .ok (.rt w, q) := rfl
theorem get_map {α β : Type} {f : α → β} {l : List α} {i : Nat} {x : β} (e : (l.map f)[i]? = some x) : ∃ a, l[i]? = some a ∧ x = f a := by
  rw [List.getElem?_map] at e
  obtain ⟨a, h1, h2⟩ := Option.map_eq_some_iff.mp e
  exact ⟨a, h1, h2.symm⟩
theorem drop_get {α : Type} {l : List α} {i : Nat} {a : α} (e : l[i]? = some a) : l.drop i = a :: l.drop (i + 1) := by
  obtain ⟨h1, h2⟩ := List.getElem?_eq_some_iff.mp e
  rw [List.drop_eq_getElem_cons h1, h2]
theorem mem_get {α : Type} {l : List α} {i : Nat} {a : α} (e : l[i]? = some a) : a ∈ l := List.mem_of_getElem? e
/-- a for over a list that stands, each turn a step of a state -/
theorem T_for {α : Type} {Q : Fl × Env × Hh → Prop} {tg : DT} {s : DS} {f : α → W} {xs : List α} (I : Nat → Env → Hh → Prop) (h0 : I 0 ρ h)
    (hs : ∀ i x ρ h, xs[i]? = some x → I i ρ h → T (tg (f x) ρ h) fun p => T (s p.1 p.2) fun q => (match q.1 with
      | .nx => I (i + 1) q.2.1 q.2.2
      | .ct => I (i + 1) q.2.1 q.2.2
      | .bk => Q (.nx, q.2)
      | .rt w => Q (.rt w, q.2))) (he : ∀ ρ h, I xs.length ρ h → Q (.nx, ρ, h)) : T (forG (fun _ => true) tg s (xs.map f) ρ h) Q := by
  refine T_forG I (fun _ _ _ _ => rfl) h0 (fun i x ρ h hx hI => ?_) (fun ρ h hI => he ρ h (by rw [List.length_map] at hI; exact hI))
  obtain ⟨a, ha, rfl⟩ := get_map hx
  exact hs i a ρ h ha hI
end
end Ti


/-! Ti: bodies of the program's names module (printed by gen.py lib:). -/
namespace Ti.Pr
open PySem Ti
def b_is_count : DS := (sRet (eAnd (eCall Ti.Pr.f_is_whole 1 [] [(eV 0)]) (e2 pGe (eV 0) (eK (W.int 0)))))
def f_is_count : Fn := runDef 1 .deep b_is_count
def b_check_count : DS := (sIf (eNot (eCall Ti.Pr.f_is_count 1 [] [(eV 0)])) sNev sNil)
def f_check_count : Fn := runDef 1 .deep b_check_count
def b_stretches : DS := (sCons (sAsg (tT [(tN 3), (tN 4)]) (eCall Ti.Pr.f_parts 1 [] [(eV 0)])) (sCons (sAsg (tN 2) (eLst true [])) (sCons (sIf (e2 pEq (eV 4) (eK (W.str (mkS [])))) (sCons (sE (eM .list (l2 pAppend) (eV 2) [(eTup [(eV 0), (eK W.non), (eK (W.int 1))])])) (sAsg (tN 0) (eCall Ti.Pr.f_after 2 [] [(eV 0), (eV 1)]))) sNil) (sCons (sWhile (e2 pIsN (eV 0) (eK W.non)) (sCons (sAsg (tT [(tN 3), (tN 4)]) (eCall Ti.Pr.f_parts 1 [] [(eV 0)])) (sCons (sIf (e2 pIs (eV 1) (eK W.non)) (sCons (sE (eM .list (l2 pAppend) (eV 2) [(eTup [(eV 3), (eF (l1 pInt) [(eV 4)]), (eK W.non)])])) (sRet (eV 2))) sNil) (sCons (sAsg (tN 5) (eF (l1 pInt) [(e2 (pMul false) (eK (W.str (mkS [57]))) (eF (l1 pLen) [(eV 4)]))])) (sCons (sE (eM .list (l2 pAppend) (eV 2) [(eTup [(eV 3), (eF (l1 pInt) [(eV 4)]), (e2 (pAdd false) (e2 pSub (eV 5) (eF (l1 pInt) [(eV 4)])) (eK (W.int 1)))])])) (sAsg (tN 0) (eCall Ti.Pr.f_after 2 [] [(e2 (pAdd false) (eV 3) (eF (l1 pStr) [(eV 5)])), (eV 1)]))))))) (sRet (eV 2))))))
def f_stretches : Fn := runDef 6 .deep b_stretches
def b_named : DS := (sRet (eIf (e2 pIs (eV 1) (eK W.non)) (eV 0) (e2 (pAdd false) (eV 0) (eF (l1 pStr) [(e2 (pAdd false) (eV 1) (eV 2))]))))
def f_named : Fn := runDef 3 .deep b_named
def b_nth_name : DS := (sCons (sE (eCall Ti.Pr.f_check_name 1 [] [(eV 0)])) (sCons (sE (eCall Ti.Pr.f_check_count 1 [] [(eV 1)])) (sCons (sE (eCall Ti.Pr.f_check_width 1 [] [(eV 2)])) (sCons (sE (eCall Ti.Pr.f_check_fitting_name 2 [] [(eV 0), (eV 2)])) (sCons (sFor (tT [(tN 3), (tN 4), (tN 5)]) fiL [(eCall Ti.Pr.f_stretches 2 [] [(eV 0), (eV 2)])] (sCons (sIf (eOr (e2 pIs (eV 5) (eK W.non)) (e2 pLt (eV 1) (eV 5))) (sRet (eCall Ti.Pr.f_named 3 [] [(eV 3), (eV 4), (eV 1)])) sNil) (sAsg (tN 1) (e2 pSub (eV 1) (eV 5))))) (sRet (eK W.non)))))))
def f_nth_name : Fn := runDef 6 .deep b_nth_name
def b_place_on : DS := (sCons (sAsg (tT [(tN 4), (tN 5)]) (eCall Ti.Pr.f_parts 1 [] [(eV 1)])) (sCons (sAsg (tN 3) (eK (W.int 0))) (sCons (sFor (tT [(tN 6), (tN 7), (tN 8)]) fiL [(eCall Ti.Pr.f_stretches 2 [] [(eV 0), (eV 2)])] (sCons (sIf (e2 pIs (eV 7) (eK W.non)) (sIf (e2 pEq (eV 1) (eV 6)) (sRet (eV 3)) sNil) (sIf (eAnd (e2 pEq (eV 6) (eV 4)) (eAnd (e2 pNe (eV 5) (eK (W.str (mkS [])))) (eAnd (e2 pGe (eF (l1 pInt) [(eV 5)]) (eV 7)) (eOr (e2 pIs (eV 8) (eK W.non)) (e2 pLt (eF (l1 pInt) [(eV 5)]) (e2 (pAdd false) (eV 7) (eV 8))))))) (sRet (e2 pSub (e2 (pAdd false) (eV 3) (eF (l1 pInt) [(eV 5)])) (eV 7))) sNil)) (sAsg (tN 3) (e2 (pAdd false) (eV 3) (eIf (e2 pIs (eV 8) (eK W.non)) (eK (W.int 0)) (eV 8)))))) (sRet (eK W.non)))))
def f_place_on : Fn := runDef 9 .deep b_place_on
def b_distance : DS := (sCons (sE (eCall Ti.Pr.f_check_name 1 [] [(eV 0)])) (sCons (sE (eCall Ti.Pr.f_check_name 1 [] [(eV 1)])) (sCons (sE (eCall Ti.Pr.f_check_width 1 [] [(eV 2)])) (sCons (sE (eCall Ti.Pr.f_check_fitting_name 2 [] [(eV 0), (eV 2)])) (sCons (sE (eCall Ti.Pr.f_check_fitting_name 2 [] [(eV 1), (eV 2)])) (sRet (eCall Ti.Pr.f_place_on 3 [] [(eV 0), (eV 1), (eV 2)])))))))
def f_distance : Fn := runDef 3 .deep b_distance
def b_common : DS := (sCons (sIf (eOr (e2 pNe (e2 pIx (eV 0) (eK (W.int 0))) (e2 pIx (eV 1) (eK (W.int 0)))) (eOr (e2 pIs (e2 pIx (eV 0) (eK (W.int 1))) (eK W.non)) (e2 pIs (e2 pIx (eV 1) (eK (W.int 1))) (eK W.non)))) (sRet (eK W.non)) sNil) (sCons (sAsg (tN 2) (eF (l2 pMax) [(e2 pIx (eV 0) (eK (W.int 1))), (e2 pIx (eV 1) (eK (W.int 1)))])) (sCons (sFor (tT [(tN 3), (tN 4)]) fiL [(eTup [(e3 (pSl false true false) (eV 0) (eK (W.int 1)) (eK W.non)), (e3 (pSl false true false) (eV 1) (eK (W.int 1)) (eK W.non))])] (sIf (eAnd (e2 pIsN (eV 4) (eK W.non)) (e2 pGe (eV 2) (e2 (pAdd false) (eV 3) (eV 4)))) (sRet (eK W.non)) sNil)) (sRet (eV 2)))))
def f_common : Fn := runDef 5 .deep b_common
def b_first_common : DS := (sCons (sIf (e2 pEq (eV 0) (eV 1)) (sRet (eV 0)) sNil) (sCons (sFor (tN 3) fiL [(eCall Ti.Pr.f_stretches 2 [] [(eV 0), (eV 2)])] (sFor (tN 4) fiL [(eCall Ti.Pr.f_stretches 2 [] [(eV 1), (eV 2)])] (sCons (sAsg (tN 5) (eCall Ti.Pr.f_common 2 [] [(eV 3), (eV 4)])) (sIf (e2 pIsN (eV 5) (eK W.non)) (sRet (e2 (pAdd false) (e2 pIx (eV 3) (eK (W.int 0))) (eF (l1 pStr) [(eV 5)]))) sNil)))) (sRet (eK W.non))))
def f_first_common : Fn := runDef 6 .deep b_first_common
def b_meeting : DS := (sCons (sE (eCall Ti.Pr.f_check_name 1 [] [(eV 0)])) (sCons (sE (eCall Ti.Pr.f_check_name 1 [] [(eV 1)])) (sCons (sE (eCall Ti.Pr.f_check_width 1 [] [(eV 2)])) (sCons (sE (eCall Ti.Pr.f_check_fitting_name 2 [] [(eV 0), (eV 2)])) (sCons (sE (eCall Ti.Pr.f_check_fitting_name 2 [] [(eV 1), (eV 2)])) (sRet (eCall Ti.Pr.f_first_common 3 [] [(eV 0), (eV 1), (eV 2)])))))))
def f_meeting : Fn := runDef 3 .deep b_meeting
def b_road : DS := (sCons (sE (eCall Ti.Pr.f_check_name 1 [] [(eV 0)])) (sCons (sE (eCall Ti.Pr.f_check_count 1 [] [(eV 1)])) (sCons (sE (eCall Ti.Pr.f_check_width 1 [] [(eV 2)])) (sCons (sE (eCall Ti.Pr.f_check_fitting_name 2 [] [(eV 0), (eV 2)])) (sCons (sAsg (tN 3) (eLst true [])) (sCons (sWhile (eAnd (e2 pLt (eF (l1 pLen) [(eV 3)]) (eV 1)) (e2 pIsN (eV 0) (eK W.non))) (sCons (sE (eM .list (l2 pAppend) (eV 3) [(eV 0)])) (sAsg (tN 0) (eCall Ti.Pr.f_after 2 [] [(eV 0), (eV 2)])))) (sRet (eV 3))))))))
def f_road : Fn := runDef 4 .deep b_road
end Ti.Pr


/-! Ti: bodies of the program's folders module and of the laws' second form of draws (printed by gen.py lib:). -/
namespace Ti.Pr
open PySem Ti
def b__law_purse : DS := (sCons (sAsg (tN 2) (eF (l1 pSum) [(e3 (pSl false true true) (eV 0) (eV 1) (e2 (pAdd false) (eV 1) (eK (W.int 1))))])) (sRet (eLst true [(e2 pMod (eF (l2 pMax) [(e2 pSub (eV 2) (e2 pPow (eK (W.int 10)) (eK (W.int 18)))), (eK (W.int 0))]) (e2 pPow (e2 pPow (eK (W.int 10)) (eK (W.int 60))) (eK (W.int 8)))), (e2 pMod (eV 2) (eK (W.int 2147483629))), (e2 (pMul false) (eK (W.int 1000)) (eV 1))])))
def f__law_purse : Fn := runDef 3 .raw b__law_purse
def b__law_mixed : DS := (sCons (sAsg (tN 2) (e2 pMod (e2 (pAdd false) (e2 (pAdd false) (e2 (pMul false) (eV 0) (eK (W.int 69069))) (e2 (pMul false) (e2 (pMul false) (eK (W.int 104729)) (eV 1)) (eV 1))) (eV 1)) (eK (W.int 2147483647)))) (sCons (sAsg (tN 2) (e2 pMod (e2 (pAdd false) (e2 (pMul false) (eV 2) (eV 2)) (eK (W.int 40503))) (eK (W.int 2147483629)))) (sRet (e2 pMod (e2 (pMul false) (eV 2) (eK (W.int 48271))) (eK (W.int 2147483587))))))
def f__law_mixed : Fn := runDef 3 .deep b__law_mixed
def b__law_draw : DS := (sCons (sIf (e2 pGt (e2 pIx (eV 0) (eK (W.int 0))) (eK (W.int 0))) (sCons (sAsg (tN 4) (e2 pMod (e2 pIx (eV 0) (eK (W.int 0))) (eV 1))) (sCons (sSet pSet (eV 0) (eK (W.int 0)) (e2 pFdv (e2 pIx (eV 0) (eK (W.int 0))) (eV 1))) (sRet (eV 4)))) sNil) (sCons (sAsg (tN 2) (eK (W.int 0))) (sCons (sFor (tN 3) fiR [(e2 (pAdd false) (eK (W.int 1)) (e2 pFdv (e1 pBits (eV 1)) (eK (W.int 28))))] (sCons (sSet pSet (eV 0) (eK (W.int 2)) (e2 (pAdd false) (e2 pIx (eV 0) (eK (W.int 2))) (eK (W.int 1)))) (sAsg (tN 2) (e2 (pAdd false) (e2 (pMul false) (eV 2) (eK (W.int 2147483587))) (eCall Ti.Pr.f__law_mixed 2 [] [(e2 pIx (eV 0) (eK (W.int 1))), (e2 pIx (eV 0) (eK (W.int 2)))]))))) (sRet (e2 pMod (eV 2) (eV 1))))))
def f__law_draw : Fn := runDef 5 .deep b__law_draw
def b__law_width : DS := (sCons (sAsg (tN 1) (eLst false [(eK W.non), (eK W.non), (e2 (pAdd false) (eK (W.int 1)) (eCall Ti.Pr.f__law_draw 2 [] [(eV 0), (eK (W.int 40))])), (e2 (pAdd false) (eK (W.int 1)) (eCall Ti.Pr.f__law_draw 2 [] [(eV 0), (eK (W.int 4))])), (e2 (pAdd false) (eK (W.int 2)) (eCall Ti.Pr.f__law_draw 2 [] [(eV 0), (eK (W.int 2))])), (eK (W.int 3))])) (sRet (e2 pIx (eV 1) (eCall Ti.Pr.f__law_draw 2 [] [(eV 0), (eK (W.int 6))]))))
def f__law_width : Fn := runDef 2 .deep b__law_width
def b__law_text : DS := (sCons (sAsg (tN 2) (eK (W.str (mkS [97, 98, 99, 100, 101, 102, 103, 104, 105, 106, 107, 108, 109, 110, 111, 112, 113, 114, 115, 116, 117, 118, 119, 120, 121, 122, 48, 49, 50, 51, 52, 53, 54, 55, 56, 57, 45])))) (sCons (sAsg (tN 3) (eK (W.str (mkS [])))) (sCons (sFor (tN 4) fiR [(e2 (pAdd false) (eK (W.int 1)) (eCall Ti.Pr.f__law_draw 2 [] [(eV 0), (eV 1)]))] (sAsg (tN 3) (e2 (pAdd false) (eV 3) (e2 pIx (eV 2) (eCall Ti.Pr.f__law_draw 2 [] [(eV 0), (eK (W.int 37))]))))) (sRet (eV 3)))))
def f__law_text : Fn := runDef 5 .deep b__law_text
def b__law_stems : DS := (sCons (sAsg (tN 1) (eLst true [])) (sCons (sFor (tN 2) fiR [(e2 (pAdd false) (eK (W.int 1)) (eCall Ti.Pr.f__law_draw 2 [] [(eV 0), (eK (W.int 3))]))] (sE (eM .list (l2 pAppend) (eV 1) [(eCall Ti.Pr.f__law_text 2 [] [(eV 0), (e2 pIx (eLst false [(eK (W.int 1)), (eK (W.int 2)), (eK (W.int 4)), (eK (W.int 12)), (eK (W.int 38))]) (eCall Ti.Pr.f__law_draw 2 [] [(eV 0), (eK (W.int 5))]))])]))) (sRet (eV 1))))
def f__law_stems : Fn := runDef 3 .deep b__law_stems
def b__law_ending : DS := (sCons (sAsg (tN 1) (eLst false [(eF (l1 pStr) [(e2 (pAdd false) (eK (W.int 2)) (eCall Ti.Pr.f__law_draw 2 [] [(eV 0), (eK (W.int 30))]))]), (eF (l1 pStr) [(eCall Ti.Pr.f__law_draw 2 [] [(eV 0), (e2 pPow (eK (W.int 10)) (eK (W.int 6)))])])])) (sRet (e2 pIx (e2 (pAdd false) (eLst false [(eK (W.str (mkS []))), (eK (W.str (mkS []))), (eK (W.str (mkS [50]))), (eK (W.str (mkS [49]))), (eK (W.str (mkS [48]))), (eK (W.str (mkS [57]))), (eK (W.str (mkS [49, 48]))), (eK (W.str (mkS [48, 50]))), (eK (W.str (mkS [57, 57])))]) (eV 1)) (eCall Ti.Pr.f__law_draw 2 [] [(eV 0), (eK (W.int 11))]))))
def f__law_ending : Fn := runDef 2 .deep b__law_ending
def b__law_wish : DS := (sCons (sAsg (tN 3) (e2 (pAdd false) (e2 pIx (eV 1) (eCall Ti.Pr.f__law_draw 2 [] [(eV 0), (eF (l1 pLen) [(eV 1)])])) (eCall Ti.Pr.f__law_ending 1 [] [(eV 0)]))) (sCons (sIf (eAnd (e2 pIsN (eV 2) (eK W.non)) (e2 pEq (eCall Ti.Pr.f__law_draw 2 [] [(eV 0), (eK (W.int 4))]) (eK (W.int 0)))) (sAsg (tN 3) (e2 (pAdd false) (e2 (pMul false) (eK (W.str (mkS [57]))) (e2 pSub (eV 2) (eK (W.int 1)))) (e2 pIx (eK (W.str (mkS [57, 56, 97, 55]))) (eCall Ti.Pr.f__law_draw 2 [] [(eV 0), (eK (W.int 4))])))) sNil) (sRet (eIf (e2 pIs (eV 2) (eK W.non)) (e3 (pSl false false true) (eV 3) (eK W.non) (eK (W.int 40))) (e3 (pSl false false true) (eV 3) (eK W.non) (eV 2))))))
def f__law_wish : Fn := runDef 4 .deep b__law_wish
def b__law_things : DS := (sCons (sAsg (tT [(tN 2), (tN 3)]) (eTup [(eCall Ti.Pr.f__law_width 1 [] [(eV 0)]), (eCall Ti.Pr.f__law_stems 1 [] [(eV 0)])])) (sRet (eTup [(eComp false [4] (tN 4) fiR [(eCall Ti.Pr.f__law_draw 2 [] [(eV 0), (e2 (pAdd false) (eV 1) (eK (W.int 1)))])] none (eCall Ti.Pr.f__law_wish 3 [] [(eV 0), (eV 3), (eV 2)])), (eV 2)])))
def f__law_things : Fn := runDef 5 .deep b__law_things
def b__law_shuffled : DS := (sCons (sAsg (tN 2) (eLst true [])) (sCons (sFor (tN 3) fiL [(eV 1)] (sE (eM .list (l3 pInsert) (eV 2) [(eCall Ti.Pr.f__law_draw 2 [] [(eV 0), (e2 (pAdd false) (eF (l1 pLen) [(eV 2)]) (eK (W.int 1)))]), (eV 3)]))) (sRet (eV 2))))
def f__law_shuffled : Fn := runDef 4 .deep b__law_shuffled
def b_are_names : DS := (sRet (eAnd (e1 (pIsi .list) (eV 0)) (e2 pEq (eComp false [1] (tN 1) fiL [(eV 0)] (some (eNot (eCall Ti.Pr.f_is_name 1 [] [(eV 1)]))) (eV 1)) (eLst false []))))
def f_are_names : Fn := runDef 2 .deep b_are_names
def b_check_names : DS := (sIf (eNot (eCall Ti.Pr.f_are_names 1 [] [(eV 0)])) sNev sNil)
def f_check_names : Fn := runDef 1 .deep b_check_names
def b_check_fitting_names : DS := (sIf (e2 pNe (eComp false [2] (tN 2) fiL [(eV 0)] (some (eNot (eCall Ti.Pr.f_fits 2 [] [(eV 2), (eV 1)]))) (eV 2)) (eLst false [])) sNev sNil)
def f_check_fitting_names : Fn := runDef 3 .deep b_check_fitting_names
def b_check_things : DS := (sCons (sE (eCall Ti.Pr.f_check_names 1 [] [(eV 0)])) (sCons (sE (eCall Ti.Pr.f_check_width 1 [] [(eV 1)])) (sE (eCall Ti.Pr.f_check_fitting_names 2 [] [(eV 0), (eV 1)]))))
def f_check_things : Fn := runDef 2 .deep b_check_things
def b_first_free : DS := (sCons (sAsg (tN 3) (eK (W.int 1))) (sCons (sWhile (e2 pIn (eV 0) (eV 2)) (sCons (sAsg (tN 0) (eCall Ti.Pr.f_after 2 [] [(eV 0), (eV 1)])) (sCons (sIf (e2 pIs (eV 0) (eK W.non)) (sRet (eTup [(eK W.non), (eV 3)])) sNil) (sAsg (tN 3) (e2 (pAdd false) (eV 3) (eK (W.int 1))))))) (sRet (eTup [(eV 0), (eV 3)]))))
def f_first_free : Fn := runDef 4 .deep b_first_free
def b_handed : DS := (sCons (sAsg (tT [(tN 3), (tN 4)]) (eTup [(eLst true []), (eDic true false)])) (sCons (sFor (tN 2) fiL [(eV 0)] (sCons (sAsg (tN 5) (e2 pIx (eCall Ti.Pr.f_first_free 3 [] [(eV 2), (eV 1), (eV 4)]) (eK (W.int 0)))) (sCons (sE (eM .list (l2 pAppend) (eV 3) [(eV 5)])) (sIf (e2 pIsN (eV 5) (eK W.non)) (sSet pSet (eV 4) (eV 5) (eK (W.bl true))) sNil)))) (sRet (eV 3))))
def f_handed : Fn := runDef 6 .top b_handed
def b_hand_out : DS := (sCons (sE (eCall Ti.Pr.f_check_things 2 [] [(eV 0), (eV 1)])) (sRet (eCall Ti.Pr.f_handed 2 [] [(eV 0), (eV 1)])))
def f_hand_out : Fn := runDef 2 .top b_hand_out
def b__law_split : DS := (sCons (sAsg (tN 1) (eM .str (l2 pRstrip) (eV 0) [(eK (W.str (mkS [48, 49, 50, 51, 52, 53, 54, 55, 56, 57])))])) (sCons (sAsg (tN 2) (eM .str (l2 pLstrip) (e3 (pSl false true false) (eV 0) (eF (l1 pLen) [(eV 1)]) (eK W.non)) [(eK (W.str (mkS [48])))])) (sRet (eTup [(e3 (pSl false false true) (eV 0) (eK W.non) (e2 pSub (eF (l1 pLen) [(eV 0)]) (eF (l1 pLen) [(eV 2)]))), (eV 2)]))))
def f__law_split : Fn := runDef 3 .deep b__law_split
def b__law_next : DS := (sCons (sAsg (tT [(tN 3), (tN 4)]) (eCall Ti.Pr.f__law_split 1 [] [(eV 0)])) (sCons (sAsg (tN 2) (eIf (e2 pEq (eV 4) (eK (W.str (mkS [])))) (eK (W.str (mkS [50]))) (eF (l1 pStr) [(e2 (pAdd false) (eF (l1 pInt) [(eV 4)]) (eK (W.int 1)))]))) (sCons (sIf (e2 pIs (eV 1) (eK W.non)) (sRet (e2 (pAdd false) (eV 3) (eV 2))) sNil) (sRet (eIf (e2 pLe (eF (l1 pLen) [(eV 2)]) (eV 1)) (e2 (pAdd false) (e3 (pSl false false true) (eV 3) (eK W.non) (e2 pSub (eV 1) (eF (l1 pLen) [(eV 2)]))) (eV 2)) (eK W.non))))))
def f__law_next : Fn := runDef 5 .deep b__law_next
def b__law_given : DS := (sCons (sAsg (tT [(tN 3), (tN 4)]) (eTup [(eLst true []), (eK (W.int 0))])) (sCons (sFor (tN 2) fiL [(eV 0)] (sCons (sFor (tN 5) fiR [(e2 (pAdd false) (eF (l1 pLen) [(eV 0)]) (eK (W.int 1)))] (sIf (e2 pIsN (eV 2) (eK W.non)) (sCons (sAsg (tN 4) (e2 (pAdd false) (eV 4) (eK (W.int 1)))) (sIf (e2 pIn (eV 2) (eV 3)) (sAsg (tN 2) (eCall Ti.Pr.f__law_next 2 [] [(eV 2), (eV 1)])) sBrk)) sNil)) (sE (eM .list (l2 pAppend) (eV 3) [(eV 2)])))) (sRet (eTup [(eV 3), (eV 4)]))))
def f__law_given : Fn := runDef 6 .deep b__law_given
end Ti.Pr


/-! Ti: bodies of the program's folders module (printed by gen.py lib:). -/
namespace Ti.Pr
open PySem Ti
def b_flowing : DS := (sCons (sAsg (tT [(tN 2), (tN 3), (tN 4)]) (eTup [(eDic true false), (eK (W.int 0)), (eF (l1 (pList true)) [(eV 0)])])) (sCons (sWhile (e2 pNe (eV 4) (eLst false [])) (sCons (sAsg (tN 5) (eM .list (l1 pPop0) (eV 4) [])) (sCons (sSet pSet (eV 2) (eV 5) (e2 (pAdd false) (eGet (eV 2) (eV 5) (eK (W.int 0))) (eK (W.int 1)))) (sIf (e2 pGt (e2 pIx (eV 2) (eV 5)) (eK (W.int 1))) (sCons (sAsg (tN 6) (eCall Ti.Pr.f_after 2 [] [(eV 5), (eV 1)])) (sIf (e2 pIs (eV 6) (eK W.non)) (sAsg (tN 3) (e2 (pAdd false) (eV 3) (eK (W.int 1)))) (sE (eM .list (l2 pAppend) (eV 4) [(eV 6)])))) sNil)))) (sRet (eTup [(eV 2), (eV 3)]))))
def f_flowing : Fn := runDef 7 .deep b_flowing
def b_taken : DS := (sCons (sE (eCall Ti.Pr.f_check_things 2 [] [(eV 0), (eV 1)])) (sRet (eF (l1 (pSorted true)) [(e2 pIx (eCall Ti.Pr.f_flowing 2 [] [(eV 0), (eV 1)]) (eK (W.int 0)))])))
def f_taken : Fn := runDef 2 .top b_taken
def b_tries : DS := (sCons (sE (eCall Ti.Pr.f_check_things 2 [] [(eV 0), (eV 1)])) (sRet (e1 pSumV (e2 pIx (eCall Ti.Pr.f_flowing 2 [] [(eV 0), (eV 1)]) (eK (W.int 0))))))
def f_tries : Fn := runDef 2 .deep b_tries
def b_refused : DS := (sCons (sE (eCall Ti.Pr.f_check_things 2 [] [(eV 0), (eV 1)])) (sRet (e2 pIx (eCall Ti.Pr.f_flowing 2 [] [(eV 0), (eV 1)]) (eK (W.int 1)))))
def f_refused : Fn := runDef 2 .deep b_refused
def b_flow : DS := (sCons (sE (eCall Ti.Pr.f_check_things 2 [] [(eV 0), (eV 1)])) (sCons (sAsg (tN 2) (e2 pIx (eCall Ti.Pr.f_flowing 2 [] [(eV 0), (eV 1)]) (eK (W.int 0)))) (sRet (eComp true [3] (tN 3) fiL [(eF (l1 (pSorted false)) [(eV 2)])] none (eTup [(eV 3), (e2 pIx (eV 2) (eV 3))])))))
def f_flow : Fn := runDef 4 .top b_flow
def b_hand_out_base : DS := (sCons (sE (eCall Ti.Pr.f_check_names 1 [] [(eV 0)])) (sCons (sAsg (tN 1) (eLst true [])) (sCons (sFor (tN 2) fiL [(eV 0)] (sCons (sAsg (tT [(tN 3), (tN 4)]) (eTup [(eV 2), (eK (W.int 1))])) (sCons (sWhile (e2 pIn (eV 3) (eV 1)) (sCons (sAsg (tN 4) (e2 (pAdd false) (eV 4) (eK (W.int 1)))) (sAsg (tN 3) (e2 (pAdd false) (eV 2) (eF (l1 pStr) [(eV 4)]))))) (sE (eM .list (l2 pAppend) (eV 1) [(eV 3)]))))) (sRet (eV 1)))))
def f_hand_out_base : Fn := runDef 5 .top b_hand_out_base
end Ti.Pr


namespace Bd
open PySem PySem.Spec PyProof.Rows L2 Ti
def b_law : DS := (sCons (sFor (tN 1) fiR [(eF (l2 pMax) [(eK (W.int 1)), (eF (l1 pLen) [(e3 (pSl false false true) (eV 0) (eK W.non) (eK (W.int 20)))])])] (sCons (sAsg (tN 2) (eCall Ti.Pr.f__law_purse 2 [] [(eV 0), (eV 1)])) (sCons (sAsg (tT [(tN 3), (tN 4)]) (eCall Ti.Pr.f__law_things 2 [] [(eV 2), (eK (W.int 8))])) (sCons (sIf (e2 pNe (eTree (eKw Ti.Pr.f_hand_out 2 2 [1, 0] [(eV 4), (eV 3)])) (eTree (eCall Ti.Pr.f_hand_out 2 [] [(eV 3), (eV 4)]))) (sRet (eK (W.bl false))) sNil) (sCons (sIf (e2 pNe (eTree (eCall Ti.Pr.f_hand_out 2 [] [(eV 3), (eK W.non)])) (eTree (eKw Ti.Pr.f_hand_out 2 1 [0, 1] [(eV 3)]))) (sRet (eK (W.bl false))) sNil) (sCons (sIf (e2 pNe (eTree (eKw Ti.Pr.f_taken 2 2 [1, 0] [(eV 4), (eV 3)])) (eTree (eCall Ti.Pr.f_taken 2 [] [(eV 3), (eV 4)]))) (sRet (eK (W.bl false))) sNil) (sCons (sIf (e2 pNe (eTree (eCall Ti.Pr.f_taken 2 [] [(eV 3), (eK W.non)])) (eTree (eKw Ti.Pr.f_taken 2 1 [0, 1] [(eV 3)]))) (sRet (eK (W.bl false))) sNil) (sCons (sIf (e2 pNe (eKw Ti.Pr.f_tries 2 2 [1, 0] [(eV 4), (eV 3)]) (eCall Ti.Pr.f_tries 2 [] [(eV 3), (eV 4)])) (sRet (eK (W.bl false))) sNil) (sCons (sIf (e2 pNe (eCall Ti.Pr.f_tries 2 [] [(eV 3), (eK W.non)]) (eKw Ti.Pr.f_tries 2 1 [0, 1] [(eV 3)])) (sRet (eK (W.bl false))) sNil) (sCons (sIf (e2 pNe (eKw Ti.Pr.f_refused 2 2 [1, 0] [(eV 4), (eV 3)]) (eCall Ti.Pr.f_refused 2 [] [(eV 3), (eV 4)])) (sRet (eK (W.bl false))) sNil) (sCons (sIf (e2 pNe (eCall Ti.Pr.f_refused 2 [] [(eV 3), (eK W.non)]) (eKw Ti.Pr.f_refused 2 1 [0, 1] [(eV 3)])) (sRet (eK (W.bl false))) sNil) (sCons (sIf (e2 pNe (eTree (eKw Ti.Pr.f_flow 2 2 [1, 0] [(eV 4), (eV 3)])) (eTree (eCall Ti.Pr.f_flow 2 [] [(eV 3), (eV 4)]))) (sRet (eK (W.bl false))) sNil) (sCons (sIf (e2 pNe (eTree (eCall Ti.Pr.f_flow 2 [] [(eV 3), (eK W.non)])) (eTree (eKw Ti.Pr.f_flow 2 1 [0, 1] [(eV 3)]))) (sRet (eK (W.bl false))) sNil) (sIf (e2 pNe (eTree (eKw Ti.Pr.f_hand_out_base 1 1 [0] [(eV 3)])) (eTree (eCall Ti.Pr.f_hand_out_base 1 [] [(eV 3)]))) (sRet (eK (W.bl false))) sNil)))))))))))))) (sRet (eK (W.bl true))))
def f_law : Fn := runDef 5 .deep b_law
end Bd


/-! Ti: what the program's names module does: counts, stretches, places, meetings, roads. -/
namespace Ti
open PySem
def sgW (s : Stch) : W := .tup [.str (mkS s.1), wW s.2.1, wW s.2.2]
structure StOk (N : Nat) (s : Stch) : Prop where
  sg : ∀ c ∈ s.1, c ∈ signs
  len : s.1.length ≤ N
  num : ∀ n, s.2.1 = some n → n < 10 ^ N
/-- a name that a width fits -/
structure Nam (w : Option Nat) (l : List Nat) : Prop where
  ne : l ≠ []
  sg : ∀ c ∈ l, c ∈ signs
  len : l.length ≤ 300
  fit : ∀ k, w = some k → l.length ≤ k
/-- a width -/
def WdO (w : Option Nat) : Prop := ∀ k, w = some k → 1 ≤ k ∧ k ≤ 40
section
variable {h : Hh} {l b : List Nat} {w : Option Nat} {n m k : Nat}
theorem WdO.wd (hw : WdO w) : Pr.Wd (wW w) := by
  cases w with
  | none => exact .non
  | some k =>
    have := hw k rfl
    exact .int (by omega) (by omega)
theorem Nam.name (hn : Nam w l) : Name l := ⟨hn.ne, hn.sg, Nat.le_trans hn.len (by decide)⟩
theorem Nam.fits (hn : Nam w l) : Pr.Fits l (wW w) := by
  cases w with
  | none => exact trivial
  | some k =>
    have := hn.fit k rfl
    show (l.length : Int) ≤ (k : Int)
    omega
theorem Nam.lt (hn : Nam w l) : ∀ c ∈ l, c < 128 := fun c hc => sign_lt (hn.sg c hc)
theorem nor_wW : nor (wW w) = true := by cases w <;> rfl
theorem nor_nW {o : Option (List Nat)} : nor (nW o) = true := by cases o <;> rfl
theorem nor_sgW {s : Stch} : nor (sgW s) = true := by
  show nors [.str (mkS s.1), wW s.2.1, wW s.2.2] = true
  rw [nors_cons, nors_cons, nors_cons, nor_wW, nor_wW]
  rfl
theorem isNon_wW : isNon (wW w) = w.isNone := by cases w <;> rfl
theorem isNon_nW {o : Option (List Nat)} : isNon (nW o) = o.isNone := by cases o <;> rfl
theorem stm_signs (hs : ∀ c ∈ l, c ∈ signs) : ∀ c ∈ stm l, c ∈ signs := fun c hc => hs c (List.take_subset _ _ hc)
theorem after_run (hs : ∀ c ∈ l, c ∈ signs) (hl : l.length ≤ 400) (hw : WdO w) : Pr.f_after [.str (mkS l), wW w] h = .ok (nW (nxt w l), h) := by
  rw [← aft_eq]
  exact Pr.after_ok hl (fun c hc => sign_lt (hs c hc)) hw.wd
theorem parts_run (hs : ∀ c ∈ l, c ∈ signs) (hl : l.length ≤ 1000) : Pr.f_parts [.str (mkS l)] h = .ok (.tup [.str (mkS (stm l)), .str (mkS (dgs l))], h) :=
  Pr.parts_ok (by omega) fun c hc => sign_lt (hs c hc)
theorem fine_dgs (hl : l.length ≤ 1000) : strFine (mkS (dgs l)) = true := fine_le (fun c hc => dig_lt (drop_digs c hc)) (by have := @dgs_len l; omega)
theorem eq_dgs (hl : l.length ≤ 1000) : pEq (.str (mkS (dgs l))) (.str (mkS [])) h = .ok (.bl (decide (dgs l = [])), h) := eq_str (fine_dgs hl) fine_nil
theorem ne_dgs (hl : l.length ≤ 1000) : pNe (.str (mkS (dgs l))) (.str (mkS [])) h = .ok (.bl (!decide (dgs l = [])), h) := ne_str (fine_dgs hl) fine_nil
theorem int_dgs (hd : dgs l ≠ []) (hl : l.length ≤ 600) : pInt (.str (mkS (dgs l))) h = .ok (.int (vl l : Nat), h) := int_str drop_digs hd (by have := @dgs_len l; omega)
theorem mul_nines {c : Bool} (hm : m ≤ 1000) : pMul c (.str (mkS [57])) (.int (m : Nat)) h = .ok (.str (mkS (nines m)), h) := by
  unfold pMul
  simp only [mkS_len, List.length_cons, List.length_nil, Int.toNat_natCast]
  rw [if_pos ⟨by omega, by omega, by omega⟩]
  have : (List.replicate m (sg (mkS [57]))).flatten = nines m := by
    rw [sg_mk]
    unfold nines
    induction m with
    | zero => rfl
    | succ m ih => rw [List.replicate_succ, List.replicate_succ, List.flatten_cons, ih (by omega)]; rfl
  rw [this]
theorem nines_dig : ∀ c ∈ nines m, isDig c = true := fun c hc => by rw [List.eq_of_mem_replicate hc]; rfl
theorem nines_len : (nines m).length = m := List.length_replicate
theorem int_nines (h0 : 0 < m) (hm : m ≤ 640) : pInt (.str (mkS (nines m))) h = .ok (.int ((10 ^ m - 1 : Nat) : Int), h) := by
  have e : digsVal (nines m) = 10 ^ m - 1 := by
    have := digsVal_nines m
    omega
  rw [int_str nines_dig (fun z => by have := congrArg List.length z; rw [nines_len] at this; simp at this; omega) (by rw [nines_len]; exact hm), e]
theorem vl_lt : vl l < 10 ^ (dgs l).length := digsVal_bound drop_digs
theorem stm_dgs_len : (stm l).length + (dgs l).length = l.length := by
  have := congrArg List.length (@stm_dgs l)
  rwa [List.length_append] at this
theorem pow_mono {a b : Nat} (h : a ≤ b) : 10 ^ a ≤ 10 ^ b := Nat.pow_le_pow_right (by decide) h
theorem vl_lt2 (hl : l.length ≤ n) : vl l < 10 ^ n := Nat.lt_of_lt_of_le vl_lt (pow_mono (by have := @dgs_len l; omega))
/-- what is taken off a width's stretch -/
theorem Desc.runV {l : List Nat} {s : List Stch} (hd : dgs l ≠ []) (hl : l.length ≤ k) (d : Desc (some k) (nxt (some k) (stm l ++ numL (10 ^ (dgs l).length - 1))) s) : Desc (some k) (some l) ((stm l, some (vl l), some (10 ^ (dgs l).length - vl l)) :: s) := by
  have e := num_form hd
  have e2 := numL_vl hd
  rw [← e2] at d ⊢
  conv => arg 2; rw [e]
  exact .run rfl stem_stm (vl_pos hd) (by rw [← e]; exact hl) d
theorem Desc.freeV {l : List Nat} (hd : dgs l ≠ []) : Desc none (some l) [(stm l, some (vl l), none)] := by
  conv => arg 2; rw [num_form hd]
  exact .free rfl stem_stm (vl_pos hd)
theorem sgW_eq {b : List Nat} {f m : Option Nat} : sgW (b, f, m) = .tup [.str (mkS b), wW f, wW m] := rfl
theorem nxt_nines (h0 : 0 < m) (hx : nxt w (b ++ numL (10 ^ m - 1)) = some l) : m < (dgs l).length := by
  obtain ⟨c, rfl, _⟩ := nxt_form hx
  have h1 : 10 ^ m - 1 ≤ Nn (b ++ numL (10 ^ m - 1)) := (app_num (by have := Nat.pow_le_pow_right (n := 10) (by decide) h0; omega)).2
  have h2 := app_num (c := c) (n := Nn (b ++ numL (10 ^ m - 1)) + 1) (by omega)
  have h3 : 10 ^ m ≤ Nn (c ++ numL (Nn (b ++ numL (10 ^ m - 1)) + 1)) := by have := pow10 m; omega
  rw [Nn_vl h2.1] at h3
  have h4 := vl_lt (l := c ++ numL (Nn (b ++ numL (10 ^ m - 1)) + 1))
  exact (Nat.pow_lt_pow_iff_right (by decide)).mp (Nat.lt_of_le_of_lt h3 h4)
namespace Pr
theorem stretches_run (hn : Nam w l) (hw : WdO w) : ∃ s, Desc w (some l) s ∧ s.length ≤ 50 ∧ (∀ x ∈ s, StOk 310 x) ∧ f_stretches [.str (mkS l), wW w] h = .ok (.lst (s.map sgW), h) := by
  suffices H : T (f_stretches [.str (mkS l), wW w] h) fun q => ∃ s, Desc w (some l) s ∧ s.length ≤ 50 ∧ (∀ x ∈ s, StOk 310 x) ∧ q = (.lst (s.map sgW), h) by
    obtain ⟨q, e, s, h1, h2, h3, rfl⟩ := H
    exact ⟨s, h1, h2, h3, e⟩
  have hl := hn.len
  unfold f_stretches b_stretches
  simp only [r_run, List.map_cons, List.map_nil, List.length_cons, List.length_nil, List.replicate, List.cons_append, List.nil_append, List.append_nil, List.set_cons_zero, List.set_cons_succ, List.set_nil, Nat.sub_self, Nat.zero_add, Nat.reduceAdd, Nat.reduceSub, Nat.reduceEqDiff, Nat.reduceLeDiff, Res.bind_ok, ofO_some, T_ok, T_bind, if_true, if_false, Bool.false_eq_true, Bool.not_true, Bool.not_false, r_eK, r_eV0, r_eVs, r_e1, r_e2, r_e3, r_eL0, r_eLs, r_eF, r_eAnd, r_eOr, r_eNot, r_eIf, r_eTree, r_eLst, r_eTup, r_eDic, r_tN, r_tL0, r_tLs, r_tT, r_sNil, r_sPass, r_sE, r_sAsg, r_sRet, r_sRetN, r_sBrk, r_sCnt, r_sIf, r_sSet, r_sCons, r_sFor, r_eCall, r_l1, r_l2, r_l3, r_eM, r_eComp, r_eChain, andThen_nx, andThen_rt, andThen_bk, andThen_ct, hb_nx, hb_rt, fin_raw, fin_int, fin_bl, fin_str, fin_non, truthy_bl, truthy_non, truthy_int, add_int, sub_int, lt_int, le_int, gt_int, ge_int, is_non, isN_non, isNon_non, isNon_int, isNon_str, fiL_lst, fiL_tup, fiL_str, decide_true, decide_false, decide_eq_true_eq, lineW_eq, mkL_f, mkL_t, Nat.reduceLeDiff, ix_tup3_0, ix_tup3_1, ix_tup3_2, ix_tup2_0, ix_tup2_1, sl_tup3_1, r_forG0, r_forGs, nextF_nx, nextF_ct, nextF_bk, nextF_rt, nW_none, nW_some, Option.isNone_none, Option.isNone_some, parts_run hn.sg (show l.length ≤ 1000 by omega), mkL_new (ws := []) rfl (by decide), eq_dgs (show l.length ≤ 1000 by omega)]
  refine T.mono (Q := fun q => ∃ (cur : Option (List Nat)) (s0 : List Stch) (x3 x4 x5 : Option W), q = (.nx, [some (nW cur), some (wW w), some (.ref h.length), x3, x4, x5], h ++ [.lst (s0.map sgW)]) ∧ (∀ s, Desc w cur s → Desc w (some l) (s0 ++ s)) ∧ s0.length ≤ 1 ∧ (∀ x ∈ s0, StOk 310 x) ∧ (∀ y, cur = some y → dgs y ≠ [] ∧ (∀ c ∈ y, c ∈ signs) ∧ y.length ≤ 301 ∧ ∀ k, w = some k → y.length ≤ k)) ?_ ?_
  · by_cases hd : dgs l = []
    · rw [if_pos hd]
      simp only [r_run, List.map_cons, List.map_nil, List.length_cons, List.length_nil, List.replicate, List.cons_append, List.nil_append, List.append_nil, List.set_cons_zero, List.set_cons_succ, List.set_nil, Nat.sub_self, Nat.zero_add, Nat.reduceAdd, Nat.reduceSub, Nat.reduceEqDiff, Nat.reduceLeDiff, Res.bind_ok, ofO_some, T_ok, T_bind, if_true, if_false, Bool.false_eq_true, Bool.not_true, Bool.not_false, r_eK, r_eV0, r_eVs, r_e1, r_e2, r_e3, r_eL0, r_eLs, r_eF, r_eAnd, r_eOr, r_eNot, r_eIf, r_eTree, r_eLst, r_eTup, r_eDic, r_tN, r_tL0, r_tLs, r_tT, r_sNil, r_sPass, r_sE, r_sAsg, r_sRet, r_sRetN, r_sBrk, r_sCnt, r_sIf, r_sSet, r_sCons, r_sFor, r_eCall, r_l1, r_l2, r_l3, r_eM, r_eComp, r_eChain, andThen_nx, andThen_rt, andThen_bk, andThen_ct, hb_nx, hb_rt, fin_raw, fin_int, fin_bl, fin_str, fin_non, truthy_bl, truthy_non, truthy_int, add_int, sub_int, lt_int, le_int, gt_int, ge_int, is_non, isN_non, isNon_non, isNon_int, isNon_str, fiL_lst, fiL_tup, fiL_str, decide_true, decide_false, decide_eq_true_eq, lineW_eq, mkL_f, mkL_t, Nat.reduceLeDiff, ix_tup3_0, ix_tup3_1, ix_tup3_2, ix_tup2_0, ix_tup2_1, sl_tup3_1, r_forG0, r_forGs, nextF_nx, nextF_ct, nextF_bk, nextF_rt, nW_none, nW_some, Option.isNone_none, Option.isNone_some, isL_new]
      have e2 := app_new (h := h) (y := .tup [.str (mkS l), .non, .int 1]) (ws := []) rfl (by decide)
      rw [List.nil_append] at e2
      rw [e2]
      simp only [r_run, List.map_cons, List.map_nil, List.length_cons, List.length_nil, List.replicate, List.cons_append, List.nil_append, List.append_nil, List.set_cons_zero, List.set_cons_succ, List.set_nil, Nat.sub_self, Nat.zero_add, Nat.reduceAdd, Nat.reduceSub, Nat.reduceEqDiff, Nat.reduceLeDiff, Res.bind_ok, ofO_some, T_ok, T_bind, if_true, if_false, Bool.false_eq_true, Bool.not_true, Bool.not_false, r_eK, r_eV0, r_eVs, r_e1, r_e2, r_e3, r_eL0, r_eLs, r_eF, r_eAnd, r_eOr, r_eNot, r_eIf, r_eTree, r_eLst, r_eTup, r_eDic, r_tN, r_tL0, r_tLs, r_tT, r_sNil, r_sPass, r_sE, r_sAsg, r_sRet, r_sRetN, r_sBrk, r_sCnt, r_sIf, r_sSet, r_sCons, r_sFor, r_eCall, r_l1, r_l2, r_l3, r_eM, r_eComp, r_eChain, andThen_nx, andThen_rt, andThen_bk, andThen_ct, hb_nx, hb_rt, fin_raw, fin_int, fin_bl, fin_str, fin_non, truthy_bl, truthy_non, truthy_int, add_int, sub_int, lt_int, le_int, gt_int, ge_int, is_non, isN_non, isNon_non, isNon_int, isNon_str, fiL_lst, fiL_tup, fiL_str, decide_true, decide_false, decide_eq_true_eq, lineW_eq, mkL_f, mkL_t, Nat.reduceLeDiff, ix_tup3_0, ix_tup3_1, ix_tup3_2, ix_tup2_0, ix_tup2_1, sl_tup3_1, r_forG0, r_forGs, nextF_nx, nextF_ct, nextF_bk, nextF_rt, nW_none, nW_some, Option.isNone_none, Option.isNone_some, after_run hn.sg (show l.length ≤ 400 by omega) hw]
      refine ⟨nxt w l, [(l, none, some 1)], _, _, _, rfl, fun s d => .one hd d, Nat.le_refl _, fun x hx => ?_, fun y e => ⟨nxt_dgs e, nxt_signs hn.sg e, by have := nxt_len0 e; omega, fun k ek => ?_⟩⟩
      · rw [List.mem_singleton] at hx
        subst hx
        exact ⟨hn.sg, by show l.length ≤ 310; omega, fun n e => nomatch e⟩
      · subst ek; exact nxt_len e
    · rw [if_neg hd]
      simp only [r_run, List.map_cons, List.map_nil, List.length_cons, List.length_nil, List.replicate, List.cons_append, List.nil_append, List.append_nil, List.set_cons_zero, List.set_cons_succ, List.set_nil, Nat.sub_self, Nat.zero_add, Nat.reduceAdd, Nat.reduceSub, Nat.reduceEqDiff, Nat.reduceLeDiff, Res.bind_ok, ofO_some, T_ok, T_bind, if_true, if_false, Bool.false_eq_true, Bool.not_true, Bool.not_false, r_eK, r_eV0, r_eVs, r_e1, r_e2, r_e3, r_eL0, r_eLs, r_eF, r_eAnd, r_eOr, r_eNot, r_eIf, r_eTree, r_eLst, r_eTup, r_eDic, r_tN, r_tL0, r_tLs, r_tT, r_sNil, r_sPass, r_sE, r_sAsg, r_sRet, r_sRetN, r_sBrk, r_sCnt, r_sIf, r_sSet, r_sCons, r_sFor, r_eCall, r_l1, r_l2, r_l3, r_eM, r_eComp, r_eChain, andThen_nx, andThen_rt, andThen_bk, andThen_ct, hb_nx, hb_rt, fin_raw, fin_int, fin_bl, fin_str, fin_non, truthy_bl, truthy_non, truthy_int, add_int, sub_int, lt_int, le_int, gt_int, ge_int, is_non, isN_non, isNon_non, isNon_int, isNon_str, fiL_lst, fiL_tup, fiL_str, decide_true, decide_false, decide_eq_true_eq, lineW_eq, mkL_f, mkL_t, Nat.reduceLeDiff, ix_tup3_0, ix_tup3_1, ix_tup3_2, ix_tup2_0, ix_tup2_1, sl_tup3_1, r_forG0, r_forGs, nextF_nx, nextF_ct, nextF_bk, nextF_rt, nW_none, nW_some, Option.isNone_none, Option.isNone_some]
      refine ⟨some l, [], _, _, _, rfl, fun s d => d, by decide, fun x hx => (nomatch hx), fun y e => ?_⟩
      cases e
      exact ⟨hd, hn.sg, by omega, hn.fit⟩
  · rintro _ ⟨cur, s0, x3, x4, x5, rfl, hD, hs0, hso, hcur⟩
    simp only [r_run, List.map_cons, List.map_nil, List.length_cons, List.length_nil, List.replicate, List.cons_append, List.nil_append, List.append_nil, List.set_cons_zero, List.set_cons_succ, List.set_nil, Nat.sub_self, Nat.zero_add, Nat.reduceAdd, Nat.reduceSub, Nat.reduceEqDiff, Nat.reduceLeDiff, Res.bind_ok, ofO_some, T_ok, T_bind, if_true, if_false, Bool.false_eq_true, Bool.not_true, Bool.not_false, r_eK, r_eV0, r_eVs, r_e1, r_e2, r_e3, r_eL0, r_eLs, r_eF, r_eAnd, r_eOr, r_eNot, r_eIf, r_eTree, r_eLst, r_eTup, r_eDic, r_tN, r_tL0, r_tLs, r_tT, r_sNil, r_sPass, r_sE, r_sAsg, r_sRet, r_sRetN, r_sBrk, r_sCnt, r_sIf, r_sSet, r_sCons, r_sFor, r_eCall, r_l1, r_l2, r_l3, r_eM, r_eComp, r_eChain, andThen_nx, andThen_rt, andThen_bk, andThen_ct, hb_nx, hb_rt, fin_raw, fin_int, fin_bl, fin_str, fin_non, truthy_bl, truthy_non, truthy_int, add_int, sub_int, lt_int, le_int, gt_int, ge_int, is_non, isN_non, isNon_non, isNon_int, isNon_str, fiL_lst, fiL_tup, fiL_str, decide_true, decide_false, decide_eq_true_eq, lineW_eq, mkL_f, mkL_t, Nat.reduceLeDiff, ix_tup3_0, ix_tup3_1, ix_tup3_2, ix_tup2_0, ix_tup2_1, sl_tup3_1, r_forG0, r_forGs, nextF_nx, nextF_ct, nextF_bk, nextF_rt, nW_none, nW_some, Option.isNone_none, Option.isNone_some]
    refine T.mono (T_while (Q := fun q => ∃ s, Desc w (some l) s ∧ s.length ≤ 50 ∧ (∀ x ∈ s, StOk 310 x) ∧ ((∃ ρ, q = (.rt (.ref h.length), ρ, h ++ [.lst (s.map sgW)])) ∨ ∃ ρ, q = (.nx, ρ, h ++ [.lst (s.map sgW)]) ∧ ρ[2]? = some (some (.ref h.length))))
      (fun n ρ h' => ∃ (cur : Option (List Nat)) (s0 : List Stch) (x3 x4 x5 : Option W), ρ = [some (nW cur), some (wW w), some (.ref h.length), x3, x4, x5] ∧ h' = h ++ [.lst (s0.map sgW)] ∧ (∀ s, Desc w cur s → Desc w (some l) (s0 ++ s)) ∧ s0.length + n ≤ 45 ∧ (∀ x ∈ s0, StOk 310 x) ∧ (∀ y, cur = some y → dgs y ≠ [] ∧ (∀ c ∈ y, c ∈ signs) ∧ y.length ≤ 301 ∧ ∀ k, w = some k → y.length ≤ k ∧ k + 1 - (dgs y).length ≤ n))
      (n := 43) (by decide) ⟨cur, s0, x3, x4, x5, rfl, rfl, hD, by omega, hso, fun y e => ?_⟩ ?_) ?_
    · obtain ⟨h1, h2, h3, h4⟩ := hcur y e
      exact ⟨h1, h2, h3, fun k ek => ⟨h4 k ek, by have := (hw k ek).2; omega⟩⟩
    · rintro n ρ h' ⟨cur, s0, x3, x4, x5, rfl, rfl, hD, hs0, hso, hcur⟩
      simp only [r_run, List.map_cons, List.map_nil, List.length_cons, List.length_nil, List.replicate, List.cons_append, List.nil_append, List.append_nil, List.set_cons_zero, List.set_cons_succ, List.set_nil, Nat.sub_self, Nat.zero_add, Nat.reduceAdd, Nat.reduceSub, Nat.reduceEqDiff, Nat.reduceLeDiff, Res.bind_ok, ofO_some, T_ok, T_bind, if_true, if_false, Bool.false_eq_true, Bool.not_true, Bool.not_false, r_eK, r_eV0, r_eVs, r_e1, r_e2, r_e3, r_eL0, r_eLs, r_eF, r_eAnd, r_eOr, r_eNot, r_eIf, r_eTree, r_eLst, r_eTup, r_eDic, r_tN, r_tL0, r_tLs, r_tT, r_sNil, r_sPass, r_sE, r_sAsg, r_sRet, r_sRetN, r_sBrk, r_sCnt, r_sIf, r_sSet, r_sCons, r_sFor, r_eCall, r_l1, r_l2, r_l3, r_eM, r_eComp, r_eChain, andThen_nx, andThen_rt, andThen_bk, andThen_ct, hb_nx, hb_rt, fin_raw, fin_int, fin_bl, fin_str, fin_non, truthy_bl, truthy_non, truthy_int, add_int, sub_int, lt_int, le_int, gt_int, ge_int, is_non, isN_non, isNon_non, isNon_int, isNon_str, fiL_lst, fiL_tup, fiL_str, decide_true, decide_false, decide_eq_true_eq, lineW_eq, mkL_f, mkL_t, Nat.reduceLeDiff, ix_tup3_0, ix_tup3_1, ix_tup3_2, ix_tup2_0, ix_tup2_1, sl_tup3_1, r_forG0, r_forGs, nextF_nx, nextF_ct, nextF_bk, nextF_rt, nW_none, nW_some, Option.isNone_none, Option.isNone_some, isNon_nW]
      refine ⟨_, rfl, ?_⟩
      cases cur with
      | none =>
        simp only [Option.isNone_none, Bool.not_true, Bool.false_eq_true, if_false]
        exact ⟨s0, by have := hD [] .done; rwa [List.append_nil] at this, by omega, hso, .inr ⟨_, rfl, rfl⟩⟩
      | some y =>
        obtain ⟨h1, h2, h3, h4⟩ := hcur y rfl
        have hdl := @dgs_len y
        have hds := @stm_dgs_len y
        have hdp : 0 < (dgs y).length := List.length_pos_iff.mpr h1
        have hst : StOk 310 (stm y, some (vl y), none) := ⟨stm_signs h2, by show (stm y).length ≤ 310; omega, fun n e => by cases e; exact vl_lt2 (by omega)⟩
        simp only [Option.isNone_some, Bool.not_false, if_true]
        simp only [r_run, List.map_cons, List.map_nil, List.length_cons, List.length_nil, List.replicate, List.cons_append, List.nil_append, List.append_nil, List.set_cons_zero, List.set_cons_succ, List.set_nil, Nat.sub_self, Nat.zero_add, Nat.reduceAdd, Nat.reduceSub, Nat.reduceEqDiff, Nat.reduceLeDiff, Res.bind_ok, ofO_some, T_ok, T_bind, if_true, if_false, Bool.false_eq_true, Bool.not_true, Bool.not_false, r_eK, r_eV0, r_eVs, r_e1, r_e2, r_e3, r_eL0, r_eLs, r_eF, r_eAnd, r_eOr, r_eNot, r_eIf, r_eTree, r_eLst, r_eTup, r_eDic, r_tN, r_tL0, r_tLs, r_tT, r_sNil, r_sPass, r_sE, r_sAsg, r_sRet, r_sRetN, r_sBrk, r_sCnt, r_sIf, r_sSet, r_sCons, r_sFor, r_eCall, r_l1, r_l2, r_l3, r_eM, r_eComp, r_eChain, andThen_nx, andThen_rt, andThen_bk, andThen_ct, hb_nx, hb_rt, fin_raw, fin_int, fin_bl, fin_str, fin_non, truthy_bl, truthy_non, truthy_int, add_int, sub_int, lt_int, le_int, gt_int, ge_int, is_non, isN_non, isNon_non, isNon_int, isNon_str, fiL_lst, fiL_tup, fiL_str, decide_true, decide_false, decide_eq_true_eq, lineW_eq, mkL_f, mkL_t, Nat.reduceLeDiff, ix_tup3_0, ix_tup3_1, ix_tup3_2, ix_tup2_0, ix_tup2_1, sl_tup3_1, r_forG0, r_forGs, nextF_nx, nextF_ct, nextF_bk, nextF_rt, nW_none, nW_some, Option.isNone_none, Option.isNone_some, show nW (some y) = .str (mkS y) from rfl, parts_run h2 (show y.length ≤ 1000 by omega), isNon_wW]
        cases w with
        | none =>
          simp only [r_run, List.map_cons, List.map_nil, List.length_cons, List.length_nil, List.replicate, List.cons_append, List.nil_append, List.append_nil, List.set_cons_zero, List.set_cons_succ, List.set_nil, Nat.sub_self, Nat.zero_add, Nat.reduceAdd, Nat.reduceSub, Nat.reduceEqDiff, Nat.reduceLeDiff, Res.bind_ok, ofO_some, T_ok, T_bind, if_true, if_false, Bool.false_eq_true, Bool.not_true, Bool.not_false, r_eK, r_eV0, r_eVs, r_e1, r_e2, r_e3, r_eL0, r_eLs, r_eF, r_eAnd, r_eOr, r_eNot, r_eIf, r_eTree, r_eLst, r_eTup, r_eDic, r_tN, r_tL0, r_tLs, r_tT, r_sNil, r_sPass, r_sE, r_sAsg, r_sRet, r_sRetN, r_sBrk, r_sCnt, r_sIf, r_sSet, r_sCons, r_sFor, r_eCall, r_l1, r_l2, r_l3, r_eM, r_eComp, r_eChain, andThen_nx, andThen_rt, andThen_bk, andThen_ct, hb_nx, hb_rt, fin_raw, fin_int, fin_bl, fin_str, fin_non, truthy_bl, truthy_non, truthy_int, add_int, sub_int, lt_int, le_int, gt_int, ge_int, is_non, isN_non, isNon_non, isNon_int, isNon_str, fiL_lst, fiL_tup, fiL_str, decide_true, decide_false, decide_eq_true_eq, lineW_eq, mkL_f, mkL_t, Nat.reduceLeDiff, ix_tup3_0, ix_tup3_1, ix_tup3_2, ix_tup2_0, ix_tup2_1, sl_tup3_1, r_forG0, r_forGs, nextF_nx, nextF_ct, nextF_bk, nextF_rt, nW_none, nW_some, Option.isNone_none, Option.isNone_some, Option.isNone_none, isL_new, int_dgs h1 (show y.length ≤ 600 by omega)]
          rw [app_new (y := .tup [.str (mkS (stm y)), .int (vl y : Nat), .non]) rfl (by rw [List.length_map]; exact Nat.lt_of_le_of_lt (show s0.length ≤ 45 by omega) (by decide))]
          simp only [r_run, List.map_cons, List.map_nil, List.length_cons, List.length_nil, List.replicate, List.cons_append, List.nil_append, List.append_nil, List.set_cons_zero, List.set_cons_succ, List.set_nil, Nat.sub_self, Nat.zero_add, Nat.reduceAdd, Nat.reduceSub, Nat.reduceEqDiff, Nat.reduceLeDiff, Res.bind_ok, ofO_some, T_ok, T_bind, if_true, if_false, Bool.false_eq_true, Bool.not_true, Bool.not_false, r_eK, r_eV0, r_eVs, r_e1, r_e2, r_e3, r_eL0, r_eLs, r_eF, r_eAnd, r_eOr, r_eNot, r_eIf, r_eTree, r_eLst, r_eTup, r_eDic, r_tN, r_tL0, r_tLs, r_tT, r_sNil, r_sPass, r_sE, r_sAsg, r_sRet, r_sRetN, r_sBrk, r_sCnt, r_sIf, r_sSet, r_sCons, r_sFor, r_eCall, r_l1, r_l2, r_l3, r_eM, r_eComp, r_eChain, andThen_nx, andThen_rt, andThen_bk, andThen_ct, hb_nx, hb_rt, fin_raw, fin_int, fin_bl, fin_str, fin_non, truthy_bl, truthy_non, truthy_int, add_int, sub_int, lt_int, le_int, gt_int, ge_int, is_non, isN_non, isNon_non, isNon_int, isNon_str, fiL_lst, fiL_tup, fiL_str, decide_true, decide_false, decide_eq_true_eq, lineW_eq, mkL_f, mkL_t, Nat.reduceLeDiff, ix_tup3_0, ix_tup3_1, ix_tup3_2, ix_tup2_0, ix_tup2_1, sl_tup3_1, r_forG0, r_forGs, nextF_nx, nextF_ct, nextF_bk, nextF_rt, nW_none, nW_some, Option.isNone_none, Option.isNone_some]
          refine ⟨s0 ++ [(stm y, some (vl y), none)], hD _ (Desc.freeV h1), by rw [List.length_append]; simp; omega, fun x hx => ?_, .inl ?_⟩
          · rcases List.mem_append.mp hx with q | q
            · exact hso x q
            · rw [List.mem_singleton] at q; subst q; exact hst
          · rw [List.map_append]; exact ⟨_, rfl⟩
        | some k =>
          obtain ⟨h5, h6⟩ := h4 k rfl
          have h7 := hw k rfl
          have hp : 10 ^ (dgs y).length - 1 < 10 ^ (dgs y).length := by have := pow10 (dgs y).length; omega
          have hv := @vl_lt y
          have e1 : (((10 ^ (dgs y).length - 1 : Nat) : Int) - (vl y : Nat)) + 1 = ((10 ^ (dgs y).length - vl y : Nat) : Int) := by omega
          have hsg : ∀ c ∈ stm y ++ numL (10 ^ (dgs y).length - 1), c ∈ signs := fun c hc => by
            rcases List.mem_append.mp hc with q | q
            · exact stm_signs h2 c q
            · exact dig_sign (numL_digs c q)
          have hln : (numL (10 ^ (dgs y).length - 1)).length ≤ (dgs y).length := numL_len hdp hp
          simp only [r_run, List.map_cons, List.map_nil, List.length_cons, List.length_nil, List.replicate, List.cons_append, List.nil_append, List.append_nil, List.set_cons_zero, List.set_cons_succ, List.set_nil, Nat.sub_self, Nat.zero_add, Nat.reduceAdd, Nat.reduceSub, Nat.reduceEqDiff, Nat.reduceLeDiff, Res.bind_ok, ofO_some, T_ok, T_bind, if_true, if_false, Bool.false_eq_true, Bool.not_true, Bool.not_false, r_eK, r_eV0, r_eVs, r_e1, r_e2, r_e3, r_eL0, r_eLs, r_eF, r_eAnd, r_eOr, r_eNot, r_eIf, r_eTree, r_eLst, r_eTup, r_eDic, r_tN, r_tL0, r_tLs, r_tT, r_sNil, r_sPass, r_sE, r_sAsg, r_sRet, r_sRetN, r_sBrk, r_sCnt, r_sIf, r_sSet, r_sCons, r_sFor, r_eCall, r_l1, r_l2, r_l3, r_eM, r_eComp, r_eChain, andThen_nx, andThen_rt, andThen_bk, andThen_ct, hb_nx, hb_rt, fin_raw, fin_int, fin_bl, fin_str, fin_non, truthy_bl, truthy_non, truthy_int, add_int, sub_int, lt_int, le_int, gt_int, ge_int, is_non, isN_non, isNon_non, isNon_int, isNon_str, fiL_lst, fiL_tup, fiL_str, decide_true, decide_false, decide_eq_true_eq, lineW_eq, mkL_f, mkL_t, Nat.reduceLeDiff, ix_tup3_0, ix_tup3_1, ix_tup3_2, ix_tup2_0, ix_tup2_1, sl_tup3_1, r_forG0, r_forGs, nextF_nx, nextF_ct, nextF_bk, nextF_rt, nW_none, nW_some, Option.isNone_none, Option.isNone_some, Option.isNone_some, isL_new, int_dgs h1 (show y.length ≤ 600 by omega), len_str (show (dgs y).length ≤ 10000000 by omega), mul_nines (show (dgs y).length ≤ 1000 by omega), int_nines hdp (show (dgs y).length ≤ 640 by omega), e1]
          rw [app_new (y := .tup [.str (mkS (stm y)), .int (vl y : Nat), .int ((10 ^ (dgs y).length - vl y : Nat) : Int)]) rfl (by rw [List.length_map]; exact Nat.lt_of_le_of_lt (show s0.length ≤ 45 by omega) (by decide))]
          simp only [r_run, List.map_cons, List.map_nil, List.length_cons, List.length_nil, List.replicate, List.cons_append, List.nil_append, List.append_nil, List.set_cons_zero, List.set_cons_succ, List.set_nil, Nat.sub_self, Nat.zero_add, Nat.reduceAdd, Nat.reduceSub, Nat.reduceEqDiff, Nat.reduceLeDiff, Res.bind_ok, ofO_some, T_ok, T_bind, if_true, if_false, Bool.false_eq_true, Bool.not_true, Bool.not_false, r_eK, r_eV0, r_eVs, r_e1, r_e2, r_e3, r_eL0, r_eLs, r_eF, r_eAnd, r_eOr, r_eNot, r_eIf, r_eTree, r_eLst, r_eTup, r_eDic, r_tN, r_tL0, r_tLs, r_tT, r_sNil, r_sPass, r_sE, r_sAsg, r_sRet, r_sRetN, r_sBrk, r_sCnt, r_sIf, r_sSet, r_sCons, r_sFor, r_eCall, r_l1, r_l2, r_l3, r_eM, r_eComp, r_eChain, andThen_nx, andThen_rt, andThen_bk, andThen_ct, hb_nx, hb_rt, fin_raw, fin_int, fin_bl, fin_str, fin_non, truthy_bl, truthy_non, truthy_int, add_int, sub_int, lt_int, le_int, gt_int, ge_int, is_non, isN_non, isNon_non, isNon_int, isNon_str, fiL_lst, fiL_tup, fiL_str, decide_true, decide_false, decide_eq_true_eq, lineW_eq, mkL_f, mkL_t, Nat.reduceLeDiff, ix_tup3_0, ix_tup3_1, ix_tup3_2, ix_tup2_0, ix_tup2_1, sl_tup3_1, r_forG0, r_forGs, nextF_nx, nextF_ct, nextF_bk, nextF_rt, nW_none, nW_some, Option.isNone_none, Option.isNone_some, str_int hp (show (dgs y).length ≤ 470 by omega), add_str (show (stm y).length + (numL (10 ^ (dgs y).length - 1)).length ≤ 10000000 by omega), after_run hsg (show (stm y ++ numL (10 ^ (dgs y).length - 1)).length ≤ 400 by rw [List.length_append]; omega) hw]
          refine ⟨n - 1, by omega, nxt (some k) (stm y ++ numL (10 ^ (dgs y).length - 1)), s0 ++ [(stm y, some (vl y), some (10 ^ (dgs y).length - vl y))], _, _, _, rfl, ?_, fun s d => ?_, ?_, fun x hx => ?_, fun y' e => ?_⟩
          · rw [List.map_append]; rfl
          · rw [List.append_assoc]
            exact hD _ (Desc.runV h1 h5 d)
          · rw [List.length_append]; simp; omega
          · rcases List.mem_append.mp hx with q | q
            · exact hso x q
            · rw [List.mem_singleton] at q; subst q; exact ⟨hst.1, hst.2, hst.3⟩
          · have h8 := nxt_len e
            have h9 := nxt_nines hdp e
            refine ⟨nxt_dgs e, nxt_signs hsg e, by omega, fun k' ek => ?_⟩
            cases ek
            exact ⟨h8, by omega⟩
    · rintro _ ⟨s, d, h1, h2, ⟨ρ, rfl⟩ | ⟨ρ, rfl, h3⟩⟩
      · simp only [r_run, List.map_cons, List.map_nil, List.length_cons, List.length_nil, List.replicate, List.cons_append, List.nil_append, List.append_nil, List.set_cons_zero, List.set_cons_succ, List.set_nil, Nat.sub_self, Nat.zero_add, Nat.reduceAdd, Nat.reduceSub, Nat.reduceEqDiff, Nat.reduceLeDiff, Res.bind_ok, ofO_some, T_ok, T_bind, if_true, if_false, Bool.false_eq_true, Bool.not_true, Bool.not_false, r_eK, r_eV0, r_eVs, r_e1, r_e2, r_e3, r_eL0, r_eLs, r_eF, r_eAnd, r_eOr, r_eNot, r_eIf, r_eTree, r_eLst, r_eTup, r_eDic, r_tN, r_tL0, r_tLs, r_tT, r_sNil, r_sPass, r_sE, r_sAsg, r_sRet, r_sRetN, r_sBrk, r_sCnt, r_sIf, r_sSet, r_sCons, r_sFor, r_eCall, r_l1, r_l2, r_l3, r_eM, r_eComp, r_eChain, andThen_nx, andThen_rt, andThen_bk, andThen_ct, hb_nx, hb_rt, fin_raw, fin_int, fin_bl, fin_str, fin_non, truthy_bl, truthy_non, truthy_int, add_int, sub_int, lt_int, le_int, gt_int, ge_int, is_non, isN_non, isNon_non, isNon_int, isNon_str, fiL_lst, fiL_tup, fiL_str, decide_true, decide_false, decide_eq_true_eq, lineW_eq, mkL_f, mkL_t, Nat.reduceLeDiff, ix_tup3_0, ix_tup3_1, ix_tup3_2, ix_tup2_0, ix_tup2_1, sl_tup3_1, r_forG0, r_forGs, nextF_nx, nextF_ct, nextF_bk, nextF_rt, nW_none, nW_some, Option.isNone_none, Option.isNone_some, fin_new_lst]
        exact ⟨s, d, h1, h2, rfl⟩
      · have e : eV 2 ρ (h ++ [.lst (s.map sgW)]) = .ok (.ref h.length, h ++ [.lst (s.map sgW)]) := by
          unfold eV
          rw [h3]
        simp only [r_run, List.map_cons, List.map_nil, List.length_cons, List.length_nil, List.replicate, List.cons_append, List.nil_append, List.append_nil, List.set_cons_zero, List.set_cons_succ, List.set_nil, Nat.sub_self, Nat.zero_add, Nat.reduceAdd, Nat.reduceSub, Nat.reduceEqDiff, Nat.reduceLeDiff, Res.bind_ok, ofO_some, T_ok, T_bind, if_true, if_false, Bool.false_eq_true, Bool.not_true, Bool.not_false, r_eK, r_eV0, r_eVs, r_e1, r_e2, r_e3, r_eL0, r_eLs, r_eF, r_eAnd, r_eOr, r_eNot, r_eIf, r_eTree, r_eLst, r_eTup, r_eDic, r_tN, r_tL0, r_tLs, r_tT, r_sNil, r_sPass, r_sE, r_sAsg, r_sRet, r_sRetN, r_sBrk, r_sCnt, r_sIf, r_sSet, r_sCons, r_sFor, r_eCall, r_l1, r_l2, r_l3, r_eM, r_eComp, r_eChain, andThen_nx, andThen_rt, andThen_bk, andThen_ct, hb_nx, hb_rt, fin_raw, fin_int, fin_bl, fin_str, fin_non, truthy_bl, truthy_non, truthy_int, add_int, sub_int, lt_int, le_int, gt_int, ge_int, is_non, isN_non, isNon_non, isNon_int, isNon_str, fiL_lst, fiL_tup, fiL_str, decide_true, decide_false, decide_eq_true_eq, lineW_eq, mkL_f, mkL_t, Nat.reduceLeDiff, ix_tup3_0, ix_tup3_1, ix_tup3_2, ix_tup2_0, ix_tup2_1, sl_tup3_1, r_forG0, r_forGs, nextF_nx, nextF_ct, nextF_bk, nextF_rt, nW_none, nW_some, Option.isNone_none, Option.isNone_some, e, fin_new_lst]
        exact ⟨s, d, h1, h2, rfl⟩
end Pr
end
end Ti


/-! Ti: the rest of the names module. -/
namespace Ti
open PySem
/-- the first names of a road -/
def rdL (w : Option Nat) : Nat → Option (List Nat) → List (List Nat)
  | 0, _ => []
  | _ + 1, none => []
  | n + 1, some l => l :: rdL w n (nxt w l)
def stW (l : List Nat) : W := .str (mkS l)
def namesW (ls : List (List Nat)) : W := .lst (ls.map stW)
theorem nor_stW {l : List Nat} : nor (stW l) = true := rfl
theorem nor_names {ls : List (List Nat)} : nors (ls.map stW) = true := nors_map fun _ _ => rfl
theorem fine_sg {l : List Nat} (h : ∀ c ∈ l, c ∈ signs) (hl : l.length ≤ 1000000) : strFine (mkS l) = true := fine_signs h hl
section
variable {h : Hh} {l z b : List Nat} {w : Option Nat} {n m k c : Nat}
theorem ite_m {m : Option Nat} : (if isNon (wW m) = true then Res.ok (W.int 0, h) else Res.ok (wW m, h)) = .ok (.int ((m.getD 0 : Nat) : Int), h) := by cases m <;> rfl
namespace Pr
theorem count_run : f_check_count [.int (c : Nat)] h = .ok (.non, h) := by
  unfold f_check_count b_check_count f_is_count b_is_count
  simp only [r_run, List.map_cons, List.map_nil, List.length_cons, List.length_nil, List.replicate, List.cons_append, List.nil_append, List.append_nil, List.set_cons_zero, List.set_cons_succ, List.set_nil, Nat.sub_self, Nat.zero_add, Nat.reduceAdd, Nat.reduceSub, Nat.reduceEqDiff, Nat.reduceLeDiff, Res.bind_ok, ofO_some, T_ok, T_bind, if_true, if_false, Bool.false_eq_true, Bool.not_true, Bool.not_false, r_eK, r_eV0, r_eVs, r_e1, r_e2, r_e3, r_eL0, r_eLs, r_eF, r_eAnd, r_eOr, r_eNot, r_eIf, r_eTree, r_eLst, r_eTup, r_eDic, r_tN, r_tL0, r_tLs, r_tT, r_sNil, r_sPass, r_sE, r_sAsg, r_sRet, r_sRetN, r_sBrk, r_sCnt, r_sIf, r_sSet, r_sCons, r_sFor, r_eCall, r_l1, r_l2, r_l3, r_eM, r_eComp, r_eChain, andThen_nx, andThen_rt, andThen_bk, andThen_ct, hb_nx, hb_rt, fin_raw, fin_int, fin_bl, fin_str, fin_non, truthy_bl, truthy_non, truthy_int, add_int, sub_int, lt_int, le_int, gt_int, ge_int, is_non, isN_non, isNon_non, isNon_int, isNon_str, fiL_lst, fiL_tup, fiL_str, decide_true, decide_false, decide_eq_true_eq, lineW_eq, mkL_f, mkL_t, Nat.reduceLeDiff, ix_tup3_0, ix_tup3_1, ix_tup3_2, ix_tup2_0, ix_tup2_1, sl_tup3_1, r_forG0, r_forGs, nextF_nx, nextF_ct, nextF_bk, nextF_rt, nW_none, nW_some, Option.isNone_none, Option.isNone_some, is_whole_int, show decide ((0 : Int) ≤ (c : Int)) = true from decide_eq_true (by omega)]
theorem named_run {f : Option Nat} (hs : StOk 310 (b, f, o)) (hc : c < 10 ^ 310) : f_named [.str (mkS b), wW f, .int (c : Nat)] h = .ok (.str (mkS (nmd b f c)), h) := by
  unfold f_named b_named
  simp only [r_run, List.map_cons, List.map_nil, List.length_cons, List.length_nil, List.replicate, List.cons_append, List.nil_append, List.append_nil, List.set_cons_zero, List.set_cons_succ, List.set_nil, Nat.sub_self, Nat.zero_add, Nat.reduceAdd, Nat.reduceSub, Nat.reduceEqDiff, Nat.reduceLeDiff, Res.bind_ok, ofO_some, T_ok, T_bind, if_true, if_false, Bool.false_eq_true, Bool.not_true, Bool.not_false, r_eK, r_eV0, r_eVs, r_e1, r_e2, r_e3, r_eL0, r_eLs, r_eF, r_eAnd, r_eOr, r_eNot, r_eIf, r_eTree, r_eLst, r_eTup, r_eDic, r_tN, r_tL0, r_tLs, r_tT, r_sNil, r_sPass, r_sE, r_sAsg, r_sRet, r_sRetN, r_sBrk, r_sCnt, r_sIf, r_sSet, r_sCons, r_sFor, r_eCall, r_l1, r_l2, r_l3, r_eM, r_eComp, r_eChain, andThen_nx, andThen_rt, andThen_bk, andThen_ct, hb_nx, hb_rt, fin_raw, fin_int, fin_bl, fin_str, fin_non, truthy_bl, truthy_non, truthy_int, add_int, sub_int, lt_int, le_int, gt_int, ge_int, is_non, isN_non, isNon_non, isNon_int, isNon_str, fiL_lst, fiL_tup, fiL_str, decide_true, decide_false, decide_eq_true_eq, lineW_eq, mkL_f, mkL_t, Nat.reduceLeDiff, ix_tup3_0, ix_tup3_1, ix_tup3_2, ix_tup2_0, ix_tup2_1, sl_tup3_1, r_forG0, r_forGs, nextF_nx, nextF_ct, nextF_bk, nextF_rt, nW_none, nW_some, Option.isNone_none, Option.isNone_some, isNon_wW]
  have h1 := hs.2
  cases f with
  | none => simp only [r_run, List.map_cons, List.map_nil, List.length_cons, List.length_nil, List.replicate, List.cons_append, List.nil_append, List.append_nil, List.set_cons_zero, List.set_cons_succ, List.set_nil, Nat.sub_self, Nat.zero_add, Nat.reduceAdd, Nat.reduceSub, Nat.reduceEqDiff, Nat.reduceLeDiff, Res.bind_ok, ofO_some, T_ok, T_bind, if_true, if_false, Bool.false_eq_true, Bool.not_true, Bool.not_false, r_eK, r_eV0, r_eVs, r_e1, r_e2, r_e3, r_eL0, r_eLs, r_eF, r_eAnd, r_eOr, r_eNot, r_eIf, r_eTree, r_eLst, r_eTup, r_eDic, r_tN, r_tL0, r_tLs, r_tT, r_sNil, r_sPass, r_sE, r_sAsg, r_sRet, r_sRetN, r_sBrk, r_sCnt, r_sIf, r_sSet, r_sCons, r_sFor, r_eCall, r_l1, r_l2, r_l3, r_eM, r_eComp, r_eChain, andThen_nx, andThen_rt, andThen_bk, andThen_ct, hb_nx, hb_rt, fin_raw, fin_int, fin_bl, fin_str, fin_non, truthy_bl, truthy_non, truthy_int, add_int, sub_int, lt_int, le_int, gt_int, ge_int, is_non, isN_non, isNon_non, isNon_int, isNon_str, fiL_lst, fiL_tup, fiL_str, decide_true, decide_false, decide_eq_true_eq, lineW_eq, mkL_f, mkL_t, Nat.reduceLeDiff, ix_tup3_0, ix_tup3_1, ix_tup3_2, ix_tup2_0, ix_tup2_1, sl_tup3_1, r_forG0, r_forGs, nextF_nx, nextF_ct, nextF_bk, nextF_rt, nW_none, nW_some, Option.isNone_none, Option.isNone_some, Option.isNone_none]; rfl
  | some n =>
    have h2 : n < 10 ^ 310 := hs.3 n rfl
    have h3 : n + c < 10 ^ 320 := by
      have : (10 : Nat) ^ 310 + 10 ^ 310 ≤ 10 ^ 320 := by decide
      omega
    have h4 : (numL (n + c)).length ≤ 320 := numL_len (by decide) h3
    have h1 : b.length ≤ 310 := h1
    simp only [r_run, List.map_cons, List.map_nil, List.length_cons, List.length_nil, List.replicate, List.cons_append, List.nil_append, List.append_nil, List.set_cons_zero, List.set_cons_succ, List.set_nil, Nat.sub_self, Nat.zero_add, Nat.reduceAdd, Nat.reduceSub, Nat.reduceEqDiff, Nat.reduceLeDiff, Res.bind_ok, ofO_some, T_ok, T_bind, if_true, if_false, Bool.false_eq_true, Bool.not_true, Bool.not_false, r_eK, r_eV0, r_eVs, r_e1, r_e2, r_e3, r_eL0, r_eLs, r_eF, r_eAnd, r_eOr, r_eNot, r_eIf, r_eTree, r_eLst, r_eTup, r_eDic, r_tN, r_tL0, r_tLs, r_tT, r_sNil, r_sPass, r_sE, r_sAsg, r_sRet, r_sRetN, r_sBrk, r_sCnt, r_sIf, r_sSet, r_sCons, r_sFor, r_eCall, r_l1, r_l2, r_l3, r_eM, r_eComp, r_eChain, andThen_nx, andThen_rt, andThen_bk, andThen_ct, hb_nx, hb_rt, fin_raw, fin_int, fin_bl, fin_str, fin_non, truthy_bl, truthy_non, truthy_int, add_int, sub_int, lt_int, le_int, gt_int, ge_int, is_non, isN_non, isNon_non, isNon_int, isNon_str, fiL_lst, fiL_tup, fiL_str, decide_true, decide_false, decide_eq_true_eq, lineW_eq, mkL_f, mkL_t, Nat.reduceLeDiff, ix_tup3_0, ix_tup3_1, ix_tup3_2, ix_tup2_0, ix_tup2_1, sl_tup3_1, r_forG0, r_forGs, nextF_nx, nextF_ct, nextF_bk, nextF_rt, nW_none, nW_some, Option.isNone_none, Option.isNone_some, Option.isNone_some, wW_some]
    simp only [r_run, List.map_cons, List.map_nil, List.length_cons, List.length_nil, List.replicate, List.cons_append, List.nil_append, List.append_nil, List.set_cons_zero, List.set_cons_succ, List.set_nil, Nat.sub_self, Nat.zero_add, Nat.reduceAdd, Nat.reduceSub, Nat.reduceEqDiff, Nat.reduceLeDiff, Res.bind_ok, ofO_some, T_ok, T_bind, if_true, if_false, Bool.false_eq_true, Bool.not_true, Bool.not_false, r_eK, r_eV0, r_eVs, r_e1, r_e2, r_e3, r_eL0, r_eLs, r_eF, r_eAnd, r_eOr, r_eNot, r_eIf, r_eTree, r_eLst, r_eTup, r_eDic, r_tN, r_tL0, r_tLs, r_tT, r_sNil, r_sPass, r_sE, r_sAsg, r_sRet, r_sRetN, r_sBrk, r_sCnt, r_sIf, r_sSet, r_sCons, r_sFor, r_eCall, r_l1, r_l2, r_l3, r_eM, r_eComp, r_eChain, andThen_nx, andThen_rt, andThen_bk, andThen_ct, hb_nx, hb_rt, fin_raw, fin_int, fin_bl, fin_str, fin_non, truthy_bl, truthy_non, truthy_int, add_int, sub_int, lt_int, le_int, gt_int, ge_int, is_non, isN_non, isNon_non, isNon_int, isNon_str, fiL_lst, fiL_tup, fiL_str, decide_true, decide_false, decide_eq_true_eq, lineW_eq, mkL_f, mkL_t, Nat.reduceLeDiff, ix_tup3_0, ix_tup3_1, ix_tup3_2, ix_tup2_0, ix_tup2_1, sl_tup3_1, r_forG0, r_forGs, nextF_nx, nextF_ct, nextF_bk, nextF_rt, nW_none, nW_some, Option.isNone_none, Option.isNone_some, show (n : Int) + (c : Int) = ((n + c : Nat) : Int) by omega, str_int h3 (by decide), add_str (h := h) (k := false) (a := b) (b := numL (n + c)) (by omega)]
    rfl
theorem nth_run (hn : Nam w l) (hw : WdO w) (hc : c < 10 ^ 310) : f_nth_name [.str (mkS l), .int (c : Nat), wW w] h = .ok (nW (rd w (some l) c), h) := by
  obtain ⟨s, d, hsl, hso, e⟩ := stretches_run (h := h) hn hw
  rw [← d.nth]
  apply T.eq
  unfold f_nth_name b_nth_name
  simp only [r_run, List.map_cons, List.map_nil, List.length_cons, List.length_nil, List.replicate, List.cons_append, List.nil_append, List.append_nil, List.set_cons_zero, List.set_cons_succ, List.set_nil, Nat.sub_self, Nat.zero_add, Nat.reduceAdd, Nat.reduceSub, Nat.reduceEqDiff, Nat.reduceLeDiff, Res.bind_ok, ofO_some, T_ok, T_bind, if_true, if_false, Bool.false_eq_true, Bool.not_true, Bool.not_false, r_eK, r_eV0, r_eVs, r_e1, r_e2, r_e3, r_eL0, r_eLs, r_eF, r_eAnd, r_eOr, r_eNot, r_eIf, r_eTree, r_eLst, r_eTup, r_eDic, r_tN, r_tL0, r_tLs, r_tT, r_sNil, r_sPass, r_sE, r_sAsg, r_sRet, r_sRetN, r_sBrk, r_sCnt, r_sIf, r_sSet, r_sCons, r_sFor, r_eCall, r_l1, r_l2, r_l3, r_eM, r_eComp, r_eChain, andThen_nx, andThen_rt, andThen_bk, andThen_ct, hb_nx, hb_rt, fin_raw, fin_int, fin_bl, fin_str, fin_non, truthy_bl, truthy_non, truthy_int, add_int, sub_int, lt_int, le_int, gt_int, ge_int, is_non, isN_non, isNon_non, isNon_int, isNon_str, fiL_lst, fiL_tup, fiL_str, decide_true, decide_false, decide_eq_true_eq, lineW_eq, mkL_f, mkL_t, Nat.reduceLeDiff, ix_tup3_0, ix_tup3_1, ix_tup3_2, ix_tup2_0, ix_tup2_1, sl_tup3_1, r_forG0, r_forGs, nextF_nx, nextF_ct, nextF_bk, nextF_rt, nW_none, nW_some, Option.isNone_none, Option.isNone_some, check_name_ok hn.name, count_run, check_width_ok hw.wd, check_fitting_name_ok (show l.length ≤ 100000 by have := hn.len; omega) hw.wd hn.fits, e]
  refine T.mono (T_for (Q := fun q => (∃ ρ, q = (.rt (nW (nthS s c)), ρ, h)) ∨ (nthS s c = none ∧ ∃ ρ, q = (.nx, ρ, h)))
    (fun i ρ h' => h' = h ∧ ∃ (c' : Nat) (x3 x4 x5 : Option W), c' ≤ c ∧ nthS (s.drop i) c' = nthS s c ∧ ρ = [some (.str (mkS l)), some (.int (c' : Nat)), some (wW w), x3, x4, x5])
    ⟨rfl, c, none, none, none, Nat.le_refl _, rfl, rfl⟩ ?_ ?_) ?_
  · rintro i ⟨b, f, m⟩ ρ h' hx ⟨rfl, c', x3, x4, x5, hcc, hnt, rfl⟩
    have hok := hso _ (mem_get hx)
    rw [drop_get hx] at hnt
    simp only [r_run, List.map_cons, List.map_nil, List.length_cons, List.length_nil, List.replicate, List.cons_append, List.nil_append, List.append_nil, List.set_cons_zero, List.set_cons_succ, List.set_nil, Nat.sub_self, Nat.zero_add, Nat.reduceAdd, Nat.reduceSub, Nat.reduceEqDiff, Nat.reduceLeDiff, Res.bind_ok, ofO_some, T_ok, T_bind, if_true, if_false, Bool.false_eq_true, Bool.not_true, Bool.not_false, r_eK, r_eV0, r_eVs, r_e1, r_e2, r_e3, r_eL0, r_eLs, r_eF, r_eAnd, r_eOr, r_eNot, r_eIf, r_eTree, r_eLst, r_eTup, r_eDic, r_tN, r_tL0, r_tLs, r_tT, r_sNil, r_sPass, r_sE, r_sAsg, r_sRet, r_sRetN, r_sBrk, r_sCnt, r_sIf, r_sSet, r_sCons, r_sFor, r_eCall, r_l1, r_l2, r_l3, r_eM, r_eComp, r_eChain, andThen_nx, andThen_rt, andThen_bk, andThen_ct, hb_nx, hb_rt, fin_raw, fin_int, fin_bl, fin_str, fin_non, truthy_bl, truthy_non, truthy_int, add_int, sub_int, lt_int, le_int, gt_int, ge_int, is_non, isN_non, isNon_non, isNon_int, isNon_str, fiL_lst, fiL_tup, fiL_str, decide_true, decide_false, decide_eq_true_eq, lineW_eq, mkL_f, mkL_t, Nat.reduceLeDiff, ix_tup3_0, ix_tup3_1, ix_tup3_2, ix_tup2_0, ix_tup2_1, sl_tup3_1, r_forG0, r_forGs, nextF_nx, nextF_ct, nextF_bk, nextF_rt, nW_none, nW_some, Option.isNone_none, Option.isNone_some, sgW_eq, isNon_wW]
    cases m with
    | none =>
      simp only [r_run, List.map_cons, List.map_nil, List.length_cons, List.length_nil, List.replicate, List.cons_append, List.nil_append, List.append_nil, List.set_cons_zero, List.set_cons_succ, List.set_nil, Nat.sub_self, Nat.zero_add, Nat.reduceAdd, Nat.reduceSub, Nat.reduceEqDiff, Nat.reduceLeDiff, Res.bind_ok, ofO_some, T_ok, T_bind, if_true, if_false, Bool.false_eq_true, Bool.not_true, Bool.not_false, r_eK, r_eV0, r_eVs, r_e1, r_e2, r_e3, r_eL0, r_eLs, r_eF, r_eAnd, r_eOr, r_eNot, r_eIf, r_eTree, r_eLst, r_eTup, r_eDic, r_tN, r_tL0, r_tLs, r_tT, r_sNil, r_sPass, r_sE, r_sAsg, r_sRet, r_sRetN, r_sBrk, r_sCnt, r_sIf, r_sSet, r_sCons, r_sFor, r_eCall, r_l1, r_l2, r_l3, r_eM, r_eComp, r_eChain, andThen_nx, andThen_rt, andThen_bk, andThen_ct, hb_nx, hb_rt, fin_raw, fin_int, fin_bl, fin_str, fin_non, truthy_bl, truthy_non, truthy_int, add_int, sub_int, lt_int, le_int, gt_int, ge_int, is_non, isN_non, isNon_non, isNon_int, isNon_str, fiL_lst, fiL_tup, fiL_str, decide_true, decide_false, decide_eq_true_eq, lineW_eq, mkL_f, mkL_t, Nat.reduceLeDiff, ix_tup3_0, ix_tup3_1, ix_tup3_2, ix_tup2_0, ix_tup2_1, sl_tup3_1, r_forG0, r_forGs, nextF_nx, nextF_ct, nextF_bk, nextF_rt, nW_none, nW_some, Option.isNone_none, Option.isNone_some, Option.isNone_none, named_run hok (show c' < 10 ^ 310 by omega)]
      exact .inl ⟨_, by rw [← hnt]; rfl⟩
    | some m =>
      simp only [r_run, List.map_cons, List.map_nil, List.length_cons, List.length_nil, List.replicate, List.cons_append, List.nil_append, List.append_nil, List.set_cons_zero, List.set_cons_succ, List.set_nil, Nat.sub_self, Nat.zero_add, Nat.reduceAdd, Nat.reduceSub, Nat.reduceEqDiff, Nat.reduceLeDiff, Res.bind_ok, ofO_some, T_ok, T_bind, if_true, if_false, Bool.false_eq_true, Bool.not_true, Bool.not_false, r_eK, r_eV0, r_eVs, r_e1, r_e2, r_e3, r_eL0, r_eLs, r_eF, r_eAnd, r_eOr, r_eNot, r_eIf, r_eTree, r_eLst, r_eTup, r_eDic, r_tN, r_tL0, r_tLs, r_tT, r_sNil, r_sPass, r_sE, r_sAsg, r_sRet, r_sRetN, r_sBrk, r_sCnt, r_sIf, r_sSet, r_sCons, r_sFor, r_eCall, r_l1, r_l2, r_l3, r_eM, r_eComp, r_eChain, andThen_nx, andThen_rt, andThen_bk, andThen_ct, hb_nx, hb_rt, fin_raw, fin_int, fin_bl, fin_str, fin_non, truthy_bl, truthy_non, truthy_int, add_int, sub_int, lt_int, le_int, gt_int, ge_int, is_non, isN_non, isNon_non, isNon_int, isNon_str, fiL_lst, fiL_tup, fiL_str, decide_true, decide_false, decide_eq_true_eq, lineW_eq, mkL_f, mkL_t, Nat.reduceLeDiff, ix_tup3_0, ix_tup3_1, ix_tup3_2, ix_tup2_0, ix_tup2_1, sl_tup3_1, r_forG0, r_forGs, nextF_nx, nextF_ct, nextF_bk, nextF_rt, nW_none, nW_some, Option.isNone_none, Option.isNone_some, Option.isNone_some, wW_some]
      have hnt : (if c' < m then some (nmd b f c') else nthS (s.drop (i + 1)) (c' - m)) = nthS s c := hnt
      by_cases hcm : c' < m
      · rw [if_pos hcm] at hnt
        rw [if_pos (show (c' : Int) < (m : Int) by omega)]
        simp only [r_run, List.map_cons, List.map_nil, List.length_cons, List.length_nil, List.replicate, List.cons_append, List.nil_append, List.append_nil, List.set_cons_zero, List.set_cons_succ, List.set_nil, Nat.sub_self, Nat.zero_add, Nat.reduceAdd, Nat.reduceSub, Nat.reduceEqDiff, Nat.reduceLeDiff, Res.bind_ok, ofO_some, T_ok, T_bind, if_true, if_false, Bool.false_eq_true, Bool.not_true, Bool.not_false, r_eK, r_eV0, r_eVs, r_e1, r_e2, r_e3, r_eL0, r_eLs, r_eF, r_eAnd, r_eOr, r_eNot, r_eIf, r_eTree, r_eLst, r_eTup, r_eDic, r_tN, r_tL0, r_tLs, r_tT, r_sNil, r_sPass, r_sE, r_sAsg, r_sRet, r_sRetN, r_sBrk, r_sCnt, r_sIf, r_sSet, r_sCons, r_sFor, r_eCall, r_l1, r_l2, r_l3, r_eM, r_eComp, r_eChain, andThen_nx, andThen_rt, andThen_bk, andThen_ct, hb_nx, hb_rt, fin_raw, fin_int, fin_bl, fin_str, fin_non, truthy_bl, truthy_non, truthy_int, add_int, sub_int, lt_int, le_int, gt_int, ge_int, is_non, isN_non, isNon_non, isNon_int, isNon_str, fiL_lst, fiL_tup, fiL_str, decide_true, decide_false, decide_eq_true_eq, lineW_eq, mkL_f, mkL_t, Nat.reduceLeDiff, ix_tup3_0, ix_tup3_1, ix_tup3_2, ix_tup2_0, ix_tup2_1, sl_tup3_1, r_forG0, r_forGs, nextF_nx, nextF_ct, nextF_bk, nextF_rt, nW_none, nW_some, Option.isNone_none, Option.isNone_some, named_run hok (show c' < 10 ^ 310 by omega)]
        exact .inl ⟨_, by rw [← hnt]; rfl⟩
      · rw [if_neg hcm] at hnt
        rw [if_neg (show ¬ (c' : Int) < (m : Int) by omega)]
        simp only [r_run, List.map_cons, List.map_nil, List.length_cons, List.length_nil, List.replicate, List.cons_append, List.nil_append, List.append_nil, List.set_cons_zero, List.set_cons_succ, List.set_nil, Nat.sub_self, Nat.zero_add, Nat.reduceAdd, Nat.reduceSub, Nat.reduceEqDiff, Nat.reduceLeDiff, Res.bind_ok, ofO_some, T_ok, T_bind, if_true, if_false, Bool.false_eq_true, Bool.not_true, Bool.not_false, r_eK, r_eV0, r_eVs, r_e1, r_e2, r_e3, r_eL0, r_eLs, r_eF, r_eAnd, r_eOr, r_eNot, r_eIf, r_eTree, r_eLst, r_eTup, r_eDic, r_tN, r_tL0, r_tLs, r_tT, r_sNil, r_sPass, r_sE, r_sAsg, r_sRet, r_sRetN, r_sBrk, r_sCnt, r_sIf, r_sSet, r_sCons, r_sFor, r_eCall, r_l1, r_l2, r_l3, r_eM, r_eComp, r_eChain, andThen_nx, andThen_rt, andThen_bk, andThen_ct, hb_nx, hb_rt, fin_raw, fin_int, fin_bl, fin_str, fin_non, truthy_bl, truthy_non, truthy_int, add_int, sub_int, lt_int, le_int, gt_int, ge_int, is_non, isN_non, isNon_non, isNon_int, isNon_str, fiL_lst, fiL_tup, fiL_str, decide_true, decide_false, decide_eq_true_eq, lineW_eq, mkL_f, mkL_t, Nat.reduceLeDiff, ix_tup3_0, ix_tup3_1, ix_tup3_2, ix_tup2_0, ix_tup2_1, sl_tup3_1, r_forG0, r_forGs, nextF_nx, nextF_ct, nextF_bk, nextF_rt, nW_none, nW_some, Option.isNone_none, Option.isNone_some, show (c' : Int) - (m : Int) = ((c' - m : Nat) : Int) by omega]
        exact ⟨trivial, c' - m, _, _, _, by omega, hnt, rfl⟩
  · rintro ρ h' ⟨rfl, c', x3, x4, x5, hcc, hnt, rfl⟩
    rw [List.drop_length] at hnt
    exact .inr ⟨hnt.symm, _, rfl⟩
  · rintro _ (⟨ρ, rfl⟩ | ⟨hnt, ρ, rfl⟩)
    · simp only [r_run, List.map_cons, List.map_nil, List.length_cons, List.length_nil, List.replicate, List.cons_append, List.nil_append, List.append_nil, List.set_cons_zero, List.set_cons_succ, List.set_nil, Nat.sub_self, Nat.zero_add, Nat.reduceAdd, Nat.reduceSub, Nat.reduceEqDiff, Nat.reduceLeDiff, Res.bind_ok, ofO_some, T_ok, T_bind, if_true, if_false, Bool.false_eq_true, Bool.not_true, Bool.not_false, r_eK, r_eV0, r_eVs, r_e1, r_e2, r_e3, r_eL0, r_eLs, r_eF, r_eAnd, r_eOr, r_eNot, r_eIf, r_eTree, r_eLst, r_eTup, r_eDic, r_tN, r_tL0, r_tLs, r_tT, r_sNil, r_sPass, r_sE, r_sAsg, r_sRet, r_sRetN, r_sBrk, r_sCnt, r_sIf, r_sSet, r_sCons, r_sFor, r_eCall, r_l1, r_l2, r_l3, r_eM, r_eComp, r_eChain, andThen_nx, andThen_rt, andThen_bk, andThen_ct, hb_nx, hb_rt, fin_raw, fin_int, fin_bl, fin_str, fin_non, truthy_bl, truthy_non, truthy_int, add_int, sub_int, lt_int, le_int, gt_int, ge_int, is_non, isN_non, isNon_non, isNon_int, isNon_str, fiL_lst, fiL_tup, fiL_str, decide_true, decide_false, decide_eq_true_eq, lineW_eq, mkL_f, mkL_t, Nat.reduceLeDiff, ix_tup3_0, ix_tup3_1, ix_tup3_2, ix_tup2_0, ix_tup2_1, sl_tup3_1, r_forG0, r_forGs, nextF_nx, nextF_ct, nextF_bk, nextF_rt, nW_none, nW_some, Option.isNone_none, Option.isNone_some, fin_here nor_nW]
    · simp only [r_run, List.map_cons, List.map_nil, List.length_cons, List.length_nil, List.replicate, List.cons_append, List.nil_append, List.append_nil, List.set_cons_zero, List.set_cons_succ, List.set_nil, Nat.sub_self, Nat.zero_add, Nat.reduceAdd, Nat.reduceSub, Nat.reduceEqDiff, Nat.reduceLeDiff, Res.bind_ok, ofO_some, T_ok, T_bind, if_true, if_false, Bool.false_eq_true, Bool.not_true, Bool.not_false, r_eK, r_eV0, r_eVs, r_e1, r_e2, r_e3, r_eL0, r_eLs, r_eF, r_eAnd, r_eOr, r_eNot, r_eIf, r_eTree, r_eLst, r_eTup, r_eDic, r_tN, r_tL0, r_tLs, r_tT, r_sNil, r_sPass, r_sE, r_sAsg, r_sRet, r_sRetN, r_sBrk, r_sCnt, r_sIf, r_sSet, r_sCons, r_sFor, r_eCall, r_l1, r_l2, r_l3, r_eM, r_eComp, r_eChain, andThen_nx, andThen_rt, andThen_bk, andThen_ct, hb_nx, hb_rt, fin_raw, fin_int, fin_bl, fin_str, fin_non, truthy_bl, truthy_non, truthy_int, add_int, sub_int, lt_int, le_int, gt_int, ge_int, is_non, isN_non, isNon_non, isNon_int, isNon_str, fiL_lst, fiL_tup, fiL_str, decide_true, decide_false, decide_eq_true_eq, lineW_eq, mkL_f, mkL_t, Nat.reduceLeDiff, ix_tup3_0, ix_tup3_1, ix_tup3_2, ix_tup2_0, ix_tup2_1, sl_tup3_1, r_forG0, r_forGs, nextF_nx, nextF_ct, nextF_bk, nextF_rt, nW_none, nW_some, Option.isNone_none, Option.isNone_some]
      rw [hnt]
      rfl
theorem place_run (hn : Nam w l) (hw : WdO w) (hz : ∀ c ∈ z, c ∈ signs) (hzl : z.length ≤ 600) : ∃ s, Desc w (some l) s ∧ f_place_on [.str (mkS l), .str (mkS z), wW w] h = .ok (wW (plcS z s 0), h) := by
  obtain ⟨s, d, hsl, hso, e⟩ := stretches_run (h := h) hn hw
  refine ⟨s, d, ?_⟩
  apply T.eq
  have fz : strFine (mkS z) = true := fine_sg hz (by omega)
  have fs : strFine (mkS (stm z)) = true := fine_sg (stm_signs hz) (by have := @stm_len z; omega)
  unfold f_place_on b_place_on
  simp only [r_run, List.map_cons, List.map_nil, List.length_cons, List.length_nil, List.replicate, List.cons_append, List.nil_append, List.append_nil, List.set_cons_zero, List.set_cons_succ, List.set_nil, Nat.sub_self, Nat.zero_add, Nat.reduceAdd, Nat.reduceSub, Nat.reduceEqDiff, Nat.reduceLeDiff, Res.bind_ok, ofO_some, T_ok, T_bind, if_true, if_false, Bool.false_eq_true, Bool.not_true, Bool.not_false, r_eK, r_eV0, r_eVs, r_e1, r_e2, r_e3, r_eL0, r_eLs, r_eF, r_eAnd, r_eOr, r_eNot, r_eIf, r_eTree, r_eLst, r_eTup, r_eDic, r_tN, r_tL0, r_tLs, r_tT, r_sNil, r_sPass, r_sE, r_sAsg, r_sRet, r_sRetN, r_sBrk, r_sCnt, r_sIf, r_sSet, r_sCons, r_sFor, r_eCall, r_l1, r_l2, r_l3, r_eM, r_eComp, r_eChain, andThen_nx, andThen_rt, andThen_bk, andThen_ct, hb_nx, hb_rt, fin_raw, fin_int, fin_bl, fin_str, fin_non, truthy_bl, truthy_non, truthy_int, add_int, sub_int, lt_int, le_int, gt_int, ge_int, is_non, isN_non, isNon_non, isNon_int, isNon_str, fiL_lst, fiL_tup, fiL_str, decide_true, decide_false, decide_eq_true_eq, lineW_eq, mkL_f, mkL_t, Nat.reduceLeDiff, ix_tup3_0, ix_tup3_1, ix_tup3_2, ix_tup2_0, ix_tup2_1, sl_tup3_1, r_forG0, r_forGs, nextF_nx, nextF_ct, nextF_bk, nextF_rt, nW_none, nW_some, Option.isNone_none, Option.isNone_some, parts_run hz (show z.length ≤ 1000 by omega), e]
  refine T.mono (T_for (Q := fun q => (∃ i ρ, plcS z s 0 = some i ∧ q = (.rt (.int (i : Nat)), ρ, h)) ∨ (plcS z s 0 = none ∧ ∃ ρ, q = (.nx, ρ, h)))
    (fun i ρ h' => h' = h ∧ ∃ (t : Nat) (x3 x4 x5 : Option W), plcS z (s.drop i) t = plcS z s 0 ∧ ρ = [some (.str (mkS l)), some (.str (mkS z)), some (wW w), some (.int (t : Nat)), some (.str (mkS (stm z))), some (.str (mkS (dgs z))), x3, x4, x5])
    ⟨rfl, 0, none, none, none, rfl, rfl⟩ ?_ ?_) ?_
  · rintro i ⟨b, f, m⟩ ρ h' hx ⟨rfl, t, x3, x4, x5, hnt, rfl⟩
    have hok := hso _ (mem_get hx)
    have fb : strFine (mkS b) = true := fine_sg hok.1 (by have := hok.2; show b.length ≤ _; have h1 : b.length ≤ 310 := hok.2; omega)
    rw [drop_get hx] at hnt
    simp only [r_run, List.map_cons, List.map_nil, List.length_cons, List.length_nil, List.replicate, List.cons_append, List.nil_append, List.append_nil, List.set_cons_zero, List.set_cons_succ, List.set_nil, Nat.sub_self, Nat.zero_add, Nat.reduceAdd, Nat.reduceSub, Nat.reduceEqDiff, Nat.reduceLeDiff, Res.bind_ok, ofO_some, T_ok, T_bind, if_true, if_false, Bool.false_eq_true, Bool.not_true, Bool.not_false, r_eK, r_eV0, r_eVs, r_e1, r_e2, r_e3, r_eL0, r_eLs, r_eF, r_eAnd, r_eOr, r_eNot, r_eIf, r_eTree, r_eLst, r_eTup, r_eDic, r_tN, r_tL0, r_tLs, r_tT, r_sNil, r_sPass, r_sE, r_sAsg, r_sRet, r_sRetN, r_sBrk, r_sCnt, r_sIf, r_sSet, r_sCons, r_sFor, r_eCall, r_l1, r_l2, r_l3, r_eM, r_eComp, r_eChain, andThen_nx, andThen_rt, andThen_bk, andThen_ct, hb_nx, hb_rt, fin_raw, fin_int, fin_bl, fin_str, fin_non, truthy_bl, truthy_non, truthy_int, add_int, sub_int, lt_int, le_int, gt_int, ge_int, is_non, isN_non, isNon_non, isNon_int, isNon_str, fiL_lst, fiL_tup, fiL_str, decide_true, decide_false, decide_eq_true_eq, lineW_eq, mkL_f, mkL_t, Nat.reduceLeDiff, ix_tup3_0, ix_tup3_1, ix_tup3_2, ix_tup2_0, ix_tup2_1, sl_tup3_1, r_forG0, r_forGs, nextF_nx, nextF_ct, nextF_bk, nextF_rt, nW_none, nW_some, Option.isNone_none, Option.isNone_some, sgW_eq]
    cases f with
    | none =>
      have hnt : (if z = b then some t else plcS z (s.drop (i + 1)) (t + m.getD 0)) = plcS z s 0 := hnt
      simp only [r_run, List.map_cons, List.map_nil, List.length_cons, List.length_nil, List.replicate, List.cons_append, List.nil_append, List.append_nil, List.set_cons_zero, List.set_cons_succ, List.set_nil, Nat.sub_self, Nat.zero_add, Nat.reduceAdd, Nat.reduceSub, Nat.reduceEqDiff, Nat.reduceLeDiff, Res.bind_ok, ofO_some, T_ok, T_bind, if_true, if_false, Bool.false_eq_true, Bool.not_true, Bool.not_false, r_eK, r_eV0, r_eVs, r_e1, r_e2, r_e3, r_eL0, r_eLs, r_eF, r_eAnd, r_eOr, r_eNot, r_eIf, r_eTree, r_eLst, r_eTup, r_eDic, r_tN, r_tL0, r_tLs, r_tT, r_sNil, r_sPass, r_sE, r_sAsg, r_sRet, r_sRetN, r_sBrk, r_sCnt, r_sIf, r_sSet, r_sCons, r_sFor, r_eCall, r_l1, r_l2, r_l3, r_eM, r_eComp, r_eChain, andThen_nx, andThen_rt, andThen_bk, andThen_ct, hb_nx, hb_rt, fin_raw, fin_int, fin_bl, fin_str, fin_non, truthy_bl, truthy_non, truthy_int, add_int, sub_int, lt_int, le_int, gt_int, ge_int, is_non, isN_non, isNon_non, isNon_int, isNon_str, fiL_lst, fiL_tup, fiL_str, decide_true, decide_false, decide_eq_true_eq, lineW_eq, mkL_f, mkL_t, Nat.reduceLeDiff, ix_tup3_0, ix_tup3_1, ix_tup3_2, ix_tup2_0, ix_tup2_1, sl_tup3_1, r_forG0, r_forGs, nextF_nx, nextF_ct, nextF_bk, nextF_rt, nW_none, nW_some, Option.isNone_none, Option.isNone_some, wW_none, isNon_non, eq_str fz fb]
      by_cases hzb : z = b
      · rw [if_pos hzb]
        rw [if_pos hzb] at hnt
        simp only [r_run, List.map_cons, List.map_nil, List.length_cons, List.length_nil, List.replicate, List.cons_append, List.nil_append, List.append_nil, List.set_cons_zero, List.set_cons_succ, List.set_nil, Nat.sub_self, Nat.zero_add, Nat.reduceAdd, Nat.reduceSub, Nat.reduceEqDiff, Nat.reduceLeDiff, Res.bind_ok, ofO_some, T_ok, T_bind, if_true, if_false, Bool.false_eq_true, Bool.not_true, Bool.not_false, r_eK, r_eV0, r_eVs, r_e1, r_e2, r_e3, r_eL0, r_eLs, r_eF, r_eAnd, r_eOr, r_eNot, r_eIf, r_eTree, r_eLst, r_eTup, r_eDic, r_tN, r_tL0, r_tLs, r_tT, r_sNil, r_sPass, r_sE, r_sAsg, r_sRet, r_sRetN, r_sBrk, r_sCnt, r_sIf, r_sSet, r_sCons, r_sFor, r_eCall, r_l1, r_l2, r_l3, r_eM, r_eComp, r_eChain, andThen_nx, andThen_rt, andThen_bk, andThen_ct, hb_nx, hb_rt, fin_raw, fin_int, fin_bl, fin_str, fin_non, truthy_bl, truthy_non, truthy_int, add_int, sub_int, lt_int, le_int, gt_int, ge_int, is_non, isN_non, isNon_non, isNon_int, isNon_str, fiL_lst, fiL_tup, fiL_str, decide_true, decide_false, decide_eq_true_eq, lineW_eq, mkL_f, mkL_t, Nat.reduceLeDiff, ix_tup3_0, ix_tup3_1, ix_tup3_2, ix_tup2_0, ix_tup2_1, sl_tup3_1, r_forG0, r_forGs, nextF_nx, nextF_ct, nextF_bk, nextF_rt, nW_none, nW_some, Option.isNone_none, Option.isNone_some]
        exact .inl ⟨t, _, hnt.symm, rfl⟩
      · rw [if_neg hzb]
        rw [if_neg hzb] at hnt
        simp only [r_run, List.map_cons, List.map_nil, List.length_cons, List.length_nil, List.replicate, List.cons_append, List.nil_append, List.append_nil, List.set_cons_zero, List.set_cons_succ, List.set_nil, Nat.sub_self, Nat.zero_add, Nat.reduceAdd, Nat.reduceSub, Nat.reduceEqDiff, Nat.reduceLeDiff, Res.bind_ok, ofO_some, T_ok, T_bind, if_true, if_false, Bool.false_eq_true, Bool.not_true, Bool.not_false, r_eK, r_eV0, r_eVs, r_e1, r_e2, r_e3, r_eL0, r_eLs, r_eF, r_eAnd, r_eOr, r_eNot, r_eIf, r_eTree, r_eLst, r_eTup, r_eDic, r_tN, r_tL0, r_tLs, r_tT, r_sNil, r_sPass, r_sE, r_sAsg, r_sRet, r_sRetN, r_sBrk, r_sCnt, r_sIf, r_sSet, r_sCons, r_sFor, r_eCall, r_l1, r_l2, r_l3, r_eM, r_eComp, r_eChain, andThen_nx, andThen_rt, andThen_bk, andThen_ct, hb_nx, hb_rt, fin_raw, fin_int, fin_bl, fin_str, fin_non, truthy_bl, truthy_non, truthy_int, add_int, sub_int, lt_int, le_int, gt_int, ge_int, is_non, isN_non, isNon_non, isNon_int, isNon_str, fiL_lst, fiL_tup, fiL_str, decide_true, decide_false, decide_eq_true_eq, lineW_eq, mkL_f, mkL_t, Nat.reduceLeDiff, ix_tup3_0, ix_tup3_1, ix_tup3_2, ix_tup2_0, ix_tup2_1, sl_tup3_1, r_forG0, r_forGs, nextF_nx, nextF_ct, nextF_bk, nextF_rt, nW_none, nW_some, Option.isNone_none, Option.isNone_some, ite_m]
        exact ⟨trivial, t + m.getD 0, _, _, _, hnt, rfl⟩
    | some n =>
      have hnt : (if hit z b n m then some (t + vl z - n) else plcS z (s.drop (i + 1)) (t + m.getD 0)) = plcS z s 0 := hnt
      simp only [r_run, List.map_cons, List.map_nil, List.length_cons, List.length_nil, List.replicate, List.cons_append, List.nil_append, List.append_nil, List.set_cons_zero, List.set_cons_succ, List.set_nil, Nat.sub_self, Nat.zero_add, Nat.reduceAdd, Nat.reduceSub, Nat.reduceEqDiff, Nat.reduceLeDiff, Res.bind_ok, ofO_some, T_ok, T_bind, if_true, if_false, Bool.false_eq_true, Bool.not_true, Bool.not_false, r_eK, r_eV0, r_eVs, r_e1, r_e2, r_e3, r_eL0, r_eLs, r_eF, r_eAnd, r_eOr, r_eNot, r_eIf, r_eTree, r_eLst, r_eTup, r_eDic, r_tN, r_tL0, r_tLs, r_tT, r_sNil, r_sPass, r_sE, r_sAsg, r_sRet, r_sRetN, r_sBrk, r_sCnt, r_sIf, r_sSet, r_sCons, r_sFor, r_eCall, r_l1, r_l2, r_l3, r_eM, r_eComp, r_eChain, andThen_nx, andThen_rt, andThen_bk, andThen_ct, hb_nx, hb_rt, fin_raw, fin_int, fin_bl, fin_str, fin_non, truthy_bl, truthy_non, truthy_int, add_int, sub_int, lt_int, le_int, gt_int, ge_int, is_non, isN_non, isNon_non, isNon_int, isNon_str, fiL_lst, fiL_tup, fiL_str, decide_true, decide_false, decide_eq_true_eq, lineW_eq, mkL_f, mkL_t, Nat.reduceLeDiff, ix_tup3_0, ix_tup3_1, ix_tup3_2, ix_tup2_0, ix_tup2_1, sl_tup3_1, r_forG0, r_forGs, nextF_nx, nextF_ct, nextF_bk, nextF_rt, nW_none, nW_some, Option.isNone_none, Option.isNone_some, wW_some, isNon_int, eq_str fb fs, eq_dgs (show z.length ≤ 1000 by omega), ne_dgs (show z.length ≤ 1000 by omega)]
      have no : ¬ hit z b n m → plcS z (s.drop (i + 1)) (t + m.getD 0) = plcS z s 0 := fun hh => by
        rw [if_neg hh] at hnt
        exact hnt
      by_cases h1 : b = stm z
      · rw [if_pos h1]
        by_cases h2 : dgs z = []
        · simp only [r_run, List.map_cons, List.map_nil, List.length_cons, List.length_nil, List.replicate, List.cons_append, List.nil_append, List.append_nil, List.set_cons_zero, List.set_cons_succ, List.set_nil, Nat.sub_self, Nat.zero_add, Nat.reduceAdd, Nat.reduceSub, Nat.reduceEqDiff, Nat.reduceLeDiff, Res.bind_ok, ofO_some, T_ok, T_bind, if_true, if_false, Bool.false_eq_true, Bool.not_true, Bool.not_false, r_eK, r_eV0, r_eVs, r_e1, r_e2, r_e3, r_eL0, r_eLs, r_eF, r_eAnd, r_eOr, r_eNot, r_eIf, r_eTree, r_eLst, r_eTup, r_eDic, r_tN, r_tL0, r_tLs, r_tT, r_sNil, r_sPass, r_sE, r_sAsg, r_sRet, r_sRetN, r_sBrk, r_sCnt, r_sIf, r_sSet, r_sCons, r_sFor, r_eCall, r_l1, r_l2, r_l3, r_eM, r_eComp, r_eChain, andThen_nx, andThen_rt, andThen_bk, andThen_ct, hb_nx, hb_rt, fin_raw, fin_int, fin_bl, fin_str, fin_non, truthy_bl, truthy_non, truthy_int, add_int, sub_int, lt_int, le_int, gt_int, ge_int, is_non, isN_non, isNon_non, isNon_int, isNon_str, fiL_lst, fiL_tup, fiL_str, decide_true, decide_false, decide_eq_true_eq, lineW_eq, mkL_f, mkL_t, Nat.reduceLeDiff, ix_tup3_0, ix_tup3_1, ix_tup3_2, ix_tup2_0, ix_tup2_1, sl_tup3_1, r_forG0, r_forGs, nextF_nx, nextF_ct, nextF_bk, nextF_rt, nW_none, nW_some, Option.isNone_none, Option.isNone_some, decide_eq_true h2, ite_m]
          exact ⟨trivial, t + m.getD 0, _, _, _, no fun hh => hh.2.1 h2, rfl⟩
        · simp only [r_run, List.map_cons, List.map_nil, List.length_cons, List.length_nil, List.replicate, List.cons_append, List.nil_append, List.append_nil, List.set_cons_zero, List.set_cons_succ, List.set_nil, Nat.sub_self, Nat.zero_add, Nat.reduceAdd, Nat.reduceSub, Nat.reduceEqDiff, Nat.reduceLeDiff, Res.bind_ok, ofO_some, T_ok, T_bind, if_true, if_false, Bool.false_eq_true, Bool.not_true, Bool.not_false, r_eK, r_eV0, r_eVs, r_e1, r_e2, r_e3, r_eL0, r_eLs, r_eF, r_eAnd, r_eOr, r_eNot, r_eIf, r_eTree, r_eLst, r_eTup, r_eDic, r_tN, r_tL0, r_tLs, r_tT, r_sNil, r_sPass, r_sE, r_sAsg, r_sRet, r_sRetN, r_sBrk, r_sCnt, r_sIf, r_sSet, r_sCons, r_sFor, r_eCall, r_l1, r_l2, r_l3, r_eM, r_eComp, r_eChain, andThen_nx, andThen_rt, andThen_bk, andThen_ct, hb_nx, hb_rt, fin_raw, fin_int, fin_bl, fin_str, fin_non, truthy_bl, truthy_non, truthy_int, add_int, sub_int, lt_int, le_int, gt_int, ge_int, is_non, isN_non, isNon_non, isNon_int, isNon_str, fiL_lst, fiL_tup, fiL_str, decide_true, decide_false, decide_eq_true_eq, lineW_eq, mkL_f, mkL_t, Nat.reduceLeDiff, ix_tup3_0, ix_tup3_1, ix_tup3_2, ix_tup2_0, ix_tup2_1, sl_tup3_1, r_forG0, r_forGs, nextF_nx, nextF_ct, nextF_bk, nextF_rt, nW_none, nW_some, Option.isNone_none, Option.isNone_some, decide_eq_false h2, wW_some, int_dgs h2 (show z.length ≤ 600 by omega)]
          by_cases h3 : n ≤ vl z
          · simp only [r_run, List.map_cons, List.map_nil, List.length_cons, List.length_nil, List.replicate, List.cons_append, List.nil_append, List.append_nil, List.set_cons_zero, List.set_cons_succ, List.set_nil, Nat.sub_self, Nat.zero_add, Nat.reduceAdd, Nat.reduceSub, Nat.reduceEqDiff, Nat.reduceLeDiff, Res.bind_ok, ofO_some, T_ok, T_bind, if_true, if_false, Bool.false_eq_true, Bool.not_true, Bool.not_false, r_eK, r_eV0, r_eVs, r_e1, r_e2, r_e3, r_eL0, r_eLs, r_eF, r_eAnd, r_eOr, r_eNot, r_eIf, r_eTree, r_eLst, r_eTup, r_eDic, r_tN, r_tL0, r_tLs, r_tT, r_sNil, r_sPass, r_sE, r_sAsg, r_sRet, r_sRetN, r_sBrk, r_sCnt, r_sIf, r_sSet, r_sCons, r_sFor, r_eCall, r_l1, r_l2, r_l3, r_eM, r_eComp, r_eChain, andThen_nx, andThen_rt, andThen_bk, andThen_ct, hb_nx, hb_rt, fin_raw, fin_int, fin_bl, fin_str, fin_non, truthy_bl, truthy_non, truthy_int, add_int, sub_int, lt_int, le_int, gt_int, ge_int, is_non, isN_non, isNon_non, isNon_int, isNon_str, fiL_lst, fiL_tup, fiL_str, decide_true, decide_false, decide_eq_true_eq, lineW_eq, mkL_f, mkL_t, Nat.reduceLeDiff, ix_tup3_0, ix_tup3_1, ix_tup3_2, ix_tup2_0, ix_tup2_1, sl_tup3_1, r_forG0, r_forGs, nextF_nx, nextF_ct, nextF_bk, nextF_rt, nW_none, nW_some, Option.isNone_none, Option.isNone_some, eq_true (show (n : Int) ≤ (vl z : Int) by omega), isNon_wW]
            have yes : hit z b n m → plcS z s 0 = some (t + vl z - n) := fun hh => by
              rw [if_pos hh] at hnt
              exact hnt.symm
            have fini : hit z b n m → (∃ i_1 ρ, plcS z s 0 = some i_1 ∧ (Fl.rt (W.int ((t : Int) + (vl z : Int) - (n : Int))), ([some (.str (mkS l)), some (.str (mkS z)), some (wW w), some (.int (t : Nat)), some (.str (mkS (stm z))), some (.str (mkS (dgs z))), some (.str (mkS b)), some (.int (n : Int)), some (wW m)], h')) = (.rt (.int (i_1 : Nat)), ρ, h')) := fun hh =>
              ⟨_, _, yes hh, by rw [show (t : Int) + (vl z : Int) - (n : Int) = ((t + vl z - n : Nat) : Int) by omega]⟩
            cases m with
            | none =>
              simp only [r_run, List.map_cons, List.map_nil, List.length_cons, List.length_nil, List.replicate, List.cons_append, List.nil_append, List.append_nil, List.set_cons_zero, List.set_cons_succ, List.set_nil, Nat.sub_self, Nat.zero_add, Nat.reduceAdd, Nat.reduceSub, Nat.reduceEqDiff, Nat.reduceLeDiff, Res.bind_ok, ofO_some, T_ok, T_bind, if_true, if_false, Bool.false_eq_true, Bool.not_true, Bool.not_false, r_eK, r_eV0, r_eVs, r_e1, r_e2, r_e3, r_eL0, r_eLs, r_eF, r_eAnd, r_eOr, r_eNot, r_eIf, r_eTree, r_eLst, r_eTup, r_eDic, r_tN, r_tL0, r_tLs, r_tT, r_sNil, r_sPass, r_sE, r_sAsg, r_sRet, r_sRetN, r_sBrk, r_sCnt, r_sIf, r_sSet, r_sCons, r_sFor, r_eCall, r_l1, r_l2, r_l3, r_eM, r_eComp, r_eChain, andThen_nx, andThen_rt, andThen_bk, andThen_ct, hb_nx, hb_rt, fin_raw, fin_int, fin_bl, fin_str, fin_non, truthy_bl, truthy_non, truthy_int, add_int, sub_int, lt_int, le_int, gt_int, ge_int, is_non, isN_non, isNon_non, isNon_int, isNon_str, fiL_lst, fiL_tup, fiL_str, decide_true, decide_false, decide_eq_true_eq, lineW_eq, mkL_f, mkL_t, Nat.reduceLeDiff, ix_tup3_0, ix_tup3_1, ix_tup3_2, ix_tup2_0, ix_tup2_1, sl_tup3_1, r_forG0, r_forGs, nextF_nx, nextF_ct, nextF_bk, nextF_rt, nW_none, nW_some, Option.isNone_none, Option.isNone_some, wW_some, int_dgs h2 (show z.length ≤ 600 by omega)]
              exact .inl (fini ⟨h1, h2, h3, fun _ e => nomatch e⟩)
            | some m =>
              simp only [r_run, List.map_cons, List.map_nil, List.length_cons, List.length_nil, List.replicate, List.cons_append, List.nil_append, List.append_nil, List.set_cons_zero, List.set_cons_succ, List.set_nil, Nat.sub_self, Nat.zero_add, Nat.reduceAdd, Nat.reduceSub, Nat.reduceEqDiff, Nat.reduceLeDiff, Res.bind_ok, ofO_some, T_ok, T_bind, if_true, if_false, Bool.false_eq_true, Bool.not_true, Bool.not_false, r_eK, r_eV0, r_eVs, r_e1, r_e2, r_e3, r_eL0, r_eLs, r_eF, r_eAnd, r_eOr, r_eNot, r_eIf, r_eTree, r_eLst, r_eTup, r_eDic, r_tN, r_tL0, r_tLs, r_tT, r_sNil, r_sPass, r_sE, r_sAsg, r_sRet, r_sRetN, r_sBrk, r_sCnt, r_sIf, r_sSet, r_sCons, r_sFor, r_eCall, r_l1, r_l2, r_l3, r_eM, r_eComp, r_eChain, andThen_nx, andThen_rt, andThen_bk, andThen_ct, hb_nx, hb_rt, fin_raw, fin_int, fin_bl, fin_str, fin_non, truthy_bl, truthy_non, truthy_int, add_int, sub_int, lt_int, le_int, gt_int, ge_int, is_non, isN_non, isNon_non, isNon_int, isNon_str, fiL_lst, fiL_tup, fiL_str, decide_true, decide_false, decide_eq_true_eq, lineW_eq, mkL_f, mkL_t, Nat.reduceLeDiff, ix_tup3_0, ix_tup3_1, ix_tup3_2, ix_tup2_0, ix_tup2_1, sl_tup3_1, r_forG0, r_forGs, nextF_nx, nextF_ct, nextF_bk, nextF_rt, nW_none, nW_some, Option.isNone_none, Option.isNone_some, wW_some, int_dgs h2 (show z.length ≤ 600 by omega)]
              by_cases h4 : vl z < n + m
              · rw [if_pos (show (vl z : Int) < (n : Int) + (m : Int) by omega)]
                simp only [r_run, List.map_cons, List.map_nil, List.length_cons, List.length_nil, List.replicate, List.cons_append, List.nil_append, List.append_nil, List.set_cons_zero, List.set_cons_succ, List.set_nil, Nat.sub_self, Nat.zero_add, Nat.reduceAdd, Nat.reduceSub, Nat.reduceEqDiff, Nat.reduceLeDiff, Res.bind_ok, ofO_some, T_ok, T_bind, if_true, if_false, Bool.false_eq_true, Bool.not_true, Bool.not_false, r_eK, r_eV0, r_eVs, r_e1, r_e2, r_e3, r_eL0, r_eLs, r_eF, r_eAnd, r_eOr, r_eNot, r_eIf, r_eTree, r_eLst, r_eTup, r_eDic, r_tN, r_tL0, r_tLs, r_tT, r_sNil, r_sPass, r_sE, r_sAsg, r_sRet, r_sRetN, r_sBrk, r_sCnt, r_sIf, r_sSet, r_sCons, r_sFor, r_eCall, r_l1, r_l2, r_l3, r_eM, r_eComp, r_eChain, andThen_nx, andThen_rt, andThen_bk, andThen_ct, hb_nx, hb_rt, fin_raw, fin_int, fin_bl, fin_str, fin_non, truthy_bl, truthy_non, truthy_int, add_int, sub_int, lt_int, le_int, gt_int, ge_int, is_non, isN_non, isNon_non, isNon_int, isNon_str, fiL_lst, fiL_tup, fiL_str, decide_true, decide_false, decide_eq_true_eq, lineW_eq, mkL_f, mkL_t, Nat.reduceLeDiff, ix_tup3_0, ix_tup3_1, ix_tup3_2, ix_tup2_0, ix_tup2_1, sl_tup3_1, r_forG0, r_forGs, nextF_nx, nextF_ct, nextF_bk, nextF_rt, nW_none, nW_some, Option.isNone_none, Option.isNone_some, wW_some, int_dgs h2 (show z.length ≤ 600 by omega)]
                exact .inl (fini ⟨h1, h2, h3, fun k e => by cases e; exact h4⟩)
              · rw [if_neg (show ¬ (vl z : Int) < (n : Int) + (m : Int) by omega)]
                simp only [r_run, List.map_cons, List.map_nil, List.length_cons, List.length_nil, List.replicate, List.cons_append, List.nil_append, List.append_nil, List.set_cons_zero, List.set_cons_succ, List.set_nil, Nat.sub_self, Nat.zero_add, Nat.reduceAdd, Nat.reduceSub, Nat.reduceEqDiff, Nat.reduceLeDiff, Res.bind_ok, ofO_some, T_ok, T_bind, if_true, if_false, Bool.false_eq_true, Bool.not_true, Bool.not_false, r_eK, r_eV0, r_eVs, r_e1, r_e2, r_e3, r_eL0, r_eLs, r_eF, r_eAnd, r_eOr, r_eNot, r_eIf, r_eTree, r_eLst, r_eTup, r_eDic, r_tN, r_tL0, r_tLs, r_tT, r_sNil, r_sPass, r_sE, r_sAsg, r_sRet, r_sRetN, r_sBrk, r_sCnt, r_sIf, r_sSet, r_sCons, r_sFor, r_eCall, r_l1, r_l2, r_l3, r_eM, r_eComp, r_eChain, andThen_nx, andThen_rt, andThen_bk, andThen_ct, hb_nx, hb_rt, fin_raw, fin_int, fin_bl, fin_str, fin_non, truthy_bl, truthy_non, truthy_int, add_int, sub_int, lt_int, le_int, gt_int, ge_int, is_non, isN_non, isNon_non, isNon_int, isNon_str, fiL_lst, fiL_tup, fiL_str, decide_true, decide_false, decide_eq_true_eq, lineW_eq, mkL_f, mkL_t, Nat.reduceLeDiff, ix_tup3_0, ix_tup3_1, ix_tup3_2, ix_tup2_0, ix_tup2_1, sl_tup3_1, r_forG0, r_forGs, nextF_nx, nextF_ct, nextF_bk, nextF_rt, nW_none, nW_some, Option.isNone_none, Option.isNone_some, wW_some, isNon_int]
                exact ⟨trivial, t + m, _, _, _, no fun hh => h4 (hh.2.2.2 m rfl), rfl⟩
          · simp only [r_run, List.map_cons, List.map_nil, List.length_cons, List.length_nil, List.replicate, List.cons_append, List.nil_append, List.append_nil, List.set_cons_zero, List.set_cons_succ, List.set_nil, Nat.sub_self, Nat.zero_add, Nat.reduceAdd, Nat.reduceSub, Nat.reduceEqDiff, Nat.reduceLeDiff, Res.bind_ok, ofO_some, T_ok, T_bind, if_true, if_false, Bool.false_eq_true, Bool.not_true, Bool.not_false, r_eK, r_eV0, r_eVs, r_e1, r_e2, r_e3, r_eL0, r_eLs, r_eF, r_eAnd, r_eOr, r_eNot, r_eIf, r_eTree, r_eLst, r_eTup, r_eDic, r_tN, r_tL0, r_tLs, r_tT, r_sNil, r_sPass, r_sE, r_sAsg, r_sRet, r_sRetN, r_sBrk, r_sCnt, r_sIf, r_sSet, r_sCons, r_sFor, r_eCall, r_l1, r_l2, r_l3, r_eM, r_eComp, r_eChain, andThen_nx, andThen_rt, andThen_bk, andThen_ct, hb_nx, hb_rt, fin_raw, fin_int, fin_bl, fin_str, fin_non, truthy_bl, truthy_non, truthy_int, add_int, sub_int, lt_int, le_int, gt_int, ge_int, is_non, isN_non, isNon_non, isNon_int, isNon_str, fiL_lst, fiL_tup, fiL_str, decide_true, decide_false, decide_eq_true_eq, lineW_eq, mkL_f, mkL_t, Nat.reduceLeDiff, ix_tup3_0, ix_tup3_1, ix_tup3_2, ix_tup2_0, ix_tup2_1, sl_tup3_1, r_forG0, r_forGs, nextF_nx, nextF_ct, nextF_bk, nextF_rt, nW_none, nW_some, Option.isNone_none, Option.isNone_some, eq_false (show ¬ (n : Int) ≤ (vl z : Int) by omega), ite_m]
            exact ⟨trivial, t + m.getD 0, _, _, _, no fun hh => h3 hh.2.2.1, rfl⟩
      · rw [if_neg h1]
        simp only [r_run, List.map_cons, List.map_nil, List.length_cons, List.length_nil, List.replicate, List.cons_append, List.nil_append, List.append_nil, List.set_cons_zero, List.set_cons_succ, List.set_nil, Nat.sub_self, Nat.zero_add, Nat.reduceAdd, Nat.reduceSub, Nat.reduceEqDiff, Nat.reduceLeDiff, Res.bind_ok, ofO_some, T_ok, T_bind, if_true, if_false, Bool.false_eq_true, Bool.not_true, Bool.not_false, r_eK, r_eV0, r_eVs, r_e1, r_e2, r_e3, r_eL0, r_eLs, r_eF, r_eAnd, r_eOr, r_eNot, r_eIf, r_eTree, r_eLst, r_eTup, r_eDic, r_tN, r_tL0, r_tLs, r_tT, r_sNil, r_sPass, r_sE, r_sAsg, r_sRet, r_sRetN, r_sBrk, r_sCnt, r_sIf, r_sSet, r_sCons, r_sFor, r_eCall, r_l1, r_l2, r_l3, r_eM, r_eComp, r_eChain, andThen_nx, andThen_rt, andThen_bk, andThen_ct, hb_nx, hb_rt, fin_raw, fin_int, fin_bl, fin_str, fin_non, truthy_bl, truthy_non, truthy_int, add_int, sub_int, lt_int, le_int, gt_int, ge_int, is_non, isN_non, isNon_non, isNon_int, isNon_str, fiL_lst, fiL_tup, fiL_str, decide_true, decide_false, decide_eq_true_eq, lineW_eq, mkL_f, mkL_t, Nat.reduceLeDiff, ix_tup3_0, ix_tup3_1, ix_tup3_2, ix_tup2_0, ix_tup2_1, sl_tup3_1, r_forG0, r_forGs, nextF_nx, nextF_ct, nextF_bk, nextF_rt, nW_none, nW_some, Option.isNone_none, Option.isNone_some, decide_eq_false h1, ite_m]
        exact ⟨trivial, t + m.getD 0, _, _, _, no fun hh => h1 hh.1, rfl⟩
  · rintro ρ h' ⟨rfl, t, x3, x4, x5, hnt, rfl⟩
    rw [List.drop_length] at hnt
    exact .inr ⟨hnt.symm, _, rfl⟩
  · rintro _ (⟨i, ρ, hi, rfl⟩ | ⟨hnt, ρ, rfl⟩)
    · simp only [r_run, List.map_cons, List.map_nil, List.length_cons, List.length_nil, List.replicate, List.cons_append, List.nil_append, List.append_nil, List.set_cons_zero, List.set_cons_succ, List.set_nil, Nat.sub_self, Nat.zero_add, Nat.reduceAdd, Nat.reduceSub, Nat.reduceEqDiff, Nat.reduceLeDiff, Res.bind_ok, ofO_some, T_ok, T_bind, if_true, if_false, Bool.false_eq_true, Bool.not_true, Bool.not_false, r_eK, r_eV0, r_eVs, r_e1, r_e2, r_e3, r_eL0, r_eLs, r_eF, r_eAnd, r_eOr, r_eNot, r_eIf, r_eTree, r_eLst, r_eTup, r_eDic, r_tN, r_tL0, r_tLs, r_tT, r_sNil, r_sPass, r_sE, r_sAsg, r_sRet, r_sRetN, r_sBrk, r_sCnt, r_sIf, r_sSet, r_sCons, r_sFor, r_eCall, r_l1, r_l2, r_l3, r_eM, r_eComp, r_eChain, andThen_nx, andThen_rt, andThen_bk, andThen_ct, hb_nx, hb_rt, fin_raw, fin_int, fin_bl, fin_str, fin_non, truthy_bl, truthy_non, truthy_int, add_int, sub_int, lt_int, le_int, gt_int, ge_int, is_non, isN_non, isNon_non, isNon_int, isNon_str, fiL_lst, fiL_tup, fiL_str, decide_true, decide_false, decide_eq_true_eq, lineW_eq, mkL_f, mkL_t, Nat.reduceLeDiff, ix_tup3_0, ix_tup3_1, ix_tup3_2, ix_tup2_0, ix_tup2_1, sl_tup3_1, r_forG0, r_forGs, nextF_nx, nextF_ct, nextF_bk, nextF_rt, nW_none, nW_some, Option.isNone_none, Option.isNone_some]
      rw [hi]
      rfl
    · simp only [r_run, List.map_cons, List.map_nil, List.length_cons, List.length_nil, List.replicate, List.cons_append, List.nil_append, List.append_nil, List.set_cons_zero, List.set_cons_succ, List.set_nil, Nat.sub_self, Nat.zero_add, Nat.reduceAdd, Nat.reduceSub, Nat.reduceEqDiff, Nat.reduceLeDiff, Res.bind_ok, ofO_some, T_ok, T_bind, if_true, if_false, Bool.false_eq_true, Bool.not_true, Bool.not_false, r_eK, r_eV0, r_eVs, r_e1, r_e2, r_e3, r_eL0, r_eLs, r_eF, r_eAnd, r_eOr, r_eNot, r_eIf, r_eTree, r_eLst, r_eTup, r_eDic, r_tN, r_tL0, r_tLs, r_tT, r_sNil, r_sPass, r_sE, r_sAsg, r_sRet, r_sRetN, r_sBrk, r_sCnt, r_sIf, r_sSet, r_sCons, r_sFor, r_eCall, r_l1, r_l2, r_l3, r_eM, r_eComp, r_eChain, andThen_nx, andThen_rt, andThen_bk, andThen_ct, hb_nx, hb_rt, fin_raw, fin_int, fin_bl, fin_str, fin_non, truthy_bl, truthy_non, truthy_int, add_int, sub_int, lt_int, le_int, gt_int, ge_int, is_non, isN_non, isNon_non, isNon_int, isNon_str, fiL_lst, fiL_tup, fiL_str, decide_true, decide_false, decide_eq_true_eq, lineW_eq, mkL_f, mkL_t, Nat.reduceLeDiff, ix_tup3_0, ix_tup3_1, ix_tup3_2, ix_tup2_0, ix_tup2_1, sl_tup3_1, r_forG0, r_forGs, nextF_nx, nextF_ct, nextF_bk, nextF_rt, nW_none, nW_some, Option.isNone_none, Option.isNone_some]
      rw [hnt]
      rfl
end Pr
end
end Ti


/-! Ti: where roads meet, distance, road. -/
namespace Ti
open PySem
section
variable {h : Hh} {l z x y : List Nat} {w : Option Nat} {n m k c : Nat} {S U : Stch}
theorem StOk.fine (hs : StOk 310 S) : strFine (mkS S.1) = true := fine_sg hs.1 (by have := hs.2; omega)
theorem max_nat : pMax (.int (n : Int)) (.int (m : Int)) h = .ok (.int ((max n m : Nat) : Int), h) := by
  show Res.ok (W.int (if (m : Int) > (n : Int) then (m : Int) else (n : Int)), h) = _
  by_cases q : (m : Int) > (n : Int)
  · rw [if_pos q, Nat.max_eq_right (by omega)]
  · rw [if_neg q, Nat.max_eq_left (by omega)]
namespace Pr
theorem common_run (hS : StOk 310 S) (hU : StOk 310 U) : f_common [sgW S, sgW U] h = .ok (wW (cmn S U), h) := by
  obtain ⟨b, f, m⟩ := S
  obtain ⟨b', f', m'⟩ := U
  have f1 : strFine (mkS b) = true := hS.fine
  have f2 : strFine (mkS b') = true := hU.fine
  unfold f_common b_common
  simp only [r_run, List.map_cons, List.map_nil, List.length_cons, List.length_nil, List.replicate, List.cons_append, List.nil_append, List.append_nil, List.set_cons_zero, List.set_cons_succ, List.set_nil, Nat.sub_self, Nat.zero_add, Nat.reduceAdd, Nat.reduceSub, Nat.reduceEqDiff, Nat.reduceLeDiff, Res.bind_ok, ofO_some, T_ok, T_bind, if_true, if_false, Bool.false_eq_true, Bool.not_true, Bool.not_false, r_eK, r_eV0, r_eVs, r_e1, r_e2, r_e3, r_eL0, r_eLs, r_eF, r_eAnd, r_eOr, r_eNot, r_eIf, r_eTree, r_eLst, r_eTup, r_eDic, r_tN, r_tL0, r_tLs, r_tT, r_sNil, r_sPass, r_sE, r_sAsg, r_sRet, r_sRetN, r_sBrk, r_sCnt, r_sIf, r_sSet, r_sCons, r_sFor, r_eCall, r_l1, r_l2, r_l3, r_eM, r_eComp, r_eChain, andThen_nx, andThen_rt, andThen_bk, andThen_ct, hb_nx, hb_rt, fin_raw, fin_int, fin_bl, fin_str, fin_non, truthy_bl, truthy_non, truthy_int, add_int, sub_int, lt_int, le_int, gt_int, ge_int, is_non, isN_non, isNon_non, isNon_int, isNon_str, fiL_lst, fiL_tup, fiL_str, decide_true, decide_false, decide_eq_true_eq, lineW_eq, mkL_f, mkL_t, Nat.reduceLeDiff, ix_tup3_0, ix_tup3_1, ix_tup3_2, ix_tup2_0, ix_tup2_1, sl_tup3_1, r_forG0, r_forGs, nextF_nx, nextF_ct, nextF_bk, nextF_rt, nW_none, nW_some, Option.isNone_none, Option.isNone_some, sgW_eq, ne_str f1 f2]
  by_cases hb : b = b'
  · simp only [r_run, List.map_cons, List.map_nil, List.length_cons, List.length_nil, List.replicate, List.cons_append, List.nil_append, List.append_nil, List.set_cons_zero, List.set_cons_succ, List.set_nil, Nat.sub_self, Nat.zero_add, Nat.reduceAdd, Nat.reduceSub, Nat.reduceEqDiff, Nat.reduceLeDiff, Res.bind_ok, ofO_some, T_ok, T_bind, if_true, if_false, Bool.false_eq_true, Bool.not_true, Bool.not_false, r_eK, r_eV0, r_eVs, r_e1, r_e2, r_e3, r_eL0, r_eLs, r_eF, r_eAnd, r_eOr, r_eNot, r_eIf, r_eTree, r_eLst, r_eTup, r_eDic, r_tN, r_tL0, r_tLs, r_tT, r_sNil, r_sPass, r_sE, r_sAsg, r_sRet, r_sRetN, r_sBrk, r_sCnt, r_sIf, r_sSet, r_sCons, r_sFor, r_eCall, r_l1, r_l2, r_l3, r_eM, r_eComp, r_eChain, andThen_nx, andThen_rt, andThen_bk, andThen_ct, hb_nx, hb_rt, fin_raw, fin_int, fin_bl, fin_str, fin_non, truthy_bl, truthy_non, truthy_int, add_int, sub_int, lt_int, le_int, gt_int, ge_int, is_non, isN_non, isNon_non, isNon_int, isNon_str, fiL_lst, fiL_tup, fiL_str, decide_true, decide_false, decide_eq_true_eq, lineW_eq, mkL_f, mkL_t, Nat.reduceLeDiff, ix_tup3_0, ix_tup3_1, ix_tup3_2, ix_tup2_0, ix_tup2_1, sl_tup3_1, r_forG0, r_forGs, nextF_nx, nextF_ct, nextF_bk, nextF_rt, nW_none, nW_some, Option.isNone_none, Option.isNone_some, decide_eq_true hb, isNon_wW]
    cases f with
    | none =>
      simp only [r_run, List.map_cons, List.map_nil, List.length_cons, List.length_nil, List.replicate, List.cons_append, List.nil_append, List.append_nil, List.set_cons_zero, List.set_cons_succ, List.set_nil, Nat.sub_self, Nat.zero_add, Nat.reduceAdd, Nat.reduceSub, Nat.reduceEqDiff, Nat.reduceLeDiff, Res.bind_ok, ofO_some, T_ok, T_bind, if_true, if_false, Bool.false_eq_true, Bool.not_true, Bool.not_false, r_eK, r_eV0, r_eVs, r_e1, r_e2, r_e3, r_eL0, r_eLs, r_eF, r_eAnd, r_eOr, r_eNot, r_eIf, r_eTree, r_eLst, r_eTup, r_eDic, r_tN, r_tL0, r_tLs, r_tT, r_sNil, r_sPass, r_sE, r_sAsg, r_sRet, r_sRetN, r_sBrk, r_sCnt, r_sIf, r_sSet, r_sCons, r_sFor, r_eCall, r_l1, r_l2, r_l3, r_eM, r_eComp, r_eChain, andThen_nx, andThen_rt, andThen_bk, andThen_ct, hb_nx, hb_rt, fin_raw, fin_int, fin_bl, fin_str, fin_non, truthy_bl, truthy_non, truthy_int, add_int, sub_int, lt_int, le_int, gt_int, ge_int, is_non, isN_non, isNon_non, isNon_int, isNon_str, fiL_lst, fiL_tup, fiL_str, decide_true, decide_false, decide_eq_true_eq, lineW_eq, mkL_f, mkL_t, Nat.reduceLeDiff, ix_tup3_0, ix_tup3_1, ix_tup3_2, ix_tup2_0, ix_tup2_1, sl_tup3_1, r_forG0, r_forGs, nextF_nx, nextF_ct, nextF_bk, nextF_rt, nW_none, nW_some, Option.isNone_none, Option.isNone_some, wW_none]
      rfl
    | some n =>
      cases f' with
      | none => simp only [r_run, List.map_cons, List.map_nil, List.length_cons, List.length_nil, List.replicate, List.cons_append, List.nil_append, List.append_nil, List.set_cons_zero, List.set_cons_succ, List.set_nil, Nat.sub_self, Nat.zero_add, Nat.reduceAdd, Nat.reduceSub, Nat.reduceEqDiff, Nat.reduceLeDiff, Res.bind_ok, ofO_some, T_ok, T_bind, if_true, if_false, Bool.false_eq_true, Bool.not_true, Bool.not_false, r_eK, r_eV0, r_eVs, r_e1, r_e2, r_e3, r_eL0, r_eLs, r_eF, r_eAnd, r_eOr, r_eNot, r_eIf, r_eTree, r_eLst, r_eTup, r_eDic, r_tN, r_tL0, r_tLs, r_tT, r_sNil, r_sPass, r_sE, r_sAsg, r_sRet, r_sRetN, r_sBrk, r_sCnt, r_sIf, r_sSet, r_sCons, r_sFor, r_eCall, r_l1, r_l2, r_l3, r_eM, r_eComp, r_eChain, andThen_nx, andThen_rt, andThen_bk, andThen_ct, hb_nx, hb_rt, fin_raw, fin_int, fin_bl, fin_str, fin_non, truthy_bl, truthy_non, truthy_int, add_int, sub_int, lt_int, le_int, gt_int, ge_int, is_non, isN_non, isNon_non, isNon_int, isNon_str, fiL_lst, fiL_tup, fiL_str, decide_true, decide_false, decide_eq_true_eq, lineW_eq, mkL_f, mkL_t, Nat.reduceLeDiff, ix_tup3_0, ix_tup3_1, ix_tup3_2, ix_tup2_0, ix_tup2_1, sl_tup3_1, r_forG0, r_forGs, nextF_nx, nextF_ct, nextF_bk, nextF_rt, nW_none, nW_some, Option.isNone_none, Option.isNone_some, wW_none]; rfl
      | some n' =>
        simp only [r_run, List.map_cons, List.map_nil, List.length_cons, List.length_nil, List.replicate, List.cons_append, List.nil_append, List.append_nil, List.set_cons_zero, List.set_cons_succ, List.set_nil, Nat.sub_self, Nat.zero_add, Nat.reduceAdd, Nat.reduceSub, Nat.reduceEqDiff, Nat.reduceLeDiff, Res.bind_ok, ofO_some, T_ok, T_bind, if_true, if_false, Bool.false_eq_true, Bool.not_true, Bool.not_false, r_eK, r_eV0, r_eVs, r_e1, r_e2, r_e3, r_eL0, r_eLs, r_eF, r_eAnd, r_eOr, r_eNot, r_eIf, r_eTree, r_eLst, r_eTup, r_eDic, r_tN, r_tL0, r_tLs, r_tT, r_sNil, r_sPass, r_sE, r_sAsg, r_sRet, r_sRetN, r_sBrk, r_sCnt, r_sIf, r_sSet, r_sCons, r_sFor, r_eCall, r_l1, r_l2, r_l3, r_eM, r_eComp, r_eChain, andThen_nx, andThen_rt, andThen_bk, andThen_ct, hb_nx, hb_rt, fin_raw, fin_int, fin_bl, fin_str, fin_non, truthy_bl, truthy_non, truthy_int, add_int, sub_int, lt_int, le_int, gt_int, ge_int, is_non, isN_non, isNon_non, isNon_int, isNon_str, fiL_lst, fiL_tup, fiL_str, decide_true, decide_false, decide_eq_true_eq, lineW_eq, mkL_f, mkL_t, Nat.reduceLeDiff, ix_tup3_0, ix_tup3_1, ix_tup3_2, ix_tup2_0, ix_tup2_1, sl_tup3_1, r_forG0, r_forGs, nextF_nx, nextF_ct, nextF_bk, nextF_rt, nW_none, nW_some, Option.isNone_none, Option.isNone_some, wW_some, max_nat, isNon_wW]
        have e : cmn (b, some n, m) (b', some n', m') = if b = b' ∧ (m.all fun k => decide (max n n' < n + k)) = true ∧ (m'.all fun k => decide (max n n' < n' + k)) = true then some (max n n') else none := rfl
        rw [e]
        generalize hM : max n n' = M
        have key : ∀ (m : Option Nat) (n : Nat), (if (!m.isNone) = true then (pAdd false (.int (n : Int)) (wW m) h).bind (fun q => pGe (.int (M : Int)) q.1 q.2) else Res.ok (.bl (!m.isNone), h)) = .ok (.bl (!(m.all fun k => decide (M < n + k))), h) := by
          intro m n
          cases m with
          | none => rfl
          | some k =>
            simp only [r_run, List.map_cons, List.map_nil, List.length_cons, List.length_nil, List.replicate, List.cons_append, List.nil_append, List.append_nil, List.set_cons_zero, List.set_cons_succ, List.set_nil, Nat.sub_self, Nat.zero_add, Nat.reduceAdd, Nat.reduceSub, Nat.reduceEqDiff, Nat.reduceLeDiff, Res.bind_ok, ofO_some, T_ok, T_bind, if_true, if_false, Bool.false_eq_true, Bool.not_true, Bool.not_false, r_eK, r_eV0, r_eVs, r_e1, r_e2, r_e3, r_eL0, r_eLs, r_eF, r_eAnd, r_eOr, r_eNot, r_eIf, r_eTree, r_eLst, r_eTup, r_eDic, r_tN, r_tL0, r_tLs, r_tT, r_sNil, r_sPass, r_sE, r_sAsg, r_sRet, r_sRetN, r_sBrk, r_sCnt, r_sIf, r_sSet, r_sCons, r_sFor, r_eCall, r_l1, r_l2, r_l3, r_eM, r_eComp, r_eChain, andThen_nx, andThen_rt, andThen_bk, andThen_ct, hb_nx, hb_rt, fin_raw, fin_int, fin_bl, fin_str, fin_non, truthy_bl, truthy_non, truthy_int, add_int, sub_int, lt_int, le_int, gt_int, ge_int, is_non, isN_non, isNon_non, isNon_int, isNon_str, fiL_lst, fiL_tup, fiL_str, decide_true, decide_false, decide_eq_true_eq, lineW_eq, mkL_f, mkL_t, Nat.reduceLeDiff, ix_tup3_0, ix_tup3_1, ix_tup3_2, ix_tup2_0, ix_tup2_1, sl_tup3_1, r_forG0, r_forGs, nextF_nx, nextF_ct, nextF_bk, nextF_rt, nW_none, nW_some, Option.isNone_none, Option.isNone_some, wW_some]
            rw [Option.all_some]
            by_cases q : M < n + k
            · rw [decide_eq_true q, decide_eq_false (by omega)]; rfl
            · rw [decide_eq_false q, decide_eq_true (by omega)]; rfl
        simp only [r_run, List.map_cons, List.map_nil, List.length_cons, List.length_nil, List.replicate, List.cons_append, List.nil_append, List.append_nil, List.set_cons_zero, List.set_cons_succ, List.set_nil, Nat.sub_self, Nat.zero_add, Nat.reduceAdd, Nat.reduceSub, Nat.reduceEqDiff, Nat.reduceLeDiff, Res.bind_ok, ofO_some, T_ok, T_bind, if_true, if_false, Bool.false_eq_true, Bool.not_true, Bool.not_false, r_eK, r_eV0, r_eVs, r_e1, r_e2, r_e3, r_eL0, r_eLs, r_eF, r_eAnd, r_eOr, r_eNot, r_eIf, r_eTree, r_eLst, r_eTup, r_eDic, r_tN, r_tL0, r_tLs, r_tT, r_sNil, r_sPass, r_sE, r_sAsg, r_sRet, r_sRetN, r_sBrk, r_sCnt, r_sIf, r_sSet, r_sCons, r_sFor, r_eCall, r_l1, r_l2, r_l3, r_eM, r_eComp, r_eChain, andThen_nx, andThen_rt, andThen_bk, andThen_ct, hb_nx, hb_rt, fin_raw, fin_int, fin_bl, fin_str, fin_non, truthy_bl, truthy_non, truthy_int, add_int, sub_int, lt_int, le_int, gt_int, ge_int, is_non, isN_non, isNon_non, isNon_int, isNon_str, fiL_lst, fiL_tup, fiL_str, decide_true, decide_false, decide_eq_true_eq, lineW_eq, mkL_f, mkL_t, Nat.reduceLeDiff, ix_tup3_0, ix_tup3_1, ix_tup3_2, ix_tup2_0, ix_tup2_1, sl_tup3_1, r_forG0, r_forGs, nextF_nx, nextF_ct, nextF_bk, nextF_rt, nW_none, nW_some, Option.isNone_none, Option.isNone_some, key m n]
        cases q1 : (m.all fun k => decide (M < n + k)) with
        | false => simp only [r_run, List.map_cons, List.map_nil, List.length_cons, List.length_nil, List.replicate, List.cons_append, List.nil_append, List.append_nil, List.set_cons_zero, List.set_cons_succ, List.set_nil, Nat.sub_self, Nat.zero_add, Nat.reduceAdd, Nat.reduceSub, Nat.reduceEqDiff, Nat.reduceLeDiff, Res.bind_ok, ofO_some, T_ok, T_bind, if_true, if_false, Bool.false_eq_true, Bool.not_true, Bool.not_false, r_eK, r_eV0, r_eVs, r_e1, r_e2, r_e3, r_eL0, r_eLs, r_eF, r_eAnd, r_eOr, r_eNot, r_eIf, r_eTree, r_eLst, r_eTup, r_eDic, r_tN, r_tL0, r_tLs, r_tT, r_sNil, r_sPass, r_sE, r_sAsg, r_sRet, r_sRetN, r_sBrk, r_sCnt, r_sIf, r_sSet, r_sCons, r_sFor, r_eCall, r_l1, r_l2, r_l3, r_eM, r_eComp, r_eChain, andThen_nx, andThen_rt, andThen_bk, andThen_ct, hb_nx, hb_rt, fin_raw, fin_int, fin_bl, fin_str, fin_non, truthy_bl, truthy_non, truthy_int, add_int, sub_int, lt_int, le_int, gt_int, ge_int, is_non, isN_non, isNon_non, isNon_int, isNon_str, fiL_lst, fiL_tup, fiL_str, decide_true, decide_false, decide_eq_true_eq, lineW_eq, mkL_f, mkL_t, Nat.reduceLeDiff, ix_tup3_0, ix_tup3_1, ix_tup3_2, ix_tup2_0, ix_tup2_1, sl_tup3_1, r_forG0, r_forGs, nextF_nx, nextF_ct, nextF_bk, nextF_rt, nW_none, nW_some, Option.isNone_none, Option.isNone_some]; simp [wW]
        | true =>
          simp only [r_run, List.map_cons, List.map_nil, List.length_cons, List.length_nil, List.replicate, List.cons_append, List.nil_append, List.append_nil, List.set_cons_zero, List.set_cons_succ, List.set_nil, Nat.sub_self, Nat.zero_add, Nat.reduceAdd, Nat.reduceSub, Nat.reduceEqDiff, Nat.reduceLeDiff, Res.bind_ok, ofO_some, T_ok, T_bind, if_true, if_false, Bool.false_eq_true, Bool.not_true, Bool.not_false, r_eK, r_eV0, r_eVs, r_e1, r_e2, r_e3, r_eL0, r_eLs, r_eF, r_eAnd, r_eOr, r_eNot, r_eIf, r_eTree, r_eLst, r_eTup, r_eDic, r_tN, r_tL0, r_tLs, r_tT, r_sNil, r_sPass, r_sE, r_sAsg, r_sRet, r_sRetN, r_sBrk, r_sCnt, r_sIf, r_sSet, r_sCons, r_sFor, r_eCall, r_l1, r_l2, r_l3, r_eM, r_eComp, r_eChain, andThen_nx, andThen_rt, andThen_bk, andThen_ct, hb_nx, hb_rt, fin_raw, fin_int, fin_bl, fin_str, fin_non, truthy_bl, truthy_non, truthy_int, add_int, sub_int, lt_int, le_int, gt_int, ge_int, is_non, isN_non, isNon_non, isNon_int, isNon_str, fiL_lst, fiL_tup, fiL_str, decide_true, decide_false, decide_eq_true_eq, lineW_eq, mkL_f, mkL_t, Nat.reduceLeDiff, ix_tup3_0, ix_tup3_1, ix_tup3_2, ix_tup2_0, ix_tup2_1, sl_tup3_1, r_forG0, r_forGs, nextF_nx, nextF_ct, nextF_bk, nextF_rt, nW_none, nW_some, Option.isNone_none, Option.isNone_some, isNon_wW, key m' n']
          cases q2 : (m'.all fun k => decide (M < n' + k)) with
          | false => simp only [r_run, List.map_cons, List.map_nil, List.length_cons, List.length_nil, List.replicate, List.cons_append, List.nil_append, List.append_nil, List.set_cons_zero, List.set_cons_succ, List.set_nil, Nat.sub_self, Nat.zero_add, Nat.reduceAdd, Nat.reduceSub, Nat.reduceEqDiff, Nat.reduceLeDiff, Res.bind_ok, ofO_some, T_ok, T_bind, if_true, if_false, Bool.false_eq_true, Bool.not_true, Bool.not_false, r_eK, r_eV0, r_eVs, r_e1, r_e2, r_e3, r_eL0, r_eLs, r_eF, r_eAnd, r_eOr, r_eNot, r_eIf, r_eTree, r_eLst, r_eTup, r_eDic, r_tN, r_tL0, r_tLs, r_tT, r_sNil, r_sPass, r_sE, r_sAsg, r_sRet, r_sRetN, r_sBrk, r_sCnt, r_sIf, r_sSet, r_sCons, r_sFor, r_eCall, r_l1, r_l2, r_l3, r_eM, r_eComp, r_eChain, andThen_nx, andThen_rt, andThen_bk, andThen_ct, hb_nx, hb_rt, fin_raw, fin_int, fin_bl, fin_str, fin_non, truthy_bl, truthy_non, truthy_int, add_int, sub_int, lt_int, le_int, gt_int, ge_int, is_non, isN_non, isNon_non, isNon_int, isNon_str, fiL_lst, fiL_tup, fiL_str, decide_true, decide_false, decide_eq_true_eq, lineW_eq, mkL_f, mkL_t, Nat.reduceLeDiff, ix_tup3_0, ix_tup3_1, ix_tup3_2, ix_tup2_0, ix_tup2_1, sl_tup3_1, r_forG0, r_forGs, nextF_nx, nextF_ct, nextF_bk, nextF_rt, nW_none, nW_some, Option.isNone_none, Option.isNone_some]; simp [wW]
          | true => simp only [r_run, List.map_cons, List.map_nil, List.length_cons, List.length_nil, List.replicate, List.cons_append, List.nil_append, List.append_nil, List.set_cons_zero, List.set_cons_succ, List.set_nil, Nat.sub_self, Nat.zero_add, Nat.reduceAdd, Nat.reduceSub, Nat.reduceEqDiff, Nat.reduceLeDiff, Res.bind_ok, ofO_some, T_ok, T_bind, if_true, if_false, Bool.false_eq_true, Bool.not_true, Bool.not_false, r_eK, r_eV0, r_eVs, r_e1, r_e2, r_e3, r_eL0, r_eLs, r_eF, r_eAnd, r_eOr, r_eNot, r_eIf, r_eTree, r_eLst, r_eTup, r_eDic, r_tN, r_tL0, r_tLs, r_tT, r_sNil, r_sPass, r_sE, r_sAsg, r_sRet, r_sRetN, r_sBrk, r_sCnt, r_sIf, r_sSet, r_sCons, r_sFor, r_eCall, r_l1, r_l2, r_l3, r_eM, r_eComp, r_eChain, andThen_nx, andThen_rt, andThen_bk, andThen_ct, hb_nx, hb_rt, fin_raw, fin_int, fin_bl, fin_str, fin_non, truthy_bl, truthy_non, truthy_int, add_int, sub_int, lt_int, le_int, gt_int, ge_int, is_non, isN_non, isNon_non, isNon_int, isNon_str, fiL_lst, fiL_tup, fiL_str, decide_true, decide_false, decide_eq_true_eq, lineW_eq, mkL_f, mkL_t, Nat.reduceLeDiff, ix_tup3_0, ix_tup3_1, ix_tup3_2, ix_tup2_0, ix_tup2_1, sl_tup3_1, r_forG0, r_forGs, nextF_nx, nextF_ct, nextF_bk, nextF_rt, nW_none, nW_some, Option.isNone_none, Option.isNone_some]; simp [hb, wW]
  · simp only [r_run, List.map_cons, List.map_nil, List.length_cons, List.length_nil, List.replicate, List.cons_append, List.nil_append, List.append_nil, List.set_cons_zero, List.set_cons_succ, List.set_nil, Nat.sub_self, Nat.zero_add, Nat.reduceAdd, Nat.reduceSub, Nat.reduceEqDiff, Nat.reduceLeDiff, Res.bind_ok, ofO_some, T_ok, T_bind, if_true, if_false, Bool.false_eq_true, Bool.not_true, Bool.not_false, r_eK, r_eV0, r_eVs, r_e1, r_e2, r_e3, r_eL0, r_eLs, r_eF, r_eAnd, r_eOr, r_eNot, r_eIf, r_eTree, r_eLst, r_eTup, r_eDic, r_tN, r_tL0, r_tLs, r_tT, r_sNil, r_sPass, r_sE, r_sAsg, r_sRet, r_sRetN, r_sBrk, r_sCnt, r_sIf, r_sSet, r_sCons, r_sFor, r_eCall, r_l1, r_l2, r_l3, r_eM, r_eComp, r_eChain, andThen_nx, andThen_rt, andThen_bk, andThen_ct, hb_nx, hb_rt, fin_raw, fin_int, fin_bl, fin_str, fin_non, truthy_bl, truthy_non, truthy_int, add_int, sub_int, lt_int, le_int, gt_int, ge_int, is_non, isN_non, isNon_non, isNon_int, isNon_str, fiL_lst, fiL_tup, fiL_str, decide_true, decide_false, decide_eq_true_eq, lineW_eq, mkL_f, mkL_t, Nat.reduceLeDiff, ix_tup3_0, ix_tup3_1, ix_tup3_2, ix_tup2_0, ix_tup2_1, sl_tup3_1, r_forG0, r_forGs, nextF_nx, nextF_ct, nextF_bk, nextF_rt, nW_none, nW_some, Option.isNone_none, Option.isNone_some, decide_eq_false hb]
    have : cmn (b, f, m) (b', f', m') = none := by
      unfold cmn
      cases f with
      | none => rfl
      | some n =>
        cases f' with
        | none => rfl
        | some n' => exact if_neg fun z => hb z.1
    rw [this]
    rfl
theorem first_common_run (hx : Nam w x) (hy : Nam w y) (hw : WdO w) : ∃ r, IsMeet w x y r ∧ f_first_common [.str (mkS x), .str (mkS y), wW w] h = .ok (nW r, h) := by
  obtain ⟨s, d, hsl, hso, e⟩ := stretches_run (h := h) hx hw
  obtain ⟨t, d', htl, hto, e'⟩ := stretches_run (h := h) hy hw
  refine ⟨_, d.meet d', ?_⟩
  have fx : strFine (mkS x) = true := fine_sg hx.sg (by have := hx.len; omega)
  have fy : strFine (mkS y) = true := fine_sg hy.sg (by have := hy.len; omega)
  apply T.eq
  unfold f_first_common b_first_common fstC
  simp only [r_run, List.map_cons, List.map_nil, List.length_cons, List.length_nil, List.replicate, List.cons_append, List.nil_append, List.append_nil, List.set_cons_zero, List.set_cons_succ, List.set_nil, Nat.sub_self, Nat.zero_add, Nat.reduceAdd, Nat.reduceSub, Nat.reduceEqDiff, Nat.reduceLeDiff, Res.bind_ok, ofO_some, T_ok, T_bind, if_true, if_false, Bool.false_eq_true, Bool.not_true, Bool.not_false, r_eK, r_eV0, r_eVs, r_e1, r_e2, r_e3, r_eL0, r_eLs, r_eF, r_eAnd, r_eOr, r_eNot, r_eIf, r_eTree, r_eLst, r_eTup, r_eDic, r_tN, r_tL0, r_tLs, r_tT, r_sNil, r_sPass, r_sE, r_sAsg, r_sRet, r_sRetN, r_sBrk, r_sCnt, r_sIf, r_sSet, r_sCons, r_sFor, r_eCall, r_l1, r_l2, r_l3, r_eM, r_eComp, r_eChain, andThen_nx, andThen_rt, andThen_bk, andThen_ct, hb_nx, hb_rt, fin_raw, fin_int, fin_bl, fin_str, fin_non, truthy_bl, truthy_non, truthy_int, add_int, sub_int, lt_int, le_int, gt_int, ge_int, is_non, isN_non, isNon_non, isNon_int, isNon_str, fiL_lst, fiL_tup, fiL_str, decide_true, decide_false, decide_eq_true_eq, lineW_eq, mkL_f, mkL_t, Nat.reduceLeDiff, ix_tup3_0, ix_tup3_1, ix_tup3_2, ix_tup2_0, ix_tup2_1, sl_tup3_1, r_forG0, r_forGs, nextF_nx, nextF_ct, nextF_bk, nextF_rt, nW_none, nW_some, Option.isNone_none, Option.isNone_some, eq_str fx fy]
  by_cases hxy : x = y
  · simp only [r_run, List.map_cons, List.map_nil, List.length_cons, List.length_nil, List.replicate, List.cons_append, List.nil_append, List.append_nil, List.set_cons_zero, List.set_cons_succ, List.set_nil, Nat.sub_self, Nat.zero_add, Nat.reduceAdd, Nat.reduceSub, Nat.reduceEqDiff, Nat.reduceLeDiff, Res.bind_ok, ofO_some, T_ok, T_bind, if_true, if_false, Bool.false_eq_true, Bool.not_true, Bool.not_false, r_eK, r_eV0, r_eVs, r_e1, r_e2, r_e3, r_eL0, r_eLs, r_eF, r_eAnd, r_eOr, r_eNot, r_eIf, r_eTree, r_eLst, r_eTup, r_eDic, r_tN, r_tL0, r_tLs, r_tT, r_sNil, r_sPass, r_sE, r_sAsg, r_sRet, r_sRetN, r_sBrk, r_sCnt, r_sIf, r_sSet, r_sCons, r_sFor, r_eCall, r_l1, r_l2, r_l3, r_eM, r_eComp, r_eChain, andThen_nx, andThen_rt, andThen_bk, andThen_ct, hb_nx, hb_rt, fin_raw, fin_int, fin_bl, fin_str, fin_non, truthy_bl, truthy_non, truthy_int, add_int, sub_int, lt_int, le_int, gt_int, ge_int, is_non, isN_non, isNon_non, isNon_int, isNon_str, fiL_lst, fiL_tup, fiL_str, decide_true, decide_false, decide_eq_true_eq, lineW_eq, mkL_f, mkL_t, Nat.reduceLeDiff, ix_tup3_0, ix_tup3_1, ix_tup3_2, ix_tup2_0, ix_tup2_1, sl_tup3_1, r_forG0, r_forGs, nextF_nx, nextF_ct, nextF_bk, nextF_rt, nW_none, nW_some, Option.isNone_none, Option.isNone_some, eq_true hxy]
  · simp only [r_run, List.map_cons, List.map_nil, List.length_cons, List.length_nil, List.replicate, List.cons_append, List.nil_append, List.append_nil, List.set_cons_zero, List.set_cons_succ, List.set_nil, Nat.sub_self, Nat.zero_add, Nat.reduceAdd, Nat.reduceSub, Nat.reduceEqDiff, Nat.reduceLeDiff, Res.bind_ok, ofO_some, T_ok, T_bind, if_true, if_false, Bool.false_eq_true, Bool.not_true, Bool.not_false, r_eK, r_eV0, r_eVs, r_e1, r_e2, r_e3, r_eL0, r_eLs, r_eF, r_eAnd, r_eOr, r_eNot, r_eIf, r_eTree, r_eLst, r_eTup, r_eDic, r_tN, r_tL0, r_tLs, r_tT, r_sNil, r_sPass, r_sE, r_sAsg, r_sRet, r_sRetN, r_sBrk, r_sCnt, r_sIf, r_sSet, r_sCons, r_sFor, r_eCall, r_l1, r_l2, r_l3, r_eM, r_eComp, r_eChain, andThen_nx, andThen_rt, andThen_bk, andThen_ct, hb_nx, hb_rt, fin_raw, fin_int, fin_bl, fin_str, fin_non, truthy_bl, truthy_non, truthy_int, add_int, sub_int, lt_int, le_int, gt_int, ge_int, is_non, isN_non, isNon_non, isNon_int, isNon_str, fiL_lst, fiL_tup, fiL_str, decide_true, decide_false, decide_eq_true_eq, lineW_eq, mkL_f, mkL_t, Nat.reduceLeDiff, ix_tup3_0, ix_tup3_1, ix_tup3_2, ix_tup2_0, ix_tup2_1, sl_tup3_1, r_forG0, r_forGs, nextF_nx, nextF_ct, nextF_bk, nextF_rt, nW_none, nW_some, Option.isNone_none, Option.isNone_some, eq_false hxy, e]
    refine T.mono (T_for (Q := fun q => (∃ z ρ, fcS s t = some z ∧ q = (.rt (.str (mkS z)), ρ, h)) ∨ (fcS s t = none ∧ ∃ ρ, q = (.nx, ρ, h)))
      (fun i ρ h' => h' = h ∧ ∃ (x3 x4 x5 : Option W), fcS (s.drop i) t = fcS s t ∧ ρ = [some (.str (mkS x)), some (.str (mkS y)), some (wW w), x3, x4, x5])
      ⟨rfl, none, none, none, rfl, rfl⟩ ?_ ?_) ?_
    · rintro i S ρ h' hx ⟨rfl, x3, x4, x5, hnt, rfl⟩
      have hS := hso _ (mem_get hx)
      rw [drop_get hx] at hnt
      have hnt : (match rowS S t with | some f => some (S.1 ++ numL f) | none => fcS (s.drop (i + 1)) t) = fcS s t := hnt
      simp only [r_run, List.map_cons, List.map_nil, List.length_cons, List.length_nil, List.replicate, List.cons_append, List.nil_append, List.append_nil, List.set_cons_zero, List.set_cons_succ, List.set_nil, Nat.sub_self, Nat.zero_add, Nat.reduceAdd, Nat.reduceSub, Nat.reduceEqDiff, Nat.reduceLeDiff, Res.bind_ok, ofO_some, T_ok, T_bind, if_true, if_false, Bool.false_eq_true, Bool.not_true, Bool.not_false, r_eK, r_eV0, r_eVs, r_e1, r_e2, r_e3, r_eL0, r_eLs, r_eF, r_eAnd, r_eOr, r_eNot, r_eIf, r_eTree, r_eLst, r_eTup, r_eDic, r_tN, r_tL0, r_tLs, r_tT, r_sNil, r_sPass, r_sE, r_sAsg, r_sRet, r_sRetN, r_sBrk, r_sCnt, r_sIf, r_sSet, r_sCons, r_sFor, r_eCall, r_l1, r_l2, r_l3, r_eM, r_eComp, r_eChain, andThen_nx, andThen_rt, andThen_bk, andThen_ct, hb_nx, hb_rt, fin_raw, fin_int, fin_bl, fin_str, fin_non, truthy_bl, truthy_non, truthy_int, add_int, sub_int, lt_int, le_int, gt_int, ge_int, is_non, isN_non, isNon_non, isNon_int, isNon_str, fiL_lst, fiL_tup, fiL_str, decide_true, decide_false, decide_eq_true_eq, lineW_eq, mkL_f, mkL_t, Nat.reduceLeDiff, ix_tup3_0, ix_tup3_1, ix_tup3_2, ix_tup2_0, ix_tup2_1, sl_tup3_1, r_forG0, r_forGs, nextF_nx, nextF_ct, nextF_bk, nextF_rt, nW_none, nW_some, Option.isNone_none, Option.isNone_some, e']
      refine T.mono (T_for (Q := fun q => (∃ f ρ, rowS S t = some f ∧ q = (.rt (.str (mkS (S.1 ++ numL f))), ρ, h')) ∨ (rowS S t = none ∧ ∃ x4 x5, q = (.nx, [some (.str (mkS x)), some (.str (mkS y)), some (wW w), some (sgW S), x4, x5], h')))
        (fun i ρ h2 => h2 = h' ∧ ∃ (x4 x5 : Option W), rowS S (t.drop i) = rowS S t ∧ ρ = [some (.str (mkS x)), some (.str (mkS y)), some (wW w), some (sgW S), x4, x5])
        ⟨rfl, x4, x5, rfl, rfl⟩ ?_ ?_) ?_
      · rintro j U ρ h2 hU ⟨rfl, x4, x5, hr, rfl⟩
        have hUo := hto _ (mem_get hU)
        rw [drop_get hU, row_cons] at hr
        simp only [r_run, List.map_cons, List.map_nil, List.length_cons, List.length_nil, List.replicate, List.cons_append, List.nil_append, List.append_nil, List.set_cons_zero, List.set_cons_succ, List.set_nil, Nat.sub_self, Nat.zero_add, Nat.reduceAdd, Nat.reduceSub, Nat.reduceEqDiff, Nat.reduceLeDiff, Res.bind_ok, ofO_some, T_ok, T_bind, if_true, if_false, Bool.false_eq_true, Bool.not_true, Bool.not_false, r_eK, r_eV0, r_eVs, r_e1, r_e2, r_e3, r_eL0, r_eLs, r_eF, r_eAnd, r_eOr, r_eNot, r_eIf, r_eTree, r_eLst, r_eTup, r_eDic, r_tN, r_tL0, r_tLs, r_tT, r_sNil, r_sPass, r_sE, r_sAsg, r_sRet, r_sRetN, r_sBrk, r_sCnt, r_sIf, r_sSet, r_sCons, r_sFor, r_eCall, r_l1, r_l2, r_l3, r_eM, r_eComp, r_eChain, andThen_nx, andThen_rt, andThen_bk, andThen_ct, hb_nx, hb_rt, fin_raw, fin_int, fin_bl, fin_str, fin_non, truthy_bl, truthy_non, truthy_int, add_int, sub_int, lt_int, le_int, gt_int, ge_int, is_non, isN_non, isNon_non, isNon_int, isNon_str, fiL_lst, fiL_tup, fiL_str, decide_true, decide_false, decide_eq_true_eq, lineW_eq, mkL_f, mkL_t, Nat.reduceLeDiff, ix_tup3_0, ix_tup3_1, ix_tup3_2, ix_tup2_0, ix_tup2_1, sl_tup3_1, r_forG0, r_forGs, nextF_nx, nextF_ct, nextF_bk, nextF_rt, nW_none, nW_some, Option.isNone_none, Option.isNone_some, common_run hS hUo, isNon_wW]
        cases hc : cmn S U with
        | none =>
          rw [hc] at hr
          simp only [r_run, List.map_cons, List.map_nil, List.length_cons, List.length_nil, List.replicate, List.cons_append, List.nil_append, List.append_nil, List.set_cons_zero, List.set_cons_succ, List.set_nil, Nat.sub_self, Nat.zero_add, Nat.reduceAdd, Nat.reduceSub, Nat.reduceEqDiff, Nat.reduceLeDiff, Res.bind_ok, ofO_some, T_ok, T_bind, if_true, if_false, Bool.false_eq_true, Bool.not_true, Bool.not_false, r_eK, r_eV0, r_eVs, r_e1, r_e2, r_e3, r_eL0, r_eLs, r_eF, r_eAnd, r_eOr, r_eNot, r_eIf, r_eTree, r_eLst, r_eTup, r_eDic, r_tN, r_tL0, r_tLs, r_tT, r_sNil, r_sPass, r_sE, r_sAsg, r_sRet, r_sRetN, r_sBrk, r_sCnt, r_sIf, r_sSet, r_sCons, r_sFor, r_eCall, r_l1, r_l2, r_l3, r_eM, r_eComp, r_eChain, andThen_nx, andThen_rt, andThen_bk, andThen_ct, hb_nx, hb_rt, fin_raw, fin_int, fin_bl, fin_str, fin_non, truthy_bl, truthy_non, truthy_int, add_int, sub_int, lt_int, le_int, gt_int, ge_int, is_non, isN_non, isNon_non, isNon_int, isNon_str, fiL_lst, fiL_tup, fiL_str, decide_true, decide_false, decide_eq_true_eq, lineW_eq, mkL_f, mkL_t, Nat.reduceLeDiff, ix_tup3_0, ix_tup3_1, ix_tup3_2, ix_tup2_0, ix_tup2_1, sl_tup3_1, r_forG0, r_forGs, nextF_nx, nextF_ct, nextF_bk, nextF_rt, nW_none, nW_some, Option.isNone_none, Option.isNone_some]
          exact ⟨trivial, _, _, hr, rfl⟩
        | some f =>
          rw [hc] at hr
          have hr : some f = rowS S t := hr
          obtain ⟨b, g, m⟩ := S
          have hf : f < 10 ^ 310 := by
            obtain ⟨b', g', m'⟩ := U
            unfold cmn at hc
            cases g with
            | none => cases hc
            | some n =>
              cases g' with
              | none => cases hc
              | some n' =>
                simp only [] at hc
                split at hc
                · cases hc
                  have h1 := hS.num n rfl
                  have h2 := hUo.num n' rfl
                  omega
                · cases hc
          have hl := numL_len (n := f) (k := 310) (by decide) hf
          simp only [r_run, List.map_cons, List.map_nil, List.length_cons, List.length_nil, List.replicate, List.cons_append, List.nil_append, List.append_nil, List.set_cons_zero, List.set_cons_succ, List.set_nil, Nat.sub_self, Nat.zero_add, Nat.reduceAdd, Nat.reduceSub, Nat.reduceEqDiff, Nat.reduceLeDiff, Res.bind_ok, ofO_some, T_ok, T_bind, if_true, if_false, Bool.false_eq_true, Bool.not_true, Bool.not_false, r_eK, r_eV0, r_eVs, r_e1, r_e2, r_e3, r_eL0, r_eLs, r_eF, r_eAnd, r_eOr, r_eNot, r_eIf, r_eTree, r_eLst, r_eTup, r_eDic, r_tN, r_tL0, r_tLs, r_tT, r_sNil, r_sPass, r_sE, r_sAsg, r_sRet, r_sRetN, r_sBrk, r_sCnt, r_sIf, r_sSet, r_sCons, r_sFor, r_eCall, r_l1, r_l2, r_l3, r_eM, r_eComp, r_eChain, andThen_nx, andThen_rt, andThen_bk, andThen_ct, hb_nx, hb_rt, fin_raw, fin_int, fin_bl, fin_str, fin_non, truthy_bl, truthy_non, truthy_int, add_int, sub_int, lt_int, le_int, gt_int, ge_int, is_non, isN_non, isNon_non, isNon_int, isNon_str, fiL_lst, fiL_tup, fiL_str, decide_true, decide_false, decide_eq_true_eq, lineW_eq, mkL_f, mkL_t, Nat.reduceLeDiff, ix_tup3_0, ix_tup3_1, ix_tup3_2, ix_tup2_0, ix_tup2_1, sl_tup3_1, r_forG0, r_forGs, nextF_nx, nextF_ct, nextF_bk, nextF_rt, nW_none, nW_some, Option.isNone_none, Option.isNone_some, wW_some, sgW_eq, str_int hf (show 310 ≤ 470 by decide), add_str (h := h2) (k := false) (a := b) (b := numL f) (show b.length + (numL f).length ≤ 10000000 by have h1 : b.length ≤ 310 := hS.len; omega)]
          exact .inl ⟨f, _, hr.symm, rfl⟩
      · rintro ρ h2 ⟨rfl, x4, x5, hr, rfl⟩
        rw [List.drop_length] at hr
        exact .inr ⟨hr.symm, _, _, rfl⟩
      · rintro _ (⟨f, ρ, hr, rfl⟩ | ⟨hr, x4, x5, rfl⟩)
        · rw [hr] at hnt
          exact .inl ⟨_, _, hnt.symm, rfl⟩
        · rw [hr] at hnt
          exact ⟨rfl, _, _, _, hnt, rfl⟩
    · rintro ρ h' ⟨rfl, x3, x4, x5, hnt, rfl⟩
      rw [List.drop_length] at hnt
      exact .inr ⟨hnt.symm, _, rfl⟩
    · rintro _ (⟨z, ρ, hz, rfl⟩ | ⟨hz, ρ, rfl⟩)
      · simp only [r_run, List.map_cons, List.map_nil, List.length_cons, List.length_nil, List.replicate, List.cons_append, List.nil_append, List.append_nil, List.set_cons_zero, List.set_cons_succ, List.set_nil, Nat.sub_self, Nat.zero_add, Nat.reduceAdd, Nat.reduceSub, Nat.reduceEqDiff, Nat.reduceLeDiff, Res.bind_ok, ofO_some, T_ok, T_bind, if_true, if_false, Bool.false_eq_true, Bool.not_true, Bool.not_false, r_eK, r_eV0, r_eVs, r_e1, r_e2, r_e3, r_eL0, r_eLs, r_eF, r_eAnd, r_eOr, r_eNot, r_eIf, r_eTree, r_eLst, r_eTup, r_eDic, r_tN, r_tL0, r_tLs, r_tT, r_sNil, r_sPass, r_sE, r_sAsg, r_sRet, r_sRetN, r_sBrk, r_sCnt, r_sIf, r_sSet, r_sCons, r_sFor, r_eCall, r_l1, r_l2, r_l3, r_eM, r_eComp, r_eChain, andThen_nx, andThen_rt, andThen_bk, andThen_ct, hb_nx, hb_rt, fin_raw, fin_int, fin_bl, fin_str, fin_non, truthy_bl, truthy_non, truthy_int, add_int, sub_int, lt_int, le_int, gt_int, ge_int, is_non, isN_non, isNon_non, isNon_int, isNon_str, fiL_lst, fiL_tup, fiL_str, decide_true, decide_false, decide_eq_true_eq, lineW_eq, mkL_f, mkL_t, Nat.reduceLeDiff, ix_tup3_0, ix_tup3_1, ix_tup3_2, ix_tup2_0, ix_tup2_1, sl_tup3_1, r_forG0, r_forGs, nextF_nx, nextF_ct, nextF_bk, nextF_rt, nW_none, nW_some, Option.isNone_none, Option.isNone_some]
        rw [hz]
        rfl
      · simp only [r_run, List.map_cons, List.map_nil, List.length_cons, List.length_nil, List.replicate, List.cons_append, List.nil_append, List.append_nil, List.set_cons_zero, List.set_cons_succ, List.set_nil, Nat.sub_self, Nat.zero_add, Nat.reduceAdd, Nat.reduceSub, Nat.reduceEqDiff, Nat.reduceLeDiff, Res.bind_ok, ofO_some, T_ok, T_bind, if_true, if_false, Bool.false_eq_true, Bool.not_true, Bool.not_false, r_eK, r_eV0, r_eVs, r_e1, r_e2, r_e3, r_eL0, r_eLs, r_eF, r_eAnd, r_eOr, r_eNot, r_eIf, r_eTree, r_eLst, r_eTup, r_eDic, r_tN, r_tL0, r_tLs, r_tT, r_sNil, r_sPass, r_sE, r_sAsg, r_sRet, r_sRetN, r_sBrk, r_sCnt, r_sIf, r_sSet, r_sCons, r_sFor, r_eCall, r_l1, r_l2, r_l3, r_eM, r_eComp, r_eChain, andThen_nx, andThen_rt, andThen_bk, andThen_ct, hb_nx, hb_rt, fin_raw, fin_int, fin_bl, fin_str, fin_non, truthy_bl, truthy_non, truthy_int, add_int, sub_int, lt_int, le_int, gt_int, ge_int, is_non, isN_non, isNon_non, isNon_int, isNon_str, fiL_lst, fiL_tup, fiL_str, decide_true, decide_false, decide_eq_true_eq, lineW_eq, mkL_f, mkL_t, Nat.reduceLeDiff, ix_tup3_0, ix_tup3_1, ix_tup3_2, ix_tup2_0, ix_tup2_1, sl_tup3_1, r_forG0, r_forGs, nextF_nx, nextF_ct, nextF_bk, nextF_rt, nW_none, nW_some, Option.isNone_none, Option.isNone_some]
        rw [hz]
        rfl
theorem meeting_run (hx : Nam w x) (hy : Nam w y) (hw : WdO w) : ∃ r, IsMeet w x y r ∧ f_meeting [.str (mkS x), .str (mkS y), wW w] h = .ok (nW r, h) := by
  obtain ⟨r, h1, e⟩ := first_common_run (h := h) hx hy hw
  refine ⟨r, h1, ?_⟩
  have lx := hx.len
  have ly := hy.len
  unfold f_meeting b_meeting
  simp only [r_run, List.map_cons, List.map_nil, List.length_cons, List.length_nil, List.replicate, List.cons_append, List.nil_append, List.append_nil, List.set_cons_zero, List.set_cons_succ, List.set_nil, Nat.sub_self, Nat.zero_add, Nat.reduceAdd, Nat.reduceSub, Nat.reduceEqDiff, Nat.reduceLeDiff, Res.bind_ok, ofO_some, T_ok, T_bind, if_true, if_false, Bool.false_eq_true, Bool.not_true, Bool.not_false, r_eK, r_eV0, r_eVs, r_e1, r_e2, r_e3, r_eL0, r_eLs, r_eF, r_eAnd, r_eOr, r_eNot, r_eIf, r_eTree, r_eLst, r_eTup, r_eDic, r_tN, r_tL0, r_tLs, r_tT, r_sNil, r_sPass, r_sE, r_sAsg, r_sRet, r_sRetN, r_sBrk, r_sCnt, r_sIf, r_sSet, r_sCons, r_sFor, r_eCall, r_l1, r_l2, r_l3, r_eM, r_eComp, r_eChain, andThen_nx, andThen_rt, andThen_bk, andThen_ct, hb_nx, hb_rt, fin_raw, fin_int, fin_bl, fin_str, fin_non, truthy_bl, truthy_non, truthy_int, add_int, sub_int, lt_int, le_int, gt_int, ge_int, is_non, isN_non, isNon_non, isNon_int, isNon_str, fiL_lst, fiL_tup, fiL_str, decide_true, decide_false, decide_eq_true_eq, lineW_eq, mkL_f, mkL_t, Nat.reduceLeDiff, ix_tup3_0, ix_tup3_1, ix_tup3_2, ix_tup2_0, ix_tup2_1, sl_tup3_1, r_forG0, r_forGs, nextF_nx, nextF_ct, nextF_bk, nextF_rt, nW_none, nW_some, Option.isNone_none, Option.isNone_some, check_name_ok hx.name, check_name_ok hy.name, check_width_ok hw.wd, check_fitting_name_ok (show x.length ≤ 100000 by omega) hw.wd hx.fits, check_fitting_name_ok (show y.length ≤ 100000 by omega) hw.wd hy.fits, e, fin_here nor_nW]
theorem distance_run (hx : Nam w x) (hy : Nam w y) (hw : WdO w) : ∃ r : Option Nat, (∀ i, r = some i ↔ rd w (some x) i = some y) ∧ f_distance [.str (mkS x), .str (mkS y), wW w] h = .ok (wW r, h) := by
  have lx := hx.len
  have ly := hy.len
  obtain ⟨s, d, e⟩ := place_run (h := h) (z := y) hx hw hy.sg (by omega)
  refine ⟨plcS y s 0, fun i => d.plc, ?_⟩
  unfold f_distance b_distance
  simp only [r_run, List.map_cons, List.map_nil, List.length_cons, List.length_nil, List.replicate, List.cons_append, List.nil_append, List.append_nil, List.set_cons_zero, List.set_cons_succ, List.set_nil, Nat.sub_self, Nat.zero_add, Nat.reduceAdd, Nat.reduceSub, Nat.reduceEqDiff, Nat.reduceLeDiff, Res.bind_ok, ofO_some, T_ok, T_bind, if_true, if_false, Bool.false_eq_true, Bool.not_true, Bool.not_false, r_eK, r_eV0, r_eVs, r_e1, r_e2, r_e3, r_eL0, r_eLs, r_eF, r_eAnd, r_eOr, r_eNot, r_eIf, r_eTree, r_eLst, r_eTup, r_eDic, r_tN, r_tL0, r_tLs, r_tT, r_sNil, r_sPass, r_sE, r_sAsg, r_sRet, r_sRetN, r_sBrk, r_sCnt, r_sIf, r_sSet, r_sCons, r_sFor, r_eCall, r_l1, r_l2, r_l3, r_eM, r_eComp, r_eChain, andThen_nx, andThen_rt, andThen_bk, andThen_ct, hb_nx, hb_rt, fin_raw, fin_int, fin_bl, fin_str, fin_non, truthy_bl, truthy_non, truthy_int, add_int, sub_int, lt_int, le_int, gt_int, ge_int, is_non, isN_non, isNon_non, isNon_int, isNon_str, fiL_lst, fiL_tup, fiL_str, decide_true, decide_false, decide_eq_true_eq, lineW_eq, mkL_f, mkL_t, Nat.reduceLeDiff, ix_tup3_0, ix_tup3_1, ix_tup3_2, ix_tup2_0, ix_tup2_1, sl_tup3_1, r_forG0, r_forGs, nextF_nx, nextF_ct, nextF_bk, nextF_rt, nW_none, nW_some, Option.isNone_none, Option.isNone_some, check_name_ok hx.name, check_name_ok hy.name, check_width_ok hw.wd, check_fitting_name_ok (show x.length ≤ 100000 by omega) hw.wd hx.fits, check_fitting_name_ok (show y.length ≤ 100000 by omega) hw.wd hy.fits, e, fin_here nor_wW]
theorem road_run (hx : Nam w x) (hw : WdO w) (hc : c ≤ 90) : f_road [.str (mkS x), .int (c : Nat), wW w] h = .ok (namesW (rdL w c (some x)), h) := by
  have lx := hx.len
  apply T.eq
  unfold f_road b_road
  simp only [r_run, List.map_cons, List.map_nil, List.length_cons, List.length_nil, List.replicate, List.cons_append, List.nil_append, List.append_nil, List.set_cons_zero, List.set_cons_succ, List.set_nil, Nat.sub_self, Nat.zero_add, Nat.reduceAdd, Nat.reduceSub, Nat.reduceEqDiff, Nat.reduceLeDiff, Res.bind_ok, ofO_some, T_ok, T_bind, if_true, if_false, Bool.false_eq_true, Bool.not_true, Bool.not_false, r_eK, r_eV0, r_eVs, r_e1, r_e2, r_e3, r_eL0, r_eLs, r_eF, r_eAnd, r_eOr, r_eNot, r_eIf, r_eTree, r_eLst, r_eTup, r_eDic, r_tN, r_tL0, r_tLs, r_tT, r_sNil, r_sPass, r_sE, r_sAsg, r_sRet, r_sRetN, r_sBrk, r_sCnt, r_sIf, r_sSet, r_sCons, r_sFor, r_eCall, r_l1, r_l2, r_l3, r_eM, r_eComp, r_eChain, andThen_nx, andThen_rt, andThen_bk, andThen_ct, hb_nx, hb_rt, fin_raw, fin_int, fin_bl, fin_str, fin_non, truthy_bl, truthy_non, truthy_int, add_int, sub_int, lt_int, le_int, gt_int, ge_int, is_non, isN_non, isNon_non, isNon_int, isNon_str, fiL_lst, fiL_tup, fiL_str, decide_true, decide_false, decide_eq_true_eq, lineW_eq, mkL_f, mkL_t, Nat.reduceLeDiff, ix_tup3_0, ix_tup3_1, ix_tup3_2, ix_tup2_0, ix_tup2_1, sl_tup3_1, r_forG0, r_forGs, nextF_nx, nextF_ct, nextF_bk, nextF_rt, nW_none, nW_some, Option.isNone_none, Option.isNone_some, check_name_ok hx.name, count_run, check_width_ok hw.wd, check_fitting_name_ok (show x.length ≤ 100000 by omega) hw.wd hx.fits, mkL_new (ws := []) rfl (by decide)]
  refine T.mono (T_while (Q := fun q => ∃ x0, q = (.nx, [x0, some (.int (c : Nat)), some (wW w), some (.ref h.length)], h ++ [.lst ((rdL w c (some x)).map stW)]))
    (fun n ρ h' => ∃ (cur : Option (List Nat)) (s0 : List (List Nat)), n + s0.length = c ∧ (∀ l, cur = some l → (∀ a ∈ l, a ∈ signs) ∧ l.length ≤ 300 + s0.length) ∧ rdL w c (some x) = s0 ++ rdL w n cur ∧ ρ = [some (nW cur), some (.int (c : Nat)), some (wW w), some (.ref h.length)] ∧ h' = h ++ [.lst (s0.map stW)])
    (n := c) (Nat.lt_of_le_of_lt hc (by decide)) ⟨some x, [], rfl, fun l e => by cases e; exact ⟨hx.sg, hx.len⟩, rfl, rfl, rfl⟩ ?_) ?_
  · rintro n ρ h' ⟨cur, s0, hn, hcur, hr, rfl, rfl⟩
    simp only [r_run, List.map_cons, List.map_nil, List.length_cons, List.length_nil, List.replicate, List.cons_append, List.nil_append, List.append_nil, List.set_cons_zero, List.set_cons_succ, List.set_nil, Nat.sub_self, Nat.zero_add, Nat.reduceAdd, Nat.reduceSub, Nat.reduceEqDiff, Nat.reduceLeDiff, Res.bind_ok, ofO_some, T_ok, T_bind, if_true, if_false, Bool.false_eq_true, Bool.not_true, Bool.not_false, r_eK, r_eV0, r_eVs, r_e1, r_e2, r_e3, r_eL0, r_eLs, r_eF, r_eAnd, r_eOr, r_eNot, r_eIf, r_eTree, r_eLst, r_eTup, r_eDic, r_tN, r_tL0, r_tLs, r_tT, r_sNil, r_sPass, r_sE, r_sAsg, r_sRet, r_sRetN, r_sBrk, r_sCnt, r_sIf, r_sSet, r_sCons, r_sFor, r_eCall, r_l1, r_l2, r_l3, r_eM, r_eComp, r_eChain, andThen_nx, andThen_rt, andThen_bk, andThen_ct, hb_nx, hb_rt, fin_raw, fin_int, fin_bl, fin_str, fin_non, truthy_bl, truthy_non, truthy_int, add_int, sub_int, lt_int, le_int, gt_int, ge_int, is_non, isN_non, isNon_non, isNon_int, isNon_str, fiL_lst, fiL_tup, fiL_str, decide_true, decide_false, decide_eq_true_eq, lineW_eq, mkL_f, mkL_t, Nat.reduceLeDiff, ix_tup3_0, ix_tup3_1, ix_tup3_2, ix_tup2_0, ix_tup2_1, sl_tup3_1, r_forG0, r_forGs, nextF_nx, nextF_ct, nextF_bk, nextF_rt, nW_none, nW_some, Option.isNone_none, Option.isNone_some, len_new, List.length_map, isNon_nW]
    by_cases h0 : s0.length < c
    · simp only [r_run, List.map_cons, List.map_nil, List.length_cons, List.length_nil, List.replicate, List.cons_append, List.nil_append, List.append_nil, List.set_cons_zero, List.set_cons_succ, List.set_nil, Nat.sub_self, Nat.zero_add, Nat.reduceAdd, Nat.reduceSub, Nat.reduceEqDiff, Nat.reduceLeDiff, Res.bind_ok, ofO_some, T_ok, T_bind, if_true, if_false, Bool.false_eq_true, Bool.not_true, Bool.not_false, r_eK, r_eV0, r_eVs, r_e1, r_e2, r_e3, r_eL0, r_eLs, r_eF, r_eAnd, r_eOr, r_eNot, r_eIf, r_eTree, r_eLst, r_eTup, r_eDic, r_tN, r_tL0, r_tLs, r_tT, r_sNil, r_sPass, r_sE, r_sAsg, r_sRet, r_sRetN, r_sBrk, r_sCnt, r_sIf, r_sSet, r_sCons, r_sFor, r_eCall, r_l1, r_l2, r_l3, r_eM, r_eComp, r_eChain, andThen_nx, andThen_rt, andThen_bk, andThen_ct, hb_nx, hb_rt, fin_raw, fin_int, fin_bl, fin_str, fin_non, truthy_bl, truthy_non, truthy_int, add_int, sub_int, lt_int, le_int, gt_int, ge_int, is_non, isN_non, isNon_non, isNon_int, isNon_str, fiL_lst, fiL_tup, fiL_str, decide_true, decide_false, decide_eq_true_eq, lineW_eq, mkL_f, mkL_t, Nat.reduceLeDiff, ix_tup3_0, ix_tup3_1, ix_tup3_2, ix_tup2_0, ix_tup2_1, sl_tup3_1, r_forG0, r_forGs, nextF_nx, nextF_ct, nextF_bk, nextF_rt, nW_none, nW_some, Option.isNone_none, Option.isNone_some, eq_true (show (s0.length : Int) < (c : Int) by omega)]
      obtain ⟨m, rfl⟩ : ∃ m, n = m + 1 := ⟨n - 1, by omega⟩
      refine ⟨_, rfl, ?_⟩
      cases cur with
      | none =>
        rw [if_neg (by decide), hr]
        exact ⟨_, by show _ = (Fl.nx, _, h ++ [.lst ((s0 ++ []).map stW)]); rw [List.append_nil]⟩
      | some l =>
        obtain ⟨h1, h2⟩ := hcur l rfl
        rw [Option.isNone_some, if_pos (by decide)]
        simp only [r_run, List.map_cons, List.map_nil, List.length_cons, List.length_nil, List.replicate, List.cons_append, List.nil_append, List.append_nil, List.set_cons_zero, List.set_cons_succ, List.set_nil, Nat.sub_self, Nat.zero_add, Nat.reduceAdd, Nat.reduceSub, Nat.reduceEqDiff, Nat.reduceLeDiff, Res.bind_ok, ofO_some, T_ok, T_bind, if_true, if_false, Bool.false_eq_true, Bool.not_true, Bool.not_false, r_eK, r_eV0, r_eVs, r_e1, r_e2, r_e3, r_eL0, r_eLs, r_eF, r_eAnd, r_eOr, r_eNot, r_eIf, r_eTree, r_eLst, r_eTup, r_eDic, r_tN, r_tL0, r_tLs, r_tT, r_sNil, r_sPass, r_sE, r_sAsg, r_sRet, r_sRetN, r_sBrk, r_sCnt, r_sIf, r_sSet, r_sCons, r_sFor, r_eCall, r_l1, r_l2, r_l3, r_eM, r_eComp, r_eChain, andThen_nx, andThen_rt, andThen_bk, andThen_ct, hb_nx, hb_rt, fin_raw, fin_int, fin_bl, fin_str, fin_non, truthy_bl, truthy_non, truthy_int, add_int, sub_int, lt_int, le_int, gt_int, ge_int, is_non, isN_non, isNon_non, isNon_int, isNon_str, fiL_lst, fiL_tup, fiL_str, decide_true, decide_false, decide_eq_true_eq, lineW_eq, mkL_f, mkL_t, Nat.reduceLeDiff, ix_tup3_0, ix_tup3_1, ix_tup3_2, ix_tup2_0, ix_tup2_1, sl_tup3_1, r_forG0, r_forGs, nextF_nx, nextF_ct, nextF_bk, nextF_rt, nW_none, nW_some, Option.isNone_none, Option.isNone_some, isL_new]
        rw [app_new (y := .str (mkS l)) rfl (by rw [List.length_map]; exact Nat.lt_of_le_of_lt (show s0.length ≤ 90 by omega) (by decide))]
        simp only [r_run, List.map_cons, List.map_nil, List.length_cons, List.length_nil, List.replicate, List.cons_append, List.nil_append, List.append_nil, List.set_cons_zero, List.set_cons_succ, List.set_nil, Nat.sub_self, Nat.zero_add, Nat.reduceAdd, Nat.reduceSub, Nat.reduceEqDiff, Nat.reduceLeDiff, Res.bind_ok, ofO_some, T_ok, T_bind, if_true, if_false, Bool.false_eq_true, Bool.not_true, Bool.not_false, r_eK, r_eV0, r_eVs, r_e1, r_e2, r_e3, r_eL0, r_eLs, r_eF, r_eAnd, r_eOr, r_eNot, r_eIf, r_eTree, r_eLst, r_eTup, r_eDic, r_tN, r_tL0, r_tLs, r_tT, r_sNil, r_sPass, r_sE, r_sAsg, r_sRet, r_sRetN, r_sBrk, r_sCnt, r_sIf, r_sSet, r_sCons, r_sFor, r_eCall, r_l1, r_l2, r_l3, r_eM, r_eComp, r_eChain, andThen_nx, andThen_rt, andThen_bk, andThen_ct, hb_nx, hb_rt, fin_raw, fin_int, fin_bl, fin_str, fin_non, truthy_bl, truthy_non, truthy_int, add_int, sub_int, lt_int, le_int, gt_int, ge_int, is_non, isN_non, isNon_non, isNon_int, isNon_str, fiL_lst, fiL_tup, fiL_str, decide_true, decide_false, decide_eq_true_eq, lineW_eq, mkL_f, mkL_t, Nat.reduceLeDiff, ix_tup3_0, ix_tup3_1, ix_tup3_2, ix_tup2_0, ix_tup2_1, sl_tup3_1, r_forG0, r_forGs, nextF_nx, nextF_ct, nextF_bk, nextF_rt, nW_none, nW_some, Option.isNone_none, Option.isNone_some, after_run h1 (show l.length ≤ 400 by omega) hw]
        refine ⟨m, by omega, nxt w l, s0 ++ [l], by rw [List.length_append]; simp; omega, fun y e => ⟨nxt_signs h1 e, ?_⟩, ?_, rfl, ?_⟩
        · have := nxt_len0 e
          rw [List.length_append]
          simp
          omega
        · rw [hr, List.append_assoc]
          rfl
        · rw [List.map_append]
          rfl
    · simp only [r_run, List.map_cons, List.map_nil, List.length_cons, List.length_nil, List.replicate, List.cons_append, List.nil_append, List.append_nil, List.set_cons_zero, List.set_cons_succ, List.set_nil, Nat.sub_self, Nat.zero_add, Nat.reduceAdd, Nat.reduceSub, Nat.reduceEqDiff, Nat.reduceLeDiff, Res.bind_ok, ofO_some, T_ok, T_bind, if_true, if_false, Bool.false_eq_true, Bool.not_true, Bool.not_false, r_eK, r_eV0, r_eVs, r_e1, r_e2, r_e3, r_eL0, r_eLs, r_eF, r_eAnd, r_eOr, r_eNot, r_eIf, r_eTree, r_eLst, r_eTup, r_eDic, r_tN, r_tL0, r_tLs, r_tT, r_sNil, r_sPass, r_sE, r_sAsg, r_sRet, r_sRetN, r_sBrk, r_sCnt, r_sIf, r_sSet, r_sCons, r_sFor, r_eCall, r_l1, r_l2, r_l3, r_eM, r_eComp, r_eChain, andThen_nx, andThen_rt, andThen_bk, andThen_ct, hb_nx, hb_rt, fin_raw, fin_int, fin_bl, fin_str, fin_non, truthy_bl, truthy_non, truthy_int, add_int, sub_int, lt_int, le_int, gt_int, ge_int, is_non, isN_non, isNon_non, isNon_int, isNon_str, fiL_lst, fiL_tup, fiL_str, decide_true, decide_false, decide_eq_true_eq, lineW_eq, mkL_f, mkL_t, Nat.reduceLeDiff, ix_tup3_0, ix_tup3_1, ix_tup3_2, ix_tup2_0, ix_tup2_1, sl_tup3_1, r_forG0, r_forGs, nextF_nx, nextF_ct, nextF_bk, nextF_rt, nW_none, nW_some, Option.isNone_none, Option.isNone_some, eq_false (show ¬ (s0.length : Int) < (c : Int) by omega)]
      refine ⟨_, rfl, ?_⟩
      rw [if_neg (by decide), hr]
      have : n = 0 := by omega
      subst this
      exact ⟨_, by show _ = (Fl.nx, _, h ++ [.lst ((s0 ++ []).map stW)]); rw [List.append_nil]⟩
  · rintro _ ⟨x0, rfl⟩
    simp only [r_run, List.map_cons, List.map_nil, List.length_cons, List.length_nil, List.replicate, List.cons_append, List.nil_append, List.append_nil, List.set_cons_zero, List.set_cons_succ, List.set_nil, Nat.sub_self, Nat.zero_add, Nat.reduceAdd, Nat.reduceSub, Nat.reduceEqDiff, Nat.reduceLeDiff, Res.bind_ok, ofO_some, T_ok, T_bind, if_true, if_false, Bool.false_eq_true, Bool.not_true, Bool.not_false, r_eK, r_eV0, r_eVs, r_e1, r_e2, r_e3, r_eL0, r_eLs, r_eF, r_eAnd, r_eOr, r_eNot, r_eIf, r_eTree, r_eLst, r_eTup, r_eDic, r_tN, r_tL0, r_tLs, r_tT, r_sNil, r_sPass, r_sE, r_sAsg, r_sRet, r_sRetN, r_sBrk, r_sCnt, r_sIf, r_sSet, r_sCons, r_sFor, r_eCall, r_l1, r_l2, r_l3, r_eM, r_eComp, r_eChain, andThen_nx, andThen_rt, andThen_bk, andThen_ct, hb_nx, hb_rt, fin_raw, fin_int, fin_bl, fin_str, fin_non, truthy_bl, truthy_non, truthy_int, add_int, sub_int, lt_int, le_int, gt_int, ge_int, is_non, isN_non, isNon_non, isNon_int, isNon_str, fiL_lst, fiL_tup, fiL_str, decide_true, decide_false, decide_eq_true_eq, lineW_eq, mkL_f, mkL_t, Nat.reduceLeDiff, ix_tup3_0, ix_tup3_1, ix_tup3_2, ix_tup2_0, ix_tup2_1, sl_tup3_1, r_forG0, r_forGs, nextF_nx, nextF_ct, nextF_bk, nextF_rt, nW_none, nW_some, Option.isNone_none, Option.isNone_some, fin_new_lst]
    rfl
end Pr
end
end Ti


/-! Ti: draws of the laws' first form, purse by purse. -/
namespace Ti
open PySem Pr
/-- the heap is H0 but for the purse at i -/
def Pst (H0 : Hh) (i B : Nat) (h : Hh) : Prop := i < H0.length ∧ ∃ p : Pu, p.Ok B ∧ h = H0.set i p.cell
section
variable {H0 h : Hh} {i B B' : Nat}
theorem Pst.mono (s : Pst H0 i B h) (hB : B ≤ B') : Pst H0 i B' h := ⟨s.1, s.2.imp fun _ q => ⟨q.1.mono hB, q.2⟩⟩
theorem Pst.of_dr {f : R1} {Q : W → Prop} (s : Pst H0 i B' h) (d : Dr f h i B Q) : T f fun q => ∃ w h', q = (w, h') ∧ Q w ∧ Pst H0 i B h' := by
  obtain ⟨hi, p, _, rfl⟩ := s
  obtain ⟨w, p', o, q, e⟩ := d
  exact ⟨_, e, w, _, rfl, q, hi, p', o, by rw [List.set_set]⟩
theorem Pst.at_ (s : Pst H0 i B h) : ∃ p : Pu, p.Ok B ∧ h[i]? = some p.cell := by
  obtain ⟨hi, p, o, rfl⟩ := s
  exact ⟨p, o, List.getElem?_set_self hi⟩
theorem Pst.len (s : Pst H0 i B h) : h.length = H0.length := by
  obtain ⟨_, p, _, rfl⟩ := s
  exact List.length_set
theorem Pst.fin {h' : Hh} {w : W} (s : Pst H0 i B h) (s' : Pst H0 i B' h') (hn : nor w = true) : Ti.fin .deep h.length w h' = .ok (w, h') := fin_same hn (by rw [s.len, s'.len])
theorem T_drawA (s : Pst H0 i B h) (hB : B < 1000000) {m : Int} (hm : 0 < m) (hm2 : m < 2 ^ 200) : T (A.f_draw [.ref i, .int m] h) fun q => ∃ (v : Nat) (h' : Hh), q = (.int (v : Int), h') ∧ (v : Int) < m ∧ Pst H0 i (B + 10) h' := by
  obtain ⟨p, o, e⟩ := s.at_
  refine (s.of_dr (draw_dr e o hB hm hm2)).mono ?_
  rintro _ ⟨_, h', rfl, ⟨v, rfl, v0, v1⟩, s'⟩
  exact ⟨v.toNat, h', by rw [Int.toNat_of_nonneg v0], by omega, s'⟩
theorem Pr.Wd.o {w : W} (hw : Pr.Wd w) : ∃ o, w = wW o ∧ WdO o := by
  cases hw with
  | non => exact ⟨none, rfl, fun k e => nomatch e⟩
  | @int n h1 h2 => exact ⟨some n.toNat, by rw [wW_some, Int.toNat_of_nonneg (by omega)], fun k e => by cases e; omega⟩
theorem T_widthA (s : Pst H0 i B h) (hB : B < 900000) : T (f_law_width [.ref i] h) fun q => ∃ (w : Option Nat) (h' : Hh), q = (wW w, h') ∧ WdO w ∧ Pst H0 i (B + 20) h' := by
  obtain ⟨p, o, e⟩ := s.at_
  refine (s.of_dr (width_dr e o hB)).mono ?_
  rintro _ ⟨_, h', rfl, hw, s'⟩
  obtain ⟨w, rfl, ho⟩ := hw.o
  exact ⟨w, h', rfl, ho, s'⟩
theorem nam_of {w : Option Nat} {l : List Nat} (hw : WdO w) (hn : Name l) (hl : l.length ≤ roomN (wW w)) : Nam w l ∧ l.length ≤ 40 := by
  cases w with
  | none =>
    have hl : l.length ≤ 40 := hl
    exact ⟨⟨hn.ne, hn.all, by omega, fun k e => nomatch e⟩, hl⟩
  | some k =>
    have := hw k rfl
    have hl : l.length ≤ (k : Int).toNat := hl
    rw [Int.toNat_natCast] at hl
    exact ⟨⟨hn.ne, hn.all, by omega, fun k' e => by cases e; exact hl⟩, by omega⟩
theorem T_nameA {w : Option Nat} (hw : WdO w) (s : Pst H0 i B h) (hB : B < 800000) : T (f_law_name [.ref i, wW w] h) fun q => ∃ (l : List Nat) (h' : Hh), q = (.str (mkS l), h') ∧ (Nam w l ∧ l.length ≤ 40) ∧ Pst H0 i (B + 200) h' := by
  obtain ⟨p, o, e⟩ := s.at_
  refine (s.of_dr (name_dr hw.wd e o hB)).mono ?_
  rintro _ ⟨_, h', rfl, ⟨l, rfl, h1, h2⟩, s'⟩
  exact ⟨l, h', rfl, nam_of hw h1 h2, s'⟩
/-- the purses of a script -/
theorem pursesA_ok {ns : List Int} {few : Nat} (f1 : 1 ≤ few) (f2 : few ≤ 900) : ∃ (n : Nat) (ps : List Pu), n ≤ few ∧ ps.length = n ∧ (∀ p ∈ ps, p.Ok 0) ∧ f_law_purses [.scr ns, .int (few : Int)] [] = .ok (.lst ((List.range n).map fun j => .ref j), ps.map Pu.cell) := by
  obtain ⟨n, hn, hn2⟩ : ∃ n : Nat, (if (if (ns.length : Int) < (few : Int) then (ns.length : Int) else (few : Int)) > (1 : Int) then (if (ns.length : Int) < (few : Int) then (ns.length : Int) else (few : Int)) else 1) = (n : Int) ∧ n ≤ few := by
    refine ⟨(if (if (ns.length : Int) < (few : Int) then (ns.length : Int) else (few : Int)) > (1 : Int) then (if (ns.length : Int) < (few : Int) then (ns.length : Int) else (few : Int)) else 1).toNat, ?_, ?_⟩ <;> (split <;> split <;> omega)
  have el : pLen (.scr ns) [] = .ok (.int ns.length, []) := rfl
  suffices h : T (f_law_purses [.scr ns, .int (few : Int)] []) fun r => ∃ ps : List Pu, ps.length = n ∧ (∀ p ∈ ps, p.Ok 0) ∧ r = (.lst ((List.range n).map fun j => .ref j), ps.map Pu.cell) by
    obtain ⟨r, e, ps, h1, h2, rfl⟩ := h
    exact ⟨n, ps, hn2, h1, h2, e⟩
  unfold f_law_purses b_law_purses
  simp only [r_run, List.map_cons, List.map_nil, List.length_cons, List.length_nil, List.replicate, r_sRet, r_eComp, r_eF, r_eLs, r_eL0, r_eV0, r_eVs, r_eK, Res.bind_ok, List.cons_append, List.nil_append, r_l1, r_l2, el, max_int, min_int, hn, range_nat (h := []) (n := n) (by omega), ofO_some, T_bind]
  refine T.mono (T_compG (Q := fun q => ∃ ps : List Pu, ps.length = n ∧ (∀ p ∈ ps, p.Ok 0) ∧ q = ((List.range n).map (fun j => W.ref j), ps.map Pu.cell)) (fun i a h => i ≤ n ∧ a = (List.range i).map (fun j => W.ref j) ∧ ∃ ps : List Pu, ps.length = i ∧ (∀ p ∈ ps, p.Ok 0) ∧ h = ps.map Pu.cell) (fun _ _ _ _ => rfl) ⟨by omega, rfl, [], rfl, fun _ h => (nomatch h), rfl⟩ ?_ ?_) ?_
  · rintro i x a h hx ⟨hi, rfl, ps, h1, h2, rfl⟩
    obtain ⟨hin, rfl⟩ := range_get hx
    obtain ⟨p, o, e⟩ := purse_ok (ns := ns) (j := i) (h := ps.map Pu.cell) (by omega)
    rw [Int.zero_add]
    simp only [r_tN, wipeW, List.set_cons_zero, List.set_cons_succ, T_ok, r_eCall, r_eLs, r_eL0, r_eV0, r_eVs, Res.bind_ok, List.append_nil, List.length_cons, List.length_nil, if_true, e]
    refine ⟨by rw [List.length_map, List.length_range]; exact Nat.lt_of_le_of_lt (show i ≤ 900 by omega) (by decide), by omega, ?_, ps ++ [p], by rw [List.length_append, h1]; rfl, fun q hq => ?_, by rw [List.map_append]; rfl⟩
    · rw [List.range_succ, List.map_append, List.length_map, h1]
      rfl
    · rcases List.mem_append.mp hq with hq | hq
      · exact h2 q hq
      · rw [List.mem_singleton.mp hq]; exact o
  · rintro a h ⟨hi, rfl, ps, h1, h2, rfl⟩
    rw [range_len] at h1 ⊢
    exact ⟨ps, h1, h2, rfl⟩
  · rintro _ ⟨ps, h1, h2, rfl⟩
    rw [mkL_f (by rw [List.length_map, List.length_range]; exact Nat.le_trans (show n ≤ 900 by omega) (by decide))]
    simp only [T_ok, hb_rt, fin_raw]
    exact ⟨ps, h1, h2, rfl⟩
/-- a walk over the purses: each turn may draw from its own -/
theorem T_forP {n : Nat} {ps : List Pu} {tg : DT} {b : DS} {ρ : Env} (hlen : ps.length = n) (hok : ∀ p ∈ ps, p.Ok 0) (P : Env → Prop) (hP : P ρ)
    (hstep : ∀ i ρ h, Pst h i 0 h → P ρ → T (tg (.ref i) ρ h) fun p => T (b p.1 p.2) fun q => ∃ (ρ' : Env) (h' : Hh) (B : Nat), q = (.nx, ρ', h') ∧ P ρ' ∧ Pst h i B h') :
    T (forG (fun _ => true) tg b ((List.range n).map fun j => .ref j) ρ (ps.map Pu.cell)) fun q => ∃ ρ' h', q = (.nx, ρ', h') ∧ P ρ' := by
  refine T_for (Q := fun q => ∃ ρ' h', q = (.nx, ρ', h') ∧ P ρ') (fun i ρ h => h.length = n ∧ (∀ j, i ≤ j → j < n → ∃ p : Pu, h[j]? = some p.cell ∧ p.Ok 0) ∧ P ρ) ⟨by rw [List.length_map, hlen], fun j _ hj => ?_, hP⟩ ?_ ?_
  · have hj' : j < ps.length := by omega
    exact ⟨ps[j], by rw [List.getElem?_map, List.getElem?_eq_getElem hj']; rfl, hok _ (List.getElem_mem hj')⟩
  · rintro i j ρ h hj ⟨hl, hp, hP⟩
    have hi : i < n := by
      have := (List.getElem?_eq_some_iff.mp hj).1
      rwa [List.length_range] at this
    rw [List.getElem?_range hi] at hj
    cases hj
    obtain ⟨p, hpi, po⟩ := hp i (Nat.le_refl _) hi
    refine (hstep i ρ h ⟨by omega, p, po, (set_same hpi).symm⟩ hP).mono fun p hp' => hp'.mono ?_
    rintro _ ⟨ρ', h', B, rfl, hP', hi', p', po', rfl⟩
    refine ⟨by rw [List.length_set]; exact hl, fun j h1 h2 => ?_, hP'⟩
    obtain ⟨q, hq, oq⟩ := hp j (by omega) h2
    exact ⟨q, by rw [List.getElem?_set_ne (by omega)]; exact hq, oq⟩
  · rintro ρ h ⟨_, _, hP⟩
    exact ⟨_, _, rfl, hP⟩
/-- a for over range(k) -/
theorem T_range {n : Nat} {tg : DT} {b : DS} {ρ : Env} {Q : Fl × Env × Hh → Prop} (I : Nat → Env → Hh → Prop) (h0 : I 0 ρ h)
    (hs : ∀ (i : Nat) ρ h, i < n → I i ρ h → T (tg (.int (i : Int)) ρ h) fun p => T (b p.1 p.2) fun q => (match q.1 with
      | .nx => I (i + 1) q.2.1 q.2.2
      | .ct => I (i + 1) q.2.1 q.2.2
      | .bk => Q (.nx, q.2)
      | .rt w => Q (.rt w, q.2))) (he : ∀ ρ h, I n ρ h → Q (.nx, ρ, h)) : T (forG (fun _ => true) tg b (rangeW 0 n) ρ h) Q := by
  refine T_forG I (fun _ _ _ _ => rfl) h0 (fun i x ρ h hx hI => ?_) (fun ρ h hI => he ρ h (by rw [range_len] at hI; exact hI))
  obtain ⟨hi, rfl⟩ := range_get hx
  rw [Int.zero_add]
  exact hs i ρ h hi hI
end
end Ti


/-! Ti: names on roads: sizes, comparisons; runs of the names module by options. -/
namespace Ti
open PySem Pr
section
variable {h : Hh} {l y z : List Nat} {w o : Option Nat} {i j k N : Nat} {a b : Option (List Nat)}
theorem rd_free : rd none (some l) (i + 1) = some (stm l ++ numL (Nn l + 1 + i)) := by
  rw [rd_succ]
  show rd none (some (stm l ++ fol l)) i = _
  rw [fol_eq, rd_run stem_stm (by omega)]
theorem rd_signs (hs : ∀ c ∈ l, c ∈ signs) (e : rd w (some l) i = some y) : ∀ c ∈ y, c ∈ signs := by
  induction i generalizing y with
  | zero => cases e; exact hs
  | succ i ih =>
    obtain ⟨z, e1, e2⟩ := Option.bind_eq_some_iff.mp (show (rd w (some l) i).bind (nxt w) = some y from e)
    exact nxt_signs (ih e1) e2
theorem Nn_lt (hl : 0 < l.length) : Nn l < 10 ^ l.length := by
  unfold Nn
  split
  · have := Nat.pow_le_pow_right (n := 10) (by decide) hl
    omega
  · exact vl_lt2 (Nat.le_refl _)
theorem rd_nam (hw : WdO w) (hn : Nam w l) (hl : l.length ≤ 100) (hi : i ≤ 10 ^ 100) (e : rd w (some l) i = some y) : Nam w y ∧ y.length ≤ 202 := by
  have hs := rd_signs hn.sg e
  cases i with
  | zero => cases e; exact ⟨hn, by omega⟩
  | succ i =>
    have he := Option.bind_eq_some_iff.mp (show (rd w (some l) i).bind (nxt w) = some y from e)
    obtain ⟨z, e1, e2⟩ := he
    have hy := nxt_ne e2
    suffices hl : y.length ≤ 202 from ⟨⟨hy, hs, by omega, fun k ek => by subst ek; exact nxt_len e2⟩, hl⟩
    cases w with
    | some k =>
      have h1 := nxt_len e2
      have h2 := (hw k rfl).2
      omega
    | none =>
      rw [rd_free] at e
      cases e
      rw [List.length_append]
      have h1 := @stm_len l
      have hpos : 0 < l.length := List.length_pos_iff.mpr hn.ne
      have h2 := Nn_lt hpos
      have h3 : (10 : Nat) ^ l.length ≤ 10 ^ 100 := pow_mono hl
      have h4 : (numL (Nn l + 1 + i)).length ≤ 101 := numL_len (by decide) (by
        have : (10 : Nat) ^ 100 + 10 ^ 100 ≤ 10 ^ 101 := by decide
        omega)
      omega
theorem Nam.fine (hn : Nam w l) : strFine (mkS l) = true := fine_sg hn.sg (by have := hn.len; omega)
/-- a name or None that can be compared -/
def Cmp (o : Option (List Nat)) : Prop := ∀ l, o = some l → strFine (mkS l) = true
theorem Cmp.rd (hw : WdO w) (hn : Nam w l) (hl : l.length ≤ 100) (hi : i ≤ 10 ^ 100) : Cmp (rd w (some l) i) := fun y e => (rd_nam hw hn hl hi e).1.fine
theorem Cmp.some (hl : strFine (mkS l) = true) : Cmp (some l) := fun y e => by cases e; exact hl
theorem Cmp.none : Cmp none := fun y e => nomatch e
theorem isDat_nW (ha : Cmp a) {d : Nat} : isDat d (nW a) = true := by
  cases a with
  | none => cases d <;> rfl
  | some l => cases d <;> exact ha l rfl
theorem look_nW : look h (nW a) = nW a := by cases a <;> rfl
theorem look_wW : look h (wW w) = wW w := by cases w <;> rfl
theorem beq_nW : beq (nW a) (nW b) = decide (a = b) := by
  cases a <;> cases b <;> first | rfl | skip
  rename_i x y
  show decide (mkS x = mkS y) = _
  exact decide_eq_decide.mpr ⟨fun e => congrArg _ (mkS_inj e), fun e => congrArg _ (Option.some.inj e)⟩
theorem isDat_wW {d : Nat} : isDat d (wW w) = true := by cases w <;> cases d <;> rfl
theorem beq_wW : beq (wW w) (wW o) = decide (w = o) := by
  cases w <;> cases o <;> first | rfl | skip
  rename_i x y
  show ((x : Int) == (y : Int)) = _
  rw [show ((x : Int) == (y : Int)) = decide ((x : Int) = (y : Int)) from rfl]
  exact decide_eq_decide.mpr ⟨fun e => congrArg _ (by omega), fun e => congrArg _ (Option.some.inj e)⟩
theorem eq_nW (ha : Cmp a) (hb : Cmp b) : pEq (nW a) (nW b) h = .ok (.bl (decide (a = b)), h) := by
  unfold pEq eqB
  rw [look_nW, look_nW, isDat_nW ha, isDat_nW hb, beq_nW]
  rfl
theorem ne_nW (ha : Cmp a) (hb : Cmp b) : pNe (nW a) (nW b) h = .ok (.bl (!decide (a = b)), h) := by
  unfold pNe eqB
  rw [look_nW, look_nW, isDat_nW ha, isDat_nW hb, beq_nW]
  rfl
theorem eq_wW : pEq (wW w) (wW o) h = .ok (.bl (decide (w = o)), h) := by
  unfold pEq eqB
  rw [look_wW, look_wW, isDat_wW, isDat_wW, beq_wW]
  rfl
theorem ne_wW : pNe (wW w) (wW o) h = .ok (.bl (!decide (w = o)), h) := by
  unfold pNe eqB
  rw [look_wW, look_wW, isDat_wW, isDat_wW, beq_wW]
  rfl
theorem ne_wW_int : pNe (wW w) (.int (k : Int)) h = .ok (.bl (!decide (w = .some k)), h) := by
  rw [← wW_some]
  exact ne_wW
theorem eq_wW_int : pEq (wW w) (.int (k : Int)) h = .ok (.bl (decide (w = .some k)), h) := by
  rw [← wW_some]
  exact eq_wW
theorem ne_bl {a b : Bool} : pNe (.bl a) (.bl b) h = .ok (.bl (a != b), h) := by cases a <;> cases b <;> rfl
theorem eq_bl {a b : Bool} : pEq (.bl a) (.bl b) h = .ok (.bl (a == b), h) := by cases a <;> cases b <;> rfl
theorem next_name_run (hn : Nam w l) (hw : WdO w) : f_next_name [.str (mkS l), wW w] h = .ok (nW (nxt w l), h) := by
  rw [← aft_eq]
  exact next_name_ok hn.name (by have := hn.len; omega) hw.wd hn.fits
theorem law_after_run (hl : l.length ≤ 400) (hw : WdO w) : f_law_after [.str (mkS l), wW w] h = .ok (nW (nxt w l), h) := by
  rw [← aft_eq]
  exact law_after_ok hl hw.wd
theorem law_parts_run (hl : l.length ≤ 1000) : f_law_parts [.str (mkS l)] h = .ok (.tup [.str (mkS (stm l)), .str (mkS (dgs l))], h) := law_parts_ok (by omega)
theorem fin_bl0 {b : Bool} : fin .deep 0 (.bl b) h = .ok (.bl b, []) := by
  have := @fin_drop [] (.bl b) h rfl
  exact this
end
end Ti


/-! Ti: meetings: sizes, minimality; the law's own stretches (k07). -/
namespace Ti
open PySem Pr
section
variable {x y z u : List Nat} {w : Option Nat} {i j k t : Nat}
theorem rd_Nn_add (h : rd w (some x) i = some z) : Nn x + i ≤ Nn z := by
  induction i generalizing z with
  | zero => cases h; omega
  | succ i ih =>
    obtain ⟨u, e1, e2⟩ := Option.bind_eq_some_iff.mp (show (rd w (some x) i).bind (nxt w) = some z from h)
    have := ih e1
    have := nxt_Nn e2
    omega
theorem rd_pred (h : rd w (some x) i = some z) (hi : 0 < i) : ∃ u, rd w (some x) (i - 1) = some u := by
  obtain ⟨m, rfl⟩ : ∃ m, i = m + 1 := ⟨i - 1, by omega⟩
  obtain ⟨u, e1, _⟩ := Option.bind_eq_some_iff.mp (show (rd w (some x) m).bind (nxt w) = some z from h)
  exact ⟨u, e1⟩
/-- a meeting is near one of the two -/
theorem meet_small (hx : Nam w x) (hy : Nam w y) (hxl : x.length ≤ 100) (hyl : y.length ≤ 100) (hw : WdO w) (m : IsMeet w x y (some z)) : Nam w z ∧ z.length ≤ 101 := by
  obtain ⟨i, j, h1, h2, h3⟩ := m
  have close : ∀ {a : List Nat} {n : Nat}, Nam w a → a.length ≤ 100 → rd w (some a) n = some z → n ≤ 1 → Nam w z ∧ z.length ≤ 101 := fun {a n} ha hal e hn => by
    have h4 := rd_nam hw ha hal (show n ≤ 10 ^ 100 by have : (1 : Nat) ≤ 10 ^ 100 := by decide
                                                      omega) e
    refine ⟨h4.1, ?_⟩
    have hn : n = 0 ∨ n = 1 := by omega
    rcases hn with rfl | rfl
    · cases e; omega
    · have := nxt_len0 (show nxt w a = some z from e)
      omega
  cases w with
  | some k =>
    by_cases hi : i ≤ 1
    · exact close hx hxl h1 hi
    · obtain ⟨u, e1⟩ := rd_pred h1 (by omega)
      obtain ⟨m, rfl⟩ : ∃ m, i = m + 1 := ⟨i - 1, by omega⟩
      obtain ⟨u, e1, e2⟩ := Option.bind_eq_some_iff.mp (show (rd (some k) (some x) m).bind (nxt (some k)) = some z from h1)
      have hz := nxt_len e2
      have hk := (hw k rfl).2
      exact ⟨⟨nxt_ne e2, rd_signs hx.sg h1, by omega, fun k' e => by cases e; exact hz⟩, by omega⟩
  | none =>
    by_cases hi : i ≤ 1
    · exact close hx hxl h1 hi
    · by_cases hj : j ≤ 1
      · exact close hy hyl h2 hj
      · exfalso
        obtain ⟨a, rfl⟩ : ∃ a, i = a + 2 := ⟨i - 2, by omega⟩
        obtain ⟨b, rfl⟩ : ∃ b, j = b + 2 := ⟨j - 2, by omega⟩
        rw [rd_free] at h1 h2
        cases h1
        have h2 := Option.some.inj h2
        have e1 := congrArg stm h2
        rw [stm_num stem_stm (by omega), stm_num stem_stm (by omega)] at e1
        have e2 := congrArg vl h2
        rw [vl_num stem_stm (by omega), vl_num stem_stm (by omega)] at e2
        have := h3 (a + 1) (b + 1) _ rd_free (by rw [rd_free, e1, show Nn y + 1 + b = Nn x + 1 + a by omega])
        omega
theorem rd_small (hx : 0 < x.length) (hz : z.length ≤ 101) (hz0 : 0 < z.length) (e : rd w (some x) i = some z) : i < 10 ^ 101 := by
  have h1 := rd_Nn_add e
  have h2 := Nn_lt hz0
  have h3 : (10 : Nat) ^ z.length ≤ 10 ^ 101 := pow_mono hz
  have := @Nn_pos x
  omega

/-! ### the law's stretches -/
abbrev LSt := List Nat × Nat × Nat
def lsW (s : LSt) : W := .tup [.str (mkS s.1), .int (s.2.1 : Int), .int (s.2.2 : Int), .int ((10 ^ s.2.1 - 1 : Nat) : Int)]
def lstr (w : Option Nat) : Nat → Option (List Nat) → List LSt
  | 0, _ => []
  | _ + 1, none => []
  | t + 1, some y => if dgs y = [] then (y, 0, 0) :: lstr w t (nxt w y) else (stm y, (dgs y).length, vl y) :: lstr w t (nxt w (stm y ++ numL (10 ^ (dgs y).length - 1)))
def lcm (S T : LSt) : Option Nat := if 0 < S.2.1 ∧ S.1 = T.1 ∧ S.2.1 = T.2.1 then some (max S.2.2 T.2.2) else none
def rowL (S : LSt) (t : List LSt) : Option Nat := t.findSome? (lcm S)
theorem rowL_cons {S T : LSt} {s : List LSt} : rowL S (T :: s) = match lcm S T with | some f => some f | none => rowL S s := by
  unfold rowL
  rw [List.findSome?_cons]
  cases lcm S T <;> rfl
def fcL (s t : List LSt) : Option (List Nat) := match s with
  | [] => none
  | S :: s => match rowL S t with
    | some f => some (S.1 ++ numL f)
    | none => fcL s t
def fstL (w : Option Nat) (x y : List Nat) : Option (List Nat) := if x = y then some x else fcL (lstr w 90 (some x)) (lstr w 90 (some y))
/-- a width's stretches, so told -/
def cnv (S : Stch) : LSt := match S with
  | (b, none, _) => (b, 0, 0)
  | (b, some n, _) => (b, (numL n).length, n)
theorem Desc.cnv_mem {o : Option (List Nat)} {s : List Stch} (d : Desc (some k) o s) : ∀ S ∈ s, (∃ b, S = (b, none, some 1)) ∨ ∃ b n, 0 < n ∧ S = (b, some n, some (10 ^ (numL n).length - n)) := by
  induction d with
  | done => exact fun _ h => nomatch h
  | @one x s _ _ ih =>
    intro S hS
    rcases List.mem_cons.mp hS with q | q
    · exact .inl ⟨_, q⟩
    · exact ih S q
  | @run b n k s _ _ hn _ _ ih =>
    intro S hS
    rcases List.mem_cons.mp hS with q | q
    · exact .inr ⟨_, _, hn, q⟩
    · exact ih S q
  | free hw _ _ =>
    intro S hS
    cases hw
theorem len_eq_iff {n m : Nat} (hn : 0 < n) (hm : 0 < m) : (max n m < 10 ^ (numL n).length ∧ max n m < 10 ^ (numL m).length) ↔ (numL n).length = (numL m).length := by
  have h1 := @numL_lt n
  have h2 := @numL_lt m
  have h3 := numL_ge hn
  have h4 := numL_ge hm
  have p1 := @numL_pos n
  have p2 := @numL_pos m
  constructor
  · rintro ⟨q1, q2⟩
    rcases Nat.lt_trichotomy (numL n).length (numL m).length with h | h | h
    · have : 10 ^ (numL n).length ≤ 10 ^ ((numL m).length - 1) := pow_mono (by omega)
      omega
    · exact h
    · have : 10 ^ (numL m).length ≤ 10 ^ ((numL n).length - 1) := pow_mono (by omega)
      omega
  · intro e
    rw [e] at h1 ⊢
    omega
theorem lcm_cmn {o o' : Option (List Nat)} {s s' : List Stch} (d : Desc (some k) o s) (d' : Desc (some k) o' s') {S T : Stch} (hS : S ∈ s) (hT : T ∈ s') : lcm (cnv S) (cnv T) = cmn S T := by
  rcases d.cnv_mem S hS with ⟨b, rfl⟩ | ⟨b, n, hn, rfl⟩
  · have h1 : cmn (b, none, some 1) T = none := by cases T; rfl
    rw [h1]
    exact if_neg fun q => absurd q.1 (by show ¬ 0 < 0; omega)
  · rcases d'.cnv_mem T hT with ⟨b', rfl⟩ | ⟨b', m, hm, rfl⟩
    · have h1 : cmn (b, some n, some (10 ^ (numL n).length - n)) (b', none, some 1) = none := rfl
      rw [h1]
      refine if_neg fun q => ?_
      have h2 : (numL n).length = 0 := q.2.2
      have := @numL_pos n
      omega
    · have h1 := @numL_lt n
      have h2 := @numL_lt m
      have e1 : n + (10 ^ (numL n).length - n) = 10 ^ (numL n).length := by omega
      have e2 : m + (10 ^ (numL m).length - m) = 10 ^ (numL m).length := by omega
      have hc : cmn (b, some n, some (10 ^ (numL n).length - n)) (b', some m, some (10 ^ (numL m).length - m)) = if b = b' ∧ decide (max n m < n + (10 ^ (numL n).length - n)) = true ∧ decide (max n m < m + (10 ^ (numL m).length - m)) = true then some (max n m) else none := rfl
      rw [hc, e1, e2]
      show (if 0 < (numL n).length ∧ b = b' ∧ (numL n).length = (numL m).length then some (max n m) else none) = _
      have hle := len_eq_iff hn hm
      have := @numL_pos n
      by_cases q : b = b' ∧ (numL n).length = (numL m).length
      · rw [if_pos ⟨by omega, q.1, q.2⟩, if_pos ⟨q.1, decide_eq_true (hle.mpr q.2).1, decide_eq_true (hle.mpr q.2).2⟩]
      · rw [if_neg fun z => q ⟨z.2.1, z.2.2⟩, if_neg fun z => q ⟨z.1, hle.mp ⟨of_decide_eq_true z.2.1, of_decide_eq_true z.2.2⟩⟩]
theorem fcL_fcS {o o' : Option (List Nat)} {s s' : List Stch} (d : Desc (some k) o s) (d' : Desc (some k) o' s') : fcL (s.map cnv) (s'.map cnv) = fcS s s' := by
  have row : ∀ S ∈ s, rowL (cnv S) (s'.map cnv) = rowS S s' := by
    intro S hS
    have : ∀ t : List Stch, (∀ T ∈ t, T ∈ s') → rowL (cnv S) (t.map cnv) = rowS S t := by
      intro t
      induction t with
      | nil => intro _; rfl
      | cons T t ih =>
        intro ht
        rw [List.map_cons, rowL_cons, row_cons, lcm_cmn d d' hS (ht T List.mem_cons_self), ih fun U hU => ht U (List.mem_cons_of_mem _ hU)]
        all_goals (cases cmn S T <;> rfl)
    exact this s' fun _ h => h
  have : ∀ t : List Stch, (∀ T ∈ t, T ∈ s) → fcL (t.map cnv) (s'.map cnv) = fcS t s' := by
    intro t
    induction t with
    | nil => intro _; rfl
    | cons T t ih =>
      intro ht
      show (match rowL (cnv T) (s'.map cnv) with | some f => some ((cnv T).1 ++ numL f) | none => fcL (t.map cnv) (s'.map cnv)) = _
      rw [row T (ht T List.mem_cons_self), ih fun U hU => ht U (List.mem_cons_of_mem _ hU)]
      have e : (cnv T).1 = T.1 := by
        obtain ⟨b, f, m⟩ := T
        cases f <;> rfl
      rw [e]
      rfl
  exact this s fun _ h => h
theorem lstr_num (hk : k ≤ 40) : ∀ (t : Nat) (y : List Nat), dgs y ≠ [] → y.length ≤ k → k + 1 - (dgs y).length < t → ∃ s, Desc (some k) (some y) s ∧ lstr (some k) t (some y) = s.map cnv
  | 0, y, _, _, h => absurd h (by omega)
  | t + 1, y, hd, hl, ht => by
    have hdp : 0 < (dgs y).length := List.length_pos_iff.mpr hd
    have hdl := @dgs_len y
    have e : lstr (some k) (t + 1) (some y) = (stm y, (dgs y).length, vl y) :: lstr (some k) t (nxt (some k) (stm y ++ numL (10 ^ (dgs y).length - 1))) := if_neg hd
    have ec : cnv (stm y, some (vl y), some (10 ^ (dgs y).length - vl y)) = (stm y, (dgs y).length, vl y) := by
      show (stm y, (numL (vl y)).length, vl y) = _
      rw [numL_vl hd]
    rw [e]
    cases hz : nxt (some k) (stm y ++ numL (10 ^ (dgs y).length - 1)) with
    | none =>
      refine ⟨_, Desc.runV hd hl (by rw [hz]; exact .done), ?_⟩
      rw [List.map_cons, ec]
      cases t <;> rfl
    | some z =>
      have h1 := nxt_nines hdp hz
      have h2 := nxt_len hz
      obtain ⟨s, d, es⟩ := lstr_num hk t z (nxt_dgs hz) h2 (by omega)
      exact ⟨_, Desc.runV hd hl (by rw [hz]; exact d), by rw [List.map_cons, ec, es]⟩
theorem lstr_desc (hk : k ≤ 40) (hl : x.length ≤ k) : ∃ s, Desc (some k) (some x) s ∧ lstr (some k) 90 (some x) = s.map cnv := by
  by_cases hd : dgs x = []
  · have e : lstr (some k) 90 (some x) = (x, 0, 0) :: lstr (some k) 89 (nxt (some k) x) := if_pos hd
    rw [e]
    cases hz : nxt (some k) x with
    | none =>
      exact ⟨_, .one hd (by rw [hz]; exact .done), rfl⟩
    | some z =>
      have h2 := nxt_len hz
      obtain ⟨s, d, es⟩ := lstr_num hk 89 z (nxt_dgs hz) h2 (by omega)
      exact ⟨_, .one hd (by rw [hz]; exact d), by rw [es]; rfl⟩
  · exact lstr_num hk 90 x hd hl (by omega)
/-! without a width -/
def LL : Nat → List Nat → Nat → List LSt
  | 0, _, _ => []
  | t + 1, b, n => (b, (numL n).length, n) :: LL t b (10 ^ (numL n).length)
theorem numL_ten (m : Nat) : (numL (10 ^ m)).length = m + 1 := by
  have h1 : (numL (10 ^ m)).length ≤ m + 1 := numL_len (by omega) (Nat.pow_lt_pow_right (by decide) (by omega))
  have h2 := numL_lt (n := 10 ^ m)
  have := (Nat.pow_lt_pow_iff_right (a := 10) (by decide)).mp h2
  omega
theorem lstr_LL {b : List Nat} (hb : Stem b) : ∀ (t n : Nat), 0 < n → lstr none t (some (b ++ numL n)) = LL t b n
  | 0, _, _ => rfl
  | t + 1, n, hn => by
    have hp := numL_pos (n := n)
    have h1 : 0 < 10 ^ (numL n).length - 1 := by have := Nat.pow_le_pow_right (n := 10) (by decide) hp; omega
    have e : lstr none (t + 1) (some (b ++ numL n)) = (stm (b ++ numL n), (dgs (b ++ numL n)).length, vl (b ++ numL n)) :: lstr none t (nxt none (stm (b ++ numL n) ++ numL (10 ^ (dgs (b ++ numL n)).length - 1))) := if_neg (dgs_ne hb hn)
    rw [e, stm_num hb hn, dgs_num hb hn, vl_num hb hn, nxt_run hb h1, lstr_LL hb t _ (by omega), show 10 ^ (numL n).length - 1 + 1 = 10 ^ (numL n).length by omega]
    rfl
theorem rowLL {b b' : List Nat} {m n' : Nat} {n : Nat} (hm : 0 < m) (hn' : 0 < n') : ∀ (t n' : Nat), 0 < n' → rowL (b, m, n) (LL t b' n') = if b = b' ∧ (numL n').length ≤ m ∧ m < (numL n').length + t then some (max n (if m = (numL n').length then n' else 10 ^ (m - 1))) else none
  | 0, n', _ => by
    rw [if_neg fun q => by omega]
    rfl
  | t + 1, n', hn' => by
    show rowL (b, m, n) ((b', (numL n').length, n') :: LL t b' (10 ^ (numL n').length)) = _
    have hc : lcm (b, m, n) (b', (numL n').length, n') = if 0 < m ∧ b = b' ∧ m = (numL n').length then some (max n n') else none := rfl
    rw [rowL_cons, hc, rowLL hm hn' t _ (pow10 _), numL_ten]
    by_cases hb : b = b'
    · by_cases he : m = (numL n').length
      · rw [if_pos ⟨hm, hb, he⟩]
        dsimp only
        rw [if_pos ⟨hb, by omega, by omega⟩, if_pos he]
      · rw [if_neg fun q => he q.2.2]
        dsimp only
        by_cases hlt : (numL n').length < m ∧ m < (numL n').length + (t + 1)
        · have c1 : b = b' ∧ (numL n').length + 1 ≤ m ∧ m < (numL n').length + 1 + t := ⟨hb, by omega, by omega⟩
          have c2 : b = b' ∧ (numL n').length ≤ m ∧ m < (numL n').length + (t + 1) := ⟨hb, by omega, by omega⟩
          rw [if_pos c1, if_pos c2, if_neg he]
          by_cases h2 : m = (numL n').length + 1
          · rw [if_pos h2, h2]
            rfl
          · rw [if_neg h2]
        · have c1 : ¬ (b = b' ∧ (numL n').length + 1 ≤ m ∧ m < (numL n').length + 1 + t) := fun q => by omega
          have c2 : ¬ (b = b' ∧ (numL n').length ≤ m ∧ m < (numL n').length + (t + 1)) := fun q => by omega
          rw [if_neg c1, if_neg c2]
    · rw [if_neg fun q => hb q.2.1, if_neg fun q => hb q.1]
      dsimp only
      rw [if_neg fun q => hb q.1]
theorem fcLL {b b' : List Nat} {n' : Nat} (hn' : 0 < n') (t' : Nat) (ht' : 60 ≤ t') (hl' : (numL n').length ≤ 50) : ∀ (t n : Nat), 0 < n → (numL n).length ≤ 50 → 51 ≤ t + (numL n).length → 0 < t → fcL (LL t b n) (LL t' b' n') = if b = b' then some (b ++ numL (max n n')) else none
  | 0, n, _, _, _, h => absurd h (by omega)
  | t + 1, n, hn, hl, ht, _ => by
    have hp := numL_pos (n := n)
    show (match rowL (b, (numL n).length, n) (LL t' b' n') with | some f => some (b ++ numL f) | none => fcL (LL t b (10 ^ (numL n).length)) (LL t' b' n')) = _
    rw [rowLL hp hn' t' n' hn']
    by_cases hb : b = b'
    · by_cases hle : (numL n').length ≤ (numL n).length
      · rw [if_pos ⟨hb, hle, by omega⟩, if_pos hb]
        dsimp only
        by_cases he : (numL n).length = (numL n').length
        · rw [if_pos he]
        · rw [if_neg he]
          have h1 := numL_ge hn
          have h2 := numL_lt (n := n')
          have h3 : 10 ^ (numL n').length ≤ 10 ^ ((numL n).length - 1) := pow_mono (by omega)
          rw [Nat.max_eq_left h1, Nat.max_eq_left (by omega)]
      · rw [if_neg fun q => hle q.2.1]
        dsimp only
        have h1 := numL_lt (n := n)
        have h2 := numL_ge hn'
        have h3 : 10 ^ (numL n).length ≤ 10 ^ ((numL n').length - 1) := pow_mono (by omega)
        rw [fcLL hn' t' ht' hl' t _ (pow10 _) (by rw [numL_ten]; omega) (by rw [numL_ten]; omega) (by omega), if_pos hb, if_pos hb, Nat.max_eq_right (by omega), Nat.max_eq_right (by omega)]
    · rw [if_neg fun q => hb q.1, if_neg hb]
      dsimp only
      have : ∀ (t n : Nat), 0 < n → fcL (LL t b n) (LL t' b' n') = none := by
        intro t
        induction t with
        | zero => intro n _; rfl
        | succ t ih =>
          intro n hn
          show (match rowL (b, (numL n).length, n) (LL t' b' n') with | some f => some (b ++ numL f) | none => fcL (LL t b (10 ^ (numL n).length)) (LL t' b' n')) = _
          rw [rowLL numL_pos hn' t' n' hn', if_neg fun q => hb q.1]
          exact ih _ (pow10 _)
      exact this t _ (pow10 _)
theorem fcL_skip {S : LSt} {s t : List LSt} (h : S.2.1 = 0) : fcL (S :: s) t = fcL s t := by
  have : rowL S t = none := by
    unfold rowL
    rw [List.findSome?_eq_none_iff]
    intro T _
    exact if_neg fun q => by omega
  show (match rowL S t with | some f => some (S.1 ++ numL f) | none => fcL s t) = _
  rw [this]
theorem rowL_skip {S T : LSt} {t : List LSt} (h : T.2.1 = 0) : rowL S (T :: t) = rowL S t := by
  have e : lcm S T = none := if_neg fun q => by omega
  rw [rowL_cons, e]
theorem fcL_skip' {T : LSt} {s t : List LSt} (h : T.2.1 = 0) : fcL s (T :: t) = fcL s t := by
  induction s with
  | nil => rfl
  | cons S s ih =>
    show (match rowL S (T :: t) with | some f => some (S.1 ++ numL f) | none => fcL s (T :: t)) = _
    rw [rowL_skip h, ih]
    rfl
/-- the first number of a road without a width -/
def n0 (x : List Nat) : Nat := if dgs x = [] then 2 else vl x
theorem n0_pos : 0 < n0 x := by
  unfold n0
  split
  · omega
  · exact vl_pos (by assumption)
theorem n0_len (hl : 0 < x.length) : (numL (n0 x)).length ≤ x.length := by
  unfold n0
  split
  · exact numL_len hl (by have := Nat.pow_le_pow_right (n := 10) (by decide) hl; omega)
  · rw [numL_vl (by assumption)]
    exact dgs_len
theorem lstr_none : ∃ (t : Nat) (p : List LSt), 89 ≤ t ∧ (p = [] ∨ ∃ b, p = [(b, 0, 0)]) ∧ lstr none 90 (some x) = p ++ LL t (stm x) (n0 x) := by
  unfold n0
  by_cases hd : dgs x = []
  · refine ⟨89, [(x, 0, 0)], by omega, .inr ⟨x, rfl⟩, ?_⟩
    have e : lstr none 90 (some x) = (x, 0, 0) :: lstr none 89 (some (stm x ++ fol x)) := if_pos hd
    have hN : Nn x = 1 := if_pos hd
    rw [e, fol_eq, hN, lstr_LL stem_stm 89 2 (by omega), if_pos hd]
    rfl
  · refine ⟨90, [], by omega, .inl rfl, ?_⟩
    conv => lhs; rw [num_form hd]
    rw [lstr_LL stem_stm 90 _ (vl_pos hd), if_neg hd]
    rfl
theorem desc_none : ∃ p, (p = [] ∨ p = [(x, none, some 1)]) ∧ Desc none (some x) (p ++ [(stm x, some (n0 x), none)]) := by
  unfold n0
  by_cases hd : dgs x = []
  · rw [if_pos hd]
    refine ⟨_, .inr rfl, .one hd ?_⟩
    have hN : Nn x = 1 := if_pos hd
    have e : nxt none x = some (stm x ++ numL 2) := by
      show some (stm x ++ fol x) = _
      rw [fol_eq, hN]
    rw [e]
    exact .free rfl stem_stm (by omega)
  · rw [if_neg hd]
    exact ⟨_, .inl rfl, Desc.freeV hd⟩
theorem fcS_none {p q : List Stch} {b b' : List Nat} {n n' : Nat} (hp : p = [] ∨ ∃ x, p = [(x, none, some 1)]) (hq : q = [] ∨ ∃ x, q = [(x, none, some 1)]) : fcS (p ++ [(b, some n, none)]) (q ++ [(b', some n', none)]) = if b = b' then some (b ++ numL (max n n')) else none := by
  have rq : rowS (b, some n, none) (q ++ [(b', some n', none)]) = if b = b' then some (max n n') else none := by
    have h1 : rowS (b, some n, none) [(b', some n', none)] = if b = b' then some (max n n') else none := by
      rw [row_cons]
      have : cmn (b, some n, none) (b', some n', none) = if b = b' ∧ true = true ∧ true = true then some (max n n') else none := rfl
      rw [this]
      by_cases hb : b = b'
      · rw [if_pos ⟨hb, rfl, rfl⟩, if_pos hb]
      · rw [if_neg fun z => hb z.1, if_neg hb]
        rfl
    rcases hq with rfl | ⟨x, rfl⟩
    · exact h1
    · show rowS (b, some n, none) ((x, none, some 1) :: [(b', some n', none)]) = _
      rw [row_cons, ← h1]
      rfl
  have main : fcS [(b, some n, none)] (q ++ [(b', some n', none)]) = if b = b' then some (b ++ numL (max n n')) else none := by
    show (match rowS (b, some n, none) (q ++ [(b', some n', none)]) with | some f => some (b ++ numL f) | none => none) = _
    rw [rq]
    by_cases hb : b = b'
    · rw [if_pos hb, if_pos hb]
    · rw [if_neg hb, if_neg hb]
  rcases hp with rfl | ⟨x, rfl⟩
  · exact main
  · show (match rowS (x, none, some 1) (q ++ [(b', some n', none)]) with | some f => some (x ++ numL f) | none => fcS [(b, some n, none)] (q ++ [(b', some n', none)])) = _
    have : rowS (x, none, some 1) (q ++ [(b', some n', none)]) = none := by
      unfold rowS
      rw [List.findSome?_eq_none_iff]
      intro T _
      obtain ⟨b, f, m⟩ := T
      rfl
    rw [this]
    exact main
theorem fstL_meet (hx : Nam w x) (hy : Nam w y) (hxl : x.length ≤ 40) (hyl : y.length ≤ 40) (hw : WdO w) : IsMeet w x y (fstL w x y) := by
  cases w with
  | some k =>
    have hk := (hw k rfl).2
    obtain ⟨s, d, es⟩ := lstr_desc hk (hx.fit k rfl)
    obtain ⟨t, d', et⟩ := lstr_desc hk (hy.fit k rfl)
    have : fstL (some k) x y = fstC x y s t := by
      unfold fstL fstC
      rw [es, et, fcL_fcS d d']
    rw [this]
    exact d.meet d'
  | none =>
    obtain ⟨t1, p1, ht1, hp1, e1⟩ := @lstr_none x
    obtain ⟨t2, p2, ht2, hp2, e2⟩ := @lstr_none y
    obtain ⟨q1, hq1, d1⟩ := @desc_none x
    obtain ⟨q2, hq2, d2⟩ := @desc_none y
    have hx0 : 0 < x.length := List.length_pos_iff.mpr hx.ne
    have hy0 : 0 < y.length := List.length_pos_iff.mpr hy.ne
    have lx := n0_len hx0
    have ly := n0_len hy0
    have px := numL_pos (n := n0 x)
    have main : fcL (lstr none 90 (some x)) (lstr none 90 (some y)) = if stm x = stm y then some (stm x ++ numL (max (n0 x) (n0 y))) else none := by
      rw [e1, e2]
      have base := fcLL (b := stm x) (b' := stm y) (n' := n0 y) n0_pos t2 (by omega) (by omega) t1 (n0 x) n0_pos (by omega) (by omega) (by omega)
      rcases hp1 with rfl | ⟨b, rfl⟩
      · rcases hp2 with rfl | ⟨b, rfl⟩
        · exact base
        · rw [show fcL ([] ++ LL t1 (stm x) (n0 x)) ([(b, 0, 0)] ++ LL t2 (stm y) (n0 y)) = _ from fcL_skip' rfl]
          exact base
      · rw [show fcL ([(b, 0, 0)] ++ LL t1 (stm x) (n0 x)) (p2 ++ LL t2 (stm y) (n0 y)) = _ from fcL_skip rfl]
        rcases hp2 with rfl | ⟨b, rfl⟩
        · exact base
        · rw [show fcL ([].append (LL t1 (stm x) (n0 x))) ([(b, 0, 0)] ++ LL t2 (stm y) (n0 y)) = _ from fcL_skip' rfl]
          exact base
    have : fstL none x y = fstC x y (q1 ++ [(stm x, some (n0 x), none)]) (q2 ++ [(stm y, some (n0 y), none)]) := by
      unfold fstL fstC
      rw [main, fcS_none (hq1.imp id fun e => ⟨x, e⟩) (hq2.imp id fun e => ⟨y, e⟩)]
    rw [this]
    exact d1.meet d2
end
end Ti


/-! Ti: data compared with itself; lists of names as data. -/
namespace Ti
open PySem Pr
mutual
theorem beq_self : ∀ {d : Nat} {u : W}, isDat d u = true → beq u u = true
  | _, .non, _ => rfl
  | _, .bl b, _ => by cases b <;> rfl
  | _, .int i, _ => beq_self_eq_true i
  | _, .str x, _ => decide_eq_true rfl
  | d + 1, .tup ws, h => beqs_self (d := d) (show areDat d ws = true from h)
  | d + 1, .lst ws, h => beqs_self (d := d) (show areDat d ws = true from h)
  | 0, .tup _, h => by cases h
  | 0, .lst _, h => by cases h
  | 0, .dic _ _, h => by cases h
  | 0, .obj _ _, h => by cases h
  | 0, .ref _, h => by cases h
  | 0, .scr _, h => by cases h
  | _ + 1, .dic _ _, h => by cases h
  | _ + 1, .obj _ _, h => by cases h
  | _ + 1, .ref _, h => by cases h
  | _ + 1, .scr _, h => by cases h
theorem beqs_self : ∀ {d : Nat} {u : List W}, areDat d u = true → beqs u u = true
  | _, [], _ => rfl
  | d, w :: ws, h => by
    have h : (isDat d w && areDat d ws) = true := h
    rw [Bool.and_eq_true] at h
    show (beq w w && beqs ws ws) = true
    rw [beq_self h.1, beqs_self h.2]
    rfl
end
section
variable {h : Hh} {u : W}
theorem dat_eq (e : isDat 60 (look h u) = true) : pEq u u h = .ok (.bl true, h) := by
  unfold pEq eqB
  rw [e, beq_self e]
  rfl
theorem dat_ne (e : isDat 60 (look h u) = true) : pNe u u h = .ok (.bl false, h) := by
  unfold pNe eqB
  rw [e, beq_self e]
  rfl
theorem areDat_map {α : Type} {d : Nat} {f : α → W} {l : List α} (hf : ∀ a ∈ l, isDat d (f a) = true) : areDat d (l.map f) = true := by
  induction l with
  | nil => rfl
  | cons a l ih =>
    show (isDat d (f a) && areDat d (l.map f)) = true
    rw [hf a List.mem_cons_self, ih fun b hb => hf b (List.mem_cons_of_mem _ hb)]
    rfl
theorem names_dat {d : Nat} {ls : List (List Nat)} (hl : ∀ l ∈ ls, strFine (mkS l) = true) : isDat (d + 1) (namesW ls) = true := areDat_map fun l h => by
  cases d <;> exact hl l h
theorem look_names {ls : List (List Nat)} : look h (namesW ls) = namesW ls := rfl
theorem look_str {l : List Nat} : look h (.str (mkS l)) = .str (mkS l) := rfl
theorem look_lst {ws : List W} : look h (.lst ws) = .lst ws := rfl
theorem rdL_mem {w : Option Nat} : ∀ {n : Nat} {o : Option (List Nat)} {l : List Nat}, l ∈ rdL w n o → ∃ i, i < n ∧ rd w o i = some l
  | 0, _, _, h => nomatch h
  | _ + 1, none, _, h => nomatch h
  | n + 1, some x, l, h => by
    rcases List.mem_cons.mp (show l ∈ x :: rdL w n (nxt w x) from h) with q | q
    · exact ⟨0, by omega, by rw [q]; rfl⟩
    · obtain ⟨i, hi, e⟩ := rdL_mem q
      exact ⟨i + 1, by omega, by rw [rd_succ]; exact e⟩
end
end Ti


/-! Ti: the laws' purses and draws, the second form. -/
namespace Ti
open PySem Pr
structure PuB where
  a : Int
  b : Int
  c : Int
def PuB.ws (p : PuB) : List W := [.int p.a, .int p.b, .int p.c]
def PuB.cell (p : PuB) : Cell := .lst p.ws
structure PuB.Ok (p : PuB) (B : Nat) : Prop where
  a0 : 0 ≤ p.a
  b0 : 0 ≤ p.b
  b1 : p.b < 2147483629
  c0 : 0 ≤ p.c
  c1 : p.c ≤ B
theorem PuB.Ok.mono {p : PuB} {B B' : Nat} (o : p.Ok B) (h : B ≤ B') : p.Ok B' := ⟨o.a0, o.b0, o.b1, o.c0, by have := o.c1; omega⟩
section
variable {H : Hh} {i : Nat} {p : PuB}
theorem pub_asL (h : H[i]? = some p.cell) : asL H (.ref i) = some p.ws := asL_at h
theorem pub_ix0 (h : H[i]? = some p.cell) : pIx (.ref i) (.int 0) H = .ok (.int p.a, H) := by
  unfold pIx ixW
  simp only [pub_asL h]
  rfl
theorem pub_ix1 (h : H[i]? = some p.cell) : pIx (.ref i) (.int 1) H = .ok (.int p.b, H) := by
  unfold pIx ixW
  simp only [pub_asL h]
  rfl
theorem pub_ix2 (h : H[i]? = some p.cell) : pIx (.ref i) (.int 2) H = .ok (.int p.c, H) := by
  unfold pIx ixW
  simp only [pub_asL h]
  rfl
theorem pub_set0 (h : H[i]? = some p.cell) {n : Int} : pSet (.ref i) (.int 0) (.int n) H = .ok (.non, H.set i (PuB.cell ⟨n, p.b, p.c⟩)) := by
  unfold pSet
  simp only [h, PuB.cell]
  rfl
theorem pub_set2 (h : H[i]? = some p.cell) {n : Int} : pSet (.ref i) (.int 2) (.int n) H = .ok (.non, H.set i (PuB.cell ⟨p.a, p.b, n⟩)) := by
  unfold pSet
  simp only [h, PuB.cell]
  rfl
end
def mixvB (x t : Int) : Int :=
  let y := (x * 69069 + 104729 * t * t + t).fmod 2147483647
  let z := (y * y + 40503).fmod 2147483629
  (z * 48271).fmod 2147483587
theorem mixedB_run {H : Hh} {x t : Int} {B : Nat} (hx : 0 ≤ x ∧ x < 2147483629) (ht : 0 ≤ t ∧ t ≤ B) (hB : B < 2 ^ 64) : f__law_mixed [.int x, .int t] H = .ok (.int (mixvB x t), H) ∧ 0 ≤ mixvB x t ∧ mixvB x t < 2147483587 := by
  have h1 : mulOk x 69069 = true := mulOk_of (by omega) (by decide)
  have t1 : t.natAbs < 2 ^ 64 := by omega
  have h2 : mulOk 104729 t = true := mulOk_of (by decide) (by omega)
  have h3 : mulOk (104729 * t) t = true := mulOk_of (by omega) (by omega)
  have g1 := A.fm (a := x * 69069 + 104729 * t * t + t) (m := 2147483647) (by decide)
  generalize hy : (x * 69069 + 104729 * t * t + t).fmod ((2147483647 : Nat) : Int) = y at g1
  have h5 : mulOk y y = true := mulOk_of (by omega) (by omega)
  have g2 := A.fm (a := y * y + 40503) (m := 2147483629) (by decide)
  generalize hz : (y * y + 40503).fmod ((2147483629 : Nat) : Int) = z at g2
  have h6 : mulOk z 48271 = true := mulOk_of (by omega) (by decide)
  have g3 := A.fm (a := z * 48271) (m := 2147483587) (by decide)
  have hy' : (x * 69069 + 104729 * t * t + t).fmod 2147483647 = y := hy
  have hz' : (y * y + 40503).fmod 2147483629 = z := hz
  have e : mixvB x t = (z * 48271).fmod 2147483587 := by
    unfold mixvB
    simp only [hy', hz']
  rw [e]
  refine ⟨?_, g3.1, g3.2⟩
  unfold f__law_mixed b__law_mixed
  simp [r_run, pAdd, pMul, pMod, h1, h2, h3, h5, h6, hy', hz', List.replicate]
theorem drawB_run {H : Hh} {i : Nat} {p : PuB} {B : Nat} {m : Int} (hH : H[i]? = some p.cell) (ok : p.Ok B) (hB : B + 10 < 2 ^ 64) (hm : 0 < m) (hm2 : m < 2 ^ 200) :
    ∃ (v : Int) (p' : PuB), 0 ≤ v ∧ v < m ∧ p'.Ok (B + 10) ∧ f__law_draw [.ref i, .int m] H = .ok (.int v, H.set i p'.cell) := by
  have hl := (List.getElem?_eq_some_iff.mp hH).1
  suffices h : T (f__law_draw [.ref i, .int m] H) fun r => ∃ (v : Int) (p' : PuB), 0 ≤ v ∧ v < m ∧ p'.Ok (B + 10) ∧ r = (.int v, H.set i p'.cell) by
    obtain ⟨r, e, v, p', h1, h2, h3, rfl⟩ := h
    exact ⟨v, p', h1, h2, h3, e⟩
  have mm : ∃ k : Nat, 0 < k ∧ m = (k : Int) := ⟨m.toNat, by omega, by omega⟩
  obtain ⟨k, hk, rfl⟩ := mm
  have fk := fun a => A.fm (a := a) hk
  unfold f__law_draw b__law_draw
  by_cases ha : 0 < p.a
  · have e1 : pMod (.int p.a) (.int (k : Int)) H = .ok (.int (p.a.fmod k), H) := by
      show (if (k : Int) = 0 then Res.bad else _) = _
      rw [if_neg (by omega)]
    have e2 : pFdv (.int p.a) (.int (k : Int)) H = .ok (.int (p.a / k), H) := fdv_run (by omega) hm2
    simp only [r_run, List.map_cons, List.map_nil, List.length_cons, List.length_nil, List.replicate, r_sCons, r_sIf, r_e2, r_eV0, r_eVs, r_eK, Res.bind_ok, pub_ix0 hH, pGt, truthy_bl, ofO_some, decide_eq_true ha, if_true, r_sNil, andThen_nx, andThen_rt, r_sAsg, r_sSet, r_sRet, r_tN, List.cons_append, List.nil_append, List.set_cons_zero, List.set_cons_succ, e1, e2, pub_set0 hH, hb_rt]
    rw [fin_same rfl (by rw [List.length_set]), T_ok]
    refine ⟨_, ⟨p.a / k, p.b, p.c⟩, (fk p.a).1, (fk p.a).2, ⟨Int.ediv_nonneg ok.a0 (by omega), ok.b0, ok.b1, ok.c0, by have := ok.c1; show p.c ≤ _; omega⟩, rfl⟩
  · obtain ⟨x, e3, x1, x2⟩ := A.bits_run (H := H) hm hm2
    have e4 := @fdv_run H x 28 (by omega) (by omega)
    obtain ⟨n, e5, hn⟩ := A.pieces_run (H := H) x1 x2
    have e6 : fiR [.int (n : Int)] H = some ⟨rangeW 0 n, fun _ => true⟩ := range_nat (by omega)
    simp only [r_run, List.map_cons, List.map_nil, List.length_cons, List.length_nil, List.replicate, r_sCons, r_sIf, r_e2, r_eV0, r_eVs, r_eK, Res.bind_ok, pub_ix0 hH, pGt, truthy_bl, ofO_some, decide_eq_false ha, Bool.false_eq_true, if_false, r_sNil, andThen_nx, r_sAsg, r_tN, r_sFor, r_eLs, r_eL0, r_e1, List.cons_append, List.nil_append, List.set_cons_zero, List.set_cons_succ, e3, e4, e5, e6, T_bind]
    refine T.mono (T_forG (Q := fun q => q.1 = .nx ∧ ∃ (p' : PuB) (f : Int) (x y : Option W), p'.Ok (B + n) ∧ 0 ≤ f ∧ q.2 = ([some (.ref i), some (.int (k : Int)), some (.int f), x, y], H.set i p'.cell))
      (fun j ρ h => ∃ (p' : PuB) (f : Int) (x y : Option W), p'.Ok (B + j) ∧ 0 ≤ f ∧ f < 2 ^ (31 * j) ∧ ρ = [some (.ref i), some (.int (k : Int)), some (.int f), x, y] ∧ h = H.set i p'.cell)
      (fun _ _ _ _ => rfl) ⟨p, 0, none, none, ⟨ok.a0, ok.b0, ok.b1, ok.c0, by have := ok.c1; omega⟩, by omega, by decide, rfl, (set_same hH).symm⟩ ?_ ?_) ?_
    · rintro j x ρ h hx ⟨q, f, x0, y0, okq, f0, f1, rfl, rfl⟩
      have hj : j < n := by
        have := (List.getElem?_eq_some_iff.mp hx).1
        unfold rangeW at this
        rw [List.length_map, List.length_range] at this
        exact this
      have hq : (H.set i q.cell)[i]? = some q.cell := at_set hH
      have hq2 : (H.set i (PuB.cell ⟨q.a, q.b, q.c + 1⟩))[i]? = some (PuB.cell ⟨q.a, q.b, q.c + 1⟩) := at_set hH
      have f2 : f < 2 ^ 248 := Int.lt_of_lt_of_le f1 (by
        have : (2 : Nat) ^ (31 * j) ≤ 2 ^ 248 := Nat.pow_le_pow_right (by omega) (by omega)
        exact_mod_cast this)
      have m1 : mulOk f 2147483587 = true := mulOk_of (by omega) (by decide)
      obtain ⟨r1, r2, r3⟩ := mixedB_run (H := H.set i (PuB.cell ⟨q.a, q.b, q.c + 1⟩)) (x := q.b) (t := q.c + 1) (B := B + j + 1) ⟨okq.b0, okq.b1⟩ ⟨by have := okq.c0; omega, by have := okq.c1; omega⟩ (by omega)
      simp only [r_tN, List.set_cons_zero, List.set_cons_succ, T_ok, r_sCons, r_sSet, r_e2, r_eV0, r_eVs, r_eK, Res.bind_ok, pub_ix2 hq, pub_ix1 hq2, pub_ix2 hq2, pAdd, pMul, m1, if_true, pub_set2 hq, andThen_nx, r_sAsg, r_eCall, r_eLs, r_eL0, List.cons_append, List.nil_append, List.append_nil, List.length_cons, List.length_nil, r1, List.set_set]
      refine ⟨⟨q.a, q.b, q.c + 1⟩, f * 2147483587 + mixvB q.b (q.c + 1), some x, y0, ⟨okq.a0, okq.b0, okq.b1, by have := okq.c0; show 0 ≤ q.c + 1; omega, by have := okq.c1; show q.c + 1 ≤ _; omega⟩, by omega, ?_, rfl, rfl⟩
      have : (2 : Int) ^ (31 * (j + 1)) = 2 ^ (31 * j) * 2147483648 := by
        rw [show 31 * (j + 1) = 31 * j + 31 by omega, Int.pow_add]
        rfl
      rw [this]
      omega
    · rintro ρ h ⟨q, f, x0, y0, okq, f0, f1, rfl, rfl⟩
      have el : (rangeW 0 n).length = n := by unfold rangeW; rw [List.length_map, List.length_range]
      rw [el] at okq
      exact ⟨rfl, q, f, x0, y0, okq, f0, rfl⟩
    · rintro ⟨fl, ρ, h⟩ ⟨e1, q, f, x0, y0, okq, f0, e2⟩
      cases e1
      cases e2
      have e1 : pMod (.int f) (.int (k : Int)) (H.set i q.cell) = .ok (.int (f.fmod k), H.set i q.cell) := by
        show (if (k : Int) = 0 then Res.bad else _) = _
        rw [if_neg (by omega)]
      simp only [andThen_nx, r_sRet, r_e2, r_eV0, r_eVs, Res.bind_ok, e1, T_ok, hb_rt]
      rw [fin_same rfl (by rw [List.length_set]), T_ok]
      exact ⟨_, q, (fk f).1, (fk f).2, ⟨okq.a0, okq.b0, okq.b1, okq.c0, by have := okq.c1; omega⟩, rfl⟩
theorem purseB_ok {ns : List Int} {j : Nat} {h : Hh} (hj : j ≤ 900) : ∃ p : PuB, p.Ok 900000 ∧ f__law_purse [.scr ns, .int (j : Int)] h = .ok (.ref h.length, h ++ [p.cell]) := by
  have ej : (j : Int) + 1 = ((j + 1 : Nat) : Int) := by omega
  have l1 := cutL_len (l := ns) (a := j) (b := j + 1)
  generalize hm : cutL ns (some (j : Int)) (some ((j + 1 : Nat) : Int)) = ms at l1
  have e1 : pSl false true true (.scr ns) (.int (j : Int)) (.int ((j + 1 : Nat) : Int)) h = .ok (.lst (ms.map W.int), h) := by
    show mkL false ((cutL ns (some (j : Int)) (some ((j + 1 : Nat) : Int))).map .int) h = _
    rw [hm]
    exact mkL_f (by rw [List.length_map]; exact Nat.le_trans l1 (Nat.le_trans (Nat.succ_le_succ hj) (by decide)))
  have p1 := pow_run (h := h) (i := 10) (j := 18) (by omega) (by omega) (by decide)
  have p2 := pow_run (h := h) (i := 10) (j := 60) (by omega) (by omega) (by decide)
  have p3 := pow_run (h := h) (i := 10 ^ (60 : Int).toNat) (j := 8) (by omega) (by omega) (by decide +kernel)
  generalize hq : (10 ^ (60 : Int).toNat : Int) ^ (8 : Int).toNat = q at p3
  have q0 : 0 < q := by rw [← hq]; decide +kernel
  generalize hx : (if (0 : Int) > ms.sum - 10 ^ (18 : Int).toNat then (0 : Int) else ms.sum - 10 ^ (18 : Int).toNat) = x
  have x0 : 0 ≤ x := by rw [← hx]; split <;> omega
  obtain ⟨k, rfl⟩ : ∃ k : Nat, q = (k : Int) := ⟨q.toNat, by omega⟩
  have f1 := A.fm (a := x) (m := k) (by omega)
  have f2 := A.fm (a := ms.sum) (m := 2147483629) (by decide)
  refine ⟨⟨x.fmod k, ms.sum.fmod 2147483629, 1000 * (j : Int)⟩, ⟨f1.1, f2.1, f2.2, by show (0 : Int) ≤ 1000 * (j : Int); omega, by show 1000 * (j : Int) ≤ ((900000 : Nat) : Int); omega⟩, ?_⟩
  have m1 := mod_run (H := h) (a := x) (j := (k : Int)) q0
  have m2 := mod_run (H := h) (a := ms.sum) (j := 2147483629) (by omega)
  have m3 := mul_int (h := h) (k := false) (i := 1000) (j := (j : Int)) (mulOk_of (by decide) (by omega))
  have mk : ∀ a b c : Int, mkL true [.int a, .int b, .int c] h = .ok (.ref h.length, h ++ [PuB.cell ⟨a, b, c⟩]) := fun a b c => rfl
  unfold f__law_purse b__law_purse
  simp only [r_run, List.map_cons, List.map_nil, List.length_cons, List.length_nil, List.replicate, r_sCons, r_sAsg, r_eF, r_eLs, r_eL0, r_e3, r_e2, r_eV0, r_eVs, r_eK, Res.bind_ok, List.append_nil, List.cons_append, List.nil_append, add_int, ej, e1, r_l1, sum_run, r_tN, List.set_cons_zero, List.set_cons_succ, andThen_nx, r_sRet, r_eLst, p1, sub_int, r_l2, max_int, hx, p2, p3, m1, m2, m3, mk, hb_rt, fin_raw]
/-- the heap is H0 but for the purse at i -/
def Psb (H0 : Hh) (i B : Nat) (h : Hh) : Prop := i < H0.length ∧ ∃ p : PuB, p.Ok B ∧ h = H0.set i p.cell
section
variable {H0 h : Hh} {i B B' : Nat}
theorem Psb.mono (s : Psb H0 i B h) (hB : B ≤ B') : Psb H0 i B' h := ⟨s.1, s.2.imp fun _ q => ⟨q.1.mono hB, q.2⟩⟩
theorem Psb.at_ (s : Psb H0 i B h) : ∃ p : PuB, p.Ok B ∧ h[i]? = some p.cell := by
  obtain ⟨hi, p, o, rfl⟩ := s
  exact ⟨p, o, List.getElem?_set_self hi⟩
theorem Psb.len (s : Psb H0 i B h) : h.length = H0.length := by
  obtain ⟨_, p, _, rfl⟩ := s
  exact List.length_set
theorem Psb.fin {h' : Hh} {w : W} (s : Psb H0 i B h) (s' : Psb H0 i B' h') (hn : nor w = true) : Ti.fin .deep h.length w h' = .ok (w, h') := fin_same hn (by rw [s.len, s'.len])
/-- a new cell behind -/
theorem Psb.push {c : Cell} (s : Psb H0 i B h) : Psb (H0 ++ [c]) i B (h ++ [c]) := by
  obtain ⟨hi, p, o, rfl⟩ := s
  exact ⟨by rw [List.length_append]; omega, p, o, by rw [List.set_append_left _ _ hi]⟩
theorem Psb.pop {c : Cell} (s : Psb (H0 ++ [c]) i B h) (hi : i < H0.length) : ∃ h', h = h' ++ [c] ∧ Psb H0 i B h' := by
  obtain ⟨_, p, o, rfl⟩ := s
  exact ⟨H0.set i p.cell, List.set_append_left _ _ hi, hi, p, o, rfl⟩
theorem T_drawB (s : Psb H0 i B h) (hB : B < 2 ^ 63) {m : Int} (hm : 0 < m) (hm2 : m < 2 ^ 200) : T (f__law_draw [.ref i, .int m] h) fun q => ∃ (v : Nat) (h' : Hh), q = (.int (v : Int), h') ∧ (v : Int) < m ∧ Psb H0 i (B + 10) h' := by
  obtain ⟨hi, p, o, rfl⟩ := s
  obtain ⟨v, p', v0, v1, o', e⟩ := drawB_run (List.getElem?_set_self hi) o (by omega) hm hm2
  exact T.of e ⟨v.toNat, _, by rw [Int.toNat_of_nonneg v0], by omega, hi, p', o', by rw [List.set_set]⟩
end
end Ti


/-! Ti: widths, texts, wishes, things drawn, the second form. -/
namespace Ti
open PySem Pr
/-- signs, at least one, at most n -/
structure Sig (n : Nat) (l : List Nat) : Prop where
  ne : l ≠ []
  sg : ∀ c ∈ l, c ∈ signs
  len : l.length ≤ n
section
variable {H0 h : Hh} {i B B' : Nat} {a : Option W}
theorem T_widthB (s : Psb H0 i B h) (hB : B < 2 ^ 62) : T (f__law_width [.ref i] h) fun q => ∃ (w : Option Nat) (h' : Hh), q = (wW w, h') ∧ WdO w ∧ Psb H0 i (B + 40) h' := by
  unfold f__law_width b__law_width
  simp only [r_run, List.map_cons, List.map_nil, List.length_cons, List.length_nil, List.replicate, List.cons_append, List.nil_append, List.append_nil, List.set_cons_zero, List.set_cons_succ, List.set_nil, Nat.sub_self, Nat.zero_add, Nat.reduceAdd, Nat.reduceSub, Nat.reduceEqDiff, Nat.reduceLeDiff, Res.bind_ok, ofO_some, T_ok, T_bind, if_true, if_false, Bool.false_eq_true, Bool.not_true, Bool.not_false, r_eK, r_eV0, r_eVs, r_e1, r_e2, r_e3, r_eL0, r_eLs, r_eF, r_eAnd, r_eOr, r_eNot, r_eIf, r_eTree, r_eLst, r_eTup, r_eDic, r_tN, r_tL0, r_tLs, r_tT, r_sNil, r_sPass, r_sE, r_sAsg, r_sRet, r_sRetN, r_sBrk, r_sCnt, r_sIf, r_sSet, r_sCons, r_sFor, r_eCall, r_l1, r_l2, r_l3, r_eM, r_eComp, r_eChain, andThen_nx, andThen_rt, andThen_bk, andThen_ct, hb_nx, hb_rt, fin_raw, fin_int, fin_bl, fin_str, fin_non, truthy_bl, truthy_non, truthy_int, add_int, sub_int, lt_int, le_int, gt_int, ge_int, is_non, isN_non, isNon_non, isNon_int, isNon_str, fiL_lst, fiL_tup, fiL_str, decide_true, decide_false, decide_eq_true_eq, lineW_eq, mkL_f, mkL_t, Nat.reduceLeDiff, ix_tup3_0, ix_tup3_1, ix_tup3_2, ix_tup2_0, ix_tup2_1, sl_tup3_1, r_forG0, r_forGs, nextF_nx, nextF_ct, nextF_bk, nextF_rt, nW_none, nW_some, Option.isNone_none, Option.isNone_some]
  refine T.mono (T_drawB s (by omega) (by decide) (by decide)) ?_
  rintro _ ⟨v1, h1, rfl, l1, s1⟩
  simp only [r_run, List.map_cons, List.map_nil, List.length_cons, List.length_nil, List.replicate, List.cons_append, List.nil_append, List.append_nil, List.set_cons_zero, List.set_cons_succ, List.set_nil, Nat.sub_self, Nat.zero_add, Nat.reduceAdd, Nat.reduceSub, Nat.reduceEqDiff, Nat.reduceLeDiff, Res.bind_ok, ofO_some, T_ok, T_bind, if_true, if_false, Bool.false_eq_true, Bool.not_true, Bool.not_false, r_eK, r_eV0, r_eVs, r_e1, r_e2, r_e3, r_eL0, r_eLs, r_eF, r_eAnd, r_eOr, r_eNot, r_eIf, r_eTree, r_eLst, r_eTup, r_eDic, r_tN, r_tL0, r_tLs, r_tT, r_sNil, r_sPass, r_sE, r_sAsg, r_sRet, r_sRetN, r_sBrk, r_sCnt, r_sIf, r_sSet, r_sCons, r_sFor, r_eCall, r_l1, r_l2, r_l3, r_eM, r_eComp, r_eChain, andThen_nx, andThen_rt, andThen_bk, andThen_ct, hb_nx, hb_rt, fin_raw, fin_int, fin_bl, fin_str, fin_non, truthy_bl, truthy_non, truthy_int, add_int, sub_int, lt_int, le_int, gt_int, ge_int, is_non, isN_non, isNon_non, isNon_int, isNon_str, fiL_lst, fiL_tup, fiL_str, decide_true, decide_false, decide_eq_true_eq, lineW_eq, mkL_f, mkL_t, Nat.reduceLeDiff, ix_tup3_0, ix_tup3_1, ix_tup3_2, ix_tup2_0, ix_tup2_1, sl_tup3_1, r_forG0, r_forGs, nextF_nx, nextF_ct, nextF_bk, nextF_rt, nW_none, nW_some, Option.isNone_none, Option.isNone_some]
  refine T.mono (T_drawB s1 (by omega) (by decide) (by decide)) ?_
  rintro _ ⟨v2, h2, rfl, l2, s2⟩
  simp only [r_run, List.map_cons, List.map_nil, List.length_cons, List.length_nil, List.replicate, List.cons_append, List.nil_append, List.append_nil, List.set_cons_zero, List.set_cons_succ, List.set_nil, Nat.sub_self, Nat.zero_add, Nat.reduceAdd, Nat.reduceSub, Nat.reduceEqDiff, Nat.reduceLeDiff, Res.bind_ok, ofO_some, T_ok, T_bind, if_true, if_false, Bool.false_eq_true, Bool.not_true, Bool.not_false, r_eK, r_eV0, r_eVs, r_e1, r_e2, r_e3, r_eL0, r_eLs, r_eF, r_eAnd, r_eOr, r_eNot, r_eIf, r_eTree, r_eLst, r_eTup, r_eDic, r_tN, r_tL0, r_tLs, r_tT, r_sNil, r_sPass, r_sE, r_sAsg, r_sRet, r_sRetN, r_sBrk, r_sCnt, r_sIf, r_sSet, r_sCons, r_sFor, r_eCall, r_l1, r_l2, r_l3, r_eM, r_eComp, r_eChain, andThen_nx, andThen_rt, andThen_bk, andThen_ct, hb_nx, hb_rt, fin_raw, fin_int, fin_bl, fin_str, fin_non, truthy_bl, truthy_non, truthy_int, add_int, sub_int, lt_int, le_int, gt_int, ge_int, is_non, isN_non, isNon_non, isNon_int, isNon_str, fiL_lst, fiL_tup, fiL_str, decide_true, decide_false, decide_eq_true_eq, lineW_eq, mkL_f, mkL_t, Nat.reduceLeDiff, ix_tup3_0, ix_tup3_1, ix_tup3_2, ix_tup2_0, ix_tup2_1, sl_tup3_1, r_forG0, r_forGs, nextF_nx, nextF_ct, nextF_bk, nextF_rt, nW_none, nW_some, Option.isNone_none, Option.isNone_some]
  refine T.mono (T_drawB s2 (by omega) (by decide) (by decide)) ?_
  rintro _ ⟨v3, h3, rfl, l3, s3⟩
  simp only [r_run, List.map_cons, List.map_nil, List.length_cons, List.length_nil, List.replicate, List.cons_append, List.nil_append, List.append_nil, List.set_cons_zero, List.set_cons_succ, List.set_nil, Nat.sub_self, Nat.zero_add, Nat.reduceAdd, Nat.reduceSub, Nat.reduceEqDiff, Nat.reduceLeDiff, Res.bind_ok, ofO_some, T_ok, T_bind, if_true, if_false, Bool.false_eq_true, Bool.not_true, Bool.not_false, r_eK, r_eV0, r_eVs, r_e1, r_e2, r_e3, r_eL0, r_eLs, r_eF, r_eAnd, r_eOr, r_eNot, r_eIf, r_eTree, r_eLst, r_eTup, r_eDic, r_tN, r_tL0, r_tLs, r_tT, r_sNil, r_sPass, r_sE, r_sAsg, r_sRet, r_sRetN, r_sBrk, r_sCnt, r_sIf, r_sSet, r_sCons, r_sFor, r_eCall, r_l1, r_l2, r_l3, r_eM, r_eComp, r_eChain, andThen_nx, andThen_rt, andThen_bk, andThen_ct, hb_nx, hb_rt, fin_raw, fin_int, fin_bl, fin_str, fin_non, truthy_bl, truthy_non, truthy_int, add_int, sub_int, lt_int, le_int, gt_int, ge_int, is_non, isN_non, isNon_non, isNon_int, isNon_str, fiL_lst, fiL_tup, fiL_str, decide_true, decide_false, decide_eq_true_eq, lineW_eq, mkL_f, mkL_t, Nat.reduceLeDiff, ix_tup3_0, ix_tup3_1, ix_tup3_2, ix_tup2_0, ix_tup2_1, sl_tup3_1, r_forG0, r_forGs, nextF_nx, nextF_ct, nextF_bk, nextF_rt, nW_none, nW_some, Option.isNone_none, Option.isNone_some]
  refine T.mono (T_drawB s3 (by omega) (by decide) (by decide)) ?_
  rintro _ ⟨v4, h4, rfl, l4, s4⟩
  obtain ⟨x, hx, e3⟩ := ix_lst (h := h4) (ws := [.non, .non, .int (1 + v1), .int (1 + v2), .int (2 + v3), .int 3]) (v := (v4 : Int)) (by omega) (by simp only [List.length_cons, List.length_nil]; omega)
  have key : ∃ w, x = wW w ∧ WdO w := by
    have f : ∀ (k : Nat) (n : Int), n = (k : Int) → 1 ≤ k → k ≤ 40 → ∃ w, W.int n = wW w ∧ WdO w := fun k n e h1 h2 => ⟨some k, by rw [e]; exact (wW_some).symm, fun j e => by cases e; exact ⟨h1, h2⟩⟩
    have g : ∃ w, W.non = wW w ∧ WdO w := ⟨none, rfl, fun k e => nomatch e⟩
    simp only [List.mem_cons, List.not_mem_nil, or_false] at hx
    rcases hx with rfl | rfl | rfl | rfl | rfl | rfl
    · exact g
    · exact g
    · exact f (1 + v1) _ (by omega) (by omega) (by omega)
    · exact f (1 + v2) _ (by omega) (by omega) (by omega)
    · exact f (2 + v3) _ (by omega) (by omega) (by omega)
    · exact f 3 _ rfl (by omega) (by omega)
  obtain ⟨w, rfl, hw⟩ := key
  simp only [r_run, List.map_cons, List.map_nil, List.length_cons, List.length_nil, List.replicate, List.cons_append, List.nil_append, List.append_nil, List.set_cons_zero, List.set_cons_succ, List.set_nil, Nat.sub_self, Nat.zero_add, Nat.reduceAdd, Nat.reduceSub, Nat.reduceEqDiff, Nat.reduceLeDiff, Res.bind_ok, ofO_some, T_ok, T_bind, if_true, if_false, Bool.false_eq_true, Bool.not_true, Bool.not_false, r_eK, r_eV0, r_eVs, r_e1, r_e2, r_e3, r_eL0, r_eLs, r_eF, r_eAnd, r_eOr, r_eNot, r_eIf, r_eTree, r_eLst, r_eTup, r_eDic, r_tN, r_tL0, r_tLs, r_tT, r_sNil, r_sPass, r_sE, r_sAsg, r_sRet, r_sRetN, r_sBrk, r_sCnt, r_sIf, r_sSet, r_sCons, r_sFor, r_eCall, r_l1, r_l2, r_l3, r_eM, r_eComp, r_eChain, andThen_nx, andThen_rt, andThen_bk, andThen_ct, hb_nx, hb_rt, fin_raw, fin_int, fin_bl, fin_str, fin_non, truthy_bl, truthy_non, truthy_int, add_int, sub_int, lt_int, le_int, gt_int, ge_int, is_non, isN_non, isNon_non, isNon_int, isNon_str, fiL_lst, fiL_tup, fiL_str, decide_true, decide_false, decide_eq_true_eq, lineW_eq, mkL_f, mkL_t, Nat.reduceLeDiff, ix_tup3_0, ix_tup3_1, ix_tup3_2, ix_tup2_0, ix_tup2_1, sl_tup3_1, r_forG0, r_forGs, nextF_nx, nextF_ct, nextF_bk, nextF_rt, nW_none, nW_some, Option.isNone_none, Option.isNone_some, e3, s.fin s4 nor_wW]
  exact ⟨w, _, rfl, hw, s4⟩
theorem T_textB (s : Psb H0 i B h) (hB : B < 2 ^ 62) {m : Nat} (hm : 0 < m) (hm2 : m ≤ 38) : T (f__law_text [.ref i, .int (m : Int)] h) fun q => ∃ (l : List Nat) (h' : Hh), q = (.str (mkS l), h') ∧ Sig m l ∧ Psb H0 i (B + 400) h' := by
  unfold f__law_text b__law_text
  simp only [r_run, List.map_cons, List.map_nil, List.length_cons, List.length_nil, List.replicate, List.cons_append, List.nil_append, List.append_nil, List.set_cons_zero, List.set_cons_succ, List.set_nil, Nat.sub_self, Nat.zero_add, Nat.reduceAdd, Nat.reduceSub, Nat.reduceEqDiff, Nat.reduceLeDiff, Res.bind_ok, ofO_some, T_ok, T_bind, if_true, if_false, Bool.false_eq_true, Bool.not_true, Bool.not_false, r_eK, r_eV0, r_eVs, r_e1, r_e2, r_e3, r_eL0, r_eLs, r_eF, r_eAnd, r_eOr, r_eNot, r_eIf, r_eTree, r_eLst, r_eTup, r_eDic, r_tN, r_tL0, r_tLs, r_tT, r_sNil, r_sPass, r_sE, r_sAsg, r_sRet, r_sRetN, r_sBrk, r_sCnt, r_sIf, r_sSet, r_sCons, r_sFor, r_eCall, r_l1, r_l2, r_l3, r_eM, r_eComp, r_eChain, andThen_nx, andThen_rt, andThen_bk, andThen_ct, hb_nx, hb_rt, fin_raw, fin_int, fin_bl, fin_str, fin_non, truthy_bl, truthy_non, truthy_int, add_int, sub_int, lt_int, le_int, gt_int, ge_int, is_non, isN_non, isNon_non, isNon_int, isNon_str, fiL_lst, fiL_tup, fiL_str, decide_true, decide_false, decide_eq_true_eq, lineW_eq, mkL_f, mkL_t, Nat.reduceLeDiff, ix_tup3_0, ix_tup3_1, ix_tup3_2, ix_tup2_0, ix_tup2_1, sl_tup3_1, r_forG0, r_forGs, nextF_nx, nextF_ct, nextF_bk, nextF_rt, nW_none, nW_some, Option.isNone_none, Option.isNone_some]
  refine T.mono (T_drawB s (by omega) (by omega) (by omega)) ?_
  rintro _ ⟨n, h1, rfl, l1, s1⟩
  have en : (1 : Int) + (n : Int) = ((n + 1 : Nat) : Int) := by omega
  simp only [r_run, List.map_cons, List.map_nil, List.length_cons, List.length_nil, List.replicate, List.cons_append, List.nil_append, List.append_nil, List.set_cons_zero, List.set_cons_succ, List.set_nil, Nat.sub_self, Nat.zero_add, Nat.reduceAdd, Nat.reduceSub, Nat.reduceEqDiff, Nat.reduceLeDiff, Res.bind_ok, ofO_some, T_ok, T_bind, if_true, if_false, Bool.false_eq_true, Bool.not_true, Bool.not_false, r_eK, r_eV0, r_eVs, r_e1, r_e2, r_e3, r_eL0, r_eLs, r_eF, r_eAnd, r_eOr, r_eNot, r_eIf, r_eTree, r_eLst, r_eTup, r_eDic, r_tN, r_tL0, r_tLs, r_tT, r_sNil, r_sPass, r_sE, r_sAsg, r_sRet, r_sRetN, r_sBrk, r_sCnt, r_sIf, r_sSet, r_sCons, r_sFor, r_eCall, r_l1, r_l2, r_l3, r_eM, r_eComp, r_eChain, andThen_nx, andThen_rt, andThen_bk, andThen_ct, hb_nx, hb_rt, fin_raw, fin_int, fin_bl, fin_str, fin_non, truthy_bl, truthy_non, truthy_int, add_int, sub_int, lt_int, le_int, gt_int, ge_int, is_non, isN_non, isNon_non, isNon_int, isNon_str, fiL_lst, fiL_tup, fiL_str, decide_true, decide_false, decide_eq_true_eq, lineW_eq, mkL_f, mkL_t, Nat.reduceLeDiff, ix_tup3_0, ix_tup3_1, ix_tup3_2, ix_tup2_0, ix_tup2_1, sl_tup3_1, r_forG0, r_forGs, nextF_nx, nextF_ct, nextF_bk, nextF_rt, nW_none, nW_some, Option.isNone_none, Option.isNone_some, en, range_nat (h := h1) (n := n + 1) (by omega)]
  refine T.mono (T_range (Q := fun q => ∃ (l : List Nat) (x : Option W) (h' : Hh), q = (.nx, [some (.ref i), some (.int (m : Int)), some (.str (mkS abc)), some (.str (mkS l)), x], h') ∧ Sig m l ∧ Psb H0 i (B + 400) h')
    (fun j ρ h => ∃ (l : List Nat) (x : Option W), ρ = [some (.ref i), some (.int (m : Int)), some (.str (mkS abc)), some (.str (mkS l)), x] ∧ l.length = j ∧ (∀ c ∈ l, c ∈ signs) ∧ Psb H0 i (B + 10 + 10 * j) h) ⟨[], none, rfl, rfl, fun _ h => (nomatch h), s1⟩ ?_ ?_) ?_
  · rintro j ρ h hj ⟨l, x0, rfl, hl, hs, sj⟩
    simp only [r_run, List.map_cons, List.map_nil, List.length_cons, List.length_nil, List.replicate, List.cons_append, List.nil_append, List.append_nil, List.set_cons_zero, List.set_cons_succ, List.set_nil, Nat.sub_self, Nat.zero_add, Nat.reduceAdd, Nat.reduceSub, Nat.reduceEqDiff, Nat.reduceLeDiff, Res.bind_ok, ofO_some, T_ok, T_bind, if_true, if_false, Bool.false_eq_true, Bool.not_true, Bool.not_false, r_eK, r_eV0, r_eVs, r_e1, r_e2, r_e3, r_eL0, r_eLs, r_eF, r_eAnd, r_eOr, r_eNot, r_eIf, r_eTree, r_eLst, r_eTup, r_eDic, r_tN, r_tL0, r_tLs, r_tT, r_sNil, r_sPass, r_sE, r_sAsg, r_sRet, r_sRetN, r_sBrk, r_sCnt, r_sIf, r_sSet, r_sCons, r_sFor, r_eCall, r_l1, r_l2, r_l3, r_eM, r_eComp, r_eChain, andThen_nx, andThen_rt, andThen_bk, andThen_ct, hb_nx, hb_rt, fin_raw, fin_int, fin_bl, fin_str, fin_non, truthy_bl, truthy_non, truthy_int, add_int, sub_int, lt_int, le_int, gt_int, ge_int, is_non, isN_non, isNon_non, isNon_int, isNon_str, fiL_lst, fiL_tup, fiL_str, decide_true, decide_false, decide_eq_true_eq, lineW_eq, mkL_f, mkL_t, Nat.reduceLeDiff, ix_tup3_0, ix_tup3_1, ix_tup3_2, ix_tup2_0, ix_tup2_1, sl_tup3_1, r_forG0, r_forGs, nextF_nx, nextF_ct, nextF_bk, nextF_rt, nW_none, nW_some, Option.isNone_none, Option.isNone_some]
    refine T.mono (T_drawB sj (by omega) (by decide) (by decide)) ?_
    rintro _ ⟨u, h2, rfl, l2, s2⟩
    obtain ⟨c, hc, e3⟩ := ix_sign (h := h2) (l := abc) (v := (u : Int)) (by omega) (by show (u : Int) < 37; omega) (by decide)
    simp only [r_run, List.map_cons, List.map_nil, List.length_cons, List.length_nil, List.replicate, List.cons_append, List.nil_append, List.append_nil, List.set_cons_zero, List.set_cons_succ, List.set_nil, Nat.sub_self, Nat.zero_add, Nat.reduceAdd, Nat.reduceSub, Nat.reduceEqDiff, Nat.reduceLeDiff, Res.bind_ok, ofO_some, T_ok, T_bind, if_true, if_false, Bool.false_eq_true, Bool.not_true, Bool.not_false, r_eK, r_eV0, r_eVs, r_e1, r_e2, r_e3, r_eL0, r_eLs, r_eF, r_eAnd, r_eOr, r_eNot, r_eIf, r_eTree, r_eLst, r_eTup, r_eDic, r_tN, r_tL0, r_tLs, r_tT, r_sNil, r_sPass, r_sE, r_sAsg, r_sRet, r_sRetN, r_sBrk, r_sCnt, r_sIf, r_sSet, r_sCons, r_sFor, r_eCall, r_l1, r_l2, r_l3, r_eM, r_eComp, r_eChain, andThen_nx, andThen_rt, andThen_bk, andThen_ct, hb_nx, hb_rt, fin_raw, fin_int, fin_bl, fin_str, fin_non, truthy_bl, truthy_non, truthy_int, add_int, sub_int, lt_int, le_int, gt_int, ge_int, is_non, isN_non, isNon_non, isNon_int, isNon_str, fiL_lst, fiL_tup, fiL_str, decide_true, decide_false, decide_eq_true_eq, lineW_eq, mkL_f, mkL_t, Nat.reduceLeDiff, ix_tup3_0, ix_tup3_1, ix_tup3_2, ix_tup2_0, ix_tup2_1, sl_tup3_1, r_forG0, r_forGs, nextF_nx, nextF_ct, nextF_bk, nextF_rt, nW_none, nW_some, Option.isNone_none, Option.isNone_some, e3, add_str (h := h2) (k := false) (a := l) (b := [c]) (by simp only [List.length_cons, List.length_nil]; omega)]
    refine ⟨l ++ [c], _, rfl, by rw [List.length_append, hl]; rfl, fun d hd => ?_, s2.mono (by omega)⟩
    rcases List.mem_append.mp hd with hd | hd
    · exact hs d hd
    · rw [List.mem_singleton.mp hd]; exact abc_sign hc
  · rintro ρ h ⟨l, x0, rfl, hl, hs, sj⟩
    exact ⟨l, x0, h, rfl, ⟨fun e => by rw [e] at hl; simp at hl, hs, by omega⟩, sj.mono (by omega)⟩
  · rintro _ ⟨l, x0, h2, rfl, hl, s2⟩
    simp only [r_run, List.map_cons, List.map_nil, List.length_cons, List.length_nil, List.replicate, List.cons_append, List.nil_append, List.append_nil, List.set_cons_zero, List.set_cons_succ, List.set_nil, Nat.sub_self, Nat.zero_add, Nat.reduceAdd, Nat.reduceSub, Nat.reduceEqDiff, Nat.reduceLeDiff, Res.bind_ok, ofO_some, T_ok, T_bind, if_true, if_false, Bool.false_eq_true, Bool.not_true, Bool.not_false, r_eK, r_eV0, r_eVs, r_e1, r_e2, r_e3, r_eL0, r_eLs, r_eF, r_eAnd, r_eOr, r_eNot, r_eIf, r_eTree, r_eLst, r_eTup, r_eDic, r_tN, r_tL0, r_tLs, r_tT, r_sNil, r_sPass, r_sE, r_sAsg, r_sRet, r_sRetN, r_sBrk, r_sCnt, r_sIf, r_sSet, r_sCons, r_sFor, r_eCall, r_l1, r_l2, r_l3, r_eM, r_eComp, r_eChain, andThen_nx, andThen_rt, andThen_bk, andThen_ct, hb_nx, hb_rt, fin_raw, fin_int, fin_bl, fin_str, fin_non, truthy_bl, truthy_non, truthy_int, add_int, sub_int, lt_int, le_int, gt_int, ge_int, is_non, isN_non, isNon_non, isNon_int, isNon_str, fiL_lst, fiL_tup, fiL_str, decide_true, decide_false, decide_eq_true_eq, lineW_eq, mkL_f, mkL_t, Nat.reduceLeDiff, ix_tup3_0, ix_tup3_1, ix_tup3_2, ix_tup2_0, ix_tup2_1, sl_tup3_1, r_forG0, r_forGs, nextF_nx, nextF_ct, nextF_bk, nextF_rt, nW_none, nW_some, Option.isNone_none, Option.isNone_some, s.fin s2 nor_str]
    exact ⟨l, h2, rfl, hl, s2⟩
theorem T_stemsB (s : Psb H0 i B h) (hB : B < 2 ^ 61) : T (f__law_stems [.ref i] h) fun q => ∃ (ls : List (List Nat)) (h' : Hh), q = (namesW ls, h') ∧ ls ≠ [] ∧ ls.length ≤ 3 ∧ (∀ l ∈ ls, Sig 38 l) ∧ Psb H0 i (B + 2000) h' := by
  have hi : i < H0.length := s.1
  unfold f__law_stems b__law_stems
  simp only [r_run, List.map_cons, List.map_nil, List.length_cons, List.length_nil, List.replicate, List.cons_append, List.nil_append, List.append_nil, List.set_cons_zero, List.set_cons_succ, List.set_nil, Nat.sub_self, Nat.zero_add, Nat.reduceAdd, Nat.reduceSub, Nat.reduceEqDiff, Nat.reduceLeDiff, Res.bind_ok, ofO_some, T_ok, T_bind, if_true, if_false, Bool.false_eq_true, Bool.not_true, Bool.not_false, r_eK, r_eV0, r_eVs, r_e1, r_e2, r_e3, r_eL0, r_eLs, r_eF, r_eAnd, r_eOr, r_eNot, r_eIf, r_eTree, r_eLst, r_eTup, r_eDic, r_tN, r_tL0, r_tLs, r_tT, r_sNil, r_sPass, r_sE, r_sAsg, r_sRet, r_sRetN, r_sBrk, r_sCnt, r_sIf, r_sSet, r_sCons, r_sFor, r_eCall, r_l1, r_l2, r_l3, r_eM, r_eComp, r_eChain, andThen_nx, andThen_rt, andThen_bk, andThen_ct, hb_nx, hb_rt, fin_raw, fin_int, fin_bl, fin_str, fin_non, truthy_bl, truthy_non, truthy_int, add_int, sub_int, lt_int, le_int, gt_int, ge_int, is_non, isN_non, isNon_non, isNon_int, isNon_str, fiL_lst, fiL_tup, fiL_str, decide_true, decide_false, decide_eq_true_eq, lineW_eq, mkL_f, mkL_t, Nat.reduceLeDiff, ix_tup3_0, ix_tup3_1, ix_tup3_2, ix_tup2_0, ix_tup2_1, sl_tup3_1, r_forG0, r_forGs, nextF_nx, nextF_ct, nextF_bk, nextF_rt, nW_none, nW_some, Option.isNone_none, Option.isNone_some, mkL_t (ws := []) (h := h) rfl (by decide)]
  refine T.mono (T_drawB (s.push (c := .lst [])) (by omega) (by decide) (by decide)) ?_
  rintro _ ⟨n, h1, rfl, l1, s1⟩
  have en : (1 : Int) + (n : Int) = ((n + 1 : Nat) : Int) := by omega
  simp only [r_run, List.map_cons, List.map_nil, List.length_cons, List.length_nil, List.replicate, List.cons_append, List.nil_append, List.append_nil, List.set_cons_zero, List.set_cons_succ, List.set_nil, Nat.sub_self, Nat.zero_add, Nat.reduceAdd, Nat.reduceSub, Nat.reduceEqDiff, Nat.reduceLeDiff, Res.bind_ok, ofO_some, T_ok, T_bind, if_true, if_false, Bool.false_eq_true, Bool.not_true, Bool.not_false, r_eK, r_eV0, r_eVs, r_e1, r_e2, r_e3, r_eL0, r_eLs, r_eF, r_eAnd, r_eOr, r_eNot, r_eIf, r_eTree, r_eLst, r_eTup, r_eDic, r_tN, r_tL0, r_tLs, r_tT, r_sNil, r_sPass, r_sE, r_sAsg, r_sRet, r_sRetN, r_sBrk, r_sCnt, r_sIf, r_sSet, r_sCons, r_sFor, r_eCall, r_l1, r_l2, r_l3, r_eM, r_eComp, r_eChain, andThen_nx, andThen_rt, andThen_bk, andThen_ct, hb_nx, hb_rt, fin_raw, fin_int, fin_bl, fin_str, fin_non, truthy_bl, truthy_non, truthy_int, add_int, sub_int, lt_int, le_int, gt_int, ge_int, is_non, isN_non, isNon_non, isNon_int, isNon_str, fiL_lst, fiL_tup, fiL_str, decide_true, decide_false, decide_eq_true_eq, lineW_eq, mkL_f, mkL_t, Nat.reduceLeDiff, ix_tup3_0, ix_tup3_1, ix_tup3_2, ix_tup2_0, ix_tup2_1, sl_tup3_1, r_forG0, r_forGs, nextF_nx, nextF_ct, nextF_bk, nextF_rt, nW_none, nW_some, Option.isNone_none, Option.isNone_some, en, range_nat (h := h1) (n := n + 1) (by omega)]
  obtain ⟨g1, rfl, t1⟩ := s1.pop hi
  refine T.mono (T_range (Q := fun q => ∃ (ls : List (List Nat)) (x : Option W) (h' : Hh), q = (.nx, [some (.ref i), some (.ref h.length), x], h' ++ [.lst (ls.map stW)]) ∧ ls.length = n + 1 ∧ (∀ l ∈ ls, Sig 38 l) ∧ Psb H0 i (B + 2000) h')
    (fun j ρ h2 => ∃ (ls : List (List Nat)) (x : Option W) (h' : Hh), ρ = [some (.ref i), some (.ref h.length), x] ∧ h2 = h' ++ [.lst (ls.map stW)] ∧ ls.length = j ∧ (∀ l ∈ ls, Sig 38 l) ∧ Psb H0 i (B + 10 + 500 * j) h') ⟨[], none, g1, rfl, rfl, rfl, fun _ h => (nomatch h), t1⟩ ?_ ?_) ?_
  · rintro j ρ _ hj ⟨ls, x0, h', rfl, rfl, hl, hs, sj⟩
    have el : h.length = h'.length := by rw [s.len, sj.len]
    simp only [r_run, List.map_cons, List.map_nil, List.length_cons, List.length_nil, List.replicate, List.cons_append, List.nil_append, List.append_nil, List.set_cons_zero, List.set_cons_succ, List.set_nil, Nat.sub_self, Nat.zero_add, Nat.reduceAdd, Nat.reduceSub, Nat.reduceEqDiff, Nat.reduceLeDiff, Res.bind_ok, ofO_some, T_ok, T_bind, if_true, if_false, Bool.false_eq_true, Bool.not_true, Bool.not_false, r_eK, r_eV0, r_eVs, r_e1, r_e2, r_e3, r_eL0, r_eLs, r_eF, r_eAnd, r_eOr, r_eNot, r_eIf, r_eTree, r_eLst, r_eTup, r_eDic, r_tN, r_tL0, r_tLs, r_tT, r_sNil, r_sPass, r_sE, r_sAsg, r_sRet, r_sRetN, r_sBrk, r_sCnt, r_sIf, r_sSet, r_sCons, r_sFor, r_eCall, r_l1, r_l2, r_l3, r_eM, r_eComp, r_eChain, andThen_nx, andThen_rt, andThen_bk, andThen_ct, hb_nx, hb_rt, fin_raw, fin_int, fin_bl, fin_str, fin_non, truthy_bl, truthy_non, truthy_int, add_int, sub_int, lt_int, le_int, gt_int, ge_int, is_non, isN_non, isNon_non, isNon_int, isNon_str, fiL_lst, fiL_tup, fiL_str, decide_true, decide_false, decide_eq_true_eq, lineW_eq, mkL_f, mkL_t, Nat.reduceLeDiff, ix_tup3_0, ix_tup3_1, ix_tup3_2, ix_tup2_0, ix_tup2_1, sl_tup3_1, r_forG0, r_forGs, nextF_nx, nextF_ct, nextF_bk, nextF_rt, nW_none, nW_some, Option.isNone_none, Option.isNone_some, el, isL_new, r_eM]
    refine T.mono (T_drawB (sj.push (c := .lst (ls.map stW))) (by omega) (by decide) (by decide)) ?_
    rintro _ ⟨u, h2, rfl, l2, s2⟩
    obtain ⟨x, hx, e3⟩ := ix_lst (h := h2) (ws := [.int 1, .int 2, .int 4, .int 12, .int 38]) (v := (u : Int)) (by omega) (by simp only [List.length_cons, List.length_nil]; omega)
    have key : ∃ m : Nat, x = .int (m : Int) ∧ 0 < m ∧ m ≤ 38 := by
      simp only [List.mem_cons, List.not_mem_nil, or_false] at hx
      rcases hx with rfl | rfl | rfl | rfl | rfl
      · exact ⟨1, rfl, by omega, by omega⟩
      · exact ⟨2, rfl, by omega, by omega⟩
      · exact ⟨4, rfl, by omega, by omega⟩
      · exact ⟨12, rfl, by omega, by omega⟩
      · exact ⟨38, rfl, by omega, by omega⟩
    obtain ⟨m, rfl, m1, m2⟩ := key
    simp only [r_run, List.map_cons, List.map_nil, List.length_cons, List.length_nil, List.replicate, List.cons_append, List.nil_append, List.append_nil, List.set_cons_zero, List.set_cons_succ, List.set_nil, Nat.sub_self, Nat.zero_add, Nat.reduceAdd, Nat.reduceSub, Nat.reduceEqDiff, Nat.reduceLeDiff, Res.bind_ok, ofO_some, T_ok, T_bind, if_true, if_false, Bool.false_eq_true, Bool.not_true, Bool.not_false, r_eK, r_eV0, r_eVs, r_e1, r_e2, r_e3, r_eL0, r_eLs, r_eF, r_eAnd, r_eOr, r_eNot, r_eIf, r_eTree, r_eLst, r_eTup, r_eDic, r_tN, r_tL0, r_tLs, r_tT, r_sNil, r_sPass, r_sE, r_sAsg, r_sRet, r_sRetN, r_sBrk, r_sCnt, r_sIf, r_sSet, r_sCons, r_sFor, r_eCall, r_l1, r_l2, r_l3, r_eM, r_eComp, r_eChain, andThen_nx, andThen_rt, andThen_bk, andThen_ct, hb_nx, hb_rt, fin_raw, fin_int, fin_bl, fin_str, fin_non, truthy_bl, truthy_non, truthy_int, add_int, sub_int, lt_int, le_int, gt_int, ge_int, is_non, isN_non, isNon_non, isNon_int, isNon_str, fiL_lst, fiL_tup, fiL_str, decide_true, decide_false, decide_eq_true_eq, lineW_eq, mkL_f, mkL_t, Nat.reduceLeDiff, ix_tup3_0, ix_tup3_1, ix_tup3_2, ix_tup2_0, ix_tup2_1, sl_tup3_1, r_forG0, r_forGs, nextF_nx, nextF_ct, nextF_bk, nextF_rt, nW_none, nW_some, Option.isNone_none, Option.isNone_some, e3]
    refine T.mono (T_textB s2 (by omega) m1 m2) ?_
    rintro _ ⟨l, h3, rfl, hl3, s3⟩
    obtain ⟨g3, rfl, t3⟩ := s3.pop hi
    have el3 : h'.length = g3.length := by rw [sj.len, t3.len]
    simp only [r_run, List.map_cons, List.map_nil, List.length_cons, List.length_nil, List.replicate, List.cons_append, List.nil_append, List.append_nil, List.set_cons_zero, List.set_cons_succ, List.set_nil, Nat.sub_self, Nat.zero_add, Nat.reduceAdd, Nat.reduceSub, Nat.reduceEqDiff, Nat.reduceLeDiff, Res.bind_ok, ofO_some, T_ok, T_bind, if_true, if_false, Bool.false_eq_true, Bool.not_true, Bool.not_false, r_eK, r_eV0, r_eVs, r_e1, r_e2, r_e3, r_eL0, r_eLs, r_eF, r_eAnd, r_eOr, r_eNot, r_eIf, r_eTree, r_eLst, r_eTup, r_eDic, r_tN, r_tL0, r_tLs, r_tT, r_sNil, r_sPass, r_sE, r_sAsg, r_sRet, r_sRetN, r_sBrk, r_sCnt, r_sIf, r_sSet, r_sCons, r_sFor, r_eCall, r_l1, r_l2, r_l3, r_eM, r_eComp, r_eChain, andThen_nx, andThen_rt, andThen_bk, andThen_ct, hb_nx, hb_rt, fin_raw, fin_int, fin_bl, fin_str, fin_non, truthy_bl, truthy_non, truthy_int, add_int, sub_int, lt_int, le_int, gt_int, ge_int, is_non, isN_non, isNon_non, isNon_int, isNon_str, fiL_lst, fiL_tup, fiL_str, decide_true, decide_false, decide_eq_true_eq, lineW_eq, mkL_f, mkL_t, Nat.reduceLeDiff, ix_tup3_0, ix_tup3_1, ix_tup3_2, ix_tup2_0, ix_tup2_1, sl_tup3_1, r_forG0, r_forGs, nextF_nx, nextF_ct, nextF_bk, nextF_rt, nW_none, nW_some, Option.isNone_none, Option.isNone_some, el3, app_new (h := g3) (ws := ls.map stW) (y := .str (mkS l)) rfl (by rw [List.length_map, hl]; exact Nat.lt_of_lt_of_le (show j < 40 by omega) (by decide))]
    refine ⟨ls ++ [l], _, g3, rfl, by rw [List.map_append]; rfl, by rw [List.length_append, hl]; rfl, fun a ha => ?_, t3.mono (by omega)⟩
    rcases List.mem_append.mp ha with ha | ha
    · exact hs a ha
    · rw [List.mem_singleton.mp ha]
      exact ⟨hl3.ne, hl3.sg, by have := hl3.len; omega⟩
  · rintro ρ _ ⟨ls, x0, h', rfl, rfl, hl, hs, sj⟩
    exact ⟨ls, x0, h', rfl, hl, hs, sj.mono (by omega)⟩
  · rintro _ ⟨ls, x0, h2, rfl, hl, hs, s2⟩
    have el : h.length = h2.length := by rw [s.len, s2.len]
    simp only [r_run, List.map_cons, List.map_nil, List.length_cons, List.length_nil, List.replicate, List.cons_append, List.nil_append, List.append_nil, List.set_cons_zero, List.set_cons_succ, List.set_nil, Nat.sub_self, Nat.zero_add, Nat.reduceAdd, Nat.reduceSub, Nat.reduceEqDiff, Nat.reduceLeDiff, Res.bind_ok, ofO_some, T_ok, T_bind, if_true, if_false, Bool.false_eq_true, Bool.not_true, Bool.not_false, r_eK, r_eV0, r_eVs, r_e1, r_e2, r_e3, r_eL0, r_eLs, r_eF, r_eAnd, r_eOr, r_eNot, r_eIf, r_eTree, r_eLst, r_eTup, r_eDic, r_tN, r_tL0, r_tLs, r_tT, r_sNil, r_sPass, r_sE, r_sAsg, r_sRet, r_sRetN, r_sBrk, r_sCnt, r_sIf, r_sSet, r_sCons, r_sFor, r_eCall, r_l1, r_l2, r_l3, r_eM, r_eComp, r_eChain, andThen_nx, andThen_rt, andThen_bk, andThen_ct, hb_nx, hb_rt, fin_raw, fin_int, fin_bl, fin_str, fin_non, truthy_bl, truthy_non, truthy_int, add_int, sub_int, lt_int, le_int, gt_int, ge_int, is_non, isN_non, isNon_non, isNon_int, isNon_str, fiL_lst, fiL_tup, fiL_str, decide_true, decide_false, decide_eq_true_eq, lineW_eq, mkL_f, mkL_t, Nat.reduceLeDiff, ix_tup3_0, ix_tup3_1, ix_tup3_2, ix_tup2_0, ix_tup2_1, sl_tup3_1, r_forG0, r_forGs, nextF_nx, nextF_ct, nextF_bk, nextF_rt, nW_none, nW_some, Option.isNone_none, Option.isNone_some, el, fin_new_lst]
    exact ⟨ls, h2, rfl, fun e => by rw [e] at hl; simp at hl, by omega, hs, s2⟩
theorem T_endingB (s : Psb H0 i B h) (hB : B < 2 ^ 62) : T (f__law_ending [.ref i] h) fun q => ∃ (l : List Nat) (h' : Hh), q = (.str (mkS l), h') ∧ (∀ c ∈ l, c ∈ signs) ∧ l.length ≤ 6 ∧ Psb H0 i (B + 30) h' := by
  have p6 : ∀ h : Hh, pPow (.int 10) (.int 6) h = .ok (.int 1000000, h) := fun h => rfl
  unfold f__law_ending b__law_ending
  simp only [r_run, List.map_cons, List.map_nil, List.length_cons, List.length_nil, List.replicate, List.cons_append, List.nil_append, List.append_nil, List.set_cons_zero, List.set_cons_succ, List.set_nil, Nat.sub_self, Nat.zero_add, Nat.reduceAdd, Nat.reduceSub, Nat.reduceEqDiff, Nat.reduceLeDiff, Res.bind_ok, ofO_some, T_ok, T_bind, if_true, if_false, Bool.false_eq_true, Bool.not_true, Bool.not_false, r_eK, r_eV0, r_eVs, r_e1, r_e2, r_e3, r_eL0, r_eLs, r_eF, r_eAnd, r_eOr, r_eNot, r_eIf, r_eTree, r_eLst, r_eTup, r_eDic, r_tN, r_tL0, r_tLs, r_tT, r_sNil, r_sPass, r_sE, r_sAsg, r_sRet, r_sRetN, r_sBrk, r_sCnt, r_sIf, r_sSet, r_sCons, r_sFor, r_eCall, r_l1, r_l2, r_l3, r_eM, r_eComp, r_eChain, andThen_nx, andThen_rt, andThen_bk, andThen_ct, hb_nx, hb_rt, fin_raw, fin_int, fin_bl, fin_str, fin_non, truthy_bl, truthy_non, truthy_int, add_int, sub_int, lt_int, le_int, gt_int, ge_int, is_non, isN_non, isNon_non, isNon_int, isNon_str, fiL_lst, fiL_tup, fiL_str, decide_true, decide_false, decide_eq_true_eq, lineW_eq, mkL_f, mkL_t, Nat.reduceLeDiff, ix_tup3_0, ix_tup3_1, ix_tup3_2, ix_tup2_0, ix_tup2_1, sl_tup3_1, r_forG0, r_forGs, nextF_nx, nextF_ct, nextF_bk, nextF_rt, nW_none, nW_some, Option.isNone_none, Option.isNone_some]
  refine T.mono (T_drawB s (by omega) (by decide) (by decide)) ?_
  rintro _ ⟨n, h1, rfl, l1, s1⟩
  have en : (2 : Int) + (n : Int) = ((n + 2 : Nat) : Int) := by omega
  have n2 : n + 2 < 10 ^ 6 := by omega
  simp only [r_run, List.map_cons, List.map_nil, List.length_cons, List.length_nil, List.replicate, List.cons_append, List.nil_append, List.append_nil, List.set_cons_zero, List.set_cons_succ, List.set_nil, Nat.sub_self, Nat.zero_add, Nat.reduceAdd, Nat.reduceSub, Nat.reduceEqDiff, Nat.reduceLeDiff, Res.bind_ok, ofO_some, T_ok, T_bind, if_true, if_false, Bool.false_eq_true, Bool.not_true, Bool.not_false, r_eK, r_eV0, r_eVs, r_e1, r_e2, r_e3, r_eL0, r_eLs, r_eF, r_eAnd, r_eOr, r_eNot, r_eIf, r_eTree, r_eLst, r_eTup, r_eDic, r_tN, r_tL0, r_tLs, r_tT, r_sNil, r_sPass, r_sE, r_sAsg, r_sRet, r_sRetN, r_sBrk, r_sCnt, r_sIf, r_sSet, r_sCons, r_sFor, r_eCall, r_l1, r_l2, r_l3, r_eM, r_eComp, r_eChain, andThen_nx, andThen_rt, andThen_bk, andThen_ct, hb_nx, hb_rt, fin_raw, fin_int, fin_bl, fin_str, fin_non, truthy_bl, truthy_non, truthy_int, add_int, sub_int, lt_int, le_int, gt_int, ge_int, is_non, isN_non, isNon_non, isNon_int, isNon_str, fiL_lst, fiL_tup, fiL_str, decide_true, decide_false, decide_eq_true_eq, lineW_eq, mkL_f, mkL_t, Nat.reduceLeDiff, ix_tup3_0, ix_tup3_1, ix_tup3_2, ix_tup2_0, ix_tup2_1, sl_tup3_1, r_forG0, r_forGs, nextF_nx, nextF_ct, nextF_bk, nextF_rt, nW_none, nW_some, Option.isNone_none, Option.isNone_some, en, str_int (h := h1) n2 (by omega), p6]
  refine T.mono (T_drawB s1 (by omega) (by decide) (by decide)) ?_
  rintro _ ⟨m, h2, rfl, l2, s2⟩
  have m2 : m < 10 ^ 6 := by omega
  simp only [r_run, List.map_cons, List.map_nil, List.length_cons, List.length_nil, List.replicate, List.cons_append, List.nil_append, List.append_nil, List.set_cons_zero, List.set_cons_succ, List.set_nil, Nat.sub_self, Nat.zero_add, Nat.reduceAdd, Nat.reduceSub, Nat.reduceEqDiff, Nat.reduceLeDiff, Res.bind_ok, ofO_some, T_ok, T_bind, if_true, if_false, Bool.false_eq_true, Bool.not_true, Bool.not_false, r_eK, r_eV0, r_eVs, r_e1, r_e2, r_e3, r_eL0, r_eLs, r_eF, r_eAnd, r_eOr, r_eNot, r_eIf, r_eTree, r_eLst, r_eTup, r_eDic, r_tN, r_tL0, r_tLs, r_tT, r_sNil, r_sPass, r_sE, r_sAsg, r_sRet, r_sRetN, r_sBrk, r_sCnt, r_sIf, r_sSet, r_sCons, r_sFor, r_eCall, r_l1, r_l2, r_l3, r_eM, r_eComp, r_eChain, andThen_nx, andThen_rt, andThen_bk, andThen_ct, hb_nx, hb_rt, fin_raw, fin_int, fin_bl, fin_str, fin_non, truthy_bl, truthy_non, truthy_int, add_int, sub_int, lt_int, le_int, gt_int, ge_int, is_non, isN_non, isNon_non, isNon_int, isNon_str, fiL_lst, fiL_tup, fiL_str, decide_true, decide_false, decide_eq_true_eq, lineW_eq, mkL_f, mkL_t, Nat.reduceLeDiff, ix_tup3_0, ix_tup3_1, ix_tup3_2, ix_tup2_0, ix_tup2_1, sl_tup3_1, r_forG0, r_forGs, nextF_nx, nextF_ct, nextF_bk, nextF_rt, nW_none, nW_some, Option.isNone_none, Option.isNone_some, str_int (h := h2) m2 (by omega)]
  have add : ∀ (a b : List W) (h : Hh), a.length + b.length ≤ 20 → pAdd false (.lst a) (.lst b) h = .ok (.lst (a ++ b), h) := fun a b h hl => mkL_f (by rw [List.length_append]; exact Nat.le_trans hl (by decide))
  simp only [r_run, List.map_cons, List.map_nil, List.length_cons, List.length_nil, List.replicate, List.cons_append, List.nil_append, List.append_nil, List.set_cons_zero, List.set_cons_succ, List.set_nil, Nat.sub_self, Nat.zero_add, Nat.reduceAdd, Nat.reduceSub, Nat.reduceEqDiff, Nat.reduceLeDiff, Res.bind_ok, ofO_some, T_ok, T_bind, if_true, if_false, Bool.false_eq_true, Bool.not_true, Bool.not_false, r_eK, r_eV0, r_eVs, r_e1, r_e2, r_e3, r_eL0, r_eLs, r_eF, r_eAnd, r_eOr, r_eNot, r_eIf, r_eTree, r_eLst, r_eTup, r_eDic, r_tN, r_tL0, r_tLs, r_tT, r_sNil, r_sPass, r_sE, r_sAsg, r_sRet, r_sRetN, r_sBrk, r_sCnt, r_sIf, r_sSet, r_sCons, r_sFor, r_eCall, r_l1, r_l2, r_l3, r_eM, r_eComp, r_eChain, andThen_nx, andThen_rt, andThen_bk, andThen_ct, hb_nx, hb_rt, fin_raw, fin_int, fin_bl, fin_str, fin_non, truthy_bl, truthy_non, truthy_int, add_int, sub_int, lt_int, le_int, gt_int, ge_int, is_non, isN_non, isNon_non, isNon_int, isNon_str, fiL_lst, fiL_tup, fiL_str, decide_true, decide_false, decide_eq_true_eq, lineW_eq, mkL_f, mkL_t, Nat.reduceLeDiff, ix_tup3_0, ix_tup3_1, ix_tup3_2, ix_tup2_0, ix_tup2_1, sl_tup3_1, r_forG0, r_forGs, nextF_nx, nextF_ct, nextF_bk, nextF_rt, nW_none, nW_some, Option.isNone_none, Option.isNone_some, add [.str (mkS []), .str (mkS []), .str (mkS [50]), .str (mkS [49]), .str (mkS [48]), .str (mkS [57]), .str (mkS [49, 48]), .str (mkS [48, 50]), .str (mkS [57, 57])] [.str (mkS (numL (n + 2))), .str (mkS (numL m))] h2 (by simp only [List.length_cons, List.length_nil]; omega)]
  refine T.mono (T_drawB s2 (by omega) (by decide) (by decide)) ?_
  rintro _ ⟨u, h3, rfl, l3, s3⟩
  obtain ⟨x, hx, e3⟩ := ix_lst (h := h3) (ws := [.str (mkS []), .str (mkS []), .str (mkS [50]), .str (mkS [49]), .str (mkS [48]), .str (mkS [57]), .str (mkS [49, 48]), .str (mkS [48, 50]), .str (mkS [57, 57]), .str (mkS (numL (n + 2))), .str (mkS (numL m))]) (v := (u : Int)) (by omega) (by simp only [List.length_cons, List.length_nil]; omega)
  have key : ∃ l : List Nat, x = .str (mkS l) ∧ (∀ c ∈ l, c ∈ signs) ∧ l.length ≤ 6 := by
    simp only [List.mem_cons, List.not_mem_nil, or_false] at hx
    rcases hx with rfl | rfl | rfl | rfl | rfl | rfl | rfl | rfl | rfl | rfl | rfl
    all_goals first | exact ⟨_, rfl, fun c hc => dig_sign (numL_digs c hc), numL_len (by omega) ‹_›⟩ | exact ⟨_, rfl, by decide, by decide⟩
  obtain ⟨l, rfl, k1, k2⟩ := key
  simp only [r_run, List.map_cons, List.map_nil, List.length_cons, List.length_nil, List.replicate, List.cons_append, List.nil_append, List.append_nil, List.set_cons_zero, List.set_cons_succ, List.set_nil, Nat.sub_self, Nat.zero_add, Nat.reduceAdd, Nat.reduceSub, Nat.reduceEqDiff, Nat.reduceLeDiff, Res.bind_ok, ofO_some, T_ok, T_bind, if_true, if_false, Bool.false_eq_true, Bool.not_true, Bool.not_false, r_eK, r_eV0, r_eVs, r_e1, r_e2, r_e3, r_eL0, r_eLs, r_eF, r_eAnd, r_eOr, r_eNot, r_eIf, r_eTree, r_eLst, r_eTup, r_eDic, r_tN, r_tL0, r_tLs, r_tT, r_sNil, r_sPass, r_sE, r_sAsg, r_sRet, r_sRetN, r_sBrk, r_sCnt, r_sIf, r_sSet, r_sCons, r_sFor, r_eCall, r_l1, r_l2, r_l3, r_eM, r_eComp, r_eChain, andThen_nx, andThen_rt, andThen_bk, andThen_ct, hb_nx, hb_rt, fin_raw, fin_int, fin_bl, fin_str, fin_non, truthy_bl, truthy_non, truthy_int, add_int, sub_int, lt_int, le_int, gt_int, ge_int, is_non, isN_non, isNon_non, isNon_int, isNon_str, fiL_lst, fiL_tup, fiL_str, decide_true, decide_false, decide_eq_true_eq, lineW_eq, mkL_f, mkL_t, Nat.reduceLeDiff, ix_tup3_0, ix_tup3_1, ix_tup3_2, ix_tup2_0, ix_tup2_1, sl_tup3_1, r_forG0, r_forGs, nextF_nx, nextF_ct, nextF_bk, nextF_rt, nW_none, nW_some, Option.isNone_none, Option.isNone_some, e3, s.fin s3 nor_str]
  exact ⟨l, _, rfl, k1, k2, s3.mono (by omega)⟩
theorem len_names {ls : List (List Nat)} : pLen (namesW ls) h = .ok (.int (ls.length : Int), h) := by
  show Res.ok (W.int ((ls.map stW).length : Int), h) = _
  rw [List.length_map]
theorem ix_names {ls : List (List Nat)} {v : Nat} (hv : v < ls.length) : ∃ l ∈ ls, pIx (namesW ls) (.int (v : Int)) h = .ok (.str (mkS l), h) := by
  obtain ⟨w, hw, e⟩ := ix_lst (h := h) (ws := ls.map stW) (v := (v : Int)) (by omega) (by rw [List.length_map]; omega)
  obtain ⟨l, hl, rfl⟩ := List.mem_map.mp hw
  exact ⟨l, hl, e⟩
/-- a name drawn, as far as it goes -/
theorem take_sig {l : List Nat} {n k : Nat} (hs : Sig k l) (hn : 0 < n) (hn2 : n ≤ 40) : l.take n ≠ [] ∧ (∀ c ∈ l.take n, c ∈ signs) ∧ (l.take n).length ≤ n := by
  refine ⟨fun e => ?_, fun c hc => hs.sg c (List.take_subset _ _ hc), by rw [List.length_take]; omega⟩
  have h1 : (l.take n).length = 0 := by rw [e]; rfl
  have h2 := List.length_pos_iff.mpr hs.ne
  rw [List.length_take] at h1
  omega
theorem wish_cut {l : List Nat} {w : Option Nat} (hw : WdO w) (hs : Sig 100 l) : ∃ z : List Nat, (sRet (eIf (e2 pIs (eV 2) (eK W.non)) (e3 (pSl false false true) (eV 3) (eK W.non) (eK (W.int 40))) (e3 (pSl false false true) (eV 3) (eK W.non) (eV 2)))) [some (.ref i), a, some (wW w), some (.str (mkS l))] h = .ok (.rt (.str (mkS z)), [some (.ref i), a, some (wW w), some (.str (mkS l))], h) ∧ Nam w z ∧ z.length ≤ 40 := by
  have hl := hs.len
  cases w with
  | none =>
    obtain ⟨z1, z2, z3⟩ := take_sig (n := 40) hs (by omega) (by omega)
    have s1 : pSl false false true (.str (mkS l)) .non (.int 40) h = _ := sl_to (h := h) (l := l) (k := false) (n := 40) (by omega)
    refine ⟨l.take 40, ?_, ⟨z1, z2, by omega, fun k e => nomatch e⟩, z3⟩
    rw [wW_none]
    simp only [r_run, List.map_cons, List.map_nil, List.length_cons, List.length_nil, List.replicate, List.cons_append, List.nil_append, List.append_nil, List.set_cons_zero, List.set_cons_succ, List.set_nil, Nat.sub_self, Nat.zero_add, Nat.reduceAdd, Nat.reduceSub, Nat.reduceEqDiff, Nat.reduceLeDiff, Res.bind_ok, ofO_some, T_ok, T_bind, if_true, if_false, Bool.false_eq_true, Bool.not_true, Bool.not_false, r_eK, r_eV0, r_eVs, r_e1, r_e2, r_e3, r_eL0, r_eLs, r_eF, r_eAnd, r_eOr, r_eNot, r_eIf, r_eTree, r_eLst, r_eTup, r_eDic, r_tN, r_tL0, r_tLs, r_tT, r_sNil, r_sPass, r_sE, r_sAsg, r_sRet, r_sRetN, r_sBrk, r_sCnt, r_sIf, r_sSet, r_sCons, r_sFor, r_eCall, r_l1, r_l2, r_l3, r_eM, r_eComp, r_eChain, andThen_nx, andThen_rt, andThen_bk, andThen_ct, hb_nx, hb_rt, fin_raw, fin_int, fin_bl, fin_str, fin_non, truthy_bl, truthy_non, truthy_int, add_int, sub_int, lt_int, le_int, gt_int, ge_int, is_non, isN_non, isNon_non, isNon_int, isNon_str, fiL_lst, fiL_tup, fiL_str, decide_true, decide_false, decide_eq_true_eq, lineW_eq, mkL_f, mkL_t, Nat.reduceLeDiff, ix_tup3_0, ix_tup3_1, ix_tup3_2, ix_tup2_0, ix_tup2_1, sl_tup3_1, r_forG0, r_forGs, nextF_nx, nextF_ct, nextF_bk, nextF_rt, nW_none, nW_some, Option.isNone_none, Option.isNone_some, s1]
  | some k =>
    have hk := hw k rfl
    obtain ⟨z1, z2, z3⟩ := take_sig (n := k) hs (by omega) (by omega)
    have s1 := sl_to (h := h) (l := l) (k := false) (n := k) (by omega)
    refine ⟨l.take k, ?_, ⟨z1, z2, by omega, fun k' e => by cases e; exact z3⟩, by omega⟩
    rw [wW_some]
    simp only [r_run, List.map_cons, List.map_nil, List.length_cons, List.length_nil, List.replicate, List.cons_append, List.nil_append, List.append_nil, List.set_cons_zero, List.set_cons_succ, List.set_nil, Nat.sub_self, Nat.zero_add, Nat.reduceAdd, Nat.reduceSub, Nat.reduceEqDiff, Nat.reduceLeDiff, Res.bind_ok, ofO_some, T_ok, T_bind, if_true, if_false, Bool.false_eq_true, Bool.not_true, Bool.not_false, r_eK, r_eV0, r_eVs, r_e1, r_e2, r_e3, r_eL0, r_eLs, r_eF, r_eAnd, r_eOr, r_eNot, r_eIf, r_eTree, r_eLst, r_eTup, r_eDic, r_tN, r_tL0, r_tLs, r_tT, r_sNil, r_sPass, r_sE, r_sAsg, r_sRet, r_sRetN, r_sBrk, r_sCnt, r_sIf, r_sSet, r_sCons, r_sFor, r_eCall, r_l1, r_l2, r_l3, r_eM, r_eComp, r_eChain, andThen_nx, andThen_rt, andThen_bk, andThen_ct, hb_nx, hb_rt, fin_raw, fin_int, fin_bl, fin_str, fin_non, truthy_bl, truthy_non, truthy_int, add_int, sub_int, lt_int, le_int, gt_int, ge_int, is_non, isN_non, isNon_non, isNon_int, isNon_str, fiL_lst, fiL_tup, fiL_str, decide_true, decide_false, decide_eq_true_eq, lineW_eq, mkL_f, mkL_t, Nat.reduceLeDiff, ix_tup3_0, ix_tup3_1, ix_tup3_2, ix_tup2_0, ix_tup2_1, sl_tup3_1, r_forG0, r_forGs, nextF_nx, nextF_ct, nextF_bk, nextF_rt, nW_none, nW_some, Option.isNone_none, Option.isNone_some, s1]
theorem T_wishB {ls : List (List Nat)} {w : Option Nat} (hw : WdO w) (h0 : ls ≠ []) (hn : ls.length ≤ 3) (hs : ∀ l ∈ ls, Sig 38 l) (s : Psb H0 i B h) (hB : B < 2 ^ 61) : T (f__law_wish [.ref i, namesW ls, wW w] h) fun q => ∃ (l : List Nat) (h' : Hh), q = (.str (mkS l), h') ∧ (Nam w l ∧ l.length ≤ 40) ∧ Psb H0 i (B + 60) h' := by
  have l0 := List.length_pos_iff.mpr h0
  unfold f__law_wish b__law_wish
  simp only [r_run, List.map_cons, List.map_nil, List.length_cons, List.length_nil, List.replicate, List.cons_append, List.nil_append, List.append_nil, List.set_cons_zero, List.set_cons_succ, List.set_nil, Nat.sub_self, Nat.zero_add, Nat.reduceAdd, Nat.reduceSub, Nat.reduceEqDiff, Nat.reduceLeDiff, Res.bind_ok, ofO_some, T_ok, T_bind, if_true, if_false, Bool.false_eq_true, Bool.not_true, Bool.not_false, r_eK, r_eV0, r_eVs, r_e1, r_e2, r_e3, r_eL0, r_eLs, r_eF, r_eAnd, r_eOr, r_eNot, r_eIf, r_eTree, r_eLst, r_eTup, r_eDic, r_tN, r_tL0, r_tLs, r_tT, r_sNil, r_sPass, r_sE, r_sAsg, r_sRet, r_sRetN, r_sBrk, r_sCnt, r_sIf, r_sSet, r_sCons, r_sFor, r_eCall, r_l1, r_l2, r_l3, r_eM, r_eComp, r_eChain, andThen_nx, andThen_rt, andThen_bk, andThen_ct, hb_nx, hb_rt, fin_raw, fin_int, fin_bl, fin_str, fin_non, truthy_bl, truthy_non, truthy_int, add_int, sub_int, lt_int, le_int, gt_int, ge_int, is_non, isN_non, isNon_non, isNon_int, isNon_str, fiL_lst, fiL_tup, fiL_str, decide_true, decide_false, decide_eq_true_eq, lineW_eq, mkL_f, mkL_t, Nat.reduceLeDiff, ix_tup3_0, ix_tup3_1, ix_tup3_2, ix_tup2_0, ix_tup2_1, sl_tup3_1, r_forG0, r_forGs, nextF_nx, nextF_ct, nextF_bk, nextF_rt, nW_none, nW_some, Option.isNone_none, Option.isNone_some, len_names]
  refine T.mono (T_drawB s (by omega) (by omega) (by omega)) ?_
  rintro _ ⟨n, h1, rfl, l1, s1⟩
  obtain ⟨z, hz, e1⟩ := ix_names (h := h1) (ls := ls) (v := n) (by omega)
  simp only [r_run, List.map_cons, List.map_nil, List.length_cons, List.length_nil, List.replicate, List.cons_append, List.nil_append, List.append_nil, List.set_cons_zero, List.set_cons_succ, List.set_nil, Nat.sub_self, Nat.zero_add, Nat.reduceAdd, Nat.reduceSub, Nat.reduceEqDiff, Nat.reduceLeDiff, Res.bind_ok, ofO_some, T_ok, T_bind, if_true, if_false, Bool.false_eq_true, Bool.not_true, Bool.not_false, r_eK, r_eV0, r_eVs, r_e1, r_e2, r_e3, r_eL0, r_eLs, r_eF, r_eAnd, r_eOr, r_eNot, r_eIf, r_eTree, r_eLst, r_eTup, r_eDic, r_tN, r_tL0, r_tLs, r_tT, r_sNil, r_sPass, r_sE, r_sAsg, r_sRet, r_sRetN, r_sBrk, r_sCnt, r_sIf, r_sSet, r_sCons, r_sFor, r_eCall, r_l1, r_l2, r_l3, r_eM, r_eComp, r_eChain, andThen_nx, andThen_rt, andThen_bk, andThen_ct, hb_nx, hb_rt, fin_raw, fin_int, fin_bl, fin_str, fin_non, truthy_bl, truthy_non, truthy_int, add_int, sub_int, lt_int, le_int, gt_int, ge_int, is_non, isN_non, isNon_non, isNon_int, isNon_str, fiL_lst, fiL_tup, fiL_str, decide_true, decide_false, decide_eq_true_eq, lineW_eq, mkL_f, mkL_t, Nat.reduceLeDiff, ix_tup3_0, ix_tup3_1, ix_tup3_2, ix_tup2_0, ix_tup2_1, sl_tup3_1, r_forG0, r_forGs, nextF_nx, nextF_ct, nextF_bk, nextF_rt, nW_none, nW_some, Option.isNone_none, Option.isNone_some, e1]
  refine T.mono (T_endingB s1 (by omega)) ?_
  rintro _ ⟨y, h2, rfl, hy, ly, s2⟩
  have zs := hs z hz
  have zl := zs.len
  have g : Sig 100 (z ++ y) := ⟨fun e => zs.ne (List.append_eq_nil_iff.mp e).1, fun c hc => (List.mem_append.mp hc).elim (zs.sg c) (hy c), by rw [List.length_append]; omega⟩
  simp only [r_run, List.map_cons, List.map_nil, List.length_cons, List.length_nil, List.replicate, List.cons_append, List.nil_append, List.append_nil, List.set_cons_zero, List.set_cons_succ, List.set_nil, Nat.sub_self, Nat.zero_add, Nat.reduceAdd, Nat.reduceSub, Nat.reduceEqDiff, Nat.reduceLeDiff, Res.bind_ok, ofO_some, T_ok, T_bind, if_true, if_false, Bool.false_eq_true, Bool.not_true, Bool.not_false, r_eK, r_eV0, r_eVs, r_e1, r_e2, r_e3, r_eL0, r_eLs, r_eF, r_eAnd, r_eOr, r_eNot, r_eIf, r_eTree, r_eLst, r_eTup, r_eDic, r_tN, r_tL0, r_tLs, r_tT, r_sNil, r_sPass, r_sE, r_sAsg, r_sRet, r_sRetN, r_sBrk, r_sCnt, r_sIf, r_sSet, r_sCons, r_sFor, r_eCall, r_l1, r_l2, r_l3, r_eM, r_eComp, r_eChain, andThen_nx, andThen_rt, andThen_bk, andThen_ct, hb_nx, hb_rt, fin_raw, fin_int, fin_bl, fin_str, fin_non, truthy_bl, truthy_non, truthy_int, add_int, sub_int, lt_int, le_int, gt_int, ge_int, is_non, isN_non, isNon_non, isNon_int, isNon_str, fiL_lst, fiL_tup, fiL_str, decide_true, decide_false, decide_eq_true_eq, lineW_eq, mkL_f, mkL_t, Nat.reduceLeDiff, ix_tup3_0, ix_tup3_1, ix_tup3_2, ix_tup2_0, ix_tup2_1, sl_tup3_1, r_forG0, r_forGs, nextF_nx, nextF_ct, nextF_bk, nextF_rt, nW_none, nW_some, Option.isNone_none, Option.isNone_some, add_str (h := h2) (k := false) (a := z) (b := y) (by omega)]
  cases w with
  | none =>
    obtain ⟨r, e, hr, lr⟩ := wish_cut (i := i) (a := some (namesW ls)) (h := h2) hw g
    rw [wW_none] at e ⊢
    simp only [r_run, List.map_cons, List.map_nil, List.length_cons, List.length_nil, List.replicate, List.cons_append, List.nil_append, List.append_nil, List.set_cons_zero, List.set_cons_succ, List.set_nil, Nat.sub_self, Nat.zero_add, Nat.reduceAdd, Nat.reduceSub, Nat.reduceEqDiff, Nat.reduceLeDiff, Res.bind_ok, ofO_some, T_ok, T_bind, if_true, if_false, Bool.false_eq_true, Bool.not_true, Bool.not_false, r_eK, r_eV0, r_eVs, r_e1, r_e2, r_e3, r_eL0, r_eLs, r_eF, r_eAnd, r_eOr, r_eNot, r_eIf, r_eTree, r_eLst, r_eTup, r_eDic, r_tN, r_tL0, r_tLs, r_tT, r_sNil, r_sPass, r_sE, r_sAsg, r_sRet, r_sRetN, r_sBrk, r_sCnt, r_sIf, r_sSet, r_sCons, r_sFor, r_eCall, r_l1, r_l2, r_l3, r_eM, r_eComp, r_eChain, andThen_nx, andThen_rt, andThen_bk, andThen_ct, hb_nx, hb_rt, fin_raw, fin_int, fin_bl, fin_str, fin_non, truthy_bl, truthy_non, truthy_int, add_int, sub_int, lt_int, le_int, gt_int, ge_int, is_non, isN_non, isNon_non, isNon_int, isNon_str, fiL_lst, fiL_tup, fiL_str, decide_true, decide_false, decide_eq_true_eq, lineW_eq, mkL_f, mkL_t, Nat.reduceLeDiff, ix_tup3_0, ix_tup3_1, ix_tup3_2, ix_tup2_0, ix_tup2_1, sl_tup3_1, r_forG0, r_forGs, nextF_nx, nextF_ct, nextF_bk, nextF_rt, nW_none, nW_some, Option.isNone_none, Option.isNone_some, ↓e, s.fin s2 nor_str]
    exact ⟨r, h2, rfl, ⟨hr, lr⟩, s2.mono (by omega)⟩
  | some k =>
    have hk := hw k rfl
    rw [wW_some]
    simp only [r_run, List.map_cons, List.map_nil, List.length_cons, List.length_nil, List.replicate, List.cons_append, List.nil_append, List.append_nil, List.set_cons_zero, List.set_cons_succ, List.set_nil, Nat.sub_self, Nat.zero_add, Nat.reduceAdd, Nat.reduceSub, Nat.reduceEqDiff, Nat.reduceLeDiff, Res.bind_ok, ofO_some, T_ok, T_bind, if_true, if_false, Bool.false_eq_true, Bool.not_true, Bool.not_false, r_eK, r_eV0, r_eVs, r_e1, r_e2, r_e3, r_eL0, r_eLs, r_eF, r_eAnd, r_eOr, r_eNot, r_eIf, r_eTree, r_eLst, r_eTup, r_eDic, r_tN, r_tL0, r_tLs, r_tT, r_sNil, r_sPass, r_sE, r_sAsg, r_sRet, r_sRetN, r_sBrk, r_sCnt, r_sIf, r_sSet, r_sCons, r_sFor, r_eCall, r_l1, r_l2, r_l3, r_eM, r_eComp, r_eChain, andThen_nx, andThen_rt, andThen_bk, andThen_ct, hb_nx, hb_rt, fin_raw, fin_int, fin_bl, fin_str, fin_non, truthy_bl, truthy_non, truthy_int, add_int, sub_int, lt_int, le_int, gt_int, ge_int, is_non, isN_non, isNon_non, isNon_int, isNon_str, fiL_lst, fiL_tup, fiL_str, decide_true, decide_false, decide_eq_true_eq, lineW_eq, mkL_f, mkL_t, Nat.reduceLeDiff, ix_tup3_0, ix_tup3_1, ix_tup3_2, ix_tup2_0, ix_tup2_1, sl_tup3_1, r_forG0, r_forGs, nextF_nx, nextF_ct, nextF_bk, nextF_rt, nW_none, nW_some, Option.isNone_none, Option.isNone_some]
    refine T.mono (T_drawB s2 (by omega) (by decide) (by decide)) ?_
    rintro _ ⟨m, h3, rfl, l3, s3⟩
    have eq0 : pEq (.int (m : Int)) (.int 0) h3 = .ok (.bl ((m : Int) == 0), h3) := rfl
    simp only [r_run, List.map_cons, List.map_nil, List.length_cons, List.length_nil, List.replicate, List.cons_append, List.nil_append, List.append_nil, List.set_cons_zero, List.set_cons_succ, List.set_nil, Nat.sub_self, Nat.zero_add, Nat.reduceAdd, Nat.reduceSub, Nat.reduceEqDiff, Nat.reduceLeDiff, Res.bind_ok, ofO_some, T_ok, T_bind, if_true, if_false, Bool.false_eq_true, Bool.not_true, Bool.not_false, r_eK, r_eV0, r_eVs, r_e1, r_e2, r_e3, r_eL0, r_eLs, r_eF, r_eAnd, r_eOr, r_eNot, r_eIf, r_eTree, r_eLst, r_eTup, r_eDic, r_tN, r_tL0, r_tLs, r_tT, r_sNil, r_sPass, r_sE, r_sAsg, r_sRet, r_sRetN, r_sBrk, r_sCnt, r_sIf, r_sSet, r_sCons, r_sFor, r_eCall, r_l1, r_l2, r_l3, r_eM, r_eComp, r_eChain, andThen_nx, andThen_rt, andThen_bk, andThen_ct, hb_nx, hb_rt, fin_raw, fin_int, fin_bl, fin_str, fin_non, truthy_bl, truthy_non, truthy_int, add_int, sub_int, lt_int, le_int, gt_int, ge_int, is_non, isN_non, isNon_non, isNon_int, isNon_str, fiL_lst, fiL_tup, fiL_str, decide_true, decide_false, decide_eq_true_eq, lineW_eq, mkL_f, mkL_t, Nat.reduceLeDiff, ix_tup3_0, ix_tup3_1, ix_tup3_2, ix_tup2_0, ix_tup2_1, sl_tup3_1, r_forG0, r_forGs, nextF_nx, nextF_ct, nextF_bk, nextF_rt, nW_none, nW_some, Option.isNone_none, Option.isNone_some, eq0]
    by_cases hm : ((m : Int) == 0) = true
    · have ek : (k : Int) - 1 = ((k - 1 : Nat) : Int) := by omega
      simp only [r_run, List.map_cons, List.map_nil, List.length_cons, List.length_nil, List.replicate, List.cons_append, List.nil_append, List.append_nil, List.set_cons_zero, List.set_cons_succ, List.set_nil, Nat.sub_self, Nat.zero_add, Nat.reduceAdd, Nat.reduceSub, Nat.reduceEqDiff, Nat.reduceLeDiff, Res.bind_ok, ofO_some, T_ok, T_bind, if_true, if_false, Bool.false_eq_true, Bool.not_true, Bool.not_false, r_eK, r_eV0, r_eVs, r_e1, r_e2, r_e3, r_eL0, r_eLs, r_eF, r_eAnd, r_eOr, r_eNot, r_eIf, r_eTree, r_eLst, r_eTup, r_eDic, r_tN, r_tL0, r_tLs, r_tT, r_sNil, r_sPass, r_sE, r_sAsg, r_sRet, r_sRetN, r_sBrk, r_sCnt, r_sIf, r_sSet, r_sCons, r_sFor, r_eCall, r_l1, r_l2, r_l3, r_eM, r_eComp, r_eChain, andThen_nx, andThen_rt, andThen_bk, andThen_ct, hb_nx, hb_rt, fin_raw, fin_int, fin_bl, fin_str, fin_non, truthy_bl, truthy_non, truthy_int, add_int, sub_int, lt_int, le_int, gt_int, ge_int, is_non, isN_non, isNon_non, isNon_int, isNon_str, fiL_lst, fiL_tup, fiL_str, decide_true, decide_false, decide_eq_true_eq, lineW_eq, mkL_f, mkL_t, Nat.reduceLeDiff, ix_tup3_0, ix_tup3_1, ix_tup3_2, ix_tup2_0, ix_tup2_1, sl_tup3_1, r_forG0, r_forGs, nextF_nx, nextF_ct, nextF_bk, nextF_rt, nW_none, nW_some, Option.isNone_none, Option.isNone_some, eq_true hm, ek, mul_sign (h := h3) (k := false) (c := 57) (n := k - 1) (by omega)]
      refine T.mono (T_drawB s3 (by omega) (by decide) (by decide)) ?_
      rintro _ ⟨u, h4, rfl, l4, s4⟩
      obtain ⟨c, hc, e3⟩ := ix_sign (h := h4) (l := [57, 56, 97, 55]) (v := (u : Int)) (by omega) (by show (u : Int) < 4; omega) (by decide)
      have g : Sig 100 (List.replicate (k - 1) 57 ++ [c]) := ⟨by simp, fun d hd => by
        rcases List.mem_append.mp hd with hd | hd
        · rw [(List.mem_replicate.mp hd).2]; decide
        · rw [List.mem_singleton.mp hd]
          simp only [List.mem_cons, List.not_mem_nil, or_false] at hc
          rcases hc with rfl | rfl | rfl | rfl <;> decide, by rw [List.length_append, List.length_replicate]; simp only [List.length_cons, List.length_nil]; omega⟩
      obtain ⟨z1, z2, z3⟩ := take_sig (n := k) g (by omega) (by omega)
      have gl := g.len
      have c1 := sl_to (h := h4) (l := List.replicate (k - 1) 57 ++ [c]) (k := false) (n := k) (by omega)
      simp only [r_run, List.map_cons, List.map_nil, List.length_cons, List.length_nil, List.replicate, List.cons_append, List.nil_append, List.append_nil, List.set_cons_zero, List.set_cons_succ, List.set_nil, Nat.sub_self, Nat.zero_add, Nat.reduceAdd, Nat.reduceSub, Nat.reduceEqDiff, Nat.reduceLeDiff, Res.bind_ok, ofO_some, T_ok, T_bind, if_true, if_false, Bool.false_eq_true, Bool.not_true, Bool.not_false, r_eK, r_eV0, r_eVs, r_e1, r_e2, r_e3, r_eL0, r_eLs, r_eF, r_eAnd, r_eOr, r_eNot, r_eIf, r_eTree, r_eLst, r_eTup, r_eDic, r_tN, r_tL0, r_tLs, r_tT, r_sNil, r_sPass, r_sE, r_sAsg, r_sRet, r_sRetN, r_sBrk, r_sCnt, r_sIf, r_sSet, r_sCons, r_sFor, r_eCall, r_l1, r_l2, r_l3, r_eM, r_eComp, r_eChain, andThen_nx, andThen_rt, andThen_bk, andThen_ct, hb_nx, hb_rt, fin_raw, fin_int, fin_bl, fin_str, fin_non, truthy_bl, truthy_non, truthy_int, add_int, sub_int, lt_int, le_int, gt_int, ge_int, is_non, isN_non, isNon_non, isNon_int, isNon_str, fiL_lst, fiL_tup, fiL_str, decide_true, decide_false, decide_eq_true_eq, lineW_eq, mkL_f, mkL_t, Nat.reduceLeDiff, ix_tup3_0, ix_tup3_1, ix_tup3_2, ix_tup2_0, ix_tup2_1, sl_tup3_1, r_forG0, r_forGs, nextF_nx, nextF_ct, nextF_bk, nextF_rt, nW_none, nW_some, Option.isNone_none, Option.isNone_some, e3, add_str (h := h4) (k := false) (a := List.replicate (k - 1) 57) (b := [c]) (by rw [List.length_replicate]; simp only [List.length_cons, List.length_nil]; omega), c1, s.fin s4 nor_str]
      exact ⟨_, h4, rfl, ⟨⟨z1, z2, by omega, fun k' e => by cases e; exact z3⟩, by omega⟩, s4.mono (by omega)⟩
    · obtain ⟨r, e, hr, lr⟩ := wish_cut (i := i) (a := some (namesW ls)) (h := h3) hw g
      rw [wW_some] at e
      simp only [r_run, List.map_cons, List.map_nil, List.length_cons, List.length_nil, List.replicate, List.cons_append, List.nil_append, List.append_nil, List.set_cons_zero, List.set_cons_succ, List.set_nil, Nat.sub_self, Nat.zero_add, Nat.reduceAdd, Nat.reduceSub, Nat.reduceEqDiff, Nat.reduceLeDiff, Res.bind_ok, ofO_some, T_ok, T_bind, if_true, if_false, Bool.false_eq_true, Bool.not_true, Bool.not_false, r_eK, r_eV0, r_eVs, r_e1, r_e2, r_e3, r_eL0, r_eLs, r_eF, r_eAnd, r_eOr, r_eNot, r_eIf, r_eTree, r_eLst, r_eTup, r_eDic, r_tN, r_tL0, r_tLs, r_tT, r_sNil, r_sPass, r_sE, r_sAsg, r_sRet, r_sRetN, r_sBrk, r_sCnt, r_sIf, r_sSet, r_sCons, r_sFor, r_eCall, r_l1, r_l2, r_l3, r_eM, r_eComp, r_eChain, andThen_nx, andThen_rt, andThen_bk, andThen_ct, hb_nx, hb_rt, fin_raw, fin_int, fin_bl, fin_str, fin_non, truthy_bl, truthy_non, truthy_int, add_int, sub_int, lt_int, le_int, gt_int, ge_int, is_non, isN_non, isNon_non, isNon_int, isNon_str, fiL_lst, fiL_tup, fiL_str, decide_true, decide_false, decide_eq_true_eq, lineW_eq, mkL_f, mkL_t, Nat.reduceLeDiff, ix_tup3_0, ix_tup3_1, ix_tup3_2, ix_tup2_0, ix_tup2_1, sl_tup3_1, r_forG0, r_forGs, nextF_nx, nextF_ct, nextF_bk, nextF_rt, nW_none, nW_some, Option.isNone_none, Option.isNone_some, eq_false hm, ↓e, s.fin s3 nor_str]
      exact ⟨r, h3, rfl, ⟨hr, lr⟩, s3.mono (by omega)⟩
theorem T_thingsB (s : Psb H0 i B h) (hB : B < 2 ^ 60) {m : Nat} (hm : m ≤ 100) : T (f__law_things [.ref i, .int (m : Int)] h) fun q => ∃ (ls : List (List Nat)) (w : Option Nat) (h' : Hh), q = (.tup [namesW ls, wW w], h') ∧ WdO w ∧ ls.length ≤ m ∧ (∀ l ∈ ls, Nam w l ∧ l.length ≤ 40) ∧ Psb H0 i (B + 10000) h' := by
  unfold f__law_things b__law_things
  simp only [r_run, List.map_cons, List.map_nil, List.length_cons, List.length_nil, List.replicate, List.cons_append, List.nil_append, List.append_nil, List.set_cons_zero, List.set_cons_succ, List.set_nil, Nat.sub_self, Nat.zero_add, Nat.reduceAdd, Nat.reduceSub, Nat.reduceEqDiff, Nat.reduceLeDiff, Res.bind_ok, ofO_some, T_ok, T_bind, if_true, if_false, Bool.false_eq_true, Bool.not_true, Bool.not_false, r_eK, r_eV0, r_eVs, r_e1, r_e2, r_e3, r_eL0, r_eLs, r_eF, r_eAnd, r_eOr, r_eNot, r_eIf, r_eTree, r_eLst, r_eTup, r_eDic, r_tN, r_tL0, r_tLs, r_tT, r_sNil, r_sPass, r_sE, r_sAsg, r_sRet, r_sRetN, r_sBrk, r_sCnt, r_sIf, r_sSet, r_sCons, r_sFor, r_eCall, r_l1, r_l2, r_l3, r_eM, r_eComp, r_eChain, andThen_nx, andThen_rt, andThen_bk, andThen_ct, hb_nx, hb_rt, fin_raw, fin_int, fin_bl, fin_str, fin_non, truthy_bl, truthy_non, truthy_int, add_int, sub_int, lt_int, le_int, gt_int, ge_int, is_non, isN_non, isNon_non, isNon_int, isNon_str, fiL_lst, fiL_tup, fiL_str, decide_true, decide_false, decide_eq_true_eq, lineW_eq, mkL_f, mkL_t, Nat.reduceLeDiff, ix_tup3_0, ix_tup3_1, ix_tup3_2, ix_tup2_0, ix_tup2_1, sl_tup3_1, r_forG0, r_forGs, nextF_nx, nextF_ct, nextF_bk, nextF_rt, nW_none, nW_some, Option.isNone_none, Option.isNone_some]
  refine T.mono (T_widthB s (by omega)) ?_
  rintro _ ⟨w, h1, rfl, hw, s1⟩
  simp only [r_run, List.map_cons, List.map_nil, List.length_cons, List.length_nil, List.replicate, List.cons_append, List.nil_append, List.append_nil, List.set_cons_zero, List.set_cons_succ, List.set_nil, Nat.sub_self, Nat.zero_add, Nat.reduceAdd, Nat.reduceSub, Nat.reduceEqDiff, Nat.reduceLeDiff, Res.bind_ok, ofO_some, T_ok, T_bind, if_true, if_false, Bool.false_eq_true, Bool.not_true, Bool.not_false, r_eK, r_eV0, r_eVs, r_e1, r_e2, r_e3, r_eL0, r_eLs, r_eF, r_eAnd, r_eOr, r_eNot, r_eIf, r_eTree, r_eLst, r_eTup, r_eDic, r_tN, r_tL0, r_tLs, r_tT, r_sNil, r_sPass, r_sE, r_sAsg, r_sRet, r_sRetN, r_sBrk, r_sCnt, r_sIf, r_sSet, r_sCons, r_sFor, r_eCall, r_l1, r_l2, r_l3, r_eM, r_eComp, r_eChain, andThen_nx, andThen_rt, andThen_bk, andThen_ct, hb_nx, hb_rt, fin_raw, fin_int, fin_bl, fin_str, fin_non, truthy_bl, truthy_non, truthy_int, add_int, sub_int, lt_int, le_int, gt_int, ge_int, is_non, isN_non, isNon_non, isNon_int, isNon_str, fiL_lst, fiL_tup, fiL_str, decide_true, decide_false, decide_eq_true_eq, lineW_eq, mkL_f, mkL_t, Nat.reduceLeDiff, ix_tup3_0, ix_tup3_1, ix_tup3_2, ix_tup2_0, ix_tup2_1, sl_tup3_1, r_forG0, r_forGs, nextF_nx, nextF_ct, nextF_bk, nextF_rt, nW_none, nW_some, Option.isNone_none, Option.isNone_some]
  refine T.mono (T_stemsB s1 (by omega)) ?_
  rintro _ ⟨st, h2, rfl, t0, tn, ts, s2⟩
  have em : (m : Int) + 1 = ((m + 1 : Nat) : Int) := by omega
  simp only [r_run, List.map_cons, List.map_nil, List.length_cons, List.length_nil, List.replicate, List.cons_append, List.nil_append, List.append_nil, List.set_cons_zero, List.set_cons_succ, List.set_nil, Nat.sub_self, Nat.zero_add, Nat.reduceAdd, Nat.reduceSub, Nat.reduceEqDiff, Nat.reduceLeDiff, Res.bind_ok, ofO_some, T_ok, T_bind, if_true, if_false, Bool.false_eq_true, Bool.not_true, Bool.not_false, r_eK, r_eV0, r_eVs, r_e1, r_e2, r_e3, r_eL0, r_eLs, r_eF, r_eAnd, r_eOr, r_eNot, r_eIf, r_eTree, r_eLst, r_eTup, r_eDic, r_tN, r_tL0, r_tLs, r_tT, r_sNil, r_sPass, r_sE, r_sAsg, r_sRet, r_sRetN, r_sBrk, r_sCnt, r_sIf, r_sSet, r_sCons, r_sFor, r_eCall, r_l1, r_l2, r_l3, r_eM, r_eComp, r_eChain, andThen_nx, andThen_rt, andThen_bk, andThen_ct, hb_nx, hb_rt, fin_raw, fin_int, fin_bl, fin_str, fin_non, truthy_bl, truthy_non, truthy_int, add_int, sub_int, lt_int, le_int, gt_int, ge_int, is_non, isN_non, isNon_non, isNon_int, isNon_str, fiL_lst, fiL_tup, fiL_str, decide_true, decide_false, decide_eq_true_eq, lineW_eq, mkL_f, mkL_t, Nat.reduceLeDiff, ix_tup3_0, ix_tup3_1, ix_tup3_2, ix_tup2_0, ix_tup2_1, sl_tup3_1, r_forG0, r_forGs, nextF_nx, nextF_ct, nextF_bk, nextF_rt, nW_none, nW_some, Option.isNone_none, Option.isNone_some, len2_le, em]
  refine T.mono (T_drawB s2 (by omega) (by omega) (by omega)) ?_
  rintro _ ⟨n, h3, rfl, l3, s3⟩
  simp only [r_run, List.map_cons, List.map_nil, List.length_cons, List.length_nil, List.replicate, List.cons_append, List.nil_append, List.append_nil, List.set_cons_zero, List.set_cons_succ, List.set_nil, Nat.sub_self, Nat.zero_add, Nat.reduceAdd, Nat.reduceSub, Nat.reduceEqDiff, Nat.reduceLeDiff, Res.bind_ok, ofO_some, T_ok, T_bind, if_true, if_false, Bool.false_eq_true, Bool.not_true, Bool.not_false, r_eK, r_eV0, r_eVs, r_e1, r_e2, r_e3, r_eL0, r_eLs, r_eF, r_eAnd, r_eOr, r_eNot, r_eIf, r_eTree, r_eLst, r_eTup, r_eDic, r_tN, r_tL0, r_tLs, r_tT, r_sNil, r_sPass, r_sE, r_sAsg, r_sRet, r_sRetN, r_sBrk, r_sCnt, r_sIf, r_sSet, r_sCons, r_sFor, r_eCall, r_l1, r_l2, r_l3, r_eM, r_eComp, r_eChain, andThen_nx, andThen_rt, andThen_bk, andThen_ct, hb_nx, hb_rt, fin_raw, fin_int, fin_bl, fin_str, fin_non, truthy_bl, truthy_non, truthy_int, add_int, sub_int, lt_int, le_int, gt_int, ge_int, is_non, isN_non, isNon_non, isNon_int, isNon_str, fiL_lst, fiL_tup, fiL_str, decide_true, decide_false, decide_eq_true_eq, lineW_eq, mkL_f, mkL_t, Nat.reduceLeDiff, ix_tup3_0, ix_tup3_1, ix_tup3_2, ix_tup2_0, ix_tup2_1, sl_tup3_1, r_forG0, r_forGs, nextF_nx, nextF_ct, nextF_bk, nextF_rt, nW_none, nW_some, Option.isNone_none, Option.isNone_some, range_nat (h := h3) (n := n) (by omega)]
  refine T.mono (T_compG (Q := fun q => ∃ (ls : List (List Nat)) (h' : Hh), q = (ls.map stW, h') ∧ ls.length = n ∧ (∀ l ∈ ls, Nam w l ∧ l.length ≤ 40) ∧ Psb H0 i (B + 10000) h') (fun j a h => ∃ ls : List (List Nat), a = ls.map stW ∧ ls.length = j ∧ (∀ l ∈ ls, Nam w l ∧ l.length ≤ 40) ∧ Psb H0 i (B + 3000 + 60 * j) h) (fun _ _ _ _ => rfl) ⟨[], rfl, rfl, fun _ h => (nomatch h), s3.mono (by omega)⟩ ?_ ?_) ?_
  · rintro j x a h hx ⟨ls, rfl, hl, hs, sj⟩
    obtain ⟨hj, rfl⟩ := range_get hx
    simp only [r_run, List.map_cons, List.map_nil, List.length_cons, List.length_nil, List.replicate, List.cons_append, List.nil_append, List.append_nil, List.set_cons_zero, List.set_cons_succ, List.set_nil, Nat.sub_self, Nat.zero_add, Nat.reduceAdd, Nat.reduceSub, Nat.reduceEqDiff, Nat.reduceLeDiff, Res.bind_ok, ofO_some, T_ok, T_bind, if_true, if_false, Bool.false_eq_true, Bool.not_true, Bool.not_false, r_eK, r_eV0, r_eVs, r_e1, r_e2, r_e3, r_eL0, r_eLs, r_eF, r_eAnd, r_eOr, r_eNot, r_eIf, r_eTree, r_eLst, r_eTup, r_eDic, r_tN, r_tL0, r_tLs, r_tT, r_sNil, r_sPass, r_sE, r_sAsg, r_sRet, r_sRetN, r_sBrk, r_sCnt, r_sIf, r_sSet, r_sCons, r_sFor, r_eCall, r_l1, r_l2, r_l3, r_eM, r_eComp, r_eChain, andThen_nx, andThen_rt, andThen_bk, andThen_ct, hb_nx, hb_rt, fin_raw, fin_int, fin_bl, fin_str, fin_non, truthy_bl, truthy_non, truthy_int, add_int, sub_int, lt_int, le_int, gt_int, ge_int, is_non, isN_non, isNon_non, isNon_int, isNon_str, fiL_lst, fiL_tup, fiL_str, decide_true, decide_false, decide_eq_true_eq, lineW_eq, mkL_f, mkL_t, Nat.reduceLeDiff, ix_tup3_0, ix_tup3_1, ix_tup3_2, ix_tup2_0, ix_tup2_1, sl_tup3_1, r_forG0, r_forGs, nextF_nx, nextF_ct, nextF_bk, nextF_rt, nW_none, nW_some, Option.isNone_none, Option.isNone_some, wipeW]
    refine T.mono (T_wishB hw t0 tn ts sj (by omega)) ?_
    rintro _ ⟨l, h4, rfl, hl4, s4⟩
    refine ⟨by rw [List.length_map, hl]; exact Nat.lt_of_lt_of_le (show j < 101 by omega) (by decide), ls ++ [l], by rw [List.map_append]; rfl, by rw [List.length_append, hl]; rfl, fun a ha => ?_, s4.mono (by omega)⟩
    rcases List.mem_append.mp ha with ha | ha
    · exact hs a ha
    · rw [List.mem_singleton.mp ha]; exact hl4
  · rintro a h ⟨ls, rfl, hl, hs, sj⟩
    rw [range_len] at hl sj
    exact ⟨ls, h, rfl, hl, hs, sj.mono (by omega)⟩
  · rintro _ ⟨ls, h4, rfl, hl, hs, s4⟩
    have nn : nor (.tup [.lst (ls.map stW), wW w]) = true := by
      rw [nor_tup, nors_cons, nors_cons, nor_wW, nor_lst, nors_map fun _ _ => rfl]
      rfl
    simp only [r_run, List.map_cons, List.map_nil, List.length_cons, List.length_nil, List.replicate, List.cons_append, List.nil_append, List.append_nil, List.set_cons_zero, List.set_cons_succ, List.set_nil, Nat.sub_self, Nat.zero_add, Nat.reduceAdd, Nat.reduceSub, Nat.reduceEqDiff, Nat.reduceLeDiff, Res.bind_ok, ofO_some, T_ok, T_bind, if_true, if_false, Bool.false_eq_true, Bool.not_true, Bool.not_false, r_eK, r_eV0, r_eVs, r_e1, r_e2, r_e3, r_eL0, r_eLs, r_eF, r_eAnd, r_eOr, r_eNot, r_eIf, r_eTree, r_eLst, r_eTup, r_eDic, r_tN, r_tL0, r_tLs, r_tT, r_sNil, r_sPass, r_sE, r_sAsg, r_sRet, r_sRetN, r_sBrk, r_sCnt, r_sIf, r_sSet, r_sCons, r_sFor, r_eCall, r_l1, r_l2, r_l3, r_eM, r_eComp, r_eChain, andThen_nx, andThen_rt, andThen_bk, andThen_ct, hb_nx, hb_rt, fin_raw, fin_int, fin_bl, fin_str, fin_non, truthy_bl, truthy_non, truthy_int, add_int, sub_int, lt_int, le_int, gt_int, ge_int, is_non, isN_non, isNon_non, isNon_int, isNon_str, fiL_lst, fiL_tup, fiL_str, decide_true, decide_false, decide_eq_true_eq, lineW_eq, mkL_f, mkL_t, Nat.reduceLeDiff, ix_tup3_0, ix_tup3_1, ix_tup3_2, ix_tup2_0, ix_tup2_1, sl_tup3_1, r_forG0, r_forGs, nextF_nx, nextF_ct, nextF_bk, nextF_rt, nW_none, nW_some, Option.isNone_none, Option.isNone_some, mkL_f (ws := ls.map stW) (h := h4) (by rw [List.length_map, hl]; exact Nat.le_trans (show n ≤ 101 by omega) (by decide)), len2_le, s.fin s4 nn]
    exact ⟨ls, w, h4, rfl, hw, by omega, hs, s4⟩
theorem ins_at {n k : Nat} {ws : List W} {y : W} (e : h[n]? = some (.lst ws)) (hn : nor y = true) (hl : ws.length < lineW) (hk : k < 1000000000000) : pInsert (.ref n) (.int (k : Int)) y h = .ok (.non, h.set n (.lst (ws.take k ++ [y] ++ ws.drop k))) := by
  unfold pInsert
  simp only [e]
  rw [if_pos ⟨hl, hn, by omega, by omega⟩, Int.toNat_natCast]
theorem ins_perm {α : Type} {l : List α} {k : Nat} {y : α} : (l.take k ++ [y] ++ l.drop k).Perm (l ++ [y]) := by
  rw [List.append_assoc]
  refine (List.Perm.append_left _ (List.perm_append_comm)).trans ?_
  rw [← List.append_assoc, List.take_append_drop]
theorem T_shuffledB {ls : List (List Nat)} (hn : ls.length ≤ 1000) (s : Psb H0 i B h) (hB : B < 2 ^ 61) : T (f__law_shuffled [.ref i, namesW ls] h) fun q => ∃ (zs : List (List Nat)) (h' : Hh), q = (namesW zs, h') ∧ zs.Perm ls ∧ Psb H0 i (B + 10000) h' := by
  have hi : i < H0.length := s.1
  unfold f__law_shuffled b__law_shuffled namesW
  simp only [r_run, List.map_cons, List.map_nil, List.length_cons, List.length_nil, List.replicate, List.cons_append, List.nil_append, List.append_nil, List.set_cons_zero, List.set_cons_succ, List.set_nil, Nat.sub_self, Nat.zero_add, Nat.reduceAdd, Nat.reduceSub, Nat.reduceEqDiff, Nat.reduceLeDiff, Res.bind_ok, ofO_some, T_ok, T_bind, if_true, if_false, Bool.false_eq_true, Bool.not_true, Bool.not_false, r_eK, r_eV0, r_eVs, r_e1, r_e2, r_e3, r_eL0, r_eLs, r_eF, r_eAnd, r_eOr, r_eNot, r_eIf, r_eTree, r_eLst, r_eTup, r_eDic, r_tN, r_tL0, r_tLs, r_tT, r_sNil, r_sPass, r_sE, r_sAsg, r_sRet, r_sRetN, r_sBrk, r_sCnt, r_sIf, r_sSet, r_sCons, r_sFor, r_eCall, r_l1, r_l2, r_l3, r_eM, r_eComp, r_eChain, andThen_nx, andThen_rt, andThen_bk, andThen_ct, hb_nx, hb_rt, fin_raw, fin_int, fin_bl, fin_str, fin_non, truthy_bl, truthy_non, truthy_int, add_int, sub_int, lt_int, le_int, gt_int, ge_int, is_non, isN_non, isNon_non, isNon_int, isNon_str, fiL_lst, fiL_tup, fiL_str, decide_true, decide_false, decide_eq_true_eq, lineW_eq, mkL_f, mkL_t, Nat.reduceLeDiff, ix_tup3_0, ix_tup3_1, ix_tup3_2, ix_tup2_0, ix_tup2_1, sl_tup3_1, r_forG0, r_forGs, nextF_nx, nextF_ct, nextF_bk, nextF_rt, nW_none, nW_some, Option.isNone_none, Option.isNone_some, mkL_t (ws := []) (h := h) rfl (by decide)]
  refine T.mono (T_for (Q := fun q => ∃ (zs : List (List Nat)) (x : Option W) (h' : Hh), q = (.nx, [some (.ref i), some (.lst (ls.map stW)), some (.ref h.length), x], h' ++ [.lst (zs.map stW)]) ∧ zs.Perm ls ∧ Psb H0 i (B + 10000) h')
    (fun j ρ h2 => ∃ (zs : List (List Nat)) (x : Option W) (h' : Hh), ρ = [some (.ref i), some (.lst (ls.map stW)), some (.ref h.length), x] ∧ h2 = h' ++ [.lst (zs.map stW)] ∧ zs.Perm (ls.take j) ∧ Psb H0 i (B + 10 * j) h') ⟨[], none, h, rfl, rfl, List.Perm.refl _, s⟩ ?_ ?_) ?_
  · rintro j l ρ _ hj ⟨zs, x0, h', rfl, rfl, hz, sj⟩
    have jl : j < ls.length := (List.getElem?_eq_some_iff.mp hj).1
    have zl : zs.length = j := by rw [hz.length_eq, List.length_take]; omega
    have el : h.length = h'.length := by rw [s.len, sj.len]
    have en : (zs.length : Int) + 1 = ((j + 1 : Nat) : Int) := by omega
    have ln := len_new (h := h') (ws := zs.map stW)
    rw [List.length_map] at ln
    simp only [r_run, List.map_cons, List.map_nil, List.length_cons, List.length_nil, List.replicate, List.cons_append, List.nil_append, List.append_nil, List.set_cons_zero, List.set_cons_succ, List.set_nil, Nat.sub_self, Nat.zero_add, Nat.reduceAdd, Nat.reduceSub, Nat.reduceEqDiff, Nat.reduceLeDiff, Res.bind_ok, ofO_some, T_ok, T_bind, if_true, if_false, Bool.false_eq_true, Bool.not_true, Bool.not_false, r_eK, r_eV0, r_eVs, r_e1, r_e2, r_e3, r_eL0, r_eLs, r_eF, r_eAnd, r_eOr, r_eNot, r_eIf, r_eTree, r_eLst, r_eTup, r_eDic, r_tN, r_tL0, r_tLs, r_tT, r_sNil, r_sPass, r_sE, r_sAsg, r_sRet, r_sRetN, r_sBrk, r_sCnt, r_sIf, r_sSet, r_sCons, r_sFor, r_eCall, r_l1, r_l2, r_l3, r_eM, r_eComp, r_eChain, andThen_nx, andThen_rt, andThen_bk, andThen_ct, hb_nx, hb_rt, fin_raw, fin_int, fin_bl, fin_str, fin_non, truthy_bl, truthy_non, truthy_int, add_int, sub_int, lt_int, le_int, gt_int, ge_int, is_non, isN_non, isNon_non, isNon_int, isNon_str, fiL_lst, fiL_tup, fiL_str, decide_true, decide_false, decide_eq_true_eq, lineW_eq, mkL_f, mkL_t, Nat.reduceLeDiff, ix_tup3_0, ix_tup3_1, ix_tup3_2, ix_tup2_0, ix_tup2_1, sl_tup3_1, r_forG0, r_forGs, nextF_nx, nextF_ct, nextF_bk, nextF_rt, nW_none, nW_some, Option.isNone_none, Option.isNone_some, el, isL_new, ln, en]
    refine T.mono (T_drawB (sj.push (c := .lst (zs.map stW))) (by omega) (by omega) (by omega)) ?_
    rintro _ ⟨u, h2, rfl, l2, s2⟩
    obtain ⟨g2, rfl, t2⟩ := s2.pop hi
    have el2 : h'.length = g2.length := by rw [sj.len, t2.len]
    simp only [r_run, List.map_cons, List.map_nil, List.length_cons, List.length_nil, List.replicate, List.cons_append, List.nil_append, List.append_nil, List.set_cons_zero, List.set_cons_succ, List.set_nil, Nat.sub_self, Nat.zero_add, Nat.reduceAdd, Nat.reduceSub, Nat.reduceEqDiff, Nat.reduceLeDiff, Res.bind_ok, ofO_some, T_ok, T_bind, if_true, if_false, Bool.false_eq_true, Bool.not_true, Bool.not_false, r_eK, r_eV0, r_eVs, r_e1, r_e2, r_e3, r_eL0, r_eLs, r_eF, r_eAnd, r_eOr, r_eNot, r_eIf, r_eTree, r_eLst, r_eTup, r_eDic, r_tN, r_tL0, r_tLs, r_tT, r_sNil, r_sPass, r_sE, r_sAsg, r_sRet, r_sRetN, r_sBrk, r_sCnt, r_sIf, r_sSet, r_sCons, r_sFor, r_eCall, r_l1, r_l2, r_l3, r_eM, r_eComp, r_eChain, andThen_nx, andThen_rt, andThen_bk, andThen_ct, hb_nx, hb_rt, fin_raw, fin_int, fin_bl, fin_str, fin_non, truthy_bl, truthy_non, truthy_int, add_int, sub_int, lt_int, le_int, gt_int, ge_int, is_non, isN_non, isNon_non, isNon_int, isNon_str, fiL_lst, fiL_tup, fiL_str, decide_true, decide_false, decide_eq_true_eq, lineW_eq, mkL_f, mkL_t, Nat.reduceLeDiff, ix_tup3_0, ix_tup3_1, ix_tup3_2, ix_tup2_0, ix_tup2_1, sl_tup3_1, r_forG0, r_forGs, nextF_nx, nextF_ct, nextF_bk, nextF_rt, nW_none, nW_some, Option.isNone_none, Option.isNone_some, el2, ins_at (h := g2 ++ [.lst (zs.map stW)]) (n := g2.length) (k := u) (ws := zs.map stW) (y := stW l) new_at rfl (by rw [List.length_map, zl]; exact Nat.lt_of_lt_of_le (show j < 1001 by omega) (by decide)) (by omega), new_set]
    refine ⟨zs.take u ++ [l] ++ zs.drop u, _, g2, rfl, by rw [List.map_append, List.map_append, List.map_take, List.map_drop]; rfl, ?_, t2.mono (by omega)⟩
    rw [List.take_succ, hj]
    exact ins_perm.trans (hz.append_right _)
  · rintro ρ _ ⟨zs, x0, h', rfl, rfl, hz, sj⟩
    rw [List.take_length] at hz
    exact ⟨zs, x0, h', rfl, hz, sj.mono (by omega)⟩
  · rintro _ ⟨zs, x0, h2, rfl, hz, s2⟩
    have el : h.length = h2.length := by rw [s.len, s2.len]
    simp only [r_run, List.map_cons, List.map_nil, List.length_cons, List.length_nil, List.replicate, List.cons_append, List.nil_append, List.append_nil, List.set_cons_zero, List.set_cons_succ, List.set_nil, Nat.sub_self, Nat.zero_add, Nat.reduceAdd, Nat.reduceSub, Nat.reduceEqDiff, Nat.reduceLeDiff, Res.bind_ok, ofO_some, T_ok, T_bind, if_true, if_false, Bool.false_eq_true, Bool.not_true, Bool.not_false, r_eK, r_eV0, r_eVs, r_e1, r_e2, r_e3, r_eL0, r_eLs, r_eF, r_eAnd, r_eOr, r_eNot, r_eIf, r_eTree, r_eLst, r_eTup, r_eDic, r_tN, r_tL0, r_tLs, r_tT, r_sNil, r_sPass, r_sE, r_sAsg, r_sRet, r_sRetN, r_sBrk, r_sCnt, r_sIf, r_sSet, r_sCons, r_sFor, r_eCall, r_l1, r_l2, r_l3, r_eM, r_eComp, r_eChain, andThen_nx, andThen_rt, andThen_bk, andThen_ct, hb_nx, hb_rt, fin_raw, fin_int, fin_bl, fin_str, fin_non, truthy_bl, truthy_non, truthy_int, add_int, sub_int, lt_int, le_int, gt_int, ge_int, is_non, isN_non, isNon_non, isNon_int, isNon_str, fiL_lst, fiL_tup, fiL_str, decide_true, decide_false, decide_eq_true_eq, lineW_eq, mkL_f, mkL_t, Nat.reduceLeDiff, ix_tup3_0, ix_tup3_1, ix_tup3_2, ix_tup2_0, ix_tup2_1, sl_tup3_1, r_forG0, r_forGs, nextF_nx, nextF_ct, nextF_bk, nextF_rt, nW_none, nW_some, Option.isNone_none, Option.isNone_some, el, fin_new_lst]
    exact ⟨zs, h2, rfl, hz, s2⟩
end
end Ti


/-! Flow: things that come one after another, in any order: plain. -/
namespace Ti
open PySem
abbrev Nm := List Nat
/-- how many go on from names to o -/
def infl (w : Option Nat) (S : List Nm) (c : Nm → Nat) (o : Option Nm) : Nat := ((S.filter fun m => decide (nxt w m = o)).map fun m => c m - 1).sum
/-- how many try each name: those that want it and all but one of each name before it; pend: those under way -/
structure Flw (w : Option Nat) (ns : List Nm) (S : List Nm) (c : Nm → Nat) (pend : List Nm) : Prop where
  nd : S.Nodup
  sup : ∀ z, z ∈ S ↔ 0 < c z
  eq : ∀ z, c z + pend.count z = ns.count z + infl w S c (some z)
def bump (c : Nm → Nat) (y : Nm) : Nm → Nat := fun z => if z = y then c z + 1 else c z
section
variable {w : Option Nat} {ns ns' S S' pend pend' : List Nm} {c c' : Nm → Nat} {x y z : Nm} {o : Option Nm}
theorem bump_same : bump c y y = c y + 1 := if_pos rfl
theorem bump_ne (h : z ≠ y) : bump c y z = c z := if_neg h
theorem infl_nil : infl w [] c o = 0 := rfl
theorem infl_cons : infl w (x :: S) c o = (if nxt w x = o then c x - 1 else 0) + infl w S c o := by
  unfold infl
  rw [List.filter_cons]
  by_cases h : nxt w x = o
  · rw [if_pos (decide_eq_true h), if_pos h, List.map_cons, List.sum_cons]
  · rw [if_neg (by rw [decide_eq_false h]; decide), if_neg h, Nat.zero_add]
theorem infl_app : infl w (S ++ S') c o = infl w S c o + infl w S' c o := by
  induction S with
  | nil => rw [List.nil_append, infl_nil, Nat.zero_add]
  | cons x S ih => rw [List.cons_append, infl_cons, infl_cons, ih, Nat.add_assoc]
theorem infl_congr (h : ∀ m ∈ S, nxt w m = o → c m = c' m) : infl w S c o = infl w S c' o := by
  induction S with
  | nil => rfl
  | cons x S ih =>
    rw [infl_cons, infl_cons, ih fun m hm => h m (List.mem_cons_of_mem _ hm)]
    by_cases q : nxt w x = o
    · rw [if_pos q, if_pos q, h x List.mem_cons_self q]
    · rw [if_neg q, if_neg q]
theorem infl_perm (h : S.Perm S') : infl w S c o = infl w S' c o := by
  unfold infl
  exact ((h.filter _).map _).sum_nat
/-- one more at a name that is there -/
theorem infl_bump_in (hn : S.Nodup) (hy : y ∈ S) (h1 : 0 < c y) : infl w S (bump c y) o = infl w S c o + if nxt w y = o then 1 else 0 := by
  induction S with
  | nil => cases hy
  | cons x S ih =>
    rw [infl_cons, infl_cons]
    obtain ⟨hx, hn'⟩ := List.nodup_cons.mp hn
    by_cases q : y = x
    · subst q
      have : infl w S (bump c y) o = infl w S c o := infl_congr fun m hm _ => bump_ne fun e => hx (by rw [← e]; exact hm)
      rw [this, bump_same]
      by_cases r : nxt w y = o
      · rw [if_pos r, if_pos r, if_pos r]; omega
      · rw [if_neg r, if_neg r, if_neg r, Nat.add_zero]
    · have hy' : y ∈ S := by
        rcases List.mem_cons.mp hy with e | e
        · exact absurd e q
        · exact e
      rw [ih hn' hy', bump_ne fun e => q e.symm, Nat.add_assoc]
theorem infl_bump_out (hy : y ∉ S) : infl w S (bump c y) o = infl w S c o := infl_congr fun m hm _ => bump_ne fun e => hy (by rw [← e]; exact hm)
theorem infl_new (hy : y ∉ S) (h0 : c y = 0) : infl w (S ++ [y]) (bump c y) o = infl w S c o := by
  rw [infl_app, infl_bump_out hy, infl_cons, infl_nil, bump_same, h0]
  split <;> rfl
theorem count_app1 : (pend ++ [y]).count z = pend.count z + if z = y then 1 else 0 := by
  rw [List.count_append, List.count_singleton]
  by_cases h : z = y
  · subst h; simp
  · rw [if_neg h, if_neg (by simpa using fun e : y = z => h e.symm)]
theorem Flw.zero (f : Flw w ns S c pend) : z ∉ S ↔ c z = 0 := by
  have := f.sup z
  constructor
  · intro h
    by_cases q : 0 < c z
    · exact absurd (this.mpr q) h
    · omega
  · intro h q
    have := this.mp q
    omega
/-- it stays at a new name -/
theorem Flw.stay (f : Flw w ns S c (pend ++ [y])) (hy : y ∉ S) : Flw w ns (S ++ [y]) (bump c y) pend ∧ ∀ o, infl w (S ++ [y]) (bump c y) o = infl w S c o := by
  have h0 := f.zero.mp hy
  refine ⟨⟨?_, fun z => ?_, fun z => ?_⟩, fun o => infl_new hy h0⟩
  · rw [List.nodup_append]
    exact ⟨f.nd, by simp, fun a ha b hb e => by
      rw [List.mem_singleton] at hb
      rw [e, hb] at ha
      exact hy ha⟩
  · rw [List.mem_append, List.mem_singleton, f.sup z]
    unfold bump
    by_cases q : z = y
    · rw [if_pos q]; exact ⟨fun _ => by omega, fun _ => .inr q⟩
    · rw [if_neg q]; exact ⟨fun h => h.resolve_right q, .inl⟩
  · have := f.eq z
    rw [count_app1] at this
    rw [infl_new hy h0, ← this]
    unfold bump
    split <;> omega
/-- it goes on -/
theorem Flw.go (f : Flw w ns S c (pend ++ [y])) (hy : y ∈ S) : Flw w ns S (bump c y) (pend ++ (nxt w y).toList) ∧ ∀ o, infl w S (bump c y) o = infl w S c o + if nxt w y = o then 1 else 0 := by
  have h1 := (f.sup y).mp hy
  have hi : ∀ o, infl w S (bump c y) o = infl w S c o + if nxt w y = o then 1 else 0 := fun o => infl_bump_in f.nd hy h1
  refine ⟨⟨f.nd, fun z => ?_, fun z => ?_⟩, hi⟩
  · rw [f.sup z]
    unfold bump
    by_cases q : z = y
    · subst q; rw [if_pos rfl]; exact ⟨fun _ => by omega, fun _ => h1⟩
    · rw [if_neg q]
  · have := f.eq z
    rw [count_app1] at this
    rw [hi, List.count_append]
    have e : (nxt w y).toList.count z = if nxt w y = some z then 1 else 0 := by
      cases nxt w y with
      | none => rfl
      | some u =>
        rw [Option.toList_some, List.count_singleton]
        by_cases q : u = z
        · subst q; simp
        · rw [if_neg (by simpa using q), if_neg fun e => q (Option.some.inj e)]
    rw [e]
    unfold bump
    split at this <;> (rename_i q; first | rw [if_pos q] | rw [if_neg q]) <;> omega
/-- the counts are determined -/
theorem Flw.unique (f : Flw w ns S c []) (g : Flw w ns' S' c' []) (hp : ns.Perm ns') : (∀ z, c z = c' z) ∧ S.Perm S' ∧ ∀ o, infl w S c o = infl w S' c' o := by
  have key : ∀ n z, Nn z = n → c z = c' z := by
    intro n
    induction n using Nat.strongRecOn with
    | _ n ih =>
      intro z hz
      have e1 := f.eq z
      have e2 := g.eq z
      rw [List.count_nil, Nat.add_zero] at e1 e2
      rw [e1, e2, hp.count_eq]
      congr 1
      have hc : ∀ m, nxt w m = some z → c m = c' m := fun m hm => ih (Nn m) (by rw [← hz]; exact nxt_Nn hm) m rfl
      rw [infl_congr (c' := c') fun m _ hm => hc m hm]
      have : (S.filter fun m => decide (nxt w m = some z)).Perm (S'.filter fun m => decide (nxt w m = some z)) := by
        refine (List.perm_ext_iff_of_nodup (f.nd.filter _) (g.nd.filter _)).mpr fun m => ?_
        rw [List.mem_filter, List.mem_filter, decide_eq_true_eq]
        constructor
        · rintro ⟨h1, h2⟩
          exact ⟨(g.sup m).mpr (by rw [← hc m h2]; exact (f.sup m).mp h1), h2⟩
        · rintro ⟨h1, h2⟩
          exact ⟨(f.sup m).mpr (by rw [hc m h2]; exact (g.sup m).mp h1), h2⟩
      exact (this.map _).sum_nat
  have hc : ∀ z, c z = c' z := fun z => key _ z rfl
  have hS : S.Perm S' := (List.perm_ext_iff_of_nodup f.nd g.nd).mpr fun z => by rw [f.sup, g.sup, hc]
  exact ⟨hc, hS, fun o => by rw [infl_perm hS]; exact infl_congr fun m _ _ => hc m⟩
theorem infl_le (hS : S.Nodup) (hS' : S'.Nodup) (hsub : ∀ m ∈ S, nxt w m = o → m ∈ S') (hc : ∀ m ∈ S, nxt w m = o → c m ≤ c' m) : infl w S c o ≤ infl w S' c' o := by
  induction S generalizing S' with
  | nil => rw [infl_nil]; exact Nat.zero_le _
  | cons x S ih =>
    obtain ⟨hx, hn⟩ := List.nodup_cons.mp hS
    rw [infl_cons]
    by_cases q : nxt w x = o
    · rw [if_pos q]
      have hxS := hsub x List.mem_cons_self q
      have hp := List.perm_cons_erase hxS
      rw [infl_perm hp, infl_cons, if_pos q]
      have h1 := hc x List.mem_cons_self q
      have h2 := ih hn (hS'.erase x) (fun m hm e => by
        have := hsub m (List.mem_cons_of_mem _ hm) e
        exact (List.mem_erase_of_ne fun e => hx (by rw [← e]; exact hm)).mpr this) fun m hm e => hc m (List.mem_cons_of_mem _ hm) e
      omega
    · rw [if_neg q, Nat.zero_add]
      exact ih hn hS' (fun m hm e => hsub m (List.mem_cons_of_mem _ hm) e) fun m hm e => hc m (List.mem_cons_of_mem _ hm) e
/-- under way no name is tried more often than in the end -/
theorem Flw.le (f : Flw w ns S c pend) (g : Flw w ns' S' c' []) (hp : ns.Perm ns') : ∀ z, c z + pend.count z ≤ c' z := by
  have key : ∀ n z, Nn z = n → c z + pend.count z ≤ c' z := by
    intro n
    induction n using Nat.strongRecOn with
    | _ n ih =>
      intro z hz
      have e1 := f.eq z
      have e2 := g.eq z
      rw [List.count_nil, Nat.add_zero] at e2
      rw [e1, e2, hp.count_eq]
      have hc : ∀ m, nxt w m = some z → c m ≤ c' m := fun m hm => by
        have := ih (Nn m) (by rw [← hz]; exact nxt_Nn hm) m rfl
        omega
      have := infl_le (w := w) (o := some z) (c := c) (c' := c') f.nd g.nd (fun m hm e => (g.sup m).mpr (by have := hc m e; have := (f.sup m).mp hm; omega)) (fun m _ e => hc m e)
      omega
  exact fun z => key _ z rfl
theorem Flw.nil : Flw w [] [] (fun _ => 0) [] := ⟨List.nodup_nil, fun z => by simp, fun z => rfl⟩
/-- one more thing -/
theorem Flw.more (f : Flw w ns S c []) (x : Nm) : Flw w (ns ++ [x]) S c ([] ++ [x]) := ⟨f.nd, f.sup, fun z => by
  have := f.eq z
  rw [List.count_nil] at this
  rw [count_app1, count_app1, List.count_nil]
  omega⟩
end
end Ti


/-! Flow2: the first free name of a road; things one after another. -/
namespace Ti
open PySem
theorem filter_len_lt {α : Type} {p q : α → Bool} {x : α} (hpq : ∀ a, p a = true → q a = true) (hq : q x = true) (hp : p x = false) : ∀ {l : List α}, x ∈ l → (l.filter p).length < (l.filter q).length
  | [], h => nomatch h
  | a :: l, h => by
    have le : ∀ l : List α, (l.filter p).length ≤ (l.filter q).length := by
      intro l
      induction l with
      | nil => exact Nat.le_refl _
      | cons b l ih =>
        rw [List.filter_cons, List.filter_cons]
        by_cases hb : p b = true
        · rw [if_pos hb, if_pos (hpq b hb)]
          simp only [List.length_cons]
          omega
        · rw [if_neg hb]
          split
          · simp only [List.length_cons]; omega
          · exact ih
    rw [List.filter_cons, List.filter_cons]
    rcases List.mem_cons.mp h with e | e
    · subst e
      rw [if_neg (by rw [hp]; decide), if_pos hq]
      have := le l
      simp only [List.length_cons]
      omega
    · have ih := filter_len_lt hpq hq hp e
      by_cases hb : p a = true
      · rw [if_pos hb, if_pos (hpq a hb)]
        simp only [List.length_cons]
        omega
      · rw [if_neg hb]
        split
        · simp only [List.length_cons]; omega
        · exact ih
def ahead (G : List Nm) (x : Nm) : Nat := (G.filter fun g => decide (Nn x ≤ Nn g)).length
theorem ahead_lt {w : Option Nat} {G : List Nm} {x y : Nm} (hx : x ∈ G) (e : nxt w x = some y) : ahead G y < ahead G x := by
  have := nxt_Nn e
  exact filter_len_lt (p := fun g => decide (Nn y ≤ Nn g)) (q := fun g => decide (Nn x ≤ Nn g)) (x := x) (fun a h => by have h := of_decide_eq_true h; exact decide_eq_true (by omega)) (decide_eq_true (Nat.le_refl _)) (decide_eq_false (by omega)) hx
/-- the first free name of a road, and how many names are tried for it -/
def ff (w : Option Nat) (G : List Nm) (x : Nm) : Option Nm × Nat :=
  if h : x ∈ G then
    match e : nxt w x with
    | none => (none, 1)
    | some y => ((ff w G y).1, (ff w G y).2 + 1)
  else (some x, 1)
termination_by ahead G x
decreasing_by all_goals exact ahead_lt h e
section
variable {w : Option Nat} {G G' ns xs : List Nm} {c : Nm → Nat} {x y z : Nm}
theorem ff_out (h : x ∉ G) : ff w G x = (some x, 1) := by rw [ff, dif_neg h]
theorem ff_end (h : x ∈ G) (e : nxt w x = none) : ff w G x = (none, 1) := by
  rw [ff, dif_pos h]
  split
  · rfl
  · rename_i y e2; rw [e] at e2; cases e2
theorem ff_step (h : x ∈ G) (e : nxt w x = some y) : ff w G x = ((ff w G y).1, (ff w G y).2 + 1) := by
  rw [ff, dif_pos h]
  split
  · rename_i e2; rw [e] at e2; cases e2
  · rename_i y2 e2; rw [e] at e2; cases e2; rfl
/-- by cases along the road -/
theorem ff_ind {P : Nm → Prop} (h1 : ∀ x, x ∉ G → P x) (h2 : ∀ x, x ∈ G → nxt w x = none → P x) (h3 : ∀ x y, x ∈ G → nxt w x = some y → P y → P x) : ∀ x, P x := by
  have key : ∀ n x, ahead G x = n → P x := by
    intro n
    induction n using Nat.strongRecOn with
    | _ n ih =>
      intro x hx
      by_cases h : x ∈ G
      · cases e : nxt w x with
        | none => exact h2 x h e
        | some y => exact h3 x y h e (ih _ (by rw [← hx]; exact ahead_lt h e) y rfl)
      · exact h1 x h
  exact fun x => key _ x rfl
theorem ff_congr (h : ∀ z, z ∈ G ↔ z ∈ G') : ∀ x, ff w G x = ff w G' x := by
  refine ff_ind (G := G) (w := w) (fun x hx => ?_) (fun x hx e => ?_) fun x y hx e ih => ?_
  · rw [ff_out hx, ff_out (fun q => hx ((h x).mpr q))]
  · rw [ff_end hx e, ff_end ((h x).mp hx) e]
  · rw [ff_step hx e, ff_step ((h x).mp hx) e, ih]
theorem ff_len : ∀ x, 0 < (ff w G x).2 ∧ (ff w G x).2 ≤ ahead G x + 1 := by
  refine ff_ind (G := G) (w := w) (P := fun x => 0 < (ff w G x).2 ∧ (ff w G x).2 ≤ ahead G x + 1) (fun x hx => ?_) (fun x hx e => ?_) fun x y hx e ih => ?_
  · rw [ff_out hx]; exact ⟨Nat.one_pos, by show 1 ≤ _; omega⟩
  · rw [ff_end hx e]; exact ⟨Nat.one_pos, by show 1 ≤ _; omega⟩
  · rw [ff_step hx e]
    have := ahead_lt hx e
    exact ⟨by show 0 < _ + 1; omega, by show (ff w G y).2 + 1 ≤ _; omega⟩
theorem ahead_le : ahead G x ≤ G.length := List.length_filter_le _ _
theorem ff_le : (ff w G x).2 ≤ G.length + 1 := by
  have := (ff_len (w := w) (G := G) x).2
  have := @ahead_le G x
  omega
/-- where it lies -/
def ffP (w : Option Nat) (G : List Nm) (x : Nm) : Prop := (∀ i, i + 1 < (ff w G x).2 → ∃ g, g ∈ G ∧ rd w (some x) i = some g) ∧
    match (ff w G x).1 with
    | none => rd w (some x) (ff w G x).2 = none ∧ ∃ g, g ∈ G ∧ rd w (some x) ((ff w G x).2 - 1) = some g
    | some z => z ∉ G ∧ rd w (some x) ((ff w G x).2 - 1) = some z
theorem ff_spec : ∀ x, ffP w G x := by
  refine ff_ind (G := G) (w := w) (P := ffP w G) (fun x hx => ?_) (fun x hx e => ?_) fun x y hx e ih => ?_
  · unfold ffP; rw [ff_out hx]
    exact ⟨fun i hi => by have hi : i + 1 < 1 := hi; omega, hx, rfl⟩
  · unfold ffP; rw [ff_end hx e]
    exact ⟨fun i hi => by have hi : i + 1 < 1 := hi; omega, e, x, hx, rfl⟩
  · unfold ffP; rw [ff_step hx e]
    obtain ⟨i1, i2⟩ := ih
    have hp := (ff_len (w := w) (G := G) y).1
    have sh : ∀ i, rd w (some x) (i + 1) = rd w (some y) i := fun i => by
      rw [rd_succ]
      show rd w (nxt w x) i = _
      rw [e]
    refine ⟨fun i hi => ?_, ?_⟩
    · cases i with
      | zero => exact ⟨x, hx, rfl⟩
      | succ i =>
        obtain ⟨g, h1, h2⟩ := i1 i (by have hi : i + 1 + 1 < (ff w G y).2 + 1 := hi; omega)
        exact ⟨g, h1, by rw [sh]; exact h2⟩
    · show match (ff w G y).1 with
        | none => rd w (some x) ((ff w G y).2 + 1) = none ∧ ∃ g, g ∈ G ∧ rd w (some x) ((ff w G y).2 + 1 - 1) = some g
        | some z => z ∉ G ∧ rd w (some x) ((ff w G y).2 + 1 - 1) = some z
      have e2 : (ff w G y).2 + 1 - 1 = ((ff w G y).2 - 1) + 1 := by omega
      rw [e2, sh, sh]
      exact i2
theorem ff_notin (h : (ff w G x).1 = some z) : z ∉ G := by
  have := (ff_spec (w := w) (G := G) x).2
  rw [h] at this
  exact this.1
theorem ff_rd (h : (ff w G x).1 = some z) : rd w (some x) ((ff w G x).2 - 1) = some z := by
  have := (ff_spec (w := w) (G := G) x).2
  rw [h] at this
  exact this.2
def tot (S : List Nm) (c : Nm → Nat) : Nat := (S.map c).sum
theorem tot_bump_in (hn : G.Nodup) (hy : y ∈ G) : tot G (bump c y) = tot G c + 1 := by
  induction G with
  | nil => cases hy
  | cons a G ih =>
    obtain ⟨ha, hn'⟩ := List.nodup_cons.mp hn
    unfold tot at ih ⊢
    rw [List.map_cons, List.map_cons, List.sum_cons, List.sum_cons]
    by_cases q : y = a
    · subst q
      have : G.map (bump c y) = G.map c := List.map_congr_left fun m hm => bump_ne fun e => ha (by rw [← e]; exact hm)
      rw [this, bump_same]
      omega
    · have hy' : y ∈ G := by
        rcases List.mem_cons.mp hy with e | e
        · exact absurd e q
        · exact e
      rw [ih hn' hy', bump_ne fun e => q e.symm]
      omega
theorem tot_bump_new (hy : y ∉ G) (h0 : c y = 0) : tot (G ++ [y]) (bump c y) = tot G c + 1 := by
  unfold tot
  rw [List.map_append, List.sum_append]
  have : G.map (bump c y) = G.map c := List.map_congr_left fun m hm => bump_ne fun e => hy (by rw [← e]; exact hm)
  rw [this]
  show _ + ([bump c y y]).sum = _
  rw [bump_same, h0]
  rfl
/-- one thing comes -/
theorem Flw.come (y : Nm) : ∀ c, Flw w ns G c ([] ++ [y]) → ∃ c', Flw w ns (G ++ (ff w G y).1.toList) c' [] ∧
    infl w (G ++ (ff w G y).1.toList) c' none = infl w G c none + (if (ff w G y).1 = none then 1 else 0) ∧ tot (G ++ (ff w G y).1.toList) c' = tot G c + (ff w G y).2 := by
  refine ff_ind (G := G) (w := w) (P := fun y => ∀ c, Flw w ns G c ([] ++ [y]) → ∃ c', Flw w ns (G ++ (ff w G y).1.toList) c' [] ∧
    infl w (G ++ (ff w G y).1.toList) c' none = infl w G c none + (if (ff w G y).1 = none then 1 else 0) ∧ tot (G ++ (ff w G y).1.toList) c' = tot G c + (ff w G y).2) (fun y hy c f => ?_) (fun y hy e c f => ?_) (fun y z hy e ih c f => ?_) y
  · rw [ff_out hy]
    obtain ⟨f1, f2⟩ := f.stay hy
    exact ⟨_, f1, by rw [show ((some y, 1) : Option Nm × Nat).1.toList = [y] from rfl, f2, if_neg (by simp)]; omega, tot_bump_new hy (f.zero.mp hy)⟩
  · rw [ff_end hy e]
    obtain ⟨f1, f2⟩ := f.go hy
    rw [e] at f1
    show ∃ c', Flw w ns (G ++ []) c' [] ∧ infl w (G ++ []) c' none = infl w G c none + (if (none : Option Nm) = none then 1 else 0) ∧ tot (G ++ []) c' = tot G c + 1
    rw [List.append_nil]
    exact ⟨_, f1, by rw [f2, e], tot_bump_in f.nd hy⟩
  · rw [ff_step hy e]
    obtain ⟨f1, f2⟩ := f.go hy
    rw [e] at f1
    obtain ⟨c', g1, g2, g3⟩ := ih _ f1
    refine ⟨c', g1, ?_, ?_⟩
    · show infl w (G ++ (ff w G z).1.toList) c' none = _
      rw [g2, f2, e, if_neg (by simp)]
      rfl
    · show tot (G ++ (ff w G z).1.toList) c' = tot G c + ((ff w G z).2 + 1)
      rw [g3, tot_bump_in f.nd hy]
      omega
/-- things one after another -/
def hnd (w : Option Nat) : List Nm → List Nm → List (Option Nm × Nat)
  | _, [] => []
  | G, x :: xs => ff w G x :: hnd w (G ++ (ff w G x).1.toList) xs
def got (w : Option Nat) (xs : List Nm) : List (Option Nm) := (hnd w [] xs).map (·.1)
def trd (w : Option Nat) (xs : List Nm) : Nat := ((hnd w [] xs).map (·.2)).sum
def names (l : List (Option Nm)) : List Nm := l.filterMap id
theorem hnd_len : ∀ {G : List Nm} {xs : List Nm}, (hnd w G xs).length = xs.length
  | _, [] => rfl
  | G, x :: xs => by
    show (hnd w _ xs).length + 1 = xs.length + 1
    rw [hnd_len]
theorem hnd_flw : ∀ (xs : List Nm) {G ns : List Nm} {c : Nm → Nat}, Flw w ns G c [] → ∃ c', Flw w (ns ++ xs) (G ++ names ((hnd w G xs).map (·.1))) c' [] ∧
    infl w (G ++ names ((hnd w G xs).map (·.1))) c' none = infl w G c none + ((hnd w G xs).map (·.1)).count none ∧ tot (G ++ names ((hnd w G xs).map (·.1))) c' = tot G c + ((hnd w G xs).map (·.2)).sum
  | [], G, ns, c, f => by
    refine ⟨c, ?_, ?_, ?_⟩
    · rw [List.append_nil]
      show Flw w ns (G ++ []) c []
      rw [List.append_nil]
      exact f
    · show infl w (G ++ []) c none = infl w G c none + 0
      rw [List.append_nil]
      rfl
    · show tot (G ++ []) c = tot G c + 0
      rw [List.append_nil]
      rfl
  | x :: xs, G, ns, c, f => by
    obtain ⟨c1, f1, f2, f3⟩ := (Flw.come x) c (f.more x)
    obtain ⟨c2, g1, g2, g3⟩ := hnd_flw xs f1
    have e : G ++ names ((hnd w G (x :: xs)).map (·.1)) = (G ++ (ff w G x).1.toList) ++ names ((hnd w (G ++ (ff w G x).1.toList) xs).map (·.1)) := by
      show G ++ names ((ff w G x).1 :: (hnd w (G ++ (ff w G x).1.toList) xs).map (·.1)) = _
      unfold names
      cases h : (ff w G x).1 with
      | none => simp [h]
      | some z => simp [h]
    refine ⟨c2, ?_, ?_, ?_⟩
    · rw [e, show ns ++ x :: xs = (ns ++ [x]) ++ xs by simp]
      exact g1
    · rw [e, g2, f2]
      show _ = _ + ((ff w G x).1 :: (hnd w (G ++ (ff w G x).1.toList) xs).map (·.1)).count none
      rw [List.count_cons]
      cases h : (ff w G x).1 with
      | none => simp; omega
      | some z => simp
    · rw [e, g3, f3]
      show _ = _ + ((ff w G x).2 :: (hnd w (G ++ (ff w G x).1.toList) xs).map (·.2)).sum
      rw [List.sum_cons]
      omega
/-- what all this comes to -/
theorem got_flw (xs : List Nm) : ∃ c, Flw w xs (names (got w xs)) c [] ∧ infl w (names (got w xs)) c none = (got w xs).count none ∧ tot (names (got w xs)) c = trd w xs := by
  obtain ⟨c, f1, f2, f3⟩ := hnd_flw (w := w) xs Flw.nil
  rw [List.nil_append, List.nil_append] at *
  refine ⟨c, f1, ?_, ?_⟩
  · unfold got; rw [f2, infl_nil]; omega
  · unfold trd; unfold got; rw [f3]; show tot [] _ + _ = _; simp [tot]
end
end Ti


/-! Ti: what folders do: checks, the first free name, one thing after another; the law's own. -/
namespace Ti
open PySem Pr
section
variable {h : Hh} {l : List Nat} {w : Option Nat}
theorem contains_dig {c : Nat} : ([48, 49, 50, 51, 52, 53, 54, 55, 56, 57] : List Nat).contains c = isDig c := by
  have := @digits_iff c
  by_cases hc : isDig c = true
  · rw [hc, List.contains_iff_mem]
    exact this.mpr hc
  · rw [Bool.not_eq_true] at hc
    rw [hc, ← Bool.not_eq_true, List.contains_iff_mem]
    intro z
    have := this.mp z
    rw [hc] at this
    cases this
theorem rstrip_run (hl : l.length ≤ 100000) : pRstrip (.str (mkS l)) (.str (mkS [48, 49, 50, 51, 52, 53, 54, 55, 56, 57])) h = .ok (.str (mkS (l.take (at1 l))), h) := by
  have e : (fun c => (sg (mkS [48, 49, 50, 51, 52, 53, 54, 55, 56, 57])).contains c) = isDig := funext fun c => contains_dig
  show (if (mkS l).length ≤ lineW then Res.ok (W.str (mkS ((sg (mkS l)).reverse.dropWhile fun c => (sg (mkS [48, 49, 50, 51, 52, 53, 54, 55, 56, 57])).contains c).reverse), h) else .bad) = _
  rw [mkS_len, if_pos (Nat.le_trans hl (by decide)), e, sg_mk, dw_drop, List.drop_reverse, List.reverse_reverse]
  rfl
theorem split_run (hl : l.length ≤ 1000) : f__law_split [.str (mkS l)] h = .ok (.tup [.str (mkS (stm l)), .str (mkS (dgs l))], h) := by
  have hl7 : l.length ≤ 10000000 := by omega
  have hd := @dgs_len l
  have hc := @cutN_le l
  have ha := @at1_le l
  have h9 : (l.length : Int) - ((dgs l).length : Int) = (cutN l : Int) := by
    unfold dgs
    rw [List.length_drop]
    omega
  have la : (l.take (at1 l)).length = at1 l := by rw [List.length_take]; omega
  unfold f__law_split b__law_split
  simp only [r_run, List.map_cons, List.map_nil, List.length_cons, List.length_nil, List.replicate, List.cons_append, List.nil_append, List.append_nil, List.set_cons_zero, List.set_cons_succ, List.set_nil, Nat.sub_self, Nat.zero_add, Nat.reduceAdd, Nat.reduceSub, Nat.reduceEqDiff, Nat.reduceLeDiff, Res.bind_ok, ofO_some, T_ok, T_bind, if_true, if_false, Bool.false_eq_true, Bool.not_true, Bool.not_false, r_eK, r_eV0, r_eVs, r_e1, r_e2, r_e3, r_eL0, r_eLs, r_eF, r_eAnd, r_eOr, r_eNot, r_eIf, r_eTree, r_eLst, r_eTup, r_eDic, r_tN, r_tL0, r_tLs, r_tT, r_sNil, r_sPass, r_sE, r_sAsg, r_sRet, r_sRetN, r_sBrk, r_sCnt, r_sIf, r_sSet, r_sCons, r_sFor, r_eCall, r_l1, r_l2, r_l3, r_eM, r_eComp, r_eChain, andThen_nx, andThen_rt, andThen_bk, andThen_ct, hb_nx, hb_rt, fin_raw, fin_int, fin_bl, fin_str, fin_non, truthy_bl, truthy_non, truthy_int, add_int, sub_int, lt_int, le_int, gt_int, ge_int, is_non, isN_non, isNon_non, isNon_int, isNon_str, fiL_lst, fiL_tup, fiL_str, decide_true, decide_false, decide_eq_true_eq, lineW_eq, mkL_f, mkL_t, Nat.reduceLeDiff, ix_tup3_0, ix_tup3_1, ix_tup3_2, ix_tup2_0, ix_tup2_1, sl_tup3_1, r_forG0, r_forGs, nextF_nx, nextF_ct, nextF_bk, nextF_rt, nW_none, nW_some, Option.isNone_none, Option.isNone_some, isMT, rstrip_run (h := h) (l := l) (by omega), len_str (h := h) (l := l.take (at1 l)) (by omega), la, sl_from (h := h) (l := l) (k := false) (n := at1 l) hl7, lstrip_run (h := h) (l := l) (by omega), len_str (h := h) (l := l) hl7, len_str (h := h) (l := dgs l) (by omega), h9, sl_to (h := h) (l := l) (k := false) (n := cutN l) hl7, len2_le]
  rw [fin_here rfl]
  rfl
theorem law_next_run (hl : l.length ≤ 400) (hw : WdO w) : f__law_next [.str (mkS l), wW w] h = .ok (nW (nxt w l), h) := by
  rw [← aft_eq]
  have hp := split_run (h := h) (l := l) (by omega)
  have fd : strFine (mkS (dgs l)) = true := fine_le (fun c hc => dig_lt (drop_digs c hc)) (by have := @dgs_len l; omega)
  have f2 := @fol_len l
  have s2 := @stm_len l
  have fr := fol_run (h := h) (ρ := [some (.str (mkS l)), some (wW w), none, some (.str (mkS (stm l))), some (.str (mkS (dgs l)))]) (l := l) hl (e := eV 4) (fun _ => rfl)
  unfold f__law_next b__law_next
  simp only [r_run, List.map_cons, List.map_nil, List.length_cons, List.length_nil, List.replicate, r_sCons, r_sAsg, r_eCall, r_eLs, r_eL0, r_eV0, r_eVs, Res.bind_ok, List.append_nil, List.cons_append, List.nil_append, if_true, hp, r_tT, r_tLs, r_tL0, r_tN, List.set_cons_zero, List.set_cons_succ, andThen_nx]
  have e1 : (eIf (e2 pEq (eV 4) (eK (W.str (mkS [])))) (eK (W.str (mkS [50]))) (eF (l1 pStr) [(e2 (pAdd false) (eF (l1 pInt) [(eV 4)]) (eK (W.int 1)))])) [some (.str (mkS l)), some (wW w), none, some (.str (mkS (stm l))), some (.str (mkS (dgs l)))] h = .ok (.str (mkS (fol l)), h) := by
    rw [r_eIf]
    simp only [r_e2, r_eVs, r_eV0, r_eK, Res.bind_ok, eq_str fd fine_nil, truthy_bl, ofO_some, decide_eq_true_eq]
    by_cases hd : dgs l = []
    · rw [if_pos hd]
      unfold fol
      rw [if_pos hd]
    · rw [if_neg hd, fr, if_neg hd]
  rw [e1]
  simp only [Res.bind_ok, List.set_cons_zero, List.set_cons_succ, andThen_nx, r_sCons, r_sIf, r_e2, r_eVs, r_eV0, r_eK, is_non, truthy_bl, ofO_some]
  cases w with
  | none =>
    simp only [wW_none, isNon_non, if_true, r_sRet, r_e2, r_eVs, r_eV0, Res.bind_ok, add_str (h := h) (k := false) (a := stm l) (b := fol l) (by omega), andThen_rt, hb_rt, fin_str]
    rfl
  | some k =>
    simp only [wW_some, isNon_int, Bool.false_eq_true, if_false, r_sNil, andThen_nx, r_sRet, r_eIf, r_e2, r_eF, r_eLs, r_eL0, r_l1, r_eVs, r_eV0, Res.bind_ok, len_str (h := h) (l := fol l) (by omega), le_int, truthy_bl, ofO_some, decide_eq_true_eq]
    rw [show aft l (.int (k : Int)) = if (k : Int) < ((fol l).length : Int) then .non else .str (mkS ((stm l).take ((k : Int).toNat - (fol l).length) ++ fol l)) from rfl]
    by_cases hk : (k : Int) < ((fol l).length : Int)
    · rw [if_pos hk, if_neg (by omega)]
      simp only [r_eK, Res.bind_ok, hb_rt, fin_non]
    · have e2 : (k : Int) - ((fol l).length : Int) = ((k - (fol l).length : Nat) : Int) := by omega
      rw [if_neg hk, if_pos (by omega)]
      simp only [r_e3, r_eVs, r_eV0, r_eK, Res.bind_ok, r_e2, r_eF, r_eLs, r_eL0, r_l1, len_str (h := h) (l := fol l) (by omega), sub_int, e2, sl_to (h := h) (l := stm l) (k := false) (by omega), Int.toNat_natCast]
      rw [add_str (by have := List.length_take_le' (k - (fol l).length) (stm l); omega)]
      simp only [Res.bind_ok, hb_rt, fin_str]
end
section
variable {h : Hh} {ls : List (List Nat)} {w : Option Nat}
theorem eq_nil_run : pEq (.lst []) (.lst []) h = .ok (.bl true, h) := rfl
theorem ne_nil_run : pNe (.lst []) (.lst []) h = .ok (.bl false, h) := rfl
theorem are_names_run (hs : ∀ l ∈ ls, Nam w l) (hl : ls.length ≤ 1000) : f_are_names [namesW ls] h = .ok (.bl true, h) := by
  have e3 : compG (fun _ => true) [1] (tN 1) (some (eNot (eCall f_is_name 1 [] [eV 1]))) (eV 1) [some (.lst (ls.map stW)), none] (ls.map stW) [] h = .ok ([], h) := by
    rw [compG_pure (fun _ => false) id _ rfl ?_ (by rw [List.length_map]; exact Nat.le_trans (show 0 + ls.length ≤ 1000 by omega) (by decide))]
    · rw [List.filter_eq_nil_iff.mpr (fun _ _ => by decide)]
      rfl
    · intro x hx
      obtain ⟨l, hl, rfl⟩ := List.mem_map.mp hx
      refine ⟨[some (.lst (ls.map stW)), some (stW l)], rfl, ⟨.bl false, ?_, rfl⟩, fun z => nomatch z⟩
      unfold stW
      simp only [r_run, List.map_cons, List.map_nil, List.length_cons, List.length_nil, List.replicate, List.cons_append, List.nil_append, List.append_nil, List.set_cons_zero, List.set_cons_succ, List.set_nil, Nat.sub_self, Nat.zero_add, Nat.reduceAdd, Nat.reduceSub, Nat.reduceEqDiff, Nat.reduceLeDiff, Res.bind_ok, ofO_some, T_ok, T_bind, if_true, if_false, Bool.false_eq_true, Bool.not_true, Bool.not_false, r_eK, r_eV0, r_eVs, r_e1, r_e2, r_e3, r_eL0, r_eLs, r_eF, r_eAnd, r_eOr, r_eNot, r_eIf, r_eTree, r_eLst, r_eTup, r_eDic, r_tN, r_tL0, r_tLs, r_tT, r_sNil, r_sPass, r_sE, r_sAsg, r_sRet, r_sRetN, r_sBrk, r_sCnt, r_sIf, r_sSet, r_sCons, r_sFor, r_eCall, r_l1, r_l2, r_l3, r_eM, r_eComp, r_eChain, andThen_nx, andThen_rt, andThen_bk, andThen_ct, hb_nx, hb_rt, fin_raw, fin_int, fin_bl, fin_str, fin_non, truthy_bl, truthy_non, truthy_int, add_int, sub_int, lt_int, le_int, gt_int, ge_int, is_non, isN_non, isNon_non, isNon_int, isNon_str, fiL_lst, fiL_tup, fiL_str, decide_true, decide_false, decide_eq_true_eq, lineW_eq, mkL_f, mkL_t, Nat.reduceLeDiff, ix_tup3_0, ix_tup3_1, ix_tup3_2, ix_tup2_0, ix_tup2_1, sl_tup3_1, r_forG0, r_forGs, nextF_nx, nextF_ct, nextF_bk, nextF_rt, nW_none, nW_some, Option.isNone_none, Option.isNone_some, is_name_ok (hs l hl).name]
  have d1 : pIsi .list (.lst (ls.map stW)) h = .ok (.bl true, h) := rfl
  unfold f_are_names b_are_names namesW
  simp only [r_run, List.map_cons, List.map_nil, List.length_cons, List.length_nil, List.replicate, List.cons_append, List.nil_append, List.append_nil, List.set_cons_zero, List.set_cons_succ, List.set_nil, Nat.sub_self, Nat.zero_add, Nat.reduceAdd, Nat.reduceSub, Nat.reduceEqDiff, Nat.reduceLeDiff, Res.bind_ok, ofO_some, T_ok, T_bind, if_true, if_false, Bool.false_eq_true, Bool.not_true, Bool.not_false, r_eK, r_eV0, r_eVs, r_e1, r_e2, r_e3, r_eL0, r_eLs, r_eF, r_eAnd, r_eOr, r_eNot, r_eIf, r_eTree, r_eLst, r_eTup, r_eDic, r_tN, r_tL0, r_tLs, r_tT, r_sNil, r_sPass, r_sE, r_sAsg, r_sRet, r_sRetN, r_sBrk, r_sCnt, r_sIf, r_sSet, r_sCons, r_sFor, r_eCall, r_l1, r_l2, r_l3, r_eM, r_eComp, r_eChain, andThen_nx, andThen_rt, andThen_bk, andThen_ct, hb_nx, hb_rt, fin_raw, fin_int, fin_bl, fin_str, fin_non, truthy_bl, truthy_non, truthy_int, add_int, sub_int, lt_int, le_int, gt_int, ge_int, is_non, isN_non, isNon_non, isNon_int, isNon_str, fiL_lst, fiL_tup, fiL_str, decide_true, decide_false, decide_eq_true_eq, lineW_eq, mkL_f, mkL_t, Nat.reduceLeDiff, ix_tup3_0, ix_tup3_1, ix_tup3_2, ix_tup2_0, ix_tup2_1, sl_tup3_1, r_forG0, r_forGs, nextF_nx, nextF_ct, nextF_bk, nextF_rt, nW_none, nW_some, Option.isNone_none, Option.isNone_some, d1, e3, eq_nil_run]
theorem check_names_run (hs : ∀ l ∈ ls, Nam w l) (hl : ls.length ≤ 1000) : f_check_names [namesW ls] h = .ok (.non, h) := by
  unfold f_check_names b_check_names
  simp only [r_run, List.map_cons, List.map_nil, List.length_cons, List.length_nil, List.replicate, List.cons_append, List.nil_append, List.append_nil, List.set_cons_zero, List.set_cons_succ, List.set_nil, Nat.sub_self, Nat.zero_add, Nat.reduceAdd, Nat.reduceSub, Nat.reduceEqDiff, Nat.reduceLeDiff, Res.bind_ok, ofO_some, T_ok, T_bind, if_true, if_false, Bool.false_eq_true, Bool.not_true, Bool.not_false, r_eK, r_eV0, r_eVs, r_e1, r_e2, r_e3, r_eL0, r_eLs, r_eF, r_eAnd, r_eOr, r_eNot, r_eIf, r_eTree, r_eLst, r_eTup, r_eDic, r_tN, r_tL0, r_tLs, r_tT, r_sNil, r_sPass, r_sE, r_sAsg, r_sRet, r_sRetN, r_sBrk, r_sCnt, r_sIf, r_sSet, r_sCons, r_sFor, r_eCall, r_l1, r_l2, r_l3, r_eM, r_eComp, r_eChain, andThen_nx, andThen_rt, andThen_bk, andThen_ct, hb_nx, hb_rt, fin_raw, fin_int, fin_bl, fin_str, fin_non, truthy_bl, truthy_non, truthy_int, add_int, sub_int, lt_int, le_int, gt_int, ge_int, is_non, isN_non, isNon_non, isNon_int, isNon_str, fiL_lst, fiL_tup, fiL_str, decide_true, decide_false, decide_eq_true_eq, lineW_eq, mkL_f, mkL_t, Nat.reduceLeDiff, ix_tup3_0, ix_tup3_1, ix_tup3_2, ix_tup2_0, ix_tup2_1, sl_tup3_1, r_forG0, r_forGs, nextF_nx, nextF_ct, nextF_bk, nextF_rt, nW_none, nW_some, Option.isNone_none, Option.isNone_some, are_names_run hs hl]
theorem check_fitting_run (hs : ∀ l ∈ ls, Nam w l) (hw : WdO w) (hl : ls.length ≤ 1000) : f_check_fitting_names [namesW ls, wW w] h = .ok (.non, h) := by
  have e3 : compG (fun _ => true) [2] (tN 2) (some (eNot (eCall f_fits 2 [] [eV 2, eV 1]))) (eV 2) [some (.lst (ls.map stW)), some (wW w), none] (ls.map stW) [] h = .ok ([], h) := by
    rw [compG_pure (fun _ => false) id _ rfl ?_ (by rw [List.length_map]; exact Nat.le_trans (show 0 + ls.length ≤ 1000 by omega) (by decide))]
    · rw [List.filter_eq_nil_iff.mpr (fun _ _ => by decide)]
      rfl
    · intro x hx
      obtain ⟨l, hl, rfl⟩ := List.mem_map.mp hx
      refine ⟨[some (.lst (ls.map stW)), some (wW w), some (stW l)], rfl, ⟨.bl false, ?_, rfl⟩, fun z => nomatch z⟩
      unfold stW
      simp only [r_run, List.map_cons, List.map_nil, List.length_cons, List.length_nil, List.replicate, List.cons_append, List.nil_append, List.append_nil, List.set_cons_zero, List.set_cons_succ, List.set_nil, Nat.sub_self, Nat.zero_add, Nat.reduceAdd, Nat.reduceSub, Nat.reduceEqDiff, Nat.reduceLeDiff, Res.bind_ok, ofO_some, T_ok, T_bind, if_true, if_false, Bool.false_eq_true, Bool.not_true, Bool.not_false, r_eK, r_eV0, r_eVs, r_e1, r_e2, r_e3, r_eL0, r_eLs, r_eF, r_eAnd, r_eOr, r_eNot, r_eIf, r_eTree, r_eLst, r_eTup, r_eDic, r_tN, r_tL0, r_tLs, r_tT, r_sNil, r_sPass, r_sE, r_sAsg, r_sRet, r_sRetN, r_sBrk, r_sCnt, r_sIf, r_sSet, r_sCons, r_sFor, r_eCall, r_l1, r_l2, r_l3, r_eM, r_eComp, r_eChain, andThen_nx, andThen_rt, andThen_bk, andThen_ct, hb_nx, hb_rt, fin_raw, fin_int, fin_bl, fin_str, fin_non, truthy_bl, truthy_non, truthy_int, add_int, sub_int, lt_int, le_int, gt_int, ge_int, is_non, isN_non, isNon_non, isNon_int, isNon_str, fiL_lst, fiL_tup, fiL_str, decide_true, decide_false, decide_eq_true_eq, lineW_eq, mkL_f, mkL_t, Nat.reduceLeDiff, ix_tup3_0, ix_tup3_1, ix_tup3_2, ix_tup2_0, ix_tup2_1, sl_tup3_1, r_forG0, r_forGs, nextF_nx, nextF_ct, nextF_bk, nextF_rt, nW_none, nW_some, Option.isNone_none, Option.isNone_some, fits_ok (h := h) (show l.length ≤ 100000 by have := (hs l hl).len; omega) hw.wd (hs l hl).fits]
  unfold f_check_fitting_names b_check_fitting_names namesW
  simp only [r_run, List.map_cons, List.map_nil, List.length_cons, List.length_nil, List.replicate, List.cons_append, List.nil_append, List.append_nil, List.set_cons_zero, List.set_cons_succ, List.set_nil, Nat.sub_self, Nat.zero_add, Nat.reduceAdd, Nat.reduceSub, Nat.reduceEqDiff, Nat.reduceLeDiff, Res.bind_ok, ofO_some, T_ok, T_bind, if_true, if_false, Bool.false_eq_true, Bool.not_true, Bool.not_false, r_eK, r_eV0, r_eVs, r_e1, r_e2, r_e3, r_eL0, r_eLs, r_eF, r_eAnd, r_eOr, r_eNot, r_eIf, r_eTree, r_eLst, r_eTup, r_eDic, r_tN, r_tL0, r_tLs, r_tT, r_sNil, r_sPass, r_sE, r_sAsg, r_sRet, r_sRetN, r_sBrk, r_sCnt, r_sIf, r_sSet, r_sCons, r_sFor, r_eCall, r_l1, r_l2, r_l3, r_eM, r_eComp, r_eChain, andThen_nx, andThen_rt, andThen_bk, andThen_ct, hb_nx, hb_rt, fin_raw, fin_int, fin_bl, fin_str, fin_non, truthy_bl, truthy_non, truthy_int, add_int, sub_int, lt_int, le_int, gt_int, ge_int, is_non, isN_non, isNon_non, isNon_int, isNon_str, fiL_lst, fiL_tup, fiL_str, decide_true, decide_false, decide_eq_true_eq, lineW_eq, mkL_f, mkL_t, Nat.reduceLeDiff, ix_tup3_0, ix_tup3_1, ix_tup3_2, ix_tup2_0, ix_tup2_1, sl_tup3_1, r_forG0, r_forGs, nextF_nx, nextF_ct, nextF_bk, nextF_rt, nW_none, nW_some, Option.isNone_none, Option.isNone_some, e3, ne_nil_run]
theorem check_things_run (hs : ∀ l ∈ ls, Nam w l) (hw : WdO w) (hl : ls.length ≤ 1000) : f_check_things [namesW ls, wW w] h = .ok (.non, h) := by
  unfold f_check_things b_check_things
  simp only [r_run, List.map_cons, List.map_nil, List.length_cons, List.length_nil, List.replicate, List.cons_append, List.nil_append, List.append_nil, List.set_cons_zero, List.set_cons_succ, List.set_nil, Nat.sub_self, Nat.zero_add, Nat.reduceAdd, Nat.reduceSub, Nat.reduceEqDiff, Nat.reduceLeDiff, Res.bind_ok, ofO_some, T_ok, T_bind, if_true, if_false, Bool.false_eq_true, Bool.not_true, Bool.not_false, r_eK, r_eV0, r_eVs, r_e1, r_e2, r_e3, r_eL0, r_eLs, r_eF, r_eAnd, r_eOr, r_eNot, r_eIf, r_eTree, r_eLst, r_eTup, r_eDic, r_tN, r_tL0, r_tLs, r_tT, r_sNil, r_sPass, r_sE, r_sAsg, r_sRet, r_sRetN, r_sBrk, r_sCnt, r_sIf, r_sSet, r_sCons, r_sFor, r_eCall, r_l1, r_l2, r_l3, r_eM, r_eComp, r_eChain, andThen_nx, andThen_rt, andThen_bk, andThen_ct, hb_nx, hb_rt, fin_raw, fin_int, fin_bl, fin_str, fin_non, truthy_bl, truthy_non, truthy_int, add_int, sub_int, lt_int, le_int, gt_int, ge_int, is_non, isN_non, isNon_non, isNon_int, isNon_str, fiL_lst, fiL_tup, fiL_str, decide_true, decide_false, decide_eq_true_eq, lineW_eq, mkL_f, mkL_t, Nat.reduceLeDiff, ix_tup3_0, ix_tup3_1, ix_tup3_2, ix_tup2_0, ix_tup2_1, sl_tup3_1, r_forG0, r_forGs, nextF_nx, nextF_ct, nextF_bk, nextF_rt, nW_none, nW_some, Option.isNone_none, Option.isNone_some, check_names_run hs hl, check_width_ok hw.wd, check_fitting_run hs hw hl]
end
end Ti


/-! Ti: the first free name, one thing after another. -/
namespace Ti
open PySem Pr
def kS (l : List Nat) : HK := .str (mkS l)
theorem kS_eq {a b : List Nat} : kS a = kS b ↔ a = b := ⟨fun e => by unfold kS at e; exact mkS_inj (HK.str.inj e), fun e => by rw [e]⟩
/-- names as keys -/
def dk (G : List Nm) : List (HK × W) := G.map fun g => (kS g, .bl true)
section
variable {h : Hh} {G : List Nm} {x y : Nm} {g : Nat} {w : Option Nat}
theorem dget_dk : dget (dk G) (kS x) = if x ∈ G then some (.bl true) else none := by
  induction G with
  | nil => rfl
  | cons a G ih =>
    unfold dget dk at ih ⊢
    rw [List.map_cons, List.find?_cons]
    by_cases e : a = x
    · subst e
      simp
    · rw [show decide ((kS a, W.bl true).1 = kS x) = false from decide_eq_false fun z => e (kS_eq.mp z)]
      have : (x ∈ a :: G) ↔ x ∈ G := by
        rw [List.mem_cons]
        exact ⟨fun h => h.resolve_left fun z => e z.symm, .inr⟩
      simp only [this]
      exact ih
theorem dput_dk (hx : x ∉ G) : dput (dk G) (kS x) (.bl true) = dk (G ++ [x]) := by
  unfold dput
  rw [if_neg, dk, dk, List.map_append]
  · rfl
  · intro z
    obtain ⟨kv, h1, h2⟩ := List.any_eq_true.mp z
    obtain ⟨a, ha, rfl⟩ := List.mem_map.mp h1
    rw [decide_eq_true_eq] at h2
    rw [kS_eq.mp h2] at ha
    exact hx ha
theorem asL_dic {kd : Bool} {kvs : List (HK × W)} (e : h[g]? = some (.dic kd kvs)) : asL h (.ref g) = none := by
  show (match h[g]? with | some (.lst ws) => some ws | some (.frz (.lst ws)) => some ws | _ => none) = _
  rw [e]
theorem asD_dic {kd : Bool} {kvs : List (HK × W)} (e : h[g]? = some (.dic kd kvs)) : asD h (.ref g) = some (kd, kvs) := by
  show (match h[g]? with
    | some (.dic kd kvs) => some (kd, kvs)
    | some (.frz (.dic kd kvs)) => some (kd, kvs)
    | _ => none) = _
  rw [e]
theorem in_dk (e : h[g]? = some (.dic false (dk G))) : pIn (.str (mkS x)) (.ref g) h = .ok (.bl (decide (x ∈ G)), h) := by
  have : inB h (.str (mkS x)) (.ref g) = some (decide (x ∈ G)) := by
    unfold inB
    simp only [asL_dic e, asD_dic e]
    show (if (kS x).fits false = true then some (dget (dk G) (kS x)).isSome else none) = _
    rw [if_pos (show (kS x).fits false = true from rfl), dget_dk]
    by_cases hx : x ∈ G
    · rw [if_pos hx, decide_eq_true hx]; rfl
    · rw [if_neg hx, decide_eq_false hx]; rfl
  unfold pIn
  rw [this]
  rfl
theorem set_dk (e : h[g]? = some (.dic false (dk G))) (hx : x ∉ G) (hl : G.length < lineW) : pSet (.ref g) (.str (mkS x)) (.bl true) h = .ok (.non, h.set g (.dic false (dk (G ++ [x])))) := by
  unfold pSet
  simp only [e]
  show (if ((kS x).fits false && nor (.bl true) && decide ((dk G).length < lineW)) = true then Res.ok (W.non, h.set g (.dic false (dput (dk G) (kS x) (.bl true)))) else .bad) = _
  rw [dput_dk hx, if_pos]
  show (true && true && decide ((dk G).length < lineW)) = true
  rw [show (dk G).length = G.length from List.length_map _, decide_eq_true hl]
  rfl
theorem ff_lt (hG : G.length ≤ 1000) : (ff w G x).2 < bigFuel := by
  have := @ff_le w G x
  have b : 10000 ≤ bigFuel := by decide
  omega
theorem first_free_run (hx : Nam w x) (hl : x.length ≤ 100) (hw : WdO w) (hG : G.length ≤ 1000) (e : h[g]? = some (.dic false (dk G))) : f_first_free [.str (mkS x), wW w, .ref g] h = .ok (.tup [nW (ff w G x).1, .int ((ff w G x).2 : Int)], h) := by
  apply T.eq
  unfold f_first_free b_first_free
  simp only [r_run, List.map_cons, List.map_nil, List.length_cons, List.length_nil, List.replicate, List.cons_append, List.nil_append, List.append_nil, List.set_cons_zero, List.set_cons_succ, List.set_nil, Nat.sub_self, Nat.zero_add, Nat.reduceAdd, Nat.reduceSub, Nat.reduceEqDiff, Nat.reduceLeDiff, Res.bind_ok, ofO_some, T_ok, T_bind, if_true, if_false, Bool.false_eq_true, Bool.not_true, Bool.not_false, r_eK, r_eV0, r_eVs, r_e1, r_e2, r_e3, r_eL0, r_eLs, r_eF, r_eAnd, r_eOr, r_eNot, r_eIf, r_eTree, r_eLst, r_eTup, r_eDic, r_tN, r_tL0, r_tLs, r_tT, r_sNil, r_sPass, r_sE, r_sAsg, r_sRet, r_sRetN, r_sBrk, r_sCnt, r_sIf, r_sSet, r_sCons, r_sFor, r_eCall, r_l1, r_l2, r_l3, r_eM, r_eComp, r_eChain, andThen_nx, andThen_rt, andThen_bk, andThen_ct, hb_nx, hb_rt, fin_raw, fin_int, fin_bl, fin_str, fin_non, truthy_bl, truthy_non, truthy_int, add_int, sub_int, lt_int, le_int, gt_int, ge_int, is_non, isN_non, isNon_non, isNon_int, isNon_str, fiL_lst, fiL_tup, fiL_str, decide_true, decide_false, decide_eq_true_eq, lineW_eq, mkL_f, mkL_t, Nat.reduceLeDiff, ix_tup3_0, ix_tup3_1, ix_tup3_2, ix_tup2_0, ix_tup2_1, sl_tup3_1, r_forG0, r_forGs, nextF_nx, nextF_ct, nextF_bk, nextF_rt, nW_none, nW_some, Option.isNone_none, Option.isNone_some]
  refine T.mono (T_while (Q := fun q => q.2.2 = h ∧ (q.1 = .rt (.tup [nW (ff w G x).1, .int ((ff w G x).2 : Int)]) ∨ (q.1 = .nx ∧ ∃ y, (ff w G x).1 = some y ∧ q.2.1 = [some (.str (mkS y)), some (wW w), some (.ref g), some (.int ((ff w G x).2 : Int))])))
    (fun n ρ h' => h' = h ∧ ∃ (y : Nm) (k : Nat), rd w (some x) k = some y ∧ (ff w G x).1 = (ff w G y).1 ∧ (ff w G x).2 = (ff w G y).2 + k ∧ n = (ff w G y).2 ∧ ρ = [some (.str (mkS y)), some (wW w), some (.ref g), some (.int ((k + 1 : Nat) : Int))])
    (n := (ff w G x).2) (ff_lt hG) ⟨rfl, x, 0, rfl, rfl, rfl, rfl, rfl⟩ ?_) ?_
  · rintro n ρ _ ⟨rfl, y, k, hy, f1, f2, rfl, rfl⟩
    have fl := @ff_le w G x
    have fp := (ff_len (w := w) (G := G) y).1
    have hk : k ≤ 10 ^ 100 := Nat.le_trans (show k ≤ 10000 by omega) (by decide)
    obtain ⟨ny, ly⟩ := rd_nam hw hx hl hk hy
    simp only [r_run, List.map_cons, List.map_nil, List.length_cons, List.length_nil, List.replicate, List.cons_append, List.nil_append, List.append_nil, List.set_cons_zero, List.set_cons_succ, List.set_nil, Nat.sub_self, Nat.zero_add, Nat.reduceAdd, Nat.reduceSub, Nat.reduceEqDiff, Nat.reduceLeDiff, Res.bind_ok, ofO_some, T_ok, T_bind, if_true, if_false, Bool.false_eq_true, Bool.not_true, Bool.not_false, r_eK, r_eV0, r_eVs, r_e1, r_e2, r_e3, r_eL0, r_eLs, r_eF, r_eAnd, r_eOr, r_eNot, r_eIf, r_eTree, r_eLst, r_eTup, r_eDic, r_tN, r_tL0, r_tLs, r_tT, r_sNil, r_sPass, r_sE, r_sAsg, r_sRet, r_sRetN, r_sBrk, r_sCnt, r_sIf, r_sSet, r_sCons, r_sFor, r_eCall, r_l1, r_l2, r_l3, r_eM, r_eComp, r_eChain, andThen_nx, andThen_rt, andThen_bk, andThen_ct, hb_nx, hb_rt, fin_raw, fin_int, fin_bl, fin_str, fin_non, truthy_bl, truthy_non, truthy_int, add_int, sub_int, lt_int, le_int, gt_int, ge_int, is_non, isN_non, isNon_non, isNon_int, isNon_str, fiL_lst, fiL_tup, fiL_str, decide_true, decide_false, decide_eq_true_eq, lineW_eq, mkL_f, mkL_t, Nat.reduceLeDiff, ix_tup3_0, ix_tup3_1, ix_tup3_2, ix_tup2_0, ix_tup2_1, sl_tup3_1, r_forG0, r_forGs, nextF_nx, nextF_ct, nextF_bk, nextF_rt, nW_none, nW_some, Option.isNone_none, Option.isNone_some, in_dk e]
    refine ⟨_, rfl, ?_⟩
    by_cases hm : y ∈ G
    · rw [if_pos (decide_eq_true hm)]
      simp only [r_run, List.map_cons, List.map_nil, List.length_cons, List.length_nil, List.replicate, List.cons_append, List.nil_append, List.append_nil, List.set_cons_zero, List.set_cons_succ, List.set_nil, Nat.sub_self, Nat.zero_add, Nat.reduceAdd, Nat.reduceSub, Nat.reduceEqDiff, Nat.reduceLeDiff, Res.bind_ok, ofO_some, T_ok, T_bind, if_true, if_false, Bool.false_eq_true, Bool.not_true, Bool.not_false, r_eK, r_eV0, r_eVs, r_e1, r_e2, r_e3, r_eL0, r_eLs, r_eF, r_eAnd, r_eOr, r_eNot, r_eIf, r_eTree, r_eLst, r_eTup, r_eDic, r_tN, r_tL0, r_tLs, r_tT, r_sNil, r_sPass, r_sE, r_sAsg, r_sRet, r_sRetN, r_sBrk, r_sCnt, r_sIf, r_sSet, r_sCons, r_sFor, r_eCall, r_l1, r_l2, r_l3, r_eM, r_eComp, r_eChain, andThen_nx, andThen_rt, andThen_bk, andThen_ct, hb_nx, hb_rt, fin_raw, fin_int, fin_bl, fin_str, fin_non, truthy_bl, truthy_non, truthy_int, add_int, sub_int, lt_int, le_int, gt_int, ge_int, is_non, isN_non, isNon_non, isNon_int, isNon_str, fiL_lst, fiL_tup, fiL_str, decide_true, decide_false, decide_eq_true_eq, lineW_eq, mkL_f, mkL_t, Nat.reduceLeDiff, ix_tup3_0, ix_tup3_1, ix_tup3_2, ix_tup2_0, ix_tup2_1, sl_tup3_1, r_forG0, r_forGs, nextF_nx, nextF_ct, nextF_bk, nextF_rt, nW_none, nW_some, Option.isNone_none, Option.isNone_some, after_run ny.sg (show y.length ≤ 400 by omega) hw]
      cases en : nxt w y with
      | none =>
        have := ff_end hm en
        rw [this] at f1 f2
        simp only [r_run, List.map_cons, List.map_nil, List.length_cons, List.length_nil, List.replicate, List.cons_append, List.nil_append, List.append_nil, List.set_cons_zero, List.set_cons_succ, List.set_nil, Nat.sub_self, Nat.zero_add, Nat.reduceAdd, Nat.reduceSub, Nat.reduceEqDiff, Nat.reduceLeDiff, Res.bind_ok, ofO_some, T_ok, T_bind, if_true, if_false, Bool.false_eq_true, Bool.not_true, Bool.not_false, r_eK, r_eV0, r_eVs, r_e1, r_e2, r_e3, r_eL0, r_eLs, r_eF, r_eAnd, r_eOr, r_eNot, r_eIf, r_eTree, r_eLst, r_eTup, r_eDic, r_tN, r_tL0, r_tLs, r_tT, r_sNil, r_sPass, r_sE, r_sAsg, r_sRet, r_sRetN, r_sBrk, r_sCnt, r_sIf, r_sSet, r_sCons, r_sFor, r_eCall, r_l1, r_l2, r_l3, r_eM, r_eComp, r_eChain, andThen_nx, andThen_rt, andThen_bk, andThen_ct, hb_nx, hb_rt, fin_raw, fin_int, fin_bl, fin_str, fin_non, truthy_bl, truthy_non, truthy_int, add_int, sub_int, lt_int, le_int, gt_int, ge_int, is_non, isN_non, isNon_non, isNon_int, isNon_str, fiL_lst, fiL_tup, fiL_str, decide_true, decide_false, decide_eq_true_eq, lineW_eq, mkL_f, mkL_t, Nat.reduceLeDiff, ix_tup3_0, ix_tup3_1, ix_tup3_2, ix_tup2_0, ix_tup2_1, sl_tup3_1, r_forG0, r_forGs, nextF_nx, nextF_ct, nextF_bk, nextF_rt, nW_none, nW_some, Option.isNone_none, Option.isNone_some]
        have len : ∀ n : Nat, (0 + 1 + 1 ≤ lineW) = True := fun _ => eq_true (by decide)
        refine ⟨trivial, .inl ?_⟩
        rw [f1, f2]
        have : ((1 + k : Nat) : Int) = ((k + 1 : Nat) : Int) := by omega
        rw [this]
        rfl
      | some z =>
        have := ff_step hm en
        rw [this] at f1 f2 ⊢
        have ek : ((k + 1 : Nat) : Int) + 1 = ((k + 1 + 1 : Nat) : Int) := by omega
        simp only [r_run, List.map_cons, List.map_nil, List.length_cons, List.length_nil, List.replicate, List.cons_append, List.nil_append, List.append_nil, List.set_cons_zero, List.set_cons_succ, List.set_nil, Nat.sub_self, Nat.zero_add, Nat.reduceAdd, Nat.reduceSub, Nat.reduceEqDiff, Nat.reduceLeDiff, Res.bind_ok, ofO_some, T_ok, T_bind, if_true, if_false, Bool.false_eq_true, Bool.not_true, Bool.not_false, r_eK, r_eV0, r_eVs, r_e1, r_e2, r_e3, r_eL0, r_eLs, r_eF, r_eAnd, r_eOr, r_eNot, r_eIf, r_eTree, r_eLst, r_eTup, r_eDic, r_tN, r_tL0, r_tLs, r_tT, r_sNil, r_sPass, r_sE, r_sAsg, r_sRet, r_sRetN, r_sBrk, r_sCnt, r_sIf, r_sSet, r_sCons, r_sFor, r_eCall, r_l1, r_l2, r_l3, r_eM, r_eComp, r_eChain, andThen_nx, andThen_rt, andThen_bk, andThen_ct, hb_nx, hb_rt, fin_raw, fin_int, fin_bl, fin_str, fin_non, truthy_bl, truthy_non, truthy_int, add_int, sub_int, lt_int, le_int, gt_int, ge_int, is_non, isN_non, isNon_non, isNon_int, isNon_str, fiL_lst, fiL_tup, fiL_str, decide_true, decide_false, decide_eq_true_eq, lineW_eq, mkL_f, mkL_t, Nat.reduceLeDiff, ix_tup3_0, ix_tup3_1, ix_tup3_2, ix_tup2_0, ix_tup2_1, sl_tup3_1, r_forG0, r_forGs, nextF_nx, nextF_ct, nextF_bk, nextF_rt, nW_none, nW_some, Option.isNone_none, Option.isNone_some, ek]
        refine ⟨(ff w G z).2, by show _ < (ff w G z).2 + 1; omega, trivial, z, k + 1, ?_, f1, ?_, rfl, rfl⟩
        · show (rd w (some x) k).bind (nxt w) = _
          rw [hy]; exact en
        · rw [f2]
          show (ff w G z).2 + 1 + k = _
          omega
    · rw [if_neg (by rw [decide_eq_false hm]; decide)]
      have := ff_out (w := w) hm
      rw [this] at f1 f2
      refine ⟨trivial, .inr ⟨trivial, y, f1, ?_⟩⟩
      rw [f2]
      have : ((1 + k : Nat) : Int) = ((k + 1 : Nat) : Int) := by omega
      rw [this]
  · rintro ⟨fl, ρ, h'⟩ ⟨rfl, hq⟩
    have nn : nor (.tup [nW (ff w G x).1, .int ((ff w G x).2 : Int)]) = true := by
      rw [nor_tup, nors_cons, nor_nW]
      rfl
    rcases hq with e2 | ⟨e2, y, e3, e4⟩
    · cases e2
      simp only [r_run, List.map_cons, List.map_nil, List.length_cons, List.length_nil, List.replicate, List.cons_append, List.nil_append, List.append_nil, List.set_cons_zero, List.set_cons_succ, List.set_nil, Nat.sub_self, Nat.zero_add, Nat.reduceAdd, Nat.reduceSub, Nat.reduceEqDiff, Nat.reduceLeDiff, Res.bind_ok, ofO_some, T_ok, T_bind, if_true, if_false, Bool.false_eq_true, Bool.not_true, Bool.not_false, r_eK, r_eV0, r_eVs, r_e1, r_e2, r_e3, r_eL0, r_eLs, r_eF, r_eAnd, r_eOr, r_eNot, r_eIf, r_eTree, r_eLst, r_eTup, r_eDic, r_tN, r_tL0, r_tLs, r_tT, r_sNil, r_sPass, r_sE, r_sAsg, r_sRet, r_sRetN, r_sBrk, r_sCnt, r_sIf, r_sSet, r_sCons, r_sFor, r_eCall, r_l1, r_l2, r_l3, r_eM, r_eComp, r_eChain, andThen_nx, andThen_rt, andThen_bk, andThen_ct, hb_nx, hb_rt, fin_raw, fin_int, fin_bl, fin_str, fin_non, truthy_bl, truthy_non, truthy_int, add_int, sub_int, lt_int, le_int, gt_int, ge_int, is_non, isN_non, isNon_non, isNon_int, isNon_str, fiL_lst, fiL_tup, fiL_str, decide_true, decide_false, decide_eq_true_eq, lineW_eq, mkL_f, mkL_t, Nat.reduceLeDiff, ix_tup3_0, ix_tup3_1, ix_tup3_2, ix_tup2_0, ix_tup2_1, sl_tup3_1, r_forG0, r_forGs, nextF_nx, nextF_ct, nextF_bk, nextF_rt, nW_none, nW_some, Option.isNone_none, Option.isNone_some]
      rw [fin_here nn, T_ok]
    · have e2 : fl = .nx := e2
      have e4 : ρ = _ := e4
      subst e2 e4
      rw [e3] at nn ⊢
      simp only [r_run, List.map_cons, List.map_nil, List.length_cons, List.length_nil, List.replicate, List.cons_append, List.nil_append, List.append_nil, List.set_cons_zero, List.set_cons_succ, List.set_nil, Nat.sub_self, Nat.zero_add, Nat.reduceAdd, Nat.reduceSub, Nat.reduceEqDiff, Nat.reduceLeDiff, Res.bind_ok, ofO_some, T_ok, T_bind, if_true, if_false, Bool.false_eq_true, Bool.not_true, Bool.not_false, r_eK, r_eV0, r_eVs, r_e1, r_e2, r_e3, r_eL0, r_eLs, r_eF, r_eAnd, r_eOr, r_eNot, r_eIf, r_eTree, r_eLst, r_eTup, r_eDic, r_tN, r_tL0, r_tLs, r_tT, r_sNil, r_sPass, r_sE, r_sAsg, r_sRet, r_sRetN, r_sBrk, r_sCnt, r_sIf, r_sSet, r_sCons, r_sFor, r_eCall, r_l1, r_l2, r_l3, r_eM, r_eComp, r_eChain, andThen_nx, andThen_rt, andThen_bk, andThen_ct, hb_nx, hb_rt, fin_raw, fin_int, fin_bl, fin_str, fin_non, truthy_bl, truthy_non, truthy_int, add_int, sub_int, lt_int, le_int, gt_int, ge_int, is_non, isN_non, isNon_non, isNon_int, isNon_str, fiL_lst, fiL_tup, fiL_str, decide_true, decide_false, decide_eq_true_eq, lineW_eq, mkL_f, mkL_t, Nat.reduceLeDiff, ix_tup3_0, ix_tup3_1, ix_tup3_2, ix_tup2_0, ix_tup2_1, sl_tup3_1, r_forG0, r_forGs, nextF_nx, nextF_ct, nextF_bk, nextF_rt, nW_none, nW_some, Option.isNone_none, Option.isNone_some, len2_le]
      rw [show W.str (mkS y) = nW (some y) from rfl, fin_here nn, T_ok]
end
end Ti


/-! Ti: one thing after another; the law's own. -/
namespace Ti
open PySem Pr
section
variable {w : Option Nat} {G xs ls : List Nm} {x y : Nm} {o : Option Nm} {os : List (Option Nm)}
theorem names_snoc : names (os ++ [o]) = names os ++ o.toList := by
  unfold names
  rw [List.filterMap_append]
  cases o <;> rfl
theorem names_cons : names (o :: os) = o.toList ++ names os := by
  unfold names
  cases o <;> rfl
theorem mem_names : y ∈ names os ↔ some y ∈ os := by
  unfold names
  rw [List.mem_filterMap]
  exact ⟨fun ⟨a, h1, h2⟩ => by rw [← show a = some y from h2]; exact h1, fun h => ⟨_, h, rfl⟩⟩
theorem names_len : (names os).length ≤ os.length := List.length_filterMap_le _ _
theorem hnd_snoc : hnd w G (xs ++ [x]) = hnd w G xs ++ [ff w (G ++ names ((hnd w G xs).map (·.1))) x] := by
  induction xs generalizing G with
  | nil =>
    show [ff w G x] = [ff w (G ++ []) x]
    rw [List.append_nil]
  | cons a xs ih =>
    show ff w G a :: hnd w (G ++ (ff w G a).1.toList) (xs ++ [x]) = ff w G a :: (hnd w (G ++ (ff w G a).1.toList) xs ++ [_])
    rw [ih]
    show _ = ff w G a :: (hnd w (G ++ (ff w G a).1.toList) xs ++ [ff w (G ++ names ((ff w G a).1 :: (hnd w (G ++ (ff w G a).1.toList) xs).map (·.1))) x])
    rw [names_cons, List.append_assoc]
theorem got_snoc : got w (xs ++ [x]) = got w xs ++ [(ff w (names (got w xs)) x).1] := by
  unfold got
  rw [hnd_snoc, List.map_append, List.nil_append]
  rfl
theorem trd_snoc : trd w (xs ++ [x]) = trd w xs + (ff w (names (got w xs)) x).2 := by
  unfold trd got
  rw [hnd_snoc, List.map_append, List.sum_append, List.nil_append]
  rfl
theorem got_len : (got w xs).length = xs.length := by
  unfold got
  rw [List.length_map, hnd_len]
theorem got_nil : got w [] = [] := rfl
theorem take_snoc {α : Type} {l : List α} {j : Nat} {a : α} (e : l[j]? = some a) : l.take (j + 1) = l.take j ++ [a] := by
  rw [List.take_succ, e]
  rfl
/-- what is given is a name -/
theorem got_ok (hw : WdO w) : ∀ {n : Nat} {xs : List Nm}, xs.length ≤ n → xs.length ≤ 1000 → (∀ l ∈ xs, Nam w l ∧ l.length ≤ 100) → ∀ o ∈ got w xs, ∀ z, o = some z → Nam w z ∧ z.length ≤ 202
  | 0, [], _, _, _ => fun o h => by cases h
  | n + 1, xs, h1, h2, hs => by
    rcases List.eq_nil_or_concat xs with rfl | ⟨ys, x, rfl⟩
    · intro o h; cases h
    · rw [List.concat_eq_append] at *
      rw [List.length_append, List.length_singleton] at h1 h2
      intro o ho z hz
      rw [got_snoc] at ho
      rcases List.mem_append.mp ho with ho | ho
      · exact got_ok hw (n := n) (xs := ys) (by omega) (by omega) (fun l hl => hs l (List.mem_append.mpr (.inl hl))) o ho z hz
      · rw [List.mem_singleton] at ho
        rw [ho] at hz
        have hx := hs x (List.mem_append.mpr (.inr (List.mem_singleton.mpr rfl)))
        have l1 := @ff_le w (names (got w ys)) x
        have l2 := @names_len (got w ys)
        rw [got_len] at l2
        exact rd_nam hw hx.1 hx.2 (Nat.le_trans (show _ ≤ 10000 by omega) (by decide)) (ff_rd hz)
end
section
variable {h : Hh} {c c1 c2 c' : Cell} {w : Option Nat} {ls : List Nm} {os : List (Option Nm)} {y : Nm} {g : Nat}
theorem at_two : (h ++ [c1] ++ [c2])[h.length]? = some c1 := by
  rw [List.getElem?_append_left (by simp), new_at]
theorem set_two : (h ++ [c1] ++ [c2]).set h.length c' = h ++ [c'] ++ [c2] := by
  rw [List.set_append_left _ _ (by simp), new_set]
theorem len_one : (h ++ [c1]).length = h.length + 1 := by simp
theorem at_two2 : (h ++ [c1] ++ [c2])[h.length + 1]? = some c2 := by
  rw [← len_one (c1 := c1)]; exact new_at
theorem set_two2 : (h ++ [c1] ++ [c2]).set (h.length + 1) c' = h ++ [c1] ++ [c'] := by
  rw [← len_one (c1 := c1)]; exact new_set
theorem mkD_new {kd : Bool} : mkD true kd [] h = .ok (.ref h.length, h ++ [.dic kd []]) := rfl
theorem fin_top {gs : List Cell} : fin .top h.length (.ref h.length) (h ++ [c] ++ gs) = .ok (.ref h.length, h ++ [c]) := by
  unfold fin
  simp only []
  rw [if_neg (Nat.lt_irrefl _), List.append_assoc, List.getElem?_append_right (Nat.le_refl _), Nat.sub_self, take_new]
  rfl
theorem small_lt {n : Nat} (hn : n ≤ 10000) : n < lineW := Nat.lt_of_le_of_lt hn (by decide)
theorem handed_run (hs : ∀ l ∈ ls, Nam w l ∧ l.length ≤ 100) (hw : WdO w) (hl : ls.length ≤ 1000) : f_handed [namesW ls, wW w] h = .ok (.ref h.length, h ++ [.lst ((got w ls).map nW)]) := by
  apply T.eq
  unfold f_handed b_handed namesW
  simp only [r_run, List.map_cons, List.map_nil, List.length_cons, List.length_nil, List.replicate, List.cons_append, List.nil_append, List.append_nil, List.set_cons_zero, List.set_cons_succ, List.set_nil, Nat.sub_self, Nat.zero_add, Nat.reduceAdd, Nat.reduceSub, Nat.reduceEqDiff, Nat.reduceLeDiff, Res.bind_ok, ofO_some, T_ok, T_bind, if_true, if_false, Bool.false_eq_true, Bool.not_true, Bool.not_false, r_eK, r_eV0, r_eVs, r_e1, r_e2, r_e3, r_eL0, r_eLs, r_eF, r_eAnd, r_eOr, r_eNot, r_eIf, r_eTree, r_eLst, r_eTup, r_eDic, r_tN, r_tL0, r_tLs, r_tT, r_sNil, r_sPass, r_sE, r_sAsg, r_sRet, r_sRetN, r_sBrk, r_sCnt, r_sIf, r_sSet, r_sCons, r_sFor, r_eCall, r_l1, r_l2, r_l3, r_eM, r_eComp, r_eChain, andThen_nx, andThen_rt, andThen_bk, andThen_ct, hb_nx, hb_rt, fin_raw, fin_int, fin_bl, fin_str, fin_non, truthy_bl, truthy_non, truthy_int, add_int, sub_int, lt_int, le_int, gt_int, ge_int, is_non, isN_non, isNon_non, isNon_int, isNon_str, fiL_lst, fiL_tup, fiL_str, decide_true, decide_false, decide_eq_true_eq, lineW_eq, mkL_f, mkL_t, Nat.reduceLeDiff, ix_tup3_0, ix_tup3_1, ix_tup3_2, ix_tup2_0, ix_tup2_1, sl_tup3_1, r_forG0, r_forGs, nextF_nx, nextF_ct, nextF_bk, nextF_rt, nW_none, nW_some, Option.isNone_none, Option.isNone_some, mkL_t (ws := []) (h := h) rfl (by decide), mkD_new, len_one, len2_le]
  refine T.mono (T_for (Q := fun q => ∃ (x y : Option W), q = (.nx, [some (.lst (ls.map stW)), some (wW w), x, some (.ref h.length), some (.ref (h.length + 1)), y], h ++ [.lst ((got w ls).map nW)] ++ [.dic false (dk (names (got w ls)))]))
    (fun j ρ h' => ∃ (x y : Option W), ρ = [some (.lst (ls.map stW)), some (wW w), x, some (.ref h.length), some (.ref (h.length + 1)), y] ∧ h' = h ++ [.lst ((got w (ls.take j)).map nW)] ++ [.dic false (dk (names (got w (ls.take j))))])
    ⟨none, none, rfl, rfl⟩ ?_ ?_) ?_
  · rintro j x ρ _ hj ⟨x0, y0, rfl, rfl⟩
    have hx := hs x (mem_get hj)
    have gl : (got w (ls.take j)).length ≤ 1000 := by rw [got_len, List.length_take]; omega
    have nl := @names_len (got w (ls.take j))
    unfold stW
    simp only [r_run, List.map_cons, List.map_nil, List.length_cons, List.length_nil, List.replicate, List.cons_append, List.nil_append, List.append_nil, List.set_cons_zero, List.set_cons_succ, List.set_nil, Nat.sub_self, Nat.zero_add, Nat.reduceAdd, Nat.reduceSub, Nat.reduceEqDiff, Nat.reduceLeDiff, Res.bind_ok, ofO_some, T_ok, T_bind, if_true, if_false, Bool.false_eq_true, Bool.not_true, Bool.not_false, r_eK, r_eV0, r_eVs, r_e1, r_e2, r_e3, r_eL0, r_eLs, r_eF, r_eAnd, r_eOr, r_eNot, r_eIf, r_eTree, r_eLst, r_eTup, r_eDic, r_tN, r_tL0, r_tLs, r_tT, r_sNil, r_sPass, r_sE, r_sAsg, r_sRet, r_sRetN, r_sBrk, r_sCnt, r_sIf, r_sSet, r_sCons, r_sFor, r_eCall, r_l1, r_l2, r_l3, r_eM, r_eComp, r_eChain, andThen_nx, andThen_rt, andThen_bk, andThen_ct, hb_nx, hb_rt, fin_raw, fin_int, fin_bl, fin_str, fin_non, truthy_bl, truthy_non, truthy_int, add_int, sub_int, lt_int, le_int, gt_int, ge_int, is_non, isN_non, isNon_non, isNon_int, isNon_str, fiL_lst, fiL_tup, fiL_str, decide_true, decide_false, decide_eq_true_eq, lineW_eq, mkL_f, mkL_t, Nat.reduceLeDiff, ix_tup3_0, ix_tup3_1, ix_tup3_2, ix_tup2_0, ix_tup2_1, sl_tup3_1, r_forG0, r_forGs, nextF_nx, nextF_ct, nextF_bk, nextF_rt, nW_none, nW_some, Option.isNone_none, Option.isNone_some, first_free_run (g := h.length + 1) hx.1 hx.2 hw (Nat.le_trans nl gl) at_two2, ix_tup2_0, isL_at at_two, app_at (i := h.length) (ws := (got w (ls.take j)).map nW) at_two nor_nW (small_lt (by rw [List.length_map]; omega)), set_two, isNon_nW]
    rw [take_snoc hj, got_snoc, List.map_append, names_snoc]
    cases e : (ff w (names (got w (ls.take j))) x).1 with
    | none =>
      simp only [r_run, List.map_cons, List.map_nil, List.length_cons, List.length_nil, List.replicate, List.cons_append, List.nil_append, List.append_nil, List.set_cons_zero, List.set_cons_succ, List.set_nil, Nat.sub_self, Nat.zero_add, Nat.reduceAdd, Nat.reduceSub, Nat.reduceEqDiff, Nat.reduceLeDiff, Res.bind_ok, ofO_some, T_ok, T_bind, if_true, if_false, Bool.false_eq_true, Bool.not_true, Bool.not_false, r_eK, r_eV0, r_eVs, r_e1, r_e2, r_e3, r_eL0, r_eLs, r_eF, r_eAnd, r_eOr, r_eNot, r_eIf, r_eTree, r_eLst, r_eTup, r_eDic, r_tN, r_tL0, r_tLs, r_tT, r_sNil, r_sPass, r_sE, r_sAsg, r_sRet, r_sRetN, r_sBrk, r_sCnt, r_sIf, r_sSet, r_sCons, r_sFor, r_eCall, r_l1, r_l2, r_l3, r_eM, r_eComp, r_eChain, andThen_nx, andThen_rt, andThen_bk, andThen_ct, hb_nx, hb_rt, fin_raw, fin_int, fin_bl, fin_str, fin_non, truthy_bl, truthy_non, truthy_int, add_int, sub_int, lt_int, le_int, gt_int, ge_int, is_non, isN_non, isNon_non, isNon_int, isNon_str, fiL_lst, fiL_tup, fiL_str, decide_true, decide_false, decide_eq_true_eq, lineW_eq, mkL_f, mkL_t, Nat.reduceLeDiff, ix_tup3_0, ix_tup3_1, ix_tup3_2, ix_tup2_0, ix_tup2_1, sl_tup3_1, r_forG0, r_forGs, nextF_nx, nextF_ct, nextF_bk, nextF_rt, nW_none, nW_some, Option.isNone_none, Option.isNone_some]
      refine ⟨_, _, rfl, ?_⟩
      rw [Option.toList_none, List.append_nil]
      all_goals rfl
    | some z =>
      simp only [r_run, List.map_cons, List.map_nil, List.length_cons, List.length_nil, List.replicate, List.cons_append, List.nil_append, List.append_nil, List.set_cons_zero, List.set_cons_succ, List.set_nil, Nat.sub_self, Nat.zero_add, Nat.reduceAdd, Nat.reduceSub, Nat.reduceEqDiff, Nat.reduceLeDiff, Res.bind_ok, ofO_some, T_ok, T_bind, if_true, if_false, Bool.false_eq_true, Bool.not_true, Bool.not_false, r_eK, r_eV0, r_eVs, r_e1, r_e2, r_e3, r_eL0, r_eLs, r_eF, r_eAnd, r_eOr, r_eNot, r_eIf, r_eTree, r_eLst, r_eTup, r_eDic, r_tN, r_tL0, r_tLs, r_tT, r_sNil, r_sPass, r_sE, r_sAsg, r_sRet, r_sRetN, r_sBrk, r_sCnt, r_sIf, r_sSet, r_sCons, r_sFor, r_eCall, r_l1, r_l2, r_l3, r_eM, r_eComp, r_eChain, andThen_nx, andThen_rt, andThen_bk, andThen_ct, hb_nx, hb_rt, fin_raw, fin_int, fin_bl, fin_str, fin_non, truthy_bl, truthy_non, truthy_int, add_int, sub_int, lt_int, le_int, gt_int, ge_int, is_non, isN_non, isNon_non, isNon_int, isNon_str, fiL_lst, fiL_tup, fiL_str, decide_true, decide_false, decide_eq_true_eq, lineW_eq, mkL_f, mkL_t, Nat.reduceLeDiff, ix_tup3_0, ix_tup3_1, ix_tup3_2, ix_tup2_0, ix_tup2_1, sl_tup3_1, r_forG0, r_forGs, nextF_nx, nextF_ct, nextF_bk, nextF_rt, nW_none, nW_some, Option.isNone_none, Option.isNone_some, set_dk (h := h ++ [Cell.lst ((got w (ls.take j)).map nW ++ [W.str (mkS z)])] ++ [.dic false (dk (names (got w (ls.take j))))]) (g := h.length + 1) at_two2 (ff_notin e) (small_lt (by omega)), set_two2]
      exact ⟨_, _, rfl, rfl⟩
  · rintro ρ _ ⟨x0, y0, rfl, rfl⟩
    rw [List.take_length]
    exact ⟨_, _, rfl⟩
  · rintro _ ⟨x0, y0, rfl⟩
    simp only [r_run, List.map_cons, List.map_nil, List.length_cons, List.length_nil, List.replicate, List.cons_append, List.nil_append, List.append_nil, List.set_cons_zero, List.set_cons_succ, List.set_nil, Nat.sub_self, Nat.zero_add, Nat.reduceAdd, Nat.reduceSub, Nat.reduceEqDiff, Nat.reduceLeDiff, Res.bind_ok, ofO_some, T_ok, T_bind, if_true, if_false, Bool.false_eq_true, Bool.not_true, Bool.not_false, r_eK, r_eV0, r_eVs, r_e1, r_e2, r_e3, r_eL0, r_eLs, r_eF, r_eAnd, r_eOr, r_eNot, r_eIf, r_eTree, r_eLst, r_eTup, r_eDic, r_tN, r_tL0, r_tLs, r_tT, r_sNil, r_sPass, r_sE, r_sAsg, r_sRet, r_sRetN, r_sBrk, r_sCnt, r_sIf, r_sSet, r_sCons, r_sFor, r_eCall, r_l1, r_l2, r_l3, r_eM, r_eComp, r_eChain, andThen_nx, andThen_rt, andThen_bk, andThen_ct, hb_nx, hb_rt, fin_raw, fin_int, fin_bl, fin_str, fin_non, truthy_bl, truthy_non, truthy_int, add_int, sub_int, lt_int, le_int, gt_int, ge_int, is_non, isN_non, isNon_non, isNon_int, isNon_str, fiL_lst, fiL_tup, fiL_str, decide_true, decide_false, decide_eq_true_eq, lineW_eq, mkL_f, mkL_t, Nat.reduceLeDiff, ix_tup3_0, ix_tup3_1, ix_tup3_2, ix_tup2_0, ix_tup2_1, sl_tup3_1, r_forG0, r_forGs, nextF_nx, nextF_ct, nextF_bk, nextF_rt, nW_none, nW_some, Option.isNone_none, Option.isNone_some, fin_top]
theorem hand_out_run (hs : ∀ l ∈ ls, Nam w l ∧ l.length ≤ 100) (hw : WdO w) (hl : ls.length ≤ 1000) : f_hand_out [namesW ls, wW w] h = .ok (.ref h.length, h ++ [.lst ((got w ls).map nW)]) := by
  unfold f_hand_out b_hand_out
  have := @fin_top h (.lst ((got w ls).map nW)) []
  rw [List.append_nil] at this
  simp only [r_run, List.map_cons, List.map_nil, List.length_cons, List.length_nil, List.replicate, List.cons_append, List.nil_append, List.append_nil, List.set_cons_zero, List.set_cons_succ, List.set_nil, Nat.sub_self, Nat.zero_add, Nat.reduceAdd, Nat.reduceSub, Nat.reduceEqDiff, Nat.reduceLeDiff, Res.bind_ok, ofO_some, T_ok, T_bind, if_true, if_false, Bool.false_eq_true, Bool.not_true, Bool.not_false, r_eK, r_eV0, r_eVs, r_e1, r_e2, r_e3, r_eL0, r_eLs, r_eF, r_eAnd, r_eOr, r_eNot, r_eIf, r_eTree, r_eLst, r_eTup, r_eDic, r_tN, r_tL0, r_tLs, r_tT, r_sNil, r_sPass, r_sE, r_sAsg, r_sRet, r_sRetN, r_sBrk, r_sCnt, r_sIf, r_sSet, r_sCons, r_sFor, r_eCall, r_l1, r_l2, r_l3, r_eM, r_eComp, r_eChain, andThen_nx, andThen_rt, andThen_bk, andThen_ct, hb_nx, hb_rt, fin_raw, fin_int, fin_bl, fin_str, fin_non, truthy_bl, truthy_non, truthy_int, add_int, sub_int, lt_int, le_int, gt_int, ge_int, is_non, isN_non, isNon_non, isNon_int, isNon_str, fiL_lst, fiL_tup, fiL_str, decide_true, decide_false, decide_eq_true_eq, lineW_eq, mkL_f, mkL_t, Nat.reduceLeDiff, ix_tup3_0, ix_tup3_1, ix_tup3_2, ix_tup2_0, ix_tup2_1, sl_tup3_1, r_forG0, r_forGs, nextF_nx, nextF_ct, nextF_bk, nextF_rt, nW_none, nW_some, Option.isNone_none, Option.isNone_some, check_things_run (fun l hl => (hs l hl).1) hw hl, handed_run hs hw hl, this]
theorem any_nW : ((os.map nW).any fun v => beq v (.str (mkS y))) = decide (y ∈ names os) := by
  induction os with
  | nil => rfl
  | cons o os ih =>
    rw [List.map_cons, List.any_cons, ih]
    have := @beq_nW o (some y)
    rw [show nW (some y) = W.str (mkS y) from rfl] at this
    rw [this]
    have e : (y ∈ names (o :: os)) ↔ (o = some y ∨ y ∈ names os) := by
      rw [mem_names, mem_names, List.mem_cons]
      exact or_congr ⟨fun h => h.symm, fun h => h.symm⟩ Iff.rfl
    rw [decide_eq_decide.mpr e, Bool.decide_or]
theorem in_nW (ho : ∀ o ∈ os, Cmp o) (hy : strFine (mkS y) = true) (e : h[g]? = some (.lst (os.map nW))) : pIn (.str (mkS y)) (.ref g) h = .ok (.bl (decide (y ∈ names os)), h) := by
  have : inB h (.str (mkS y)) (.ref g) = some (decide (y ∈ names os)) := by
    unfold inB
    simp only [asL_at e]
    refine (if_pos ?_).trans (congrArg some any_nW)
    show (isDat 60 (.str (mkS y)) && areDat 60 (os.map nW)) = true
    rw [show isDat 60 (.str (mkS y)) = true from hy, areDat_map fun o h => isDat_nW (ho o h)]
    rfl
  unfold pIn
  rw [this]
  rfl
end
end Ti


/-! Ti: lists that stand, as trees or as cells; the law's own handing out. -/
namespace Ti
open PySem Pr
section
variable {h : Hh} {u : W} {ws : List W} {gs : List Cell} {ρ : Env}
theorem fiL_as (e : asL h u = some ws) : fiL [u] h = some ⟨ws, keepL u ws⟩ := by
  cases u with
  | lst us => cases e; rfl
  | ref i => unfold fiL; simp only [e]; rfl
  | _ => cases e
theorem len_as (e : asL h u = some ws) : pLen u h = .ok (.int ws.length, h) := by
  cases u with
  | lst us => cases e; rfl
  | ref i => unfold pLen; simp only [e]
  | _ => cases e
theorem asL_app (e : asL h u = some ws) : asL (h ++ gs) u = some ws := by
  cases u with
  | ref i =>
    have hi : i < h.length := by
      by_cases hi : i < h.length
      · exact hi
      · have e : (match h[i]? with | some (.lst ws) => some ws | some (.frz (.lst ws)) => some ws | _ => none) = some ws := e
        rw [List.getElem?_eq_none (by omega)] at e
        cases e
    show (match (h ++ gs)[i]? with | some (.lst ws) => some ws | some (.frz (.lst ws)) => some ws | _ => none) = some ws
    rw [List.getElem?_append_left hi]
    exact e
  | _ => exact e
theorem sames_self (hs : ∀ x ∈ ws, same x x = true) : sames ws ws = true := by
  induction ws with
  | nil => rfl
  | cons a ws ih =>
    show (same a a && sames ws ws) = true
    rw [hs a List.mem_cons_self, ih fun x hx => hs x (List.mem_cons_of_mem _ hx)]
    rfl
theorem same_stW {l : List Nat} : same (stW l) (stW l) = true := decide_eq_true rfl
theorem same_nW {o : Option (List Nat)} : same (nW o) (nW o) = true := by
  cases o with
  | none => rfl
  | some l => exact same_stW
theorem keep_as (hs : ∀ x ∈ ws, same x x = true) (e : asL h u = some ws) : keepL u ws h = true := by
  cases u with
  | ref i =>
    unfold keepL
    simp only [e]
    exact sames_self hs
  | _ => rfl
theorem keep_st {ls : List (List Nat)} (e : asL h u = some (ls.map stW)) : keepL u (ls.map stW) h = true := keep_as (fun x hx => by
  obtain ⟨l, _, rfl⟩ := List.mem_map.mp hx
  exact same_stW) e
theorem T_forL {α : Type} {Q : Fl × Env × Hh → Prop} {tg : DT} {s : DS} {f : α → W} {xs : List α} (hf : ∀ a, same (f a) (f a) = true) (I : Nat → Env → Hh → Prop) (hk : ∀ i ρ h, I i ρ h → asL h u = some (xs.map f)) (h0 : I 0 ρ h)
    (hs : ∀ i x ρ h, xs[i]? = some x → I i ρ h → T (tg (f x) ρ h) fun p => T (s p.1 p.2) fun q => (match q.1 with
      | .nx => I (i + 1) q.2.1 q.2.2
      | .ct => I (i + 1) q.2.1 q.2.2
      | .bk => Q (.nx, q.2)
      | .rt w => Q (.rt w, q.2))) (he : ∀ ρ h, I xs.length ρ h → Q (.nx, ρ, h)) : T (forG (keepL u (xs.map f)) tg s (xs.map f) ρ h) Q := by
  refine T_forG I (fun i ρ h hI => keep_as (fun x hx => by
    obtain ⟨a, _, rfl⟩ := List.mem_map.mp hx
    exact hf a) (hk i ρ h hI)) h0 (fun i x ρ h hx hI => ?_) (fun ρ h hI => he ρ h (by rw [List.length_map] at hI; exact hI))
  obtain ⟨a, ha, rfl⟩ := get_map hx
  exact hs i a ρ h ha hI
theorem fin_tup_new {v : W} (hn : nor v = true) : fin .deep h.length (.tup [.ref h.length, v]) (h ++ [.lst ws]) = .ok (.tup [.lst ws, v], h) := by
  unfold fin
  simp only []
  have : thaw h.length (h ++ [.lst ws]) (.tup [.ref h.length, v]) = some (.tup [.lst ws, v]) := by
    have t1 : thaw h.length (h ++ [.lst ws]) (.ref h.length) = some (.lst ws) := by
      unfold thaw
      rw [if_neg (Nat.lt_irrefl _), new_at]
      rfl
    have t2 := thaw_nor (n := h.length) (h := h ++ [.lst ws]) hn
    unfold thaw thaws thaws thaws
    simp only [t1, t2, Option.map_some]
  rw [this, ofO_some, Res.bind_ok, take_new]
theorem law_given_run {w : Option Nat} {ls : List Nm} (eu : asL h u = some (ls.map stW)) (hs : ∀ l ∈ ls, Nam w l ∧ l.length ≤ 100) (hw : WdO w) (hl : ls.length ≤ 1000) : f__law_given [u, wW w] h = .ok (.tup [.lst ((got w ls).map nW), .int (trd w ls : Int)], h) := by
  apply T.eq
  unfold f__law_given b__law_given
  simp only [r_run, List.map_cons, List.map_nil, List.length_cons, List.length_nil, List.replicate, List.cons_append, List.nil_append, List.append_nil, List.set_cons_zero, List.set_cons_succ, List.set_nil, Nat.sub_self, Nat.zero_add, Nat.reduceAdd, Nat.reduceSub, Nat.reduceEqDiff, Nat.reduceLeDiff, Res.bind_ok, ofO_some, T_ok, T_bind, if_true, if_false, Bool.false_eq_true, Bool.not_true, Bool.not_false, r_eK, r_eV0, r_eVs, r_e1, r_e2, r_e3, r_eL0, r_eLs, r_eF, r_eAnd, r_eOr, r_eNot, r_eIf, r_eTree, r_eLst, r_eTup, r_eDic, r_tN, r_tL0, r_tLs, r_tT, r_sNil, r_sPass, r_sE, r_sAsg, r_sRet, r_sRetN, r_sBrk, r_sCnt, r_sIf, r_sSet, r_sCons, r_sFor, r_eCall, r_l1, r_l2, r_l3, r_eM, r_eComp, r_eChain, andThen_nx, andThen_rt, andThen_bk, andThen_ct, hb_nx, hb_rt, fin_raw, fin_int, fin_bl, fin_str, fin_non, truthy_bl, truthy_non, truthy_int, add_int, sub_int, lt_int, le_int, gt_int, ge_int, is_non, isN_non, isNon_non, isNon_int, isNon_str, fiL_lst, fiL_tup, fiL_str, decide_true, decide_false, decide_eq_true_eq, lineW_eq, mkL_f, mkL_t, Nat.reduceLeDiff, ix_tup3_0, ix_tup3_1, ix_tup3_2, ix_tup2_0, ix_tup2_1, sl_tup3_1, r_forG0, r_forGs, nextF_nx, nextF_ct, nextF_bk, nextF_rt, nW_none, nW_some, Option.isNone_none, Option.isNone_some, mkL_t (ws := []) (h := h) rfl (by decide), len2_le, fiL_as (asL_app (gs := [.lst []]) eu)]
  refine T.mono (T_forL (fun _ => same_stW) (Q := fun q => ∃ (x y : Option W), q = (.nx, [some u, some (wW w), x, some (.ref h.length), some (.int (trd w ls : Int)), y], h ++ [.lst ((got w ls).map nW)]))
    (fun j ρ h' => ∃ (x y : Option W), ρ = [some u, some (wW w), x, some (.ref h.length), some (.int (trd w (ls.take j) : Int)), y] ∧ h' = h ++ [.lst ((got w (ls.take j)).map nW)])
    (by rintro i ρ _ ⟨_, _, _, rfl⟩; exact asL_app eu) ⟨none, none, rfl, rfl⟩ ?_ ?_) ?_
  · rintro j x ρ _ hj ⟨x0, y0, rfl, rfl⟩
    have hx := hs x (mem_get hj)
    have jl : j < ls.length := (List.getElem?_eq_some_iff.mp hj).1
    have gl : (got w (ls.take j)).length ≤ j := by rw [got_len, List.length_take]; omega
    have nl := @names_len (got w (ls.take j))
    have ok := got_ok hw (n := (ls.take j).length) (xs := ls.take j) (Nat.le_refl _) (by rw [List.length_take]; omega) fun l hl => hs l (List.mem_of_mem_take hl)
    have cmp : ∀ o ∈ got w (ls.take j), Cmp o := fun o ho z hz => (ok o ho z hz).1.fine
    generalize eG : names (got w (ls.take j)) = G at *
    generalize eT : trd w (ls.take j) = t0
    have fl := @ff_le w G x
    have en : (ls.length : Int) + 1 = ((ls.length + 1 : Nat) : Int) := by omega
    have lu := len_as (asL_app (gs := [.lst ((got w (ls.take j)).map nW)]) eu)
    rw [List.length_map] at lu
    unfold stW
    simp only [r_run, List.map_cons, List.map_nil, List.length_cons, List.length_nil, List.replicate, List.cons_append, List.nil_append, List.append_nil, List.set_cons_zero, List.set_cons_succ, List.set_nil, Nat.sub_self, Nat.zero_add, Nat.reduceAdd, Nat.reduceSub, Nat.reduceEqDiff, Nat.reduceLeDiff, Res.bind_ok, ofO_some, T_ok, T_bind, if_true, if_false, Bool.false_eq_true, Bool.not_true, Bool.not_false, r_eK, r_eV0, r_eVs, r_e1, r_e2, r_e3, r_eL0, r_eLs, r_eF, r_eAnd, r_eOr, r_eNot, r_eIf, r_eTree, r_eLst, r_eTup, r_eDic, r_tN, r_tL0, r_tLs, r_tT, r_sNil, r_sPass, r_sE, r_sAsg, r_sRet, r_sRetN, r_sBrk, r_sCnt, r_sIf, r_sSet, r_sCons, r_sFor, r_eCall, r_l1, r_l2, r_l3, r_eM, r_eComp, r_eChain, andThen_nx, andThen_rt, andThen_bk, andThen_ct, hb_nx, hb_rt, fin_raw, fin_int, fin_bl, fin_str, fin_non, truthy_bl, truthy_non, truthy_int, add_int, sub_int, lt_int, le_int, gt_int, ge_int, is_non, isN_non, isNon_non, isNon_int, isNon_str, fiL_lst, fiL_tup, fiL_str, decide_true, decide_false, decide_eq_true_eq, lineW_eq, mkL_f, mkL_t, Nat.reduceLeDiff, ix_tup3_0, ix_tup3_1, ix_tup3_2, ix_tup2_0, ix_tup2_1, sl_tup3_1, r_forG0, r_forGs, nextF_nx, nextF_ct, nextF_bk, nextF_rt, nW_none, nW_some, Option.isNone_none, Option.isNone_some, lu, en, range_nat (h := h ++ [.lst ((got w (ls.take j)).map nW)]) (n := ls.length + 1) (by omega)]
    refine T.mono (T_range (Q := fun q => ∃ y : Option W, q = (.nx, [some u, some (wW w), some (nW (ff w G x).1), some (.ref h.length), some (.int ((t0 + (ff w G x).2 : Nat) : Int)), y], h ++ [.lst ((got w (ls.take j)).map nW)]))
      (fun k ρ h' => h' = h ++ [.lst ((got w (ls.take j)).map nW)] ∧ ∃ y0 : Option W, (∃ y : Nm, rd w (some x) k = some y ∧ (ff w G x).1 = (ff w G y).1 ∧ (ff w G x).2 = (ff w G y).2 + k ∧ ρ = [some u, some (wW w), some (.str (mkS y)), some (.ref h.length), some (.int ((t0 + k : Nat) : Int)), y0]) ∨ ((ff w G x).1 = none ∧ ρ = [some u, some (wW w), some .non, some (.ref h.length), some (.int ((t0 + (ff w G x).2 : Nat) : Int)), y0]))
      ⟨rfl, y0, .inl ⟨x, rfl, rfl, rfl, rfl⟩⟩ ?_ ?_) ?_
    · rintro k ρ _ hk ⟨rfl, y0, ⟨y, hy, f1, f2, rfl⟩ | ⟨f1, rfl⟩⟩
      · have fp := (ff_len (w := w) (G := G) y).1
        obtain ⟨ny, ly⟩ := rd_nam hw hx.1 hx.2 (Nat.le_trans (show k ≤ 10000 by omega) (by decide)) hy
        have ek : ((t0 + k : Nat) : Int) + 1 = ((t0 + (k + 1) : Nat) : Int) := by omega
        have ein := in_nW (h := h ++ [.lst ((got w (ls.take j)).map nW)]) (g := h.length) cmp ny.fine new_at
        rw [eG] at ein
        simp only [r_run, List.map_cons, List.map_nil, List.length_cons, List.length_nil, List.replicate, List.cons_append, List.nil_append, List.append_nil, List.set_cons_zero, List.set_cons_succ, List.set_nil, Nat.sub_self, Nat.zero_add, Nat.reduceAdd, Nat.reduceSub, Nat.reduceEqDiff, Nat.reduceLeDiff, Res.bind_ok, ofO_some, T_ok, T_bind, if_true, if_false, Bool.false_eq_true, Bool.not_true, Bool.not_false, r_eK, r_eV0, r_eVs, r_e1, r_e2, r_e3, r_eL0, r_eLs, r_eF, r_eAnd, r_eOr, r_eNot, r_eIf, r_eTree, r_eLst, r_eTup, r_eDic, r_tN, r_tL0, r_tLs, r_tT, r_sNil, r_sPass, r_sE, r_sAsg, r_sRet, r_sRetN, r_sBrk, r_sCnt, r_sIf, r_sSet, r_sCons, r_sFor, r_eCall, r_l1, r_l2, r_l3, r_eM, r_eComp, r_eChain, andThen_nx, andThen_rt, andThen_bk, andThen_ct, hb_nx, hb_rt, fin_raw, fin_int, fin_bl, fin_str, fin_non, truthy_bl, truthy_non, truthy_int, add_int, sub_int, lt_int, le_int, gt_int, ge_int, is_non, isN_non, isNon_non, isNon_int, isNon_str, fiL_lst, fiL_tup, fiL_str, decide_true, decide_false, decide_eq_true_eq, lineW_eq, mkL_f, mkL_t, Nat.reduceLeDiff, ix_tup3_0, ix_tup3_1, ix_tup3_2, ix_tup2_0, ix_tup2_1, sl_tup3_1, r_forG0, r_forGs, nextF_nx, nextF_ct, nextF_bk, nextF_rt, nW_none, nW_some, Option.isNone_none, Option.isNone_some, ek, ein]
        by_cases hm : y ∈ G
        · simp only [r_run, List.map_cons, List.map_nil, List.length_cons, List.length_nil, List.replicate, List.cons_append, List.nil_append, List.append_nil, List.set_cons_zero, List.set_cons_succ, List.set_nil, Nat.sub_self, Nat.zero_add, Nat.reduceAdd, Nat.reduceSub, Nat.reduceEqDiff, Nat.reduceLeDiff, Res.bind_ok, ofO_some, T_ok, T_bind, if_true, if_false, Bool.false_eq_true, Bool.not_true, Bool.not_false, r_eK, r_eV0, r_eVs, r_e1, r_e2, r_e3, r_eL0, r_eLs, r_eF, r_eAnd, r_eOr, r_eNot, r_eIf, r_eTree, r_eLst, r_eTup, r_eDic, r_tN, r_tL0, r_tLs, r_tT, r_sNil, r_sPass, r_sE, r_sAsg, r_sRet, r_sRetN, r_sBrk, r_sCnt, r_sIf, r_sSet, r_sCons, r_sFor, r_eCall, r_l1, r_l2, r_l3, r_eM, r_eComp, r_eChain, andThen_nx, andThen_rt, andThen_bk, andThen_ct, hb_nx, hb_rt, fin_raw, fin_int, fin_bl, fin_str, fin_non, truthy_bl, truthy_non, truthy_int, add_int, sub_int, lt_int, le_int, gt_int, ge_int, is_non, isN_non, isNon_non, isNon_int, isNon_str, fiL_lst, fiL_tup, fiL_str, decide_true, decide_false, decide_eq_true_eq, lineW_eq, mkL_f, mkL_t, Nat.reduceLeDiff, ix_tup3_0, ix_tup3_1, ix_tup3_2, ix_tup2_0, ix_tup2_1, sl_tup3_1, r_forG0, r_forGs, nextF_nx, nextF_ct, nextF_bk, nextF_rt, nW_none, nW_some, Option.isNone_none, Option.isNone_some, eq_true hm, law_next_run (show y.length ≤ 400 by omega) hw]
          cases en : nxt w y with
          | none =>
            have := ff_end hm en
            rw [this] at f1 f2
            refine ⟨trivial, some (.int (k : Int)), .inr ⟨f1, ?_⟩⟩
            rw [f2]
            have : ((t0 + (1 + k) : Nat) : Int) = ((t0 + (k + 1) : Nat) : Int) := by omega
            rw [this]
            rfl
          | some z =>
            have := ff_step hm en
            rw [this] at f1 f2
            refine ⟨trivial, some (.int (k : Int)), .inl ⟨z, ?_, f1, ?_, rfl⟩⟩
            · show (rd w (some x) k).bind (nxt w) = _
              rw [hy]; exact en
            · rw [f2]
              show (ff w G z).2 + 1 + k = _
              omega
        · simp only [r_run, List.map_cons, List.map_nil, List.length_cons, List.length_nil, List.replicate, List.cons_append, List.nil_append, List.append_nil, List.set_cons_zero, List.set_cons_succ, List.set_nil, Nat.sub_self, Nat.zero_add, Nat.reduceAdd, Nat.reduceSub, Nat.reduceEqDiff, Nat.reduceLeDiff, Res.bind_ok, ofO_some, T_ok, T_bind, if_true, if_false, Bool.false_eq_true, Bool.not_true, Bool.not_false, r_eK, r_eV0, r_eVs, r_e1, r_e2, r_e3, r_eL0, r_eLs, r_eF, r_eAnd, r_eOr, r_eNot, r_eIf, r_eTree, r_eLst, r_eTup, r_eDic, r_tN, r_tL0, r_tLs, r_tT, r_sNil, r_sPass, r_sE, r_sAsg, r_sRet, r_sRetN, r_sBrk, r_sCnt, r_sIf, r_sSet, r_sCons, r_sFor, r_eCall, r_l1, r_l2, r_l3, r_eM, r_eComp, r_eChain, andThen_nx, andThen_rt, andThen_bk, andThen_ct, hb_nx, hb_rt, fin_raw, fin_int, fin_bl, fin_str, fin_non, truthy_bl, truthy_non, truthy_int, add_int, sub_int, lt_int, le_int, gt_int, ge_int, is_non, isN_non, isNon_non, isNon_int, isNon_str, fiL_lst, fiL_tup, fiL_str, decide_true, decide_false, decide_eq_true_eq, lineW_eq, mkL_f, mkL_t, Nat.reduceLeDiff, ix_tup3_0, ix_tup3_1, ix_tup3_2, ix_tup2_0, ix_tup2_1, sl_tup3_1, r_forG0, r_forGs, nextF_nx, nextF_ct, nextF_bk, nextF_rt, nW_none, nW_some, Option.isNone_none, Option.isNone_some, eq_false hm]
          have := ff_out (w := w) hm
          rw [this] at f1 f2
          refine ⟨some (.int (k : Int)), ?_⟩
          rw [f1, f2]
          have : ((t0 + (1 + k) : Nat) : Int) = ((t0 + (k + 1) : Nat) : Int) := by omega
          rw [this]
          rfl
      · simp only [r_run, List.map_cons, List.map_nil, List.length_cons, List.length_nil, List.replicate, List.cons_append, List.nil_append, List.append_nil, List.set_cons_zero, List.set_cons_succ, List.set_nil, Nat.sub_self, Nat.zero_add, Nat.reduceAdd, Nat.reduceSub, Nat.reduceEqDiff, Nat.reduceLeDiff, Res.bind_ok, ofO_some, T_ok, T_bind, if_true, if_false, Bool.false_eq_true, Bool.not_true, Bool.not_false, r_eK, r_eV0, r_eVs, r_e1, r_e2, r_e3, r_eL0, r_eLs, r_eF, r_eAnd, r_eOr, r_eNot, r_eIf, r_eTree, r_eLst, r_eTup, r_eDic, r_tN, r_tL0, r_tLs, r_tT, r_sNil, r_sPass, r_sE, r_sAsg, r_sRet, r_sRetN, r_sBrk, r_sCnt, r_sIf, r_sSet, r_sCons, r_sFor, r_eCall, r_l1, r_l2, r_l3, r_eM, r_eComp, r_eChain, andThen_nx, andThen_rt, andThen_bk, andThen_ct, hb_nx, hb_rt, fin_raw, fin_int, fin_bl, fin_str, fin_non, truthy_bl, truthy_non, truthy_int, add_int, sub_int, lt_int, le_int, gt_int, ge_int, is_non, isN_non, isNon_non, isNon_int, isNon_str, fiL_lst, fiL_tup, fiL_str, decide_true, decide_false, decide_eq_true_eq, lineW_eq, mkL_f, mkL_t, Nat.reduceLeDiff, ix_tup3_0, ix_tup3_1, ix_tup3_2, ix_tup2_0, ix_tup2_1, sl_tup3_1, r_forG0, r_forGs, nextF_nx, nextF_ct, nextF_bk, nextF_rt, nW_none, nW_some, Option.isNone_none, Option.isNone_some]
        exact ⟨trivial, _, .inr ⟨f1, rfl⟩⟩
    · rintro ρ _ ⟨rfl, y0, ⟨y, hy, f1, f2, rfl⟩ | ⟨f1, rfl⟩⟩
      · exfalso
        have fp := (ff_len (w := w) (G := G) y).1
        omega
      · rw [f1]
        exact ⟨_, rfl⟩
    · rintro _ ⟨y1, rfl⟩
      simp only [r_run, List.map_cons, List.map_nil, List.length_cons, List.length_nil, List.replicate, List.cons_append, List.nil_append, List.append_nil, List.set_cons_zero, List.set_cons_succ, List.set_nil, Nat.sub_self, Nat.zero_add, Nat.reduceAdd, Nat.reduceSub, Nat.reduceEqDiff, Nat.reduceLeDiff, Res.bind_ok, ofO_some, T_ok, T_bind, if_true, if_false, Bool.false_eq_true, Bool.not_true, Bool.not_false, r_eK, r_eV0, r_eVs, r_e1, r_e2, r_e3, r_eL0, r_eLs, r_eF, r_eAnd, r_eOr, r_eNot, r_eIf, r_eTree, r_eLst, r_eTup, r_eDic, r_tN, r_tL0, r_tLs, r_tT, r_sNil, r_sPass, r_sE, r_sAsg, r_sRet, r_sRetN, r_sBrk, r_sCnt, r_sIf, r_sSet, r_sCons, r_sFor, r_eCall, r_l1, r_l2, r_l3, r_eM, r_eComp, r_eChain, andThen_nx, andThen_rt, andThen_bk, andThen_ct, hb_nx, hb_rt, fin_raw, fin_int, fin_bl, fin_str, fin_non, truthy_bl, truthy_non, truthy_int, add_int, sub_int, lt_int, le_int, gt_int, ge_int, is_non, isN_non, isNon_non, isNon_int, isNon_str, fiL_lst, fiL_tup, fiL_str, decide_true, decide_false, decide_eq_true_eq, lineW_eq, mkL_f, mkL_t, Nat.reduceLeDiff, ix_tup3_0, ix_tup3_1, ix_tup3_2, ix_tup2_0, ix_tup2_1, sl_tup3_1, r_forG0, r_forGs, nextF_nx, nextF_ct, nextF_bk, nextF_rt, nW_none, nW_some, Option.isNone_none, Option.isNone_some, isL_new, app_new (h := h) (ws := (got w (ls.take j)).map nW) (y := nW (ff w G x).1) nor_nW (small_lt (by rw [List.length_map]; omega))]
      refine ⟨some (nW (ff w G x).1), y1, ?_, ?_⟩
      · rw [take_snoc hj, trd_snoc, eG, eT]
      · rw [take_snoc hj, got_snoc, List.map_append, eG]
        rfl
  · rintro ρ _ ⟨x0, y0, rfl, rfl⟩
    rw [List.take_length]
    exact ⟨_, _, rfl⟩
  · rintro _ ⟨x0, y0, rfl⟩
    simp only [r_run, List.map_cons, List.map_nil, List.length_cons, List.length_nil, List.replicate, List.cons_append, List.nil_append, List.append_nil, List.set_cons_zero, List.set_cons_succ, List.set_nil, Nat.sub_self, Nat.zero_add, Nat.reduceAdd, Nat.reduceSub, Nat.reduceEqDiff, Nat.reduceLeDiff, Res.bind_ok, ofO_some, T_ok, T_bind, if_true, if_false, Bool.false_eq_true, Bool.not_true, Bool.not_false, r_eK, r_eV0, r_eVs, r_e1, r_e2, r_e3, r_eL0, r_eLs, r_eF, r_eAnd, r_eOr, r_eNot, r_eIf, r_eTree, r_eLst, r_eTup, r_eDic, r_tN, r_tL0, r_tLs, r_tT, r_sNil, r_sPass, r_sE, r_sAsg, r_sRet, r_sRetN, r_sBrk, r_sCnt, r_sIf, r_sSet, r_sCons, r_sFor, r_eCall, r_l1, r_l2, r_l3, r_eM, r_eComp, r_eChain, andThen_nx, andThen_rt, andThen_bk, andThen_ct, hb_nx, hb_rt, fin_raw, fin_int, fin_bl, fin_str, fin_non, truthy_bl, truthy_non, truthy_int, add_int, sub_int, lt_int, le_int, gt_int, ge_int, is_non, isN_non, isNon_non, isNon_int, isNon_str, fiL_lst, fiL_tup, fiL_str, decide_true, decide_false, decide_eq_true_eq, lineW_eq, mkL_f, mkL_t, Nat.reduceLeDiff, ix_tup3_0, ix_tup3_1, ix_tup3_2, ix_tup2_0, ix_tup2_1, sl_tup3_1, r_forG0, r_forGs, nextF_nx, nextF_ct, nextF_bk, nextF_rt, nW_none, nW_some, Option.isNone_none, Option.isNone_some, len2_le]
    rw [fin_tup_new nor_int, T_ok]
end
end Ti


/-! Ti: what repr says of lists of names and None. -/
namespace Ti
open PySem Pr
def jn : List (List Nat) → List Nat
  | [] => []
  | [x] => x
  | x :: y :: r => x ++ [44, 32] ++ jn (y :: r)
theorem join_mk : ∀ ts : List (List Nat), Str.join (mkS [44, 32]) (ts.map mkS) = mkS (jn ts)
  | [] => rfl
  | [x] => rfl
  | x :: y :: r => by
    show mkS x ++ mkS [44, 32] ++ Str.join (mkS [44, 32]) ((y :: r).map mkS) = _
    rw [join_mk (y :: r), mkS_app, mkS_app]
    rfl
theorem mem_jn {c : Nat} : ∀ {ts : List (List Nat)}, c ∈ jn ts → (∃ t ∈ ts, c ∈ t) ∨ c = 44 ∨ c = 32
  | [], h => nomatch h
  | [x], h => .inl ⟨x, List.mem_cons_self, h⟩
  | x :: y :: r, h => by
    have h : c ∈ x ++ [44, 32] ++ jn (y :: r) := h
    rcases List.mem_append.mp h with h | h
    · rcases List.mem_append.mp h with h | h
      · exact .inl ⟨x, List.mem_cons_self, h⟩
      · simp only [List.mem_cons, List.not_mem_nil, or_false] at h
        exact .inr h
    · rcases mem_jn h with ⟨t, ht, hc⟩ | h
      · exact .inl ⟨t, List.mem_cons_of_mem _ ht, hc⟩
      · exact .inr h
theorem jn_len {m : Nat} : ∀ {ts : List (List Nat)}, (∀ t ∈ ts, t.length ≤ m) → (jn ts).length ≤ ts.length * (m + 2)
  | [], _ => Nat.zero_le _
  | [x], h => by
    have := h x List.mem_cons_self
    show x.length ≤ _
    simp only [List.length_cons, List.length_nil]
    omega
  | x :: y :: r, h => by
    have h1 := h x List.mem_cons_self
    have h2 := jn_len (ts := y :: r) fun t ht => h t (List.mem_cons_of_mem _ ht)
    show (x ++ [44, 32] ++ jn (y :: r)).length ≤ (y :: r).length.succ * (m + 2)
    rw [List.length_append, List.length_append, Nat.succ_mul]
    simp only [List.length_cons, List.length_nil] at h2 ⊢
    omega
/-- a name's repr, None's -/
def tx : Option (List Nat) → List Nat
  | none => [78, 111, 110, 101]
  | some l => 39 :: l ++ [39]
theorem rc_sign : ∀ c ∈ signs, Builtin.Str.reprChar 39 c = [c] := by decide +kernel
theorem repr_sg {l : List Nat} (hs : ∀ c ∈ l, c ∈ signs) : reprText (mkS l) = mkS (39 :: l ++ [39]) := by
  have n39 : ¬ 39 ∈ l := fun h => absurd (hs 39 h) (by decide)
  have hq : reprQuote (mkS l) = 39 := by
    unfold reprQuote
    have : (mkS l).cps.contains 39 = false := by
      rw [← Bool.not_eq_true, Array.contains_iff_mem]
      intro h
      exact n39 (by simpa [mkS] using h)
    rw [this]
    rfl
  unfold reprText
  rw [hq]
  have key : ∀ (ys : List Nat) (acc : Array Nat), (∀ c ∈ ys, c ∈ signs) → ys.foldl (fun out c => out ++ (Builtin.Str.reprChar 39 c).toArray) acc = acc ++ ys.toArray := by
    intro ys
    induction ys with
    | nil => intro acc _; simp
    | cons c ys ih =>
      intro acc h
      rw [List.foldl_cons, rc_sign c (h c List.mem_cons_self), ih _ fun d hd => h d (List.mem_cons_of_mem _ hd)]
      simp
  have e : (mkS l).cps = l.toArray := rfl
  rw [e, ← Array.foldl_toList, key _ _ hs]
  unfold mkS
  simp
section
variable {h : Hh} {os : List (Option (List Nat))} {o : Option (List Nat)} {u : W}
theorem shown_nW (hs : ∀ l, o = some l → ∀ c ∈ l, c ∈ signs) : (toP (nW o)).shown = mkS (tx o) := by
  cases o with
  | none =>
    show (PyData.none).shown = _
    rw [PyData.shown_none]
    decide +kernel
  | some l =>
    show (PyData.str (mkS l)).shown = _
    rw [PyData.shown_str, repr_sg (hs l rfl)]
    rfl
theorem toPs_map {α : Type} {f : α → W} {l : List α} : toPs (l.map f) = l.map fun a => toP (f a) := by
  induction l with
  | nil => rfl
  | cons a l ih =>
    show toP (f a) :: toPs (l.map f) = _
    rw [ih]
    rfl
def repN (os : List (Option (List Nat))) : List Nat := [91] ++ jn (os.map tx) ++ [93]
theorem shown_names (hs : ∀ o ∈ os, ∀ l, o = some l → ∀ c ∈ l, c ∈ signs) : (toP (.lst (os.map nW))).shown = mkS (repN os) := by
  show (PyData.list (toPs (os.map nW))).shown = _
  rw [PyData.shown_list, toPs_map]
  have e : PyData.shownAll (os.map fun a => toP (nW a)) = (os.map tx).map mkS := by
    induction os with
    | nil => rw [List.map_nil, PyData.shownAll_nil]; rfl
    | cons o os ih =>
      rw [List.map_cons, PyData.shownAll_cons, ih fun a ha => hs a (List.mem_cons_of_mem _ ha), shown_nW (hs o List.mem_cons_self)]
      rfl
  have e1 : ((", " : String) : Str) = mkS [44, 32] := by decide +kernel
  have e2 : ((("[" : String) : Str)) = mkS [91] := by decide +kernel
  have e3 : ((("]" : String) : Str)) = mkS [93] := by decide +kernel
  rw [e, e1, e2, e3, join_mk, mkS_app, mkS_app]
  rfl
theorem showable_names : (toP (.lst (os.map nW))).showable = true := by
  have : PyData.showableAll (toPs (os.map nW)) = true := by
    induction os with
    | nil => show PyData.showableAll [] = true; simp only [PyData.showableAll]
    | cons o os ih =>
      show PyData.showableAll (toP (nW o) :: toPs (os.map nW)) = true
      cases o <;> (simp only [PyData.showableAll, ih, nW, toP, PyData.showable]; try rfl)
  show (PyData.list (toPs (os.map nW))).showable = true
  simp only [PyData.showable, this]
theorem repN_fine (hs : ∀ o ∈ os, ∀ l, o = some l → (∀ c ∈ l, c ∈ signs) ∧ l.length ≤ 300) (hl : os.length ≤ 1000) : strFine (mkS (repN os)) = true ∧ (repN os).length ≤ 1000000 := by
  have l1 : (jn (os.map tx)).length ≤ (os.map tx).length * (302 + 2) := jn_len fun t ht => by
    obtain ⟨o, ho, rfl⟩ := List.mem_map.mp ht
    cases o with
    | none => show 4 ≤ 302; omega
    | some l =>
      have := (hs _ ho l rfl).2
      show (39 :: l ++ [39]).length ≤ 302
      rw [List.length_append]
      simp only [List.length_cons, List.length_nil]
      omega
  rw [List.length_map] at l1
  have l2 : (repN os).length ≤ 1000000 := by
    unfold repN
    rw [List.length_append, List.length_append]
    simp only [List.length_cons, List.length_nil]
    have : os.length * (302 + 2) ≤ 1000 * (302 + 2) := Nat.mul_le_mul_right _ hl
    omega
  refine ⟨fine_le (fun c hc => ?_) l2, l2⟩
  unfold repN at hc
  rcases List.mem_append.mp hc with hc | hc
  · rcases List.mem_append.mp hc with hc | hc
    · rw [List.mem_singleton.mp hc]; decide
    · rcases mem_jn hc with ⟨t, ht, hc⟩ | rfl | rfl
      · obtain ⟨o, ho, rfl⟩ := List.mem_map.mp ht
        cases o with
        | none =>
          have hc : c ∈ ([78, 111, 110, 101] : List Nat) := hc
          simp only [List.mem_cons, List.not_mem_nil, or_false] at hc
          omega
        | some l =>
          have hc : c ∈ 39 :: l ++ [39] := hc
          rcases List.mem_append.mp hc with hc | hc
          · rcases List.mem_cons.mp hc with rfl | hc
            · decide
            · exact sign_lt ((hs _ ho l rfl).1 c hc)
          · rw [List.mem_singleton.mp hc]; decide
      · decide
      · decide
  · rw [List.mem_singleton.mp hc]; decide
theorem repr_run (eu : look h u = .lst (os.map nW)) (hs : ∀ o ∈ os, ∀ l, o = some l → (∀ c ∈ l, c ∈ signs) ∧ l.length ≤ 300) (hl : os.length ≤ 1000) : pRepr u h = .ok (.str (mkS (repN os)), h) := by
  obtain ⟨f1, f2⟩ := repN_fine hs hl
  have dat : isDat 60 (.lst (os.map nW)) = true := areDat_map fun o ho => isDat_nW (fun l e => fine_sg (hs o ho l e).1 (by have := (hs o ho l e).2; omega))
  unfold pRepr
  rw [eu, shown_names fun o ho l e => (hs o ho l e).1, showable_names, dat, mkS_len, decide_eq_true (Nat.le_trans f2 (by decide))]
  rfl
end
end Ti


/-! Ti: how many try each name, in the program's order. -/
namespace Ti
open PySem Pr
def dkc (S : List Nm) (c : Nm → Nat) : List (HK × W) := S.map fun g => (kS g, .int (c g : Int))
section
variable {h : Hh} {S ls ns pend : List Nm} {c c' : Nm → Nat} {x y z : Nm} {g : Nat} {w : Option Nat} {c1 c2 cl : Cell}
theorem dget_dkc : dget (dkc S c) (kS x) = if x ∈ S then some (.int (c x : Int)) else none := by
  induction S with
  | nil => rfl
  | cons a S ih =>
    unfold dget dkc at ih ⊢
    rw [List.map_cons, List.find?_cons]
    by_cases e : a = x
    · subst e
      simp
    · rw [show decide ((kS a, W.int (c a : Int)).1 = kS x) = false from decide_eq_false fun z => e (kS_eq.mp z)]
      have : (x ∈ a :: S) ↔ x ∈ S := by
        rw [List.mem_cons]
        exact ⟨fun h => h.resolve_left fun z => e z.symm, .inr⟩
      simp only [this]
      exact ih
theorem dput_old (hy : y ∈ S) : dput (dkc S c) (kS y) (.int ((c y + 1 : Nat) : Int)) = dkc S (bump c y) := by
  unfold dput
  rw [if_pos]
  · unfold dkc
    rw [List.map_map]
    refine List.map_congr_left fun a _ => ?_
    show (if kS a = kS y then (kS a, W.int ((c y + 1 : Nat) : Int)) else (kS a, .int (c a : Int))) = (kS a, .int (bump c y a : Int))
    by_cases e : a = y
    · subst e
      rw [if_pos rfl, bump_same]
    · rw [if_neg fun z => e (kS_eq.mp z), bump_ne e]
  · rw [List.any_eq_true]
    exact ⟨_, List.mem_map.mpr ⟨y, hy, rfl⟩, decide_eq_true rfl⟩
theorem dput_new (hy : y ∉ S) : dput (dkc S c) (kS y) (.int ((0 + 1 : Nat) : Int)) = dkc (S ++ [y]) (fun z => if z = y then 1 else c z) := by
  unfold dput
  rw [if_neg, dkc, dkc, List.map_append]
  · have e : S.map (fun g => (kS g, W.int (c g : Int))) = S.map fun g => (kS g, W.int ((if g = y then 1 else c g : Nat) : Int)) := List.map_congr_left fun a ha => by
      rw [if_neg fun e => hy (by rw [← e]; exact ha)]
    rw [e]
    simp
  · intro z
    obtain ⟨kv, h1, h2⟩ := List.any_eq_true.mp z
    obtain ⟨a, ha, rfl⟩ := List.mem_map.mp h1
    rw [decide_eq_true_eq] at h2
    rw [kS_eq.mp h2] at ha
    exact hy ha
theorem bump_zero (h0 : c y = 0) : (fun z => if z = y then 1 else c z) = bump c y := by
  funext z
  unfold bump
  by_cases e : z = y
  · subst e; rw [if_pos rfl, if_pos rfl, h0]
  · rw [if_neg e, if_neg e]
theorem norK_dkc : norK (dkc S c) = true := by
  induction S with
  | nil => rfl
  | cons a S ih => exact ih
theorem Flw.start (ns : List Nm) : Flw w ns [] (fun _ => 0) ns := ⟨List.nodup_nil, fun z => by simp, fun z => by rw [infl_nil]; omega⟩
theorem tot_le {S S' : List Nm} (hS : S.Nodup) (hS' : S'.Nodup) (hsub : ∀ m ∈ S, m ∈ S') (hc : ∀ m ∈ S, c m ≤ c' m) : tot S c ≤ tot S' c' := by
  induction S generalizing S' with
  | nil => exact Nat.zero_le _
  | cons x S ih =>
    obtain ⟨hx, hn⟩ := List.nodup_cons.mp hS
    have hp := List.perm_cons_erase (hsub x List.mem_cons_self)
    have e : tot S' c' = c' x + tot (S'.erase x) c' := by
      unfold tot
      rw [(hp.map c').sum_nat, List.map_cons, List.sum_cons]
    have h1 := hc x List.mem_cons_self
    have h2 := ih hn (hS'.erase x) (fun m hm => (List.mem_erase_of_ne fun e => hx (by rw [← e]; exact hm)).mpr (hsub m (List.mem_cons_of_mem _ hm))) fun m hm => hc m (List.mem_cons_of_mem _ hm)
    rw [e]
    show (((x :: S).map c).sum) ≤ _
    rw [List.map_cons, List.sum_cons]
    have : tot S c = (S.map c).sum := rfl
    omega
theorem Flw.tot_le {S' : List Nm} (f : Flw w ns S c pend) (G : Flw w ls S' c' []) (hp : ns.Perm ls) : tot S c ≤ tot S' c' := by
  have le := f.le G hp
  exact Ti.tot_le f.nd G.nd (fun m hm => (G.sup m).mpr (by have := (f.sup m).mp hm; have := le m; omega)) fun m _ => by have := le m; omega
/-- what lies on the roads of names -/
def OnR (w : Option Nat) (ns : List Nm) (n : Nat) (y : Nm) : Prop := ∃ l, l ∈ ns ∧ ∃ i, i ≤ n ∧ rd w (some l) i = some y
theorem OnR.nam {n : Nat} (o : OnR w ns n y) (hs : ∀ l ∈ ns, Nam w l ∧ l.length ≤ 100) (hw : WdO w) (hn : n ≤ 1000000) : Nam w y ∧ y.length ≤ 202 := by
  obtain ⟨l, hl, i, hi, e⟩ := o
  exact rd_nam hw (hs l hl).1 (hs l hl).2 (Nat.le_trans (show i ≤ 1000000 by omega) (by decide)) e
theorem OnR.mono {n m : Nat} (o : OnR w ns n y) (h : n ≤ m) : OnR w ns m y := by
  obtain ⟨l, hl, i, hi, e⟩ := o
  exact ⟨l, hl, i, by omega, e⟩
theorem OnR.next {n : Nat} (o : OnR w ns n y) (e : nxt w y = some z) : OnR w ns (n + 1) z := by
  obtain ⟨l, hl, i, hi, e2⟩ := o
  refine ⟨l, hl, i + 1, by omega, ?_⟩
  show (rd w (some l) i).bind (nxt w) = _
  rw [e2]
  exact e
theorem trd_le (ls : List Nm) : trd w ls ≤ ls.length * (ls.length + 1) := by
  have key : ∀ (n : Nat) (xs : List Nm), xs.length = n → trd w xs ≤ n * (n + 1) := by
    intro n
    induction n with
    | zero => intro xs h; rw [List.length_eq_zero_iff] at h; subst h; exact Nat.zero_le _
    | succ n ih =>
      intro xs h
      rcases List.eq_nil_or_concat xs with rfl | ⟨ys, x, rfl⟩
      · cases h
      · rw [List.concat_eq_append] at *
        rw [List.length_append, List.length_singleton] at h
        have h1 := ih ys (by omega)
        have l1 := @ff_le w (names (got w ys)) x
        have l2 := @names_len (got w ys)
        rw [got_len] at l2
        rw [trd_snoc]
        have : (n + 1) * (n + 1 + 1) = n * (n + 1) + (2 * n + 2) := by
          rw [Nat.mul_add, Nat.add_mul, Nat.add_mul]
          omega
        omega
  exact key _ ls rfl
theorem get_dkc (e : h[g]? = some (.dic false (dkc S c))) : pGet2 (.ref g) (.str (mkS y)) (.int 0) h = .ok (.int (if y ∈ S then c y else 0 : Nat), h) := by
  unfold pGet2
  rw [asD_dic e]
  simp only [show keyOf (.str (mkS y)) = some (kS y) from rfl]
  rw [if_pos (show (kS y).fits false = true from rfl), dget_dkc]
  by_cases hy : y ∈ S
  · rw [if_pos hy, if_pos hy]; rfl
  · rw [if_neg hy, if_neg hy]; rfl
theorem ix_dkc (e : h[g]? = some (.dic false (dkc S c))) (hy : y ∈ S) : pIx (.ref g) (.str (mkS y)) h = .ok (.int (c y : Int), h) := by
  have : ixW h (.ref g) (.str (mkS y)) = some (.int (c y : Int)) := by
    unfold ixW
    simp only [asL_dic e, asD_dic e]
    unfold entryW
    simp only [show keyOf (.str (mkS y)) = some (kS y) from rfl]
    rw [if_pos (show (kS y).fits false = true from rfl), dget_dkc, if_pos hy]
  unfold pIx
  rw [this]
  rfl
theorem set_dkc {v : Nat} (e : h[g]? = some (.dic false (dkc S c))) (hl : S.length < lineW) : pSet (.ref g) (.str (mkS y)) (.int (v : Int)) h = .ok (.non, h.set g (.dic false (dput (dkc S c) (kS y) (.int (v : Int))))) := by
  unfold pSet
  simp only [e]
  show (if ((kS y).fits false && nor (.int (v : Int)) && decide ((dkc S c).length < lineW)) = true then Res.ok (W.non, h.set g (.dic false (dput (dkc S c) (kS y) (.int (v : Int))))) else .bad) = _
  rw [if_pos]
  show (true && true && decide ((dkc S c).length < lineW)) = true
  rw [show (dkc S c).length = S.length from List.length_map _, decide_eq_true hl]
  rfl
theorem r_eGet {mo me mf : DE} {ρ : Env} : eGet mo me mf ρ h = (mo ρ h).bind fun p => if (asD p.2 p.1).isSome = true then (me ρ p.2).bind fun q => (mf ρ q.2).bind fun r => pGet2 p.1 q.1 r.1 r.2 else .bad := rfl
theorem pop_at {ws : List W} {y : W} (e : h[g]? = some (.lst (ws ++ [y]))) : pPop0 (.ref g) h = .ok (y, h.set g (.lst ws)) := by
  unfold pPop0
  simp only [e]
  rw [List.length_append, List.length_singleton, Nat.add_sub_cancel, List.getElem?_append_right (Nat.le_refl _), Nat.sub_self]
  simp only [List.getElem?_cons_zero, List.dropLast_concat]
theorem fin_flow {L : Int} {us : List Cell} : fin .deep h.length (.tup [.ref h.length, .int L]) (h ++ [.dic false (dkc S c)] ++ us) = .ok (.tup [.dic false (dkc S c), .int L], h) := by
  unfold fin
  simp only []
  have t1 : thaw h.length (h ++ [.dic false (dkc S c)] ++ us) (.ref h.length) = some (.dic false (dkc S c)) := by
    unfold thaw
    rw [if_neg (Nat.lt_irrefl _), List.append_assoc, List.getElem?_append_right (Nat.le_refl _), Nat.sub_self]
    rfl
  have : thaw h.length (h ++ [.dic false (dkc S c)] ++ us) (.tup [.ref h.length, .int L]) = some (.tup [.dic false (dkc S c), .int L]) := by
    unfold thaw thaws thaws thaws
    simp only [t1, show thaw h.length (h ++ [.dic false (dkc S c)] ++ us) (.int L) = some (.int L) from rfl, Option.map_some]
  rw [this, ofO_some, Res.bind_ok, List.append_assoc, take_new]
end
end Ti


/-! Ti: the flow, run. -/
namespace Ti
open PySem Pr
section
variable {h : Hh} {S ls ns pend : List Nm} {c c' : Nm → Nat} {x y z : Nm} {g : Nat} {w : Option Nat} {u : W}
theorem ne_pend (ho : ∀ l ∈ pend, strFine (mkS l) = true) (e : h[g]? = some (.lst (pend.map stW))) : pNe (.ref g) (.lst []) h = .ok (.bl (!decide (pend = [])), h) := by
  have lk : look h (.ref g) = .lst (pend.map stW) := by
    unfold look
    simp only [e]
    rfl
  have dt : isDat 60 (.lst (pend.map stW)) = true := areDat_map fun l hl => ho l hl
  have bq : beq (.lst (pend.map stW)) (.lst []) = decide (pend = []) := by
    cases pend with
    | nil => rfl
    | cons a p => exact (decide_eq_false (fun z => by cases z)).symm
  have : eqB h (.ref g) (.lst []) = some (decide (pend = [])) := by
    unfold eqB
    rw [lk, look_lst, dt, bq]
    rfl
  unfold pNe
  rw [this]
  rfl
theorem set_two2' {c1 c2 c' : Cell} {n : Nat} (hn : n = h.length + 1) : (h ++ [c1] ++ [c2]).set n c' = h ++ [c1] ++ [c'] := by
  subst hn; exact set_two2
theorem flowing_run (hu : asL h u = some (ls.map stW)) (hs : ∀ l ∈ ls, Nam w l ∧ l.length ≤ 100) (hw : WdO w) (hl : ls.length ≤ 100) :
    ∃ S c, Flw w ls S c [] ∧ f_flowing [u, wW w] h = .ok (.tup [.dic false (dkc S c), .int (infl w S c none : Int)], h) := by
  obtain ⟨cF, F1, _, F3⟩ := got_flw (w := w) ls
  have tl := trd_le (w := w) ls
  have tb : tot (names (got w ls)) cF ≤ 10100 := by
    have : ls.length * (ls.length + 1) ≤ 100 * 101 := Nat.mul_le_mul hl (by omega)
    omega
  generalize names (got w ls) = SF at F1 tb
  suffices q : T (f_flowing [u, wW w] h) fun r => ∃ S c, Flw w ls S c [] ∧ r = (.tup [.dic false (dkc S c), .int (infl w S c none : Int)], h) by
    obtain ⟨r, e, S, c, f, rfl⟩ := q
    exact ⟨S, c, f, e⟩
  have lw : pList true u (h ++ [.dic false []]) = .ok (.ref (h.length + 1), h ++ [.dic false []] ++ [.lst (ls.map stW)]) := by
    have e : seqOf (h ++ [.dic false []]) u = some (ls.map stW) := by
      have := asL_app (gs := [.dic false []]) hu
      cases u with
      | lst us => exact this
      | ref i => exact this
      | _ => cases this
    unfold pList
    rw [e, ofO_some, Res.bind_ok, mkL_t (nors_map fun _ _ => rfl) (by rw [List.length_map]; exact Nat.le_of_lt (small_lt (by omega))), len_one]
  unfold f_flowing b_flowing
  simp only [r_run, List.map_cons, List.map_nil, List.length_cons, List.length_nil, List.replicate, List.cons_append, List.nil_append, List.append_nil, List.set_cons_zero, List.set_cons_succ, List.set_nil, Nat.sub_self, Nat.zero_add, Nat.reduceAdd, Nat.reduceSub, Nat.reduceEqDiff, Nat.reduceLeDiff, Res.bind_ok, ofO_some, T_ok, T_bind, if_true, if_false, Bool.false_eq_true, Bool.not_true, Bool.not_false, r_eK, r_eV0, r_eVs, r_e1, r_e2, r_e3, r_eL0, r_eLs, r_eF, r_eAnd, r_eOr, r_eNot, r_eIf, r_eTree, r_eLst, r_eTup, r_eDic, r_tN, r_tL0, r_tLs, r_tT, r_sNil, r_sPass, r_sE, r_sAsg, r_sRet, r_sRetN, r_sBrk, r_sCnt, r_sIf, r_sSet, r_sCons, r_sFor, r_eCall, r_l1, r_l2, r_l3, r_eM, r_eComp, r_eChain, andThen_nx, andThen_rt, andThen_bk, andThen_ct, hb_nx, hb_rt, fin_raw, fin_int, fin_bl, fin_str, fin_non, truthy_bl, truthy_non, truthy_int, add_int, sub_int, lt_int, le_int, gt_int, ge_int, is_non, isN_non, isNon_non, isNon_int, isNon_str, fiL_lst, fiL_tup, fiL_str, decide_true, decide_false, decide_eq_true_eq, lineW_eq, mkL_f, mkL_t, Nat.reduceLeDiff, ix_tup3_0, ix_tup3_1, ix_tup3_2, ix_tup2_0, ix_tup2_1, sl_tup3_1, r_forG0, r_forGs, nextF_nx, nextF_ct, nextF_bk, nextF_rt, nW_none, nW_some, Option.isNone_none, Option.isNone_some, mkD_new, lw, len3_le, Nat.reduceLeDiff]
  refine T.mono (T_while (Q := fun q => ∃ S c, Flw w ls S c [] ∧ ∃ a b : Option W, q = (.nx, [some u, some (wW w), some (.ref h.length), some (.int (infl w S c none : Int)), some (.ref (h.length + 1)), a, b], h ++ [.dic false (dkc S c)] ++ [.lst []]))
    (fun n ρ h' => ∃ S c pend, Flw w ls S c pend ∧ pend.length ≤ ls.length ∧ n + tot S c = tot SF cF ∧ (∀ y ∈ pend, OnR w ls (tot S c) y) ∧ ∃ a b : Option W, ρ = [some u, some (wW w), some (.ref h.length), some (.int (infl w S c none : Int)), some (.ref (h.length + 1)), a, b] ∧ h' = h ++ [.dic false (dkc S c)] ++ [.lst (pend.map stW)])
    (n := tot SF cF) (Nat.lt_of_le_of_lt tb (by decide)) ⟨[], fun _ => 0, ls, Flw.start ls, Nat.le_refl _, Nat.add_zero _, fun y hy => ⟨y, hy, 0, Nat.zero_le _, rfl⟩, none, none, rfl, rfl⟩ ?_) ?_
  · rintro n ρ _ ⟨S, c, pend, f, pl, hn, ho, a, b, rfl, rfl⟩
    have fine : ∀ l ∈ pend, strFine (mkS l) = true := fun l hl => ((ho l hl).nam hs hw (by omega)).1.fine
    simp only [r_run, List.map_cons, List.map_nil, List.length_cons, List.length_nil, List.replicate, List.cons_append, List.nil_append, List.append_nil, List.set_cons_zero, List.set_cons_succ, List.set_nil, Nat.sub_self, Nat.zero_add, Nat.reduceAdd, Nat.reduceSub, Nat.reduceEqDiff, Nat.reduceLeDiff, Res.bind_ok, ofO_some, T_ok, T_bind, if_true, if_false, Bool.false_eq_true, Bool.not_true, Bool.not_false, r_eK, r_eV0, r_eVs, r_e1, r_e2, r_e3, r_eL0, r_eLs, r_eF, r_eAnd, r_eOr, r_eNot, r_eIf, r_eTree, r_eLst, r_eTup, r_eDic, r_tN, r_tL0, r_tLs, r_tT, r_sNil, r_sPass, r_sE, r_sAsg, r_sRet, r_sRetN, r_sBrk, r_sCnt, r_sIf, r_sSet, r_sCons, r_sFor, r_eCall, r_l1, r_l2, r_l3, r_eM, r_eComp, r_eChain, andThen_nx, andThen_rt, andThen_bk, andThen_ct, hb_nx, hb_rt, fin_raw, fin_int, fin_bl, fin_str, fin_non, truthy_bl, truthy_non, truthy_int, add_int, sub_int, lt_int, le_int, gt_int, ge_int, is_non, isN_non, isNon_non, isNon_int, isNon_str, fiL_lst, fiL_tup, fiL_str, decide_true, decide_false, decide_eq_true_eq, lineW_eq, mkL_f, mkL_t, Nat.reduceLeDiff, ix_tup3_0, ix_tup3_1, ix_tup3_2, ix_tup2_0, ix_tup2_1, sl_tup3_1, r_forG0, r_forGs, nextF_nx, nextF_ct, nextF_bk, nextF_rt, nW_none, nW_some, Option.isNone_none, Option.isNone_some, ne_pend (g := h.length + 1) fine at_two2]
    refine ⟨_, rfl, ?_⟩
    rcases List.eq_nil_or_concat pend with rfl | ⟨p, y, rfl⟩
    · rw [if_neg (by decide)]
      exact ⟨S, c, f, a, b, rfl⟩
    · rw [List.concat_eq_append] at *
      rw [if_pos (by rw [decide_eq_false (by simp)]; rfl)]
      rw [List.length_append, List.length_singleton] at pl
      have hy := ho y (List.mem_append.mpr (.inr (List.mem_singleton.mpr rfl)))
      have yn := hy.nam hs hw (by omega)
      have pe := pop_at (h := h ++ [.dic false (dkc S c)] ++ [.lst ((p ++ [y]).map stW)]) (g := h.length + 1) (ws := p.map stW) (y := W.str (mkS y)) (by rw [at_two2, List.map_append]; rfl)
      rw [set_two2] at pe
      have Sl : S.length < lineW := by
        have : S.length ≤ tot S c := by
          have key : ∀ T : List Nm, (∀ z ∈ T, 0 < c z) → T.length ≤ tot T c := by
            intro T
            induction T with
            | nil => intro _; exact Nat.zero_le _
            | cons a T ih =>
              intro hT
              have h1 := hT a List.mem_cons_self
              have h2 := ih fun z hz => hT z (List.mem_cons_of_mem _ hz)
              show T.length + 1 ≤ ((a :: T).map c).sum
              rw [List.map_cons, List.sum_cons]
              have : tot T c = (T.map c).sum := rfl
              omega
          exact key S fun z hz => (f.sup z).mp hz
        exact Nat.lt_of_le_of_lt (show S.length ≤ 100000 by omega) (by decide)
      have asd : ∀ us : List Cell, (asD (h ++ [.dic false (dkc S c)] ++ us) (.ref h.length)).isSome = true := fun us => by
        rw [asD_dic (kd := false) (kvs := dkc S c) (by rw [List.append_assoc, List.getElem?_append_right (Nat.le_refl _), Nat.sub_self]; rfl)]
        rfl
      have e1 : (if y ∈ S then c y else 0) = c y := by
        by_cases q : y ∈ S
        · rw [if_pos q]
        · rw [if_neg q, f.zero.mp q]
      have g1 := get_dkc (h := h ++ [.dic false (dkc S c)] ++ [.lst (p.map stW)]) (y := y) (g := h.length) (S := S) (c := c) at_two
      rw [e1] at g1
      have ec : (c y : Int) + 1 = ((c y + 1 : Nat) : Int) := by omega
      have s1 := set_dkc (h := h ++ [.dic false (dkc S c)] ++ [.lst (p.map stW)]) (y := y) (g := h.length) (S := S) (c := c) (v := c y + 1) at_two Sl
      rw [set_two] at s1
      have ep : isMT .list (h ++ [.dic false (dkc S c)] ++ [.lst ((p ++ [y]).map stW)]) (.ref (h.length + 1)) = true := isL_at at_two2
      by_cases q : y ∈ S
      · rw [dput_old q] at s1
        obtain ⟨f1, f2⟩ := f.go q
        have le := f1.tot_le F1 (List.Perm.refl _)
        have tb1 := tot_bump_in (c := c) f.nd q
        have i1 := ix_dkc (h := h ++ [.dic false (dkc S (bump c y))] ++ [.lst (p.map stW)]) (g := h.length) at_two q
        rw [bump_same] at i1
        have cy := (f.sup y).mp q
        have gt : (1 : Int) < ((c y + 1 : Nat) : Int) := by omega
        simp only [r_run, List.map_cons, List.map_nil, List.length_cons, List.length_nil, List.replicate, List.cons_append, List.nil_append, List.append_nil, List.set_cons_zero, List.set_cons_succ, List.set_nil, Nat.sub_self, Nat.zero_add, Nat.reduceAdd, Nat.reduceSub, Nat.reduceEqDiff, Nat.reduceLeDiff, Res.bind_ok, ofO_some, T_ok, T_bind, if_true, if_false, Bool.false_eq_true, Bool.not_true, Bool.not_false, r_eK, r_eV0, r_eVs, r_e1, r_e2, r_e3, r_eL0, r_eLs, r_eF, r_eAnd, r_eOr, r_eNot, r_eIf, r_eTree, r_eLst, r_eTup, r_eDic, r_tN, r_tL0, r_tLs, r_tT, r_sNil, r_sPass, r_sE, r_sAsg, r_sRet, r_sRetN, r_sBrk, r_sCnt, r_sIf, r_sSet, r_sCons, r_sFor, r_eCall, r_l1, r_l2, r_l3, r_eM, r_eComp, r_eChain, andThen_nx, andThen_rt, andThen_bk, andThen_ct, hb_nx, hb_rt, fin_raw, fin_int, fin_bl, fin_str, fin_non, truthy_bl, truthy_non, truthy_int, add_int, sub_int, lt_int, le_int, gt_int, ge_int, is_non, isN_non, isNon_non, isNon_int, isNon_str, fiL_lst, fiL_tup, fiL_str, decide_true, decide_false, decide_eq_true_eq, lineW_eq, mkL_f, mkL_t, Nat.reduceLeDiff, ix_tup3_0, ix_tup3_1, ix_tup3_2, ix_tup2_0, ix_tup2_1, sl_tup3_1, r_forG0, r_forGs, nextF_nx, nextF_ct, nextF_bk, nextF_rt, nW_none, nW_some, Option.isNone_none, Option.isNone_some, ep, pe, r_eGet, asd, g1, ec, s1, i1, eq_true gt, after_run yn.1.sg (show y.length ≤ 400 by omega) hw]
        cases en : nxt w y with
        | none =>
          rw [en] at f1
          have i2 := f2 none
          rw [en, if_pos rfl] at i2
          simp only [r_run, List.map_cons, List.map_nil, List.length_cons, List.length_nil, List.replicate, List.cons_append, List.nil_append, List.append_nil, List.set_cons_zero, List.set_cons_succ, List.set_nil, Nat.sub_self, Nat.zero_add, Nat.reduceAdd, Nat.reduceSub, Nat.reduceEqDiff, Nat.reduceLeDiff, Res.bind_ok, ofO_some, T_ok, T_bind, if_true, if_false, Bool.false_eq_true, Bool.not_true, Bool.not_false, r_eK, r_eV0, r_eVs, r_e1, r_e2, r_e3, r_eL0, r_eLs, r_eF, r_eAnd, r_eOr, r_eNot, r_eIf, r_eTree, r_eLst, r_eTup, r_eDic, r_tN, r_tL0, r_tLs, r_tT, r_sNil, r_sPass, r_sE, r_sAsg, r_sRet, r_sRetN, r_sBrk, r_sCnt, r_sIf, r_sSet, r_sCons, r_sFor, r_eCall, r_l1, r_l2, r_l3, r_eM, r_eComp, r_eChain, andThen_nx, andThen_rt, andThen_bk, andThen_ct, hb_nx, hb_rt, fin_raw, fin_int, fin_bl, fin_str, fin_non, truthy_bl, truthy_non, truthy_int, add_int, sub_int, lt_int, le_int, gt_int, ge_int, is_non, isN_non, isNon_non, isNon_int, isNon_str, fiL_lst, fiL_tup, fiL_str, decide_true, decide_false, decide_eq_true_eq, lineW_eq, mkL_f, mkL_t, Nat.reduceLeDiff, ix_tup3_0, ix_tup3_1, ix_tup3_2, ix_tup2_0, ix_tup2_1, sl_tup3_1, r_forG0, r_forGs, nextF_nx, nextF_ct, nextF_bk, nextF_rt, nW_none, nW_some, Option.isNone_none, Option.isNone_some]
          refine ⟨n - 1, by omega, S, bump c y, p, by rw [Option.toList_none, List.append_nil] at f1; exact f1, by omega, by omega, fun z hz => (ho z (List.mem_append.mpr (.inl hz))).mono (by omega), some (.str (mkS y)), some .non, ?_, rfl⟩
          rw [i2]
          rfl
        | some z =>
          rw [en] at f1
          have i2 := f2 none
          rw [en, if_neg (by simp)] at i2
          have ap := app_at (h := h ++ [.dic false (dkc S (bump c y))] ++ [.lst (p.map stW)]) (i := h.length + 1) (ws := p.map stW) (y := .str (mkS z)) at_two2 rfl (small_lt (by rw [List.length_map]; omega))
          rw [set_two2] at ap
          have il : isMT .list (h ++ [.dic false (dkc S (bump c y))] ++ [.lst (p.map stW)]) (.ref (h.length + 1)) = true := isL_at at_two2
          simp only [r_run, List.map_cons, List.map_nil, List.length_cons, List.length_nil, List.replicate, List.cons_append, List.nil_append, List.append_nil, List.set_cons_zero, List.set_cons_succ, List.set_nil, Nat.sub_self, Nat.zero_add, Nat.reduceAdd, Nat.reduceSub, Nat.reduceEqDiff, Nat.reduceLeDiff, Res.bind_ok, ofO_some, T_ok, T_bind, if_true, if_false, Bool.false_eq_true, Bool.not_true, Bool.not_false, r_eK, r_eV0, r_eVs, r_e1, r_e2, r_e3, r_eL0, r_eLs, r_eF, r_eAnd, r_eOr, r_eNot, r_eIf, r_eTree, r_eLst, r_eTup, r_eDic, r_tN, r_tL0, r_tLs, r_tT, r_sNil, r_sPass, r_sE, r_sAsg, r_sRet, r_sRetN, r_sBrk, r_sCnt, r_sIf, r_sSet, r_sCons, r_sFor, r_eCall, r_l1, r_l2, r_l3, r_eM, r_eComp, r_eChain, andThen_nx, andThen_rt, andThen_bk, andThen_ct, hb_nx, hb_rt, fin_raw, fin_int, fin_bl, fin_str, fin_non, truthy_bl, truthy_non, truthy_int, add_int, sub_int, lt_int, le_int, gt_int, ge_int, is_non, isN_non, isNon_non, isNon_int, isNon_str, fiL_lst, fiL_tup, fiL_str, decide_true, decide_false, decide_eq_true_eq, lineW_eq, mkL_f, mkL_t, Nat.reduceLeDiff, ix_tup3_0, ix_tup3_1, ix_tup3_2, ix_tup2_0, ix_tup2_1, sl_tup3_1, r_forG0, r_forGs, nextF_nx, nextF_ct, nextF_bk, nextF_rt, nW_none, nW_some, Option.isNone_none, Option.isNone_some, il, ap]
          refine ⟨n - 1, by omega, S, bump c y, p ++ [z], f1, by rw [List.length_append, List.length_singleton]; omega, by omega, fun v hv => ?_, some (.str (mkS y)), some (.str (mkS z)), ?_, ?_⟩
          · rcases List.mem_append.mp hv with hv | hv
            · exact (ho v (List.mem_append.mpr (.inl hv))).mono (by omega)
            · rw [List.mem_singleton.mp hv, tb1]
              exact hy.next en
          · rw [i2]
            rfl
          · rw [List.map_append]
            rfl
      · have h0 := f.zero.mp q
        rw [h0] at g1 s1 ec
        rw [dput_new q, bump_zero h0] at s1
        obtain ⟨f1, f2⟩ := f.stay q
        have le := f1.tot_le F1 (List.Perm.refl _)
        have tb1 := tot_bump_new (c := c) q h0
        have i1 := ix_dkc (h := h ++ [.dic false (dkc (S ++ [y]) (bump c y))] ++ [.lst (p.map stW)]) (g := h.length) (S := S ++ [y]) (c := bump c y) (y := y) at_two (List.mem_append.mpr (.inr (List.mem_singleton.mpr rfl)))
        rw [bump_same, h0] at i1
        have gt : ¬ (1 : Int) < ((0 + 1 : Nat) : Int) := by omega
        simp only [Nat.zero_add] at s1 i1 ec gt
        simp only [r_run, List.map_cons, List.map_nil, List.length_cons, List.length_nil, List.replicate, List.cons_append, List.nil_append, List.append_nil, List.set_cons_zero, List.set_cons_succ, List.set_nil, Nat.sub_self, Nat.zero_add, Nat.reduceAdd, Nat.reduceSub, Nat.reduceEqDiff, Nat.reduceLeDiff, Res.bind_ok, ofO_some, T_ok, T_bind, if_true, if_false, Bool.false_eq_true, Bool.not_true, Bool.not_false, r_eK, r_eV0, r_eVs, r_e1, r_e2, r_e3, r_eL0, r_eLs, r_eF, r_eAnd, r_eOr, r_eNot, r_eIf, r_eTree, r_eLst, r_eTup, r_eDic, r_tN, r_tL0, r_tLs, r_tT, r_sNil, r_sPass, r_sE, r_sAsg, r_sRet, r_sRetN, r_sBrk, r_sCnt, r_sIf, r_sSet, r_sCons, r_sFor, r_eCall, r_l1, r_l2, r_l3, r_eM, r_eComp, r_eChain, andThen_nx, andThen_rt, andThen_bk, andThen_ct, hb_nx, hb_rt, fin_raw, fin_int, fin_bl, fin_str, fin_non, truthy_bl, truthy_non, truthy_int, add_int, sub_int, lt_int, le_int, gt_int, ge_int, is_non, isN_non, isNon_non, isNon_int, isNon_str, fiL_lst, fiL_tup, fiL_str, decide_true, decide_false, decide_eq_true_eq, lineW_eq, mkL_f, mkL_t, Nat.reduceLeDiff, ix_tup3_0, ix_tup3_1, ix_tup3_2, ix_tup2_0, ix_tup2_1, sl_tup3_1, r_forG0, r_forGs, nextF_nx, nextF_ct, nextF_bk, nextF_rt, nW_none, nW_some, Option.isNone_none, Option.isNone_some, ep, pe, r_eGet, asd, g1, ec, s1, i1, eq_false gt]
        refine ⟨n - 1, by omega, S ++ [y], bump c y, p, f1, by omega, by omega, fun z hz => (ho z (List.mem_append.mpr (.inl hz))).mono (by omega), some (.str (mkS y)), b, ?_, rfl⟩
        rw [f2]
  · rintro _ ⟨S, c, f, a, b, rfl⟩
    simp only [r_run, List.map_cons, List.map_nil, List.length_cons, List.length_nil, List.replicate, List.cons_append, List.nil_append, List.append_nil, List.set_cons_zero, List.set_cons_succ, List.set_nil, Nat.sub_self, Nat.zero_add, Nat.reduceAdd, Nat.reduceSub, Nat.reduceEqDiff, Nat.reduceLeDiff, Res.bind_ok, ofO_some, T_ok, T_bind, if_true, if_false, Bool.false_eq_true, Bool.not_true, Bool.not_false, r_eK, r_eV0, r_eVs, r_e1, r_e2, r_e3, r_eL0, r_eLs, r_eF, r_eAnd, r_eOr, r_eNot, r_eIf, r_eTree, r_eLst, r_eTup, r_eDic, r_tN, r_tL0, r_tLs, r_tT, r_sNil, r_sPass, r_sE, r_sAsg, r_sRet, r_sRetN, r_sBrk, r_sCnt, r_sIf, r_sSet, r_sCons, r_sFor, r_eCall, r_l1, r_l2, r_l3, r_eM, r_eComp, r_eChain, andThen_nx, andThen_rt, andThen_bk, andThen_ct, hb_nx, hb_rt, fin_raw, fin_int, fin_bl, fin_str, fin_non, truthy_bl, truthy_non, truthy_int, add_int, sub_int, lt_int, le_int, gt_int, ge_int, is_non, isN_non, isNon_non, isNon_int, isNon_str, fiL_lst, fiL_tup, fiL_str, decide_true, decide_false, decide_eq_true_eq, lineW_eq, mkL_f, mkL_t, Nat.reduceLeDiff, ix_tup3_0, ix_tup3_1, ix_tup3_2, ix_tup2_0, ix_tup2_1, sl_tup3_1, r_forG0, r_forGs, nextF_nx, nextF_ct, nextF_bk, nextF_rt, nW_none, nW_some, Option.isNone_none, Option.isNone_some, len2_le]
    rw [fin_flow, T_ok]
    exact ⟨S, c, f, rfl⟩
end
end Ti


/-! Ti: counts of a folder. -/
namespace Ti
open PySem Pr
/-- rows of a flow -/
def rowW (c : Nm → Nat) (z : Nm) : W := .tup [stW z, .int (c z : Int)]
section
variable {h : Hh} {S ls ns pend : List Nm} {c c' : Nm → Nat} {x y z : Nm} {g : Nat} {w : Option Nat} {u : W}
theorem ix_tree (hy : y ∈ S) : pIx (.dic false (dkc S c)) (.str (mkS y)) h = .ok (.int (c y : Int), h) := by
  have : ixW h (.dic false (dkc S c)) (.str (mkS y)) = some (.int (c y : Int)) := by
    show entryW false (dkc S c) (.str (mkS y)) = _
    unfold entryW
    simp only [show keyOf (.str (mkS y)) = some (kS y) from rfl]
    rw [if_pos (show (kS y).fits false = true from rfl), dget_dkc, if_pos hy]
  unfold pIx
  rw [this]
  rfl
theorem sum_cast : ((S.map fun g => (c g : Int)).sum) = (tot S c : Int) := by
  induction S with
  | nil => rfl
  | cons a S ih =>
    rw [List.map_cons, List.sum_cons, ih]
    unfold tot
    rw [List.map_cons, List.sum_cons]
    omega
theorem sumV_run : pSumV (.dic false (dkc S c)) h = .ok (.int (tot S c : Int), h) := by
  have e : (dkc S c).map (·.2) = (S.map fun g => (c g : Int)).map W.int := by
    unfold dkc
    rw [List.map_map, List.map_map]
    rfl
  show (ofO (intsOf ((dkc S c).map (·.2)))).bind _ = _
  rw [e, intsOf_map, ofO_some, Res.bind_ok, sum_cast]
theorem keyStrs_dkc : keyStrs ((dkc S c).map (·.1)) = some (S.map mkS) := by
  induction S with
  | nil => rfl
  | cons a S ih =>
    show (keyStrs ((dkc S c).map (·.1))).map (mkS a :: ·) = _
    rw [ih]
    rfl
theorem perm_strs {A : List Str} (h : A.Perm (S.map mkS)) : ∃ zs : List Nm, A = zs.map mkS ∧ zs.Perm S := by
  refine ⟨A.map sg, ?_, ?_⟩
  · rw [List.map_map]
    refine (List.map_id' (l := A)).symm.trans (List.map_congr_left fun a ha => ?_)
    obtain ⟨l, _, rfl⟩ := List.mem_map.mp (h.mem_iff.mp ha)
    rfl
  · have := h.map sg
    rw [List.map_map] at this
    refine this.trans ?_
    have e : S.map (sg ∘ mkS) = S := (List.map_congr_left fun a _ => rfl).trans (List.map_id' (l := S))
    rw [e]
theorem sorted_run (hl : S.length < 64) : ∃ zs : List Nm, zs.Perm S ∧ ∀ (b : Bool) (h : Hh), pSorted b (.dic false (dkc S c)) h = mkL b (zs.map stW) h := by
  obtain ⟨zs, e, hp⟩ := perm_strs (S := S) (A := srtS (S.map mkS)) (List.mergeSort_perm _ _)
  refine ⟨zs, hp, fun b h => ?_⟩
  show (match keyStrs ((dkc S c).map (·.1)) with
      | some ys => if ys.length < 64 then mkL b ((srtS ys).map .str) h else .bad
      | none => .bad) = _
  rw [keyStrs_dkc]
  simp only []
  rw [List.length_map, if_pos hl, e, List.map_map]
  rfl
theorem Flw.got (f : Flw w ls S c []) : S.Perm (names (got w ls)) ∧ infl w S c none = (got w ls).count none ∧ tot S c = trd w ls := by
  obtain ⟨cF, F1, F2, F3⟩ := got_flw (w := w) ls
  obtain ⟨u1, u2, u3⟩ := f.unique F1 (List.Perm.refl _)
  refine ⟨u2, by rw [u3, F2], ?_⟩
  rw [← F3]
  unfold tot
  rw [(u2.map c).sum_nat]
  congr 1
  exact List.map_congr_left fun a _ => u1 a
variable (hu : asL h u = some (ls.map stW)) (hs : ∀ l ∈ ls, Nam w l ∧ l.length ≤ 100) (hw : WdO w) (hl : ls.length ≤ 60)
theorem check_as (hs : ∀ l ∈ ls, Nam w l) (hl : ls.length ≤ 1000) (hw : WdO w) : f_check_things [namesW ls, wW w] h = .ok (.non, h) := check_things_run hs hw hl
include hs hw hl in
theorem folder_run : ∃ (S zs : List Nm) (c : Nm → Nat), Flw w ls S c [] ∧ zs.Perm S ∧
    f_tries [namesW ls, wW w] h = .ok (.int (trd w ls : Int), h) ∧ f_refused [namesW ls, wW w] h = .ok (.int ((got w ls).count none : Nat), h) ∧
    f_taken [namesW ls, wW w] h = .ok (.ref h.length, h ++ [.lst (zs.map stW)]) ∧ f_flow [namesW ls, wW w] h = .ok (.ref h.length, h ++ [.lst (zs.map (rowW c))]) := by
  obtain ⟨S, c, f, e⟩ := flowing_run (h := h) (u := namesW ls) (ls := ls) rfl hs hw (by omega)
  obtain ⟨g1, g2, g3⟩ := f.got
  have ck := check_things_run (h := h) (fun l hl => (hs l hl).1) hw (show ls.length ≤ 1000 by omega)
  have sl : S.length < 64 := by
    have h1 := g1.length_eq
    have h2 := @names_len (got w ls)
    rw [got_len] at h2
    omega
  obtain ⟨zs2, hz2, ss⟩ := sorted_run (S := S) (c := c) sl
  have s1 := fun h => ss true h
  have s2 := fun h => ss false h
  refine ⟨S, zs2, c, f, hz2, ?_, ?_, ?_, ?_⟩
  · unfold f_tries b_tries
    simp only [r_run, List.map_cons, List.map_nil, List.length_cons, List.length_nil, List.replicate, List.cons_append, List.nil_append, List.append_nil, List.set_cons_zero, List.set_cons_succ, List.set_nil, Nat.sub_self, Nat.zero_add, Nat.reduceAdd, Nat.reduceSub, Nat.reduceEqDiff, Nat.reduceLeDiff, Res.bind_ok, ofO_some, T_ok, T_bind, if_true, if_false, Bool.false_eq_true, Bool.not_true, Bool.not_false, r_eK, r_eV0, r_eVs, r_e1, r_e2, r_e3, r_eL0, r_eLs, r_eF, r_eAnd, r_eOr, r_eNot, r_eIf, r_eTree, r_eLst, r_eTup, r_eDic, r_tN, r_tL0, r_tLs, r_tT, r_sNil, r_sPass, r_sE, r_sAsg, r_sRet, r_sRetN, r_sBrk, r_sCnt, r_sIf, r_sSet, r_sCons, r_sFor, r_eCall, r_l1, r_l2, r_l3, r_eM, r_eComp, r_eChain, andThen_nx, andThen_rt, andThen_bk, andThen_ct, hb_nx, hb_rt, fin_raw, fin_int, fin_bl, fin_str, fin_non, truthy_bl, truthy_non, truthy_int, add_int, sub_int, lt_int, le_int, gt_int, ge_int, is_non, isN_non, isNon_non, isNon_int, isNon_str, fiL_lst, fiL_tup, fiL_str, decide_true, decide_false, decide_eq_true_eq, lineW_eq, mkL_f, mkL_t, Nat.reduceLeDiff, ix_tup3_0, ix_tup3_1, ix_tup3_2, ix_tup2_0, ix_tup2_1, sl_tup3_1, r_forG0, r_forGs, nextF_nx, nextF_ct, nextF_bk, nextF_rt, nW_none, nW_some, Option.isNone_none, Option.isNone_some, ck, e, ix_tup2_0, sumV_run, g3]
  · unfold f_refused b_refused
    simp only [r_run, List.map_cons, List.map_nil, List.length_cons, List.length_nil, List.replicate, List.cons_append, List.nil_append, List.append_nil, List.set_cons_zero, List.set_cons_succ, List.set_nil, Nat.sub_self, Nat.zero_add, Nat.reduceAdd, Nat.reduceSub, Nat.reduceEqDiff, Nat.reduceLeDiff, Res.bind_ok, ofO_some, T_ok, T_bind, if_true, if_false, Bool.false_eq_true, Bool.not_true, Bool.not_false, r_eK, r_eV0, r_eVs, r_e1, r_e2, r_e3, r_eL0, r_eLs, r_eF, r_eAnd, r_eOr, r_eNot, r_eIf, r_eTree, r_eLst, r_eTup, r_eDic, r_tN, r_tL0, r_tLs, r_tT, r_sNil, r_sPass, r_sE, r_sAsg, r_sRet, r_sRetN, r_sBrk, r_sCnt, r_sIf, r_sSet, r_sCons, r_sFor, r_eCall, r_l1, r_l2, r_l3, r_eM, r_eComp, r_eChain, andThen_nx, andThen_rt, andThen_bk, andThen_ct, hb_nx, hb_rt, fin_raw, fin_int, fin_bl, fin_str, fin_non, truthy_bl, truthy_non, truthy_int, add_int, sub_int, lt_int, le_int, gt_int, ge_int, is_non, isN_non, isNon_non, isNon_int, isNon_str, fiL_lst, fiL_tup, fiL_str, decide_true, decide_false, decide_eq_true_eq, lineW_eq, mkL_f, mkL_t, Nat.reduceLeDiff, ix_tup3_0, ix_tup3_1, ix_tup3_2, ix_tup2_0, ix_tup2_1, sl_tup3_1, r_forG0, r_forGs, nextF_nx, nextF_ct, nextF_bk, nextF_rt, nW_none, nW_some, Option.isNone_none, Option.isNone_some, ck, e, ix_tup2_1, g2]
  · have ft := @fin_top h (.lst (zs2.map stW)) []
    rw [List.append_nil] at ft
    unfold f_taken b_taken
    simp only [r_run, List.map_cons, List.map_nil, List.length_cons, List.length_nil, List.replicate, List.cons_append, List.nil_append, List.append_nil, List.set_cons_zero, List.set_cons_succ, List.set_nil, Nat.sub_self, Nat.zero_add, Nat.reduceAdd, Nat.reduceSub, Nat.reduceEqDiff, Nat.reduceLeDiff, Res.bind_ok, ofO_some, T_ok, T_bind, if_true, if_false, Bool.false_eq_true, Bool.not_true, Bool.not_false, r_eK, r_eV0, r_eVs, r_e1, r_e2, r_e3, r_eL0, r_eLs, r_eF, r_eAnd, r_eOr, r_eNot, r_eIf, r_eTree, r_eLst, r_eTup, r_eDic, r_tN, r_tL0, r_tLs, r_tT, r_sNil, r_sPass, r_sE, r_sAsg, r_sRet, r_sRetN, r_sBrk, r_sCnt, r_sIf, r_sSet, r_sCons, r_sFor, r_eCall, r_l1, r_l2, r_l3, r_eM, r_eComp, r_eChain, andThen_nx, andThen_rt, andThen_bk, andThen_ct, hb_nx, hb_rt, fin_raw, fin_int, fin_bl, fin_str, fin_non, truthy_bl, truthy_non, truthy_int, add_int, sub_int, lt_int, le_int, gt_int, ge_int, is_non, isN_non, isNon_non, isNon_int, isNon_str, fiL_lst, fiL_tup, fiL_str, decide_true, decide_false, decide_eq_true_eq, lineW_eq, mkL_f, mkL_t, Nat.reduceLeDiff, ix_tup3_0, ix_tup3_1, ix_tup3_2, ix_tup2_0, ix_tup2_1, sl_tup3_1, r_forG0, r_forGs, nextF_nx, nextF_ct, nextF_bk, nextF_rt, nW_none, nW_some, Option.isNone_none, Option.isNone_some, ck, e, ix_tup2_0, s1, mkL_t (ws := zs2.map stW) (h := h) (nors_map fun _ _ => rfl) (by rw [List.length_map, hz2.length_eq]; exact Nat.le_of_lt (small_lt (by omega))), ft]
  · have ft := @fin_top h (.lst (zs2.map (rowW c))) []
    rw [List.append_nil] at ft
    have zl : zs2.length ≤ lineW := by rw [hz2.length_eq]; exact Nat.le_of_lt (small_lt (by omega))
    have cg : compG (fun _ => true) [3] (tN 3) none (eTup [eV 3, e2 pIx (eV 2) (eV 3)]) [some (namesW ls), some (wW w), some (.dic false (dkc S c)), none] (zs2.map stW) [] h = .ok (zs2.map (rowW c), h) := by
      rw [compG_pure (fun _ => true) (fun x => match x with | .str s => .tup [.str s, .int (c (sg s) : Int)] | _ => .non) none rfl ?_ (by rw [List.length_map]; show 0 + zs2.length ≤ lineW; omega)]
      · rw [List.filter_eq_self.mpr (fun _ _ => rfl), List.map_map]
        rfl
      · intro x hx
        obtain ⟨z, hz, rfl⟩ := List.mem_map.mp hx
        refine ⟨[some (namesW ls), some (wW w), some (.dic false (dkc S c)), some (stW z)], rfl, rfl, fun _ => ?_⟩
        have ix := ix_tree (h := h) (c := c) (hz2.mem_iff.mp hz)
        unfold stW
        simp only [r_run, List.map_cons, List.map_nil, List.length_cons, List.length_nil, List.replicate, List.cons_append, List.nil_append, List.append_nil, List.set_cons_zero, List.set_cons_succ, List.set_nil, Nat.sub_self, Nat.zero_add, Nat.reduceAdd, Nat.reduceSub, Nat.reduceEqDiff, Nat.reduceLeDiff, Res.bind_ok, ofO_some, T_ok, T_bind, if_true, if_false, Bool.false_eq_true, Bool.not_true, Bool.not_false, r_eK, r_eV0, r_eVs, r_e1, r_e2, r_e3, r_eL0, r_eLs, r_eF, r_eAnd, r_eOr, r_eNot, r_eIf, r_eTree, r_eLst, r_eTup, r_eDic, r_tN, r_tL0, r_tLs, r_tT, r_sNil, r_sPass, r_sE, r_sAsg, r_sRet, r_sRetN, r_sBrk, r_sCnt, r_sIf, r_sSet, r_sCons, r_sFor, r_eCall, r_l1, r_l2, r_l3, r_eM, r_eComp, r_eChain, andThen_nx, andThen_rt, andThen_bk, andThen_ct, hb_nx, hb_rt, fin_raw, fin_int, fin_bl, fin_str, fin_non, truthy_bl, truthy_non, truthy_int, add_int, sub_int, lt_int, le_int, gt_int, ge_int, is_non, isN_non, isNon_non, isNon_int, isNon_str, fiL_lst, fiL_tup, fiL_str, decide_true, decide_false, decide_eq_true_eq, lineW_eq, mkL_f, mkL_t, Nat.reduceLeDiff, ix_tup3_0, ix_tup3_1, ix_tup3_2, ix_tup2_0, ix_tup2_1, sl_tup3_1, r_forG0, r_forGs, nextF_nx, nextF_ct, nextF_bk, nextF_rt, nW_none, nW_some, Option.isNone_none, Option.isNone_some, ix, len2_le]
        rfl
    unfold f_flow b_flow
    simp only [r_run, List.map_cons, List.map_nil, List.length_cons, List.length_nil, List.replicate, List.cons_append, List.nil_append, List.append_nil, List.set_cons_zero, List.set_cons_succ, List.set_nil, Nat.sub_self, Nat.zero_add, Nat.reduceAdd, Nat.reduceSub, Nat.reduceEqDiff, Nat.reduceLeDiff, Res.bind_ok, ofO_some, T_ok, T_bind, if_true, if_false, Bool.false_eq_true, Bool.not_true, Bool.not_false, r_eK, r_eV0, r_eVs, r_e1, r_e2, r_e3, r_eL0, r_eLs, r_eF, r_eAnd, r_eOr, r_eNot, r_eIf, r_eTree, r_eLst, r_eTup, r_eDic, r_tN, r_tL0, r_tLs, r_tT, r_sNil, r_sPass, r_sE, r_sAsg, r_sRet, r_sRetN, r_sBrk, r_sCnt, r_sIf, r_sSet, r_sCons, r_sFor, r_eCall, r_l1, r_l2, r_l3, r_eM, r_eComp, r_eChain, andThen_nx, andThen_rt, andThen_bk, andThen_ct, hb_nx, hb_rt, fin_raw, fin_int, fin_bl, fin_str, fin_non, truthy_bl, truthy_non, truthy_int, add_int, sub_int, lt_int, le_int, gt_int, ge_int, is_non, isN_non, isNon_non, isNon_int, isNon_str, fiL_lst, fiL_tup, fiL_str, decide_true, decide_false, decide_eq_true_eq, lineW_eq, mkL_f, mkL_t, Nat.reduceLeDiff, ix_tup3_0, ix_tup3_1, ix_tup3_2, ix_tup2_0, ix_tup2_1, sl_tup3_1, r_forG0, r_forGs, nextF_nx, nextF_ct, nextF_bk, nextF_rt, nW_none, nW_some, Option.isNone_none, Option.isNone_some, ck, e, ix_tup2_0, s2, mkL_f (ws := zs2.map stW) (h := h) (by rw [List.length_map]; exact zl), cg, mkL_t (ws := zs2.map (rowW c)) (h := h) (nors_map fun _ _ => rfl) (by rw [List.length_map]; exact zl), ft]
end
end Ti


/-! Ti: names by base and number. -/
namespace Ti
open PySem Pr
/-- the forms of a name -/
def bs (x : Nm) (i : Nat) : Nm := if i = 0 then x else x ++ numL (i + 1)
section
variable {h : Hh} {G ls zs : List Nm} {x y : Nm} {i j k : Nat} {w : Option Nat}
theorem bs_zero : bs x 0 = x := rfl
theorem bs_succ : bs x (i + 1) = x ++ numL (i + 2) := if_neg (by omega)
theorem bs_inj (e : bs x i = bs x j) : i = j := by
  cases i with
  | zero =>
    cases j with
    | zero => rfl
    | succ j =>
      rw [bs_zero, bs_succ] at e
      have := congrArg List.length e
      rw [List.length_append] at this
      exact absurd (List.length_eq_zero_iff.mp (show (numL (j + 2)).length = 0 by omega)) numL_ne
  | succ i =>
    cases j with
    | zero =>
      rw [bs_zero, bs_succ] at e
      have := congrArg List.length e
      rw [List.length_append] at this
      exact absurd (List.length_eq_zero_iff.mp (show (numL (i + 2)).length = 0 by omega)) numL_ne
    | succ j =>
      rw [bs_succ, bs_succ] at e
      have := numL_inj (List.append_cancel_left e)
      omega
open Classical in
noncomputable def bcnt (G : List Nm) (x : Nm) (i : Nat) : Nat := (G.filter fun g => decide (∃ j, i ≤ j ∧ g = bs x j)).length
open Classical in
theorem bcnt_lt (hy : bs x i ∈ G) : bcnt G x (i + 1) < bcnt G x i := by
  unfold bcnt
  refine filter_len_lt (p := fun g => decide (∃ j, i + 1 ≤ j ∧ g = bs x j)) (q := fun g => decide (∃ j, i ≤ j ∧ g = bs x j)) (x := bs x i) (fun a h => ?_) (decide_eq_true ⟨i, Nat.le_refl _, rfl⟩) (decide_eq_false ?_) hy
  · obtain ⟨j, h1, h2⟩ := of_decide_eq_true h
    exact decide_eq_true ⟨j, by omega, h2⟩
  · rintro ⟨j, h1, h2⟩
    have := bs_inj h2
    omega
theorem bcnt_le : bcnt G x i ≤ G.length := by
  unfold bcnt
  exact List.length_filter_le _ _
/-- the first form that is free -/
structure BF (G : List Nm) (x : Nm) (i : Nat) : Prop where
  out : bs x i ∉ G
  before : ∀ j, j < i → bs x j ∈ G
  le : i ≤ G.length
theorem BF.unique (a : BF G x i) (b : BF G x j) : i = j := by
  rcases Nat.lt_trichotomy i j with h | h | h
  · exact absurd (b.before i h) a.out
  · exact h
  · exact absurd (a.before j h) b.out
/-- one after another -/
inductive BaseL : List Nm → List Nm → Prop
  | nil : BaseL [] []
  | snoc {ls zs : List Nm} {x : Nm} {i : Nat} : BaseL ls zs → BF zs x i → BaseL (ls ++ [x]) (zs ++ [bs x i])
theorem BaseL.len (b : BaseL ls zs) : zs.length = ls.length := by
  induction b with
  | nil => rfl
  | snoc _ _ ih => rw [List.length_append, List.length_append, ih]; rfl
theorem bs_nam (hx : Nam none x ∧ x.length ≤ 100) (hi : i ≤ 1000) : Nam none (bs x i) ∧ (bs x i).length ≤ 110 := by
  cases i with
  | zero => exact ⟨hx.1, by have := hx.2; show x.length ≤ 110; omega⟩
  | succ i =>
    rw [bs_succ]
    have l1 : (numL (i + 2)).length ≤ 10 := numL_len (by decide) (Nat.lt_of_le_of_lt (show i + 2 ≤ 1001 by omega) (by decide))
    have l2 : (x ++ numL (i + 2)).length ≤ 110 := by rw [List.length_append]; have := hx.2; omega
    refine ⟨⟨fun e => hx.1.ne (List.append_eq_nil_iff.mp e).1, fun c hc => ?_, by omega, fun k e => by cases e⟩, l2⟩
    rcases List.mem_append.mp hc with hc | hc
    · exact hx.1.sg c hc
    · exact dig_sign (numL_digs c hc)
theorem names_some : names (G.map some) = G := by
  induction G with
  | nil => rfl
  | cons a G ih =>
    rw [List.map_cons, names_cons, ih]
    rfl
theorem in_stW {g : Nat} (hG : ∀ l ∈ G, strFine (mkS l) = true) (hy : strFine (mkS y) = true) (e : h[g]? = some (.lst (G.map stW))) : pIn (.str (mkS y)) (.ref g) h = .ok (.bl (decide (y ∈ G)), h) := by
  have := in_nW (h := h) (g := g) (os := G.map some) (y := y) (fun o ho l el => by
    obtain ⟨a, ha, rfl⟩ := List.mem_map.mp ho
    cases el
    exact hG _ ha) hy (by rw [e, List.map_map]; rfl)
  rw [names_some] at this
  exact this
theorem hand_out_base_run (hs : ∀ l ∈ ls, Nam none l ∧ l.length ≤ 100) (hl : ls.length ≤ 900) : ∃ zs, BaseL ls zs ∧ (∀ z ∈ zs, Nam none z ∧ z.length ≤ 110) ∧ f_hand_out_base [namesW ls] h = .ok (.ref h.length, h ++ [.lst (zs.map stW)]) := by
  suffices q : T (f_hand_out_base [namesW ls] h) fun r => ∃ zs, BaseL ls zs ∧ (∀ z ∈ zs, Nam none z ∧ z.length ≤ 110) ∧ r = (.ref h.length, h ++ [.lst (zs.map stW)]) by
    obtain ⟨r, e, zs, h1, h2, rfl⟩ := q
    exact ⟨zs, h1, h2, e⟩
  have ck := check_names_run (h := h) (fun l hl => (hs l hl).1) (show ls.length ≤ 1000 by omega)
  unfold namesW at ck ⊢
  unfold f_hand_out_base b_hand_out_base
  simp only [r_run, List.map_cons, List.map_nil, List.length_cons, List.length_nil, List.replicate, List.cons_append, List.nil_append, List.append_nil, List.set_cons_zero, List.set_cons_succ, List.set_nil, Nat.sub_self, Nat.zero_add, Nat.reduceAdd, Nat.reduceSub, Nat.reduceEqDiff, Nat.reduceLeDiff, Res.bind_ok, ofO_some, T_ok, T_bind, if_true, if_false, Bool.false_eq_true, Bool.not_true, Bool.not_false, r_eK, r_eV0, r_eVs, r_e1, r_e2, r_e3, r_eL0, r_eLs, r_eF, r_eAnd, r_eOr, r_eNot, r_eIf, r_eTree, r_eLst, r_eTup, r_eDic, r_tN, r_tL0, r_tLs, r_tT, r_sNil, r_sPass, r_sE, r_sAsg, r_sRet, r_sRetN, r_sBrk, r_sCnt, r_sIf, r_sSet, r_sCons, r_sFor, r_eCall, r_l1, r_l2, r_l3, r_eM, r_eComp, r_eChain, andThen_nx, andThen_rt, andThen_bk, andThen_ct, hb_nx, hb_rt, fin_raw, fin_int, fin_bl, fin_str, fin_non, truthy_bl, truthy_non, truthy_int, add_int, sub_int, lt_int, le_int, gt_int, ge_int, is_non, isN_non, isNon_non, isNon_int, isNon_str, fiL_lst, fiL_tup, fiL_str, decide_true, decide_false, decide_eq_true_eq, lineW_eq, mkL_f, mkL_t, Nat.reduceLeDiff, ix_tup3_0, ix_tup3_1, ix_tup3_2, ix_tup2_0, ix_tup2_1, sl_tup3_1, r_forG0, r_forGs, nextF_nx, nextF_ct, nextF_bk, nextF_rt, nW_none, nW_some, Option.isNone_none, Option.isNone_some, ck, mkL_t (ws := []) (h := h) rfl (by decide)]
  refine T.mono (T_for (Q := fun q => ∃ (zs : List Nm) (a b c : Option W), BaseL ls zs ∧ (∀ z ∈ zs, Nam none z ∧ z.length ≤ 110) ∧ q = (.nx, [some (.lst (ls.map stW)), some (.ref h.length), a, b, c], h ++ [.lst (zs.map stW)]))
    (fun j ρ h' => ∃ (zs : List Nm) (a b c : Option W), BaseL (ls.take j) zs ∧ (∀ z ∈ zs, Nam none z ∧ z.length ≤ 110) ∧ ρ = [some (.lst (ls.map stW)), some (.ref h.length), a, b, c] ∧ h' = h ++ [.lst (zs.map stW)])
    ⟨[], none, none, none, .nil, fun z h => (nomatch h), rfl, rfl⟩ ?_ ?_) ?_
  · rintro j x ρ _ hj ⟨zs, a, b, c, bl, hz, rfl, rfl⟩
    have hx := hs x (mem_get hj)
    have jl : j < ls.length := (List.getElem?_eq_some_iff.mp hj).1
    have zl : zs.length ≤ 900 := by rw [bl.len, List.length_take]; omega
    have hfine : ∀ l ∈ zs, strFine (mkS l) = true := fun l hl => (hz l hl).1.fine
    unfold stW
    simp only [r_run, List.map_cons, List.map_nil, List.length_cons, List.length_nil, List.replicate, List.cons_append, List.nil_append, List.append_nil, List.set_cons_zero, List.set_cons_succ, List.set_nil, Nat.sub_self, Nat.zero_add, Nat.reduceAdd, Nat.reduceSub, Nat.reduceEqDiff, Nat.reduceLeDiff, Res.bind_ok, ofO_some, T_ok, T_bind, if_true, if_false, Bool.false_eq_true, Bool.not_true, Bool.not_false, r_eK, r_eV0, r_eVs, r_e1, r_e2, r_e3, r_eL0, r_eLs, r_eF, r_eAnd, r_eOr, r_eNot, r_eIf, r_eTree, r_eLst, r_eTup, r_eDic, r_tN, r_tL0, r_tLs, r_tT, r_sNil, r_sPass, r_sE, r_sAsg, r_sRet, r_sRetN, r_sBrk, r_sCnt, r_sIf, r_sSet, r_sCons, r_sFor, r_eCall, r_l1, r_l2, r_l3, r_eM, r_eComp, r_eChain, andThen_nx, andThen_rt, andThen_bk, andThen_ct, hb_nx, hb_rt, fin_raw, fin_int, fin_bl, fin_str, fin_non, truthy_bl, truthy_non, truthy_int, add_int, sub_int, lt_int, le_int, gt_int, ge_int, is_non, isN_non, isNon_non, isNon_int, isNon_str, fiL_lst, fiL_tup, fiL_str, decide_true, decide_false, decide_eq_true_eq, lineW_eq, mkL_f, mkL_t, Nat.reduceLeDiff, ix_tup3_0, ix_tup3_1, ix_tup3_2, ix_tup2_0, ix_tup2_1, sl_tup3_1, r_forG0, r_forGs, nextF_nx, nextF_ct, nextF_bk, nextF_rt, nW_none, nW_some, Option.isNone_none, Option.isNone_some, len2_le]
    refine T.mono (T_while (Q := fun q => ∃ i, BF zs x i ∧ q = (.nx, [some (.lst (ls.map stW)), some (.ref h.length), some (.str (mkS x)), some (.str (mkS (bs x i))), some (.int ((i + 1 : Nat) : Int))], h ++ [.lst (zs.map stW)]))
      (fun n ρ h' => ∃ i, n = bcnt zs x i ∧ n + i ≤ zs.length ∧ (∀ j, j < i → bs x j ∈ zs) ∧ ρ = [some (.lst (ls.map stW)), some (.ref h.length), some (.str (mkS x)), some (.str (mkS (bs x i))), some (.int ((i + 1 : Nat) : Int))] ∧ h' = h ++ [.lst (zs.map stW)])
      (n := bcnt zs x 0) (Nat.lt_of_le_of_lt (Nat.le_trans bcnt_le zl) (by decide)) ⟨0, rfl, bcnt_le, fun j hj => absurd hj (Nat.not_lt_zero j), rfl, rfl⟩ ?_) ?_
    · rintro n ρ _ ⟨i, rfl, hn, hb, rfl, rfl⟩
      have bn := bs_nam (i := i) hx (by omega)
      simp only [r_run, List.map_cons, List.map_nil, List.length_cons, List.length_nil, List.replicate, List.cons_append, List.nil_append, List.append_nil, List.set_cons_zero, List.set_cons_succ, List.set_nil, Nat.sub_self, Nat.zero_add, Nat.reduceAdd, Nat.reduceSub, Nat.reduceEqDiff, Nat.reduceLeDiff, Res.bind_ok, ofO_some, T_ok, T_bind, if_true, if_false, Bool.false_eq_true, Bool.not_true, Bool.not_false, r_eK, r_eV0, r_eVs, r_e1, r_e2, r_e3, r_eL0, r_eLs, r_eF, r_eAnd, r_eOr, r_eNot, r_eIf, r_eTree, r_eLst, r_eTup, r_eDic, r_tN, r_tL0, r_tLs, r_tT, r_sNil, r_sPass, r_sE, r_sAsg, r_sRet, r_sRetN, r_sBrk, r_sCnt, r_sIf, r_sSet, r_sCons, r_sFor, r_eCall, r_l1, r_l2, r_l3, r_eM, r_eComp, r_eChain, andThen_nx, andThen_rt, andThen_bk, andThen_ct, hb_nx, hb_rt, fin_raw, fin_int, fin_bl, fin_str, fin_non, truthy_bl, truthy_non, truthy_int, add_int, sub_int, lt_int, le_int, gt_int, ge_int, is_non, isN_non, isNon_non, isNon_int, isNon_str, fiL_lst, fiL_tup, fiL_str, decide_true, decide_false, decide_eq_true_eq, lineW_eq, mkL_f, mkL_t, Nat.reduceLeDiff, ix_tup3_0, ix_tup3_1, ix_tup3_2, ix_tup2_0, ix_tup2_1, sl_tup3_1, r_forG0, r_forGs, nextF_nx, nextF_ct, nextF_bk, nextF_rt, nW_none, nW_some, Option.isNone_none, Option.isNone_some, in_stW (g := h.length) hfine bn.1.fine new_at]
      refine ⟨_, rfl, ?_⟩
      by_cases hm : bs x i ∈ zs
      · rw [if_pos (decide_eq_true hm)]
        have lt := bcnt_lt hm
        have ei : ((i + 1 : Nat) : Int) + 1 = ((i + 2 : Nat) : Int) := by omega
        have l1 : (numL (i + 2)).length ≤ 10 := numL_len (by decide) (Nat.lt_of_le_of_lt (show i + 2 ≤ 1001 by omega) (by decide))
        simp only [r_run, List.map_cons, List.map_nil, List.length_cons, List.length_nil, List.replicate, List.cons_append, List.nil_append, List.append_nil, List.set_cons_zero, List.set_cons_succ, List.set_nil, Nat.sub_self, Nat.zero_add, Nat.reduceAdd, Nat.reduceSub, Nat.reduceEqDiff, Nat.reduceLeDiff, Res.bind_ok, ofO_some, T_ok, T_bind, if_true, if_false, Bool.false_eq_true, Bool.not_true, Bool.not_false, r_eK, r_eV0, r_eVs, r_e1, r_e2, r_e3, r_eL0, r_eLs, r_eF, r_eAnd, r_eOr, r_eNot, r_eIf, r_eTree, r_eLst, r_eTup, r_eDic, r_tN, r_tL0, r_tLs, r_tT, r_sNil, r_sPass, r_sE, r_sAsg, r_sRet, r_sRetN, r_sBrk, r_sCnt, r_sIf, r_sSet, r_sCons, r_sFor, r_eCall, r_l1, r_l2, r_l3, r_eM, r_eComp, r_eChain, andThen_nx, andThen_rt, andThen_bk, andThen_ct, hb_nx, hb_rt, fin_raw, fin_int, fin_bl, fin_str, fin_non, truthy_bl, truthy_non, truthy_int, add_int, sub_int, lt_int, le_int, gt_int, ge_int, is_non, isN_non, isNon_non, isNon_int, isNon_str, fiL_lst, fiL_tup, fiL_str, decide_true, decide_false, decide_eq_true_eq, lineW_eq, mkL_f, mkL_t, Nat.reduceLeDiff, ix_tup3_0, ix_tup3_1, ix_tup3_2, ix_tup2_0, ix_tup2_1, sl_tup3_1, r_forG0, r_forGs, nextF_nx, nextF_ct, nextF_bk, nextF_rt, nW_none, nW_some, Option.isNone_none, Option.isNone_some, ei, str_int (h := h ++ [.lst (zs.map stW)]) (n := i + 2) (k := 10) (Nat.lt_of_le_of_lt (show i + 2 ≤ 1001 by omega) (by decide)) (by omega), add_str (h := h ++ [.lst (zs.map stW)]) (k := false) (a := x) (b := numL (i + 2)) (by have := hx.2; omega)]
        refine ⟨bcnt zs x (i + 1), lt, i + 1, rfl, by omega, fun j hj => ?_, ?_, trivial⟩
        · by_cases q : j = i
          · rw [q]; exact hm
          · exact hb j (by omega)
        · rw [bs_succ]
      · rw [if_neg (by rw [decide_eq_false hm]; decide)]
        exact ⟨i, ⟨hm, hb, by omega⟩, rfl⟩
    · rintro _ ⟨i, bf, rfl⟩
      have bn := bs_nam (i := i) hx (by have := bf.le; omega)
      simp only [r_run, List.map_cons, List.map_nil, List.length_cons, List.length_nil, List.replicate, List.cons_append, List.nil_append, List.append_nil, List.set_cons_zero, List.set_cons_succ, List.set_nil, Nat.sub_self, Nat.zero_add, Nat.reduceAdd, Nat.reduceSub, Nat.reduceEqDiff, Nat.reduceLeDiff, Res.bind_ok, ofO_some, T_ok, T_bind, if_true, if_false, Bool.false_eq_true, Bool.not_true, Bool.not_false, r_eK, r_eV0, r_eVs, r_e1, r_e2, r_e3, r_eL0, r_eLs, r_eF, r_eAnd, r_eOr, r_eNot, r_eIf, r_eTree, r_eLst, r_eTup, r_eDic, r_tN, r_tL0, r_tLs, r_tT, r_sNil, r_sPass, r_sE, r_sAsg, r_sRet, r_sRetN, r_sBrk, r_sCnt, r_sIf, r_sSet, r_sCons, r_sFor, r_eCall, r_l1, r_l2, r_l3, r_eM, r_eComp, r_eChain, andThen_nx, andThen_rt, andThen_bk, andThen_ct, hb_nx, hb_rt, fin_raw, fin_int, fin_bl, fin_str, fin_non, truthy_bl, truthy_non, truthy_int, add_int, sub_int, lt_int, le_int, gt_int, ge_int, is_non, isN_non, isNon_non, isNon_int, isNon_str, fiL_lst, fiL_tup, fiL_str, decide_true, decide_false, decide_eq_true_eq, lineW_eq, mkL_f, mkL_t, Nat.reduceLeDiff, ix_tup3_0, ix_tup3_1, ix_tup3_2, ix_tup2_0, ix_tup2_1, sl_tup3_1, r_forG0, r_forGs, nextF_nx, nextF_ct, nextF_bk, nextF_rt, nW_none, nW_some, Option.isNone_none, Option.isNone_some, isL_new, app_new (h := h) (ws := zs.map stW) (y := .str (mkS (bs x i))) rfl (small_lt (by rw [List.length_map]; omega))]
      refine ⟨zs ++ [bs x i], _, _, _, by rw [take_snoc hj]; exact bl.snoc bf, fun z hz' => ?_, rfl, by rw [List.map_append]; rfl⟩
      rcases List.mem_append.mp hz' with hz' | hz'
      · exact hz z hz'
      · rw [List.mem_singleton.mp hz']; exact bn
  · rintro ρ _ ⟨zs, a, b, c, bl, hz, rfl, rfl⟩
    rw [List.take_length] at bl
    exact ⟨zs, a, b, c, bl, hz, rfl⟩
  · rintro _ ⟨zs, a, b, c, bl, hz, rfl⟩
    have ft := @fin_top h (.lst (zs.map stW)) []
    rw [List.append_nil] at ft
    simp only [r_run, List.map_cons, List.map_nil, List.length_cons, List.length_nil, List.replicate, List.cons_append, List.nil_append, List.append_nil, List.set_cons_zero, List.set_cons_succ, List.set_nil, Nat.sub_self, Nat.zero_add, Nat.reduceAdd, Nat.reduceSub, Nat.reduceEqDiff, Nat.reduceLeDiff, Res.bind_ok, ofO_some, T_ok, T_bind, if_true, if_false, Bool.false_eq_true, Bool.not_true, Bool.not_false, r_eK, r_eV0, r_eVs, r_e1, r_e2, r_e3, r_eL0, r_eLs, r_eF, r_eAnd, r_eOr, r_eNot, r_eIf, r_eTree, r_eLst, r_eTup, r_eDic, r_tN, r_tL0, r_tLs, r_tT, r_sNil, r_sPass, r_sE, r_sAsg, r_sRet, r_sRetN, r_sBrk, r_sCnt, r_sIf, r_sSet, r_sCons, r_sFor, r_eCall, r_l1, r_l2, r_l3, r_eM, r_eComp, r_eChain, andThen_nx, andThen_rt, andThen_bk, andThen_ct, hb_nx, hb_rt, fin_raw, fin_int, fin_bl, fin_str, fin_non, truthy_bl, truthy_non, truthy_int, add_int, sub_int, lt_int, le_int, gt_int, ge_int, is_non, isN_non, isNon_non, isNon_int, isNon_str, fiL_lst, fiL_tup, fiL_str, decide_true, decide_false, decide_eq_true_eq, lineW_eq, mkL_f, mkL_t, Nat.reduceLeDiff, ix_tup3_0, ix_tup3_1, ix_tup3_2, ix_tup2_0, ix_tup2_1, sl_tup3_1, r_forG0, r_forGs, nextF_nx, nextF_ct, nextF_bk, nextF_rt, nW_none, nW_some, Option.isNone_none, Option.isNone_some, ft]
    exact ⟨zs, bl, hz, rfl⟩
end
end Ti


/-! law k16: what it computes. -/
namespace Bd
open PySem PySem.Spec Ti Ti.Pr
section
variable {h : Hh} {w : Option Nat} {ls : List Nm}
theorem r_eKw {f : Fn} {n m : Nat} {ix : List Nat} {es : List DE} {ρ : Ti.Env} : eKw f n m ix es ρ h = (eL es ρ h).bind fun p => if ix.length = n ∧ p.1.length = m then f (permW ix p.1) p.2 else .bad := rfl
theorem few_run {ns : List Int} {k : Nat} (hk : 1 ≤ k) (hk2 : k ≤ 900) : ∃ n : Nat, n ≤ k ∧ ((pSl false false true (.scr ns) .non (.int (k : Int)) h).bind fun p => pLen p.1 p.2) = .ok (.int (min k ns.length : Nat), h) ∧ pMax (.int 1) (.int (min k ns.length : Nat)) h = .ok (.int (n : Int), h) := by
  refine ⟨max 1 (min k ns.length), by omega, ?_, ?_⟩
  · have e1 : pSl false false true (.scr ns) .non (.int (k : Int)) h = .ok (.lst ((ns.take k).map W.int), h) := by
      show mkL false ((cutL ns none (some (k : Int))).map .int) h = _
      rw [cut_to]
      exact mkL_f (by rw [List.length_map, List.length_take]; exact Nat.le_trans (Nat.min_le_left _ _) (Nat.le_trans hk2 (by decide)))
    rw [e1, Res.bind_ok, len_lst, List.length_map, List.length_take]
  · rw [max_int]
    congr 3
    split <;> omega
theorem law_ok (ns : List Int) : f_law [.scr ns] [] = .ok (.bl true, []) := by
  apply T.eq
  obtain ⟨n, hn, e1, e2⟩ := few_run (h := []) (ns := ns) (k := 20) (by omega) (by omega)
  obtain ⟨p, ep, eq⟩ := (show ∃ p, pSl false false true (.scr ns) .non (.int ((20 : Nat) : Int)) [] = .ok p ∧ pLen p.1 p.2 = .ok (.int (min 20 ns.length : Nat), []) from by
    cases hp : pSl false false true (.scr ns) .non (.int ((20 : Nat) : Int)) [] with
    | ok p => rw [hp, Res.bind_ok] at e1; exact ⟨p, rfl, e1⟩
    | bad => rw [hp] at e1; cases e1
    | exc _ _ => rw [hp] at e1; cases e1)
  have ep : pSl false false true (.scr ns) .non (.int 20) [] = .ok p := ep
  unfold f_law b_law
  simp only [r_run, List.map_cons, List.map_nil, List.length_cons, List.length_nil, List.replicate, List.cons_append, List.nil_append, List.append_nil, List.set_cons_zero, List.set_cons_succ, List.set_nil, Nat.sub_self, Nat.zero_add, Nat.reduceAdd, Nat.reduceSub, Nat.reduceEqDiff, Nat.reduceLeDiff, Res.bind_ok, ofO_some, T_ok, T_bind, if_true, if_false, Bool.false_eq_true, Bool.not_true, Bool.not_false, r_eK, r_eV0, r_eVs, r_e1, r_e2, r_e3, r_eL0, r_eLs, r_eF, r_eAnd, r_eOr, r_eNot, r_eIf, r_eTree, r_eLst, r_eTup, r_eDic, r_tN, r_tL0, r_tLs, r_tT, r_sNil, r_sPass, r_sE, r_sAsg, r_sRet, r_sRetN, r_sBrk, r_sCnt, r_sIf, r_sSet, r_sCons, r_sFor, r_eCall, r_l1, r_l2, r_l3, r_eM, r_eComp, r_eChain, andThen_nx, andThen_rt, andThen_bk, andThen_ct, hb_nx, hb_rt, fin_raw, fin_int, fin_bl, fin_str, fin_non, truthy_bl, truthy_non, truthy_int, add_int, sub_int, lt_int, le_int, gt_int, ge_int, is_non, isN_non, isNon_non, isNon_int, isNon_str, fiL_lst, fiL_tup, fiL_str, decide_true, decide_false, decide_eq_true_eq, lineW_eq, mkL_f, mkL_t, Nat.reduceLeDiff, ix_tup3_0, ix_tup3_1, ix_tup3_2, ix_tup2_0, ix_tup2_1, sl_tup3_1, r_forG0, r_forGs, nextF_nx, nextF_ct, nextF_bk, nextF_rt, nW_none, nW_some, Option.isNone_none, Option.isNone_some, ep, eq, e2, range_nat (h := []) (n := n) (by omega)]
  refine T.mono (T_range (Q := fun q => ∃ ρ h, q = (.nx, ρ, h)) (fun j ρ h => ∃ a b c d : Option W, ρ = [some (.scr ns), a, b, c, d]) ⟨none, none, none, none, rfl⟩ ?_ ?_) ?_
  · rintro j ρ h hj ⟨a, b, c, d, rfl⟩
    obtain ⟨p, po, ep⟩ := purseB_ok (ns := ns) (j := j) (h := h) (by omega)
    have s0 : Psb (h ++ [p.cell]) h.length 900000 (h ++ [p.cell]) := ⟨by rw [List.length_append, List.length_singleton]; omega, p, po, new_set.symm⟩
    have e8 : (8 : Int) = ((8 : Nat) : Int) := rfl
    simp only [r_run, List.map_cons, List.map_nil, List.length_cons, List.length_nil, List.replicate, List.cons_append, List.nil_append, List.append_nil, List.set_cons_zero, List.set_cons_succ, List.set_nil, Nat.sub_self, Nat.zero_add, Nat.reduceAdd, Nat.reduceSub, Nat.reduceEqDiff, Nat.reduceLeDiff, Res.bind_ok, ofO_some, T_ok, T_bind, if_true, if_false, Bool.false_eq_true, Bool.not_true, Bool.not_false, r_eK, r_eV0, r_eVs, r_e1, r_e2, r_e3, r_eL0, r_eLs, r_eF, r_eAnd, r_eOr, r_eNot, r_eIf, r_eTree, r_eLst, r_eTup, r_eDic, r_tN, r_tL0, r_tLs, r_tT, r_sNil, r_sPass, r_sE, r_sAsg, r_sRet, r_sRetN, r_sBrk, r_sCnt, r_sIf, r_sSet, r_sCons, r_sFor, r_eCall, r_l1, r_l2, r_l3, r_eM, r_eComp, r_eChain, andThen_nx, andThen_rt, andThen_bk, andThen_ct, hb_nx, hb_rt, fin_raw, fin_int, fin_bl, fin_str, fin_non, truthy_bl, truthy_non, truthy_int, add_int, sub_int, lt_int, le_int, gt_int, ge_int, is_non, isN_non, isNon_non, isNon_int, isNon_str, fiL_lst, fiL_tup, fiL_str, decide_true, decide_false, decide_eq_true_eq, lineW_eq, mkL_f, mkL_t, Nat.reduceLeDiff, ix_tup3_0, ix_tup3_1, ix_tup3_2, ix_tup2_0, ix_tup2_1, sl_tup3_1, r_forG0, r_forGs, nextF_nx, nextF_ct, nextF_bk, nextF_rt, nW_none, nW_some, Option.isNone_none, Option.isNone_some, ep, e8]
    refine T.mono (T_thingsB s0 (by omega) (by omega)) ?_
    rintro _ ⟨ls, w, h2, rfl, hw, hl, hs, s2⟩
    have hs1 : ∀ l ∈ ls, Nam w l ∧ l.length ≤ 100 := fun l hl => ⟨(hs l hl).1, by have := (hs l hl).2; omega⟩
    have hs0 : ∀ l ∈ ls, Nam none l ∧ l.length ≤ 100 := fun l hl => ⟨⟨(hs l hl).1.ne, (hs l hl).1.sg, (hs l hl).1.len, fun k e => by cases e⟩, by have := (hs l hl).2; omega⟩
    have hw0 : WdO none := fun k e => by cases e
    have o1 := hand_out_run (h := h2) hs1 hw (by omega)
    have o2 := hand_out_run (h := h2) hs0 hw0 (by omega)
    have gd : ∀ {w : Option Nat}, WdO w → (∀ l ∈ ls, Nam w l ∧ l.length ≤ 100) → ∀ o ∈ got w ls, Cmp o := fun {w} hw hs o ho l e => (got_ok hw (n := ls.length) (xs := ls) (Nat.le_refl _) (by omega) hs o ho l e).1.fine
    have dg : ∀ {w : Option Nat}, WdO w → (∀ l ∈ ls, Nam w l ∧ l.length ≤ 100) → isDat 60 (look h2 (.lst ((got w ls).map nW))) = true := fun {w} hw hs => areDat_map fun o ho => isDat_nW (gd hw hs o ho)
    obtain ⟨S1, z1, c1, f1, p1, t1, r1, k1, w1⟩ := folder_run (h := h2) hs1 hw (by omega)
    obtain ⟨S2, z2, c2, f2, p2, t2, r2, k2, w2⟩ := folder_run (h := h2) hs0 hw0 (by omega)
    have fz : ∀ {w : Option Nat} {S zs : List Nm} {c : Nm → Nat}, WdO w → (∀ l ∈ ls, Nam w l ∧ l.length ≤ 100) → Flw w ls S c [] → zs.Perm S → ∀ z ∈ zs, strFine (mkS z) = true := fun {w S zs c} hw hs f hp z hz => gd hw hs (some z) (mem_names.mp (f.got.1.mem_iff.mp (hp.mem_iff.mp hz))) z rfl
    have dz : ∀ {w : Option Nat} {S zs : List Nm} {c : Nm → Nat}, WdO w → (∀ l ∈ ls, Nam w l ∧ l.length ≤ 100) → Flw w ls S c [] → zs.Perm S → isDat 60 (look h2 (.lst (zs.map stW))) = true := fun {w S zs c} hw hs f hp => areDat_map fun z hz => fz hw hs f hp z hz
    have dr : ∀ {w : Option Nat} {S zs : List Nm} {c : Nm → Nat}, WdO w → (∀ l ∈ ls, Nam w l ∧ l.length ≤ 100) → Flw w ls S c [] → zs.Perm S → isDat 60 (look h2 (.lst (zs.map (rowW c)))) = true := fun {w S zs c} hw hs f hp => areDat_map fun z hz => by
      show (strFine (mkS z) && (true && true)) = true
      rw [fz hw hs f hp z hz]
      rfl
    have di : ∀ n : Int, isDat 60 (look h2 (.int n)) = true := fun n => rfl
    obtain ⟨zb, b1, b2, b3⟩ := hand_out_base_run (h := h2) hs0 (by omega)
    have db : isDat 60 (look h2 (.lst (zb.map stW))) = true := areDat_map fun z hz => (b2 z hz).1.fine
    rw [wW_none] at o2 t2 r2 k2 w2
    have q1 : ∀ {a b : W}, permW [1, 0] [a, b] = [b, a] := rfl
    have q2 : ∀ {a : W}, permW [0, 1] [a] = [a, .non] := rfl
    have q3 : ∀ {a : W}, permW [0] [a] = [a] := rfl
    simp only [r_run, List.map_cons, List.map_nil, List.length_cons, List.length_nil, List.replicate, List.cons_append, List.nil_append, List.append_nil, List.set_cons_zero, List.set_cons_succ, List.set_nil, Nat.sub_self, Nat.zero_add, Nat.reduceAdd, Nat.reduceSub, Nat.reduceEqDiff, Nat.reduceLeDiff, Res.bind_ok, ofO_some, T_ok, T_bind, if_true, if_false, Bool.false_eq_true, Bool.not_true, Bool.not_false, r_eK, r_eV0, r_eVs, r_e1, r_e2, r_e3, r_eL0, r_eLs, r_eF, r_eAnd, r_eOr, r_eNot, r_eIf, r_eTree, r_eLst, r_eTup, r_eDic, r_tN, r_tL0, r_tLs, r_tT, r_sNil, r_sPass, r_sE, r_sAsg, r_sRet, r_sRetN, r_sBrk, r_sCnt, r_sIf, r_sSet, r_sCons, r_sFor, r_eCall, r_l1, r_l2, r_l3, r_eM, r_eComp, r_eChain, andThen_nx, andThen_rt, andThen_bk, andThen_ct, hb_nx, hb_rt, fin_raw, fin_int, fin_bl, fin_str, fin_non, truthy_bl, truthy_non, truthy_int, add_int, sub_int, lt_int, le_int, gt_int, ge_int, is_non, isN_non, isNon_non, isNon_int, isNon_str, fiL_lst, fiL_tup, fiL_str, decide_true, decide_false, decide_eq_true_eq, lineW_eq, mkL_f, mkL_t, Nat.reduceLeDiff, ix_tup3_0, ix_tup3_1, ix_tup3_2, ix_tup2_0, ix_tup2_1, sl_tup3_1, r_forG0, r_forGs, nextF_nx, nextF_ct, nextF_bk, nextF_rt, nW_none, nW_some, Option.isNone_none, Option.isNone_some, r_eKw, q1, q2, q3, and_self, o1, o2, fin_new_lst, dat_ne (dg hw hs1), dat_ne (dg hw0 hs0), t1, t2, r1, r2, k1, k2, w1, w2, dat_ne (dz hw hs1 f1 p1), dat_ne (dz hw0 hs0 f2 p2), dat_ne (dr hw hs1 f1 p1), dat_ne (dr hw0 hs0 f2 p2), dat_ne (di _), b3, dat_ne db]
    exact ⟨_, _, _, _, rfl⟩
  · rintro ρ h _
    exact ⟨ρ, h, rfl⟩
  · rintro _ ⟨ρ, h, rfl⟩
    simp only [r_run, List.map_cons, List.map_nil, List.length_cons, List.length_nil, List.replicate, List.cons_append, List.nil_append, List.append_nil, List.set_cons_zero, List.set_cons_succ, List.set_nil, Nat.sub_self, Nat.zero_add, Nat.reduceAdd, Nat.reduceSub, Nat.reduceEqDiff, Nat.reduceLeDiff, Res.bind_ok, ofO_some, T_ok, T_bind, if_true, if_false, Bool.false_eq_true, Bool.not_true, Bool.not_false, r_eK, r_eV0, r_eVs, r_e1, r_e2, r_e3, r_eL0, r_eLs, r_eF, r_eAnd, r_eOr, r_eNot, r_eIf, r_eTree, r_eLst, r_eTup, r_eDic, r_tN, r_tL0, r_tLs, r_tT, r_sNil, r_sPass, r_sE, r_sAsg, r_sRet, r_sRetN, r_sBrk, r_sCnt, r_sIf, r_sSet, r_sCons, r_sFor, r_eCall, r_l1, r_l2, r_l3, r_eM, r_eComp, r_eChain, andThen_nx, andThen_rt, andThen_bk, andThen_ct, hb_nx, hb_rt, fin_raw, fin_int, fin_bl, fin_str, fin_non, truthy_bl, truthy_non, truthy_int, add_int, sub_int, lt_int, le_int, gt_int, ge_int, is_non, isN_non, isNon_non, isNon_int, isNon_str, fiL_lst, fiL_tup, fiL_str, decide_true, decide_false, decide_eq_true_eq, lineW_eq, mkL_f, mkL_t, Nat.reduceLeDiff, ix_tup3_0, ix_tup3_1, ix_tup3_2, ix_tup2_0, ix_tup2_1, sl_tup3_1, r_forG0, r_forGs, nextF_nx, nextF_ct, nextF_bk, nextF_rt, nW_none, nW_some, Option.isNone_none, Option.isNone_some, fin_bl0]
end
end Bd


namespace Hd
open PySem PySem.Spec PyProof.Rows L2
def top (i : Nat) : Stmt := PySem.Challenge.pw_takennames_k16_folders_by_name.main.body.getD i (.Pass ⟨0, 0, 0, 0⟩)
def mkD (i : Nat) (x : Str) (ds : List He.Dv) : He.DefD := ⟨(x, none), x, x, defArgs (top i), defBody (top i), defScope (top i), ds, []⟩
def fn : List He.DefD := [mkD 7 "is_whole" [],
  mkD 8 "is_name" [],
  mkD 9 "are_names" [],
  mkD 10 "is_width" [],
  mkD 11 "fits" [],
  mkD 13 "check_names" [],
  mkD 14 "check_width" [],
  mkD 15 "check_fitting_names" [],
  mkD 16 "parts" [],
  mkD 17 "after" [],
  mkD 19 "check_things" [],
  mkD 20 "first_free" [],
  mkD 21 "handed" [],
  mkD 22 "flowing" [],
  mkD 23 "hand_out" [.non],
  mkD 24 "taken" [.non],
  mkD 25 "tries" [.non],
  mkD 26 "refused" [.non],
  mkD 27 "flow" [.non],
  mkD 28 "hand_out_base" [],
  mkD 30 "_law_purse" [],
  mkD 31 "_law_mixed" [],
  mkD 32 "_law_draw" [],
  mkD 33 "_law_text" [],
  mkD 34 "_law_stems" [],
  mkD 35 "_law_ending" [],
  mkD 36 "_law_wish" [],
  mkD 37 "_law_width" [],
  mkD 38 "_law_things" [],
  mkD 39 "law" []]
def fa : List He.Fa := [.str "DIGITS" "0123456789",
  .str "SIGNS" "-0123456789abcdefghijklmnopqrstuvwxyz",
  .glo "is_whole",
  .glo "is_name",
  .glo "are_names",
  .glo "is_width",
  .glo "fits",
  .glo "check_names",
  .glo "check_width",
  .glo "check_fitting_names",
  .glo "parts",
  .glo "after",
  .glo "check_things",
  .glo "first_free",
  .glo "handed",
  .glo "flowing",
  .glo "hand_out",
  .glo "taken",
  .glo "tries",
  .glo "refused",
  .glo "flow",
  .glo "hand_out_base",
  .glo "_law_purse",
  .glo "_law_mixed",
  .glo "_law_draw",
  .glo "_law_text",
  .glo "_law_stems",
  .glo "_law_ending",
  .glo "_law_wish",
  .glo "_law_width",
  .glo "_law_things",
  .glo "law",
  .free "ValueError",
  .free "bool",
  .free "int",
  .free "isinstance",
  .free "len",
  .free "list",
  .free "max",
  .free "range",
  .free "sorted",
  .free "str",
  .free "sum"]
def loose : List PySem.Str := (["TakenError", "InvalidNames", "InvalidWidth", "DIGITS", "SIGNS", "is_whole", "is_name", "are_names", "is_width", "fits", "check_names", "check_width", "check_fitting_names", "parts", "after", "check_things", "first_free", "handed", "flowing", "hand_out", "taken", "tries", "refused", "flow", "hand_out_base", "_law_purse", "_law_mixed", "_law_draw", "_law_text", "_law_stems"] : List PySem.Str) ++ (["_law_ending", "_law_wish", "_law_width", "_law_things"] : List PySem.Str)
abbrev R : PySem.W.OpenRow := PySem.W.OpenLaw.row PySem.Challenge.rw_takennames_k16_folders_by_name
abbrev hk : PySem.W.Hook := He.hookD 4 fa fn
def ob (s : PySem.W.SharedT) : He.AlD := He.obsDG 4 fa fn (HandSHeadRun.getT s)
theorem ob_eq (s : PySem.W.SharedT) : ob s = hk.obs s.abs := He.obsDG_eq (HandSHeadRun.getT_eq s)
theorem run (w : World) : HandSHeadRun.RunEq R (PySem.W.view R.prog [39]) hk ob 4000 loose w := by
  intro os
  kernel_rfl
end Hd


/-! the defs' bodies by the combinators, the table -/
namespace Bd
open PySem PySem.Spec PyProof.Rows L2 Ti
def B : List Str := ["ValueError", "bool", "int", "isinstance", "len", "list", "max", "range", "sorted", "str", "sum"]
def T0 : List (Str × Ent) := [("DIGITS", .con (.str "0123456789")), ("SIGNS", .con (.str "-0123456789abcdefghijklmnopqrstuvwxyz"))]
def T1 : List (Str × Ent) := ("_law_purse", .fn Ti.Pr.f__law_purse ["_law_script", "_law_at"] 0 true) :: T0
def T2 : List (Str × Ent) := ("_law_mixed", .fn Ti.Pr.f__law_mixed ["_law_seed", "_law_step"] 0 false) :: T1
def T3 : List (Str × Ent) := ("_law_draw", .fn Ti.Pr.f__law_draw ["_law_purse_here", "_law_many"] 0 false) :: T2
def T4 : List (Str × Ent) := ("_law_width", .fn Ti.Pr.f__law_width ["_law_purse_here"] 0 false) :: T3
def T5 : List (Str × Ent) := ("_law_text", .fn Ti.Pr.f__law_text ["_law_purse_here", "_law_most"] 0 false) :: T4
def T6 : List (Str × Ent) := ("_law_stems", .fn Ti.Pr.f__law_stems ["_law_purse_here"] 0 false) :: T5
def T7 : List (Str × Ent) := ("_law_ending", .fn Ti.Pr.f__law_ending ["_law_purse_here"] 0 false) :: T6
def T8 : List (Str × Ent) := ("_law_wish", .fn Ti.Pr.f__law_wish ["_law_purse_here", "_law_stems_here", "_law_size"] 0 false) :: T7
def T9 : List (Str × Ent) := ("_law_things", .fn Ti.Pr.f__law_things ["_law_purse_here", "_law_most"] 0 false) :: T8
def T10 : List (Str × Ent) := ("is_name", .fn Ti.Pr.f_is_name ["value"] 0 false) :: T9
def T11 : List (Str × Ent) := ("are_names", .fn Ti.Pr.f_are_names ["value"] 0 false) :: T10
def T12 : List (Str × Ent) := ("check_names", .fn Ti.Pr.f_check_names ["names"] 0 false) :: T11
def T13 : List (Str × Ent) := ("is_whole", .fn Ti.Pr.f_is_whole ["value"] 0 false) :: T12
def T14 : List (Str × Ent) := ("is_width", .fn Ti.Pr.f_is_width ["value"] 0 false) :: T13
def T15 : List (Str × Ent) := ("check_width", .fn Ti.Pr.f_check_width ["width"] 0 false) :: T14
def T16 : List (Str × Ent) := ("fits", .fn Ti.Pr.f_fits ["name", "width"] 0 false) :: T15
def T17 : List (Str × Ent) := ("check_fitting_names", .fn Ti.Pr.f_check_fitting_names ["names", "width"] 0 false) :: T16
def T18 : List (Str × Ent) := ("check_things", .fn Ti.Pr.f_check_things ["names", "width"] 0 false) :: T17
def T19 : List (Str × Ent) := ("parts", .fn Ti.Pr.f_parts ["name"] 0 false) :: T18
def T20 : List (Str × Ent) := ("after", .fn Ti.Pr.f_after ["name", "width"] 0 false) :: T19
def T21 : List (Str × Ent) := ("first_free", .fn Ti.Pr.f_first_free ["name", "width", "given"] 0 false) :: T20
def T22 : List (Str × Ent) := ("handed", .fn Ti.Pr.f_handed ["names", "width"] 0 true) :: T21
def T23 : List (Str × Ent) := ("hand_out,names", .kwd "hand_out" Ti.Pr.f_hand_out 2 ["names"] [0, 1] true) :: ("hand_out,width,names", .kwd "hand_out" Ti.Pr.f_hand_out 2 ["width", "names"] [1, 0] true) :: ("hand_out", .fn Ti.Pr.f_hand_out ["names", "width"] 1 true) :: T22
def T24 : List (Str × Ent) := ("flowing", .fn Ti.Pr.f_flowing ["names", "width"] 0 false) :: T23
def T25 : List (Str × Ent) := ("taken,names", .kwd "taken" Ti.Pr.f_taken 2 ["names"] [0, 1] true) :: ("taken,width,names", .kwd "taken" Ti.Pr.f_taken 2 ["width", "names"] [1, 0] true) :: ("taken", .fn Ti.Pr.f_taken ["names", "width"] 1 true) :: T24
def T26 : List (Str × Ent) := ("tries,names", .kwd "tries" Ti.Pr.f_tries 2 ["names"] [0, 1] false) :: ("tries,width,names", .kwd "tries" Ti.Pr.f_tries 2 ["width", "names"] [1, 0] false) :: ("tries", .fn Ti.Pr.f_tries ["names", "width"] 1 false) :: T25
def T27 : List (Str × Ent) := ("refused,names", .kwd "refused" Ti.Pr.f_refused 2 ["names"] [0, 1] false) :: ("refused,width,names", .kwd "refused" Ti.Pr.f_refused 2 ["width", "names"] [1, 0] false) :: ("refused", .fn Ti.Pr.f_refused ["names", "width"] 1 false) :: T26
def T28 : List (Str × Ent) := ("flow,names", .kwd "flow" Ti.Pr.f_flow 2 ["names"] [0, 1] true) :: ("flow,width,names", .kwd "flow" Ti.Pr.f_flow 2 ["width", "names"] [1, 0] true) :: ("flow", .fn Ti.Pr.f_flow ["names", "width"] 1 true) :: T27
def T29 : List (Str × Ent) := ("hand_out_base,names", .kwd "hand_out_base" Ti.Pr.f_hand_out_base 1 ["names"] [0] true) :: ("hand_out_base", .fn Ti.Pr.f_hand_out_base ["names"] 0 true) :: T28
def T30 : List (Str × Ent) := ("law", .fn Bd.f_law ["_law_script"] 0 false) :: T29
theorem c__law_purse : cBody ⟨T0, B, ["_law_script", "_law_at", "_law_cell"]⟩ (defScope (Hd.top 30)) [] 1 (defBody (Hd.top 30)) = some Ti.Pr.b__law_purse := by kernel_rfl
theorem s__law_purse : FnScope ["_law_script", "_law_at", "_law_cell"] ["_law_script", "_law_at"] (defScope (Hd.top 30)) := ⟨by kernel_rfl, by kernel_rfl, by kernel_rfl, by decide +kernel, by kernel_rfl, by decide +kernel, by decide +kernel⟩
theorem c__law_mixed : cBody ⟨T1, B, ["_law_seed", "_law_step", "_law_found"]⟩ (defScope (Hd.top 31)) [] 0 (defBody (Hd.top 31)) = some Ti.Pr.b__law_mixed := by kernel_rfl
theorem s__law_mixed : FnScope ["_law_seed", "_law_step", "_law_found"] ["_law_seed", "_law_step"] (defScope (Hd.top 31)) := ⟨by kernel_rfl, by kernel_rfl, by kernel_rfl, by decide +kernel, by kernel_rfl, by decide +kernel, by decide +kernel⟩
theorem c__law_draw : cBody ⟨T2, B, ["_law_purse_here", "_law_many", "_law_found", "_law_piece", "_law_drawn"]⟩ (defScope (Hd.top 32)) [1] 0 (defBody (Hd.top 32)) = some Ti.Pr.b__law_draw := by kernel_rfl
theorem s__law_draw : FnScope ["_law_purse_here", "_law_many", "_law_found", "_law_piece", "_law_drawn"] ["_law_purse_here", "_law_many"] (defScope (Hd.top 32)) := ⟨by kernel_rfl, by kernel_rfl, by kernel_rfl, by decide +kernel, by kernel_rfl, by decide +kernel, by decide +kernel⟩
theorem c__law_width : cBody ⟨T3, B, ["_law_purse_here", "_law_sizes"]⟩ (defScope (Hd.top 37)) [] 0 (defBody (Hd.top 37)) = some Ti.Pr.b__law_width := by kernel_rfl
theorem s__law_width : FnScope ["_law_purse_here", "_law_sizes"] ["_law_purse_here"] (defScope (Hd.top 37)) := ⟨by kernel_rfl, by kernel_rfl, by kernel_rfl, by decide +kernel, by kernel_rfl, by decide +kernel, by decide +kernel⟩
theorem c__law_text : cBody ⟨T4, B, ["_law_purse_here", "_law_most", "_law_signs", "_law_word", "_law_turn"]⟩ (defScope (Hd.top 33)) [] 0 (defBody (Hd.top 33)) = some Ti.Pr.b__law_text := by kernel_rfl
theorem s__law_text : FnScope ["_law_purse_here", "_law_most", "_law_signs", "_law_word", "_law_turn"] ["_law_purse_here", "_law_most"] (defScope (Hd.top 33)) := ⟨by kernel_rfl, by kernel_rfl, by kernel_rfl, by decide +kernel, by kernel_rfl, by decide +kernel, by decide +kernel⟩
theorem c__law_stems : cBody ⟨T5, B, ["_law_purse_here", "_law_found", "_law_turn"]⟩ (defScope (Hd.top 34)) [0, 1] 0 (defBody (Hd.top 34)) = some Ti.Pr.b__law_stems := by kernel_rfl
theorem s__law_stems : FnScope ["_law_purse_here", "_law_found", "_law_turn"] ["_law_purse_here"] (defScope (Hd.top 34)) := ⟨by kernel_rfl, by kernel_rfl, by kernel_rfl, by decide +kernel, by kernel_rfl, by decide +kernel, by decide +kernel⟩
theorem c__law_ending : cBody ⟨T6, B, ["_law_purse_here", "_law_drawn"]⟩ (defScope (Hd.top 35)) [] 0 (defBody (Hd.top 35)) = some Ti.Pr.b__law_ending := by kernel_rfl
theorem s__law_ending : FnScope ["_law_purse_here", "_law_drawn"] ["_law_purse_here"] (defScope (Hd.top 35)) := ⟨by kernel_rfl, by kernel_rfl, by kernel_rfl, by decide +kernel, by kernel_rfl, by decide +kernel, by decide +kernel⟩
theorem c__law_wish : cBody ⟨T7, B, ["_law_purse_here", "_law_stems_here", "_law_size", "_law_word"]⟩ (defScope (Hd.top 36)) [] 0 (defBody (Hd.top 36)) = some Ti.Pr.b__law_wish := by kernel_rfl
theorem s__law_wish : FnScope ["_law_purse_here", "_law_stems_here", "_law_size", "_law_word"] ["_law_purse_here", "_law_stems_here", "_law_size"] (defScope (Hd.top 36)) := ⟨by kernel_rfl, by kernel_rfl, by kernel_rfl, by decide +kernel, by kernel_rfl, by decide +kernel, by decide +kernel⟩
theorem c__law_things : cBody ⟨T8, B, ["_law_purse_here", "_law_most", "_law_size", "_law_stems_here", "_law_turn"]⟩ (defScope (Hd.top 38)) [] 0 (defBody (Hd.top 38)) = some Ti.Pr.b__law_things := by kernel_rfl
theorem s__law_things : FnScope ["_law_purse_here", "_law_most", "_law_size", "_law_stems_here", "_law_turn"] ["_law_purse_here", "_law_most"] (defScope (Hd.top 38)) := ⟨by kernel_rfl, by kernel_rfl, by kernel_rfl, by decide +kernel, by kernel_rfl, by decide +kernel, by decide +kernel⟩
theorem c_is_name : cBody ⟨T9, B, ["value", "sign"]⟩ (defScope (Hd.top 8)) [] 0 (defBody (Hd.top 8)) = some Ti.Pr.b_is_name := by kernel_rfl
theorem s_is_name : FnScope ["value", "sign"] ["value"] (defScope (Hd.top 8)) := ⟨by kernel_rfl, by kernel_rfl, by kernel_rfl, by decide +kernel, by kernel_rfl, by decide +kernel, by decide +kernel⟩
theorem c_are_names : cBody ⟨T10, B, ["value", "name"]⟩ (defScope (Hd.top 9)) [] 0 (defBody (Hd.top 9)) = some Ti.Pr.b_are_names := by kernel_rfl
theorem s_are_names : FnScope ["value", "name"] ["value"] (defScope (Hd.top 9)) := ⟨by kernel_rfl, by kernel_rfl, by kernel_rfl, by decide +kernel, by kernel_rfl, by decide +kernel, by decide +kernel⟩
theorem c_check_names : cBody ⟨T11, B, ["names"]⟩ (defScope (Hd.top 13)) [] 0 (defBody (Hd.top 13)) = some Ti.Pr.b_check_names := by kernel_rfl
theorem s_check_names : FnScope ["names"] ["names"] (defScope (Hd.top 13)) := ⟨by kernel_rfl, by kernel_rfl, by kernel_rfl, by decide +kernel, by kernel_rfl, by decide +kernel, by decide +kernel⟩
theorem c_is_whole : cBody ⟨T12, B, ["value"]⟩ (defScope (Hd.top 7)) [] 0 (defBody (Hd.top 7)) = some Ti.Pr.b_is_whole := by kernel_rfl
theorem s_is_whole : FnScope ["value"] ["value"] (defScope (Hd.top 7)) := ⟨by kernel_rfl, by kernel_rfl, by kernel_rfl, by decide +kernel, by kernel_rfl, by decide +kernel, by decide +kernel⟩
theorem c_is_width : cBody ⟨T13, B, ["value"]⟩ (defScope (Hd.top 10)) [] 0 (defBody (Hd.top 10)) = some Ti.Pr.b_is_width := by kernel_rfl
theorem s_is_width : FnScope ["value"] ["value"] (defScope (Hd.top 10)) := ⟨by kernel_rfl, by kernel_rfl, by kernel_rfl, by decide +kernel, by kernel_rfl, by decide +kernel, by decide +kernel⟩
theorem c_check_width : cBody ⟨T14, B, ["width"]⟩ (defScope (Hd.top 14)) [] 0 (defBody (Hd.top 14)) = some Ti.Pr.b_check_width := by kernel_rfl
theorem s_check_width : FnScope ["width"] ["width"] (defScope (Hd.top 14)) := ⟨by kernel_rfl, by kernel_rfl, by kernel_rfl, by decide +kernel, by kernel_rfl, by decide +kernel, by decide +kernel⟩
theorem c_fits : cBody ⟨T15, B, ["name", "width"]⟩ (defScope (Hd.top 11)) [] 0 (defBody (Hd.top 11)) = some Ti.Pr.b_fits := by kernel_rfl
theorem s_fits : FnScope ["name", "width"] ["name", "width"] (defScope (Hd.top 11)) := ⟨by kernel_rfl, by kernel_rfl, by kernel_rfl, by decide +kernel, by kernel_rfl, by decide +kernel, by decide +kernel⟩
theorem c_check_fitting_names : cBody ⟨T16, B, ["names", "width", "name"]⟩ (defScope (Hd.top 15)) [] 0 (defBody (Hd.top 15)) = some Ti.Pr.b_check_fitting_names := by kernel_rfl
theorem s_check_fitting_names : FnScope ["names", "width", "name"] ["names", "width"] (defScope (Hd.top 15)) := ⟨by kernel_rfl, by kernel_rfl, by kernel_rfl, by decide +kernel, by kernel_rfl, by decide +kernel, by decide +kernel⟩
theorem c_check_things : cBody ⟨T17, B, ["names", "width"]⟩ (defScope (Hd.top 19)) [] 0 (defBody (Hd.top 19)) = some Ti.Pr.b_check_things := by kernel_rfl
theorem s_check_things : FnScope ["names", "width"] ["names", "width"] (defScope (Hd.top 19)) := ⟨by kernel_rfl, by kernel_rfl, by kernel_rfl, by decide +kernel, by kernel_rfl, by decide +kernel, by decide +kernel⟩
theorem c_parts : cBody ⟨T18, B, ["name", "at"]⟩ (defScope (Hd.top 16)) [] 0 (defBody (Hd.top 16)) = some Ti.Pr.b_parts := by kernel_rfl
theorem s_parts : FnScope ["name", "at"] ["name"] (defScope (Hd.top 16)) := ⟨by kernel_rfl, by kernel_rfl, by kernel_rfl, by decide +kernel, by kernel_rfl, by decide +kernel, by decide +kernel⟩
theorem c_after : cBody ⟨T19, B, ["name", "width", "found", "base", "digits"]⟩ (defScope (Hd.top 17)) [] 0 (defBody (Hd.top 17)) = some Ti.Pr.b_after := by kernel_rfl
theorem s_after : FnScope ["name", "width", "found", "base", "digits"] ["name", "width"] (defScope (Hd.top 17)) := ⟨by kernel_rfl, by kernel_rfl, by kernel_rfl, by decide +kernel, by kernel_rfl, by decide +kernel, by decide +kernel⟩
theorem c_first_free : cBody ⟨T20, B, ["name", "width", "given", "tried"]⟩ (defScope (Hd.top 20)) [] 0 (defBody (Hd.top 20)) = some Ti.Pr.b_first_free := by kernel_rfl
theorem s_first_free : FnScope ["name", "width", "given", "tried"] ["name", "width", "given"] (defScope (Hd.top 20)) := ⟨by kernel_rfl, by kernel_rfl, by kernel_rfl, by decide +kernel, by kernel_rfl, by decide +kernel, by decide +kernel⟩
theorem c_handed : cBody ⟨T21, B, ["names", "width", "name", "found", "given", "got"]⟩ (defScope (Hd.top 21)) [0, 0, 0, 1, 1] 1 (defBody (Hd.top 21)) = some Ti.Pr.b_handed := by kernel_rfl
theorem s_handed : FnScope ["names", "width", "name", "found", "given", "got"] ["names", "width"] (defScope (Hd.top 21)) := ⟨by kernel_rfl, by kernel_rfl, by kernel_rfl, by decide +kernel, by kernel_rfl, by decide +kernel, by decide +kernel⟩
theorem c_hand_out : cBody ⟨T22, B, ["names", "width"]⟩ (defScope (Hd.top 23)) [] 1 (defBody (Hd.top 23)) = some Ti.Pr.b_hand_out := by kernel_rfl
theorem s_hand_out : FnScope ["names", "width"] ["names", "width"] (defScope (Hd.top 23)) := ⟨by kernel_rfl, by kernel_rfl, by kernel_rfl, by decide +kernel, by kernel_rfl, by decide +kernel, by decide +kernel⟩
theorem c_flowing : cBody ⟨T23, B, ["names", "width", "found", "lost", "work", "name", "later"]⟩ (defScope (Hd.top 22)) [0, 0, 1, 0, 1] 0 (defBody (Hd.top 22)) = some Ti.Pr.b_flowing := by kernel_rfl
theorem s_flowing : FnScope ["names", "width", "found", "lost", "work", "name", "later"] ["names", "width"] (defScope (Hd.top 22)) := ⟨by kernel_rfl, by kernel_rfl, by kernel_rfl, by decide +kernel, by kernel_rfl, by decide +kernel, by decide +kernel⟩
theorem c_taken : cBody ⟨T24, B, ["names", "width"]⟩ (defScope (Hd.top 24)) [] 1 (defBody (Hd.top 24)) = some Ti.Pr.b_taken := by kernel_rfl
theorem s_taken : FnScope ["names", "width"] ["names", "width"] (defScope (Hd.top 24)) := ⟨by kernel_rfl, by kernel_rfl, by kernel_rfl, by decide +kernel, by kernel_rfl, by decide +kernel, by decide +kernel⟩
theorem c_tries : cBody ⟨T25, B, ["names", "width"]⟩ (defScope (Hd.top 25)) [] 0 (defBody (Hd.top 25)) = some Ti.Pr.b_tries := by kernel_rfl
theorem s_tries : FnScope ["names", "width"] ["names", "width"] (defScope (Hd.top 25)) := ⟨by kernel_rfl, by kernel_rfl, by kernel_rfl, by decide +kernel, by kernel_rfl, by decide +kernel, by decide +kernel⟩
theorem c_refused : cBody ⟨T26, B, ["names", "width"]⟩ (defScope (Hd.top 26)) [] 0 (defBody (Hd.top 26)) = some Ti.Pr.b_refused := by kernel_rfl
theorem s_refused : FnScope ["names", "width"] ["names", "width"] (defScope (Hd.top 26)) := ⟨by kernel_rfl, by kernel_rfl, by kernel_rfl, by decide +kernel, by kernel_rfl, by decide +kernel, by decide +kernel⟩
theorem c_flow : cBody ⟨T27, B, ["names", "width", "found", "name"]⟩ (defScope (Hd.top 27)) [] 1 (defBody (Hd.top 27)) = some Ti.Pr.b_flow := by kernel_rfl
theorem s_flow : FnScope ["names", "width", "found", "name"] ["names", "width"] (defScope (Hd.top 27)) := ⟨by kernel_rfl, by kernel_rfl, by kernel_rfl, by decide +kernel, by kernel_rfl, by decide +kernel, by decide +kernel⟩
theorem c_hand_out_base : cBody ⟨T28, B, ["names", "found", "name", "got", "number"]⟩ (defScope (Hd.top 28)) [0, 1] 1 (defBody (Hd.top 28)) = some Ti.Pr.b_hand_out_base := by kernel_rfl
theorem s_hand_out_base : FnScope ["names", "found", "name", "got", "number"] ["names"] (defScope (Hd.top 28)) := ⟨by kernel_rfl, by kernel_rfl, by kernel_rfl, by decide +kernel, by kernel_rfl, by decide +kernel, by decide +kernel⟩
theorem c_law : cBody ⟨T29, B, ["_law_script", "_law_cell", "_law_purse_here", "_law_things_here", "_law_size"]⟩ (defScope (Hd.top 39)) [0, 0, 1] 0 (defBody (Hd.top 39)) = some Bd.b_law := by kernel_rfl
theorem s_law : FnScope ["_law_script", "_law_cell", "_law_purse_here", "_law_things_here", "_law_size"] ["_law_script"] (defScope (Hd.top 39)) := ⟨by kernel_rfl, by kernel_rfl, by kernel_rfl, by decide +kernel, by kernel_rfl, by decide +kernel, by decide +kernel⟩
section
variable {P : Program} {w : World} {K : PySem.W.Frag} {h : Heap} {mg : Str → Option Value}
theorem facts (X : K.In h) (G : h.Ns mainGlobals mg) (c : He.SaysD Hd.fa Hd.fn K) (base : Heap) : (∀ x ∈ B, mg x = none) ∧ Tb P w K mg base (fun _ => 0) 0 T0 := by
  refine ⟨fun x hx => ?_, ?_⟩
  · have key : ∀ y ∈ B, (He.Fa.free y) ∈ Hd.fa := by
      intro y hy
      simp only [B, List.mem_cons, List.not_mem_nil, or_false] at hy
      rcases hy with rfl | rfl | rfl | rfl | rfl | rfl | rfl | rfl | rfl | rfl | rfl <;> simp [Hd.fa]
    exact He.free_ok X G (c.facts (key x hx))
  · exact Tb.cons (Tb.cons (Tb.nil) (Nat.le_refl _) (let ⟨t, ht⟩ := He.str_ok X G (c.fact 1 rfl); ⟨_, .str _, ht, ⟨t, rfl⟩, plainK_str⟩)) (Nat.le_refl _) (let ⟨t, ht⟩ := He.str_ok X G (c.fact 0 rfl); ⟨_, .str _, ht, ⟨t, rfl⟩, plainK_str⟩)
theorem e__law_purse (X : K.In h) (G : h.Ns mainGlobals mg) (c : He.SaysD Hd.fa Hd.fn K) {base : Heap} (hB : ∀ x ∈ B, mg x = none) (t : Tb P w K mg base (fun _ => 0) 0 T0) : Tb P w K mg base (fun _ => 0) 1 T1 := by
  obtain ⟨fd, F⟩ := c.def_ 20 (d := Hd.mkD 30 "_law_purse" []) rfl
  have gl := He.glo_ok X G (c.fact 22 (f := .glo "_law_purse") rfl)
  have fo := def_ok (N := ["_law_script", "_law_at", "_law_cell"]) (m := Ti.Pr.b__law_purse) (md := .raw) F s__law_purse t hB c__law_purse
  have t := t.cons (Nat.le_succ _) (x := "_law_purse") (show EntG P w K mg base (fun _ => 0) _ _ (.fn Ti.Pr.f__law_purse ["_law_script", "_law_at"] 0 true) from ⟨_, fd, gl, F.kp, fo, (by
    exact F.bindsN fun _ _ _ _ _ _ us hl => match us, hl with | [_, _], _ => rfl), (by
    exact fun h => nomatch h)⟩)
  exact t
theorem e__law_mixed (X : K.In h) (G : h.Ns mainGlobals mg) (c : He.SaysD Hd.fa Hd.fn K) {base : Heap} (hB : ∀ x ∈ B, mg x = none) (t : Tb P w K mg base (fun _ => 0) 1 T1) : Tb P w K mg base (fun _ => 0) 2 T2 := by
  obtain ⟨fd, F⟩ := c.def_ 21 (d := Hd.mkD 31 "_law_mixed" []) rfl
  have gl := He.glo_ok X G (c.fact 23 (f := .glo "_law_mixed") rfl)
  have fo := def_ok (N := ["_law_seed", "_law_step", "_law_found"]) (m := Ti.Pr.b__law_mixed) (md := .deep) F s__law_mixed t hB c__law_mixed
  have t := t.cons (Nat.le_succ _) (x := "_law_mixed") (show EntG P w K mg base (fun _ => 0) _ _ (.fn Ti.Pr.f__law_mixed ["_law_seed", "_law_step"] 0 false) from ⟨_, fd, gl, F.kp, fo, (by
    exact F.bindsN fun _ _ _ _ _ _ us hl => match us, hl with | [_, _], _ => rfl), (by
    exact fun h => nomatch h)⟩)
  exact t
theorem e__law_draw (X : K.In h) (G : h.Ns mainGlobals mg) (c : He.SaysD Hd.fa Hd.fn K) {base : Heap} (hB : ∀ x ∈ B, mg x = none) (t : Tb P w K mg base (fun _ => 0) 2 T2) : Tb P w K mg base (fun _ => 0) 3 T3 := by
  obtain ⟨fd, F⟩ := c.def_ 22 (d := Hd.mkD 32 "_law_draw" []) rfl
  have gl := He.glo_ok X G (c.fact 24 (f := .glo "_law_draw") rfl)
  have fo := def_ok (N := ["_law_purse_here", "_law_many", "_law_found", "_law_piece", "_law_drawn"]) (m := Ti.Pr.b__law_draw) (md := .deep) F s__law_draw t hB c__law_draw
  have t := t.cons (Nat.le_succ _) (x := "_law_draw") (show EntG P w K mg base (fun _ => 0) _ _ (.fn Ti.Pr.f__law_draw ["_law_purse_here", "_law_many"] 0 false) from ⟨_, fd, gl, F.kp, fo, (by
    exact F.bindsN fun _ _ _ _ _ _ us hl => match us, hl with | [_, _], _ => rfl), (by
    exact fun h => nomatch h)⟩)
  exact t
theorem e__law_width (X : K.In h) (G : h.Ns mainGlobals mg) (c : He.SaysD Hd.fa Hd.fn K) {base : Heap} (hB : ∀ x ∈ B, mg x = none) (t : Tb P w K mg base (fun _ => 0) 3 T3) : Tb P w K mg base (fun _ => 0) 4 T4 := by
  obtain ⟨fd, F⟩ := c.def_ 27 (d := Hd.mkD 37 "_law_width" []) rfl
  have gl := He.glo_ok X G (c.fact 29 (f := .glo "_law_width") rfl)
  have fo := def_ok (N := ["_law_purse_here", "_law_sizes"]) (m := Ti.Pr.b__law_width) (md := .deep) F s__law_width t hB c__law_width
  have t := t.cons (Nat.le_succ _) (x := "_law_width") (show EntG P w K mg base (fun _ => 0) _ _ (.fn Ti.Pr.f__law_width ["_law_purse_here"] 0 false) from ⟨_, fd, gl, F.kp, fo, (by
    exact F.bindsN fun _ _ _ _ _ _ us hl => match us, hl with | [_], _ => rfl), (by
    exact fun h => nomatch h)⟩)
  exact t
theorem e__law_text (X : K.In h) (G : h.Ns mainGlobals mg) (c : He.SaysD Hd.fa Hd.fn K) {base : Heap} (hB : ∀ x ∈ B, mg x = none) (t : Tb P w K mg base (fun _ => 0) 4 T4) : Tb P w K mg base (fun _ => 0) 5 T5 := by
  obtain ⟨fd, F⟩ := c.def_ 23 (d := Hd.mkD 33 "_law_text" []) rfl
  have gl := He.glo_ok X G (c.fact 25 (f := .glo "_law_text") rfl)
  have fo := def_ok (N := ["_law_purse_here", "_law_most", "_law_signs", "_law_word", "_law_turn"]) (m := Ti.Pr.b__law_text) (md := .deep) F s__law_text t hB c__law_text
  have t := t.cons (Nat.le_succ _) (x := "_law_text") (show EntG P w K mg base (fun _ => 0) _ _ (.fn Ti.Pr.f__law_text ["_law_purse_here", "_law_most"] 0 false) from ⟨_, fd, gl, F.kp, fo, (by
    exact F.bindsN fun _ _ _ _ _ _ us hl => match us, hl with | [_, _], _ => rfl), (by
    exact fun h => nomatch h)⟩)
  exact t
theorem e__law_stems (X : K.In h) (G : h.Ns mainGlobals mg) (c : He.SaysD Hd.fa Hd.fn K) {base : Heap} (hB : ∀ x ∈ B, mg x = none) (t : Tb P w K mg base (fun _ => 0) 5 T5) : Tb P w K mg base (fun _ => 0) 6 T6 := by
  obtain ⟨fd, F⟩ := c.def_ 24 (d := Hd.mkD 34 "_law_stems" []) rfl
  have gl := He.glo_ok X G (c.fact 26 (f := .glo "_law_stems") rfl)
  have fo := def_ok (N := ["_law_purse_here", "_law_found", "_law_turn"]) (m := Ti.Pr.b__law_stems) (md := .deep) F s__law_stems t hB c__law_stems
  have t := t.cons (Nat.le_succ _) (x := "_law_stems") (show EntG P w K mg base (fun _ => 0) _ _ (.fn Ti.Pr.f__law_stems ["_law_purse_here"] 0 false) from ⟨_, fd, gl, F.kp, fo, (by
    exact F.bindsN fun _ _ _ _ _ _ us hl => match us, hl with | [_], _ => rfl), (by
    exact fun h => nomatch h)⟩)
  exact t
theorem e__law_ending (X : K.In h) (G : h.Ns mainGlobals mg) (c : He.SaysD Hd.fa Hd.fn K) {base : Heap} (hB : ∀ x ∈ B, mg x = none) (t : Tb P w K mg base (fun _ => 0) 6 T6) : Tb P w K mg base (fun _ => 0) 7 T7 := by
  obtain ⟨fd, F⟩ := c.def_ 25 (d := Hd.mkD 35 "_law_ending" []) rfl
  have gl := He.glo_ok X G (c.fact 27 (f := .glo "_law_ending") rfl)
  have fo := def_ok (N := ["_law_purse_here", "_law_drawn"]) (m := Ti.Pr.b__law_ending) (md := .deep) F s__law_ending t hB c__law_ending
  have t := t.cons (Nat.le_succ _) (x := "_law_ending") (show EntG P w K mg base (fun _ => 0) _ _ (.fn Ti.Pr.f__law_ending ["_law_purse_here"] 0 false) from ⟨_, fd, gl, F.kp, fo, (by
    exact F.bindsN fun _ _ _ _ _ _ us hl => match us, hl with | [_], _ => rfl), (by
    exact fun h => nomatch h)⟩)
  exact t
theorem e__law_wish (X : K.In h) (G : h.Ns mainGlobals mg) (c : He.SaysD Hd.fa Hd.fn K) {base : Heap} (hB : ∀ x ∈ B, mg x = none) (t : Tb P w K mg base (fun _ => 0) 7 T7) : Tb P w K mg base (fun _ => 0) 8 T8 := by
  obtain ⟨fd, F⟩ := c.def_ 26 (d := Hd.mkD 36 "_law_wish" []) rfl
  have gl := He.glo_ok X G (c.fact 28 (f := .glo "_law_wish") rfl)
  have fo := def_ok (N := ["_law_purse_here", "_law_stems_here", "_law_size", "_law_word"]) (m := Ti.Pr.b__law_wish) (md := .deep) F s__law_wish t hB c__law_wish
  have t := t.cons (Nat.le_succ _) (x := "_law_wish") (show EntG P w K mg base (fun _ => 0) _ _ (.fn Ti.Pr.f__law_wish ["_law_purse_here", "_law_stems_here", "_law_size"] 0 false) from ⟨_, fd, gl, F.kp, fo, (by
    exact F.bindsN fun _ _ _ _ _ _ us hl => match us, hl with | [_, _, _], _ => rfl), (by
    exact fun h => nomatch h)⟩)
  exact t
theorem e__law_things (X : K.In h) (G : h.Ns mainGlobals mg) (c : He.SaysD Hd.fa Hd.fn K) {base : Heap} (hB : ∀ x ∈ B, mg x = none) (t : Tb P w K mg base (fun _ => 0) 8 T8) : Tb P w K mg base (fun _ => 0) 9 T9 := by
  obtain ⟨fd, F⟩ := c.def_ 28 (d := Hd.mkD 38 "_law_things" []) rfl
  have gl := He.glo_ok X G (c.fact 30 (f := .glo "_law_things") rfl)
  have fo := def_ok (N := ["_law_purse_here", "_law_most", "_law_size", "_law_stems_here", "_law_turn"]) (m := Ti.Pr.b__law_things) (md := .deep) F s__law_things t hB c__law_things
  have t := t.cons (Nat.le_succ _) (x := "_law_things") (show EntG P w K mg base (fun _ => 0) _ _ (.fn Ti.Pr.f__law_things ["_law_purse_here", "_law_most"] 0 false) from ⟨_, fd, gl, F.kp, fo, (by
    exact F.bindsN fun _ _ _ _ _ _ us hl => match us, hl with | [_, _], _ => rfl), (by
    exact fun h => nomatch h)⟩)
  exact t
theorem e_is_name (X : K.In h) (G : h.Ns mainGlobals mg) (c : He.SaysD Hd.fa Hd.fn K) {base : Heap} (hB : ∀ x ∈ B, mg x = none) (t : Tb P w K mg base (fun _ => 0) 9 T9) : Tb P w K mg base (fun _ => 0) 10 T10 := by
  obtain ⟨fd, F⟩ := c.def_ 1 (d := Hd.mkD 8 "is_name" []) rfl
  have gl := He.glo_ok X G (c.fact 3 (f := .glo "is_name") rfl)
  have fo := def_ok (N := ["value", "sign"]) (m := Ti.Pr.b_is_name) (md := .deep) F s_is_name t hB c_is_name
  have t := t.cons (Nat.le_succ _) (x := "is_name") (show EntG P w K mg base (fun _ => 0) _ _ (.fn Ti.Pr.f_is_name ["value"] 0 false) from ⟨_, fd, gl, F.kp, fo, (by
    exact F.bindsN fun _ _ _ _ _ _ us hl => match us, hl with | [_], _ => rfl), (by
    exact fun h => nomatch h)⟩)
  exact t
theorem e_are_names (X : K.In h) (G : h.Ns mainGlobals mg) (c : He.SaysD Hd.fa Hd.fn K) {base : Heap} (hB : ∀ x ∈ B, mg x = none) (t : Tb P w K mg base (fun _ => 0) 10 T10) : Tb P w K mg base (fun _ => 0) 11 T11 := by
  obtain ⟨fd, F⟩ := c.def_ 2 (d := Hd.mkD 9 "are_names" []) rfl
  have gl := He.glo_ok X G (c.fact 4 (f := .glo "are_names") rfl)
  have fo := def_ok (N := ["value", "name"]) (m := Ti.Pr.b_are_names) (md := .deep) F s_are_names t hB c_are_names
  have t := t.cons (Nat.le_succ _) (x := "are_names") (show EntG P w K mg base (fun _ => 0) _ _ (.fn Ti.Pr.f_are_names ["value"] 0 false) from ⟨_, fd, gl, F.kp, fo, (by
    exact F.bindsN fun _ _ _ _ _ _ us hl => match us, hl with | [_], _ => rfl), (by
    exact fun h => nomatch h)⟩)
  exact t
theorem e_check_names (X : K.In h) (G : h.Ns mainGlobals mg) (c : He.SaysD Hd.fa Hd.fn K) {base : Heap} (hB : ∀ x ∈ B, mg x = none) (t : Tb P w K mg base (fun _ => 0) 11 T11) : Tb P w K mg base (fun _ => 0) 12 T12 := by
  obtain ⟨fd, F⟩ := c.def_ 5 (d := Hd.mkD 13 "check_names" []) rfl
  have gl := He.glo_ok X G (c.fact 7 (f := .glo "check_names") rfl)
  have fo := def_ok (N := ["names"]) (m := Ti.Pr.b_check_names) (md := .deep) F s_check_names t hB c_check_names
  have t := t.cons (Nat.le_succ _) (x := "check_names") (show EntG P w K mg base (fun _ => 0) _ _ (.fn Ti.Pr.f_check_names ["names"] 0 false) from ⟨_, fd, gl, F.kp, fo, (by
    exact F.bindsN fun _ _ _ _ _ _ us hl => match us, hl with | [_], _ => rfl), (by
    exact fun h => nomatch h)⟩)
  exact t
theorem e_is_whole (X : K.In h) (G : h.Ns mainGlobals mg) (c : He.SaysD Hd.fa Hd.fn K) {base : Heap} (hB : ∀ x ∈ B, mg x = none) (t : Tb P w K mg base (fun _ => 0) 12 T12) : Tb P w K mg base (fun _ => 0) 13 T13 := by
  obtain ⟨fd, F⟩ := c.def_ 0 (d := Hd.mkD 7 "is_whole" []) rfl
  have gl := He.glo_ok X G (c.fact 2 (f := .glo "is_whole") rfl)
  have fo := def_ok (N := ["value"]) (m := Ti.Pr.b_is_whole) (md := .deep) F s_is_whole t hB c_is_whole
  have t := t.cons (Nat.le_succ _) (x := "is_whole") (show EntG P w K mg base (fun _ => 0) _ _ (.fn Ti.Pr.f_is_whole ["value"] 0 false) from ⟨_, fd, gl, F.kp, fo, (by
    exact F.bindsN fun _ _ _ _ _ _ us hl => match us, hl with | [_], _ => rfl), (by
    exact fun h => nomatch h)⟩)
  exact t
theorem e_is_width (X : K.In h) (G : h.Ns mainGlobals mg) (c : He.SaysD Hd.fa Hd.fn K) {base : Heap} (hB : ∀ x ∈ B, mg x = none) (t : Tb P w K mg base (fun _ => 0) 13 T13) : Tb P w K mg base (fun _ => 0) 14 T14 := by
  obtain ⟨fd, F⟩ := c.def_ 3 (d := Hd.mkD 10 "is_width" []) rfl
  have gl := He.glo_ok X G (c.fact 5 (f := .glo "is_width") rfl)
  have fo := def_ok (N := ["value"]) (m := Ti.Pr.b_is_width) (md := .deep) F s_is_width t hB c_is_width
  have t := t.cons (Nat.le_succ _) (x := "is_width") (show EntG P w K mg base (fun _ => 0) _ _ (.fn Ti.Pr.f_is_width ["value"] 0 false) from ⟨_, fd, gl, F.kp, fo, (by
    exact F.bindsN fun _ _ _ _ _ _ us hl => match us, hl with | [_], _ => rfl), (by
    exact fun h => nomatch h)⟩)
  exact t
theorem e_check_width (X : K.In h) (G : h.Ns mainGlobals mg) (c : He.SaysD Hd.fa Hd.fn K) {base : Heap} (hB : ∀ x ∈ B, mg x = none) (t : Tb P w K mg base (fun _ => 0) 14 T14) : Tb P w K mg base (fun _ => 0) 15 T15 := by
  obtain ⟨fd, F⟩ := c.def_ 6 (d := Hd.mkD 14 "check_width" []) rfl
  have gl := He.glo_ok X G (c.fact 8 (f := .glo "check_width") rfl)
  have fo := def_ok (N := ["width"]) (m := Ti.Pr.b_check_width) (md := .deep) F s_check_width t hB c_check_width
  have t := t.cons (Nat.le_succ _) (x := "check_width") (show EntG P w K mg base (fun _ => 0) _ _ (.fn Ti.Pr.f_check_width ["width"] 0 false) from ⟨_, fd, gl, F.kp, fo, (by
    exact F.bindsN fun _ _ _ _ _ _ us hl => match us, hl with | [_], _ => rfl), (by
    exact fun h => nomatch h)⟩)
  exact t
theorem e_fits (X : K.In h) (G : h.Ns mainGlobals mg) (c : He.SaysD Hd.fa Hd.fn K) {base : Heap} (hB : ∀ x ∈ B, mg x = none) (t : Tb P w K mg base (fun _ => 0) 15 T15) : Tb P w K mg base (fun _ => 0) 16 T16 := by
  obtain ⟨fd, F⟩ := c.def_ 4 (d := Hd.mkD 11 "fits" []) rfl
  have gl := He.glo_ok X G (c.fact 6 (f := .glo "fits") rfl)
  have fo := def_ok (N := ["name", "width"]) (m := Ti.Pr.b_fits) (md := .deep) F s_fits t hB c_fits
  have t := t.cons (Nat.le_succ _) (x := "fits") (show EntG P w K mg base (fun _ => 0) _ _ (.fn Ti.Pr.f_fits ["name", "width"] 0 false) from ⟨_, fd, gl, F.kp, fo, (by
    exact F.bindsN fun _ _ _ _ _ _ us hl => match us, hl with | [_, _], _ => rfl), (by
    exact fun h => nomatch h)⟩)
  exact t
theorem e_check_fitting_names (X : K.In h) (G : h.Ns mainGlobals mg) (c : He.SaysD Hd.fa Hd.fn K) {base : Heap} (hB : ∀ x ∈ B, mg x = none) (t : Tb P w K mg base (fun _ => 0) 16 T16) : Tb P w K mg base (fun _ => 0) 17 T17 := by
  obtain ⟨fd, F⟩ := c.def_ 7 (d := Hd.mkD 15 "check_fitting_names" []) rfl
  have gl := He.glo_ok X G (c.fact 9 (f := .glo "check_fitting_names") rfl)
  have fo := def_ok (N := ["names", "width", "name"]) (m := Ti.Pr.b_check_fitting_names) (md := .deep) F s_check_fitting_names t hB c_check_fitting_names
  have t := t.cons (Nat.le_succ _) (x := "check_fitting_names") (show EntG P w K mg base (fun _ => 0) _ _ (.fn Ti.Pr.f_check_fitting_names ["names", "width"] 0 false) from ⟨_, fd, gl, F.kp, fo, (by
    exact F.bindsN fun _ _ _ _ _ _ us hl => match us, hl with | [_, _], _ => rfl), (by
    exact fun h => nomatch h)⟩)
  exact t
theorem e_check_things (X : K.In h) (G : h.Ns mainGlobals mg) (c : He.SaysD Hd.fa Hd.fn K) {base : Heap} (hB : ∀ x ∈ B, mg x = none) (t : Tb P w K mg base (fun _ => 0) 17 T17) : Tb P w K mg base (fun _ => 0) 18 T18 := by
  obtain ⟨fd, F⟩ := c.def_ 10 (d := Hd.mkD 19 "check_things" []) rfl
  have gl := He.glo_ok X G (c.fact 12 (f := .glo "check_things") rfl)
  have fo := def_ok (N := ["names", "width"]) (m := Ti.Pr.b_check_things) (md := .deep) F s_check_things t hB c_check_things
  have t := t.cons (Nat.le_succ _) (x := "check_things") (show EntG P w K mg base (fun _ => 0) _ _ (.fn Ti.Pr.f_check_things ["names", "width"] 0 false) from ⟨_, fd, gl, F.kp, fo, (by
    exact F.bindsN fun _ _ _ _ _ _ us hl => match us, hl with | [_, _], _ => rfl), (by
    exact fun h => nomatch h)⟩)
  exact t
theorem e_parts (X : K.In h) (G : h.Ns mainGlobals mg) (c : He.SaysD Hd.fa Hd.fn K) {base : Heap} (hB : ∀ x ∈ B, mg x = none) (t : Tb P w K mg base (fun _ => 0) 18 T18) : Tb P w K mg base (fun _ => 0) 19 T19 := by
  obtain ⟨fd, F⟩ := c.def_ 8 (d := Hd.mkD 16 "parts" []) rfl
  have gl := He.glo_ok X G (c.fact 10 (f := .glo "parts") rfl)
  have fo := def_ok (N := ["name", "at"]) (m := Ti.Pr.b_parts) (md := .deep) F s_parts t hB c_parts
  have t := t.cons (Nat.le_succ _) (x := "parts") (show EntG P w K mg base (fun _ => 0) _ _ (.fn Ti.Pr.f_parts ["name"] 0 false) from ⟨_, fd, gl, F.kp, fo, (by
    exact F.bindsN fun _ _ _ _ _ _ us hl => match us, hl with | [_], _ => rfl), (by
    exact fun h => nomatch h)⟩)
  exact t
theorem e_after (X : K.In h) (G : h.Ns mainGlobals mg) (c : He.SaysD Hd.fa Hd.fn K) {base : Heap} (hB : ∀ x ∈ B, mg x = none) (t : Tb P w K mg base (fun _ => 0) 19 T19) : Tb P w K mg base (fun _ => 0) 20 T20 := by
  obtain ⟨fd, F⟩ := c.def_ 9 (d := Hd.mkD 17 "after" []) rfl
  have gl := He.glo_ok X G (c.fact 11 (f := .glo "after") rfl)
  have fo := def_ok (N := ["name", "width", "found", "base", "digits"]) (m := Ti.Pr.b_after) (md := .deep) F s_after t hB c_after
  have t := t.cons (Nat.le_succ _) (x := "after") (show EntG P w K mg base (fun _ => 0) _ _ (.fn Ti.Pr.f_after ["name", "width"] 0 false) from ⟨_, fd, gl, F.kp, fo, (by
    exact F.bindsN fun _ _ _ _ _ _ us hl => match us, hl with | [_, _], _ => rfl), (by
    exact fun h => nomatch h)⟩)
  exact t
theorem e_first_free (X : K.In h) (G : h.Ns mainGlobals mg) (c : He.SaysD Hd.fa Hd.fn K) {base : Heap} (hB : ∀ x ∈ B, mg x = none) (t : Tb P w K mg base (fun _ => 0) 20 T20) : Tb P w K mg base (fun _ => 0) 21 T21 := by
  obtain ⟨fd, F⟩ := c.def_ 11 (d := Hd.mkD 20 "first_free" []) rfl
  have gl := He.glo_ok X G (c.fact 13 (f := .glo "first_free") rfl)
  have fo := def_ok (N := ["name", "width", "given", "tried"]) (m := Ti.Pr.b_first_free) (md := .deep) F s_first_free t hB c_first_free
  have t := t.cons (Nat.le_succ _) (x := "first_free") (show EntG P w K mg base (fun _ => 0) _ _ (.fn Ti.Pr.f_first_free ["name", "width", "given"] 0 false) from ⟨_, fd, gl, F.kp, fo, (by
    exact F.bindsN fun _ _ _ _ _ _ us hl => match us, hl with | [_, _, _], _ => rfl), (by
    exact fun h => nomatch h)⟩)
  exact t
theorem e_handed (X : K.In h) (G : h.Ns mainGlobals mg) (c : He.SaysD Hd.fa Hd.fn K) {base : Heap} (hB : ∀ x ∈ B, mg x = none) (t : Tb P w K mg base (fun _ => 0) 21 T21) : Tb P w K mg base (fun _ => 0) 22 T22 := by
  obtain ⟨fd, F⟩ := c.def_ 12 (d := Hd.mkD 21 "handed" []) rfl
  have gl := He.glo_ok X G (c.fact 14 (f := .glo "handed") rfl)
  have fo := def_ok (N := ["names", "width", "name", "found", "given", "got"]) (m := Ti.Pr.b_handed) (md := .top) F s_handed t hB c_handed
  have t := t.cons (Nat.le_succ _) (x := "handed") (show EntG P w K mg base (fun _ => 0) _ _ (.fn Ti.Pr.f_handed ["names", "width"] 0 true) from ⟨_, fd, gl, F.kp, fo, (by
    exact F.bindsN fun _ _ _ _ _ _ us hl => match us, hl with | [_, _], _ => rfl), (by
    exact fun h => nomatch h)⟩)
  exact t
theorem e_hand_out (X : K.In h) (G : h.Ns mainGlobals mg) (c : He.SaysD Hd.fa Hd.fn K) {base : Heap} (hB : ∀ x ∈ B, mg x = none) (t : Tb P w K mg base (fun _ => 0) 22 T22) : Tb P w K mg base (fun _ => 0) 23 T23 := by
  obtain ⟨fd, F⟩ := c.def_ 14 (d := Hd.mkD 23 "hand_out" [.non]) rfl
  have gl := He.glo_ok X G (c.fact 16 (f := .glo "hand_out") rfl)
  have fo := def_ok (N := ["names", "width"]) (m := Ti.Pr.b_hand_out) (md := .top) F s_hand_out t hB c_hand_out
  have t := t.cons (Nat.le_succ _) (x := "hand_out") (show EntG P w K mg base (fun _ => 0) _ _ (.fn Ti.Pr.f_hand_out ["names", "width"] 1 true) from ⟨_, fd, gl, F.kp, fo, (by
    exact (by
      obtain ⟨ds, hv, hb⟩ := FunD.binds1 (ps := ["names", "width"]) F 2 1 (List.cons_ne_nil _ _) rfl (fun T kV doc pm an cdv ct us its hl hl2 => match us, hl, its, hl2 with | [_, _], _, [_], _ => ⟨_, rfl, rfl⟩)
      cases hv
      exact hb)), (by
    exact (by
      intro _
      obtain ⟨ds, hv, hb⟩ := FunD.binds1 (ps := ["names", "width"]) F 1 0 (List.cons_ne_nil _ _) rfl (fun T kV doc pm an cdv ct us its hl hl2 => match us, hl, its, hl2 with | [_], _, [_], _ => ⟨_, rfl, rfl⟩)
      cases hv with
      | cons a r => (cases r; cases a; exact hb)))⟩)
  have t := t.cons (Nat.le_refl _) (x := "hand_out,width,names") (show EntG P w K mg base (fun _ => 0) _ _ (.kwd "hand_out" Ti.Pr.f_hand_out 2 ["width", "names"] [1, 0] true) from ⟨_, fd, ["names", "width"], gl, F.kp, fo, (by
    exact kwb1 F fun _ _ _ _ _ _ _ ws its hl hl2 => match ws, hl, its, hl2 with | [_, _], _, [_], _ => ⟨_, rfl, rfl⟩)⟩)
  have t := t.cons (Nat.le_refl _) (x := "hand_out,names") (show EntG P w K mg base (fun _ => 0) _ _ (.kwd "hand_out" Ti.Pr.f_hand_out 2 ["names"] [0, 1] true) from ⟨_, fd, ["names", "width"], gl, F.kp, fo, (by
    exact kwb1 F fun _ _ _ _ _ _ _ ws its hl hl2 => match ws, hl, its, hl2 with | [_], _, [_], _ => ⟨_, rfl, rfl⟩)⟩)
  exact t
theorem e_flowing (X : K.In h) (G : h.Ns mainGlobals mg) (c : He.SaysD Hd.fa Hd.fn K) {base : Heap} (hB : ∀ x ∈ B, mg x = none) (t : Tb P w K mg base (fun _ => 0) 23 T23) : Tb P w K mg base (fun _ => 0) 24 T24 := by
  obtain ⟨fd, F⟩ := c.def_ 13 (d := Hd.mkD 22 "flowing" []) rfl
  have gl := He.glo_ok X G (c.fact 15 (f := .glo "flowing") rfl)
  have fo := def_ok (N := ["names", "width", "found", "lost", "work", "name", "later"]) (m := Ti.Pr.b_flowing) (md := .deep) F s_flowing t hB c_flowing
  have t := t.cons (Nat.le_succ _) (x := "flowing") (show EntG P w K mg base (fun _ => 0) _ _ (.fn Ti.Pr.f_flowing ["names", "width"] 0 false) from ⟨_, fd, gl, F.kp, fo, (by
    exact F.bindsN fun _ _ _ _ _ _ us hl => match us, hl with | [_, _], _ => rfl), (by
    exact fun h => nomatch h)⟩)
  exact t
theorem e_taken (X : K.In h) (G : h.Ns mainGlobals mg) (c : He.SaysD Hd.fa Hd.fn K) {base : Heap} (hB : ∀ x ∈ B, mg x = none) (t : Tb P w K mg base (fun _ => 0) 24 T24) : Tb P w K mg base (fun _ => 0) 25 T25 := by
  obtain ⟨fd, F⟩ := c.def_ 15 (d := Hd.mkD 24 "taken" [.non]) rfl
  have gl := He.glo_ok X G (c.fact 17 (f := .glo "taken") rfl)
  have fo := def_ok (N := ["names", "width"]) (m := Ti.Pr.b_taken) (md := .top) F s_taken t hB c_taken
  have t := t.cons (Nat.le_succ _) (x := "taken") (show EntG P w K mg base (fun _ => 0) _ _ (.fn Ti.Pr.f_taken ["names", "width"] 1 true) from ⟨_, fd, gl, F.kp, fo, (by
    exact (by
      obtain ⟨ds, hv, hb⟩ := FunD.binds1 (ps := ["names", "width"]) F 2 1 (List.cons_ne_nil _ _) rfl (fun T kV doc pm an cdv ct us its hl hl2 => match us, hl, its, hl2 with | [_, _], _, [_], _ => ⟨_, rfl, rfl⟩)
      cases hv
      exact hb)), (by
    exact (by
      intro _
      obtain ⟨ds, hv, hb⟩ := FunD.binds1 (ps := ["names", "width"]) F 1 0 (List.cons_ne_nil _ _) rfl (fun T kV doc pm an cdv ct us its hl hl2 => match us, hl, its, hl2 with | [_], _, [_], _ => ⟨_, rfl, rfl⟩)
      cases hv with
      | cons a r => (cases r; cases a; exact hb)))⟩)
  have t := t.cons (Nat.le_refl _) (x := "taken,width,names") (show EntG P w K mg base (fun _ => 0) _ _ (.kwd "taken" Ti.Pr.f_taken 2 ["width", "names"] [1, 0] true) from ⟨_, fd, ["names", "width"], gl, F.kp, fo, (by
    exact kwb1 F fun _ _ _ _ _ _ _ ws its hl hl2 => match ws, hl, its, hl2 with | [_, _], _, [_], _ => ⟨_, rfl, rfl⟩)⟩)
  have t := t.cons (Nat.le_refl _) (x := "taken,names") (show EntG P w K mg base (fun _ => 0) _ _ (.kwd "taken" Ti.Pr.f_taken 2 ["names"] [0, 1] true) from ⟨_, fd, ["names", "width"], gl, F.kp, fo, (by
    exact kwb1 F fun _ _ _ _ _ _ _ ws its hl hl2 => match ws, hl, its, hl2 with | [_], _, [_], _ => ⟨_, rfl, rfl⟩)⟩)
  exact t
theorem e_tries (X : K.In h) (G : h.Ns mainGlobals mg) (c : He.SaysD Hd.fa Hd.fn K) {base : Heap} (hB : ∀ x ∈ B, mg x = none) (t : Tb P w K mg base (fun _ => 0) 25 T25) : Tb P w K mg base (fun _ => 0) 26 T26 := by
  obtain ⟨fd, F⟩ := c.def_ 16 (d := Hd.mkD 25 "tries" [.non]) rfl
  have gl := He.glo_ok X G (c.fact 18 (f := .glo "tries") rfl)
  have fo := def_ok (N := ["names", "width"]) (m := Ti.Pr.b_tries) (md := .deep) F s_tries t hB c_tries
  have t := t.cons (Nat.le_succ _) (x := "tries") (show EntG P w K mg base (fun _ => 0) _ _ (.fn Ti.Pr.f_tries ["names", "width"] 1 false) from ⟨_, fd, gl, F.kp, fo, (by
    exact (by
      obtain ⟨ds, hv, hb⟩ := FunD.binds1 (ps := ["names", "width"]) F 2 1 (List.cons_ne_nil _ _) rfl (fun T kV doc pm an cdv ct us its hl hl2 => match us, hl, its, hl2 with | [_, _], _, [_], _ => ⟨_, rfl, rfl⟩)
      cases hv
      exact hb)), (by
    exact (by
      intro _
      obtain ⟨ds, hv, hb⟩ := FunD.binds1 (ps := ["names", "width"]) F 1 0 (List.cons_ne_nil _ _) rfl (fun T kV doc pm an cdv ct us its hl hl2 => match us, hl, its, hl2 with | [_], _, [_], _ => ⟨_, rfl, rfl⟩)
      cases hv with
      | cons a r => (cases r; cases a; exact hb)))⟩)
  have t := t.cons (Nat.le_refl _) (x := "tries,width,names") (show EntG P w K mg base (fun _ => 0) _ _ (.kwd "tries" Ti.Pr.f_tries 2 ["width", "names"] [1, 0] false) from ⟨_, fd, ["names", "width"], gl, F.kp, fo, (by
    exact kwb1 F fun _ _ _ _ _ _ _ ws its hl hl2 => match ws, hl, its, hl2 with | [_, _], _, [_], _ => ⟨_, rfl, rfl⟩)⟩)
  have t := t.cons (Nat.le_refl _) (x := "tries,names") (show EntG P w K mg base (fun _ => 0) _ _ (.kwd "tries" Ti.Pr.f_tries 2 ["names"] [0, 1] false) from ⟨_, fd, ["names", "width"], gl, F.kp, fo, (by
    exact kwb1 F fun _ _ _ _ _ _ _ ws its hl hl2 => match ws, hl, its, hl2 with | [_], _, [_], _ => ⟨_, rfl, rfl⟩)⟩)
  exact t
theorem e_refused (X : K.In h) (G : h.Ns mainGlobals mg) (c : He.SaysD Hd.fa Hd.fn K) {base : Heap} (hB : ∀ x ∈ B, mg x = none) (t : Tb P w K mg base (fun _ => 0) 26 T26) : Tb P w K mg base (fun _ => 0) 27 T27 := by
  obtain ⟨fd, F⟩ := c.def_ 17 (d := Hd.mkD 26 "refused" [.non]) rfl
  have gl := He.glo_ok X G (c.fact 19 (f := .glo "refused") rfl)
  have fo := def_ok (N := ["names", "width"]) (m := Ti.Pr.b_refused) (md := .deep) F s_refused t hB c_refused
  have t := t.cons (Nat.le_succ _) (x := "refused") (show EntG P w K mg base (fun _ => 0) _ _ (.fn Ti.Pr.f_refused ["names", "width"] 1 false) from ⟨_, fd, gl, F.kp, fo, (by
    exact (by
      obtain ⟨ds, hv, hb⟩ := FunD.binds1 (ps := ["names", "width"]) F 2 1 (List.cons_ne_nil _ _) rfl (fun T kV doc pm an cdv ct us its hl hl2 => match us, hl, its, hl2 with | [_, _], _, [_], _ => ⟨_, rfl, rfl⟩)
      cases hv
      exact hb)), (by
    exact (by
      intro _
      obtain ⟨ds, hv, hb⟩ := FunD.binds1 (ps := ["names", "width"]) F 1 0 (List.cons_ne_nil _ _) rfl (fun T kV doc pm an cdv ct us its hl hl2 => match us, hl, its, hl2 with | [_], _, [_], _ => ⟨_, rfl, rfl⟩)
      cases hv with
      | cons a r => (cases r; cases a; exact hb)))⟩)
  have t := t.cons (Nat.le_refl _) (x := "refused,width,names") (show EntG P w K mg base (fun _ => 0) _ _ (.kwd "refused" Ti.Pr.f_refused 2 ["width", "names"] [1, 0] false) from ⟨_, fd, ["names", "width"], gl, F.kp, fo, (by
    exact kwb1 F fun _ _ _ _ _ _ _ ws its hl hl2 => match ws, hl, its, hl2 with | [_, _], _, [_], _ => ⟨_, rfl, rfl⟩)⟩)
  have t := t.cons (Nat.le_refl _) (x := "refused,names") (show EntG P w K mg base (fun _ => 0) _ _ (.kwd "refused" Ti.Pr.f_refused 2 ["names"] [0, 1] false) from ⟨_, fd, ["names", "width"], gl, F.kp, fo, (by
    exact kwb1 F fun _ _ _ _ _ _ _ ws its hl hl2 => match ws, hl, its, hl2 with | [_], _, [_], _ => ⟨_, rfl, rfl⟩)⟩)
  exact t
theorem e_flow (X : K.In h) (G : h.Ns mainGlobals mg) (c : He.SaysD Hd.fa Hd.fn K) {base : Heap} (hB : ∀ x ∈ B, mg x = none) (t : Tb P w K mg base (fun _ => 0) 27 T27) : Tb P w K mg base (fun _ => 0) 28 T28 := by
  obtain ⟨fd, F⟩ := c.def_ 18 (d := Hd.mkD 27 "flow" [.non]) rfl
  have gl := He.glo_ok X G (c.fact 20 (f := .glo "flow") rfl)
  have fo := def_ok (N := ["names", "width", "found", "name"]) (m := Ti.Pr.b_flow) (md := .top) F s_flow t hB c_flow
  have t := t.cons (Nat.le_succ _) (x := "flow") (show EntG P w K mg base (fun _ => 0) _ _ (.fn Ti.Pr.f_flow ["names", "width"] 1 true) from ⟨_, fd, gl, F.kp, fo, (by
    exact (by
      obtain ⟨ds, hv, hb⟩ := FunD.binds1 (ps := ["names", "width"]) F 2 1 (List.cons_ne_nil _ _) rfl (fun T kV doc pm an cdv ct us its hl hl2 => match us, hl, its, hl2 with | [_, _], _, [_], _ => ⟨_, rfl, rfl⟩)
      cases hv
      exact hb)), (by
    exact (by
      intro _
      obtain ⟨ds, hv, hb⟩ := FunD.binds1 (ps := ["names", "width"]) F 1 0 (List.cons_ne_nil _ _) rfl (fun T kV doc pm an cdv ct us its hl hl2 => match us, hl, its, hl2 with | [_], _, [_], _ => ⟨_, rfl, rfl⟩)
      cases hv with
      | cons a r => (cases r; cases a; exact hb)))⟩)
  have t := t.cons (Nat.le_refl _) (x := "flow,width,names") (show EntG P w K mg base (fun _ => 0) _ _ (.kwd "flow" Ti.Pr.f_flow 2 ["width", "names"] [1, 0] true) from ⟨_, fd, ["names", "width"], gl, F.kp, fo, (by
    exact kwb1 F fun _ _ _ _ _ _ _ ws its hl hl2 => match ws, hl, its, hl2 with | [_, _], _, [_], _ => ⟨_, rfl, rfl⟩)⟩)
  have t := t.cons (Nat.le_refl _) (x := "flow,names") (show EntG P w K mg base (fun _ => 0) _ _ (.kwd "flow" Ti.Pr.f_flow 2 ["names"] [0, 1] true) from ⟨_, fd, ["names", "width"], gl, F.kp, fo, (by
    exact kwb1 F fun _ _ _ _ _ _ _ ws its hl hl2 => match ws, hl, its, hl2 with | [_], _, [_], _ => ⟨_, rfl, rfl⟩)⟩)
  exact t
theorem e_hand_out_base (X : K.In h) (G : h.Ns mainGlobals mg) (c : He.SaysD Hd.fa Hd.fn K) {base : Heap} (hB : ∀ x ∈ B, mg x = none) (t : Tb P w K mg base (fun _ => 0) 28 T28) : Tb P w K mg base (fun _ => 0) 29 T29 := by
  obtain ⟨fd, F⟩ := c.def_ 19 (d := Hd.mkD 28 "hand_out_base" []) rfl
  have gl := He.glo_ok X G (c.fact 21 (f := .glo "hand_out_base") rfl)
  have fo := def_ok (N := ["names", "found", "name", "got", "number"]) (m := Ti.Pr.b_hand_out_base) (md := .top) F s_hand_out_base t hB c_hand_out_base
  have t := t.cons (Nat.le_succ _) (x := "hand_out_base") (show EntG P w K mg base (fun _ => 0) _ _ (.fn Ti.Pr.f_hand_out_base ["names"] 0 true) from ⟨_, fd, gl, F.kp, fo, (by
    exact F.bindsN fun _ _ _ _ _ _ us hl => match us, hl with | [_], _ => rfl), (by
    exact fun h => nomatch h)⟩)
  have t := t.cons (Nat.le_refl _) (x := "hand_out_base,names") (show EntG P w K mg base (fun _ => 0) _ _ (.kwd "hand_out_base" Ti.Pr.f_hand_out_base 1 ["names"] [0] true) from ⟨_, fd, ["names"], gl, F.kp, fo, (by
    exact kwb0 F fun _ _ _ _ _ _ ws hl => match ws, hl with | [_], _ => rfl)⟩)
  exact t
theorem law_facts (X : K.In h) (G : h.Ns mainGlobals mg) {fA : Addr} (hfa : mg ("law" : Str) = some (.ref fA)) (c : He.SaysD Hd.fa Hd.fn K) :
    ∃ fd : FuncData, (∀ (s : Shared) (v : Value), BindsTo s fd ⟨[v], []⟩ [("_law_script", v)]) ∧ ∀ base : Heap, K.In base → base.Ns mainGlobals mg → FnG P w K mg base CX0 30 fA fd ["_law_script"] (spRun K (fun _ => 0) 1 f_law) := by
  obtain ⟨fd, F⟩ := c.def_ 29 (d := Hd.mkD 39 "law" []) rfl
  have e := hfa.symm.trans (He.glo_ok X G (c.fact 31 (f := .glo "law") rfl))
  cases e
  have b := FunD.bindsA (ps := ["_law_script"]) F fun _ _ _ _ _ _ us hl => match us, hl with | [_], _ => rfl
  refine ⟨fd, fun s v => b s [v] rfl, fun base _ _ => ?_⟩
  obtain ⟨hB, t0⟩ := facts (P := P) (w := w) X G c base
  have t := e_hand_out_base X G c hB (e_flow X G c hB (e_refused X G c hB (e_tries X G c hB (e_taken X G c hB (e_flowing X G c hB (e_hand_out X G c hB (e_handed X G c hB (e_first_free X G c hB (e_after X G c hB (e_parts X G c hB (e_check_things X G c hB (e_check_fitting_names X G c hB (e_fits X G c hB (e_check_width X G c hB (e_is_width X G c hB (e_is_whole X G c hB (e_check_names X G c hB (e_are_names X G c hB (e_is_name X G c hB (e__law_things X G c hB (e__law_wish X G c hB (e__law_ending X G c hB (e__law_stems X G c hB (e__law_text X G c hB (e__law_width X G c hB (e__law_draw X G c hB (e__law_mixed X G c hB (e__law_purse X G c hB (t0)))))))))))))))))))))))))))))
  have r := def_ok (N := ["_law_script", "_law_cell", "_law_purse_here", "_law_things_here", "_law_size"]) (m := b_law) (md := .deep) F s_law t hB c_law
  exact r
end
end Bd
open PySem PySem.W PySem.Calls PyProof.Rows
theorem the_end (hl : ∀ ns : List Int, ns.length ≤ 63 → Bd.f_law [.scr ns] [] = .ok (.bl true, [])) : PySem.Challenge.rw_takennames_k16_folders_by_name.Holds := by
  w_on; o_law
  refine HandSHeadRun.head_any (r := OpenLaw.row PySem.Challenge.rw_takennames_k16_folders_by_name) (q := view (OpenLaw.row PySem.Challenge.rw_takennames_k16_folders_by_name).prog [39]) (H := Hd.hk) (ob := Hd.ob) (M := 4000) (loose := Hd.loose) (d := HandSHeadRun.topDef (OpenLaw.row PySem.Challenge.rw_takennames_k16_folders_by_name).prog 39) (kwd := []) Hd.ob_eq
    (by kernel_rfl) (fun s => by kernel_rfl) Hd.run (by kernel_rfl) (by kernel_rfl) (by kernel_rfl) (by rfl) (by first | assumption | decide +kernel) (by decide +kernel) ⟨rfl, rfl, rfl, rfl, rfl, by decide +kernel⟩ ?hw ?hc
  case hw => w_witness2
  case hc =>
    refine Ti.walk_G (l := PySem.Challenge.rw_takennames_k16_folders_by_name) (n := 63) (k := 30) (x := "_law_script") (CX := L2.CX0) rfl (by decide) (by kernel_rfl) ⟨rfl, by decide, by decide⟩ ?F (fun _ _ _ _ z => z)
    intro w mg fa h Y G hmg0
    obtain ⟨K, KX, c⟩ := Y
    have hmg : mg ("law" : PySem.Str) = some (.ref fa) := by
      have e : (HandSHeadRun.topDef (OpenLaw.row PySem.Challenge.rw_takennames_k16_folders_by_name).prog 39).name = ("law" : PySem.Str) := by kernel_rfl
      rw [← e]
      exact hmg0
    obtain ⟨fd, hb, hF⟩ := Bd.law_facts (P := (PySem.Challenge.rw_takennames_k16_folders_by_name).prog) (w := w) KX G hmg c
    exact ⟨K, fd, _, KX, hb, fun H a ns hl' _ hS => Ti.sp_start hl H a ns hl' hS, hF⟩


theorem PySem.Challenge.cw_takennames_k16_folders_by_name_holds : PySem.Challenge.rw_takennames_k16_folders_by_name.Holds :=
  the_end (fun ns _ => Bd.law_ok ns)
