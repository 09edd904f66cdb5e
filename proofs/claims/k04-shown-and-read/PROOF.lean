import PyProof.Rows.All
import Wide.All
import OpenK.AllK
import Wide.FinOn
import HandS.ForMost
import HandS.Exc
import HandS.WordsExc
import HandS.IsInst
import HandS.TupAny
import HandS.TupMul
import HandS.Deep
import HandS.DeepEq
import HandS.SortInts
import HandS.Defaults
import HandS.Flow
import HandS.Strs
import HandS.HeadHook1
import HandS.Wide
import HandS.TupLe
import HandS.WideBits
import HandS.RaiseMore
import HandS.SetFor
import HandS.Style
import HandS.Conv
import HandS.Zip
import HandS.Zip0
import HandS.Iter
import PyProof.Draws
import HandS.TryOnly
import HandS.Small
import HandS.HeadHook2
import HandS.Codes
import HandS.Text
import HandS.Head0
import HandS.Head1
import HandS.Head2
import HandS.HeadEnd
import PySem.Challenge.RW_asitruns_k04_whole_shown_and_read
set_option Elab.async false
set_option linter.all false
set_option maxRecDepth 100000
/-! Pv, part A: values, places, the small language, its evaluator. -/
namespace Pv
open PySem L2

/-- data by value; z: may only be read -/
inductive D where
  | non | bl (b : Bool) | int (i : Int) | str (x : Str)
  | tup (l : List D)
  | lst (z : Bool) (l : List D)
  | dk (z : Bool) (ks : List Key) (l : List D)
  | dt (z : Bool) (ks : List (List Key)) (l : List D)
  | ins (z : Bool) (c : Str) (ns : List Str) (l : List D)
  | glo (x : Str)
  | hole (i : Nat)
  deriving Inhabited

mutual
/-- nothing in it is owned by the place that holds it -/
def D.imm : D → Bool
  | .tup l => immL l
  | .lst z _ => z
  | .dk z _ _ => z
  | .dt z _ _ => z
  | .ins z _ _ _ => z
  | .hole _ => false
  | .non => true
  | .bl _ => true
  | .int _ => true
  | .str _ => true
  | .glo _ => true
def immL : List D → Bool
  | [] => true
  | d :: r => d.imm && immL r
end

mutual
/-- no hole, no read-only list in it -/
def D.cln : D → Bool
  | .tup l => clnL l
  | .lst z l => !z && clnL l
  | .dk z _ l => !z && clnL l
  | .dt z _ l => !z && clnL l
  | .ins z _ _ l => !z && clnL l
  | .hole _ => false
  | .non => true
  | .bl _ => true
  | .int _ => true
  | .str _ => true
  | .glo _ => true
def clnL : List D → Bool
  | [] => true
  | d :: r => d.cln && clnL r
end

mutual
/-- no hole in it (a read-only thing has none) -/
def D.noh : D → Bool
  | .tup l => nohL l
  | .lst z l => z || nohL l
  | .dk z _ l => z || nohL l
  | .dt z _ l => z || nohL l
  | .ins z _ _ l => z || nohL l
  | .hole _ => false
  | .non => true
  | .bl _ => true
  | .int _ => true
  | .str _ => true
  | .glo _ => true
def nohL : List D → Bool
  | [] => true
  | d :: r => d.noh && nohL r
end

mutual
/-- a copy that may only be read -/
def D.ro : D → D
  | .tup l => .tup (roL l)
  | .lst _ l => .lst true (roL l)
  | .dk _ ks l => .dk true ks (roL l)
  | .dt _ ks l => .dt true ks (roL l)
  | .ins _ c ns l => .ins true c ns (roL l)
  | .hole i => .hole i
  | .non => .non
  | .bl b => .bl b
  | .int i => .int i
  | .str x => .str x
  | .glo x => .glo x
def roL : List D → List D
  | [] => []
  | d :: r => d.ro :: roL r
end

/-- the key of a dict -/
def D.key : D → Option Key
  | .int i => some (.inl i)
  | .str x => some (.inr x)
  | _ => none
def keysOf : List D → Option (List Key)
  | [] => some []
  | d :: r => match d.key, keysOf r with
    | some k, some ks => some (k :: ks)
    | _, _ => none
def D.keyT : D → Option (List Key)
  | .tup l => keysOf l
  | _ => none

/-- the thing at a key -/
def look {κ : Type} [DecidableEq κ] (k : κ) : List κ → List D → Option D
  | a :: ks, d :: l => if a = k then some d else look k ks l
  | _, _ => none
/-- the keys and things behind d[k] = v -/
def putKs {κ : Type} [DecidableEq κ] (k : κ) : List κ → List κ
  | [] => [k]
  | a :: ks => if a = k then a :: ks else a :: putKs k ks
def putDs {κ : Type} [DecidableEq κ] (k : κ) (v : D) : List κ → List D → List D
  | a :: ks, d :: l => if a = k then v :: l else d :: putDs k v ks l
  | _, _ => [v]
def dropKs {κ : Type} [DecidableEq κ] (k : κ) : List κ → List κ
  | [] => []
  | a :: ks => if a = k then ks else a :: dropKs k ks
def dropDs {κ : Type} [DecidableEq κ] (k : κ) : List κ → List D → List D
  | a :: ks, d :: l => if a = k then l else d :: dropDs k ks l
  | _, l => l

/-- a step into a thing -/
inductive Stp where
  | fld (f : Str) | ix (i : Nat) | key (k : Key)
  deriving DecidableEq
def get1 : D → Stp → Option D
  | .ins false _ ns l, .fld f => look f ns l
  | .lst false l, .ix i => l[i]?
  | .dk false ks l, .key k => look k ks l
  | _, _ => none
def setK {κ : Type} [DecidableEq κ] (k : κ) (v : D) : List κ → List D → List D
  | a :: ks, d :: l => if a = k then v :: l else d :: setK k v ks l
  | _, l => l
def set1 : D → Stp → D → D
  | .ins z c ns l, .fld f, v => .ins z c ns (setK f v ns l)
  | .lst z l, .ix i, v => .lst z (l.set i v)
  | .dk z ks l, .key k, v => .dk z ks (setK k v ks l)
  | d, _, _ => d
def getQ : D → List Stp → Option D
  | d, [] => some d
  | d, s :: q => match get1 d s with
    | some d' => getQ d' q
    | none => none
def setQ : D → List Stp → D → D
  | _, [], v => v
  | d, s :: q, v => match get1 d s with
    | some d' => set1 d s (setQ d' q v)
    | none => d

/-- a slot: nothing, a thing of its own, a thing lent to it by number h from the place (r, q), another name of the place (r, q) -/
inductive Slot where
  | no | own (d : D) | lent (h r : Nat) (q : List Stp) (d : D) | al (r : Nat) (q : List Stp)
  deriving Inhabited
/-- the slots, and how many loans were made -/
structure Env where
  nl : Nat
  s : List Slot
def Slot.d? : Slot → Option D
  | .own d => some d
  | .lent _ _ _ d => some d
  | _ => none
def Slot.put : Slot → D → Slot
  | .own _, d => .own d
  | .lent h r q _, d => .lent h r q d
  | x, _ => x
def own (ρ : Env) (i : Nat) : Option D := match ρ.s[i]? with
  | some x => x.d?
  | none => none
def getP (ρ : Env) (r : Nat) (q : List Stp) : Option D := match own ρ r with
  | some d => getQ d q
  | none => none
def putP (ρ : Env) (r : Nat) (q : List Stp) (v : D) : Env := match ρ.s[r]? with
  | some x => (match x.d? with
    | some d => { ρ with s := ρ.s.set r (x.put (setQ d q v)) }
    | none => ρ)
  | none => ρ

/-- an exception: its class, its field row -/
structure Exn where
  c : Str
  row : Option D
inductive Res (α : Type) where
  | ok (a : α) (ρ : Env) | ex (x : Exn) (ρ : Env) | no
def Res.bind {α β : Type} : Res α → (α → Env → Res β) → Res β
  | .ok a ρ, f => f a ρ
  | .ex x ρ, _ => .ex x ρ
  | .no, _ => .no
def Res.of {α : Type} (o : Option α) (ρ : Env) : Res α := match o with
  | some a => .ok a ρ
  | none => .no
/-- a call's end: what is told and what the arguments are then -/
inductive CRes where
  | ok (d : D) (l : List D) | ex (x : Exn) (l : List D) | no
abbrev FId := Str × Option Str
abbrev CallT := FId → List D → CRes

/-- an operand: a thing, or the place of a thing that is owned -/
inductive Od where
  | v (d : D) | p (r : Nat) (q : List Stp)
def Od.rd (o : Od) (ρ : Env) : Option D := match o with
  | .v d => some d
  | .p r q => getP ρ r q

inductive Bin where | add | sub | mul | fdiv | mod | pow | shl | shr | band
  deriving DecidableEq
inductive Cm where | eq | ne | lt | le | gt | ge | isN | isNot | inn | nin
  deriving DecidableEq
inductive Bi where | len | int | str | tuple | list | max | min | sum | sorted | all | dict | bool
  deriving DecidableEq
inductive Bm where | append | extend | insert | remove | pop | popAt | clear | reverse | indexL | indexT | dget1 | dget2 | dpop1 | dpop2 | setdefault | join | split | upper | find
  deriving DecidableEq
/-- classes that isinstance asks for -/
inductive Ty where | int | bool | str | tuple | list | dict | own (c : Str)
  deriving DecidableEq

mutual
inductive Ex where
  | var (i : Nat) | glo (x : Str)
  | non | bl (b : Bool) | int (i : Int) | str (x : Str)
  | tup (l : List Ex) | lst (l : List Ex) | dic (t : Bool) (ks vs : List Ex)
  | bin (o : Bin) (a b : Ex) | neg (a : Ex)
  | cmp (o : Cm) (a b : Ex) | chn (o p : Cm) (a b c : Ex)
  | not (a : Ex) | bop (and : Bool) (a b : Ex) | ite (c a b : Ex)
  | idx (a i : Ex) | sli (a : Ex) (lo hi : List Ex) | rev (a : Ex)
  | att (a : Ex) (f : Str)
  | call (f : Str) (l : List Ex) | meth (o : Ex) (m : Str) (l : List Ex) | make (c : Str) (l : List Ex)
  | bi (b : Bi) (l : List Ex) | bm (b : Bm) (o : Ex) (l : List Ex) | isi (a : Ex) (tup : Bool) (ts : List Ty)
  | lc (t : Tg) (own : List Nat) (e : Ex) (it : It) (g : Nat) (c : List Ex)
  | mv (i : Nat) | fz (a : Ex) | ro (a : Ex)
  | rgl (a : Ex) | rg2 (a b : Ex) | cmpl (ne : Bool) (a : Ex) (l : List Ex)
inductive Tg where
  | nm (i : Nat) | tp (l : List Tg) | at (o : Ex) (f : Str) | ix (o i : Ex)
inductive It where
  | ex (e : Ex) | rng (l : List Ex) | enu (e : Ex) | zip (a b : Ex)
end

inductive Sx where
  | expr (e : Ex) | asg (t : Tg) (e : Ex) | aug (t : Tg) (o : Bin) (e : Ex)
  | ret (e : Ex) | ite (c : Ex) (a b : List Sx)
  | for (t : Tg) (it : It) (g : Nat) (b : List Sx) | whl (c : Ex) (b : List Sx)
  | brk | cnt | pass | rais (c : Str) (l : List Ex)
  | trye (b : List Sx) (c : Str) (x : Option Nat) (h : List Sx)

/-! ### values reckoned -/
def binD : Bin → D → D → Option D
  | .add, .int i, .int j => some (.int (i + j))
  | .add, .str x, .str y => if x.length + y.length ≤ sizeLine then some (.str (x ++ y)) else none
  | .add, .tup a, .tup b => if immL a && immL b && decide (a.length + b.length ≤ sizeLine) then some (.tup (a ++ b)) else none
  | .add, .lst _ a, .lst _ b => if immL a && immL b && decide (a.length + b.length ≤ sizeLine) then some (.lst false (a ++ b)) else none
  | .sub, .int i, .int j => some (.int (i - j))
  | .mul, .int i, .int j => if i.natAbs.log2 + j.natAbs.log2 < 1000000 then some (.int (i * j)) else none
  | .mul, .tup a, .int k => if immL a && decide (-1000000 ≤ k) && decide (k ≤ 1000) && decide (a.length ≤ 1000) then some (.tup (List.replicate k.toNat a).flatten) else none
  | .mul, .lst false a, .int k => if immL a && decide (0 ≤ k) && decide (k ≤ 1000) && decide (a.length ≤ 1000) then some (.lst false (List.replicate k.toNat a).flatten) else none
  | .fdiv, .int i, .int j => if 0 < j ∧ j.natAbs.log2 < 9000 then some (.int (i / j)) else none
  | .mod, .int i, .int j => if 0 < j then some (.int (i % j)) else none
  | .pow, .int i, .int j => if 0 ≤ j ∧ j ≤ 1000000 ∧ i.natAbs < 2 ^ 64 then some (.int (i ^ j.toNat)) else none
  | .shl, .int i, .int j => if 0 ≤ j ∧ j ≤ 1000000 ∧ i.natAbs < 2 ^ 64 then some (.int (i * 2 ^ j.toNat)) else none
  | .shr, .int i, .int j => if 0 ≤ j then some (.int (i / 2 ^ j.toNat)) else none
  | .band, .int i, .int j => if j = 1 then some (.int (i % 2)) else none
  | _, _, _ => none

mutual
/-- data that == compares, n deep at most -/
def D.eqk : Nat → D → Bool
  | 0, _ => false
  | n + 1, .tup l => eqkL n l
  | n + 1, .lst _ l => eqkL n l
  | _ + 1, .str x => PyData.strOk x
  | _ + 1, .non => true
  | _ + 1, .bl _ => true
  | _ + 1, .int _ => true
  | _ + 1, _ => false
def eqkL : Nat → List D → Bool
  | _, [] => true
  | n, d :: r => d.eqk n && eqkL n r
end
mutual
def D.beq : D → D → Bool
  | .non, .non => true
  | .bl a, .bl b => a == b
  | .bl a, .int j => (if a then 1 else 0) == j
  | .int i, .bl b => i == (if b then 1 else 0)
  | .int i, .int j => decide (i = j)
  | .str x, .str y => decide (x = y)
  | .tup l, .tup m => beqL l m
  | .lst _ l, .lst _ m => beqL l m
  | _, _ => false
def beqL : List D → List D → Bool
  | [], [] => true
  | a :: l, b :: m => a.beq b && beqL l m
  | _, _ => false
end
def eqD (a b : D) : Option Bool := if a.eqk 60 && b.eqk 60 then some (a.beq b) else none
def anyEq (a : D) : List D → Bool
  | [] => false
  | b :: l => b.beq a || anyEq a l
def inD (a b : D) : Option Bool := match b with
  | .tup l => if a.eqk 60 && eqkL 60 l then some (anyEq a l) else none
  | .lst _ l => if a.eqk 60 && eqkL 60 l then some (anyEq a l) else none
  | .str y => (match a with
    | .str x => if x.cps.size = 1 then some (decide (x.cps.getD 0 0 ∈ y.cps.toList)) else none
    | _ => none)
  | .dk _ ks l => (match a.key with
    | some k => some (look k ks l).isSome
    | none => none)
  | _ => none
def isNonD : D → Option Bool
  | .hole _ => none
  | .non => some true
  | _ => some false
def isD (a b : D) : Option Bool := match b with
  | .non => isNonD a
  | .bl y => (match a with
    | .bl x => some (decide (x = y))
    | _ => none)
  | _ => none
def intCmp (f : Int → Int → Bool) (a b : D) : Option Bool := match a, b with
  | .int i, .int j => some (f i j)
  | _, _ => none
def cmpD : Cm → D → D → Option Bool
  | .eq, a, b => eqD a b
  | .ne, a, b => (eqD a b).map (! ·)
  | .lt, a, b => intCmp (fun i j => decide (i < j)) a b
  | .le, a, b => intCmp (fun i j => decide (i ≤ j)) a b
  | .gt, a, b => intCmp (fun i j => decide (j < i)) a b
  | .ge, a, b => intCmp (fun i j => decide (j ≤ i)) a b
  | .isN, a, b => isD a b
  | .isNot, a, b => (isD a b).map (! ·)
  | .inn, a, b => inD a b
  | .nin, a, b => (inD a b).map (! ·)

def truth : D → Option Bool
  | .bl b => some b
  | .int i => some (i != 0)
  | .non => some false
  | .tup l => some !l.isEmpty
  | .lst _ l => some !l.isEmpty
  | _ => none

/-- the place of an index -/
def ixOf (n : Nat) (i : Int) : Option Nat := if 0 ≤ i then (if i < n then some i.toNat else none) else if -(n : Int) ≤ i then some (i + n).toNat else none
/-- a subscript's step into a thing -/
def stepOf : D → D → Option Stp
  | .lst _ l, .int i => (ixOf l.length i).map Stp.ix
  | .dk _ _ _, k => (k.key).map Stp.key
  | _, _ => none
/-- a subscript's thing -/
def idxD : D → D → Option D
  | .lst _ l, .int i => (ixOf l.length i).bind fun j => l[j]?
  | .tup l, .int i => (ixOf l.length i).bind fun j => l[j]?
  | .str x, .int i => if x.length ≤ sizeLine then (ixOf x.cps.toList.length i).bind fun j => (x.cps.toList[j]?).map fun c => .str ⟨#[c]⟩ else none
  | .dk _ ks l, k => k.key.bind fun k => look k ks l
  | _, _ => none
def sIx (n d : Nat) : Option Int → Nat
  | none => d
  | some v => (if v < 0 then max (v + (n : Int)) 0 else min v (n : Int)).toNat
def cut {α : Type} (l : List α) (lo hi : Option Int) : List α := (l.drop (sIx l.length 0 lo)).take (sIx l.length l.length hi - sIx l.length 0 lo)
def sliD (d : D) (lo hi : Option Int) : Option D := match d with
  | .lst _ l => if immL l then some (.lst false (cut l lo hi)) else none
  | .tup l => if immL l then some (.tup (cut l lo hi)) else none
  | _ => none
def intD? : D → Option Int
  | .int i => some i
  | _ => none
def intsOf : List D → Option (List Int)
  | [] => some []
  | d :: r => match intD? d, intsOf r with
    | some i, some l => some (i :: l)
    | _, _ => none
def blsOf : List D → Option (List Bool)
  | [] => some []
  | .bl b :: r => (blsOf r).map (b :: ·)
  | _ :: _ => none
def strsOf : List D → Option (List Str)
  | [] => some []
  | .str b :: r => (strsOf r).map (b :: ·)
  | _ :: _ => none
def insI (x : Int) : List Int → List Int
  | [] => [x]
  | y :: l => if x ≤ y then x :: y :: l else y :: insI x l
def sortI : List Int → List Int
  | [] => []
  | x :: l => insI x (sortI l)
def biD : Bi → List D → Option D
  | .len, [.lst _ l] => some (.int l.length)
  | .len, [.tup l] => some (.int l.length)
  | .len, [.dk _ ks _] => some (.int ks.length)
  | .len, [.str x] => if x.length ≤ sizeLine then some (.int x.length) else none
  | .int, [.int i] => some (.int i)
  | .int, [.bl b] => some (.int (if b then 1 else 0))
  | .int, [.str x] => if x.length ≤ 640 then (PySem.intText? x).map .int else none
  | .str, [.int i] => if i.natAbs.log2 < 1920 then some (.str (Str.ofString (toString i))) else none
  | .str, [.str x] => some (.str x)
  | .tuple, [.lst _ l] => if immL l then some (.tup l) else none
  | .tuple, [.tup l] => if immL l then some (.tup l) else none
  | .list, [.lst _ l] => if immL l then some (.lst false l) else none
  | .list, [.tup l] => if immL l then some (.lst false l) else none
  | .max, [.int i, .int j] => some (.int (if j > i then j else i))
  | .min, [.int i, .int j] => some (.int (if j < i then j else i))
  | .sum, [.lst _ l] => (intsOf l).map fun ns => .int ns.sum
  | .all, [.lst _ l] => (blsOf l).map fun bs => .bl (bs.all id)
  | .sorted, [.lst _ l] => (intsOf l).map fun ns => .lst false ((sortI ns).map .int)
  | _, _ => none
/-- a built-in method: what is told, what the thing is then -/
def apD : D → List D → Option (D × D)
  | .lst false l, [x] => if l.length < sizeLine then some (.non, .lst false (l ++ [x])) else none
  | _, _ => none
def exD : D → List D → Option (D × D)
  | .lst false l, [.lst false m] => if immL m && decide (l.length + m.length ≤ sizeLine) then some (.non, .lst false (l ++ m)) else none
  | _, _ => none
def poD : D → List D → Option (D × D)
  | .lst false l, [] => (match l[l.length - 1]? with
    | some x => some (x, .lst false l.dropLast)
    | none => none)
  | _, _ => none
def paD : D → List D → Option (D × D)
  | .lst false l, [.int i] => if immL l && decide (-(2 ^ 62) ≤ i ∧ i < 2 ^ 62) then (ixOf l.length i).bind fun j => (l[j]?).map fun x => (x, .lst false (l.eraseIdx j)) else none
  | _, _ => none
def rmD : D → List D → Option (D × D)
  | .lst false l, [.int k] => (intsOf l).bind fun ns => if k ∈ ns then some (.non, .lst false ((ns.erase k).map .int)) else none
  | _, _ => none
def clD : D → List D → Option (D × D)
  | .lst false l, [] => if immL l then some (.non, .lst false []) else none
  | _, _ => none
def reD : D → List D → Option (D × D)
  | .lst false l, [] => if immL l then some (.non, .lst false l.reverse) else none
  | _, _ => none
def bmD : Bm → D → List D → Option (D × D)
  | .append => apD
  | .extend => exD
  | .pop => poD
  | .popAt => paD
  | .remove => rmD
  | .clear => clD
  | .reverse => reD
  | _ => fun _ _ => none
/-- a built-in method that changes nothing -/
def tixD : D → List D → Option D
  | .tup l, [.str z] => (strsOf l).bind fun ys => if z ∈ ys then some (.int (ys.idxOf z)) else none
  | _, _ => none
def joinD : D → List D → Option D
  | .str a, [.lst _ l] => (strsOf l).bind fun ys => if (ys.map Str.length).sum + ys.length * a.length ≤ 16777216 then some (.str (Txt.join a ys)) else none
  | _, _ => none
def splD : D → List D → Option D
  | .str a, [.str b] => if (b.length == 0) = false ∧ a.length + 2 ≤ sizeLine then some (.lst false ((Txt.split a b).map .str)) else none
  | _, _ => none
def dg1D : D → List D → Option D
  | .dk _ ks l, [k] => k.key.bind fun k => if ((look k ks l).getD .non).imm then some ((look k ks l).getD .non) else none
  | _, _ => none
def dg2D : D → List D → Option D
  | .dk _ ks l, [k, d] => k.key.bind fun k => if ((look k ks l).getD d).imm then some ((look k ks l).getD d) else none
  | _, _ => none
/-- what a method is asked of -/
def bmTy : Bm → D → Bool
  | .append, .lst _ _ => true
  | .extend, .lst _ _ => true
  | .pop, .lst _ _ => true
  | .popAt, .lst _ _ => true
  | .remove, .lst _ _ => true
  | .clear, .lst _ _ => true
  | .reverse, .lst _ _ => true
  | .indexT, .tup _ => true
  | .join, .str _ => true
  | .split, .str _ => true
  | .dget1, .dk false _ _ => true
  | .dget2, .dk false _ _ => true
  | _, _ => false
/-- it changes nothing -/
def Bm.isP : Bm → Bool
  | .indexT => true
  | .join => true
  | .split => true
  | .dget1 => true
  | .dget2 => true
  | _ => false
def bmP : Bm → D → List D → Option D
  | .indexT => tixD
  | .join => joinD
  | .split => splD
  | .dget1 => dg1D
  | .dget2 => dg2D
  | _ => fun _ _ => none
def tyS : Ty → String
  | .int => "int" | .bool => "bool" | .str => "str" | .tuple => "tuple" | .list => "list" | .dict => "dict" | .own _ => ""
def tyN : D → Option String
  | .int _ => some "int" | .bl _ => some "bool" | .str _ => some "str" | .tup _ => some "tuple" | .lst _ _ => some "list" | .non => some "NoneType" | .dk _ _ _ => some "dict"
  | _ => none
def isTy (d : D) (t : Ty) : Option Bool := match d, t with
  | _, .own _ => none
  | .int _, t => some (decide (t = .int))
  | .bl _, t => some (decide (t = .int) || decide (t = .bool))
  | .str _, t => some (decide (t = .str))
  | .tup _, t => some (decide (t = .tuple))
  | .lst _ _, t => some (decide (t = .list))
  | .non, _ => some false
  | .dk _ _ _, t => some (decide (t = .dict))
  | _, _ => none
def isAny (d : D) : List Ty → Option Bool
  | [] => some false
  | t :: ts => match isTy d t, isAny d ts with
    | some b, some c => some (b || c)
    | _, _ => none

/-- items walked in a slice -/
def revD : D → Option D
  | .lst _ l => if immL l then some (.lst false l.reverse) else none
  | .tup l => if immL l then some (.tup l.reverse) else none
  | _ => none

/-- the numbers from a on, b left out -/
def rgI (a b : Int) : List Int := (List.range (b - a).toNat).map fun i => a + (i : Nat)
/-! ### the evaluator -/
mutual
/-- nothing that is owned is changed -/
def Ex.pur : Ex → Bool
  | .tup l => purL l
  | .lst l => purL l
  | .bin _ a b => a.pur && b.pur
  | .neg a => a.pur
  | .cmp _ a b => a.pur && b.pur
  | .chn _ _ a b c => a.pur && b.pur && c.pur
  | .not a => a.pur
  | .bop _ a b => a.pur && b.pur
  | .ite c a b => c.pur && a.pur && b.pur
  | .idx a b => a.pur && b.pur
  | .sli a l m => a.pur && purL l && purL m
  | .att a _ => a.pur
  | .bi _ l => purL l
  | .isi a _ _ => a.pur
  | .ro a => a.pur
  | .var _ => true
  | .glo _ => true
  | .non => true
  | .bl _ => true
  | .int _ => true
  | .str _ => true
  | _ => false
def purL : List Ex → Bool
  | [] => true
  | e :: r => e.pur && purL r
end
def Od.okb (o : Od) (b : Bool) : Bool := match o with
  | .v _ => true
  | .p _ [] => true
  | .p _ _ => b
def Od.mk (d : D) (r : Nat) (q : List Stp) : Od := if d.imm then .v d else .p r q
/-- a part x of the operand o that is read by the step s -/
def Od.part (o : Od) (d : D) (s : Option Stp) (x : D) : Option Od := match o with
  | .v _ => some (.v x)
  | .p r q => if x.imm then some (.v x) else if d.imm then none else s.map fun s => .p r (q ++ [s])
def allV : List Od → Option (List D)
  | [] => some []
  | .v d :: r => (allV r).map (d :: ·)
  | .p _ _ :: _ => none
def rdAll (ρ : Env) : List Od → Option (List D)
  | [] => some []
  | o :: r => match o.rd ρ, rdAll ρ r with
    | some d, some l => some (d :: l)
    | _, _ => none

/-- the module's table: constants -/
structure Tab where
  con : List (Str × D)
  cls : List Str
  flds : List Str
  /-- the defaults of defs: whole numbers -/
  dfl : List (Str × List Int)
  /-- the last parameters of defs that are called by them -/
  kwn : List (Str × Str)
  /-- slots that may be other names of places, in the def that is done -/
  al : List (Nat × Nat × List Stp)
abbrev AlT : Type := List (Nat × Nat × List Stp)
/-- other names lie in the slot r -/
def tgt (A : AlT) (r : Nat) : Bool := A.any fun a => a.2.1 == r
/-- a slot that may not be stored -/
def lk (A : AlT) (fx : List Nat) (i : Nat) : Bool := fx.contains i || tgt A i
/-- a slot that owns nothing -/
def Slot.free : Slot → Bool
  | .no => true
  | .al _ _ => true
  | .own d => d.imm
  | .lent _ _ _ _ => false
def Slot.dead : Slot → Slot
  | .al _ _ => .no
  | x => x
/-- other names of places for which c is so are gone -/
def killS (c : Nat → List Stp → Bool) : AlT → List Slot → List Slot
  | [], s => s
  | a :: A, s => killS c A (if c a.2.1 a.2.2 then s.modify a.1 Slot.dead else s)
def killE (A : AlT) (c : Nat → List Stp → Bool) (ρ : Env) : Env := { ρ with s := killS c A ρ.s }
/-- q' lies in the thing at q -/
def below (r : Nat) (q : List Stp) (r' : Nat) (q' : List Stp) : Bool := r == r' && (q.isPrefixOf q' && decide (q.length < q'.length))
/-- q' lies in the part of the thing at q that the key k names -/
def belowK (r : Nat) (q : List Stp) (k : D) (r' : Nat) (q' : List Stp) : Bool := r == r' && (q.isPrefixOf q' && match q'.drop q.length with
  | [] => false
  | s :: _ => (match k, s with
    | .int i, .ix j => decide (i < 0) || i.toNat == j
    | _, .ix _ => true
    | k, .key x => decide (k.key = some x) || (k.key).isNone
    | _, .fld _ => true))
def belowF (r : Nat) (q : List Stp) (f : Str) (r' : Nat) (q' : List Stp) : Bool := r == r' && (q.isPrefixOf q' && match q'.drop q.length with
  | [] => false
  | .fld g :: _ => decide (f = g)
  | _ :: _ => true)

/-- one place does not lie in the other -/
def apart1 : Nat × List Stp → Nat × List Stp → Bool
  | (r, q), (r', q') => r != r' || !(q.isPrefixOf q' || q'.isPrefixOf q)
def Od.plc : Od → List (Nat × List Stp)
  | .v _ => []
  | .p r q => [(r, q)]
/-- arguments: each with whether it may only be read -/
def apartA : List (Bool × Od) → Bool
  | [] => true
  | (_, .v _) :: l => apartA l
  | (z, .p r q) :: l => (l.all fun a => (z && a.1) || (a.2.plc.all fun p => apart1 (r, q) p)) && apartA l
def argD (ρ : Env) : Bool × Od → Option D
  | (_, .v d) => if ρ.nl == 0 || d.noh then some d else none
  | (true, .p r q) => (getP ρ r q).bind fun d => if ρ.nl == 0 || d.noh then some d.ro else none
  | (false, .p r q) => (getP ρ r q).bind fun d => if ρ.nl == 0 || d.noh then some d else none
def argDs (ρ : Env) : List (Bool × Od) → Option (List D)
  | [] => some []
  | a :: l => match argD ρ a, argDs ρ l with
    | some d, some ds => some (d :: ds)
    | _, _ => none
def backA : List (Bool × Od) → List D → Env → Env
  | (false, .p r q) :: l, d :: ds, ρ => backA l ds (putP ρ r q d)
  | _ :: l, _ :: ds, ρ => backA l ds ρ
  | _, _, ρ => ρ
/-- where something may only be read, nothing of it is told or kept -/
def okRo (as : List (Bool × Od)) (d : D) (ds : List D) : Bool :=
  !(as.any fun a => match a with | (true, .p _ _) => true | _ => false) || (d.cln && (as.zip ds).all fun a => match a.1 with | (false, .p _ _) => a.2.cln | _ => true)
/-- what lies in things that a call may change -/
def belowA (as : List (Bool × Od)) (r' : Nat) (q' : List Stp) : Bool := as.any fun a => match a with
  | (false, .p r q) => below r q r' q'
  | _ => false
def doCall (A : AlT) (cl : CallT) (f : FId) (as : List (Bool × Od)) (ρ : Env) : Res Od :=
  if apartA as then
    match argDs ρ as with
    | some ds => (match cl f ds with
      | .ok d l => if okRo as d l && decide (l.length = as.length) then .ok (.v d) (killE A (belowA as) (backA as l ρ)) else .no
      | .ex x l => .ex x (killE A (belowA as) (backA as l ρ))
      | .no => .no)
    | none => .no
  else .no
def Ex.isRo : Ex → Bool
  | .ro _ => true
  | _ => false

/-- what a for or a comprehension walks: the slot that has it, how many -/
inductive Walk where
  | seq (t : Bool) (g n : Nat) | enu (g n : Nat) | enut (g n : Nat) | rng (lo c : Int) (n : Nat) | chs (x : Str) | zip (g g2 n : Nat)
/-- a tuple or a list, and how long -/
def seqOf : D → Option (Bool × Nat)
  | .lst _ l => some (false, l.length)
  | .tup l => some (true, l.length)
  | _ => none
def itemsOf : D → Option (List D)
  | .lst _ l => some l
  | .tup l => some l
  | _ => none
def Walk.len : Walk → Nat
  | .seq _ _ n => n
  | .enu _ n => n
  | .enut _ n => n
  | .rng _ _ n => n
  | .chs x => x.cps.size
  | .zip _ _ n => n
/-- what is walked is there, as long as it was -/
def Walk.there (ρ : Env) : Walk → Bool
  | .seq t g n => match own ρ g with
    | some d => decide (seqOf d = some (t, n))
    | none => false
  | .enu g n => match own ρ g with
    | some d => decide (seqOf d = some (false, n))
    | none => false
  | .enut g n => match own ρ g with
    | some d => decide (seqOf d = some (true, n))
    | none => false
  | .rng _ _ _ => true
  | .chs _ => true
  | .zip g g2 n => match own ρ g, own ρ g2 with
    | some (.tup l), some (.tup m) => decide (min l.length m.length = n)
    | _, _ => false
/-- the item of a turn (it must not be owned) -/
def Walk.item (ρ : Env) (i : Nat) : Walk → Option D
  | .seq _ g _ => ((own ρ g).bind itemsOf).bind fun l => l[i]?.bind fun d => if d.imm then some d else none
  | .enu g _ => ((own ρ g).bind itemsOf).bind fun l => l[i]?.bind fun d => if d.imm then some (.tup [.int i, d]) else none
  | .enut g _ => ((own ρ g).bind itemsOf).bind fun l => l[i]?.bind fun d => if d.imm then some (.tup [.int i, d]) else none
  | .rng lo c _ => some (.int (lo + i * c))
  | .chs x => (x.cps[i]?).map fun c => .str ⟨#[c]⟩
  | .zip g g2 _ => match own ρ g, own ρ g2 with
    | some (.tup l), some (.tup m) => (match l[i]?, m[i]? with
      | some x, some y => if x.imm && y.imm then some (.tup [x, y]) else none
      | _, _ => none)
    | _, _ => none
def Walk.fx : Walk → List Nat → List Nat
  | .seq _ g _, fx => g :: fx
  | .enu g _, fx => g :: fx
  | .enut g _, fx => g :: fx
  | .rng _ _ _, fx => fx
  | .chs _, fx => fx
  | .zip g g2 _, fx => g :: g2 :: fx
def setS (ρ : Env) (i : Nat) (x : Slot) : Env := { ρ with s := ρ.s.set i x }
def asgN (A : AlT) (fx : List Nat) (i : Nat) (d : D) (ρ : Env) : Res Unit :=
  if lk A fx i then .no
  else match ρ.s[i]? with
    | some .no => .ok () (setS ρ i (.own d))
    | some (.own _) => .ok () (setS ρ i (.own d))
    | some (.al _ _) => .ok () (setS ρ i (.own d))
    | _ => .no
def ixSet : D → D → D → Option D
  | .lst false l, .int i, v => (ixOf l.length i).map fun j => .lst false (l.set j v)
  | .dk false ks l, k, v => if ks.length < 100000 then k.key.map fun k => .dk false (putKs k ks) (putDs k v ks l) else none
  | _, _, _ => none
def fldSet : D → Str → D → Option D
  | .ins false c ns l, f, v => if ns.length < 900 then some (.ins false c (putKs f ns) (putDs f v ns l)) else none
  | _, _, _ => none
/-- targets by names alone -/
def tgNames : List Tg → Option (List Nat)
  | [] => some []
  | .nm i :: r => (tgNames r).map (i :: ·)
  | _ :: _ => none
def asgNs (A : AlT) (fx : List Nat) : List Nat → List D → Env → Res Unit
  | [], [], ρ => .ok () ρ
  | i :: is, d :: ds, ρ => (asgN A fx i d ρ).bind fun _ ρ => asgNs A fx is ds ρ
  | _, _, _ => .no
/-- what is unpacked: a tuple, a list that may only be read; a list that is at hand -/
def unpI : D → Option (List D)
  | .tup l => some l
  | .lst true l => some l
  | _ => none
def unpD : D → Option (List D)
  | .tup l => some l
  | .lst _ l => some l
  | _ => none
/-- a turn's target: a name, or a tuple of names -/
def asgI (A : AlT) (fx : List Nat) : Tg → D → Env → Res Unit
  | .nm i, d, ρ => asgN A fx i d ρ
  | .tp l, d, ρ => (match unpI d, tgNames l with
    | some ds, some is => asgNs A fx is ds ρ
    | _, _ => .no)
  | _, _, _ => .no
def lcLoop (w : Walk) (t : D → Env → Res Unit) (c : Env → Res Bool) (e : Env → Res Od) : Nat → Nat → List D → Env → Res (List D)
  | 0, _, acc, ρ => if w.there ρ then .ok acc ρ else .no
  | m + 1, i, acc, ρ => if w.there ρ then (match w.item ρ i with
    | some d => (t d ρ).bind fun _ ρ => (c ρ).bind fun b ρ => if b then (e ρ).bind fun o ρ => (match o with
        | .v y => if acc.length < sizeLine then lcLoop w t c e m (i + 1) (acc ++ [y]) ρ else .no
        | _ => .no) else lcLoop w t c e m (i + 1) acc ρ
    | none => .no) else .no
/-- the slots i of ρ' as in ρ -/
def backS (ρ : Env) : List Nat → Env → Env
  | [], ρ' => ρ'
  | i :: r, ρ' => backS ρ r (setS ρ' i (ρ.s.getD i .no))
def wipeS : List Nat → Env → Env
  | [], ρ => ρ
  | i :: r, ρ => wipeS r (setS ρ i .no)
def Walk.gone (w : Walk) (g : Nat) (ρ : Env) : Env := match w with
  | .rng _ _ _ => ρ
  | .chs _ => ρ
  | .zip _ _ _ => ρ
  | _ => setS ρ g .no

/-- a display's keys: written numbers and texts -/
def cKeys : List Ex → Option (List Key)
  | [] => some []
  | .int i :: r => (cKeys r).map (.inl i :: ·)
  | .str x :: r => (cKeys r).map (.inr x :: ·)
  | _ :: _ => none
section
variable (T : Tab) (cl cm : CallT)
def truO (o : Od) (ρ : Env) : Res Bool := Res.of ((o.rd ρ).bind truth) ρ
mutual
def evalO : Ex → List Nat → Env → Res Od
  | .var i, _, ρ => (match ρ.s[i]? with
    | some (.own d) => .ok (.mk d i []) ρ
    | some (.al r q) => (match getP ρ r q with
      | some d => if d.imm then .no else .ok (.p r q) ρ
      | none => .no)
    | _ => .no)
  | .glo x, _, ρ => Res.of ((T.con.lookup x).map .v) ρ
  | .non, _, ρ => .ok (.v .non) ρ
  | .bl b, _, ρ => .ok (.v (.bl b)) ρ
  | .int i, _, ρ => .ok (.v (.int i)) ρ
  | .str x, _, ρ => .ok (.v (.str x)) ρ
  | .tup l, fx, ρ => (evalOs l fx ρ).bind fun os ρ => if l.length ≤ 1000 then Res.of ((allV os).map fun ds => .v (.tup ds)) ρ else .no
  | .lst l, fx, ρ => (evalOs l fx ρ).bind fun os ρ => if l.length ≤ 1000 then Res.of ((allV os).map fun ds => .v (.lst false ds)) ρ else .no
  | .bin o a b, fx, ρ => (evalO a fx ρ).bind fun x ρ => (evalO b fx ρ).bind fun y ρ => if x.okb b.pur then
      (match x.rd ρ, y.rd ρ with
      | some d, some e => Res.of ((binD o d e).map .v) ρ
      | _, _ => .no) else .no
  | .neg a, fx, ρ => (evalO a fx ρ).bind fun x ρ => (match x with
      | .v (.int i) => .ok (.v (.int (-i))) ρ
      | _ => .no)
  | .cmp o a b, fx, ρ => (evalO a fx ρ).bind fun x ρ => (evalO b fx ρ).bind fun y ρ => if x.okb b.pur then
      (match x.rd ρ, y.rd ρ with
      | some d, some e => Res.of ((cmpD o d e).map fun c => .v (.bl c)) ρ
      | _, _ => .no) else .no
  | .chn o p a b c, fx, ρ => (evalO a fx ρ).bind fun x ρ => (evalO b fx ρ).bind fun y ρ => if x.okb b.pur then
      (match x.rd ρ, y.rd ρ with
      | some d, some e => (match cmpD o d e with
        | some true => (evalO c fx ρ).bind fun z ρ => if y.okb c.pur then
          (match y.rd ρ, z.rd ρ with
          | some e, some f => Res.of ((cmpD p e f).map fun c => .v (.bl c)) ρ
          | _, _ => .no) else .no
        | some false => .ok (.v (.bl false)) ρ
        | none => .no)
      | _, _ => .no) else .no
  | .not a, fx, ρ => (evalO a fx ρ).bind fun x ρ => (truO x ρ).bind fun b ρ => .ok (.v (.bl !b)) ρ
  | .bop k a b, fx, ρ => (evalO a fx ρ).bind fun x ρ => (match x with
      | .v (.bl c) => if c = k then evalO b fx ρ else .ok (.v (.bl c)) ρ
      | _ => .no)
  | .ite c a b, fx, ρ => (evalO c fx ρ).bind fun x ρ => (truO x ρ).bind fun t ρ => if t then evalO a fx ρ else evalO b fx ρ
  | .idx a i, fx, ρ => (evalO a fx ρ).bind fun x ρ => (evalO i fx ρ).bind fun y ρ => if x.okb i.pur then
      (match x.rd ρ, y with
      | some d, .v k => Res.of ((idxD d k).bind fun e => x.part d (stepOf d k) e) ρ
      | _, _ => .no) else .no
  | .sli a lo hi, fx, ρ => (evalO a fx ρ).bind fun x ρ => (evalP lo fx ρ).bind fun l ρ => (evalP hi fx ρ).bind fun h ρ => if x.okb (purL lo && purL hi) then
      Res.of (((x.rd ρ).bind fun d => sliD d l h).map .v) ρ else .no
  | .att a f, fx, ρ => (evalO a fx ρ).bind fun x ρ => (match x.rd ρ with
      | some (.ins z c ns l) => if T.cls.contains c && T.flds.contains f then Res.of ((look f ns l).bind fun e => x.part (.ins z c ns l) (some (.fld f)) e) ρ else .no
      | _ => .no)
  | .call f l, fx, ρ => (evalOs l fx ρ).bind fun os ρ => doCall T.al cl (f, none) ((l.map Ex.isRo).zip os) ρ
  | .meth o m l, fx, ρ => (evalO o fx ρ).bind fun x ρ => (match x.rd ρ with
      | some (.ins _ c ns _) => if T.cls.contains c && !ns.contains m then (evalOs l fx ρ).bind fun os ρ => if x.okb (purL l) then
          doCall T.al cl (c, some m) (((o :: l).map Ex.isRo).zip (x :: os)) ρ else .no else .no
      | _ => .no)
  | .make c l, fx, ρ => (evalOs l fx ρ).bind fun os ρ => (match argDs ρ ((l.map Ex.isRo).zip os) with
      | some ds => if apartA ((l.map Ex.isRo).zip os) then (match cm (c, some "__init__") (.ins false c [] [] :: ds) with
          | .ok .non (d :: ds') => if okRo ((l.map Ex.isRo).zip os) d ds' && decide (ds'.length = os.length) then .ok (.v d) (killE T.al (belowA ((l.map Ex.isRo).zip os)) (backA ((l.map Ex.isRo).zip os) ds' ρ)) else .no
          | _ => .no) else .no
      | none => .no)
  | .bi b l, fx, ρ => (evalOs l fx ρ).bind fun os ρ => (match rdAll ρ os with
      | some ds => Res.of ((biD b ds).map .v) ρ
      | none => .no)
  | .bm b o l, fx, ρ => (evalO o fx ρ).bind fun x ρ => (match x.rd ρ with
      | some d => if bmTy b d then (evalOs l fx ρ).bind fun os ρ => if x.okb (purL l) then (match x.rd ρ with
        | some d => if b.isP then (match rdAll ρ os with
            | some ds => Res.of ((bmP b d ds).map .v) ρ
            | none => .no) else (match x, allV os with
            | .p r q, some ds => (match bmD b d ds with
              | some (e, d') => .ok (.v e) (killE T.al (below r q) (putP ρ r q d'))
              | none => .no)
            | _, _ => .no)
        | none => .no) else .no else .no
      | none => .no)
  | .isi a _ ts, fx, ρ => (evalO a fx ρ).bind fun x ρ => Res.of ((x.rd ρ).bind fun d => (isAny d ts).map fun b => .v (.bl b)) ρ
  | .lc t own e it g c, fx, ρ => (evalI it g fx ρ).bind fun w ρ =>
      if own.all (fun i => !lk T.al (w.fx []) i && match ρ.s[i]? with | some .no => true | some (.own d) => d.imm | _ => false) then
        (lcLoop w (fun d ρ => asgI T.al (w.fx fx) t d (wipeS own ρ)) (fun ρ => evalC c (w.fx fx) ρ) (fun ρ => evalO e (w.fx fx) ρ) w.len 0 [] (wipeS own ρ)).bind fun ds ρ' =>
          .ok (.v (.lst false ds)) (w.gone g (backS ρ own ρ'))
      else .no
  | .mv i, fx, ρ => if lk T.al fx i then .no else (match ρ.s[i]? with
    | some (.own d) => .ok (.v d) (setS ρ i .no)
    | _ => .no)
  | .ro a, fx, ρ => evalO a fx ρ
  | .dic t ks vs, fx, ρ => (evalOs vs fx ρ).bind fun os ρ => (match cKeys ks, allV os with
    | some keys, some ds => if t then (if keys = [] ∧ ds = [] then .ok (.v (.dt false [] [])) ρ else .no)
      else if keys.Nodup ∧ keys.length = ds.length ∧ ds.length ≤ 15 then .ok (.v (.dk false keys ds)) ρ else .no
    | _, _ => .no)
  | .rev a, fx, ρ => (evalO a fx ρ).bind fun x ρ => Res.of (((x.rd ρ).bind revD).map .v) ρ
  | .rgl a, fx, ρ => (evalO a fx ρ).bind fun x ρ => (match x with
      | .v (.int j) => if -16777216 ≤ j ∧ j ≤ 16777216 then .ok (.v (.lst false ((rgI 0 j).map .int))) ρ else .no
      | _ => .no)
  | .rg2 a b, fx, ρ => (evalO a fx ρ).bind fun x ρ => (evalO b fx ρ).bind fun y ρ => (match x, y with
      | .v (.int i), .v (.int j) => if (0 ≤ i ∧ i ≤ 16777216) ∧ (0 ≤ j ∧ j ≤ 16777216) then .ok (.v (.lst false ((rgI i j).map .int))) ρ else .no
      | _, _ => .no)
  | .fz a, fx, ρ => (evalO a fx ρ).bind fun x ρ => (match x with
      | .v d => if d.noh then .ok (.v d.ro) ρ else .no
      | .p _ _ => .no)
  | .cmpl k a l, fx, ρ => (evalO a fx ρ).bind fun x ρ => (evalOs l fx ρ).bind fun os ρ => if x.okb (purL l) && decide (l.length ≤ 1000) then
      (match x.rd ρ, rdAll ρ os with
      | some d, some ds => Res.of ((cmpD (if k then .ne else .eq) d (.lst false ds)).map fun c => .v (.bl c)) ρ
      | _, _ => .no) else .no
def evalOs : List Ex → List Nat → Env → Res (List Od)
  | [], _, ρ => .ok [] ρ
  | e :: r, fx, ρ => (evalO e fx ρ).bind fun o ρ => if o.okb (purL r) then (evalOs r fx ρ).bind fun os ρ => .ok (o :: os) ρ else .no
/-- a part of a slice -/
def evalP : List Ex → List Nat → Env → Res (Option Int)
  | [], _, ρ => .ok none ρ
  | e :: _, fx, ρ => (evalO e fx ρ).bind fun o ρ => (match o with
    | .v (.int i) => .ok (some i) ρ
    | _ => .no)
/-- a comprehension's test -/
def evalC : List Ex → List Nat → Env → Res Bool
  | [], _, ρ => .ok true ρ
  | e :: _, fx, ρ => (evalO e fx ρ).bind fun o ρ => truO o ρ
/-- what is walked: put into the slot g, where it is not a name's -/
def evalI : It → Nat → List Nat → Env → Res Walk
  | .ex e, g, fx, ρ => (evalO e fx ρ).bind fun o ρ => (match o with
    | .v (.str x) => .ok (.chs x) ρ
    | .v d => (match seqOf d with
      | some (t, n) => if lk T.al fx g || decide (ρ.s.length ≤ g) then .no else .ok (.seq t g n) (setS ρ g (.own d))
      | none => .no)
    | .p r [] => (match (own ρ r).bind seqOf with
      | some (t, n) => .ok (.seq t r n) ρ
      | none => .no)
    | _ => .no)
  | .enu e, g, fx, ρ => (evalO e fx ρ).bind fun o ρ => (match o with
    | .v d => (match seqOf d with
      | some (false, n) => if lk T.al fx g || decide (ρ.s.length ≤ g) then .no else .ok (.enu g n) (setS ρ g (.own d))
      | some (true, n) => if lk T.al fx g || decide (ρ.s.length ≤ g) then .no else .ok (.enut g n) (setS ρ g (.own d))
      | none => .no)
    | .p r [] => (match (own ρ r).bind seqOf with
      | some (false, n) => .ok (.enu r n) ρ
      | _ => .no)
    | _ => .no)
  | .rng l, _, fx, ρ => (evalOs l fx ρ).bind fun os ρ => (match os with
    | [.v (.int j)] => if -(2 ^ 62) ≤ j ∧ j < 2 ^ 62 then .ok (.rng 0 1 j.toNat) ρ else .no
    | [.v (.int i), .v (.int j)] => if (-(2 ^ 62) ≤ i ∧ i < 2 ^ 62) ∧ (-(2 ^ 62) ≤ j ∧ j < 2 ^ 62) then .ok (.rng i 1 (j - i).toNat) ρ else .no
    | [.v (.int i), .v (.int j), .v (.int c)] => if c = -1 ∧ (-(2 ^ 62) ≤ i ∧ i < 2 ^ 62) ∧ (-(2 ^ 62) ≤ j ∧ j < 2 ^ 62) then .ok (.rng i (-1) (i - j).toNat) ρ else .no
    | _ => .no)
  | .zip a b, g, fx, ρ => (evalO a fx ρ).bind fun x ρ => (evalO b fx ρ).bind fun y ρ => (match x, y with
    | .v (.tup l), .v (.tup m) => if immL l && immL m then (if lk T.al fx g || lk T.al fx (g + 1) || decide (ρ.s.length ≤ g + 1) then .no
      else .ok (.zip g (g + 1) (min l.length m.length)) (setS (setS ρ g (.own (.tup l))) (g + 1) (.own (.tup m)))) else .no
    | _, _ => .no)
end

/-- an instance of a class of the text, a field of the text -/
def fldB : D → Str → Bool
  | .ins _ c _ _, f => T.cls.contains c && T.flds.contains f
  | _, _ => false
def sameC (c : Str) : D → Bool
  | .ins _ c' _ _ => decide (c' = c)
  | _ => false
/-- a target gets an operand -/
def asgT : Tg → Od → List Nat → Env → Res Unit
  | .nm i, .v d, fx, ρ => asgN T.al fx i d ρ
  | .nm i, .p r q, fx, ρ => if lk T.al fx i then .no else if T.al.contains (i, r, q) then (match ρ.s[i]?, getP ρ r q with
    | some x, some _ => if x.free then .ok () (setS ρ i (.al r q)) else .no
    | _, _ => .no) else .no
  | .tp l, o, fx, ρ => (match (o.rd ρ).bind unpD, tgNames l with
    | some ds, some is => if immL ds then asgNs T.al fx is ds ρ else (match o with
      | .v _ => asgNs T.al fx is ds ρ
      | .p _ _ => .no)
    | _, _ => .no)
  | .at o f, .v d, fx, ρ => (evalO T cl cm o fx ρ).bind fun x ρ => (match x with
    | .p r q => (match (getP ρ r q).bind fun e => if fldB T e f then fldSet e f d else none with
      | some e' => .ok () (killE T.al (belowF r q f) (putP ρ r q e'))
      | none => .no)
    | _ => .no)
  | .ix o i, .v d, fx, ρ => (evalO T cl cm o fx ρ).bind fun x ρ => (evalO T cl cm i fx ρ).bind fun y ρ => if x.okb i.pur then (match x, y with
    | .p r q, .v k => (match (getP ρ r q).bind fun e => ixSet e k d with
      | some e' => .ok () (killE T.al (belowK r q k) (putP ρ r q e'))
      | none => .no)
    | _, _ => .no) else .no
  | _, _, _, _ => .no

inductive SRes where
  | nx (ρ : Env) | rt (d : D) (ρ : Env) | bk (ρ : Env) | ct (ρ : Env) | ex (x : Exn) (ρ : Env) | no
def Res.st {α : Type} : Res α → (α → Env → SRes) → SRes
  | .ok a ρ, f => f a ρ
  | .ex x ρ, _ => .ex x ρ
  | .no, _ => .no
def SRes.sq : SRes → (Env → SRes) → SRes
  | .nx ρ, f => f ρ
  | r, _ => r
def forLoop (w : Walk) (t : D → Env → Res Unit) (b : Env → SRes) : Nat → Nat → Env → SRes
  | 0, _, ρ => if w.there ρ then .nx ρ else .no
  | m + 1, i, ρ => if w.there ρ then (match w.item ρ i with
    | some d => (t d ρ).st fun _ ρ => (match b ρ with
      | .nx ρ => forLoop w t b m (i + 1) ρ
      | .ct ρ => forLoop w t b m (i + 1) ρ
      | .bk ρ => .nx ρ
      | r => r)
    | none => .no) else .no
def whLoop (c : Env → Res Bool) (b : Env → SRes) : Nat → Env → SRes
  | 0, _ => .no
  | m + 1, ρ => (c ρ).st fun t ρ => if t then (match b ρ with
      | .nx ρ => whLoop c b m ρ
      | .ct ρ => whLoop c b m ρ
      | .bk ρ => .nx ρ
      | r => r) else .nx ρ
variable (W : Nat)
mutual
def exec : Sx → List Nat → Env → SRes
  | .expr e, fx, ρ => (evalO T cl cm e fx ρ).st fun _ ρ => .nx ρ
  | .asg t e, fx, ρ => (evalO T cl cm e fx ρ).st fun o ρ => (asgT T cl cm t o fx ρ).st fun _ ρ => .nx ρ
  | .aug (.nm i) o e, fx, ρ => (match ρ.s[i]? with
    | some (.own d) => (evalO T cl cm e fx ρ).st fun y ρ => (match y.rd ρ with
      | some e => (match binD o d e with
        | some (.int k) => (asgN T.al fx i (.int k) ρ).st fun _ ρ => .nx ρ
        | _ => .no)
      | none => .no)
    | _ => .no)
  | .aug (.at a f) o e, fx, ρ => (evalO T cl cm a fx ρ).st fun x ρ => (match x with
    | .p r q => (match getP ρ r q with
      | some (.ins false c ns l) => (match look f ns l with
        | some d => if x.okb e.pur && (T.cls.contains c && T.flds.contains f) then (evalO T cl cm e fx ρ).st fun y ρ => (match y with
          | .v k => (match binD o d k, (getP ρ r q) with
            | some (.int k), some e => (match if sameC c e then fldSet e f (.int k) else none with
              | some e' => .nx (killE T.al (belowF r q f) (putP ρ r q e'))
              | none => .no)
            | _, _ => .no)
          | _ => .no) else .no
        | none => .no)
      | _ => .no)
    | _ => .no)
  | .aug _ _ _, _, _ => .no
  | .ret e, fx, ρ => (evalO T cl cm e fx ρ).st fun o ρ => (match o with
    | .v d => .rt d ρ
    | _ => .no)
  | .ite c a b, fx, ρ => (evalO T cl cm c fx ρ).st fun o ρ => (truO o ρ).st fun t ρ => if t then execs a fx ρ else execs b fx ρ
  | .for t it g b, fx, ρ => (evalI T cl cm it g fx ρ).st fun w ρ => (forLoop w (fun d ρ => asgI T.al (w.fx fx) t d ρ) (fun ρ => execs b (w.fx fx) ρ) w.len 0 ρ).sq fun ρ => .nx (w.gone g ρ)
  | .whl c b, fx, ρ => whLoop (fun ρ => (evalO T cl cm c fx ρ).bind fun o ρ => truO o ρ) (fun ρ => execs b fx ρ) W ρ
  | .brk, _, ρ => .bk ρ
  | .cnt, _, ρ => .ct ρ
  | .pass, _, ρ => .nx ρ
  | .rais _ _, _, _ => .no
  | .trye _ _ _ _, _, _ => .no
def execs : List Sx → List Nat → Env → SRes
  | [], _, ρ => .nx ρ
  | s :: r, fx, ρ => (exec s fx ρ).sq fun ρ => execs r fx ρ
end
end

/-- a def: how many slots, the parameters' number, defaults, body -/
structure Fn where
  n : Nat
  np : Nat
  dfl : AlT
  body : List Sx
def Tab.wal (T : Tab) (A : AlT) : Tab := { T with al := A }
structure Prog where
  tab : Tab
  fns : List (FId × Fn)
/-- an argument behind the call -/
def finals : List D → Nat → Env → Option (List D)
  | [], _, _ => some []
  | d :: ds, i, ρ => match finals ds (i + 1) ρ with
    | some l => if d.imm then some (d :: l) else (match ρ.s[i]? with
      | some (.own e) => some (e :: l)
      | _ => none)
    | none => none
def startE (n : Nat) (ds : List D) : Env := ⟨0, ds.map .own ++ List.replicate (n - ds.length) .no⟩
def mutIx : List D → Nat → List Nat
  | [], _ => []
  | d :: ds, i => if d.imm then mutIx ds (i + 1) else i :: mutIx ds (i + 1)
def CRes.of (d : D) (l : Option (List D)) : CRes := match l with
  | some l => .ok d l
  | none => .no
def CRes.ofx (x : Exn) (l : Option (List D)) : CRes := match l with
  | some l => .ex x l
  | none => .no
def Prog.get (P : Prog) (f : FId) : Option Fn := P.fns.lookup f
def noCall : CallT := fun _ _ => .no
def prev (f : Nat → CallT) : Nat → CallT
  | 0 => noCall
  | j + 1 => f j
/-- a def's body run -/
def runF (T : Tab) (cl cm : CallT) (W : Nat) (fd : Fn) (ds : List D) : CRes :=
  if ds.length = fd.np then
    (match execs (T.wal fd.dfl) cl cm W fd.body (mutIx ds 0) (startE fd.n ds) with
    | .rt d ρ => CRes.of d (finals ds 0 ρ)
    | .nx ρ => CRes.of .non (finals ds 0 ρ)
    | .ex x ρ => CRes.ofx x (finals ds 0 ρ)
    | _ => .no)
  else .no
/-- the defs, k deep: calls one less, new objects two less -/
def callP (P : Prog) (W : Nat) : Nat → CallT × CallT
  | 0 => (noCall, noCall)
  | k + 1 => (fun f ds => match P.get f with
    | some fd => runF P.tab (callP P W k).1 (callP P W k).2 W fd ds
    | none => .no, (callP P W k).1)
def callF (P : Prog) (W : Nat) (k : Nat) : CallT := (callP P W k).1
def callM (P : Prog) (W : Nat) (k : Nat) : CallT := (callP P W k).2
end Pv

/-! Pv, part B: how a thing stands in the heap. -/
namespace Pv
open PySem L2

/-- what may only be read -/
def RdZ (Z : Addr → Prop) (H : Hp) (a : Addr) (u : HO) : Prop := (H a = some u ∧ Z a) ∨ ∃ o, H a = some (.frz o u)
/-- a list of the written part -/
def KLst (K : PySem.W.Frag) (a : Addr) (xs : List V) : Prop :=
  ∃ (o : Obj) (its : Array Value) (n : Nat), K.lookup a = some o ∧ o.cls = .type "list" ∧ o.dict = none ∧ o.data = .seq its n ∧ its.size ≤ sizeLine ∧ Vals xs its.toList
theorem RdZ.rd {Z : Addr → Prop} {H : Hp} {a : Addr} {u : HO} (r : RdZ Z H a u) : Rd H a u := r.elim (fun z => .inl z.1) .inr
def RoL (K : PySem.W.Frag) (Z : Addr → Prop) (H : Hp) (a : Addr) (xs : List V) : Prop := RdZ Z H a (.lst xs) ∨ KLst K a xs
theorem RoL.sq {K : PySem.W.Frag} {Z : Addr → Prop} {H : Hp} {a : Addr} {xs : List V} (r : RoL K Z H a xs) : SqL K H a xs := r.elim (fun z => .inl z.rd) .inr

section
variable (K : PySem.W.Frag) (η : List V) (Z : Addr → Prop) (H : Hp)
mutual
/-- the thing d is the value v; F: the addresses that it owns -/
def Rep : D → V → List Addr → Prop
  | .non, v, F => v = .non ∧ F = []
  | .bl b, v, F => v = .bl b ∧ F = []
  | .int i, v, F => v = .int i ∧ F = []
  | .str x, v, F => v = .str x ∧ F = []
  | .glo x, v, F => v = .ref (He.ga K x) ∧ F = []
  | .hole h, v, F => η[h]? = some v ∧ F = []
  | .tup l, v, F => ∃ a vs, v = .ref a ∧ SqT K H a vs ∧ Reps l vs F
  | .lst z l, v, F => ∃ a vs F', v = .ref a ∧ Reps l vs F' ∧ (match z with
      | false => H a = some (.lst vs) ∧ F = a :: F'
      | true => RoL K Z H a vs ∧ F' = [] ∧ F = [] ∧ nohL l = true)
  | .dk z ks l, v, F => ∃ a vs F', v = .ref a ∧ Reps l vs F' ∧ ks.length = vs.length ∧ ks.Nodup ∧ (match z with
      | false => H a = some (.dK (ks.zip vs)) ∧ F = a :: F'
      | true => RdZ Z H a (.dK (ks.zip vs)) ∧ F' = [] ∧ F = [] ∧ nohL l = true)
  | .dt z ks l, v, F => ∃ a vs F', v = .ref a ∧ Reps l vs F' ∧ ks.length = vs.length ∧ ks.Nodup ∧ (match z with
      | false => H a = some (.dT (ks.zip vs)) ∧ F = a :: F'
      | true => RdZ Z H a (.dT (ks.zip vs)) ∧ F' = [] ∧ F = [] ∧ nohL l = true)
  | .ins z c ns l, v, F => ∃ a dx vs F', v = .ref a ∧ Reps l vs F' ∧ ns.length = vs.length ∧ H a = some (.ins (He.ga K c) dx (ns.zip vs)) ∧ (match z with
      | false => F = a :: F'
      | true => Z a ∧ F' = [] ∧ F = [] ∧ nohL l = true)
def Reps : List D → List V → List Addr → Prop
  | [], vs, F => vs = [] ∧ F = []
  | d :: ds, vs, F => ∃ v vs' F1 F2, vs = v :: vs' ∧ Rep d v F1 ∧ Reps ds vs' F2 ∧ F = F1 ++ F2
end
end

/-- objects that are owned -/
def Pm : HO → Prop
  | .lst _ => True
  | .dK _ => True
  | .dT _ => True
  | .ins _ _ _ => True
  | _ => False

section
variable {K : PySem.W.Frag} {η : List V} {Z : Addr → Prop} {H : Hp}
theorem Reps.length : ∀ {l : List D} {vs : List V} {F : List Addr}, Reps K η Z H l vs F → l.length = vs.length
  | [], _, _, h => by obtain ⟨rfl, _⟩ := h; rfl
  | _ :: _, _, _, h => by
    obtain ⟨v, vs', F1, F2, rfl, _, h2, _⟩ := h
    simp [Reps.length h2]
mutual
/-- what is not owned owns nothing -/
theorem Rep.imm : ∀ {d : D} {v : V} {F : List Addr}, Rep K η Z H d v F → d.imm = true → F = []
  | .non, _, _, h, _ => h.2
  | .bl _, _, _, h, _ => h.2
  | .int _, _, _, h, _ => h.2
  | .str _, _, _, h, _ => h.2
  | .glo _, _, _, h, _ => h.2
  | .hole _, _, _, _, e => by simp [D.imm] at e
  | .tup l, _, _, h, e => by
    obtain ⟨a, vs, _, _, h2⟩ := h
    exact Reps.imm h2 (by simpa [D.imm] using e)
  | .lst z l, _, _, h, e => by
    have : z = true := by simpa [D.imm] using e
    subst this
    obtain ⟨a, vs, F', _, _, h2⟩ := h
    exact h2.2.2.1
  | .dk z ks l, _, _, h, e => by
    have : z = true := by simpa [D.imm] using e
    subst this
    obtain ⟨a, vs, F', _, _, _, _, h2⟩ := h
    exact h2.2.2.1
  | .dt z ks l, _, _, h, e => by
    have : z = true := by simpa [D.imm] using e
    subst this
    obtain ⟨a, vs, F', _, _, _, _, h2⟩ := h
    exact h2.2.2.1
  | .ins z c ns l, _, _, h, e => by
    have : z = true := by simpa [D.imm] using e
    subst this
    obtain ⟨a, dx, vs, F', _, _, _, _, h2⟩ := h
    exact h2.2.2.1
theorem Reps.imm : ∀ {l : List D} {vs : List V} {F : List Addr}, Reps K η Z H l vs F → immL l = true → F = []
  | [], _, _, h, _ => h.2
  | d :: ds, _, _, h, e => by
    obtain ⟨v, vs', F1, F2, _, h1, h2, rfl⟩ := h
    have e' : d.imm = true ∧ immL ds = true := by simpa [immL] using e
    rw [Rep.imm h1 e'.1, Reps.imm h2 e'.2]
    rfl
end
mutual
/-- what is owned is there -/
theorem Rep.pm : ∀ {d : D} {v : V} {F : List Addr}, Rep K η Z H d v F → ∀ a ∈ F, ∃ o, H a = some o ∧ Pm o
  | .non, _, _, h, a, m => by obtain ⟨_, rfl⟩ := h; cases m
  | .bl _, _, _, h, a, m => by obtain ⟨_, rfl⟩ := h; cases m
  | .int _, _, _, h, a, m => by obtain ⟨_, rfl⟩ := h; cases m
  | .str _, _, _, h, a, m => by obtain ⟨_, rfl⟩ := h; cases m
  | .glo _, _, _, h, a, m => by obtain ⟨_, rfl⟩ := h; cases m
  | .hole _, _, _, h, a, m => by obtain ⟨_, rfl⟩ := h; cases m
  | .tup l, _, _, h, a, m => by
    obtain ⟨b, vs, _, _, h2⟩ := h
    exact Reps.pm h2 a m
  | .lst z l, _, _, h, a, m => by
    obtain ⟨b, vs, F', _, h1, h2⟩ := h
    cases z with
    | false =>
      obtain ⟨e, rfl⟩ := h2
      rcases List.mem_cons.mp m with rfl | m
      · exact ⟨_, e, trivial⟩
      · exact Reps.pm h1 a m
    | true => obtain ⟨_, _, rfl, _⟩ := h2; cases m
  | .dk z ks l, _, _, h, a, m => by
    obtain ⟨b, vs, F', _, h1, _, _, h2⟩ := h
    cases z with
    | false =>
      obtain ⟨e, rfl⟩ := h2
      rcases List.mem_cons.mp m with rfl | m
      · exact ⟨_, e, trivial⟩
      · exact Reps.pm h1 a m
    | true => obtain ⟨_, _, rfl, _⟩ := h2; cases m
  | .dt z ks l, _, _, h, a, m => by
    obtain ⟨b, vs, F', _, h1, _, _, h2⟩ := h
    cases z with
    | false =>
      obtain ⟨e, rfl⟩ := h2
      rcases List.mem_cons.mp m with rfl | m
      · exact ⟨_, e, trivial⟩
      · exact Reps.pm h1 a m
    | true => obtain ⟨_, _, rfl, _⟩ := h2; cases m
  | .ins z c ns l, _, _, h, a, m => by
    obtain ⟨b, dx, vs, F', _, h1, _, e, h2⟩ := h
    cases z with
    | false =>
      obtain rfl := h2
      rcases List.mem_cons.mp m with rfl | m
      · exact ⟨_, e, trivial⟩
      · exact Reps.pm h1 a m
    | true => obtain ⟨_, _, rfl, _⟩ := h2; cases m
theorem Reps.pm : ∀ {l : List D} {vs : List V} {F : List Addr}, Reps K η Z H l vs F → ∀ a ∈ F, ∃ o, H a = some o ∧ Pm o
  | [], _, _, h, a, m => by obtain ⟨_, rfl⟩ := h; cases m
  | d :: ds, _, _, h, a, m => by
    obtain ⟨v, vs', F1, F2, _, h1, h2, rfl⟩ := h
    rcases List.mem_append.mp m with m | m
    · exact Rep.pm h1 a m
    · exact Reps.pm h2 a m
end

/-- from H to H': what F0 owns stays, what may only be read stays, what is never changed stays -/
structure Keeps (Z Z' : Addr → Prop) (H H' : Hp) (F0 : List Addr) : Prop where
  own : ∀ a ∈ F0, ∀ o, H a = some o → H' a = some o
  ro : ∀ a o, Z a → H a = some o → H' a = some o
  st : ∀ a o, H a = some o → ¬ Pm o → H' a = some o
  z : ∀ a, Z a → Z' a
theorem Keeps.mono {Z Z' : Addr → Prop} {H H' : Hp} {F0 F1 : List Addr} (k : Keeps Z Z' H H' F0) (h : ∀ a ∈ F1, a ∈ F0) : Keeps Z Z' H H' F1 :=
  ⟨fun a m => k.own a (h a m), k.ro, k.st, k.z⟩
theorem Rd.keep {Z Z' : Addr → Prop} {H H' : Hp} {F0 : List Addr} {a : Addr} {u : HO} (k : Keeps Z Z' H H' F0) (r : Rd H a u) (h : H a = some u → Z a ∨ a ∈ F0 ∨ ¬ Pm u) : Rd H' a u := by
  rcases r with r | ⟨o, r⟩
  · rcases h r with z | z | z
    · exact .inl (k.ro a u z r)
    · exact .inl (k.own a z u r)
    · exact .inl (k.st a u r z)
  · exact .inr ⟨o, k.st a _ r fun z => z⟩
theorem SqT.keep {Z Z' : Addr → Prop} {H H' : Hp} {F0 : List Addr} {a : Addr} {xs : List V} (k : Keeps Z Z' H H' F0) (r : SqT K H a xs) : SqT K H' a xs := by
  rcases r with r | r
  · exact .inl (Rd.keep k r fun _ => .inr (.inr fun z => z))
  · exact .inr r
theorem SqL.keep {Z Z' : Addr → Prop} {H H' : Hp} {F0 : List Addr} {a : Addr} {xs : List V} (k : Keeps Z Z' H H' F0) (r : SqL K H a xs) (h : H a = some (.lst xs) → Z a ∨ a ∈ F0) : SqL K H' a xs := by
  rcases r with r | r
  · exact .inl (Rd.keep k r fun e => (h e).elim .inl fun z => .inr (.inl z))
  · exact .inr r
theorem RdZ.keep {Z Z' : Addr → Prop} {H H' : Hp} {F0 : List Addr} {a : Addr} {u : HO} (k : Keeps Z Z' H H' F0) (r : RdZ Z H a u) : RdZ Z' H' a u := by
  rcases r with ⟨r, z⟩ | ⟨o, r⟩
  · exact .inl ⟨k.ro a u z r, k.z a z⟩
  · exact .inr ⟨o, k.st a _ r fun z => z⟩
theorem RoL.keep {Z Z' : Addr → Prop} {H H' : Hp} {F0 : List Addr} {a : Addr} {xs : List V} (k : Keeps Z Z' H H' F0) (r : RoL K Z H a xs) : RoL K Z' H' a xs := r.imp (fun z => z.keep k) id
mutual
theorem Rep.keep {Z' : Addr → Prop} {H' : Hp} {F0 : List Addr} (k : Keeps Z Z' H H' F0) : ∀ {d : D} {v : V} {F : List Addr}, Rep K η Z H d v F → (∀ a ∈ F, a ∈ F0) → Rep K η Z' H' d v F
  | .non, _, _, h, _ => h
  | .bl _, _, _, h, _ => h
  | .int _, _, _, h, _ => h
  | .str _, _, _, h, _ => h
  | .glo _, _, _, h, _ => h
  | .hole _, _, _, h, _ => h
  | .tup l, _, _, h, m => by
    obtain ⟨b, vs, e, s, h2⟩ := h
    exact ⟨b, vs, e, SqT.keep k s, Reps.keep k h2 m⟩
  | .lst z l, _, _, h, m => by
    obtain ⟨b, vs, F', e, h1, h2⟩ := h
    cases z with
    | false =>
      obtain ⟨e2, rfl⟩ := h2
      exact ⟨b, vs, F', e, Reps.keep k h1 (fun a q => m a (List.mem_cons_of_mem _ q)), k.own b (m b List.mem_cons_self) _ e2, rfl⟩
    | true =>
      obtain ⟨e2, rfl, rfl, e4⟩ := h2
      exact ⟨b, vs, [], e, Reps.keep k h1 m, e2.keep k, rfl, rfl, e4⟩
  | .dk z ks l, _, _, h, m => by
    obtain ⟨b, vs, F', e, h1, hl, hn, h2⟩ := h
    cases z with
    | false =>
      obtain ⟨e2, rfl⟩ := h2
      exact ⟨b, vs, F', e, Reps.keep k h1 (fun a q => m a (List.mem_cons_of_mem _ q)), hl, hn, k.own b (m b List.mem_cons_self) _ e2, rfl⟩
    | true =>
      obtain ⟨e2, rfl, rfl, e4⟩ := h2
      exact ⟨b, vs, [], e, Reps.keep k h1 m, hl, hn, e2.keep k, rfl, rfl, e4⟩
  | .dt z ks l, _, _, h, m => by
    obtain ⟨b, vs, F', e, h1, hl, hn, h2⟩ := h
    cases z with
    | false =>
      obtain ⟨e2, rfl⟩ := h2
      exact ⟨b, vs, F', e, Reps.keep k h1 (fun a q => m a (List.mem_cons_of_mem _ q)), hl, hn, k.own b (m b List.mem_cons_self) _ e2, rfl⟩
    | true =>
      obtain ⟨e2, rfl, rfl, e4⟩ := h2
      exact ⟨b, vs, [], e, Reps.keep k h1 m, hl, hn, e2.keep k, rfl, rfl, e4⟩
  | .ins z c ns l, _, _, h, m => by
    obtain ⟨b, dx, vs, F', e, h1, hl, e2, h2⟩ := h
    cases z with
    | false =>
      obtain rfl := h2
      exact ⟨b, dx, vs, F', e, Reps.keep k h1 (fun a q => m a (List.mem_cons_of_mem _ q)), hl, k.own b (m b List.mem_cons_self) _ e2, rfl⟩
    | true =>
      obtain ⟨e3, rfl, rfl, e4⟩ := h2
      exact ⟨b, dx, vs, [], e, Reps.keep k h1 m, hl, k.ro b _ e3 e2, k.z b e3, rfl, rfl, e4⟩
theorem Reps.keep {Z' : Addr → Prop} {H' : Hp} {F0 : List Addr} (k : Keeps Z Z' H H' F0) : ∀ {l : List D} {vs : List V} {F : List Addr}, Reps K η Z H l vs F → (∀ a ∈ F, a ∈ F0) → Reps K η Z' H' l vs F
  | [], _, _, h, _ => h
  | d :: ds, _, _, h, m => by
    obtain ⟨v, vs', F1, F2, e, h1, h2, rfl⟩ := h
    exact ⟨v, vs', F1, F2, e, Rep.keep k h1 (fun a q => m a (List.mem_append_left _ q)), Reps.keep k h2 (fun a q => m a (List.mem_append_right _ q)), rfl⟩
end
end
end Pv

/-! Pv, part C: parts of a thing, slots, how the heap goes on. -/
namespace Pv
open PySem L2
section
variable {K : PySem.W.Frag} {η : List V} {Z : Addr → Prop} {H : Hp}

theorem Keeps.sub {Z Z' : Addr → Prop} {H H' : Hp} {F0 F1 : List Addr} (k : Keeps Z Z' H H' F0) (h : F1 ⊆ F0) : Keeps Z Z' H H' F1 := k.mono fun _ m => h m

/-- a part of a list -/
theorem Reps.get : ∀ {l : List D} {vs : List V} {F : List Addr} {i : Nat} {d : D}, Reps K η Z H l vs F → l[i]? = some d →
    ∃ v A F1 B, vs[i]? = some v ∧ F = A ++ F1 ++ B ∧ Rep K η Z H d v F1 ∧ ∀ Z' H' d' F1', Keeps Z Z' H H' (A ++ B) → Rep K η Z' H' d' v F1' → Reps K η Z' H' (l.set i d') vs (A ++ F1' ++ B)
  | [], _, _, _, _, _, e => by simp at e
  | x :: l, _, _, 0, d, h, e => by
    obtain ⟨v, vs', F1, F2, rfl, h1, h2, rfl⟩ := h
    simp at e; subst e
    exact ⟨v, [], F1, F2, rfl, rfl, h1, fun Z' H' d' F1' k r => ⟨v, vs', F1', F2, rfl, r, Reps.keep k h2 (fun a m => by simpa using m), rfl⟩⟩
  | x :: l, _, _, i + 1, d, h, e => by
    obtain ⟨v, vs', F1, F2, rfl, h1, h2, rfl⟩ := h
    obtain ⟨w, A, G, B, e1, rfl, e2, e3⟩ := Reps.get (i := i) h2 (by simpa using e)
    refine ⟨w, F1 ++ A, G, B, by simpa using e1, by simp, e2, fun Z' H' d' F1' k r => ?_⟩
    refine ⟨v, vs', F1, A ++ F1' ++ B, rfl, Rep.keep k h1 (fun a m => by simp [m]), e3 Z' H' d' F1' (k.sub fun a m => by simp at m ⊢; rcases m with m | m <;> simp [m]) r, by simp⟩

theorem look_ix {κ : Type} [DecidableEq κ] {k : κ} : ∀ {ks : List κ} {l : List D} {d : D}, look k ks l = some d →
    ∃ i, l[i]? = some d ∧ ks[i]? = some k ∧ (∀ j, j < i → ks[j]? ≠ some k) ∧ ∀ v, setK k v ks l = l.set i v
  | [], _, _, e => by simp [look] at e
  | _ :: _, [], _, e => by simp [look] at e
  | a :: ks, x :: l, d, e => by
    by_cases h : a = k
    · subst h
      have e' : x = d := by simpa [look] using e
      subst e'
      exact ⟨0, rfl, rfl, fun j hj => absurd hj (Nat.not_lt_zero _), fun v => by simp [setK]⟩
    · have e' : look k ks l = some d := by simpa [look, h] using e
      obtain ⟨i, h1, h2, h3, h4⟩ := look_ix e'
      refine ⟨i + 1, by simpa using h1, by simpa using h2, fun j hj => ?_, fun v => by simp [setK, h, h4]⟩
      cases j with
      | zero => simpa using h
      | succ j => simpa using h3 j (by omega)
theorem lookup_zip {κ : Type} [BEq κ] [LawfulBEq κ] {k : κ} {v : V} : ∀ {i : Nat} {ks : List κ} {vs : List V}, ks[i]? = some k → (∀ j, j < i → ks[j]? ≠ some k) → vs[i]? = some v → (ks.zip vs).lookup k = some v
  | 0, a :: ks, w :: vs, h1, _, h2 => by
    simp at h1 h2; subst h1 h2
    simp [List.lookup]
  | i + 1, a :: ks, w :: vs, h1, h3, h2 => by
    have hne : a ≠ k := by simpa using h3 0 (by omega)
    have hb : (k == a) = false := beq_eq_false_iff_ne.mpr (Ne.symm hne)
    simp only [List.zip_cons_cons, List.lookup, hb]
    exact lookup_zip (i := i) (by simpa using h1) (fun j hj => by simpa using h3 (j + 1) (by omega)) (by simpa using h2)
  | _, [], _, h1, _, _ => by simp at h1
  | _, _ :: _, [], _, _, h2 => by simp at h2
theorem valV_zip {κ : Type} [DecidableEq κ] {k : κ} {v : V} : ∀ {i : Nat} {ks : List κ} {vs : List V}, ks[i]? = some k → (∀ j, j < i → ks[j]? ≠ some k) → vs[i]? = some v → valV (ks.zip vs) k = some v
  | 0, a :: ks, w :: vs, h1, _, h2 => by
    simp at h1 h2; subst h1 h2
    simp [valV]
  | i + 1, a :: ks, w :: vs, h1, h3, h2 => by
    have hne : a ≠ k := by simpa using h3 0 (by omega)
    rw [List.zip_cons_cons, valV_neg hne]
    exact valV_zip (i := i) (by simpa using h1) (fun j hj => by simpa using h3 (j + 1) (by omega)) (by simpa using h2)
  | _, [], _, h1, _, _ => by simp at h1
  | _, _ :: _, [], _, _, h2 => by simp at h2

/-- one step in the heap -/
def St1 (H : Hp) (v : V) (s : Stp) (w : V) : Prop := ∃ a, v = .ref a ∧ match s with
  | .fld f => ∃ C dx fs, H a = some (.ins C dx fs) ∧ fs.lookup f = some w
  | .ix i => ∃ vs, H a = some (.lst vs) ∧ vs[i]? = some w
  | .key k => ∃ kvs, H a = some (.dK kvs) ∧ valV kvs k = some w
/-- a path in the heap -/
def Wk (H : Hp) : V → List Stp → V → Prop
  | v, [], w => v = w
  | v, s :: q, w => ∃ u, St1 H v s u ∧ Wk H u q w
theorem St1.inj {H : Hp} {v w w' : V} {s : Stp} (h : St1 H v s w) (h' : St1 H v s w') : w = w' := by
  obtain ⟨a, e, h⟩ := h
  obtain ⟨b, e', h'⟩ := h'
  rw [e] at e'; cases e'
  cases s with
  | fld f =>
    obtain ⟨_, _, _, e1, e2⟩ := h
    obtain ⟨_, _, _, e3, e4⟩ := h'
    rw [e1] at e3; cases e3
    rw [e2] at e4; exact Option.some.inj e4
  | ix i =>
    obtain ⟨_, e1, e2⟩ := h
    obtain ⟨_, e3, e4⟩ := h'
    rw [e1] at e3; cases e3
    rw [e2] at e4; exact Option.some.inj e4
  | key k =>
    obtain ⟨_, e1, e2⟩ := h
    obtain ⟨_, e3, e4⟩ := h'
    rw [e1] at e3; cases e3
    rw [e2] at e4; exact Option.some.inj e4
theorem Wk.inj {H : Hp} : ∀ {q : List Stp} {v w w' : V}, Wk H v q w → Wk H v q w' → w = w'
  | [], _, _, _, h, h' => h.symm.trans h'
  | s :: q, _, _, _, ⟨u, h1, h2⟩, ⟨u', h1', h2'⟩ => by
    cases h1.inj h1'
    exact Wk.inj h2 h2'
theorem Wk.snoc {H : Hp} {s : Stp} {w u : V} : ∀ {q : List Stp} {v : V}, Wk H v q w → St1 H w s u → Wk H v (q ++ [s]) u
  | [], _, h, h' => by cases h; exact ⟨u, h', rfl⟩
  | t :: q, _, ⟨x, h1, h2⟩, h' => ⟨x, h1, Wk.snoc h2 h'⟩

/-- a part of a thing -/
theorem Rep.get1 {d0 d : D} {v0 : V} {F0 : List Addr} {s : Stp} (h : Rep K η Z H d0 v0 F0) (e : get1 d0 s = some d) :
    ∃ v A F1 B, F0 = A ++ F1 ++ B ∧ St1 H v0 s v ∧ Rep K η Z H d v F1 ∧ ∀ Z' H' d' F1', Keeps Z Z' H H' (A ++ B) → Rep K η Z' H' d' v F1' → Rep K η Z' H' (set1 d0 s d') v0 (A ++ F1' ++ B) := by
  cases d0 with
  | lst z l =>
    cases z with
    | true => cases s <;> simp [Pv.get1] at e
    | false =>
      cases s with
      | ix i =>
        obtain ⟨a, vs, F', rfl, h1, h2, rfl⟩ := h
        obtain ⟨v, A, F1, B, e1, rfl, e2, e3⟩ := Reps.get h1 (show l[i]? = some d from e)
        refine ⟨v, a :: A, F1, B, by simp, ⟨a, rfl, vs, h2, e1⟩, e2, fun Z' H' d' F1' k r => ?_⟩
        exact ⟨a, vs, A ++ F1' ++ B, rfl, e3 Z' H' d' F1' (k.sub fun x m => by simp at m ⊢; rcases m with m | m <;> simp [m]) r, k.own a (by simp) _ h2, by simp⟩
      | fld f => simp [Pv.get1] at e
      | key k => simp [Pv.get1] at e
  | ins z c ns l =>
    cases z with
    | true => cases s <;> simp [Pv.get1] at e
    | false =>
      cases s with
      | fld f =>
        obtain ⟨a, dx, vs, F', rfl, h1, hl, h2, rfl⟩ := h
        obtain ⟨i, i1, i2, i3, i4⟩ := look_ix (show look f ns l = some d from e)
        obtain ⟨v, A, F1, B, e1, rfl, e2, e3⟩ := Reps.get h1 i1
        refine ⟨v, a :: A, F1, B, by simp, ⟨a, rfl, _, _, _, h2, lookup_zip i2 i3 e1⟩, e2, fun Z' H' d' F1' k r => ?_⟩
        show Rep K η Z' H' (.ins false c ns (setK f d' ns l)) _ _
        rw [i4]
        exact ⟨a, dx, vs, A ++ F1' ++ B, rfl, e3 Z' H' d' F1' (k.sub fun x m => by simp at m ⊢; rcases m with m | m <;> simp [m]) r, hl, k.own a (by simp) _ h2, by simp⟩
      | ix f => simp [Pv.get1] at e
      | key k => simp [Pv.get1] at e
  | dk z ks l =>
    cases z with
    | true => cases s <;> simp [Pv.get1] at e
    | false =>
      cases s with
      | key f =>
        obtain ⟨a, vs, F', rfl, h1, hl, hn, h2, rfl⟩ := h
        obtain ⟨i, i1, i2, i3, i4⟩ := look_ix (show look f ks l = some d from e)
        obtain ⟨v, A, F1, B, e1, rfl, e2, e3⟩ := Reps.get h1 i1
        refine ⟨v, a :: A, F1, B, by simp, ⟨a, rfl, _, h2, valV_zip i2 i3 e1⟩, e2, fun Z' H' d' F1' k r => ?_⟩
        show Rep K η Z' H' (.dk false ks (setK f d' ks l)) _ _
        rw [i4]
        exact ⟨a, vs, A ++ F1' ++ B, rfl, e3 Z' H' d' F1' (k.sub fun x m => by simp at m ⊢; rcases m with m | m <;> simp [m]) r, hl, hn, k.own a (by simp) _ h2, by simp⟩
      | ix f => simp [Pv.get1] at e
      | fld k => simp [Pv.get1] at e
  | non => cases s <;> simp [Pv.get1] at e
  | bl => cases s <;> simp [Pv.get1] at e
  | int => cases s <;> simp [Pv.get1] at e
  | str => cases s <;> simp [Pv.get1] at e
  | tup => cases s <;> simp [Pv.get1] at e
  | dt => cases s <;> simp [Pv.get1] at e
  | glo => cases s <;> simp [Pv.get1] at e
  | hole => cases s <;> simp [Pv.get1] at e
theorem Rep.getQ : ∀ {q : List Stp} {d0 d : D} {v0 : V} {F0 : List Addr}, Rep K η Z H d0 v0 F0 → getQ d0 q = some d →
    ∃ v A F1 B, F0 = A ++ F1 ++ B ∧ Wk H v0 q v ∧ Rep K η Z H d v F1 ∧ ∀ Z' H' d' F1', Keeps Z Z' H H' (A ++ B) → Rep K η Z' H' d' v F1' → Rep K η Z' H' (setQ d0 q d') v0 (A ++ F1' ++ B)
  | [], d0, d, v0, F0, h, e => by
    have e' : d0 = d := Option.some.inj e
    subst e'
    exact ⟨v0, [], F0, [], by simp, rfl, h, fun Z' H' d' F1' _ r => by simpa [setQ] using r⟩
  | s :: q, d0, d, v0, F0, h, e => by
    cases e1 : Pv.get1 d0 s with
    | none => simp [Pv.getQ, e1] at e
    | some x =>
      obtain ⟨u, A, F1, B, rfl, s1, r1, k1⟩ := Rep.get1 h e1
      obtain ⟨v, A', F2, B', rfl, w2, r2, k2⟩ := Rep.getQ r1 (show Pv.getQ x q = some d by simpa [Pv.getQ, e1] using e)
      refine ⟨v, A ++ A', F2, B' ++ B, by simp, ⟨u, s1, w2⟩, r2, fun Z' H' d' F1' k r => ?_⟩
      have := k1 Z' H' (setQ x q d') (A' ++ F1' ++ B') (k.sub fun a m => by simp at m ⊢; rcases m with m | m <;> simp [m]) (k2 Z' H' d' F1' (k.sub fun a m => by simp at m ⊢; rcases m with m | m <;> simp [m]) r)
      simpa [setQ, e1] using this

/-! ### slots -/
variable (K η Z H) in
def RepS1 : Slot → Option V → List Addr → Prop
  | .no, _, F => F = []
  | .own d, ov, F => ∃ v, ov = some v ∧ Rep K η Z H d v F
  | .lent h _ _ d, ov, F => ∃ v, ov = some v ∧ η[h]? = some v ∧ Rep K η Z H d v F
  | .al _ _, _, F => F = []
variable (K η Z H) in
def RepS : List Slot → List (Option V) → List Addr → Prop
  | [], S, F => S = [] ∧ F = []
  | x :: ρ, S, F => ∃ ov S' F1 F2, S = ov :: S' ∧ RepS1 K η Z H x ov F1 ∧ RepS ρ S' F2 ∧ F = F1 ++ F2
theorem RepS1.keep {Z' : Addr → Prop} {H' : Hp} {F0 : List Addr} (k : Keeps Z Z' H H' F0) {x : Slot} {ov : Option V} {F : List Addr} (h : RepS1 K η Z H x ov F) (m : ∀ a ∈ F, a ∈ F0) : RepS1 K η Z' H' x ov F := by
  cases x with
  | no => exact h
  | own d => obtain ⟨v, e, r⟩ := h; exact ⟨v, e, r.keep k m⟩
  | lent _ _ _ d => obtain ⟨v, e, e2, r⟩ := h; exact ⟨v, e, e2, r.keep k m⟩
  | al => exact h
theorem RepS.keep {Z' : Addr → Prop} {H' : Hp} {F0 : List Addr} (k : Keeps Z Z' H H' F0) : ∀ {ρ : List Slot} {S : List (Option V)} {F : List Addr}, RepS K η Z H ρ S F → (∀ a ∈ F, a ∈ F0) → RepS K η Z' H' ρ S F
  | [], _, _, h, _ => h
  | x :: ρ, _, _, h, m => by
    obtain ⟨ov, S', F1, F2, e, h1, h2, rfl⟩ := h
    exact ⟨ov, S', F1, F2, e, h1.keep k (fun a q => m a (List.mem_append_left _ q)), RepS.keep k h2 (fun a q => m a (List.mem_append_right _ q)), rfl⟩
theorem RepS.len : ∀ {ρ : List Slot} {S : List (Option V)} {F : List Addr}, RepS K η Z H ρ S F → ρ.length = S.length
  | [], _, _, h => by obtain ⟨rfl, _⟩ := h; rfl
  | x :: ρ, _, _, h => by
    obtain ⟨ov, S', F1, F2, rfl, h1, h2, rfl⟩ := h
    simp [RepS.len h2]
theorem RepS.pm : ∀ {ρ : List Slot} {S : List (Option V)} {F : List Addr}, RepS K η Z H ρ S F → ∀ a ∈ F, ∃ o, H a = some o ∧ Pm o
  | [], _, _, h, a, m => by obtain ⟨_, rfl⟩ := h; cases m
  | x :: ρ, _, _, h, a, m => by
    obtain ⟨ov, S', F1, F2, _, h1, h2, rfl⟩ := h
    rcases List.mem_append.mp m with m | m
    · cases x with
      | no => rw [show F1 = [] from h1] at m; cases m
      | own d => obtain ⟨v, _, r⟩ := h1; exact r.pm a m
      | lent _ _ _ d => obtain ⟨v, _, _, r⟩ := h1; exact r.pm a m
      | al => rw [show F1 = [] from h1] at m; cases m
    · exact RepS.pm h2 a m
/-- one slot -/
theorem RepS.at : ∀ {ρ : List Slot} {S : List (Option V)} {F : List Addr} {i : Nat} {x : Slot}, RepS K η Z H ρ S F → ρ[i]? = some x →
    ∃ ov A F1 B, S[i]? = some ov ∧ F = A ++ F1 ++ B ∧ RepS1 K η Z H x ov F1 ∧ ∀ Z' H' x' ov' F1', Keeps Z Z' H H' (A ++ B) → RepS1 K η Z' H' x' ov' F1' → RepS K η Z' H' (ρ.set i x') (S.set i ov') (A ++ F1' ++ B)
  | [], _, _, _, _, _, e => by simp at e
  | y :: ρ, _, _, 0, x, h, e => by
    obtain ⟨ov, S', F1, F2, rfl, h1, h2, rfl⟩ := h
    simp at e; subst e
    exact ⟨ov, [], F1, F2, rfl, rfl, h1, fun Z' H' x' ov' F1' k r => ⟨ov', S', F1', F2, rfl, r, h2.keep k (fun a m => by simpa using m), rfl⟩⟩
  | y :: ρ, _, _, i + 1, x, h, e => by
    obtain ⟨ov, S', F1, F2, rfl, h1, h2, rfl⟩ := h
    obtain ⟨w, A, G, B, e1, rfl, e2, e3⟩ := RepS.at (i := i) h2 (by simpa using e)
    refine ⟨w, F1 ++ A, G, B, by simpa using e1, by simp, e2, fun Z' H' x' ov' F1' k r => ?_⟩
    exact ⟨ov, S'.set i ov', F1, A ++ F1' ++ B, rfl, h1.keep k (fun a m => by simp [m]), e3 Z' H' x' ov' F1' (k.sub fun a m => by simp at m ⊢; rcases m with m | m <;> simp [m]) r, by simp⟩
theorem RepS1.d {x : Slot} {ov : Option V} {F : List Addr} {d : D} (h : RepS1 K η Z H x ov F) (e : x.d? = some d) :
    ∃ v, ov = some v ∧ Rep K η Z H d v F ∧ ∀ Z' H' d' F', Rep K η Z' H' d' v F' → RepS1 K η Z' H' (x.put d') (some v) F' := by
  cases x with
  | no => simp [Slot.d?] at e
  | own d0 =>
    obtain ⟨v, rfl, r⟩ := h
    have : d0 = d := by simpa [Slot.d?] using e
    subst this
    exact ⟨v, rfl, r, fun _ _ _ _ q => ⟨v, rfl, q⟩⟩
  | lent _ _ _ d0 =>
    obtain ⟨v, rfl, e2, r⟩ := h
    have : d0 = d := by simpa [Slot.d?] using e
    subst this
    exact ⟨v, rfl, r, fun _ _ _ _ q => ⟨v, rfl, e2, q⟩⟩
  | al => simp [Slot.d?] at e
theorem set_self {S : List (Option V)} {i : Nat} {ov : Option V} (h : S[i]? = some ov) : S.set i ov = S := by
  apply List.ext_getElem?
  intro j
  rw [List.getElem?_set]
  split
  · rename_i e; subst e
    split
    · exact h.symm
    · rename_i hn; rw [List.getElem?_eq_none (by omega)] at h; cases h
  · rfl
/-- the thing at a place -/
theorem RepS.getP {ρ : Env} {S : List (Option V)} {F : List Addr} {r : Nat} {q : List Stp} {d : D} (h : RepS K η Z H ρ.s S F) (e : getP ρ r q = some d) :
    ∃ v0 v A F1 B, S[r]? = some (some v0) ∧ Wk H v0 q v ∧ F = A ++ F1 ++ B ∧ Rep K η Z H d v F1 ∧ ∀ Z' H' d' F1', Keeps Z Z' H H' (A ++ B) → Rep K η Z' H' d' v F1' → RepS K η Z' H' (putP ρ r q d').s S (A ++ F1' ++ B) := by
  unfold Pv.getP own at e
  cases hx : ρ.s[r]? with
  | none => simp [hx] at e
  | some x =>
    simp only [hx] at e
    cases hd : x.d? with
    | none => simp [hd] at e
    | some d0 =>
      simp only [hd] at e
      obtain ⟨ov, A, F1, B, e1, rfl, r1, k1⟩ := h.at hx
      obtain ⟨v0, rfl, r0, k0⟩ := r1.d hd
      obtain ⟨v, A', F2, B', rfl, w, r2, k2⟩ := r0.getQ e
      refine ⟨v0, v, A ++ A', F2, B' ++ B, e1, w, by simp, r2, fun Z' H' d' F1' k r => ?_⟩
      have := k1 Z' H' (x.put (setQ d0 q d')) (some v0) (A' ++ F1' ++ B') (k.sub fun a m => by simp at m ⊢; rcases m with m | m <;> simp [m])
        (k0 Z' H' _ _ (k2 Z' H' d' F1' (k.sub fun a m => by simp at m ⊢; rcases m with m | m <;> simp [m]) r))
      rw [set_self e1] at this
      simpa [putP, hx, hd] using this
end
theorem look_setK0 {κ : Type} [DecidableEq κ] {k : κ} {v d0 : D} : ∀ {ks : List κ} {l : List D}, look k ks l = some d0 → look k ks (setK k v ks l) = some v
  | [], _, e => by simp [look] at e
  | _ :: _, [], e => by simp [look] at e
  | a :: ks, x :: l, e => by
    by_cases h : a = k
    · subst h; simp [look, setK]
    · simp only [look, h, if_false] at e
      simp only [setK, h, if_false, look]
      exact look_setK0 e
theorem look_setK1 {κ : Type} [DecidableEq κ] {k k' : κ} (h : k ≠ k') {v : D} : ∀ {ks : List κ} {l : List D}, look k' ks (setK k v ks l) = look k' ks l
  | [], _ => by simp [look]
  | a :: ks, [] => by simp [setK]
  | a :: ks, x :: l => by
    by_cases h1 : a = k
    · subst h1
      simp [look, setK, h]
    · simp only [setK, h1, if_false, look]
      split
      · rfl
      · exact look_setK1 h
theorem g1_set_ne {d : D} {s s' : Stp} {v : D} (h : s ≠ s') : get1 (set1 d s v) s' = get1 d s' := by
  cases d with
  | lst z l => cases s <;> cases s' <;> cases z <;> simp_all [get1, set1, List.getElem?_set]
  | dk z ks l => cases s <;> cases s' <;> cases z <;> simp_all [get1, set1, look_setK1]
  | ins z c ns l => cases s <;> cases s' <;> cases z <;> simp_all [get1, set1, look_setK1]
  | _ => cases s <;> simp [set1]
theorem g1_set {d x : D} {s : Stp} {v : D} (h : get1 d s = some x) : get1 (set1 d s v) s = some v := by
  cases d with
  | lst z l => cases s <;> cases z <;> simp_all [get1, set1, List.getElem?_set]; rename_i i; exact (List.getElem?_eq_some_iff.mp h).1
  | dk z ks l => cases s <;> cases z <;> simp_all [get1, set1]; exact look_setK0 h
  | ins z c ns l => cases s <;> cases z <;> simp_all [get1, set1]; exact look_setK0 h
  | _ => cases s <;> simp [get1] at h

/-! ### paths beside a part -/
section
variable {K : PySem.W.Frag} {η : List V} {Z : Addr → Prop} {H : Hp}
theorem Reps.getX : ∀ {l : List D} {vs : List V} {F : List Addr} {i : Nat} {d : D}, Reps K η Z H l vs F → l[i]? = some d →
    ∃ v A F1 B, vs[i]? = some v ∧ F = A ++ F1 ++ B ∧ Rep K η Z H d v F1 ∧ (∀ Z' H' d' F1', Keeps Z Z' H H' (A ++ B) → Rep K η Z' H' d' v F1' → Reps K η Z' H' (l.set i d') vs (A ++ F1' ++ B)) ∧
      ∀ j x, j ≠ i → l[j]? = some x → ∃ w G, vs[j]? = some w ∧ Rep K η Z H x w G ∧ ∀ a ∈ G, a ∈ A ++ B
  | [], _, _, _, _, _, e => by simp at e
  | x :: l, _, _, 0, d, h, e => by
    obtain ⟨v, vs', F1, F2, rfl, h1, h2, rfl⟩ := h
    simp at e; subst e
    refine ⟨v, [], F1, F2, rfl, rfl, h1, fun Z' H' d' F1' k r => ⟨v, vs', F1', F2, rfl, r, Reps.keep k h2 (fun a m => by simpa using m), rfl⟩, fun j y hj hy => ?_⟩
    cases j with
    | zero => exact absurd rfl hj
    | succ j =>
      obtain ⟨w, A', G, B', e1, rfl, e2, _⟩ := Reps.get h2 (show l[j]? = some y by simpa using hy)
      exact ⟨w, G, by simpa using e1, e2, fun a m => by simp [m]⟩
  | x :: l, _, _, i + 1, d, h, e => by
    obtain ⟨v, vs', F1, F2, rfl, h1, h2, rfl⟩ := h
    obtain ⟨w, A, G, B, e1, rfl, e2, e3, e4⟩ := Reps.getX (i := i) h2 (by simpa using e)
    refine ⟨w, F1 ++ A, G, B, by simpa using e1, by simp, e2, fun Z' H' d' F1' k r => ?_, fun j y hj hy => ?_⟩
    · exact ⟨v, vs', F1, A ++ F1' ++ B, rfl, Rep.keep k h1 (fun a m => by simp [m]), e3 Z' H' d' F1' (k.sub fun a m => by simp at m ⊢; rcases m with m | m <;> simp [m]) r, by simp⟩
    · cases j with
      | zero =>
        simp at hy; subst hy
        exact ⟨v, F1, rfl, h1, fun a m => by simp [m]⟩
      | succ j =>
        obtain ⟨w', G', f1, f2, f3⟩ := e4 j y (by omega) (by simpa using hy)
        exact ⟨w', G', by simpa using f1, f2, fun a m => by have := f3 a m; simp at this ⊢; rcases this with m | m <;> simp [m]⟩
/-- a part, and the parts beside it -/
theorem Rep.get1X {d0 d : D} {v0 : V} {F0 : List Addr} {s : Stp} (h : Rep K η Z H d0 v0 F0) (e : Pv.get1 d0 s = some d) :
    ∃ v A F1 B, F0 = A ++ F1 ++ B ∧ St1 H v0 s v ∧ Rep K η Z H d v F1 ∧ (∀ Z' H' d' F1', Keeps Z Z' H H' (A ++ B) → Rep K η Z' H' d' v F1' → Rep K η Z' H' (set1 d0 s d') v0 (A ++ F1' ++ B)) ∧
      (∀ Z' H', Keeps Z Z' H H' (A ++ B) → St1 H' v0 s v) ∧ ∀ s' x, s' ≠ s → Pv.get1 d0 s' = some x → ∃ w G, St1 H v0 s' w ∧ Rep K η Z H x w G ∧ (∀ a ∈ G, a ∈ A ++ B) ∧ ∀ Z' H', Keeps Z Z' H H' (A ++ B) → St1 H' v0 s' w := by
  cases d0 with
  | lst z l =>
    cases z with
    | true => cases s <;> simp [Pv.get1] at e
    | false =>
      cases s with
      | ix i =>
        obtain ⟨a, vs, F', rfl, h1, h2, rfl⟩ := h
        obtain ⟨v, A, F1, B, e1, rfl, e2, e3, e4⟩ := Reps.getX h1 (show l[i]? = some d from e)
        refine ⟨v, a :: A, F1, B, by simp, ⟨a, rfl, vs, h2, e1⟩, e2, fun Z' H' d' F1' k r => ?_, fun Z' H' k => ⟨a, rfl, vs, k.own a (by simp) _ h2, e1⟩, fun s' x hs hx => ?_⟩
        · exact ⟨a, vs, A ++ F1' ++ B, rfl, e3 Z' H' d' F1' (k.sub fun x m => by simp at m ⊢; rcases m with m | m <;> simp [m]) r, k.own a (by simp) _ h2, by simp⟩
        · cases s' with
          | ix j =>
            obtain ⟨w, G, f1, f2, f3⟩ := e4 j x (fun q => hs (by rw [q])) hx
            exact ⟨w, G, ⟨a, rfl, vs, h2, f1⟩, f2, fun b m => by have := f3 b m; simp at this ⊢; rcases this with m | m <;> simp [m], fun Z' H' k => ⟨a, rfl, vs, k.own a (by simp) _ h2, f1⟩⟩
          | fld f => simp [Pv.get1] at hx
          | key k => simp [Pv.get1] at hx
      | fld f => simp [Pv.get1] at e
      | key k => simp [Pv.get1] at e
  | ins z c ns l =>
    cases z with
    | true => cases s <;> simp [Pv.get1] at e
    | false =>
      cases s with
      | fld f =>
        obtain ⟨a, dx, vs, F', rfl, h1, hl, h2, rfl⟩ := h
        obtain ⟨i, i1, i2, i3, i4⟩ := look_ix (show look f ns l = some d from e)
        obtain ⟨v, A, F1, B, e1, rfl, e2, e3, e4⟩ := Reps.getX h1 i1
        refine ⟨v, a :: A, F1, B, by simp, ⟨a, rfl, _, _, _, h2, lookup_zip i2 i3 e1⟩, e2, fun Z' H' d' F1' k r => ?_, fun Z' H' k => ⟨a, rfl, _, _, _, k.own a (by simp) _ h2, lookup_zip i2 i3 e1⟩, fun s' x hs hx => ?_⟩
        · show Rep K η Z' H' (.ins false c ns (setK f d' ns l)) _ _
          rw [i4]
          exact ⟨a, dx, vs, A ++ F1' ++ B, rfl, e3 Z' H' d' F1' (k.sub fun x m => by simp at m ⊢; rcases m with m | m <;> simp [m]) r, hl, k.own a (by simp) _ h2, by simp⟩
        · cases s' with
          | fld g =>
            obtain ⟨j, j1, j2, j3, j4⟩ := look_ix (show look g ns l = some x from hx)
            obtain ⟨w, G, f1, f2, f3⟩ := e4 j x (fun q => hs (by rw [q, i2] at j2; rw [Option.some.inj j2])) j1
            exact ⟨w, G, ⟨a, rfl, _, _, _, h2, lookup_zip j2 j3 f1⟩, f2, fun b m => by have := f3 b m; simp at this ⊢; rcases this with m | m <;> simp [m], fun Z' H' k => ⟨a, rfl, _, _, _, k.own a (by simp) _ h2, lookup_zip j2 j3 f1⟩⟩
          | ix f => simp [Pv.get1] at hx
          | key k => simp [Pv.get1] at hx
      | ix f => simp [Pv.get1] at e
      | key k => simp [Pv.get1] at e
  | dk z ks l =>
    cases z with
    | true => cases s <;> simp [Pv.get1] at e
    | false =>
      cases s with
      | key f =>
        obtain ⟨a, vs, F', rfl, h1, hl, hn, h2, rfl⟩ := h
        obtain ⟨i, i1, i2, i3, i4⟩ := look_ix (show look f ks l = some d from e)
        obtain ⟨v, A, F1, B, e1, rfl, e2, e3, e4⟩ := Reps.getX h1 i1
        refine ⟨v, a :: A, F1, B, by simp, ⟨a, rfl, _, h2, valV_zip i2 i3 e1⟩, e2, fun Z' H' d' F1' k r => ?_, fun Z' H' k => ⟨a, rfl, _, k.own a (by simp) _ h2, valV_zip i2 i3 e1⟩, fun s' x hs hx => ?_⟩
        · show Rep K η Z' H' (.dk false ks (setK f d' ks l)) _ _
          rw [i4]
          exact ⟨a, vs, A ++ F1' ++ B, rfl, e3 Z' H' d' F1' (k.sub fun x m => by simp at m ⊢; rcases m with m | m <;> simp [m]) r, hl, hn, k.own a (by simp) _ h2, by simp⟩
        · cases s' with
          | key g =>
            obtain ⟨j, j1, j2, j3, j4⟩ := look_ix (show look g ks l = some x from hx)
            obtain ⟨w, G, f1, f2, f3⟩ := e4 j x (fun q => hs (by rw [q, i2] at j2; rw [Option.some.inj j2])) j1
            exact ⟨w, G, ⟨a, rfl, _, h2, valV_zip j2 j3 f1⟩, f2, fun b m => by have := f3 b m; simp at this ⊢; rcases this with m | m <;> simp [m], fun Z' H' k => ⟨a, rfl, _, k.own a (by simp) _ h2, valV_zip j2 j3 f1⟩⟩
          | ix f => simp [Pv.get1] at hx
          | fld k => simp [Pv.get1] at hx
      | ix f => simp [Pv.get1] at e
      | fld k => simp [Pv.get1] at e
  | non => cases s <;> simp [Pv.get1] at e
  | bl => cases s <;> simp [Pv.get1] at e
  | int => cases s <;> simp [Pv.get1] at e
  | str => cases s <;> simp [Pv.get1] at e
  | tup => cases s <;> simp [Pv.get1] at e
  | dt => cases s <;> simp [Pv.get1] at e
  | glo => cases s <;> simp [Pv.get1] at e
  | hole => cases s <;> simp [Pv.get1] at e
/-- a part of an owned thing: what it owns lies behind the thing's own address -/
theorem Rep.child {d0 d : D} {a : Addr} {F' : List Addr} {s : Stp} (h : Rep K η Z H d0 (.ref a) (a :: F')) (e : Pv.get1 d0 s = some d) : ∃ w G, St1 H (.ref a) s w ∧ Rep K η Z H d w G ∧ ∀ b ∈ G, b ∈ F' := by
  cases d0 with
  | lst z l =>
    cases z with
    | true => cases s <;> simp [Pv.get1] at e
    | false =>
      cases s with
      | ix i =>
        obtain ⟨b, vs, F2, e0, h1, h2, e1⟩ := h
        cases e0
        obtain ⟨_, rfl⟩ := List.cons.inj e1
        obtain ⟨v, A, F1, B, f1, rfl, f2, _⟩ := Reps.get h1 (show l[i]? = some d from e)
        exact ⟨v, F1, ⟨a, rfl, vs, h2, f1⟩, f2, fun b m => by simp [m]⟩
      | fld f => simp [Pv.get1] at e
      | key k => simp [Pv.get1] at e
  | ins z c ns l =>
    cases z with
    | true => cases s <;> simp [Pv.get1] at e
    | false =>
      cases s with
      | fld f =>
        obtain ⟨b, dx, vs, F2, e0, h1, hl, h2, e1⟩ := h
        cases e0
        obtain ⟨_, rfl⟩ := List.cons.inj e1
        obtain ⟨i, i1, i2, i3, i4⟩ := look_ix (show look f ns l = some d from e)
        obtain ⟨v, A, F1, B, f1, rfl, f2, _⟩ := Reps.get h1 i1
        exact ⟨v, F1, ⟨a, rfl, _, _, _, h2, lookup_zip i2 i3 f1⟩, f2, fun b m => by simp [m]⟩
      | ix f => simp [Pv.get1] at e
      | key k => simp [Pv.get1] at e
  | dk z ks l =>
    cases z with
    | true => cases s <;> simp [Pv.get1] at e
    | false =>
      cases s with
      | key f =>
        obtain ⟨b, vs, F2, e0, h1, hl, hn, h2, e1⟩ := h
        cases e0
        obtain ⟨_, rfl⟩ := List.cons.inj e1
        obtain ⟨i, i1, i2, i3, i4⟩ := look_ix (show look f ks l = some d from e)
        obtain ⟨v, A, F1, B, f1, rfl, f2, _⟩ := Reps.get h1 i1
        exact ⟨v, F1, ⟨a, rfl, _, h2, valV_zip i2 i3 f1⟩, f2, fun b m => by simp [m]⟩
      | ix f => simp [Pv.get1] at e
      | fld k => simp [Pv.get1] at e
  | non => cases s <;> simp [Pv.get1] at e
  | bl => cases s <;> simp [Pv.get1] at e
  | int => cases s <;> simp [Pv.get1] at e
  | str => cases s <;> simp [Pv.get1] at e
  | tup => cases s <;> simp [Pv.get1] at e
  | dt => cases s <;> simp [Pv.get1] at e
  | glo => cases s <;> simp [Pv.get1] at e
  | hole => cases s <;> simp [Pv.get1] at e
/-- q' lies strictly below q -/
def blw (q q' : List Stp) : Prop := ∃ s r, q' = q ++ s :: r
theorem Rep.wkQ : ∀ {q : List Stp} {d0 d : D} {v0 : V} {F0 : List Addr}, Rep K η Z H d0 v0 F0 → Pv.getQ d0 q = some d → ∃ v, Wk H v0 q v ∧ ∀ Z' H', Keeps Z Z' H H' F0 → Wk H' v0 q v
  | [], d0, d, v0, F0, h, e => ⟨v0, rfl, fun _ _ _ => rfl⟩
  | s :: q, d0, d, v0, F0, h, e => by
    cases e1 : Pv.get1 d0 s with
    | none => simp [Pv.getQ, e1] at e
    | some x =>
      obtain ⟨u, A, F1, B, rfl, s1, r1, _, k1, _⟩ := Rep.get1X h e1
      obtain ⟨v, w1, w2⟩ := Rep.wkQ r1 (show Pv.getQ x q = some d by simpa [Pv.getQ, e1] using e)
      exact ⟨v, ⟨u, s1, w1⟩, fun Z' H' k => ⟨u, k1 Z' H' (k.sub fun a m => by simp at m ⊢; rcases m with m | m <;> simp [m]), w2 Z' H' (k.sub fun a m => by simp [m])⟩⟩
theorem Rep.wkKeep {q : List Stp} {d0 d : D} {v0 v : V} {F0 : List Addr} (h : Rep K η Z H d0 v0 F0) (e : Pv.getQ d0 q = some d) (w : Wk H v0 q v) {Z' : Addr → Prop} {H' : Hp} (k : Keeps Z Z' H H' F0) : Wk H' v0 q v := by
  obtain ⟨v', w1, w2⟩ := h.wkQ e
  rw [w.inj w1]
  exact w2 Z' H' k
theorem Rep.getQX : ∀ {q : List Stp} {d0 d : D} {v0 : V} {F0 : List Addr}, Rep K η Z H d0 v0 F0 → Pv.getQ d0 q = some d →
    ∃ v A F1 B, F0 = A ++ F1 ++ B ∧ Wk H v0 q v ∧ Rep K η Z H d v F1 ∧ (∀ Z' H' d' F1', Keeps Z Z' H H' (A ++ B) → Rep K η Z' H' d' v F1' → Rep K η Z' H' (setQ d0 q d') v0 (A ++ F1' ++ B)) ∧
      ∀ q' x v', Pv.getQ d0 q' = some x → Wk H v0 q' v' → ¬ blw q q' → ∀ Z' H', Keeps Z Z' H H' (A ++ B) → Wk H' v0 q' v'
  | [], d0, d, v0, F0, h, e => by
    have e' : d0 = d := Option.some.inj e
    subst e'
    refine ⟨v0, [], F0, [], by simp, rfl, h, fun Z' H' d' F1' _ r => by simpa [setQ] using r, fun q' x v' _ w hb Z' H' _ => ?_⟩
    cases q' with
    | nil => exact w
    | cons s r => exact absurd ⟨s, r, rfl⟩ hb
  | s :: q, d0, d, v0, F0, h, e => by
    cases e1 : Pv.get1 d0 s with
    | none => simp [Pv.getQ, e1] at e
    | some x =>
      obtain ⟨u, A, F1, B, rfl, s1, r1, k1, t1, t2⟩ := Rep.get1X h e1
      obtain ⟨v, A', F2, B', rfl, w2, r2, k2, o2⟩ := Rep.getQX r1 (show Pv.getQ x q = some d by simpa [Pv.getQ, e1] using e)
      refine ⟨v, A ++ A', F2, B' ++ B, by simp, ⟨u, s1, w2⟩, r2, fun Z' H' d' F1' k r => ?_, fun q' y v' hy w hb Z' H' k => ?_⟩
      · have := k1 Z' H' (setQ x q d') (A' ++ F1' ++ B') (k.sub fun a m => by simp at m ⊢; rcases m with m | m <;> simp [m]) (k2 Z' H' d' F1' (k.sub fun a m => by simp at m ⊢; rcases m with m | m <;> simp [m]) r)
        simpa [setQ, e1] using this
      · cases q' with
        | nil => exact w
        | cons s' q1 =>
          obtain ⟨u', w1, w3⟩ := w
          have kAB : Keeps Z Z' H H' (A ++ B) := k.sub fun a m => by simp at m ⊢; rcases m with m | m <;> simp [m]
          by_cases hs : s' = s
          · subst hs
            cases w1.inj s1
            exact ⟨u, t1 Z' H' kAB, o2 q1 y v' (by simpa [Pv.getQ, e1] using hy) w3 (fun ⟨s2, r2, e2⟩ => hb ⟨s2, r2, by rw [e2]; rfl⟩) Z' H' (k.sub fun a m => by simp at m ⊢; rcases m with m | m <;> simp [m])⟩
          · cases e3 : Pv.get1 d0 s' with
            | none => simp [Pv.getQ, e3] at hy
            | some x' =>
              obtain ⟨w', G, f1, f2, f3, f4⟩ := t2 s' x' hs e3
              cases w1.inj f1
              exact ⟨u', f4 Z' H' kAB, f2.wkKeep (show Pv.getQ x' q1 = some y by simpa [Pv.getQ, e3] using hy) w3 (kAB.mono f3)⟩
theorem RepS.atX : ∀ {ρ : List Slot} {S : List (Option V)} {F : List Addr} {i : Nat} {x : Slot}, RepS K η Z H ρ S F → ρ[i]? = some x →
    ∃ ov A F1 B, S[i]? = some ov ∧ F = A ++ F1 ++ B ∧ RepS1 K η Z H x ov F1 ∧ (∀ Z' H' x' ov' F1', Keeps Z Z' H H' (A ++ B) → RepS1 K η Z' H' x' ov' F1' → RepS K η Z' H' (ρ.set i x') (S.set i ov') (A ++ F1' ++ B)) ∧
      ∀ j y, j ≠ i → ρ[j]? = some y → ∃ ow G, S[j]? = some ow ∧ RepS1 K η Z H y ow G ∧ ∀ a ∈ G, a ∈ A ++ B
  | [], _, _, _, _, _, e => by simp at e
  | y :: ρ, _, _, 0, x, h, e => by
    obtain ⟨ov, S', F1, F2, rfl, h1, h2, rfl⟩ := h
    simp at e; subst e
    refine ⟨ov, [], F1, F2, rfl, rfl, h1, fun Z' H' x' ov' F1' k r => ⟨ov', S', F1', F2, rfl, r, h2.keep k (fun a m => by simpa using m), rfl⟩, fun j z hj hz => ?_⟩
    cases j with
    | zero => exact absurd rfl hj
    | succ j =>
      obtain ⟨w, A', G, B', e1, rfl, e2, _⟩ := RepS.at h2 (show ρ[j]? = some z by simpa using hz)
      exact ⟨w, G, by simpa using e1, e2, fun a m => by simp [m]⟩
  | y :: ρ, _, _, i + 1, x, h, e => by
    obtain ⟨ov, S', F1, F2, rfl, h1, h2, rfl⟩ := h
    obtain ⟨w, A, G, B, e1, rfl, e2, e3, e4⟩ := RepS.atX (i := i) h2 (by simpa using e)
    refine ⟨w, F1 ++ A, G, B, by simpa using e1, by simp, e2, fun Z' H' x' ov' F1' k r => ?_, fun j z hj hz => ?_⟩
    · exact ⟨ov, S'.set i ov', F1, A ++ F1' ++ B, rfl, h1.keep k (fun a m => by simp [m]), e3 Z' H' x' ov' F1' (k.sub fun a m => by simp at m ⊢; rcases m with m | m <;> simp [m]) r, by simp⟩
    · cases j with
      | zero =>
        simp at hz; subst hz
        exact ⟨ov, F1, rfl, h1, fun a m => by simp [m]⟩
      | succ j =>
        obtain ⟨w', G', f1, f2, f3⟩ := e4 j z (by omega) (by simpa using hz)
        exact ⟨w', G', by simpa using f1, f2, fun a m => by have := f3 a m; simp at this ⊢; rcases this with m | m <;> simp [m]⟩
/-- the thing at a place; places that lie not below it -/
theorem RepS.getPX {ρ : Env} {S : List (Option V)} {F : List Addr} {r : Nat} {q : List Stp} {d : D} (h : RepS K η Z H ρ.s S F) (e : Pv.getP ρ r q = some d) :
    ∃ v0 v A F1 B, S[r]? = some (some v0) ∧ Wk H v0 q v ∧ F = A ++ F1 ++ B ∧ Rep K η Z H d v F1 ∧ (∀ Z' H' d' F1', Keeps Z Z' H H' (A ++ B) → Rep K η Z' H' d' v F1' → RepS K η Z' H' (putP ρ r q d').s S (A ++ F1' ++ B)) ∧
      ∀ r' q' x w0 w, Pv.getP ρ r' q' = some x → S[r']? = some (some w0) → Wk H w0 q' w → ¬ (r' = r ∧ blw q q') → ∀ Z' H', Keeps Z Z' H H' (A ++ B) → Wk H' w0 q' w := by
  unfold Pv.getP own at e
  cases hx : ρ.s[r]? with
  | none => simp [hx] at e
  | some x =>
    simp only [hx] at e
    cases hd : x.d? with
    | none => simp [hd] at e
    | some d0 =>
      simp only [hd] at e
      obtain ⟨ov, A, F1, B, e1, rfl, r1, k1, o1⟩ := h.atX hx
      obtain ⟨v0, rfl, r0, k0⟩ := r1.d hd
      obtain ⟨v, A', F2, B', rfl, w, r2, k2, o2⟩ := r0.getQX e
      refine ⟨v0, v, A ++ A', F2, B' ++ B, e1, w, by simp, r2, fun Z' H' d' F1' k r => ?_, fun r' q' y w0 w' hy hw0 hw hb Z' H' k => ?_⟩
      · have := k1 Z' H' (x.put (setQ d0 q d')) (some v0) (A' ++ F1' ++ B') (k.sub fun a m => by simp at m ⊢; rcases m with m | m <;> simp [m])
          (k0 Z' H' _ _ (k2 Z' H' d' F1' (k.sub fun a m => by simp at m ⊢; rcases m with m | m <;> simp [m]) r))
        rw [set_self e1] at this
        simpa [putP, hx, hd] using this
      · unfold Pv.getP own at hy
        by_cases hr : r' = r
        · subst hr
          simp only [hx, hd] at hy
          rw [e1] at hw0; cases hw0
          exact o2 q' y w' hy hw (fun b => hb ⟨rfl, b⟩) Z' H' (k.sub fun a m => by simp at m ⊢; rcases m with m | m <;> simp [m])
        · cases hx' : ρ.s[r']? with
          | none => simp [hx'] at hy
          | some x' =>
            simp only [hx'] at hy
            cases hd' : x'.d? with
            | none => simp [hd'] at hy
            | some d0' =>
              simp only [hd'] at hy
              obtain ⟨ow, G, g1, g2, g3⟩ := o1 r' x' hr hx'
              obtain ⟨u0, rfl, gr, _⟩ := g2.d hd'
              rw [g1] at hw0; cases hw0
              exact gr.wkKeep hy hw (k.mono fun a m => by have := g3 a m; simp at this ⊢; rcases this with m | m <;> simp [m])
/-! ### other names -/
/-- the other names that are alive stand for their places -/
def AlI (A : AlT) (H : Hp) (ρ : Env) (σ : L2.St) : Prop := ∀ i r q, ρ.s[i]? = some (.al r q) → (i, r, q) ∈ A ∧ ∃ v0 v d, σ[i]? = some (some v) ∧ σ[r]? = some (some v0) ∧ Wk H v0 q v ∧ getP ρ r q = some d
end
variable (A : AlT) (K : PySem.W.Frag) (η : List V) (Z : Addr → Prop) (H : Hp) in
/-- a frame stands -/
def RepE (ρ : Env) (σ γ : L2.St) (F : List Addr) : Prop := RepS K η Z H ρ.s (σ ++ γ) F ∧ AlI A H ρ σ
section
variable {A : AlT} {K : PySem.W.Frag} {η : List V} {Z : Addr → Prop} {H : Hp} {ρ : Env} {σ γ : L2.St} {F : List Addr}
theorem not_blw_self {q : List Stp} : ¬ blw q q := fun ⟨s, r, e⟩ => by
  have := congrArg List.length e
  simp at this
theorem app_at {σ γ : L2.St} {i : Nat} {x : Option V} (h : σ[i]? = some x) : (σ ++ γ)[i]? = some x := by
  rw [List.getElem?_append_left (List.getElem?_eq_some_iff.mp h).1]; exact h
theorem RepE.keep {Z' : Addr → Prop} {H' : Hp} {F0 : List Addr} (h : RepE A K η Z H ρ σ γ F) (k : Keeps Z Z' H H' F0) (m : ∀ a ∈ F, a ∈ F0) : RepE A K η Z' H' ρ σ γ F := by
  refine ⟨h.1.keep k m, fun i r q e => ?_⟩
  obtain ⟨ha, v0, v, d, h1, h2, h3, h4⟩ := h.2 i r q e
  refine ⟨ha, v0, v, d, h1, h2, ?_, h4⟩
  obtain ⟨w0, w, A', F1, B, g1, g2, rfl, g4, g5, g6⟩ := h.1.getPX h4
  exact g6 r q d v0 v h4 (app_at h2) h3 (fun b => not_blw_self b.2) Z' H' (k.mono fun a z => m a (by simp at z ⊢; rcases z with z | z <;> simp [z]))
theorem tgt_of {i r : Nat} {q : List Stp} (h : (i, r, q) ∈ A) : tgt A r = true := List.any_eq_true.mpr ⟨_, h, by simp⟩
theorem lk_of {fx : List Nat} {i : Nat} (h : lk A fx i = false) : fx.contains i = false ∧ tgt A i = false := by simpa [lk] using h
theorem getP_setS {i r : Nat} {x : Slot} {q : List Stp} (h : r ≠ i) : getP (setS ρ i x) r q = getP ρ r q := by
  unfold getP own setS
  simp only
  rw [List.getElem?_set_ne (Ne.symm h)]
/-- slots that are no place of another name are stored -/
theorem AlI.chg {ρ' : Env} {σ' : L2.St} (h : AlI A H ρ σ) (hs : ∀ (j : Nat) x, ρ'.s[j]? = some x → (ρ.s[j]? = some x ∧ σ'[j]? = σ[j]?) ∨ ∀ r q, x ≠ .al r q) (ht : ∀ j, tgt A j = true → ρ'.s[j]? = ρ.s[j]? ∧ σ'[j]? = σ[j]?) : AlI A H ρ' σ' := by
  intro i r q e
  rcases hs i _ e with ⟨e1, e2⟩ | e1
  · obtain ⟨ha, v0, v, d, h1, h2, h3, h4⟩ := h i r q e1
    obtain ⟨t1, t2⟩ := ht r (tgt_of ha)
    refine ⟨ha, v0, v, d, by rw [e2]; exact h1, by rw [t2]; exact h2, h3, ?_⟩
    unfold getP own at h4 ⊢
    rw [t1]; exact h4
  · exact absurd rfl (e1 r q)
theorem AlI.setS {i : Nat} {x : Slot} {σ' : L2.St} (h : AlI A H ρ σ) (hx : ∀ r q, x ≠ .al r q) (ht : tgt A i = false) (hs : ∀ j, j ≠ i → σ'[j]? = σ[j]?) : AlI A H (setS ρ i x) σ' := by
  refine h.chg (fun j y hy => ?_) (fun j hj => ?_)
  · by_cases e : i = j
    · subst e
      refine .inr fun r q e2 => ?_
      have : y = x := by
        have hy' : (ρ.s.set i x)[i]? = some y := hy
        rw [List.getElem?_set] at hy'
        rw [if_pos rfl] at hy'
        split at hy'
        · exact (Option.some.inj hy').symm
        · cases hy'
      exact hx r q (this ▸ e2)
    · have hy' : (ρ.s.set i x)[j]? = some y := hy
      rw [List.getElem?_set_ne e] at hy'
      exact .inl ⟨hy', hs j (Ne.symm e)⟩
  · have e : j ≠ i := fun e => by rw [e, ht] at hj; cases hj
    exact ⟨show (ρ.s.set i x)[j]? = _ from List.getElem?_set_ne (Ne.symm e), hs j e⟩
theorem AlI.setH {i : Nat} {x : Slot} (h : AlI A H ρ σ) (hx : ∀ r q, x ≠ .al r q) (hi : σ.length ≤ i) : AlI A H (Pv.setS ρ i x) σ := by
  intro j r q e
  have e' : (ρ.s.set i x)[j]? = some (.al r q) := e
  have hj : i ≠ j := fun q1 => by
    subst q1
    rw [List.getElem?_set, if_pos rfl] at e'
    split at e'
    · exact hx r q (Option.some.inj e')
    · cases e'
  rw [List.getElem?_set_ne hj] at e'
  obtain ⟨ha, v0, v, d, h1, h2, h3, h4⟩ := h j r q e'
  refine ⟨ha, v0, v, d, h1, h2, h3, ?_⟩
  rw [getP_setS]
  · exact h4
  · intro q1
    have := (List.getElem?_eq_some_iff.mp h2).1
    omega
theorem tgt_own {own : List Nat} (h : ∀ i ∈ own, tgt A i = false) {j : Nat} (hj : tgt A j = true) : j ∉ own := fun m => by rw [h j m] at hj; cases hj
/-! killed names -/
theorem Slot.dead_d {x : Slot} : x.dead.d? = x.d? := by cases x <;> rfl
theorem killS_get {c : Nat → List Stp → Bool} {j : Nat} : ∀ {A : AlT} {s : List Slot}, (killS c A s)[j]? = (s[j]?).map fun x => if A.any (fun a => decide (a.1 = j) && c a.2.1 a.2.2) then x.dead else x
  | [], s => by simp [killS]
  | a :: A, s => by
    rw [killS, killS_get]
    by_cases hc : c a.2.1 a.2.2 = true
    · simp only [hc, if_true, List.any_cons, Bool.and_true]
      rw [List.getElem?_modify]
      by_cases hj : a.1 = j
      · simp only [hj, if_true, decide_true, Bool.true_or, Option.map_map]
        cases s[j]? with
        | none => rfl
        | some x => simp only [Option.map_some, Function.comp]; split <;> cases x <;> rfl
      · simp only [hj, if_false, decide_false, Bool.false_or, Option.map_id, id]
        simp
    · have hc : c a.2.1 a.2.2 = false := by simpa using hc
      simp only [hc, Bool.false_eq_true, if_false, List.any_cons, Bool.and_false, Bool.false_or]
theorem killS_len {c : Nat → List Stp → Bool} : ∀ {A : AlT} {s : List Slot}, (killS c A s).length = s.length
  | [], s => rfl
  | a :: A, s => by
    rw [killS, killS_len]
    split <;> simp
theorem RepS.dead {S : List (Option V)} : ∀ {s : List Slot} {S : List (Option V)} {F : List Addr} (i : Nat), RepS K η Z H s S F → RepS K η Z H (s.modify i Slot.dead) S F
  | [], S, F, i, h => by rw [List.modify_nil]; exact h
  | x :: s, S, F, 0, h => by
    obtain ⟨ov, S', F1, F2, e, h1, h2, rfl⟩ := h
    refine ⟨ov, S', F1, F2, e, ?_, h2, rfl⟩
    cases x <;> exact h1
  | x :: s, S, F, i + 1, h => by
    obtain ⟨ov, S', F1, F2, e, h1, h2, rfl⟩ := h
    exact ⟨ov, S', F1, F2, e, h1, RepS.dead (S := S') i h2, rfl⟩
theorem RepS.kill {S : List (Option V)} {c : Nat → List Stp → Bool} : ∀ {A : AlT} {s : List Slot}, RepS K η Z H s S F → RepS K η Z H (killS c A s) S F
  | [], s, h => h
  | a :: A, s, h => by
    rw [killS]
    refine RepS.kill ?_
    split
    · exact RepS.dead (S := S) _ h
    · exact h
theorem own_kill {c : Nat → List Stp → Bool} {r : Nat} : own (killE A c ρ) r = own ρ r := by
  unfold own killE
  simp only
  rw [killS_get]
  cases ρ.s[r]? with
  | none => rfl
  | some x => simp only [Option.map_some]; split <;> simp [Slot.dead_d]
theorem getP_kill {c : Nat → List Stp → Bool} {r : Nat} {q : List Stp} : getP (killE A c ρ) r q = getP ρ r q := by
  unfold getP; rw [own_kill]
theorem killE_nl {c : Nat → List Stp → Bool} : (killE A c ρ).nl = ρ.nl := rfl
/-- what is left alive -/
theorem kill_al {c : Nat → List Stp → Bool} {i r : Nat} {q : List Stp} (e : (killE A c ρ).s[i]? = some (.al r q)) : ρ.s[i]? = some (.al r q) ∧ ((i, r, q) ∈ A → c r q = false) := by
  have e' : (killS c A ρ.s)[i]? = some (.al r q) := e
  rw [killS_get] at e'
  cases hx : ρ.s[i]? with
  | none => simp [hx] at e'
  | some x =>
    simp only [hx, Option.map_some, Option.some.injEq] at e'
    split at e'
    · cases x <;> simp [Slot.dead] at e'
    · rename_i hn
      refine ⟨by rw [e'], fun hm => ?_⟩
      cases hc : c r q with
      | false => rfl
      | true => exact absurd (List.any_eq_true.mpr ⟨(i, r, q), hm, by simp [hc]⟩) hn
theorem below_iff {r r' : Nat} {q q' : List Stp} : below r q r' q' = true ↔ r' = r ∧ blw q q' := by
  unfold below blw
  simp only [Bool.and_eq_true, beq_iff_eq, decide_eq_true_eq, List.isPrefixOf_iff_prefix]
  constructor
  · rintro ⟨rfl, ⟨t, rfl⟩, hl⟩
    refine ⟨rfl, ?_⟩
    cases t with
    | nil => simp at hl
    | cons s t => exact ⟨s, t, rfl⟩
  · rintro ⟨rfl, s, t, rfl⟩
    exact ⟨rfl, ⟨s :: t, rfl⟩, by simp⟩
theorem putP_al {r : Nat} {q : List Stp} {d : D} {i r' : Nat} {q' : List Stp} (e : (putP ρ r q d).s[i]? = some (.al r' q')) : ρ.s[i]? = some (.al r' q') := by
  unfold putP at e
  split at e
  · rename_i x hx
    split at e
    · rename_i d0 hd
      simp only at e
      rw [List.getElem?_set] at e
      split at e
      · rename_i hr
        subst hr
        split at e
        · cases x <;> simp [Slot.d?] at hd <;> simp [Slot.put] at e
        · cases e
      · exact e
    · exact e
  · exact e
theorem getQ_setQ_some : ∀ {q q' : List Stp} {d0 d x v : D}, Pv.getQ d0 q = some d → Pv.getQ d0 q' = some x → ¬ blw q q' → ∃ y, Pv.getQ (setQ d0 q v) q' = some y
  | [], q', d0, d, x, v, h, h', hb => by
    cases q' with
    | nil => exact ⟨v, rfl⟩
    | cons s t => exact absurd ⟨s, t, rfl⟩ hb
  | s :: q, q', d0, d, x, v, h, h', hb => by
    cases q' with
    | nil => exact ⟨_, rfl⟩
    | cons s' t =>
      cases e1 : Pv.get1 d0 s with
      | none => simp [Pv.getQ, e1] at h
      | some y =>
        cases e2 : Pv.get1 d0 s' with
        | none => simp [Pv.getQ, e2] at h'
        | some y' =>
          have e3 : ∀ u : D, Pv.get1 (set1 d0 s u) s' = if s' = s then some u else some y' := by
            intro u
            by_cases hs : s' = s
            · subst hs
              rw [if_pos rfl]
              exact g1_set e1
            · rw [if_neg hs, ← e2]
              exact g1_set_ne (Ne.symm hs)
          simp only [setQ, e1, Pv.getQ, e3]
          by_cases hs : s' = s
          · subst hs
            simp only [if_true]
            rw [e1] at e2
            cases e2
            exact getQ_setQ_some (by simpa [Pv.getQ, e1] using h) (by simpa [Pv.getQ, e1] using h') (fun ⟨a, b, e⟩ => hb ⟨a, b, by rw [e]; rfl⟩)
          · simp only [hs, if_false]
            exact ⟨x, by simpa [Pv.getQ, e2] using h'⟩
theorem getP_putP_some {r r' : Nat} {q q' : List Stp} {d x v : D} (h : getP ρ r q = some d) (h' : getP ρ r' q' = some x) (hb : ¬ (r' = r ∧ blw q q')) : ∃ y, getP (putP ρ r q v) r' q' = some y := by
  unfold getP own at h h'
  cases hx : ρ.s[r]? with
  | none => simp [hx] at h
  | some s =>
    simp only [hx] at h
    cases hd : s.d? with
    | none => simp [hd] at h
    | some d0 =>
      simp only [hd] at h
      unfold getP own putP
      simp only [hx, hd]
      by_cases hr : r' = r
      · subst hr
        simp only [hx, hd] at h'
        rw [List.getElem?_set, if_pos rfl, if_pos (List.getElem?_eq_some_iff.mp hx).1]
        obtain ⟨y, e⟩ := getQ_setQ_some (v := v) h h' (fun b => hb ⟨rfl, b⟩)
        refine ⟨y, ?_⟩
        cases s <;> simp_all [Slot.put, Slot.d?]
      · rw [List.getElem?_set_ne (Ne.symm hr)]
        exact ⟨x, h'⟩
/-- what lies strictly below a place and is left alive stays where it was -/
def PathsOk (c : Nat → List Stp → Bool) (r : Nat) (q : List Stp) (d d' : D) (v : V) (H H' : Hp) : Prop := ∀ s t x w, c r (q ++ s :: t) = false → Pv.getQ d (s :: t) = some x → Wk H v (s :: t) w → Wk H' v (s :: t) w ∧ ∃ y, Pv.getQ d' (s :: t) = some y
theorem PathsOk.below {r : Nat} {q : List Stp} {d d' : D} {v : V} {H H' : Hp} : PathsOk (below r q) r q d d' v H H' := fun s t x w h => by
  have : Pv.below r q r (q ++ s :: t) = true := below_iff.mpr ⟨rfl, s, t, rfl⟩
  rw [this] at h; cases h
theorem PathsOk.of {c : Nat → List Stp → Bool} {r : Nat} {q : List Stp} {d d' : D} {a : Addr} {o' : HO} {F' : List Addr} {K : PySem.W.Frag} {η : List V} {Z : Addr → Prop} {H : Hp} (rx : Rep K η Z H d (.ref a) (a :: F')) (k : Keeps Z Z H (upd H a o') F')
    (hs : ∀ s t x u, c r (q ++ s :: t) = false → Pv.get1 d s = some x → St1 H (.ref a) s u → St1 (upd H a o') (.ref a) s u ∧ Pv.get1 d' s = some x) : PathsOk c r q d d' (.ref a) H (upd H a o') := by
  intro s t x w hk hx hw
  cases e : Pv.get1 d s with
  | none => simp [Pv.getQ, e] at hx
  | some d1 =>
    have hx1 : Pv.getQ d1 t = some x := by simpa [Pv.getQ, e] using hx
    obtain ⟨u, u1, u2⟩ := hw
    obtain ⟨s1, s2⟩ := hs s t d1 u hk e u1
    obtain ⟨u', G, g1, g2, g3⟩ := rx.child e
    cases g1.inj u1
    exact ⟨⟨u, s1, g2.wkKeep hx1 u2 (k.mono g3)⟩, x, by simpa [Pv.getQ, s2] using hx1⟩
/-- the thing at a place is changed: what lies strictly below it and is left alive must be shown -/
theorem RepE.put {r : Nat} {q : List Stp} {d : D} (h : RepE A K η Z H ρ σ γ F) (e : getP ρ r q = some d) :
    ∃ v0 v B F1 C, (σ ++ γ)[r]? = some (some v0) ∧ Wk H v0 q v ∧ F = B ++ F1 ++ C ∧ Rep K η Z H d v F1 ∧
      ∀ c Z' H' d' F1', Keeps Z Z' H H' (B ++ C) → Rep K η Z' H' d' v F1' → PathsOk c r q d d' v H H' →
        RepE A K η Z' H' (killE A c (putP ρ r q d')) σ γ (B ++ F1' ++ C) := by
  obtain ⟨v0, v, B, F1, C, g1, g2, g3, g4, g5, g6⟩ := h.1.getPX e
  refine ⟨v0, v, B, F1, C, g1, g2, g3, g4, fun c Z' H' d' F1' k r' hc => ⟨(g5 Z' H' d' F1' k r').kill, fun i r1 q1 ea => ?_⟩⟩
  obtain ⟨ea, hn⟩ := kill_al ea
  obtain ⟨ha, w0, w, x, h1, h2, h3, h4⟩ := h.2 i r1 q1 (putP_al ea)
  have hn := hn ha
  by_cases hb : r1 = r ∧ blw q q1
  · obtain ⟨rfl, s, t, rfl⟩ := hb
    have hx : Pv.getQ d (s :: t) = some x := by
      have : ∀ {q : List Stp} {d0 d : D}, Pv.getQ d0 q = some d → Pv.getQ d0 (q ++ s :: t) = Pv.getQ d (s :: t) := by
        intro q
        induction q with
        | nil => intro d0 d h; cases h; rfl
        | cons a q ih =>
          intro d0 d h
          cases e1 : Pv.get1 d0 a with
          | none => simp [Pv.getQ, e1] at h
          | some y =>
            have := ih (show Pv.getQ y q = some d by simpa [Pv.getQ, e1] using h)
            rw [List.cons_append, Pv.getQ, e1]; exact this
      unfold getP at e h4
      cases ho : own ρ r1 with
      | none => simp [ho] at e
      | some d0 =>
        simp only [ho] at e h4
        rw [this e] at h4; exact h4
    have split : ∀ {q : List Stp} {a b : V}, Wk H a (q ++ s :: t) b → ∃ m, Wk H a q m ∧ Wk H m (s :: t) b := by
      intro q
      induction q with
      | nil => intro a b h; exact ⟨a, rfl, h⟩
      | cons a q ih =>
        rintro a' b ⟨u, u1, u2⟩
        obtain ⟨m, m1, m2⟩ := ih u2
        exact ⟨m, ⟨u, u1, m1⟩, m2⟩
    have joinW : ∀ {q : List Stp} {a m b : V} {H : Hp}, Wk H a q m → Wk H m (s :: t) b → Wk H a (q ++ s :: t) b := by
      intro q
      induction q with
      | nil => intro a m b H h h'; cases h; exact h'
      | cons a q ih =>
        rintro a' m b H hw h'
        obtain ⟨u, u1, u2⟩ := hw
        exact ⟨u, u1, ih u2 h'⟩
    have hw0 : w0 = v0 := by
      have := app_at (γ := γ) h2
      rw [g1] at this; exact (Option.some.inj (Option.some.inj this)).symm
    subst hw0
    obtain ⟨m, m1, m2⟩ := split h3
    cases m1.inj g2
    obtain ⟨n1, y, n2⟩ := hc s t x w hn hx m2
    have pq := g6 r1 q d w0 _ e g1 g2 (fun b => not_blw_self b.2) Z' H' k
    refine ⟨ha, w0, w, y, h1, h2, joinW pq n1, ?_⟩
    rw [getP_kill]
    have : ∀ {q : List Stp} {d0 d : D}, Pv.getQ d0 q = some d → Pv.getQ (setQ d0 q d') (q ++ s :: t) = Pv.getQ d' (s :: t) := by
      intro q
      induction q with
      | nil => intro d0 d h; rfl
      | cons a q ih =>
        intro d0 d h
        cases e1 : Pv.get1 d0 a with
        | none => simp [Pv.getQ, e1] at h
        | some y =>
          have i1 := ih (show Pv.getQ y q = some d by simpa [Pv.getQ, e1] using h)
          have i2 : Pv.get1 (set1 d0 a (setQ y q d')) a = some (setQ y q d') := by
            exact g1_set e1
          simp only [setQ, e1, List.cons_append, Pv.getQ, i2]; exact i1
    unfold getP own at e
    cases hx2 : ρ.s[r1]? with
    | none => simp [hx2] at e
    | some sl =>
      simp only [hx2] at e
      cases hd : sl.d? with
      | none => simp [hd] at e
      | some d0 =>
        simp only [hd] at e
        unfold getP own putP
        simp only [hx2, hd]
        rw [List.getElem?_set, if_pos rfl, if_pos (List.getElem?_eq_some_iff.mp hx2).1]
        have hp : (sl.put (setQ d0 q d')).d? = some (setQ d0 q d') := by cases sl <;> simp_all [Slot.put, Slot.d?]
        simp only [hp]
        rw [this e]; exact n2
  · obtain ⟨y, hy⟩ := getP_putP_some (v := d') e h4 hb
    exact ⟨ha, w0, w, y, h1, h2, g6 r1 q1 x w0 w h4 (app_at h2) h3 hb Z' H' k, by rw [getP_kill]; exact hy⟩
end
/-! ### how the heap goes on -/
structure WF (H : Hp) (Z : Addr → Prop) (F : List Addr) : Prop where
  nd : F.Nodup
  pm : ∀ a ∈ F, ∃ o, H a = some o ∧ Pm o
  dz : ∀ a ∈ F, ¬ Z a
  zt : ∀ a, Z a → H a ≠ none
structure Evo (H : Hp) (Z : Addr → Prop) (F : List Addr) (H' : Hp) (Z' : Addr → Prop) (F' : List Addr) : Prop where
  keep : ∀ a o, H a = some o → a ∉ F → H' a = some o
  sub : ∀ a ∈ F', a ∈ F ∨ H a = none
  zs : ∀ a, Z a → Z' a
  zn : ∀ a, Z' a → Z a ∨ a ∈ F ∨ H a = none
  wf : WF H' Z' F'
theorem WF.notin {H : Hp} {Z : Addr → Prop} {F : List Addr} (w : WF H Z F) {a : Addr} {o : HO} (h : H a = some o) (p : ¬ Pm o) : a ∉ F := fun m => by
  obtain ⟨o', e, q⟩ := w.pm a m
  rw [h] at e; cases e; exact p q
theorem WF.left {H : Hp} {Z : Addr → Prop} {F G : List Addr} (w : WF H Z (F ++ G)) : WF H Z F :=
  ⟨(List.nodup_append.mp w.nd).1, fun a m => w.pm a (List.mem_append_left _ m), fun a m => w.dz a (List.mem_append_left _ m), w.zt⟩
theorem WF.right {H : Hp} {Z : Addr → Prop} {F G : List Addr} (w : WF H Z (F ++ G)) : WF H Z G :=
  ⟨(List.nodup_append.mp w.nd).2.1, fun a m => w.pm a (List.mem_append_right _ m), fun a m => w.dz a (List.mem_append_right _ m), w.zt⟩
theorem WF.apart {H : Hp} {Z : Addr → Prop} {F G : List Addr} (w : WF H Z (F ++ G)) {a : Addr} (h : a ∈ F) : a ∉ G := fun g => (List.nodup_append.mp w.nd).2.2 a h a g rfl
theorem WF.perm {H : Hp} {Z : Addr → Prop} {F G : List Addr} (w : WF H Z F) (p : F.Perm G) : WF H Z G :=
  ⟨p.nodup_iff.mp w.nd, fun a m => w.pm a (p.mem_iff.mpr m), fun a m => w.dz a (p.mem_iff.mpr m), w.zt⟩
theorem WF.sublist {H : Hp} {Z : Addr → Prop} {F G : List Addr} (w : WF H Z F) (p : G.Sublist F) : WF H Z G :=
  ⟨w.nd.sublist p, fun a m => w.pm a (p.subset m), fun a m => w.dz a (p.subset m), w.zt⟩
theorem Evo.refl {H : Hp} {Z : Addr → Prop} {F : List Addr} (w : WF H Z F) : Evo H Z F H Z F := ⟨fun _ _ e _ => e, fun _ m => .inl m, fun _ z => z, fun _ z => .inl z, w⟩
theorem Evo.trans {H H1 H2 : Hp} {Z Z1 Z2 : Addr → Prop} {F F1 F2 : List Addr} (a : Evo H Z F H1 Z1 F1) (b : Evo H1 Z1 F1 H2 Z2 F2) : Evo H Z F H2 Z2 F2 := by
  have notF : ∀ c o, H c = some o → c ∉ F → c ∉ F1 := fun c o e n m => by
    rcases a.sub c m with z | z
    · exact n z
    · rw [e] at z; cases z
  have none1 : ∀ c, H1 c = none → c ∈ F ∨ H c = none := fun c e => by
    cases q : H c with
    | none => exact .inr rfl
    | some o =>
      by_cases m : c ∈ F
      · exact .inl m
      · rw [a.keep c o q m] at e; cases e
  refine ⟨fun c o e n => b.keep c o (a.keep c o e n) (notF c o e n), fun c m => ?_, fun c z => b.zs c (a.zs c z), fun c z => ?_, b.wf⟩
  · rcases b.sub c m with z | z
    · exact a.sub c z
    · exact none1 c z
  · rcases b.zn c z with z | z | z
    · exact a.zn c z
    · exact .inr (a.sub c z)
    · exact .inr (none1 c z)
/-- what else is owned stays -/
theorem Evo.frame {H H' : Hp} {Z Z' : Addr → Prop} {F F' G : List Addr} (a : Evo H Z F H' Z' F') (w : WF H Z (F ++ G)) : Evo H Z (F ++ G) H' Z' (F' ++ G) := by
  have gk : ∀ c ∈ G, ∃ o, H c = some o ∧ Pm o ∧ H' c = some o := fun c m => by
    obtain ⟨o, e, p⟩ := w.pm c (List.mem_append_right _ m)
    exact ⟨o, e, p, a.keep c o e fun q => w.apart q m⟩
  have ap : ∀ c ∈ F', c ∉ G := fun c m g => by
    obtain ⟨o, e, _, _⟩ := gk c g
    rcases a.sub c m with z | z
    · exact w.apart z g
    · rw [e] at z; cases z
  refine ⟨fun c o e n => a.keep c o e fun m => n (List.mem_append_left _ m), fun c m => ?_, a.zs, fun c z => ?_, ⟨?_, fun c m => ?_, fun c m => ?_, a.wf.zt⟩⟩
  · rcases List.mem_append.mp m with m | m
    · exact (a.sub c m).imp (List.mem_append_left _) id
    · exact .inl (List.mem_append_right _ m)
  · rcases a.zn c z with z | z | z
    · exact .inl z
    · exact .inr (.inl (List.mem_append_left _ z))
    · exact .inr (.inr z)
  · exact List.nodup_append.mpr ⟨a.wf.nd, (List.nodup_append.mp w.nd).2.1, fun c m d g e => ap c m (e ▸ g)⟩
  · rcases List.mem_append.mp m with m | m
    · exact a.wf.pm c m
    · obtain ⟨o, _, p, e⟩ := gk c m
      exact ⟨o, e, p⟩
  · rcases List.mem_append.mp m with m | m
    · exact a.wf.dz c m
    · intro z
      obtain ⟨o, e, _, _⟩ := gk c m
      rcases a.zn c z with z | z | z
      · exact w.dz c (List.mem_append_right _ m) z
      · exact w.apart z m
      · rw [e] at z; cases z
theorem Evo.perm {H H' : Hp} {Z Z' : Addr → Prop} {F F' G : List Addr} (a : Evo H Z F H' Z' F') (p : F'.Perm G) : Evo H Z F H' Z' G :=
  ⟨a.keep, fun c m => a.sub c (p.mem_iff.mpr m), a.zs, a.zn, a.wf.perm p⟩
theorem Evo.permL {H H' : Hp} {Z Z' : Addr → Prop} {F F' G : List Addr} (a : Evo H Z F H' Z' F') (p : F.Perm G) : Evo H Z G H' Z' F' :=
  ⟨fun c o e n => a.keep c o e fun m => n (p.mem_iff.mp m), fun c m => (a.sub c m).imp p.mem_iff.mp id, a.zs, fun c z => (a.zn c z).imp id fun z => z.imp p.mem_iff.mp id, a.wf⟩
theorem Evo.drop {H H' : Hp} {Z Z' : Addr → Prop} {F F' G : List Addr} (a : Evo H Z F H' Z' F') (p : G.Sublist F') : Evo H Z F H' Z' G :=
  ⟨a.keep, fun c m => a.sub c (p.subset m), a.zs, a.zn, a.wf.sublist p⟩
/-- a step keeps what it does not own -/
theorem Evo.keeps {H H' : Hp} {Z Z' : Addr → Prop} {F F' G : List Addr} (a : Evo H Z F H' Z' F') (w : WF H Z (F ++ G)) : Keeps Z Z' H H' G :=
  ⟨fun c m o e => a.keep c o e fun q => w.apart q m, fun c o z e => a.keep c o e fun q => w.left.dz c q z, fun c o e p => a.keep c o e fun q => by
    obtain ⟨o', e', p'⟩ := w.left.pm c q
    rw [e] at e'; cases e'; exact p p', a.zs⟩
theorem Evo.same {H H' : Hp} {Z Z' : Addr → Prop} {F' G : List Addr} (a : Evo H Z [] H' Z' F') : Keeps Z Z' H H' G :=
  ⟨fun c _ o e => a.keep c o e (by simp), fun c o z e => a.keep c o e (by simp), fun c o e p => a.keep c o e (by simp), a.zs⟩
/-- a new object -/
theorem Evo.new {H : Hp} {Z : Addr → Prop} {F : List Addr} {p : Addr} {o : HO} (w : WF H Z F) (hp : H p = none) : Evo H Z F (upd H p o) Z F where
  keep := fun a u e _ => by rw [upd_ne (ne_of_none e hp)]; exact e
  sub := fun _ m => .inl m
  zs := fun _ z => z
  zn := fun _ z => .inl z
  wf := ⟨w.nd, fun a m => by
    obtain ⟨u, e, q⟩ := w.pm a m
    exact ⟨u, by rw [upd_ne (ne_of_none e hp)]; exact e, q⟩, w.dz, fun a z => by
    by_cases h : a = p
    · subst h; rw [upd_same]; exact fun z => nomatch z
    · rw [upd_ne h]; exact w.zt a z⟩
/-- new objects, fresh ones owned -/
theorem Evo.fresh {H H' : Hp} {Z : Addr → Prop} {F Fn : List Addr} (w : WF H Z F) (s : Same H H') (nd : Fn.Nodup) (fr : ∀ a ∈ Fn, H a = none) (pm : ∀ a ∈ Fn, ∃ o, H' a = some o ∧ Pm o) : Evo H Z F H' Z (F ++ Fn) where
  keep := fun a o e _ => s a o e
  sub := fun a m => (List.mem_append.mp m).imp id (fr a)
  zs := fun _ z => z
  zn := fun _ z => .inl z
  wf := ⟨List.nodup_append.mpr ⟨w.nd, nd, fun a m b g e => by
      obtain ⟨o, e1, _⟩ := w.pm a m
      rw [e, fr b g] at e1; cases e1⟩, fun a m => by
      rcases List.mem_append.mp m with m | m
      · obtain ⟨o, e, p⟩ := w.pm a m
        exact ⟨o, s a o e, p⟩
      · exact pm a m, fun a m z => by
      rcases List.mem_append.mp m with m | m
      · exact w.dz a m z
      · exact w.zt a z (fr a m), fun a z e => by
      cases q : H a with
      | none => exact w.zt a z q
      | some o => rw [s a o q] at e; cases e⟩
theorem Same.keeps {H H' : Hp} {Z : Addr → Prop} {G : List Addr} (s : Same H H') : Keeps Z Z H H' G := ⟨fun a _ o e => s a o e, fun a o _ e => s a o e, fun a o e _ => s a o e, fun _ z => z⟩
theorem Same.new {H : Hp} {p : Addr} {o : HO} (hp : H p = none) : Same H (upd H p o) := fun a u e => by rw [upd_ne (ne_of_none e hp)]; exact e
end Pv

/-! Pv, part D0: a tuple times a number below two. -/
namespace Pv
open PySem PySem.Spec PyProof.Rows L2
theorem tuple_mulZ (l : Addr) (items : Array Value) (n : Nat) (dd : Option Addr) (sl : Array (Option Value)) (x : Int) (u : Tok) (c0 : (decide (x < -(2 ^ 63)) || decide (x ≥ 2 ^ 63)) = false) (c1 : (items.isEmpty || x == 1) = false) (c2 : (decide (x ≤ 0) || items.isEmpty) = true) :
    Meets (Builtin.«tuple.__mul__» ⟨[.ref l, .int x u], []⟩) (fun _ R s => s.heap.get? l = some { cls := .type "tuple", dict := dd, data := .seq items n, slots := sl } ∧
      R (.ok (.ret (Value.ref s.heap.objs.size))) { s with heap := s.heap.push { cls := Value.type "tuple", data := Data.seq #[] }, toks := s.toks }) :=
  .of_wp fun prog w A R s h => by
    obtain ⟨hp, g, d, tk, os⟩ := s
    obtain ⟨hl, h⟩ := h
    have f1 := AutoSeq1.idx_int
    wp_walk using wpAny_loadPart' hl
    repeat (first
      | (refine wpAny_ite_false (decide_eq_false (by rw [c0]; exact Bool.false_ne_true)) ?_; wp_walk using wpAny_loadPart' hl)
      | (refine wpAny_ite_false (decide_eq_false (by rw [c1]; exact Bool.false_ne_true)) ?_; wp_walk using wpAny_loadPart' hl)
      | (refine wpAny_ite_true (decide_eq_true (by rw [c2])) ?_; wp_walk using wpAny_loadPart' hl))
    exact ⟨_, rfl, h⟩
theorem tuple_mul1 (l : Addr) (items : Array Value) (n : Nat) (dd : Option Addr) (sl : Array (Option Value)) (x : Int) (u : Tok) (c0 : (decide (x < -(2 ^ 63)) || decide (x ≥ 2 ^ 63)) = false) (c1 : (items.isEmpty || x == 1) = true) :
    Meets (Builtin.«tuple.__mul__» ⟨[.ref l, .int x u], []⟩) (fun _ R s => s.heap.get? l = some { cls := .type "tuple", dict := dd, data := .seq items n, slots := sl } ∧ R (.ok (.ret (Value.ref l))) s) :=
  .of_wp fun prog w A R s h => by
    obtain ⟨hp, g, d, tk, os⟩ := s
    obtain ⟨hl, h⟩ := h
    have f1 := AutoSeq1.idx_int
    wp_walk using wpAny_loadPart' hl
    repeat (first
      | (refine wpAny_ite_false (decide_eq_false (by rw [c0]; exact Bool.false_ne_true)) ?_; wp_walk using wpAny_loadPart' hl)
      | (refine wpAny_ite_true (decide_eq_true (by rw [c1])) ?_; wp_walk using wpAny_loadPart' hl))
    exact ⟨_, rfl, h⟩
def rRepT0 (K : PySem.W.Frag) : R2 := fun x y H Q => ∃ l k xs, x = .ref l ∧ y = .int k ∧ SqT K H l xs ∧ -1000000 ≤ k ∧ k ≤ 1000000 ∧ (k ≤ 1 ∨ xs = []) ∧ (xs ≠ [] → k ≤ 0 → ∀ p, H p = none → Q (.ref p) (upd H p (.tup []))) ∧ ((xs = [] ∨ k = 1) → Q (.ref l) H)
section
variable {X : Cx}
theorem op_repT0 : OpR X (binaryOp .Mult) (rRepT0 X.K) := by
  intro pins s σ H x y v u Q I rx ry h
  obtain ⟨l, k, xs, rfl, rfl, hT, h1, h2, h3, q0, q1⟩ := h
  cases rx
  obtain ⟨t, rfl⟩ := ry
  obtain ⟨its, r, ⟨⟨cls, dd, data, sl⟩, ho, hc, n, hd⟩, hs⟩ := I.tuple hT
  simp only at hc hd
  subst hc hd
  have hle : its.length = xs.length := r.length.symm
  have c0 : (decide (k < -(2 ^ 63)) || decide (k ≥ 2 ^ 63)) = false := by
    rw [decide_eq_false (by omega), decide_eq_false (by omega)] <;> rfl
  by_cases hx : xs = [] ∨ k = 1
  · have c1 : (its.toArray.isEmpty || k == 1) = true := by
      rcases hx with hx | hx
      · subst hx
        have : its = [] := List.eq_nil_of_length_eq_zero hle
        subst this
        rfl
      · subst hx
        simp
    refine wpAny_binaryOp_repeat_ref (T := "tuple") (U := "int") (by decide) ⟨_, ho, rfl⟩ (fun s' => typeIs_int s' k t) noFill_tuple_mul F.fills_int_mul F.slot_int_rmul repeat_tuple F.slot_int_index.lookup
      (call_meets F.slot_int_rmul (typeIs_int s k t) F.entry_int_rmul (F.args_int_rmul_2 _ _) (int_rmul_tuple k t l its.toArray n dd sl)
        ⟨ho, rfl, ⟨_, ho, rfl⟩, call_meets F.slot_tuple_mul ⟨_, ho, rfl⟩ F.entry_tuple_mul (F.args_tuple_mul_2 _ _) (tuple_mul1 l its.toArray n dd sl k t c0 c1) ⟨ho, ?_⟩⟩)
    exact ⟨.ref l, _, I, rfl, q1 hx⟩
  · have hne : xs ≠ [] := fun e => hx (.inl e)
    have hk1 : k ≠ 1 := fun e => hx (.inr e)
    have hk2 : k ≤ 1 := h3.resolve_right hne
    have hn : its ≠ [] := fun e => hne (by
      rw [e] at hle
      exact List.eq_nil_of_length_eq_zero hle.symm)
    have hi : its.toArray.isEmpty = false := by
      cases its with
      | nil => exact absurd rfl hn
      | cons a b => rfl
    have c1 : (its.toArray.isEmpty || k == 1) = false := by
      rw [hi, Bool.false_or]
      exact beq_eq_false_iff_ne.mpr (by omega)
    have c2 : (decide (k ≤ 0) || its.toArray.isEmpty) = true := by
      rw [decide_eq_true (by omega)]; rfl
    refine wpAny_binaryOp_repeat_ref (T := "tuple") (U := "int") (by decide) ⟨_, ho, rfl⟩ (fun s' => typeIs_int s' k t) noFill_tuple_mul F.fills_int_mul F.slot_int_rmul repeat_tuple F.slot_int_index.lookup
      (call_meets F.slot_int_rmul (typeIs_int s k t) F.entry_int_rmul (F.args_int_rmul_2 _ _) (int_rmul_tuple k t l its.toArray n dd sl)
        ⟨ho, rfl, ⟨_, ho, rfl⟩, call_meets F.slot_tuple_mul ⟨_, ho, rfl⟩ F.entry_tuple_mul (F.args_tuple_mul_2 _ _) (tuple_mulZ l its.toArray n dd sl k t c0 c1 c2) ⟨ho, ?_⟩⟩)
    refine ⟨.ref s.heap.objs.size, _, I.laid (t' := s.toks) (o := .tup []) (fun b ob q => Heap.get?_push_of_some _ q) (Nat.le_refl _) ?_, rfl, q0 hne (by omega) _ (I.hok.fresh (Nat.le_refl _))⟩
    exact ⟨by simp, _, .nil, IsTup.new _ _⟩
end
end Pv

/-! Pv, part D: what operators and built-ins do, by data. -/
namespace Pv
open PySem PySem.Spec PyProof.Rows L2
section
variable {K : PySem.W.Frag} {η : List V} {Z : Addr → Prop} {H : Hp}
variable (K η Z H) in
/-- the things are these values, whatever they own -/
def RepA : List D → List V → Prop
  | [], vs => vs = []
  | d :: ds, vs => ∃ v vs' F, vs = v :: vs' ∧ Rep K η Z H d v F ∧ RepA ds vs'
variable (K η Z H) in
/-- c is told: new objects alone -/
def NewR (c : D) (Q : VK) : Prop := ∀ v H' Fn, Same H H' → Rep K η Z H' c v Fn → Fn.Nodup → (∀ a ∈ Fn, H a = none) → Q v H'
variable (K) in
def RD2 (f : D → D → Option D) : R2 := fun x y H Q => ∃ η Z Fx Fy d e c, Rep K η Z H d x Fx ∧ Rep K η Z H e y Fy ∧ f d e = some c ∧ NewR K η Z H c Q
variable (K) in
def RDn (f : List D → Option D) : List V → Hp → VK → Prop := fun xs H Q => ∃ η Z ds c, RepA K η Z H ds xs ∧ f ds = some c ∧ NewR K η Z H c Q

theorem NewR.of {c : D} {Q : VK} {v : V} (q : NewR K η Z H c Q) (r : Rep K η Z H c v []) : Q v H := q v H [] (Same.refl H) r List.nodup_nil (fun a m => by cases m)
theorem Reps.append : ∀ {a b : List D} {vs ws : List V} {F G : List Addr}, Reps K η Z H a vs F → Reps K η Z H b ws G → Reps K η Z H (a ++ b) (vs ++ ws) (F ++ G)
  | [], _, _, _, _, _, h, h' => by obtain ⟨rfl, rfl⟩ := h; exact h'
  | d :: a, _, _, _, _, _, h, h' => by
    obtain ⟨v, vs', F1, F2, rfl, h1, h2, rfl⟩ := h
    exact ⟨v, vs' ++ _, F1, F2 ++ _, rfl, h1, Reps.append h2 h', by simp⟩
theorem Reps.nil_cons {d : D} {l : List D} {vs : List V} (h : Reps K η Z H (d :: l) vs []) : ∃ v vs', vs = v :: vs' ∧ Rep K η Z H d v [] ∧ Reps K η Z H l vs' [] := by
  obtain ⟨v, vs', F1, F2, e, h1, h2, e2⟩ := h
  obtain ⟨rfl, rfl⟩ := List.append_eq_nil_iff.mp e2.symm
  exact ⟨v, vs', e, h1, h2⟩
theorem Reps.cons_nil {d : D} {l : List D} {v : V} {vs : List V} (h1 : Rep K η Z H d v []) (h2 : Reps K η Z H l vs []) : Reps K η Z H (d :: l) (v :: vs) [] := ⟨v, vs, [], [], rfl, h1, h2, rfl⟩
theorem Reps.drop : ∀ {l : List D} {vs : List V} (n : Nat), Reps K η Z H l vs [] → Reps K η Z H (l.drop n) (vs.drop n) []
  | _, _, 0, h => by simpa using h
  | [], _, n + 1, h => by obtain ⟨rfl, _⟩ := h; exact ⟨rfl, rfl⟩
  | d :: l, _, n + 1, h => by
    obtain ⟨v, vs', rfl, _, h2⟩ := h.nil_cons
    simpa using Reps.drop n h2
theorem Reps.take : ∀ {l : List D} {vs : List V} (n : Nat), Reps K η Z H l vs [] → Reps K η Z H (l.take n) (vs.take n) []
  | _, _, 0, h => ⟨by simp, rfl⟩
  | [], _, n + 1, h => by obtain ⟨rfl, _⟩ := h; exact ⟨rfl, rfl⟩
  | d :: l, _, n + 1, h => by
    obtain ⟨v, vs', rfl, h1, h2⟩ := h.nil_cons
    exact Reps.cons_nil h1 (Reps.take n h2)
theorem Reps.rep {l : List D} {vs : List V} (h : Reps K η Z H l vs []) : ∀ n : Nat, Reps K η Z H (List.replicate n l).flatten (List.replicate n vs).flatten []
  | 0 => ⟨rfl, rfl⟩
  | n + 1 => by
    rw [List.replicate_succ, List.replicate_succ, List.flatten_cons, List.flatten_cons]
    exact Reps.append h (Reps.rep h n)
theorem Reps.nil {l : List D} {vs : List V} {F : List Addr} (h : Reps K η Z H l vs F) (e : immL l = true) : Reps K η Z H l vs [] := by
  have := h.imm e; subst this; exact h
theorem Rep.nil {d : D} {v : V} {F : List Addr} (h : Rep K η Z H d v F) (e : d.imm = true) : Rep K η Z H d v [] := by
  have := h.imm e; subst this; exact h
theorem Rep.tupI {l : List D} {v : V} {F : List Addr} (h : Rep K η Z H (.tup l) v F) : ∃ a vs, v = .ref a ∧ SqT K H a vs ∧ Reps K η Z H l vs F := h
theorem Rep.lstI {z : Bool} {l : List D} {v : V} {F : List Addr} (h : Rep K η Z H (.lst z l) v F) : ∃ a vs F', v = .ref a ∧ SqL K H a vs ∧ Reps K η Z H l vs F' ∧ F'.Sublist F ∧ (z = false → H a = some (.lst vs)) := by
  obtain ⟨a, vs, F', e, r, h⟩ := h
  cases z with
  | false =>
    obtain ⟨h1, rfl⟩ := h
    exact ⟨a, vs, F', e, .inl (.inl h1), r, List.sublist_cons_self a F', fun _ => h1⟩
  | true =>
    obtain ⟨h1, rfl, rfl, _⟩ := h
    exact ⟨a, vs, [], e, h1.sq, r, List.Sublist.refl _, fun z => nomatch z⟩
theorem Rep.dkI {z : Bool} {ks : List Key} {l : List D} {v : V} {F : List Addr} (h : Rep K η Z H (.dk z ks l) v F) : ∃ a vs F', v = .ref a ∧ Rd H a (.dK (ks.zip vs)) ∧ ks.length = vs.length ∧ ks.Nodup ∧ Reps K η Z H l vs F' ∧ F'.Sublist F ∧ (z = false → H a = some (.dK (ks.zip vs))) := by
  obtain ⟨a, vs, F', e, r, hl, hn, h⟩ := h
  cases z with
  | false =>
    obtain ⟨h1, rfl⟩ := h
    exact ⟨a, vs, F', e, .inl h1, hl, hn, r, List.sublist_cons_self a F', fun _ => h1⟩
  | true =>
    obtain ⟨h1, rfl, rfl, _⟩ := h
    exact ⟨a, vs, [], e, h1.rd, hl, hn, r, List.Sublist.refl _, fun z => nomatch z⟩
/-- a new tuple, a new list of things that own nothing -/
theorem NewR.tup {l : List D} {vs : List V} {p : Addr} {Q : VK} (q : NewR K η Z H (.tup l) Q) (r : Reps K η Z H l vs []) (hp : H p = none) : Q (.ref p) (upd H p (.tup vs)) :=
  q (.ref p) _ [] (Same.new hp) ⟨p, vs, rfl, .inl (.inl upd_same), r.keep (Same.keeps (Same.new hp) (G := [])) (fun _ m => m)⟩ List.nodup_nil (fun a m => by cases m)
theorem NewR.lst {l : List D} {vs : List V} {p : Addr} {Q : VK} (q : NewR K η Z H (.lst false l) Q) (r : Reps K η Z H l vs []) (hp : H p = none) : Q (.ref p) (upd H p (.lst vs)) :=
  q (.ref p) _ [p] (Same.new hp) ⟨p, vs, [], rfl, r.keep (Same.keeps (Same.new hp) (G := [])) (fun _ m => m), upd_same, rfl⟩ (by simp) (fun a m => by
    have : a = p := by simpa using m
    subst this; exact hp)

theorem op_catL {X : Cx} : OpR X (binaryOp .Add) (fun x y H Q => ∃ l b xs zs, x = .ref l ∧ y = .ref b ∧ SqL X.K H l xs ∧ SqL X.K H b zs ∧ xs.length + zs.length ≤ sizeLine ∧ ∀ p, H p = none → Q (.ref p) (upd H p (.lst (xs ++ zs)))) := by
  intro pins s σ H x y v u Q I rx ry h
  obtain ⟨l, b, xs, zs, rfl, rfl, hH, hB, hz, q⟩ := h
  cases rx
  cases ry
  obtain ⟨its, r, ⟨⟨cls, dd, data, sl⟩, n, ho, hc, hdd, hd⟩, hl⟩ := I.list hH
  obtain ⟨its2, r2, ⟨⟨cls2, dd2, data2, sl2⟩, n2, ho2, hc2, hdd2, hd2⟩, hl2⟩ := I.list hB
  simp only at hc hd hdd hc2 hd2 hdd2
  subst hc hd hdd hc2 hd2 hdd2
  have l1 := r.length
  have l2 := r2.length
  refine concat_meets ⟨_, ho, rfl⟩ ⟨_, ho2, rfl⟩ noFill_list_add seq_list_add PySem.F.slot_list_add PySem.F.entry_list_add (PySem.F.args_list_add_2 _ _) (list_addW l b its.toArray its2.toArray n n2 _ _ sl sl2 (by rw [List.size_toArray, List.size_toArray]; omega)) ⟨ho, ho2, ?_⟩
  have ea : its.toArray ++ its2.toArray = (its ++ its2).toArray := by simp
  rw [ea]
  exact ⟨.ref _, _, I.lnew (t' := s.toks) (r.append r2) (by rw [List.length_append]; omega), rfl, q _ I.fresh⟩
def opB : Bin → Operator
  | .add => .Add | .sub => .Sub | .mul => .Mult | .fdiv => .FloorDiv | .mod => .Mod | .pow => .Pow | .shl => .LShift | .shr => .RShift | .band => .BitAnd
variable {X : Cx}
theorem op_bin (o : Bin) : OpR X (binaryOp (opB o)) (RD2 X.K (binD o)) := by
  intro pins s σ H x y v u Q I rx ry h
  obtain ⟨η, Z, Fx, Fy, d, e, c, hd, he, hf, q⟩ := h
  unfold binD at hf
  split at hf
  · cases hf; obtain ⟨rfl, _⟩ := hd; obtain ⟨rfl, _⟩ := he
    exact op_add pins s σ H _ _ v u Q I rx ry ⟨_, _, rfl, rfl, q.of ⟨rfl, rfl⟩⟩
  · split at hf
    · rename_i hz
      cases hf; obtain ⟨rfl, _⟩ := hd; obtain ⟨rfl, _⟩ := he
      exact op_add_str pins s σ H _ _ v u Q I rx ry ⟨_, _, rfl, rfl, hz, q.of ⟨rfl, rfl⟩⟩
    · cases hf
  · split at hf
    · rename_i a b hz
      simp only [Bool.and_eq_true, decide_eq_true_eq] at hz
      obtain ⟨⟨h1, h2⟩, h3⟩ := hz
      cases hf
      obtain ⟨p, xs, rfl, s1, r1⟩ := hd
      obtain ⟨p', ys, rfl, s2, r2⟩ := he
      have r1' := r1.nil h1
      have r2' := r2.nil h2
      have l1 := r1.length
      have l2 := r2.length
      refine op_catA pins s σ H _ _ v u Q I rx ry ⟨p, p', xs, ys, rfl, rfl, s1, s2, by omega, fun e0 => ?_, fun _ e1 => ?_, fun _ _ p2 hp2 => q.tup (r1'.append r2') hp2⟩
      · subst e0
        cases a with
        | nil => exact q.of ⟨p', ys, rfl, s2, r2'⟩
        | cons a0 a1 => simp at l1
      · subst e1
        cases b with
        | nil => rw [List.append_nil] at q; exact q.of ⟨p, xs, rfl, s1, r1'⟩
        | cons a0 a1 => simp at l2
    · cases hf
  · split at hf
    · rename_i a b hz
      simp only [Bool.and_eq_true, decide_eq_true_eq] at hz
      obtain ⟨⟨h1, h2⟩, h3⟩ := hz
      cases hf
      obtain ⟨p, xs, F1, rfl, s1, r1, _⟩ := Rep.lstI hd
      obtain ⟨p', ys, F2, rfl, s2, r2, _⟩ := Rep.lstI he
      have l1 := r1.length
      have l2 := r2.length
      exact op_catL pins s σ H _ _ v u Q I rx ry ⟨p, p', xs, ys, rfl, rfl, s1, s2, by omega, fun p2 hp2 => q.lst ((r1.nil h1).append (r2.nil h2)) hp2⟩
    · cases hf
  · cases hf; obtain ⟨rfl, _⟩ := hd; obtain ⟨rfl, _⟩ := he
    exact op_sub pins s σ H _ _ v u Q I rx ry ⟨_, _, rfl, rfl, q.of ⟨rfl, rfl⟩⟩
  · split at hf
    · rename_i hz
      cases hf; obtain ⟨rfl, _⟩ := hd; obtain ⟨rfl, _⟩ := he
      exact op_mulW pins s σ H _ _ v u Q I rx ry ⟨_, _, rfl, rfl, hz, q.of ⟨rfl, rfl⟩⟩
    · cases hf
  · split at hf
    · rename_i a k hz
      simp only [Bool.and_eq_true, decide_eq_true_eq] at hz
      obtain ⟨⟨⟨h1, h2⟩, h3⟩, h4⟩ := hz
      cases hf
      obtain ⟨p, xs, rfl, s1, r1⟩ := hd
      obtain ⟨rfl, _⟩ := he
      have l1 := r1.length
      have r0 := r1.nil h1
      by_cases hz : 2 ≤ k ∧ xs ≠ []
      · exact op_repT pins s σ H _ _ v u Q I rx ry ⟨p, k, xs, rfl, rfl, s1, hz.2, hz.1, h3, by omega, fun p2 hp2 => q.tup (r0.rep _) hp2⟩
      · by_cases hk : k ≤ 1
        · refine op_repT0 pins s σ H _ _ v u Q I rx ry ⟨p, k, xs, rfl, rfl, s1, h2, by omega, .inl hk, fun hne hk0 p2 hp2 => ?_, fun hx => ?_⟩
          · have e0 : k.toNat = 0 := by omega
            rw [e0] at q
            exact q.tup (l := []) (vs := []) ⟨rfl, rfl⟩ hp2
          · have e1 : (List.replicate k.toNat a).flatten = a := by
              rcases hx with hx | hx
              · subst hx
                have : a = [] := List.eq_nil_of_length_eq_zero l1
                subst this
                exact List.eq_nil_of_length_eq_zero (by simp)
              · subst hx
                simp
            rw [e1] at q
            exact q.of ⟨p, xs, rfl, s1, r0⟩
        · have hx : xs = [] := Classical.byContradiction fun h => hz ⟨by omega, h⟩
          subst hx
          have : a = [] := List.eq_nil_of_length_eq_zero l1
          subst this
          have e1 : (List.replicate k.toNat ([] : List D)).flatten = [] := List.eq_nil_of_length_eq_zero (by simp)
          rw [e1] at q
          exact op_repT0 pins s σ H _ _ v u Q I rx ry ⟨p, k, [], rfl, rfl, s1, h2, by omega, .inr rfl, fun hne => absurd rfl hne, fun _ => q.of ⟨p, [], rfl, s1, rfl, rfl⟩⟩
    · cases hf
  · split at hf
    · rename_i a k hz
      simp only [Bool.and_eq_true, decide_eq_true_eq] at hz
      obtain ⟨⟨⟨h1, h2⟩, h3⟩, h4⟩ := hz
      cases hf
      obtain ⟨p, xs, F1, rfl, r1, s1, _⟩ := hd
      obtain ⟨rfl, _⟩ := he
      have l1 := r1.length
      refine op_rep pins s σ H _ _ v u Q I rx ry ⟨p, k, xs, rfl, rfl, s1, by omega, by omega, ?_, fun p2 hp2 => q.lst ((r1.nil h1).rep _) hp2⟩
      have hs := sizeLine_eq
      have : xs.length * k.toNat ≤ 1000 * 1000 := Nat.mul_le_mul (by omega) (by omega)
      omega
    · cases hf
  · split at hf
    · rename_i hz
      cases hf; obtain ⟨rfl, _⟩ := hd; obtain ⟨rfl, _⟩ := he
      exact op_fdivW pins s σ H _ _ v u Q I rx ry ⟨_, _, rfl, rfl, hz, q.of ⟨rfl, rfl⟩⟩
    · cases hf
  · split at hf
    · rename_i hz
      cases hf; obtain ⟨rfl, _⟩ := hd; obtain ⟨rfl, _⟩ := he
      exact op_mod pins s σ H _ _ v u Q I rx ry ⟨_, _, rfl, rfl, hz, q.of ⟨rfl, rfl⟩⟩
    · cases hf
  · split at hf
    · rename_i hz
      cases hf; obtain ⟨rfl, _⟩ := hd; obtain ⟨rfl, _⟩ := he
      exact op_pow pins s σ H _ _ v u Q I rx ry ⟨_, _, rfl, rfl, hz, q.of ⟨rfl, rfl⟩⟩
    · cases hf
  · split at hf
    · rename_i hz
      cases hf; obtain ⟨rfl, _⟩ := hd; obtain ⟨rfl, _⟩ := he
      exact op_shl pins s σ H _ _ v u Q I rx ry ⟨_, _, rfl, rfl, hz, q.of ⟨rfl, rfl⟩⟩
    · cases hf
  · split at hf
    · rename_i hz
      cases hf; obtain ⟨rfl, _⟩ := hd; obtain ⟨rfl, _⟩ := he
      exact op_shr pins s σ H _ _ v u Q I rx ry ⟨_, _, rfl, rfl, hz, q.of ⟨rfl, rfl⟩⟩
    · cases hf
  · split at hf
    · rename_i hz
      subst hz
      cases hf; obtain ⟨rfl, _⟩ := hd; obtain ⟨rfl, _⟩ := he
      exact op_andM pins s σ H _ _ v u Q I rx ry ⟨_, 1, rfl, rfl, q.of ⟨rfl, rfl⟩⟩
    · cases hf
  · cases hf

/-! ### comparisons -/
mutual
def D.py : D → PyData
  | .non => .none
  | .bl b => .bool b
  | .int i => .int i
  | .str x => .str x
  | .tup l => .tuple (pyL l)
  | .lst _ l => .list (pyL l)
  | .dk _ _ _ => .none
  | .dt _ _ _ => .none
  | .ins _ _ _ _ => .none
  | .glo _ => .none
  | .hole _ => .none
def pyL : List D → List PyData
  | [] => []
  | d :: r => d.py :: pyL r
end
mutual
theorem Rep.dp : ∀ {n : Nat} {d : D} {v : V} {F : List Addr}, Rep K η Z H d v F → d.eqk n = true → Dp K H v d.py ∧ d.py.canLay0 = true ∧ d.py.depth ≤ n
  | 0, _, _, _, _, e => by simp [D.eqk] at e
  | n + 1, .non, _, _, h, _ => by obtain ⟨rfl, _⟩ := h; exact ⟨.non, rfl, by simp [D.py, PyData.depth]⟩
  | n + 1, .bl b, _, _, h, _ => by obtain ⟨rfl, _⟩ := h; exact ⟨.bl b, rfl, by simp [D.py, PyData.depth]⟩
  | n + 1, .int i, _, _, h, _ => by obtain ⟨rfl, _⟩ := h; exact ⟨.int i, rfl, by simp [D.py, PyData.depth]⟩
  | n + 1, .str x, _, _, h, e => by obtain ⟨rfl, _⟩ := h; exact ⟨.str x, by simpa [D.py, PyData.canLay0, D.eqk] using e, by simp [D.py, PyData.depth]⟩
  | n + 1, .tup l, _, _, h, e => by
    obtain ⟨a, vs, rfl, s, r⟩ := h
    obtain ⟨h1, h2, h3⟩ := Reps.dp r (show eqkL n l = true by simpa [D.eqk] using e)
    exact ⟨.tup s h1, by simpa [D.py, PyData.canLay0] using h2, by simp only [D.py, PyData.depth]; omega⟩
  | n + 1, .lst z l, _, _, h, e => by
    obtain ⟨a, vs, F', rfl, s, r, _⟩ := h.lstI
    obtain ⟨h1, h2, h3⟩ := Reps.dp r (show eqkL n l = true by simpa [D.eqk] using e)
    exact ⟨.lst s h1, by simpa [D.py, PyData.canLay0] using h2, by simp only [D.py, PyData.depth]; omega⟩
  | n + 1, .dk _ _ _, _, _, _, e => by simp [D.eqk] at e
  | n + 1, .dt _ _ _, _, _, _, e => by simp [D.eqk] at e
  | n + 1, .ins _ _ _ _, _, _, _, e => by simp [D.eqk] at e
  | n + 1, .glo _, _, _, _, e => by simp [D.eqk] at e
  | n + 1, .hole _, _, _, _, e => by simp [D.eqk] at e
theorem Reps.dp : ∀ {n : Nat} {l : List D} {vs : List V} {F : List Addr}, Reps K η Z H l vs F → eqkL n l = true → DpAll K H vs (pyL l) ∧ PyData.canLayAll0 (pyL l) = true ∧ PyData.depthAll (pyL l) ≤ n
  | n, [], _, _, h, _ => by obtain ⟨rfl, _⟩ := h; exact ⟨.nil, rfl, by simp [pyL, PyData.depthAll]⟩
  | n, d :: l, _, _, h, e => by
    obtain ⟨v, vs', F1, F2, rfl, h1, h2, rfl⟩ := h
    have e' : d.eqk n = true ∧ eqkL n l = true := by simpa [eqkL] using e
    obtain ⟨a1, a2, a3⟩ := Rep.dp h1 e'.1
    obtain ⟨b1, b2, b3⟩ := Reps.dp h2 e'.2
    exact ⟨.cons a1 b1, by simp [pyL, PyData.canLayAll0, a2, b2], by simp only [pyL, PyData.depthAll]; omega⟩
end
mutual
theorem beq_py : ∀ (n m : Nat) (a b : D), a.eqk n = true → b.eqk m = true → PyData.eqv a.py b.py = a.beq b
  | 0, _, _, _, e, _ => by simp [D.eqk] at e
  | _, 0, _, _, _, e => by simp [D.eqk] at e
  | n + 1, m + 1, a, b, ha, hb => by
    cases a <;> cases b <;> first
      | (simp [D.eqk] at ha; done)
      | (simp [D.eqk] at hb; done)
      | (simp [D.py, PyData.eqv, D.beq]; done)
      | (simp only [D.py, PyData.eqv, D.beq]; exact beqL_py n m _ _ (by simpa [D.eqk] using ha) (by simpa [D.eqk] using hb))
      | (simp only [D.py, PyData.eqv, D.beq]; rfl)
theorem beqL_py : ∀ (n m : Nat) (l k : List D), eqkL n l = true → eqkL m k = true → PyData.eqvAll (pyL l) (pyL k) = beqL l k
  | _, _, [], [], _, _ => by simp [pyL, PyData.eqvAll, beqL]
  | _, _, [], _ :: _, _, _ => by simp [pyL, PyData.eqvAll, beqL]
  | _, _, _ :: _, [], _, _ => by simp [pyL, PyData.eqvAll, beqL]
  | n, m, a :: l, b :: k, ha, hb => by
    have ha' : a.eqk n = true ∧ eqkL n l = true := by simpa [eqkL] using ha
    have hb' : b.eqk m = true ∧ eqkL m k = true := by simpa [eqkL] using hb
    simp only [pyL, PyData.eqvAll, beqL]
    rw [beq_py n m a b ha'.1 hb'.1, beqL_py n m l k ha'.2 hb'.2]
end
theorem any_py {n m : Nat} {a : D} (ha : a.eqk n = true) : ∀ {l : List D}, eqkL m l = true → ((pyL l).any fun y => PyData.eqv y a.py) = anyEq a l
  | [], _ => rfl
  | b :: l, e => by
    have e' : b.eqk m = true ∧ eqkL m l = true := by simpa [eqkL] using e
    simp only [pyL, List.any_cons, anyEq]
    rw [beq_py m n b a e'.1 ha, any_py ha e'.2]
theorem keyV {d : D} {k : Key} {v : V} {F : List Addr} (h : Rep K η Z H d v F) (e : d.key = some k) : v = kV k := by
  cases d <;> simp [D.key] at e <;> subst e <;> exact h.1
theorem keysV : ∀ {l : List D} {ks : List Key} {vs : List V} {F : List Addr}, Reps K η Z H l vs F → keysOf l = some ks → vs = ks.map kV
  | [], _, _, _, h, e => by
    obtain ⟨rfl, _⟩ := h
    cases e; rfl
  | d :: l, ks, _, _, h, e => by
    obtain ⟨v, vs', F1, F2, rfl, h1, h2, rfl⟩ := h
    unfold keysOf at e
    cases e1 : d.key with
    | none => simp [e1] at e
    | some k =>
      cases e2 : keysOf l with
      | none => simp [e1, e2] at e
      | some ks' =>
        simp [e1, e2] at e
        subst e
        rw [keyV h1 e1, keysV h2 e2]
        rfl
def opC : Cm → CmpOp
  | .eq => .Eq | .ne => .NotEq | .lt => .Lt | .le => .LtE | .gt => .Gt | .ge => .GtE | .isN => .Is | .isNot => .IsNot | .inn => .In | .nin => .NotIn
theorem Rep.vnon {d : D} {v : V} {F : List Addr} {c : Bool} (h : Rep K η Z H d v F) (e : isNonD d = some c) : c = decide (v = .non) := by
  cases d with
  | non => obtain ⟨rfl, _⟩ := h; cases e; rfl
  | bl => obtain ⟨rfl, _⟩ := h; cases e; rfl
  | int => obtain ⟨rfl, _⟩ := h; cases e; rfl
  | str => obtain ⟨rfl, _⟩ := h; cases e; rfl
  | glo => obtain ⟨rfl, _⟩ := h; cases e; rfl
  | hole => cases e
  | tup => obtain ⟨a, _, rfl, _⟩ := h; cases e; rfl
  | lst => obtain ⟨a, _, _, rfl, _⟩ := h; cases e; rfl
  | dk => obtain ⟨a, _, _, rfl, _⟩ := h; cases e; rfl
  | dt => obtain ⟨a, _, _, rfl, _⟩ := h; cases e; rfl
  | ins => obtain ⟨a, _, _, _, rfl, _⟩ := h; cases e; rfl
variable {X : Cx}
theorem cmp_eq (hu : X.A.units + 66 < cLine) : OpR X (compareOp .Eq) (RD2 X.K fun d e => (cmpD .eq d e).map .bl) := by
  intro pins s σ H x y v u Q I rx ry h
  obtain ⟨η, Z, Fx, Fy, d, e, c, hd, he, hf, q⟩ := h
  simp only [cmpD, eqD] at hf
  split at hf
  · rename_i hz
    simp only [Bool.and_eq_true] at hz
    cases hf
    obtain ⟨d1, d2, d3⟩ := hd.dp hz.1
    obtain ⟨e1, e2, e3⟩ := he.dp hz.2
    refine op_eqD (by omega) pins s σ H x y v u Q I rx ry ⟨d.py, e.py, d1, e1, ?_, ?_, ?_⟩
    · simp [SeqAt.shaped, d2]; omega
    · simp [SeqAt.shaped, e2]; omega
    · rw [beq_py 60 60 _ _ hz.1 hz.2]; exact q.of ⟨rfl, rfl⟩
  · cases hf
theorem cmp_ne (hu : X.A.units + 66 < cLine) : OpR X (compareOp .NotEq) (RD2 X.K fun d e => (cmpD .ne d e).map .bl) := by
  intro pins s σ H x y v u Q I rx ry h
  obtain ⟨η, Z, Fx, Fy, d, e, c, hd, he, hf, q⟩ := h
  simp only [cmpD, eqD] at hf
  split at hf
  · rename_i hz
    simp only [Bool.and_eq_true] at hz
    cases hf
    obtain ⟨d1, d2, d3⟩ := hd.dp hz.1
    obtain ⟨e1, e2, e3⟩ := he.dp hz.2
    refine op_neD (by omega) pins s σ H x y v u Q I rx ry ⟨d.py, e.py, d1, e1, ?_, ?_, ?_⟩
    · simp [SeqAt.shaped, d2]; omega
    · simp [SeqAt.shaped, e2]; omega
    · rw [beq_py 60 60 _ _ hz.1 hz.2]; exact q.of ⟨rfl, rfl⟩
  · cases hf
theorem look_zip {κ : Type} [DecidableEq κ] {k : κ} : ∀ {ks : List κ} {l : List D} {vs : List V}, ks.length = vs.length → l.length = vs.length → (look k ks l).isSome = (valV (ks.zip vs) k).isSome
  | [], _, _, _, _ => by simp [look, valV]
  | a :: ks, x :: l, w :: vs, h1, h2 => by
    by_cases h : a = k
    · subst h; simp [look, valV]
    · rw [List.zip_cons_cons, valV_neg h, ← look_zip (l := l) (by simpa using h1) (by simpa using h2)]
      simp [look, h]
  | a :: ks, [], _ :: _, _, h2 => by simp at h2
  | a :: ks, _, [], h1, _ => by simp at h1
theorem in_core (hu : X.A.units + 66 < cLine) {pins : List (Addr × Obj)} {s : Shared} {σ : L2.St} {H : Hp} {x y : V} {v u : Value} {d e : D} {c : Bool} {Fx Fy : List Addr} (I : Inv X pins σ H s) (rx : RelV x v) (ry : RelV y u)
    (hd : Rep X.K η Z H d x Fx) (he : Rep X.K η Z H e y Fy) (hf : inD d e = some c) :
    (∀ Q : VK, Q (.bl c) H → wpAny (model X.prog X.w) X.A (compareOp .In v u) (EP X pins σ Q) X.xe s) ∧ (∀ Q : VK, Q (.bl !c) H → wpAny (model X.prog X.w) X.A (compareOp .NotIn v u) (EP X pins σ Q) X.xe s) := by
  unfold inD at hf
  split at hf
  · split at hf
    · rename_i l hz
      simp only [Bool.and_eq_true] at hz
      obtain ⟨d1, d2, d3⟩ := hd.dp hz.1
      obtain ⟨p, xs, rfl, sq, r⟩ := he
      obtain ⟨l1, l2, l3⟩ := r.dp hz.2
      obtain ⟨as, r1⟩ := Dp.reads I _ _ v d1 rx
      obtain ⟨bs, r2⟩ := Dp.reads I (.tuple (pyL l)) _ u (.tup sq l1) ry
      have hm : X.A.units + 1 + min (PyData.depthAll (pyL l)) d.py.depth < cLine := by
        have := Nat.min_le_right (PyData.depthAll (pyL l)) d.py.depth
        omega
      cases hf
      refine ⟨fun Q q => SeqAt.in_tuple_reads r2 r1 l2 d2 hm ⟨.bl _, H, I, rfl, ?_⟩, fun Q q => SeqAt.notIn_tuple_reads r2 r1 l2 d2 hm ⟨.bl _, H, I, rfl, ?_⟩⟩
      · rw [any_py hz.1 hz.2]; exact q
      · rw [any_py hz.1 hz.2]; exact q
    · cases hf
  · split at hf
    · rename_i z l hz
      simp only [Bool.and_eq_true] at hz
      obtain ⟨d1, d2, d3⟩ := hd.dp hz.1
      obtain ⟨p, xs, F', rfl, sq, r, _⟩ := he.lstI
      obtain ⟨l1, l2, l3⟩ := r.dp hz.2
      obtain ⟨as, r1⟩ := Dp.reads I _ _ v d1 rx
      obtain ⟨bs, r2⟩ := Dp.reads I (.list (pyL l)) _ u (.lst sq l1) ry
      have hm : X.A.units + 1 + min (PyData.depthAll (pyL l)) d.py.depth < cLine := by
        have := Nat.min_le_right (PyData.depthAll (pyL l)) d.py.depth
        omega
      cases hf
      refine ⟨fun Q q => SeqAt.in_list_reads r2 r1 l2 d2 hm ⟨.bl _, H, I, rfl, ?_⟩, fun Q q => SeqAt.notIn_list_reads r2 r1 l2 d2 hm ⟨.bl _, H, I, rfl, ?_⟩⟩
      · rw [any_py hz.1 hz.2]; exact q
      · rw [any_py hz.1 hz.2]; exact q
    · cases hf
  · split at hf
    · split at hf
      · rename_i w' _ w hz
        obtain ⟨rfl, _⟩ := hd
        obtain ⟨rfl, _⟩ := he
        have ew : w = ⟨#[w.cps.getD 0 0]⟩ := by
          obtain ⟨cp⟩ := w
          simp only at hz ⊢
          obtain ⟨l⟩ := cp
          have hl : l.length = 1 := by simpa using hz
          match l, hl with
          | [c0], _ => simp
        cases hf
        refine ⟨fun Q q => op_in_sign pins s σ H _ _ v u Q I rx ry ⟨_, _, congrArg V.str ew, rfl, q⟩, fun Q q => op_notIn_sign pins s σ H _ _ v u Q I rx ry ⟨_, _, congrArg V.str ew, rfl, q⟩⟩
      · cases hf
    · cases hf
  · split at hf
    · rename_i z ks l _ k hk
      have ek := keyV hd hk
      subst ek
      obtain ⟨a, vs, F', rfl, rd, hl, hn, r, _⟩ := he.dkI
      have g : DGet H a (kV k) (valV (ks.zip vs) k) := .inl ⟨_, _, rd, rfl, rfl⟩
      cases (show u = Value.ref a from ry)
      cases hf
      have e1 := look_zip (k := k) hl r.length
      refine ⟨fun Q q => d_in (by omega) I g rx fun s' I' => ⟨.bl _, H, I', rfl, by rw [← e1]; exact q⟩, fun Q q => d_notIn (by omega) I g rx fun s' I' => ⟨.bl _, H, I', rfl, by rw [← e1]; exact q⟩⟩
    · cases hf
  · cases hf
theorem is_core {pins : List (Addr × Obj)} {s : Shared} {σ : L2.St} {H : Hp} {x y : V} {v u : Value} {d e : D} {c : Bool} {Fx Fy : List Addr} (I : Inv X pins σ H s) (rx : RelV x v) (ry : RelV y u)
    (hd : Rep X.K η Z H d x Fx) (he : Rep X.K η Z H e y Fy) (hf : isD d e = some c) :
    (∀ Q : VK, Q (.bl c) H → wpAny (model X.prog X.w) X.A (compareOp .Is v u) (EP X pins σ Q) X.xe s) ∧ (∀ Q : VK, Q (.bl !c) H → wpAny (model X.prog X.w) X.A (compareOp .IsNot v u) (EP X pins σ Q) X.xe s) := by
  unfold isD at hf
  split at hf
  · obtain ⟨rfl, _⟩ := he
    have := hd.vnon hf
    subst this
    exact ⟨fun Q q => op_isN pins s σ H _ _ v u Q I rx ry ⟨rfl, q⟩, fun Q q => op_notN pins s σ H _ _ v u Q I rx ry ⟨rfl, q⟩⟩
  · split at hf
    · obtain ⟨rfl, _⟩ := hd
      obtain ⟨rfl, _⟩ := he
      cases hf
      exact ⟨fun Q q => op_is_bl pins s σ H _ _ v u Q I rx ry ⟨_, _, rfl, rfl, q⟩, fun Q q => op_isnot_bl pins s σ H _ _ v u Q I rx ry ⟨_, _, rfl, rfl, q⟩⟩
    · cases hf
  · cases hf
theorem int_core {d e : D} {c : Bool} {x y : V} {Fx Fy : List Addr} {f : Int → Int → Bool} (hd : Rep K η Z H d x Fx) (he : Rep K η Z H e y Fy) (hf : intCmp f d e = some c) : ∃ i j, x = .int i ∧ y = .int j ∧ c = f i j := by
  unfold intCmp at hf
  split at hf
  · obtain ⟨rfl, _⟩ := hd
    obtain ⟨rfl, _⟩ := he
    cases hf
    exact ⟨_, _, rfl, rfl, rfl⟩
  · cases hf
theorem op_cmp (hu : X.A.units + 66 < cLine) (o : Cm) : OpR X (compareOp (opC o)) (RD2 X.K fun d e => (cmpD o d e).map .bl) := by
  intro pins s σ H x y v u Q I rx ry h
  obtain ⟨η, Z, Fx, Fy, d, e, c, hd, he, hf, q⟩ := h
  obtain ⟨c', hc, rfl⟩ := Option.map_eq_some_iff.mp hf
  have q' : Q (.bl c') H := q.of ⟨rfl, rfl⟩
  cases o with
  | eq => exact cmp_eq hu pins s σ H x y v u Q I rx ry ⟨η, Z, Fx, Fy, d, e, _, hd, he, hf, q⟩
  | ne => exact cmp_ne hu pins s σ H x y v u Q I rx ry ⟨η, Z, Fx, Fy, d, e, _, hd, he, hf, q⟩
  | lt => obtain ⟨i, j, rfl, rfl, rfl⟩ := int_core hd he hc; exact op_lt pins s σ H _ _ v u Q I rx ry ⟨_, _, rfl, rfl, q'⟩
  | le => obtain ⟨i, j, rfl, rfl, rfl⟩ := int_core hd he hc; exact op_le pins s σ H _ _ v u Q I rx ry ⟨_, _, rfl, rfl, q'⟩
  | gt => obtain ⟨i, j, rfl, rfl, rfl⟩ := int_core hd he hc; exact op_gt pins s σ H _ _ v u Q I rx ry ⟨_, _, rfl, rfl, q'⟩
  | ge => obtain ⟨i, j, rfl, rfl, rfl⟩ := int_core hd he hc; exact op_ge pins s σ H _ _ v u Q I rx ry ⟨_, _, rfl, rfl, q'⟩
  | isN => exact (is_core I rx ry hd he hc).1 Q q'
  | isNot =>
    obtain ⟨c2, hc2, rfl⟩ := Option.map_eq_some_iff.mp (show (isD d e).map (! ·) = some c' from hc)
    exact (is_core I rx ry hd he hc2).2 Q q'
  | inn => exact (in_core hu I rx ry hd he hc).1 Q q'
  | nin =>
    obtain ⟨c2, hc2, rfl⟩ := Option.map_eq_some_iff.mp (show (inD d e).map (! ·) = some c' from hc)
    exact (in_core hu I rx ry hd he hc2).2 Q q'
end
end Pv

/-! Pv, part E: subscripts, slices, built-in calls and methods, by data. -/
namespace Pv
open PySem PySem.Spec PyProof.Rows L2
section
variable {K : PySem.W.Frag} {η : List V} {Z : Addr → Prop} {H : Hp} {X : Cx}
/-! ### subscripts -/
variable (K) in
def RIx : R2 := fun x y H Q => ∃ η Z Fx Fy d k e, Rep K η Z H d x Fx ∧ Rep K η Z H k y Fy ∧ idxD d k = some e ∧
  ∀ v F1, Rep K η Z H e v F1 → F1.Sublist Fx → (d.imm = false → ∀ s, stepOf d k = some s → St1 H x s v) → Q v H
theorem sub3 {α : Type} {A B C : List α} : B.Sublist (A ++ B ++ C) := (List.sublist_append_right A B).trans (List.sublist_append_left _ C)
theorem ix_ok (hu : X.A.units + 1 < cLine) : IxR X (RIx X.K) := by
  intro value slice pins s σ H x y v u Q I rx ry h hs
  obtain ⟨η, Z, Fx, Fy, d, k, e, hd, hk, hf, q⟩ := h
  unfold idxD at hf
  split at hf
  · obtain ⟨j, hj, he⟩ := Option.bind_eq_some_iff.mp hf
    rename_i z l i
    obtain ⟨rfl, _⟩ := hk
    obtain ⟨a, vs, F', rfl, sq, r, sb, pl⟩ := hd.lstI
    obtain ⟨w, A, F1, B, e1, rfl, e3, _⟩ := r.get he
    have hl := r.length
    refine ix_list value slice pins s σ H _ _ v u Q I rx ry ⟨a, vs, i, w, rfl, rfl, sq, ?_, ?_⟩ hs
    · show (ixN vs.length i).bind _ = _
      rw [← hl]
      show (ixOf l.length i).bind _ = _
      rw [hj]; exact e1
    · refine q w F1 e3 (sub3.trans sb) fun hi s hs => ?_
      have hz : z = false := by simpa [D.imm] using hi
      simp only [stepOf, hj, Option.map_some, Option.some.injEq] at hs
      subst hs
      exact ⟨a, rfl, vs, pl hz, e1⟩
  · obtain ⟨j, hj, he⟩ := Option.bind_eq_some_iff.mp hf
    rename_i l i
    obtain ⟨rfl, _⟩ := hk
    obtain ⟨a, vs, rfl, sq, r⟩ := hd
    obtain ⟨w, A, F1, B, e1, rfl, e3, _⟩ := r.get he
    have hl := r.length
    refine ix_tup value slice pins s σ H _ _ v u Q I rx ry ⟨a, vs, i, w, rfl, rfl, sq, ?_, ?_⟩ hs
    · show (ixN vs.length i).bind _ = _
      rw [← hl]
      show (ixOf l.length i).bind _ = _
      rw [hj]; exact e1
    · exact q w F1 e3 sub3 fun hi s hs => by simp [stepOf] at hs
  · split at hf
    · rename_i z i hz
      obtain ⟨j, hj, he⟩ := Option.bind_eq_some_iff.mp hf
      obtain ⟨c, hc, rfl⟩ := Option.map_eq_some_iff.mp he
      obtain ⟨rfl, _⟩ := hk
      obtain ⟨rfl, _⟩ := hd
      refine ix_str value slice pins s σ H _ _ v u Q I rx ry ⟨z, i, c, rfl, rfl, hz, ?_, ?_⟩ hs
      · show (ixOf z.cps.toList.length i).bind _ = _
        rw [hj]; exact hc
      · exact q _ [] ⟨rfl, rfl⟩ (List.nil_sublist _) fun hi => by simp [D.imm] at hi
    · cases hf
  · obtain ⟨k', hk', he⟩ := Option.bind_eq_some_iff.mp hf
    rename_i z ks l
    have ek := keyV hk hk'
    subst ek
    obtain ⟨a, vs, F', rfl, rd, hl, hn, r, sb, pl⟩ := hd.dkI
    obtain ⟨i, i1, i2, i3, i4⟩ := look_ix he
    obtain ⟨w, A, F1, B, e1, rfl, e3, _⟩ := r.get i1
    have hv := valV_zip i2 i3 e1
    have g : DGet H a (kV k') (some w) := .inl ⟨_, _, rd, rfl, hv.symm⟩
    cases (show v = Value.ref a from rx)
    refine tail_any (dict_typeIs I g) slot_dict_getitem.lookup (d_getItem (by show X.A.units + 1 < cLine; exact hu) I g ry fun w' s' I' rw' => ⟨w, H, I', rw', ?_⟩) hs
    refine q w F1 e3 (sub3.trans sb) fun hi s hs => ?_
    have hz : z = false := by simpa [D.imm] using hi
    simp only [stepOf, hk', Option.map_some, Option.some.injEq] at hs
    subst hs
    exact ⟨a, rfl, _, pl hz, hv⟩
  · cases hf

/-! ### slices -/
variable (K) in
def RSl : V → Option Int → Option Int → Hp → VK → Prop := fun x lo hi H Q => ∃ η Z Fx d c, Rep K η Z H d x Fx ∧ sliD d lo hi = some c ∧ NewR K η Z H c Q
theorem sIx_eq (n d : Nat) (o : Option Int) : sIx n d o = HT.sIx n d o := by
  cases o with
  | none => rfl
  | some v =>
    have := HT.clip_eq v n d
    show (if v < 0 then max (v + (n : Int)) 0 else min v (n : Int)).toNat = _
    rw [this]; rfl
theorem cut_eq (l : List V) (lo hi : Option Int) : cut l lo hi = cutV l lo hi := by
  unfold cut cutV; rw [sIx_eq, sIx_eq]
theorem Reps.cut {l : List D} {vs : List V} (h : Reps K η Z H l vs []) (lo hi : Option Int) : Reps K η Z H (Pv.cut l lo hi) (cutV vs lo hi) [] := by
  rw [← cut_eq]
  unfold Pv.cut
  rw [h.length]
  exact (h.drop _).take _
theorem cutV_whole {vs : List V} {lo hi : Option Int} (h : HT.sIx vs.length 0 lo = 0 ∧ HT.sIx vs.length vs.length hi = vs.length) : cutV vs lo hi = vs := by
  unfold cutV; rw [h.1, h.2]; simp
theorem sl_ok : SlR X (RSl X.K) := by
  intro pins s σ H x v vl vu lo hi sl Q I rx hs pl pu h
  obtain ⟨η, Z, Fx, d, c, hd, hf, q⟩ := h
  unfold sliD at hf
  split at hf
  · split at hf
    · rename_i z l hz
      cases hf
      obtain ⟨a, vs, F', rfl, sq, r, _⟩ := hd.lstI
      exact sl_list pins s σ H _ v vl vu lo hi sl Q I rx hs pl pu ⟨a, vs, rfl, sq, fun p hp => q.lst ((r.nil hz).cut lo hi) hp⟩
    · cases hf
  · split at hf
    · rename_i l hz
      cases hf
      obtain ⟨a, vs, rfl, sq, r⟩ := hd
      have r2 := (r.nil hz).cut lo hi
      exact sl_tupA pins s σ H _ v vl vu lo hi sl Q I rx hs pl pu ⟨a, vs, rfl, sq, fun hw => q.of ⟨a, vs, rfl, sq, by rw [cutV_whole hw] at r2; exact r2⟩, fun _ p hp => q.tup r2 hp⟩
    · cases hf
  · cases hf

/-! ### built-in calls -/
def biV : Bi → Value
  | .len => .builtin "len" | .int => .type "int" | .str => .type "str" | .tuple => .type "tuple" | .list => .type "list"
  | .max => .builtin "max" | .min => .builtin "min" | .sum => .builtin "sum" | .sorted => .builtin "sorted" | .all => .builtin "all"
  | .dict => .type "dict" | .bool => .type "bool"
theorem RepA.one {d : D} {xs : List V} (h : RepA K η Z H [d] xs) : ∃ v F, xs = [v] ∧ Rep K η Z H d v F := by
  obtain ⟨v, vs', F, rfl, r, h2⟩ := h
  have : vs' = [] := h2
  subst this
  exact ⟨v, F, rfl, r⟩
theorem RepA.two {d e : D} {xs : List V} (h : RepA K η Z H [d, e] xs) : ∃ v w F G, xs = [v, w] ∧ Rep K η Z H d v F ∧ Rep K η Z H e w G := by
  obtain ⟨v, vs', F, rfl, r, h2⟩ := h
  obtain ⟨w, G, rfl, r2⟩ := h2.one
  exact ⟨v, w, F, G, rfl, r, r2⟩
theorem intsV : ∀ {l : List D} {ns : List Int} {vs : List V} {F : List Addr}, Reps K η Z H l vs F → intsOf l = some ns → vs = ns.map V.int
  | [], _, _, _, h, e => by
    obtain ⟨rfl, _⟩ := h
    cases e; rfl
  | d :: l, ns, _, _, h, e => by
    obtain ⟨v, vs', F1, F2, rfl, h1, h2, rfl⟩ := h
    unfold intsOf at e
    split at e
    · rename_i i l' hi hl
      cases e
      cases d <;> simp [intD?] at hi
      subst hi
      obtain ⟨rfl, _⟩ := h1
      rw [intsV h2 hl]; rfl
    · cases e
theorem blsV : ∀ {l : List D} {ns : List Bool} {vs : List V} {F : List Addr}, Reps K η Z H l vs F → blsOf l = some ns → vs = ns.map V.bl
  | [], _, _, _, h, e => by
    obtain ⟨rfl, _⟩ := h
    cases e; rfl
  | d :: l, ns, _, _, h, e => by
    obtain ⟨v, vs', F1, F2, rfl, h1, h2, rfl⟩ := h
    unfold blsOf at e
    split at e
    · rename_i heq; cases heq
    · rename_i heq
      obtain ⟨rfl, rfl⟩ := List.cons.inj heq
      obtain ⟨l', hl, rfl⟩ := Option.map_eq_some_iff.mp e
      obtain ⟨rfl, _⟩ := h1
      rw [blsV h2 hl]; rfl
    · cases e
theorem strsV : ∀ {l : List D} {ns : List Str} {vs : List V} {F : List Addr}, Reps K η Z H l vs F → strsOf l = some ns → vs = ns.map V.str
  | [], _, _, _, h, e => by
    obtain ⟨rfl, _⟩ := h
    cases e; rfl
  | d :: l, ns, _, _, h, e => by
    obtain ⟨v, vs', F1, F2, rfl, h1, h2, rfl⟩ := h
    unfold strsOf at e
    split at e
    · rename_i heq; cases heq
    · rename_i heq
      obtain ⟨rfl, rfl⟩ := List.cons.inj heq
      obtain ⟨l', hl, rfl⟩ := Option.map_eq_some_iff.mp e
      obtain ⟨rfl, _⟩ := h1
      rw [strsV h2 hl]; rfl
    · cases e
theorem insI_perm (x : Int) : ∀ l : List Int, (insI x l).Perm (x :: l)
  | [] => .refl _
  | y :: l => by
    unfold insI
    split
    · exact .refl _
    · exact ((insI_perm x l).cons y).trans (List.Perm.swap x y l)
theorem sortI_perm : ∀ l : List Int, (sortI l).Perm l
  | [] => .refl _
  | x :: l => (insI_perm x _).trans ((sortI_perm l).cons x)
theorem insI_sorted (x : Int) : ∀ l : List Int, l.Pairwise (· ≤ ·) → (insI x l).Pairwise (· ≤ ·)
  | [], _ => by simp [insI]
  | y :: l, h => by
    unfold insI
    obtain ⟨h1, h2⟩ := List.pairwise_cons.mp h
    split
    · rename_i hxy
      exact List.pairwise_cons.mpr ⟨fun z hz => by
        rcases List.mem_cons.mp hz with rfl | hz
        · exact hxy
        · exact Int.le_trans hxy (h1 z hz), h⟩
    · rename_i hxy
      refine List.pairwise_cons.mpr ⟨fun z hz => ?_, insI_sorted x l h2⟩
      rcases List.mem_cons.mp ((insI_perm x l).mem_iff.mp hz) with rfl | hz
      · omega
      · exact h1 z hz
theorem sortI_sorted : ∀ l : List Int, (sortI l).Pairwise (· ≤ ·)
  | [] => by simp [sortI]
  | x :: l => insI_sorted x _ (sortI_sorted l)
theorem sorted_eq {a b : List Int} (p : a.Perm b) (ha : a.Pairwise (· ≤ ·)) (hb : b.Pairwise (· ≤ ·)) : a = b :=
  List.Perm.eq_of_pairwise (fun x y _ _ h1 h2 => Int.le_antisymm h1 h2) ha hb p
theorem Reps.ints : ∀ (ns : List Int), Reps K η Z H (ns.map .int) (ns.map V.int) []
  | [] => ⟨rfl, rfl⟩
  | i :: ns => Reps.cons_nil ⟨rfl, rfl⟩ (Reps.ints ns)
theorem Reps.strs : ∀ (ns : List Str), Reps K η Z H (ns.map .str) (ns.map V.str) []
  | [] => ⟨rfl, rfl⟩
  | i :: ns => Reps.cons_nil ⟨rfl, rfl⟩ (Reps.strs ns)
theorem lenD_rd : CallR X (.builtin "len") (fun xs H Q => ∃ a kvs, xs = [V.ref a] ∧ Rd H a (.dK kvs) ∧ Q (.int kvs.length) H) := by
  intro pins s σ H xs us Q I r h
  obtain ⟨a, kvs, rfl, ha, q⟩ := h
  obtain ⟨u, rfl, ru⟩ := vals1 r
  cases ru
  exact d_len I ha fun t s' I' => ⟨.int kvs.length, H, I', ⟨t, rfl⟩, q⟩
theorem call_bi (hc : X.calm = true) (b : Bi) : CallR X (biV b) (RDn X.K (biD b)) := by
  intro pins s σ H xs us Q I r h
  obtain ⟨η, Z, ds, c, ha, hf, q⟩ := h
  unfold biD at hf
  split at hf
  · cases hf
    obtain ⟨v, F, rfl, hd⟩ := ha.one
    obtain ⟨a, vs, F', rfl, sq, r', _⟩ := hd.lstI
    exact call_len pins s σ H _ us Q I r ⟨_, _, rfl, .inl ⟨vs, sq, rfl⟩, by rw [← r'.length]; exact q.of ⟨rfl, rfl⟩⟩
  · cases hf
    obtain ⟨v, F, rfl, hd⟩ := ha.one
    obtain ⟨a, vs, rfl, sq, r'⟩ := hd
    exact call_len pins s σ H _ us Q I r ⟨_, _, rfl, .inr ⟨vs, sq, rfl⟩, by rw [← r'.length]; exact q.of ⟨rfl, rfl⟩⟩
  · cases hf
    obtain ⟨v, F, rfl, hd⟩ := ha.one
    obtain ⟨a, vs, F', rfl, rd, hl, hn, r', _⟩ := hd.dkI
    refine lenD_rd pins s σ H _ us Q I r ⟨a, _, rfl, rd, ?_⟩
    rw [List.length_zip, hl, Nat.min_self, ← hl]
    exact q.of ⟨rfl, rfl⟩
  · split at hf
    · rename_i hz
      cases hf
      obtain ⟨v, F, rfl, hd⟩ := ha.one
      obtain ⟨rfl, _⟩ := hd
      exact call_len pins s σ H _ us Q I r ⟨_, _, rfl, ⟨hz, rfl⟩, q.of ⟨rfl, rfl⟩⟩
    · cases hf
  · cases hf
    obtain ⟨v, F, rfl, hd⟩ := ha.one
    obtain ⟨rfl, _⟩ := hd
    exact call_int1 pins s σ H _ us Q I r (.inl ⟨_, rfl, q.of ⟨rfl, rfl⟩⟩)
  · cases hf
    obtain ⟨v, F, rfl, hd⟩ := ha.one
    obtain ⟨rfl, _⟩ := hd
    exact call_int1 pins s σ H _ us Q I r (.inr ⟨_, rfl, q.of ⟨rfl, rfl⟩⟩)
  · split at hf
    · rename_i hz
      obtain ⟨n, hn, rfl⟩ := Option.map_eq_some_iff.mp hf
      obtain ⟨v, F, rfl, hd⟩ := ha.one
      obtain ⟨rfl, _⟩ := hd
      exact call_int_str pins s σ H _ us Q I r ⟨_, _, rfl, hn, hz, q.of ⟨rfl, rfl⟩⟩
    · cases hf
  · split at hf
    · rename_i hz
      cases hf
      obtain ⟨v, F, rfl, hd⟩ := ha.one
      obtain ⟨rfl, _⟩ := hd
      exact call_str_int pins s σ H _ us Q I r ⟨_, rfl, hz, q.of ⟨rfl, rfl⟩⟩
    · cases hf
  · cases hf
    obtain ⟨v, F, rfl, hd⟩ := ha.one
    obtain ⟨rfl, _⟩ := hd
    exact SkE.call_str_str pins s σ H _ us Q I r ⟨_, rfl, q.of ⟨rfl, rfl⟩⟩
  · split at hf
    · rename_i hz
      cases hf
      obtain ⟨v, F, rfl, hd⟩ := ha.one
      obtain ⟨a, vs, F', rfl, sq, r', _⟩ := hd.lstI
      exact call_tuple_of pins s σ H _ us Q I r ⟨a, vs, rfl, .inl ⟨sq, fun p hp => q.tup (r'.nil hz) hp⟩⟩
    · cases hf
  · split at hf
    · rename_i hz
      cases hf
      obtain ⟨v, F, rfl, hd⟩ := ha.one
      obtain ⟨a, vs, rfl, sq, r'⟩ := hd
      exact call_tuple_of pins s σ H _ us Q I r ⟨a, vs, rfl, .inr ⟨sq, q.of ⟨a, vs, rfl, sq, r'.nil hz⟩⟩⟩
    · cases hf
  · split at hf
    · rename_i hz
      cases hf
      obtain ⟨v, F, rfl, hd⟩ := ha.one
      obtain ⟨a, vs, F', rfl, sq, r', _⟩ := hd.lstI
      exact call_list_of pins s σ H _ us Q I r ⟨a, vs, rfl, .inl sq, fun p hp => q.lst (r'.nil hz) hp⟩
    · cases hf
  · split at hf
    · rename_i hz
      cases hf
      obtain ⟨v, F, rfl, hd⟩ := ha.one
      obtain ⟨a, vs, rfl, sq, r'⟩ := hd
      exact call_list_of pins s σ H _ us Q I r ⟨a, vs, rfl, .inr sq, fun p hp => q.lst (r'.nil hz) hp⟩
    · cases hf
  · cases hf
    obtain ⟨v, w, F, G, rfl, hd, he⟩ := ha.two
    obtain ⟨rfl, _⟩ := hd
    obtain ⟨rfl, _⟩ := he
    exact call_max2 hc pins s σ H _ us Q I r ⟨_, _, rfl, q.of ⟨rfl, rfl⟩⟩
  · cases hf
    obtain ⟨v, w, F, G, rfl, hd, he⟩ := ha.two
    obtain ⟨rfl, _⟩ := hd
    obtain ⟨rfl, _⟩ := he
    exact call_min2 hc pins s σ H _ us Q I r ⟨_, _, rfl, q.of ⟨rfl, rfl⟩⟩
  · obtain ⟨ns, hn, rfl⟩ := Option.map_eq_some_iff.mp hf
    obtain ⟨v, F, rfl, hd⟩ := ha.one
    obtain ⟨a, vs, F', rfl, sq, r', _⟩ := hd.lstI
    rw [intsV r' hn] at sq
    exact cr_sum hc pins s σ H _ us Q I r ⟨a, ns, rfl, sq, q.of ⟨rfl, rfl⟩⟩
  · obtain ⟨ns, hn, rfl⟩ := Option.map_eq_some_iff.mp hf
    obtain ⟨v, F, rfl, hd⟩ := ha.one
    obtain ⟨a, vs, F', rfl, sq, r', _⟩ := hd.lstI
    rw [blsV r' hn] at sq
    exact cr_all hc pins s σ H _ us Q I r ⟨a, ns, rfl, sq, q.of ⟨rfl, rfl⟩⟩
  · obtain ⟨ns, hn, rfl⟩ := Option.map_eq_some_iff.mp hf
    obtain ⟨v, F, rfl, hd⟩ := ha.one
    obtain ⟨a, vs, F', rfl, sq, r', _⟩ := hd.lstI
    rw [intsV r' hn] at sq
    refine cr_sortedI pins s σ H _ us Q I r ⟨a, ns, rfl, sq, fun ns' p hp1 hp2 hp => ?_⟩
    have : ns' = sortI ns := sorted_eq (hp1.trans (sortI_perm ns).symm) hp2 (sortI_sorted ns)
    subst this
    exact q.lst (Reps.ints _) hp
  · cases hf
end
end Pv

/-! Pv, part F: built-in methods, by data. -/
namespace Pv
open PySem PySem.Spec PyProof.Rows L2
theorem Evo.op {H H' : Hp} {Z : Addr → Prop} {F F' : List Addr} (w : WF H Z F) (keep : ∀ a o, H a = some o → a ∉ F → H' a = some o) (sub : ∀ a ∈ F', a ∈ F) (nd : F'.Nodup) (pm : ∀ a ∈ F', ∃ o, H' a = some o ∧ Pm o) : Evo H Z F H' Z F' where
  keep := keep
  sub := fun a m => .inl (sub a m)
  zs := fun _ z => z
  zn := fun _ z => .inl z
  wf := ⟨nd, pm, fun a m => w.dz a (sub a m), fun a z => by
    cases q : H a with
    | none => exact absurd q (w.zt a z)
    | some o => rw [keep a o q fun m => w.dz a m z]; exact fun z => nomatch z⟩
section
variable {K : PySem.W.Frag} {η : List V} {Z : Addr → Prop} {H : Hp} {X : Cx}
variable (K) in
/-- a method that changes nothing -/
def RMp (f : D → List D → Option D) : V → List V → Hp → VK → Prop := fun x xs H Q => ∃ η Z Fx d ds c, Rep K η Z H d x Fx ∧ RepA K η Z H ds xs ∧ f d ds = some c ∧ NewR K η Z H c Q
theorem keepsU {a : Addr} {o : HO} {Z : Addr → Prop} {H : Hp} {G : List Addr} (h : a ∉ G) (hz : ¬ Z a) (hp : ∃ u, H a = some u ∧ Pm u) : Keeps Z Z H (upd H a o) G := by
  refine ⟨fun b m u e => ?_, fun b u z e => ?_, fun b u e p => ?_, fun _ z => z⟩
  · rw [upd_ne (fun q => h (by rw [← q]; exact m))]; exact e
  · rw [upd_ne (fun q => hz (by rw [← q]; exact z))]; exact e
  · rw [upd_ne (fun q => by
      obtain ⟨w, e', p'⟩ := hp
      rw [q] at e; rw [e] at e'; cases e'; exact p p')]
    exact e
theorem RepA.nil {xs : List V} (h : RepA K η Z H [] xs) : xs = [] := h
theorem idxOf_first {α : Type} [BEq α] [LawfulBEq α] {z : α} : ∀ {ys : List α} {m : Nat}, m < ys.idxOf z → ys[m]? ≠ some z
  | [], m, h => by simp
  | y :: ys, 0, h => by
    intro e
    have : y = z := by simpa using e
    subst this
    simp at h
  | y :: ys, m + 1, h => by
    intro e
    by_cases hy : y = z
    · subst hy; simp at h
    · have hb : (y == z) = false := by simpa using hy
      simp only [List.idxOf_cons, hb, cond_false] at h
      exact idxOf_first (z := z) (ys := ys) (m := m) (by omega) (by simpa using e)
theorem mt_pt_index : MtR X "tuple.index" (RMp X.K tixD) := by
  intro pins s σ H x xs v us Q I rx rxs h
  obtain ⟨η, Z, Fx, d, ds, c, hd, ha, hf, q⟩ := h
  unfold tixD at hf
  split at hf
  · obtain ⟨ys, hy, hf⟩ := Option.bind_eq_some_iff.mp hf
    rename_i l z
    split at hf
    · rename_i hz
      cases hf
      obtain ⟨a, vs, rfl, sq, r⟩ := hd
      rw [strsV r hy] at sq
      obtain ⟨v1, F1, rfl, h1⟩ := ha.one
      obtain ⟨rfl, _⟩ := h1
      refine mt_tup_index pins s σ H _ _ v us Q I rx rxs ⟨a, ys, _, ys.idxOf _, rfl, rfl, sq, ?_, fun m hm => ?_, q.of ⟨rfl, rfl⟩⟩
      · rw [List.getElem?_eq_getElem (List.idxOf_lt_length_of_mem hz)]
        simp
      · intro e
        have hml := (List.getElem?_eq_some_iff.mp e).1
        have := idxOf_first hm
        exact this e
    · cases hf
  · cases hf
theorem mt_ps_join : MtR X "str.join" (RMp X.K joinD) := by
  intro pins s σ H x xs v us Q I rx rxs h
  obtain ⟨η, Z, Fx, d, ds, c, hd, ha, hf, q⟩ := h
  unfold joinD at hf
  split at hf
  · obtain ⟨ys, hy, hf⟩ := Option.bind_eq_some_iff.mp hf
    rename_i a z l
    split at hf
    · rename_i hz
      cases hf
      obtain ⟨rfl, _⟩ := hd
      obtain ⟨v1, F1, rfl, h1⟩ := ha.one
      obtain ⟨p, vs, F', rfl, sq, r, _⟩ := h1.lstI
      rw [strsV r hy] at sq
      exact mt_join pins s σ H _ _ v us Q I rx rxs ⟨_, p, ys, rfl, rfl, .inl sq, hz, q.of ⟨rfl, rfl⟩⟩
    · cases hf
  · cases hf
theorem mt_ps_split : MtR X "str.split" (RMp X.K splD) := by
  intro pins s σ H x xs v us Q I rx rxs h
  obtain ⟨η, Z, Fx, d, ds, c, hd, ha, hf, q⟩ := h
  unfold splD at hf
  split at hf
  · split at hf
    · rename_i a b hz
      cases hf
      obtain ⟨rfl, _⟩ := hd
      obtain ⟨v1, F1, rfl, h1⟩ := ha.one
      obtain ⟨rfl, _⟩ := h1
      exact mt_split pins s σ H _ _ v us Q I rx rxs ⟨a, b, rfl, rfl, hz.1, hz.2, fun p hp => q.lst (Reps.strs _) hp⟩
    · cases hf
  · cases hf
theorem Reps.one {d : D} {xs : List V} {F : List Addr} (h : Reps K η Z H [d] xs F) : ∃ v, xs = [v] ∧ Rep K η Z H d v F := by
  obtain ⟨v, vs', F1, F2, rfl, h1, ⟨rfl, rfl⟩, rfl⟩ := h
  exact ⟨v, rfl, by simpa using h1⟩
theorem Reps.snoc {l : List D} {d : D} {vs : List V} {v : V} {F G : List Addr} (h : Reps K η Z H l vs F) (h' : Rep K η Z H d v G) : Reps K η Z H (l ++ [d]) (vs ++ [v]) (F ++ G) :=
  h.append ⟨v, [], G, [], rfl, h', ⟨rfl, rfl⟩, by simp⟩
theorem Reps.last : ∀ {l : List D} {vs : List V} {F : List Addr} {d : D}, Reps K η Z H l vs F → l[l.length - 1]? = some d →
    ∃ v F1 F2, vs[vs.length - 1]? = some v ∧ Reps K η Z H l.dropLast vs.dropLast F1 ∧ Rep K η Z H d v F2 ∧ F = F1 ++ F2
  | [], _, _, _, _, e => by simp at e
  | [x], _, _, d, h, e => by
    obtain ⟨v, rfl, r⟩ := h.one
    simp at e; subst e
    exact ⟨v, [], _, rfl, ⟨rfl, rfl⟩, r, rfl⟩
  | x :: y :: l, _, _, d, h, e => by
    obtain ⟨v, vs', G1, G2, rfl, h1, h2, rfl⟩ := h
    obtain ⟨w, F1, F2, e1, h3, h4, rfl⟩ := Reps.last h2 (by simpa using e)
    have hl := h2.length
    cases vs' with
    | nil => simp at hl
    | cons v' vs' => exact ⟨w, G1 ++ F1, F2, by simpa using e1, ⟨v, _, G1, F1, rfl, h1, h3, rfl⟩, h4, by simp⟩
theorem Reps.reverse : ∀ {l : List D} {vs : List V}, Reps K η Z H l vs [] → Reps K η Z H l.reverse vs.reverse []
  | [], _, h => by obtain ⟨rfl, _⟩ := h; exact ⟨rfl, rfl⟩
  | d :: l, _, h => by
    obtain ⟨v, vs', rfl, h1, h2⟩ := h.nil_cons
    rw [List.reverse_cons, List.reverse_cons]
    exact Reps.snoc (Reps.reverse h2) h1
variable (K) in
/-- a method that changes its thing -/
def RMd (f : D → List D → Option (D × D)) : V → List V → Hp → VK → Prop := fun x xs H Q => ∃ η Z Fx Fs d ds c d', Rep K η Z H d x Fx ∧ Reps K η Z H ds xs Fs ∧ WF H Z (Fx ++ Fs) ∧ f d ds = some (c, d') ∧
  ∀ v H' F' Fc, (∀ a o, H a = some o → a ∉ Fx → H' a = some o) → Rep K η Z H' d' x F' → Rep K η Z H' c v Fc → (F' ++ Fc).Nodup → (∀ a ∈ F' ++ Fc, a ∈ Fx ++ Fs) → Q v H'
/-- the object at a is changed alone -/
theorem WF.upd {Z : Addr → Prop} {H : Hp} {a : Addr} {F G : List Addr} {o : HO} (w : WF H Z (a :: (F ++ G))) : Keeps Z Z H (upd H a o) (F ++ G) := by
  obtain ⟨u, e, p⟩ := w.pm a List.mem_cons_self
  exact keepsU (List.nodup_cons.mp w.nd).1 (w.dz a List.mem_cons_self) ⟨u, e, p⟩
theorem upd_keep {H : Hp} {a : Addr} {o : HO} {F : List Addr} : ∀ b u, H b = some u → b ∉ a :: F → upd H a o b = some u := fun b u e n => by
  rw [upd_ne fun q => n (by rw [q]; exact List.mem_cons_self)]; exact e
theorem mt_dl_append : MtR X "list.append" (RMd X.K apD) := by
  intro pins s σ H x xs v us Q I rx rxs h
  obtain ⟨η, Z, Fx, Fs, d, ds, c, d', hd, ha, w, hf, q⟩ := h
  unfold apD at hf
  split at hf
  · split at hf
    · rename_i l y hz
      cases hf
      obtain ⟨a, vs, F', rfl, r, e, rfl⟩ := hd
      obtain ⟨v1, rfl, r1⟩ := ha.one
      have hl := r.length
      have k := WF.upd (o := .lst (vs ++ [v1])) w
      refine mt_append pins s σ H _ _ v us Q I rx rxs ⟨a, vs, v1, rfl, rfl, e, by omega, ?_⟩
      refine q .non _ (a :: (F' ++ Fs)) [] upd_keep ⟨a, vs ++ [v1], F' ++ Fs, rfl, (r.keep k (fun b m => List.mem_append_left _ m)).snoc (r1.keep k (fun b m => List.mem_append_right _ m)), upd_same, rfl⟩ ⟨rfl, rfl⟩ (by simpa using w.nd) (fun b m => by simpa using m)
    · cases hf
  · cases hf
theorem mt_dl_extend : MtR X "list.extend" (RMd X.K exD) := by
  intro pins s σ H x xs v us Q I rx rxs h
  obtain ⟨η, Z, Fx, Fs, d, ds, c, d', hd, ha, w, hf, q⟩ := h
  unfold exD at hf
  split at hf
  · split at hf
    · rename_i l z m hz
      simp only [Bool.and_eq_true, decide_eq_true_eq] at hz
      cases hf
      obtain ⟨a, vs, F', rfl, r, e, rfl⟩ := hd
      obtain ⟨v1, rfl, r1⟩ := ha.one
      obtain ⟨b, ws, F2, rfl, r2, e2, rfl⟩ := r1
      have hl := r.length
      have hl2 := r2.length
      have r2' := r2.nil hz.1
      have k := WF.upd (o := .lst (vs ++ ws)) w
      refine mt_extend pins s σ H _ _ v us Q I rx rxs ⟨a, b, vs, ws, rfl, rfl, e, e2, by omega, ?_⟩
      have k0 : Keeps Z Z H (upd H a (.lst (vs ++ ws))) ([] : List Addr) := k.mono fun _ m => by cases m
      refine q .non _ (a :: F') [] upd_keep ⟨a, vs ++ ws, F', rfl, ?_, upd_same, rfl⟩ ⟨rfl, rfl⟩ ?_ (fun b m => by simp at m ⊢; rcases m with m | m <;> simp [m])
      · have := (r.keep k (fun b m => List.mem_append_left _ m)).append (r2'.keep k0 (fun b m => by cases m))
        simpa using this
      · have := w.nd
        simp only [List.cons_append, List.append_nil] at this ⊢
        exact this.sublist (List.Sublist.cons_cons a (List.sublist_append_left _ _))
    · cases hf
  · cases hf
theorem mt_dl_pop : MtR X "list.pop" (RMd X.K poD) := by
  intro pins s σ H x xs v us Q I rx rxs h
  obtain ⟨η, Z, Fx, Fs, d, ds, c, d', hd, ha, w, hf, q⟩ := h
  unfold poD at hf
  split at hf
  · split at hf
    · rename_i l y hz
      cases hf
      obtain ⟨a, vs, F', rfl, r, e, rfl⟩ := hd
      obtain ⟨rfl, rfl⟩ := ha
      obtain ⟨v1, F1, F2, e1, r1, r2, rfl⟩ := r.last hz
      have k := WF.upd (F := F1) (G := F2) (o := .lst vs.dropLast) (by simpa using w)
      refine mt_pop pins s σ H _ _ v us Q I rx rxs ⟨a, vs, v1, rfl, rfl, e, e1, ?_⟩
      exact q v1 _ (a :: F1) F2 upd_keep ⟨a, _, F1, rfl, r1.keep k (fun b m => List.mem_append_left _ m), upd_same, rfl⟩ (r2.keep k (fun b m => List.mem_append_right _ m)) (by simpa using w.nd) (fun b m => by simpa using m)
    · cases hf
  · cases hf
theorem ix_seq {n : Nat} {i : Int} {j : Nat} (h : ixOf n i = some j) : seqIndex? i n = some j := by
  unfold ixOf at h
  unfold seqIndex?
  by_cases h0 : 0 ≤ i
  · simp only [h0, if_true] at h
    split at h
    · cases h
      have : ¬ i < 0 := by omega
      simp [this, h0, *]
    · cases h
  · simp only [h0, if_false] at h
    split at h
    · cases h
      have h1 : i < 0 := by omega
      have h2 : 0 ≤ i + n := by omega
      have h3 : i + (n : Int) < n := by omega
      simp only [h1, if_true, decide_eq_true h2, decide_eq_true h3, Bool.true_and]
    · cases h
theorem Reps.erase : ∀ {l : List D} {vs : List V} (j : Nat), Reps K η Z H l vs [] → Reps K η Z H (l.eraseIdx j) (vs.eraseIdx j) []
  | [], _, j, h => by obtain ⟨rfl, _⟩ := h; exact ⟨by simp, rfl⟩
  | d :: l, _, 0, h => by
    obtain ⟨v, vs', rfl, h1, h2⟩ := h.nil_cons
    simpa using h2
  | d :: l, _, j + 1, h => by
    obtain ⟨v, vs', rfl, h1, h2⟩ := h.nil_cons
    simpa using Reps.cons_nil h1 (Reps.erase j h2)
theorem Reps.atN : ∀ {l : List D} {vs : List V} {j : Nat} {d : D}, Reps K η Z H l vs [] → l[j]? = some d → ∃ v, vs[j]? = some v ∧ Rep K η Z H d v []
  | [], _, j, d, h, e => by simp at e
  | x :: l, _, 0, d, h, e => by
    obtain ⟨v, vs', rfl, h1, h2⟩ := h.nil_cons
    simp at e; subst e
    exact ⟨v, rfl, h1⟩
  | x :: l, _, j + 1, d, h, e => by
    obtain ⟨v, vs', rfl, h1, h2⟩ := h.nil_cons
    simpa using Reps.atN h2 (by simpa using e)
theorem immL_getN : ∀ {l : List D} {j : Nat} {d : D}, immL l = true → l[j]? = some d → d.imm = true
  | [], _, _, _, e => by simp at e
  | x :: l, 0, d, h, e => by
    simp only [immL, Bool.and_eq_true] at h
    simp at e; subst e; exact h.1
  | x :: l, j + 1, d, h, e => by
    simp only [immL, Bool.and_eq_true] at h
    exact immL_getN h.2 (by simpa using e)
theorem mt_dl_popAt : MtR X "list.pop" (RMd X.K paD) := by
  intro pins s σ H x xs v us Q I rx rxs h
  obtain ⟨η, Z, Fx, Fs, d, ds, c, d', hd, ha, w, hf, q⟩ := h
  unfold paD at hf
  split at hf
  · split at hf
    · rename_i l i hz
      simp only [Bool.and_eq_true, decide_eq_true_eq] at hz
      obtain ⟨j, hj, hf⟩ := Option.bind_eq_some_iff.mp hf
      obtain ⟨y, hy, hf⟩ := Option.map_eq_some_iff.mp hf
      cases hf
      obtain ⟨a, vs, F', rfl, r, e, rfl⟩ := hd
      obtain ⟨v1, rfl, r1⟩ := ha.one
      obtain ⟨rfl, rfl⟩ := r1
      have r0 := r.nil hz.1
      have hF : F' = [] := r.imm hz.1
      subst hF
      obtain ⟨w1, e1, r2⟩ := r0.atN hy
      have k := WF.upd (F := []) (G := []) (o := .lst (vs.eraseIdx j)) (by simpa using w)
      refine mt_popAt pins s σ H _ _ v us Q I rx rxs ⟨a, vs, i, j, w1, rfl, rfl, e, by omega, by omega, by rw [← r.length]; exact ix_seq hj, e1, ?_⟩
      exact q w1 _ [a] [] upd_keep ⟨a, _, [], rfl, (r0.erase j).keep k (fun b m => by cases m), upd_same, rfl⟩ (r2.keep k (fun b m => by cases m)) (by simp) (fun b m => by simpa using m)
    · cases hf
  · cases hf
theorem intsOf_eq : ∀ {l : List D} {ns : List Int}, intsOf l = some ns → l = ns.map .int
  | [], ns, h => by simp [intsOf] at h; subst h; rfl
  | d :: l, ns, h => by
    unfold intsOf at h
    split at h
    · rename_i i l' h1 h2
      cases h
      cases d <;> simp [intD?] at h1
      subst h1
      simp [intsOf_eq h2]
    · cases h
theorem reps_ints : ∀ {ns : List Int} {vs : List V} {F : List Addr}, Reps K η Z H (ns.map D.int) vs F → vs = ns.map V.int ∧ F = []
  | [], _, _, h => h
  | n :: ns, _, _, h => by
    obtain ⟨v, vs', F1, F2, rfl, ⟨rfl, rfl⟩, h2, rfl⟩ := h
    obtain ⟨rfl, rfl⟩ := reps_ints h2
    exact ⟨rfl, rfl⟩
theorem mk_reps_ints : ∀ (ns : List Int), Reps K η Z H (ns.map D.int) (ns.map V.int) []
  | [] => ⟨rfl, rfl⟩
  | n :: ns => ⟨_, _, [], [], rfl, ⟨rfl, rfl⟩, mk_reps_ints ns, rfl⟩
theorem erase_idx : ∀ {ns : List Int} {k : Int}, k ∈ ns → ∃ j : Nat, ns[j]? = some k ∧ (∀ m : Nat, m < j → ns[m]? ≠ some k) ∧ ns.erase k = ns.eraseIdx j
  | [], k, h => by cases h
  | n :: ns, k, h => by
    by_cases e : n = k
    · subst e
      exact ⟨0, rfl, fun m hm => by omega, by simp⟩
    · have hk : k ∈ ns := by
        rcases List.mem_cons.mp h with h | h
        · exact absurd h.symm e
        · exact h
      obtain ⟨j, h1, h2, h3⟩ := erase_idx hk
      refine ⟨j + 1, by simpa using h1, fun m hm => ?_, ?_⟩
      · cases m with
        | zero => simpa using e
        | succ m => simpa using h2 m (by omega)
      · rw [List.erase_cons_tail (by simpa using e), h3]
        simp
theorem mt_dl_remove : MtR X "list.remove" (RMd X.K rmD) := by
  intro pins s σ H x xs v us Q I rx rxs h
  obtain ⟨η, Z, Fx, Fs, d, ds, c, d', hd, ha, w, hf, q⟩ := h
  unfold rmD at hf
  split at hf
  · rename_i l k
    obtain ⟨ns, hn, hf⟩ := Option.bind_eq_some_iff.mp hf
    split at hf
    · rename_i hk
      cases hf
      obtain rfl := intsOf_eq hn
      obtain ⟨a, vs, F', rfl, r, e, rfl⟩ := hd
      obtain ⟨v1, rfl, r1⟩ := ha.one
      obtain ⟨rfl, rfl⟩ := r1
      obtain ⟨rfl, rfl⟩ := reps_ints r
      obtain ⟨j, h1, h2, h3⟩ := erase_idx hk
      refine mt_remove pins s σ H _ _ v us Q I rx rxs ⟨a, ns, k, j, rfl, rfl, e, h1, h2, ?_⟩
      rw [h3] at q
      exact q .non _ [a] [] upd_keep ⟨a, _, [], rfl, mk_reps_ints _, upd_same, rfl⟩ ⟨rfl, rfl⟩ (by simp) (fun b m => by simpa using m)
    · cases hf
  · cases hf
theorem mt_dl_clear : MtR X "list.clear" (RMd X.K clD) := by
  intro pins s σ H x xs v us Q I rx rxs h
  obtain ⟨η, Z, Fx, Fs, d, ds, c, d', hd, ha, w, hf, q⟩ := h
  unfold clD at hf
  split at hf
  · split at hf
    · rename_i l hz
      cases hf
      obtain ⟨a, vs, F', rfl, r, e, rfl⟩ := hd
      obtain ⟨rfl, rfl⟩ := ha
      refine mt_clear pins s σ H _ _ v us Q I rx rxs ⟨a, vs, rfl, rfl, e, ?_⟩
      exact q .non _ [a] [] upd_keep ⟨a, [], [], rfl, ⟨rfl, rfl⟩, upd_same, rfl⟩ ⟨rfl, rfl⟩ (by simp) (fun b m => by
        have : b = a := by simpa using m
        simp [this])
    · cases hf
  · cases hf
theorem mt_dl_reverse : MtR X "list.reverse" (RMd X.K reD) := by
  intro pins s σ H x xs v us Q I rx rxs h
  obtain ⟨η, Z, Fx, Fs, d, ds, c, d', hd, ha, w, hf, q⟩ := h
  unfold reD at hf
  split at hf
  · split at hf
    · rename_i l hz
      cases hf
      obtain ⟨a, vs, F', rfl, r, e, rfl⟩ := hd
      obtain ⟨rfl, rfl⟩ := ha
      have r' := r.nil hz
      have := r.imm hz
      subst this
      have k := WF.upd (F := []) (G := []) (o := .lst vs.reverse) (by simpa using w)
      refine mt_reverse pins s σ H _ _ v us Q I rx rxs ⟨a, vs, rfl, rfl, e, ?_⟩
      exact q .non _ [a] [] upd_keep ⟨a, vs.reverse, [], rfl, (r'.reverse).keep k (fun b m => by cases m), upd_same, rfl⟩ ⟨rfl, rfl⟩ (by simp) (fun b m => by
        have : b = a := by simpa using m
        simp [this])
    · cases hf
  · cases hf
end
end Pv

/-! Pv, part G: readings of expressions. -/
namespace Pv
open PySem PySem.Spec PyProof.Rows L2
variable {AL : AlT}
section
variable {X : Cx}
theorem _root_.L2.PE.imp {e : Expr} {t t' : TE} (h : PE X e t) (i : ∀ σ H Q, t' σ H Q → t σ H Q) : PE X e t' := ⟨fun pins s σ H Q I q => h.run pins s σ H Q I (i σ H Q q)⟩
theorem _root_.L2.PT.imp {e : Expr} {t t' : TT} (h : PT X e t) (i : ∀ σ H Q, t' σ H Q → t σ H Q) : PT X e t' := ⟨fun pins s σ H Q I q => h.run pins s σ H Q I (i σ H Q q)⟩
theorem _root_.L2.PW.imp {e : Expr} {t t' : TT} (h : PW X e t) (i : ∀ σ H Q, t' σ H Q → t σ H Q) : PW X e t' := ⟨fun w pins s σ H Q I q => h.run w pins s σ H Q I (i σ H Q q)⟩
theorem _root_.L2.PA.imp {e : List Expr} {t t' : TA} (h : PA X e t) (i : ∀ σ H Q, t' σ H Q → t σ H Q) : PA X e t' := ⟨fun p pins s σ H Q I q => h.run p pins s σ H Q I (i σ H Q q)⟩
theorem _root_.L2.PS.imp {e : Stmt} {t t' : TS} (h : PS X e t) (i : ∀ D σ H, t' D σ H → t D σ H) : PS X e t' := ⟨fun pins s σ H D I q => h.run pins s σ H D I (i D σ H q)⟩
theorem _root_.L2.PSs.imp {e : List Stmt} {t t' : TS} (h : PSs X e t) (i : ∀ D σ H, t' D σ H → t D σ H) : PSs X e t' := ⟨fun pins s σ H D I q => h.run pins s σ H D I (i D σ H q)⟩
end

section
variable (AL) (K : PySem.W.Frag) (η : List V)
/-- how an operand stands -/
def OdR (Z : Addr → Prop) (H : Hp) (σ : L2.St) (o : Od) (v : V) (Fo : List Addr) : Prop := match o with
  | .v d => Rep K η Z H d v Fo
  | .p r q => Fo = [] ∧ ∃ v0, σ[r]? = some (some v0) ∧ Wk H v0 q v
/-- behind an expression -/
structure Pst (σ : L2.St) (fx : List Nat) (H : Hp) (Z : Addr → Prop) (F : List Addr) (γ : L2.St) (H' : Hp) (Z' : Addr → Prop) (γ' : L2.St) (ρ' : Env) (Fe Fo : List Addr) : Prop where
  evo : Evo H Z F H' Z' (Fe ++ Fo)
  gl : γ'.length = γ.length
  fx : ∀ i ∈ fx, (σ ++ γ')[i]? = (σ ++ γ)[i]?
  rep : RepE AL K η Z' H' ρ' σ γ' Fe
  nl : ρ'.nl = η.length
end
section
variable {K : PySem.W.Frag} {η : List V} {σ : L2.St} {fx : List Nat} {H H1 H2 : Hp} {Z Z1 Z2 : Addr → Prop} {F Fe1 Fo1 Fe2 Fo2 : List Addr} {γ γ1 γ2 : L2.St} {ρ ρ1 ρ2 : Env}
theorem Pst.refl (nl : ρ.nl = η.length) (r : RepE AL K η Z H ρ σ γ F) (w : WF H Z F) : Pst AL K η σ fx H Z F γ H Z γ ρ F [] := ⟨by rw [List.append_nil]; exact Evo.refl w, rfl, fun _ _ => rfl, r, nl⟩
theorem Pst.wf (p : Pst AL K η σ fx H Z F γ H1 Z1 γ1 ρ1 Fe1 Fo1) : WF H1 Z1 Fe1 := p.evo.wf.left
theorem Pst.wf2 (p : Pst AL K η σ fx H Z F γ H1 Z1 γ1 ρ1 Fe1 Fo1) : WF H1 Z1 (Fe1 ++ Fo1) := p.evo.wf
theorem Pst.seq (p1 : Pst AL K η σ fx H Z F γ H1 Z1 γ1 ρ1 Fe1 Fo1) (p2 : Pst AL K η σ fx H1 Z1 Fe1 γ1 H2 Z2 γ2 ρ2 Fe2 Fo2) : Pst AL K η σ fx H Z F γ H2 Z2 γ2 ρ2 Fe2 (Fo2 ++ Fo1) :=
  ⟨by rw [← List.append_assoc]; exact p1.evo.trans (p2.evo.frame p1.wf2), p2.gl.trans p1.gl, fun i m => (p2.fx i m).trans (p1.fx i m), p2.rep, p2.nl⟩
theorem Pst.keeps (p1 : Pst AL K η σ fx H Z F γ H1 Z1 γ1 ρ1 Fe1 Fo1) (p2 : Pst AL K η σ fx H1 Z1 Fe1 γ1 H2 Z2 γ2 ρ2 Fe2 Fo2) : Keeps Z1 Z2 H1 H2 Fo1 := p2.evo.keeps p1.wf2
/-- something new in the place of the operands -/
theorem Pst.new {H' : Hp} {Fn : List Addr} (p : Pst AL K η σ fx H Z F γ H1 Z1 γ1 ρ1 Fe1 Fo1) (s : Same H1 H') (nd : Fn.Nodup) (fr : ∀ a ∈ Fn, H1 a = none) (pm : ∀ a ∈ Fn, ∃ o, H' a = some o ∧ Pm o) : Pst AL K η σ fx H Z F γ H' Z1 γ1 ρ1 Fe1 Fn :=
  ⟨(p.evo.drop (List.sublist_append_left _ _)).trans (Evo.fresh p.wf s nd fr pm), p.gl, p.fx, p.rep.keep (Same.keeps s (G := Fe1)) (fun _ m => m), p.nl⟩
theorem Pst.sub {Fo' : List Addr} (p : Pst AL K η σ fx H Z F γ H1 Z1 γ1 ρ1 Fe1 Fo1) (s : Fo'.Sublist Fo1) : Pst AL K η σ fx H Z F γ H1 Z1 γ1 ρ1 Fe1 Fo' := ⟨p.evo.drop ((List.Sublist.refl _).append s), p.gl, p.fx, p.rep, p.nl⟩
theorem Pst.perm {Fo' : List Addr} (p : Pst AL K η σ fx H Z F γ H1 Z1 γ1 ρ1 Fe1 Fo1) (s : Fo1.Perm Fo') : Pst AL K η σ fx H Z F γ H1 Z1 γ1 ρ1 Fe1 Fo' := ⟨p.evo.perm (s.append_left _), p.gl, p.fx, p.rep, p.nl⟩
theorem St1.same {H H' : Hp} (s : Same H H') {v w : V} {t : Stp} (h : St1 H v t w) : St1 H' v t w := by
  obtain ⟨a, e, h⟩ := h
  refine ⟨a, e, ?_⟩
  cases t with
  | fld f => obtain ⟨C, dx, fs, h1, h2⟩ := h; exact ⟨C, dx, fs, s a _ h1, h2⟩
  | ix i => obtain ⟨vs, h1, h2⟩ := h; exact ⟨vs, s a _ h1, h2⟩
  | key k => obtain ⟨vs, h1, h2⟩ := h; exact ⟨vs, s a _ h1, h2⟩
theorem Wk.same {H H' : Hp} (s : Same H H') : ∀ {q : List Stp} {v w : V}, Wk H v q w → Wk H' v q w
  | [], _, _, h => h
  | t :: q, _, _, ⟨u, h1, h2⟩ => ⟨u, h1.same s, Wk.same s h2⟩
/-- an operand at a later time, when it is used -/
theorem OdR.use {o : Od} {v : V} {d : D} {b : Bool} (h : OdR K η Z1 H1 σ o v Fo1) (k : Keeps Z1 Z2 H1 H2 Fo1) (r2 : RepE AL K η Z2 H2 ρ2 σ γ2 Fe2) (hb : o.okb b = true) (hp : b = true → Same H1 H2) (e : o.rd ρ2 = some d) :
    ∃ F1, Rep K η Z2 H2 d v F1 ∧ (F1 = Fo1 ∧ o = .v d ∨ (∃ r q v0 A B, o = .p r q ∧ σ[r]? = some (some v0) ∧ Wk H2 v0 q v ∧ Fo1 = [] ∧ Fe2 = A ++ F1 ++ B ∧ getP ρ2 r q = some d)) := by
  cases o with
  | v d' =>
    have : d' = d := Option.some.inj e
    subst this
    exact ⟨Fo1, Rep.keep k h fun _ m => m, .inl ⟨rfl, rfl⟩⟩
  | p r q =>
    obtain ⟨rfl, v0, h1, h2⟩ := h
    obtain ⟨v0', v', A, F1, B, g1, g2, g3, g4, _⟩ := r2.1.getP (show getP ρ2 r q = some d from e)
    have hr : r < σ.length := (List.getElem?_eq_some_iff.mp h1).1
    rw [List.getElem?_append_left hr, h1] at g1
    cases g1
    have h5 : Wk H2 v0 q v := by
      cases q with
      | nil => exact h2
      | cons s q => exact Wk.same (hp (by simpa [Od.okb] using hb)) h2
    cases g2.inj h5
    exact ⟨F1, g4, .inr ⟨r, q, v0, A, B, rfl, h1, h5, rfl, g3, e⟩⟩
end

section
variable (T : Tab) (cl cm : CallT) (K : PySem.W.Frag) (n : Nat)
/-- an expression's reading: its evaluation, and what holds behind it -/
def RE (fx : List Nat) (e : Ex) : TE := fun σ H Q => ∃ ρ η γ Z F, (σ.length = n ∧ ρ.nl = η.length) ∧ RepE T.al K η Z H ρ σ γ F ∧ WF H Z F ∧ ∃ o ρ', evalO T cl cm e fx ρ = .ok o ρ' ∧
  ∀ v H' Z' γ' Fe Fo, Pst T.al K η σ fx H Z F γ H' Z' γ' ρ' Fe Fo → OdR K η Z' H' σ o v Fo → (e.pur = true → Same H H' ∧ γ' = γ) → Q v H'
/-- a test's -/
def RT (fx : List Nat) (e : Ex) : TT := fun σ H Q => ∃ ρ η γ Z F, (σ.length = n ∧ ρ.nl = η.length) ∧ RepE T.al K η Z H ρ σ γ F ∧ WF H Z F ∧ ∃ b ρ', ((evalO T cl cm e fx ρ).bind fun o ρ => truO o ρ) = .ok b ρ' ∧
  ∀ H' Z' γ' Fe Fo, Pst T.al K η σ fx H Z F γ H' Z' γ' ρ' Fe Fo → (e.pur = true → Same H H' ∧ γ' = γ) → Q b H'
end
theorem Res.bind_ok {α β : Type} {r : Res α} {f : α → Env → Res β} {b : β} {ρ : Env} (h : r.bind f = .ok b ρ) : ∃ a ρ1, r = .ok a ρ1 ∧ f a ρ1 = .ok b ρ := by
  cases r with
  | ok a ρ1 => exact ⟨a, ρ1, rfl, h⟩
  | ex _ _ => cases h
  | no => cases h
theorem Res.of_ok {α : Type} {o : Option α} {ρ ρ' : Env} {a : α} (h : Res.of o ρ = .ok a ρ') : o = some a ∧ ρ = ρ' := by
  cases o with
  | none => cases h
  | some x => cases h; exact ⟨rfl, rfl⟩
mutual
theorem pur_same {T : Tab} {cl cm : CallT} : ∀ (e : Ex) {fx : List Nat} {ρ ρ' : Env} {o : Od}, e.pur = true → evalO T cl cm e fx ρ = .ok o ρ' → ρ' = ρ
  | .var i, fx, ρ, ρ', o, _, h => by
    simp only [evalO] at h
    split at h
    · cases h; rfl
    · split at h
      · split at h
        · cases h
        · cases h; rfl
      · cases h
    · cases h
  | .glo x, _, _, _, _, _, h => by simp only [evalO] at h; exact (Res.of_ok h).2.symm
  | .non, _, _, _, _, _, h => by simp only [evalO] at h; cases h; rfl
  | .bl b, _, _, _, _, _, h => by simp only [evalO] at h; cases h; rfl
  | .int i, _, _, _, _, _, h => by simp only [evalO] at h; cases h; rfl
  | .str x, _, _, _, _, _, h => by simp only [evalO] at h; cases h; rfl
  | .tup l, _, _, _, _, p, h => by
    simp only [evalO] at h
    obtain ⟨os, ρ1, h1, h2⟩ := Res.bind_ok h
    have := purs_same l (by simpa [Ex.pur] using p) h1
    split at h2
    · exact ((Res.of_ok h2).2.symm).trans this
    · cases h2
  | .lst l, _, _, _, _, p, h => by
    simp only [evalO] at h
    obtain ⟨os, ρ1, h1, h2⟩ := Res.bind_ok h
    have := purs_same l (by simpa [Ex.pur] using p) h1
    split at h2
    · exact ((Res.of_ok h2).2.symm).trans this
    · cases h2
  | .bin o a b, _, _, _, _, p, h => by
    simp only [evalO] at h
    obtain ⟨x, ρ1, h1, h2⟩ := Res.bind_ok h
    obtain ⟨y, ρ2, h3, h4⟩ := Res.bind_ok h2
    have p' : a.pur = true ∧ b.pur = true := by simpa [Ex.pur] using p
    have e1 := pur_same a p'.1 h1
    have e2 := pur_same b p'.2 h3
    split at h4
    · split at h4
      · exact ((Res.of_ok h4).2.symm).trans (e2.trans e1)
      · cases h4
    · cases h4
  | .neg a, _, _, _, _, p, h => by
    simp only [evalO] at h
    obtain ⟨x, ρ1, h1, h2⟩ := Res.bind_ok h
    have e1 := pur_same a (by simpa [Ex.pur] using p) h1
    split at h2
    · cases h2; exact e1
    · cases h2
  | .cmp o a b, _, _, _, _, p, h => by
    simp only [evalO] at h
    obtain ⟨x, ρ1, h1, h2⟩ := Res.bind_ok h
    obtain ⟨y, ρ2, h3, h4⟩ := Res.bind_ok h2
    have p' : a.pur = true ∧ b.pur = true := by simpa [Ex.pur] using p
    have e1 := pur_same a p'.1 h1
    have e2 := pur_same b p'.2 h3
    split at h4
    · split at h4
      · exact ((Res.of_ok h4).2.symm).trans (e2.trans e1)
      · cases h4
    · cases h4
  | .chn o p' a b c, _, _, _, _, p, h => by
    simp only [evalO] at h
    obtain ⟨x, ρ1, h1, h2⟩ := Res.bind_ok h
    obtain ⟨y, ρ2, h3, h4⟩ := Res.bind_ok h2
    have p' : (a.pur = true ∧ b.pur = true) ∧ c.pur = true := by simpa [Ex.pur] using p
    have e1 := pur_same a p'.1.1 h1
    have e2 := pur_same b p'.1.2 h3
    split at h4
    · split at h4
      · split at h4
        · obtain ⟨z, ρ3, h5, h6⟩ := Res.bind_ok h4
          have e3 := pur_same c p'.2 h5
          split at h6
          · split at h6
            · exact ((Res.of_ok h6).2.symm).trans (e3.trans (e2.trans e1))
            · cases h6
          · cases h6
        · cases h4; exact e2.trans e1
        · cases h4
      · cases h4
    · cases h4
  | .not a, _, _, _, _, p, h => by
    simp only [evalO] at h
    obtain ⟨x, ρ1, h1, h2⟩ := Res.bind_ok h
    obtain ⟨y, ρ2, h3, h4⟩ := Res.bind_ok h2
    have e1 := pur_same a (by simpa [Ex.pur] using p) h1
    cases h4
    exact ((Res.of_ok h3).2.symm).trans e1
  | .bop k a b, _, _, _, _, p, h => by
    simp only [evalO] at h
    obtain ⟨x, ρ1, h1, h2⟩ := Res.bind_ok h
    have p' : a.pur = true ∧ b.pur = true := by simpa [Ex.pur] using p
    have e1 := pur_same a p'.1 h1
    split at h2
    · split at h2
      · exact (pur_same b p'.2 h2).trans e1
      · cases h2; exact e1
    · cases h2
  | .ite c a b, _, _, _, _, p, h => by
    simp only [evalO] at h
    obtain ⟨x, ρ1, h1, h2⟩ := Res.bind_ok h
    obtain ⟨t, ρ2, h3, h4⟩ := Res.bind_ok h2
    have p' : (c.pur = true ∧ a.pur = true) ∧ b.pur = true := by simpa [Ex.pur] using p
    have e1 := pur_same c p'.1.1 h1
    have e2 := (Res.of_ok h3).2
    subst e2
    split at h4
    · exact (pur_same a p'.1.2 h4).trans e1
    · exact (pur_same b p'.2 h4).trans e1
  | .idx a b, _, _, _, _, p, h => by
    simp only [evalO] at h
    obtain ⟨x, ρ1, h1, h2⟩ := Res.bind_ok h
    obtain ⟨y, ρ2, h3, h4⟩ := Res.bind_ok h2
    have p' : a.pur = true ∧ b.pur = true := by simpa [Ex.pur] using p
    have e1 := pur_same a p'.1 h1
    have e2 := pur_same b p'.2 h3
    split at h4
    · split at h4
      · exact ((Res.of_ok h4).2.symm).trans (e2.trans e1)
      · cases h4
    · cases h4
  | .sli a l m, _, _, _, _, p, h => by
    simp only [evalO] at h
    obtain ⟨x, ρ1, h1, h2⟩ := Res.bind_ok h
    obtain ⟨y, ρ2, h3, h4⟩ := Res.bind_ok h2
    obtain ⟨z, ρ3, h5, h6⟩ := Res.bind_ok h4
    have p' : (a.pur = true ∧ purL l = true) ∧ purL m = true := by simpa [Ex.pur] using p
    have e1 := pur_same a p'.1.1 h1
    have e2 := purP_same l p'.1.2 h3
    have e3 := purP_same m p'.2 h5
    split at h6
    · exact ((Res.of_ok h6).2.symm).trans (e3.trans (e2.trans e1))
    · cases h6
  | .att a f, _, _, _, _, p, h => by
    simp only [evalO] at h
    obtain ⟨x, ρ1, h1, h2⟩ := Res.bind_ok h
    have e1 := pur_same a (by simpa [Ex.pur] using p) h1
    split at h2
    · split at h2
      · exact ((Res.of_ok h2).2.symm).trans e1
      · cases h2
    · cases h2
  | .bi b l, _, _, _, _, p, h => by
    simp only [evalO] at h
    obtain ⟨x, ρ1, h1, h2⟩ := Res.bind_ok h
    have e1 := purs_same l (by simpa [Ex.pur] using p) h1
    split at h2
    · exact ((Res.of_ok h2).2.symm).trans e1
    · cases h2
  | .isi a t ts, _, _, _, _, p, h => by
    simp only [evalO] at h
    obtain ⟨x, ρ1, h1, h2⟩ := Res.bind_ok h
    have e1 := pur_same a (by simpa [Ex.pur] using p) h1
    exact ((Res.of_ok h2).2.symm).trans e1
  | .call _ _, _, _, _, _, p, _ => by simp [Ex.pur] at p
  | .meth _ _ _, _, _, _, _, p, _ => by simp [Ex.pur] at p
  | .make _ _, _, _, _, _, p, _ => by simp [Ex.pur] at p
  | .bm _ _ _, _, _, _, _, p, _ => by simp [Ex.pur] at p
  | .lc _ _ _ _ _ _, _, _, _, _, p, _ => by simp [Ex.pur] at p
  | .mv _, _, _, _, _, p, _ => by simp [Ex.pur] at p
  | .fz _, _, _, _, _, p, _ => by simp [Ex.pur] at p
  | .ro a, _, _, _, _, p, h => by
    simp only [evalO] at h
    exact pur_same a (by simpa [Ex.pur] using p) h
  | .rev _, _, _, _, _, p, _ => by simp [Ex.pur] at p
  | .rgl _, _, _, _, _, p, _ => by simp [Ex.pur] at p
  | .rg2 _ _, _, _, _, _, p, _ => by simp [Ex.pur] at p
  | .cmpl _ _ _, _, _, _, _, p, _ => by simp [Ex.pur] at p
  | .dic _ _ _, _, _, _, _, p, _ => by simp [Ex.pur] at p
theorem purs_same {T : Tab} {cl cm : CallT} : ∀ (l : List Ex) {fx : List Nat} {ρ ρ' : Env} {o : List Od}, purL l = true → evalOs T cl cm l fx ρ = .ok o ρ' → ρ' = ρ
  | [], _, _, _, _, _, h => by simp only [evalOs] at h; cases h; rfl
  | e :: l, _, _, _, _, p, h => by
    simp only [evalOs] at h
    obtain ⟨x, ρ1, h1, h2⟩ := Res.bind_ok h
    have p' : e.pur = true ∧ purL l = true := by simpa [purL] using p
    have e1 := pur_same e p'.1 h1
    split at h2
    · obtain ⟨y, ρ2, h3, h4⟩ := Res.bind_ok h2
      have e2 := purs_same l p'.2 h3
      cases h4
      exact e2.trans e1
    · cases h2
theorem purP_same {T : Tab} {cl cm : CallT} : ∀ (l : List Ex) {fx : List Nat} {ρ ρ' : Env} {o : Option Int}, purL l = true → evalP T cl cm l fx ρ = .ok o ρ' → ρ' = ρ
  | [], _, _, _, _, _, h => by simp only [evalP] at h; cases h; rfl
  | e :: l, _, _, _, _, p, h => by
    simp only [evalP] at h
    obtain ⟨x, ρ1, h1, h2⟩ := Res.bind_ok h
    have p' : e.pur = true ∧ purL l = true := by simpa [purL] using p
    have e1 := pur_same e p'.1 h1
    split at h2
    · cases h2; exact e1
    · cases h2
end
end Pv

/-! Pv, part H: expressions, one by one. -/
namespace Pv
open PySem PySem.Spec PyProof.Rows L2
variable {AL : AlT}
section
variable {X : Cx} {T : Tab} {cl cm : CallT} {n : Nat} {fx : List Nat}
variable {η : List V} {σ : L2.St} {H H1 H2 : Hp} {Z Z1 Z2 : Addr → Prop} {F Fe1 Fo1 Fe2 Fo2 : List Addr} {γ γ1 γ2 : L2.St} {ρ ρ1 ρ2 : Env}

theorem RepS.pmS {K : PySem.W.Frag} {d : D} {v : V} {Fn : List Addr} (r : Rep K η Z H d v Fn) : ∀ a ∈ Fn, ∃ o, H a = some o ∧ Pm o := fun a m => r.pm a m
/-- a leaf -/
theorem RE.leaf {K : PySem.W.Frag} {e : Ex} {d : D} {v : V} {Q : VK} (h : RE T cl cm K n fx e σ H Q) (he : ∀ ρ, evalO T cl cm e fx ρ = .ok (.v d) ρ) (r : ∀ η Z H, Rep K η Z H d v []) : Q v H := by
  obtain ⟨ρ, η, γ, Z, F, hn, rs, w, o, ρ', ev, q⟩ := h
  rw [he] at ev
  cases ev
  exact q v H Z γ F [] (Pst.refl hn.2 rs w) (r η Z H) fun _ => ⟨Same.refl H, rfl⟩
theorem re_non {j pos} : PE X (.Constant .none j pos) (RE T cl cm X.K n fx .non) := pe_non.imp fun σ H Q h => h.leaf (d := .non) (v := .non) (fun ρ => by simp only [evalO]) fun _ _ _ => ⟨rfl, rfl⟩
theorem re_bl {b j pos} : PE X (.Constant (.bool b) j pos) (RE T cl cm X.K n fx (.bl b)) := pe_bl.imp fun σ H Q h => h.leaf (d := (.bl b)) (v := (.bl b)) (fun ρ => by simp only [evalO]) fun _ _ _ => ⟨rfl, rfl⟩
theorem re_int {i j pos} : PE X (.Constant (.int i) j pos) (RE T cl cm X.K n fx (.int i)) := pe_int.imp fun σ H Q h => h.leaf (d := (.int i)) (v := (.int i)) (fun ρ => by simp only [evalO]) fun _ _ _ => ⟨rfl, rfl⟩
theorem re_str {x j pos} : PE X (.Constant (.str x) j pos) (RE T cl cm X.K n fx (.str x)) := pe_str.imp fun σ H Q h => h.leaf (d := (.str x)) (v := (.str x)) (fun ρ => by simp only [evalO]) fun _ _ _ => ⟨rfl, rfl⟩
/-- a constant of the module: how it stands -/
def ConOk (X : Cx) (x : Str) (d : D) : Prop := ∃ u v, X.mg x = some u ∧ RelV v u ∧ (∀ η Z H, Rep X.K η Z H d v []) ∧ (∀ l, d = .tup l → ∃ p o, v = .ref p ∧ X.K.lookup p = some o ∧ o.cls = .type "tuple" ∧ o.dict = none)
theorem re_glo {x : Str} {pos} (hg : Gl X x) (hd : (x == ("__debug__" : Str)) = false) (hc : ∀ d, T.con.lookup x = some d → ConOk X x d) : PE X (.Name x pos) (RE T cl cm X.K n fx (.glo x)) := by
  cases e : T.con.lookup x with
  | none =>
    refine ⟨fun pins s σ H Q I h => ?_⟩
    obtain ⟨ρ, η, γ, Z, F, hn, rs, w, o, ρ', ev, q⟩ := h
    simp only [evalO, e] at ev
    cases ev
  | some d =>
    obtain ⟨u, v, hm, ru, r, _⟩ := hc d e
    exact (pe_glob hg hm ru hd).imp fun σ H Q h => h.leaf (fun ρ => by simp only [evalO, e]; rfl) r
theorem re_var {i : Nat} {x : Str} {pos : Pos} (hN : X.N[i]? = some x) (hv : Vis X.env.scope x) (hd : (x == ("__debug__" : Str)) = false) (hcd : (x == ("__classdict__" : Str)) = false) (hl : X.N.length = n) :
    PE X (.Name x pos) (RE T cl cm X.K n fx (.var i)) := by
  refine (pe_var hN hv hd hcd).imp fun σ H Q h => ?_
  obtain ⟨ρ, η, γ, Z, F, hn, rs, w, o, ρ', ev, q⟩ := h
  simp only [evalO] at ev
  split at ev
  · rename_i d hi
    obtain ⟨ov, A, F1, B, e1, rfl, ⟨v, rfl, r⟩, _⟩ := rs.1.at hi
    have hlt : i < σ.length := by
      have := (List.getElem?_eq_some_iff.mp hN).1
      have := hn.1
      omega
    rw [List.getElem?_append_left hlt] at e1
    refine ⟨v, e1, ?_⟩
    cases ev
    refine q v H Z γ _ [] (Pst.refl hn.2 rs w) ?_ fun _ => ⟨Same.refl H, rfl⟩
    unfold Od.mk
    split
    · rename_i hi2
      exact r.nil hi2
    · exact ⟨rfl, v, e1, rfl⟩
  · rename_i r1 q1 hi
    obtain ⟨_, v0, v, d, h1, h2, h3, h4⟩ := rs.2 i r1 q1 hi
    refine ⟨v, h1, ?_⟩
    simp only [h4] at ev
    split at ev
    · cases ev
    · cases ev
      exact q v H Z γ _ [] (Pst.refl hn.2 rs w) ⟨rfl, v0, h2, h3⟩ fun _ => ⟨Same.refl H, rfl⟩
  · cases ev
/-- what a name has is handed out; the name has nothing from then on -/
theorem re_mv {i : Nat} {x : Str} {pos : Pos} (hN : X.N[i]? = some x) (hv : Vis X.env.scope x) (hd : (x == ("__debug__" : Str)) = false) (hcd : (x == ("__classdict__" : Str)) = false) (hl : X.N.length = n) :
    PE X (.Name x pos) (RE T cl cm X.K n fx (.mv i)) := by
  refine (pe_var hN hv hd hcd).imp fun σ H Q h => ?_
  obtain ⟨ρ, η, γ, Z, F, hn, rs, w, o, ρ', ev, q⟩ := h
  simp only [evalO] at ev
  split at ev
  · cases ev
  · rename_i hlk
    have hlk : lk T.al fx i = false := by simpa using hlk
    split at ev
    · rename_i d hi
      obtain ⟨ov, A, F1, B, e1, rfl, ⟨v, rfl, r⟩, put⟩ := rs.1.at hi
      have hlt : i < σ.length := by
        have := (List.getElem?_eq_some_iff.mp hN).1
        have := hn.1
        omega
      have e0 := e1
      rw [List.getElem?_append_left hlt] at e1
      refine ⟨v, e1, ?_⟩
      cases ev
      have p1 := put Z H .no (some v) [] (Same.keeps (Same.refl H)) rfl
      rw [set_self e0, List.append_nil] at p1
      refine q v H Z γ (A ++ B) F1 ⟨(Evo.refl w).perm ?_, rfl, fun _ _ => rfl, ⟨p1, rs.2.setS (fun _ _ h => nomatch h) (lk_of hlk).2 (fun _ _ => rfl)⟩, hn.2⟩ r fun z => by simp [Ex.pur] at z
      rw [List.append_assoc, List.append_assoc]
      exact List.Perm.append_left _ List.perm_append_comm
    · cases ev
theorem re_neg {a : Expr} {ea : Ex} {pos} (ha : PE X a (RE T cl cm X.K n fx ea)) : PE X (.UnaryOp .USub a pos) (RE T cl cm X.K n fx (.neg ea)) := by
  refine (pe_un un_neg ha).imp fun σ H Q h => ?_
  obtain ⟨ρ, η, γ, Z, F, hn, rs, w, o, ρ', ev, q⟩ := h
  simp only [evalO] at ev
  obtain ⟨x, ρ1, e1, e2⟩ := Res.bind_ok ev
  refine ⟨ρ, η, γ, Z, F, hn, rs, w, x, ρ1, e1, fun v H' Z' γ' Fe Fo p od pu => ?_⟩
  split at e2
  · obtain ⟨rfl, rfl⟩ := od
    cases e2
    exact ⟨_, rfl, q _ H' Z' γ' Fe [] p ⟨rfl, rfl⟩ (by simpa [Ex.pur] using pu)⟩
  · cases e2

/-- two operands, then something new -/
theorem RE.two {K : PySem.W.Frag} {ea eb : Ex} {f : D → D → Option D} {Q : VK} {ρ' : Env} {o : Od} {b : Bool} (hb : b = eb.pur) (hn : σ.length = n ∧ ρ.nl = η.length) (rs : RepE T.al K η Z H ρ σ γ F) (w : WF H Z F)
    (ev : ((evalO T cl cm ea fx ρ).bind fun x ρ => (evalO T cl cm eb fx ρ).bind fun y ρ => if x.okb b then (match x.rd ρ, y.rd ρ with | some d, some e => Res.of ((f d e).map .v) ρ | _, _ => .no) else .no) = .ok o ρ')
    (q : ∀ v H' Z' γ' Fe Fo, Pst T.al K η σ fx H Z F γ H' Z' γ' ρ' Fe Fo → OdR K η Z' H' σ o v Fo → ((ea.pur && eb.pur) = true → Same H H' ∧ γ' = γ) → Q v H') :
    tOp (RD2 K f) (RE T cl cm K n fx ea) (RE T cl cm K n fx eb) σ H Q := by
  obtain ⟨x, ρ1, e1, e2⟩ := Res.bind_ok ev
  refine ⟨ρ, η, γ, Z, F, hn, rs, w, x, ρ1, e1, fun v H1 Z1 γ1 Fe1 Fo1 p1 od1 pu1 => ?_⟩
  obtain ⟨y, ρ2, e3, e4⟩ := Res.bind_ok e2
  refine ⟨ρ1, η, γ1, Z1, Fe1, ⟨hn.1, p1.nl⟩, p1.rep, p1.wf, y, ρ2, e3, fun u H2 Z2 γ2 Fe2 Fo2 p2 od2 pu2 => ?_⟩
  split at e4
  · rename_i hk
    split at e4
    · rename_i d e hd he
      obtain ⟨Fx, rx, _⟩ := od1.use (ρ2 := ρ2) (b := b) (p1.keeps p2) p2.rep hk (fun z => (pu2 (hb ▸ z)).1) hd
      obtain ⟨Fy, ry, _⟩ := od2.use (ρ2 := ρ2) (b := true) (Same.keeps (Same.refl _)) p2.rep (by cases y <;> simp [Od.okb]; split <;> rfl) (fun _ => Same.refl _) he
      obtain ⟨h1, h2⟩ := Res.of_ok e4
      obtain ⟨c, hc, rfl⟩ := Option.map_eq_some_iff.mp h1
      subst h2
      refine ⟨η, Z2, Fx, Fy, d, e, c, rx, ry, hc, fun r H' Fn s rr nd fr => ?_⟩
      refine q r H' Z2 γ2 Fe2 Fn ((p1.seq p2).new s nd fr rr.pm) rr fun pu => ?_
      simp only [Bool.and_eq_true] at pu
      obtain ⟨a1, a2⟩ := pu1 pu.1
      obtain ⟨b1, b2⟩ := pu2 pu.2
      exact ⟨(a1.trans b1).trans s, b2.trans a2⟩
    · cases e4
  · cases e4
theorem re_bin {a b : Expr} {ea eb : Ex} {o : Bin} {pos} (ha : PE X a (RE T cl cm X.K n fx ea)) (hb : PE X b (RE T cl cm X.K n fx eb)) : PE X (.BinOp a (opB o) b pos) (RE T cl cm X.K n fx (.bin o ea eb)) := by
  refine (pe_op (op_bin o) ha hb).imp fun σ H Q h => ?_
  obtain ⟨ρ, η, γ, Z, F, hn, rs, w, x, ρ', ev, q⟩ := h
  simp only [evalO] at ev
  exact RE.two rfl hn rs w ev fun v H' Z' γ' Fe Fo p od pu => q v H' Z' γ' Fe Fo p od (by simpa [Ex.pur] using pu)
theorem cmp_ev {ea eb : Ex} {o : Cm} (ρ : Env) : evalO T cl cm (.cmp o ea eb) fx ρ = ((evalO T cl cm ea fx ρ).bind fun x ρ => (evalO T cl cm eb fx ρ).bind fun y ρ => if x.okb eb.pur then (match x.rd ρ, y.rd ρ with | some d, some e => Res.of (((cmpD o d e).map D.bl).map .v) ρ | _, _ => .no) else .no) := by
  simp only [evalO, Option.map_map]
  rfl
theorem re_cmp (hu : X.A.units + 66 < cLine) {a b : Expr} {ea eb : Ex} {o : Cm} {pos} (ha : PE X a (RE T cl cm X.K n fx ea)) (hb : PE X b (RE T cl cm X.K n fx eb)) (hm : behindInMarks (opC o) b = false) : PE X (.Compare a [opC o] [b] pos) (RE T cl cm X.K n fx (.cmp o ea eb)) := by
  refine (pe_cmpR (op_cmp hu o) ha hb hm).imp fun σ H Q h => ?_
  obtain ⟨ρ, η, γ, Z, F, hn, rs, w, x, ρ', ev, q⟩ := h
  rw [cmp_ev] at ev
  exact RE.two rfl hn rs w ev fun v H' Z' γ' Fe Fo p od pu => q v H' Z' γ' Fe Fo p od (by simpa [Ex.pur] using pu)
theorem rt_cmp (hu : X.A.units + 66 < cLine) {a b : Expr} {ea eb : Ex} {o : Cm} {pos} (ha : PE X a (RE T cl cm X.K n fx ea)) (hb : PE X b (RE T cl cm X.K n fx eb)) (hm : behindInMarks (opC o) b = false) : PT X (.Compare a [opC o] [b] pos) (RT T cl cm X.K n fx (.cmp o ea eb)) := by
  refine (pt_cmpR (op_cmp hu o) ha hb hm).imp fun σ H Q h => ?_
  obtain ⟨ρ, η, γ, Z, F, hn, rs, w, x, ρ', ev, q⟩ := h
  obtain ⟨y, ρ1, e1, e2⟩ := Res.bind_ok ev
  rw [cmp_ev] at e1
  refine RE.two (Q := fun x H' => ∃ k, x = .bl k ∧ Q k H') rfl hn rs w e1 fun v H' Z' γ' Fe Fo p od pu => ?_
  have hy : ∃ c, y = .v (.bl c) := by
    obtain ⟨x1, ρ2, _, e4⟩ := Res.bind_ok e1
    obtain ⟨y1, ρ3, _, e5⟩ := Res.bind_ok e4
    split at e5
    · split at e5
      · obtain ⟨c, hc, e6⟩ := Option.map_eq_some_iff.mp (Res.of_ok e5).1
        obtain ⟨c', _, rfl⟩ := Option.map_eq_some_iff.mp hc
        exact ⟨c', e6.symm⟩
      · cases e5
    · cases e5
  obtain ⟨c, rfl⟩ := hy
  obtain ⟨rfl, rfl⟩ := od
  obtain ⟨h1, h2⟩ := Res.of_ok e2
  subst h2
  have : c = x := by simpa [Od.rd, truth] using h1
  subst this
  exact ⟨c, rfl, q H' Z' γ' Fe [] p (by simpa [Ex.pur] using pu)⟩

/-! ### truth -/
theorem truth_V {K : PySem.W.Frag} {d : D} {v : V} {F1 : List Addr} {b : Bool} (r : Rep K η Z H d v F1) (e : truth d = some b) : TruV K v H b := by
  cases d with
  | non => obtain ⟨rfl, _⟩ := r; cases e; rfl
  | bl b => obtain ⟨rfl, _⟩ := r; cases e; rfl
  | int i => obtain ⟨rfl, _⟩ := r; cases e; rfl
  | str x => cases e
  | tup l =>
    obtain ⟨a, vs, rfl, sq, r⟩ := r
    cases e
    have := r.length
    refine .inr (.inl ⟨vs, sq, ?_⟩)
    cases l <;> cases vs <;> simp at this ⊢
  | lst z l =>
    obtain ⟨a, vs, F', rfl, sq, r, _⟩ := r.lstI
    cases e
    have := r.length
    refine .inl ⟨vs, sq, ?_⟩
    cases l <;> cases vs <;> simp at this ⊢
  | dk => cases e
  | dt => cases e
  | ins => cases e
  | glo => cases e
  | hole => cases e
theorem od_self {o : Od} : o.okb true = true := by cases o <;> simp [Od.okb]; split <;> rfl
/-- an operand's truth -/
theorem RE.truth {K : PySem.W.Frag} {b : Bool} {ρ' : Env} {o : Od} {ρ1 : Env} {H' : Hp} {Z' : Addr → Prop} {γ' : L2.St} {Fe Fo : List Addr} {v : V}
    (p : Pst AL K η σ fx H Z F γ H' Z' γ' ρ1 Fe Fo) (od : OdR K η Z' H' σ o v Fo) (e2 : truO o ρ1 = .ok b ρ') : TruV K v H' b ∧ ρ1 = ρ' := by
  obtain ⟨h1, h2⟩ := Res.of_ok e2
  obtain ⟨d, hd, ht⟩ := Option.bind_eq_some_iff.mp h1
  obtain ⟨F1, r, _⟩ := od.use (ρ2 := ρ1) (b := true) (Same.keeps (Same.refl _)) p.rep od_self (fun _ => Same.refl _) hd
  exact ⟨truth_V r ht, h2⟩
theorem rt_any {a : Expr} {ea : Ex} (ha : PE X a (RE T cl cm X.K n fx ea)) (he : ∀ whole, isTrue a X.env whole = (do let v ← whole; standAt a.pos; holding [v] (truthy v))) : PT X a (RT T cl cm X.K n fx ea) := by
  refine (pt_truth ha he).imp fun σ H Q h => ?_
  obtain ⟨ρ, η, γ, Z, F, hn, rs, w, b, ρ', ev, q⟩ := h
  obtain ⟨x, ρ1, e1, e2⟩ := Res.bind_ok ev
  refine ⟨ρ, η, γ, Z, F, hn, rs, w, x, ρ1, e1, fun v H' Z' γ' Fe Fo p od pu => ?_⟩
  obtain ⟨t, rfl⟩ := RE.truth p od e2
  exact ⟨b, t, q H' Z' γ' Fe Fo p pu⟩
theorem rt_not {a : Expr} {ea : Ex} {pos} (ha : PT X a (RT T cl cm X.K n fx ea)) : PT X (.UnaryOp .Not a pos) (RT T cl cm X.K n fx (.not ea)) := by
  refine (pt_not ha).imp fun σ H Q h => ?_
  obtain ⟨ρ, η, γ, Z, F, hn, rs, w, b, ρ', ev, q⟩ := h
  obtain ⟨x, ρ1, e1, e2⟩ := Res.bind_ok ev
  simp only [evalO] at e1
  obtain ⟨y, ρ2, e3, e4⟩ := Res.bind_ok e1
  obtain ⟨c, ρ3, e5, e6⟩ := Res.bind_ok e4
  cases e6
  obtain ⟨h1, h2⟩ := Res.of_ok e2
  have hb : b = !c := by simpa [Od.rd, Pv.truth] using h1.symm
  subst h2
  subst hb
  refine ⟨ρ, η, γ, Z, F, hn, rs, w, c, _, by rw [e3]; exact e5, fun H' Z' γ' Fe Fo p pu => q H' Z' γ' Fe Fo p (by simpa [Ex.pur] using pu)⟩
theorem re_not {a : Expr} {ea : Ex} {pos} (ha : PE X a (RE T cl cm X.K n fx ea)) : PE X (.UnaryOp .Not a pos) (RE T cl cm X.K n fx (.not ea)) := by
  refine (pe_notT ha).imp fun σ H Q h => ?_
  obtain ⟨ρ, η, γ, Z, F, hn, rs, w, o, ρ', ev, q⟩ := h
  simp only [evalO] at ev
  obtain ⟨y, ρ2, e3, e4⟩ := Res.bind_ok ev
  obtain ⟨c, ρ3, e5, e6⟩ := Res.bind_ok e4
  cases e6
  refine ⟨ρ, η, γ, Z, F, hn, rs, w, y, ρ2, e3, fun v H' Z' γ' Fe Fo p od pu => ?_⟩
  obtain ⟨t, rfl⟩ := RE.truth p od e5
  exact ⟨c, t, q _ H' Z' γ' Fe [] (p.sub (List.nil_sublist _)) ⟨rfl, rfl⟩ (by simpa [Ex.pur] using pu)⟩
theorem bop_pur {k : Bool} {a b : Ex} (h : (Ex.bop k a b).pur = true) : a.pur = true ∧ b.pur = true := by simpa [Ex.pur] using h
/-- and, or as tests -/
theorem bop_t {k : Bool} {ea eb : Ex} {b : Bool} {ρ ρ' : Env} (ev : ((evalO T cl cm (.bop k ea eb) fx ρ).bind fun o ρ => truO o ρ) = .ok b ρ') :
    ∃ c ρ1, ((evalO T cl cm ea fx ρ).bind fun o ρ => truO o ρ) = .ok c ρ1 ∧ (c = k ∧ ((evalO T cl cm eb fx ρ1).bind fun o ρ => truO o ρ) = .ok b ρ' ∨ c ≠ k ∧ b = c ∧ ρ' = ρ1) := by
  obtain ⟨x, ρ1, e1, e2⟩ := Res.bind_ok ev
  simp only [evalO] at e1
  obtain ⟨y, ρ2, e3, e4⟩ := Res.bind_ok e1
  split at e4
  · rename_i c
    refine ⟨c, ρ2, by rw [e3]; rfl, ?_⟩
    split at e4
    · rename_i hk
      exact .inl ⟨hk, by rw [e4]; exact e2⟩
    · rename_i hk
      cases e4
      obtain ⟨h1, h2⟩ := Res.of_ok e2
      exact .inr ⟨hk, by simpa [Od.rd, Pv.truth] using h1.symm, h2.symm⟩
  · cases e4
theorem rw_and {a b : Expr} {rest : List Expr} {ea eb : Ex} {pos} (ha : PT X a (RT T cl cm X.K n fx ea)) (hb : PW X (.BoolOp .And (b :: rest) pos) (RT T cl cm X.K n fx eb)) : PW X (.BoolOp .And (a :: b :: rest) pos) (RT T cl cm X.K n fx (.bop true ea eb)) := by
  refine (pw_and ha hb).imp fun σ H Q h => ?_
  obtain ⟨ρ, η, γ, Z, F, hn, rs, w, t, ρ', ev, q⟩ := h
  obtain ⟨c, ρ1, e1, e2⟩ := bop_t ev
  refine ⟨ρ, η, γ, Z, F, hn, rs, w, c, ρ1, e1, fun H1 Z1 γ1 Fe1 Fo1 p1 pu1 => ?_⟩
  rcases e2 with ⟨rfl, e2⟩ | ⟨hk, rfl, rfl⟩
  · refine iteT ?_
    have p1' := p1.sub (List.nil_sublist _)
    refine ⟨ρ1, η, γ1, Z1, Fe1, ⟨hn.1, p1.nl⟩, p1.rep, p1.wf, t, ρ', e2, fun H2 Z2 γ2 Fe2 Fo2 p2 pu2 => q H2 Z2 γ2 Fe2 _ (p1'.seq p2) fun pu => ?_⟩
    have pu' : ea.pur = true ∧ eb.pur = true := by simpa [Ex.pur] using pu
    exact ⟨(pu1 pu'.1).1.trans (pu2 pu'.2).1, (pu2 pu'.2).2.trans (pu1 pu'.1).2⟩
  · have : t = false := by simpa using hk
    subst this
    refine iteF ?_
    exact q H1 Z1 γ1 Fe1 Fo1 p1 fun pu => pu1 (bop_pur pu).1
theorem rw_or {a b : Expr} {rest : List Expr} {ea eb : Ex} {pos} (ha : PT X a (RT T cl cm X.K n fx ea)) (hb : PW X (.BoolOp .Or (b :: rest) pos) (RT T cl cm X.K n fx eb)) : PW X (.BoolOp .Or (a :: b :: rest) pos) (RT T cl cm X.K n fx (.bop false ea eb)) := by
  refine (pw_or ha hb).imp fun σ H Q h => ?_
  obtain ⟨ρ, η, γ, Z, F, hn, rs, w, t, ρ', ev, q⟩ := h
  obtain ⟨c, ρ1, e1, e2⟩ := bop_t ev
  refine ⟨ρ, η, γ, Z, F, hn, rs, w, c, ρ1, e1, fun H1 Z1 γ1 Fe1 Fo1 p1 pu1 => ?_⟩
  rcases e2 with ⟨rfl, e2⟩ | ⟨hk, rfl, rfl⟩
  · refine iteF ?_
    have p1' := p1.sub (List.nil_sublist _)
    refine ⟨ρ1, η, γ1, Z1, Fe1, ⟨hn.1, p1.nl⟩, p1.rep, p1.wf, t, ρ', e2, fun H2 Z2 γ2 Fe2 Fo2 p2 pu2 => q H2 Z2 γ2 Fe2 _ (p1'.seq p2) fun pu => ?_⟩
    have pu' : ea.pur = true ∧ eb.pur = true := by simpa [Ex.pur] using pu
    exact ⟨(pu1 pu'.1).1.trans (pu2 pu'.2).1, (pu2 pu'.2).2.trans (pu1 pu'.1).2⟩
  · have : t = true := by simpa using hk
    subst this
    refine iteT ?_
    exact q H1 Z1 γ1 Fe1 Fo1 p1 fun pu => pu1 (bop_pur pu).1
theorem re_and {a b : Expr} {rest : List Expr} {ea eb : Ex} {pos} (ha : PE X a (RE T cl cm X.K n fx ea)) (hb : PE X (.BoolOp .And (b :: rest) pos) (RE T cl cm X.K n fx eb)) : PE X (.BoolOp .And (a :: b :: rest) pos) (RE T cl cm X.K n fx (.bop true ea eb)) := by
  refine (pe_and ha hb).imp fun σ H Q h => ?_
  obtain ⟨ρ, η, γ, Z, F, hn, rs, w, o, ρ', ev, q⟩ := h
  simp only [evalO] at ev
  obtain ⟨x, ρ1, e1, e2⟩ := Res.bind_ok ev
  refine ⟨ρ, η, γ, Z, F, hn, rs, w, x, ρ1, e1, fun v H1 Z1 γ1 Fe1 Fo1 p1 od pu1 => ?_⟩
  split at e2
  · rename_i c
    obtain ⟨rfl, rfl⟩ := od
    refine ⟨c, rfl, ?_⟩
    split at e2
    · rename_i hk
      subst hk
      refine iteT ?_
      refine ⟨ρ1, η, γ1, Z1, Fe1, ⟨hn.1, p1.nl⟩, p1.rep, p1.wf, o, ρ', e2, fun u H2 Z2 γ2 Fe2 Fo2 p2 od2 pu2 => q u H2 Z2 γ2 Fe2 _ (p1.seq p2) (by simpa using od2) fun pu => ?_⟩
      have pu' : ea.pur = true ∧ eb.pur = true := by simpa [Ex.pur] using pu
      exact ⟨(pu1 pu'.1).1.trans (pu2 pu'.2).1, (pu2 pu'.2).2.trans (pu1 pu'.1).2⟩
    · rename_i hk
      cases e2
      have : c = false := by simpa using hk
      subst this
      refine iteF ?_
      exact q _ H1 Z1 γ1 Fe1 [] p1 ⟨rfl, rfl⟩ fun pu => pu1 (bop_pur pu).1
  · cases e2
theorem re_or {a b : Expr} {rest : List Expr} {ea eb : Ex} {pos} (ha : PE X a (RE T cl cm X.K n fx ea)) (hb : PE X (.BoolOp .Or (b :: rest) pos) (RE T cl cm X.K n fx eb)) : PE X (.BoolOp .Or (a :: b :: rest) pos) (RE T cl cm X.K n fx (.bop false ea eb)) := by
  refine (pe_or ha hb).imp fun σ H Q h => ?_
  obtain ⟨ρ, η, γ, Z, F, hn, rs, w, o, ρ', ev, q⟩ := h
  simp only [evalO] at ev
  obtain ⟨x, ρ1, e1, e2⟩ := Res.bind_ok ev
  refine ⟨ρ, η, γ, Z, F, hn, rs, w, x, ρ1, e1, fun v H1 Z1 γ1 Fe1 Fo1 p1 od pu1 => ?_⟩
  split at e2
  · rename_i c
    obtain ⟨rfl, rfl⟩ := od
    refine ⟨c, rfl, ?_⟩
    split at e2
    · rename_i hk
      subst hk
      refine iteF ?_
      refine ⟨ρ1, η, γ1, Z1, Fe1, ⟨hn.1, p1.nl⟩, p1.rep, p1.wf, o, ρ', e2, fun u H2 Z2 γ2 Fe2 Fo2 p2 od2 pu2 => q u H2 Z2 γ2 Fe2 _ (p1.seq p2) (by simpa using od2) fun pu => ?_⟩
      have pu' : ea.pur = true ∧ eb.pur = true := by simpa [Ex.pur] using pu
      exact ⟨(pu1 pu'.1).1.trans (pu2 pu'.2).1, (pu2 pu'.2).2.trans (pu1 pu'.1).2⟩
    · rename_i hk
      cases e2
      have : c = true := by simpa using hk
      subst this
      refine iteT ?_
      exact q _ H1 Z1 γ1 Fe1 [] p1 ⟨rfl, rfl⟩ fun pu => pu1 (bop_pur pu).1
  · cases e2
theorem re_ite {c a b : Expr} {ec ea eb : Ex} {pos} (hc : PT X c (RT T cl cm X.K n fx ec)) (ha : PE X a (RE T cl cm X.K n fx ea)) (hb : PE X b (RE T cl cm X.K n fx eb)) : PE X (.IfExp c a b pos) (RE T cl cm X.K n fx (.ite ec ea eb)) := by
  refine (pe_ifExp hc ha hb).imp fun σ H Q h => ?_
  obtain ⟨ρ, η, γ, Z, F, hn, rs, w, o, ρ', ev, q⟩ := h
  simp only [evalO] at ev
  obtain ⟨x, ρ1, e1, e2⟩ := Res.bind_ok ev
  obtain ⟨t, ρ2, e3, e4⟩ := Res.bind_ok e2
  refine ⟨ρ, η, γ, Z, F, hn, rs, w, t, ρ2, by rw [e1]; exact e3, fun H1 Z1 γ1 Fe1 Fo1 p1 pu1 => ?_⟩
  have p1' := p1.sub (List.nil_sublist _)
  have fin : ∀ {e : Ex}, evalO T cl cm e fx ρ2 = .ok o ρ' → ((Ex.ite ec ea eb).pur = true → ec.pur = true ∧ e.pur = true) → RE T cl cm X.K n fx e σ H1 Q := fun {e} e5 hp =>
    ⟨ρ2, η, γ1, Z1, Fe1, ⟨hn.1, p1.nl⟩, p1.rep, p1.wf, o, ρ', e5, fun u H2 Z2 γ2 Fe2 Fo2 p2 od2 pu2 => q u H2 Z2 γ2 Fe2 _ (p1'.seq p2) (by simpa using od2) fun pu =>
      ⟨(pu1 (hp pu).1).1.trans (pu2 (hp pu).2).1, (pu2 (hp pu).2).2.trans (pu1 (hp pu).1).2⟩⟩
  cases t with
  | true =>
    refine iteT ?_
    exact fin (by simpa using e4) fun pu => by
      have : (ec.pur = true ∧ ea.pur = true) ∧ eb.pur = true := by simpa [Ex.pur] using pu
      exact this.1
  | false =>
    refine iteF ?_
    exact fin (by simpa using e4) fun pu => by
      have : (ec.pur = true ∧ ea.pur = true) ∧ eb.pur = true := by simpa [Ex.pur] using pu
      exact ⟨this.1.1, this.2⟩
end
end Pv

/-! Pv, part I: subscripts, slices, fields, displays, built-ins. -/
namespace Pv
open PySem PySem.Spec PyProof.Rows L2
variable {AL : AlT}
section
variable (K : PySem.W.Frag) (η : List V) in
def OdsR (Z : Addr → Prop) (H : Hp) (σ : L2.St) : List Od → List V → List Addr → Prop
  | [], vs, Fo => vs = [] ∧ Fo = []
  | o :: os, vs, Fo => ∃ v vs' F1 F2, vs = v :: vs' ∧ OdR K η Z H σ o v F1 ∧ OdsR Z H σ os vs' F2 ∧ Fo = F1 ++ F2
variable {X : Cx} {T : Tab} {cl cm : CallT} {n : Nat} {fx : List Nat}
variable {K : PySem.W.Frag} {η : List V} {σ : L2.St} {H H1 H2 : Hp} {Z Z1 Z2 : Addr → Prop} {F Fe1 Fo1 Fe2 Fo2 : List Addr} {γ γ1 γ2 : L2.St} {ρ ρ1 ρ2 : Env}
theorem OdR.later {o : Od} {v : V} {b : Bool} (h : OdR K η Z1 H1 σ o v Fo1) (k : Keeps Z1 Z2 H1 H2 Fo1) (hb : o.okb b = true) (hp : b = true → Same H1 H2) : OdR K η Z2 H2 σ o v Fo1 := by
  cases o with
  | v d => exact Rep.keep k h fun _ m => m
  | p r q =>
    obtain ⟨e, v0, h1, h2⟩ := h
    refine ⟨e, v0, h1, ?_⟩
    cases q with
    | nil => exact h2
    | cons s q => exact Wk.same (hp (by simpa [Od.okb] using hb)) h2
theorem OdsR.len : ∀ {os : List Od} {vs : List V} {Fo : List Addr}, OdsR K η Z H σ os vs Fo → os.length = vs.length
  | [], _, _, h => by obtain ⟨rfl, _⟩ := h; rfl
  | _ :: _, _, _, h => by obtain ⟨v, vs', F1, F2, rfl, _, h2, _⟩ := h; simp [OdsR.len h2]
theorem OdsR.allV : ∀ {os : List Od} {vs : List V} {Fo : List Addr} {ds : List D}, OdsR K η Z H σ os vs Fo → allV os = some ds → Reps K η Z H ds vs Fo
  | [], _, _, _, h, e => by cases e; exact h
  | .v d :: os, _, _, ds, h, e => by
    obtain ⟨v, vs', F1, F2, rfl, h1, h2, rfl⟩ := h
    obtain ⟨ds', e', rfl⟩ := Option.map_eq_some_iff.mp (show (Pv.allV os).map (d :: ·) = some ds from e)
    exact ⟨v, vs', F1, F2, rfl, h1, OdsR.allV h2 e', rfl⟩
  | .p _ _ :: os, _, _, _, _, e => by cases e
theorem OdsR.rdAll {Fe : List Addr} (rs : RepE AL K η Z H ρ σ γ Fe) : ∀ {os : List Od} {vs : List V} {Fo : List Addr} {ds : List D}, OdsR K η Z H σ os vs Fo → rdAll ρ os = some ds → RepA K η Z H ds vs
  | [], _, _, _, h, e => by cases e; exact h.1
  | o :: os, _, _, ds, h, e => by
    obtain ⟨v, vs', F1, F2, rfl, h1, h2, rfl⟩ := h
    unfold Pv.rdAll at e
    split at e
    · rename_i d l hd hl
      cases e
      obtain ⟨G, r, _⟩ := h1.use (ρ2 := ρ) (b := true) (Same.keeps (Same.refl _)) rs od_self (fun _ => Same.refl _) hd
      exact ⟨v, vs', G, rfl, r, OdsR.rdAll rs h2 hl⟩
    · cases e
end
def RA (T : Tab) (cl cm : CallT) (K : PySem.W.Frag) (n : Nat) (fx : List Nat) (l : List Ex) : TA := fun σ H Q => ∃ ρ η γ Z F, (σ.length = n ∧ ρ.nl = η.length) ∧ RepE T.al K η Z H ρ σ γ F ∧ WF H Z F ∧ ∃ os ρ', evalOs T cl cm l fx ρ = .ok os ρ' ∧
  ∀ vs H' Z' γ' Fe Fo, Pst T.al K η σ fx H Z F γ H' Z' γ' ρ' Fe Fo → OdsR K η Z' H' σ os vs Fo → (purL l = true → Same H H' ∧ γ' = γ) → Q vs H'
section
variable {X : Cx} {T : Tab} {cl cm : CallT} {n : Nat} {fx : List Nat}
variable {K : PySem.W.Frag} {η : List V} {σ : L2.St} {H H1 H2 : Hp} {Z Z1 Z2 : Addr → Prop} {F Fe1 Fo1 Fe2 Fo2 : List Addr} {γ γ1 γ2 : L2.St} {ρ ρ1 ρ2 : Env}
theorem ra_nil : PA X [] (RA T cl cm X.K n fx []) := pa_nil.imp fun σ H Q h => by
  obtain ⟨ρ, η, γ, Z, F, hn, rs, w, os, ρ', ev, q⟩ := h
  simp only [evalOs] at ev
  cases ev
  exact q [] H Z γ F [] (Pst.refl hn.2 rs w) ⟨rfl, rfl⟩ fun _ => ⟨Same.refl H, rfl⟩
theorem ra_cons {e : Expr} {es : List Expr} {ee : Ex} {l : List Ex} (he : PE X e (RE T cl cm X.K n fx ee)) (hl : PA X es (RA T cl cm X.K n fx l)) (hs : starEach (e :: es) X.env = (false, eval e X.env) :: starEach es X.env) : PA X (e :: es) (RA T cl cm X.K n fx (ee :: l)) := by
  refine (pa_cons he hl hs).imp fun σ H Q h => ?_
  obtain ⟨ρ, η, γ, Z, F, hn, rs, w, os, ρ', ev, q⟩ := h
  simp only [evalOs] at ev
  obtain ⟨x, ρ1, e1, e2⟩ := Res.bind_ok ev
  refine ⟨ρ, η, γ, Z, F, hn, rs, w, x, ρ1, e1, fun v H1 Z1 γ1 Fe1 Fo1 p1 od1 pu1 => ?_⟩
  split at e2
  · rename_i hk
    obtain ⟨ys, ρ2, e3, e4⟩ := Res.bind_ok e2
    cases e4
    refine ⟨ρ1, η, γ1, Z1, Fe1, ⟨hn.1, p1.nl⟩, p1.rep, p1.wf, ys, _, e3, fun vs H2 Z2 γ2 Fe2 Fo2 p2 od2 pu2 => ?_⟩
    refine q (v :: vs) H2 Z2 γ2 Fe2 _ ((p1.seq p2).perm List.perm_append_comm) ⟨v, vs, Fo1, Fo2, rfl, od1.later (p1.keeps p2) hk (fun z => (pu2 z).1), od2, rfl⟩ fun pu => ?_
    have pu' : ee.pur = true ∧ purL l = true := by simpa [purL] using pu
    exact ⟨(pu1 pu'.1).1.trans (pu2 pu'.2).1, (pu2 pu'.2).2.trans (pu1 pu'.1).2⟩
  · cases e2
/-- a new object more -/
theorem Pst.ext {p : Addr} {o : HO} (ps : Pst AL K η σ fx H Z F γ H1 Z1 γ1 ρ1 Fe1 Fo1) (hp : H1 p = none) : Pst AL K η σ fx H Z F γ (upd H1 p o) Z1 γ1 ρ1 Fe1 Fo1 :=
  ⟨ps.evo.trans (Evo.new ps.evo.wf hp), ps.gl, ps.fx, ps.rep.keep (Same.keeps (Same.new hp) (G := Fe1)) (fun _ m => m), ps.nl⟩
theorem Pst.extO {p : Addr} {o : HO} (ps : Pst AL K η σ fx H Z F γ H1 Z1 γ1 ρ1 Fe1 Fo1) (hp : H1 p = none) (hm : Pm o) : Pst AL K η σ fx H Z F γ (upd H1 p o) Z1 γ1 ρ1 Fe1 (p :: Fo1) := by
  refine ⟨(ps.evo.trans (Evo.fresh (Fn := [p]) ps.evo.wf (Same.new hp) (by simp) (fun a m => ?_) fun a m => ?_)).perm ?_, ps.gl, ps.fx, ps.rep.keep (Same.keeps (Same.new hp) (G := Fe1)) (fun _ m => m), ps.nl⟩
  · have : a = p := by simpa using m
    rw [this]; exact hp
  · have : a = p := by simpa using m
    rw [this]; exact ⟨o, upd_same, hm⟩
  · rw [List.append_assoc]
    exact List.Perm.append_left _ (List.perm_append_comm (l₁ := Fo1) (l₂ := [p]))
theorem WFu {Z : Addr → Prop} {H : Hp} {a : Addr} {G : List Addr} {o : HO} (w : WF H Z (a :: G)) : Keeps Z Z H (upd H a o) G := by
  obtain ⟨u, e, p⟩ := w.pm a List.mem_cons_self
  exact keepsU (List.nodup_cons.mp w.nd).1 (w.dz a List.mem_cons_self) ⟨u, e, p⟩
theorem Evo.opD {Z : Addr → Prop} {H : Hp} {a : Addr} {F : List Addr} {o : HO} (w : WF H Z F) (m : a ∈ F) (hm : Pm o) : Evo H Z F (upd H a o) Z F :=
  Evo.op w (fun b u e n => by rw [upd_ne (fun q => n (by rw [q]; exact m))]; exact e) (fun _ h => h) w.nd fun b hb => by
    by_cases h : b = a
    · rw [h]; exact ⟨o, upd_same, hm⟩
    · rw [upd_ne h]; exact w.pm b hb
theorem lineT {k : Nat} (h : k ≤ 1000) : k ≤ sizeLine := Nat.le_trans h (by decide)
theorem ra_len {l : List Ex} {os : List Od} {ρ ρ' : Env} (h : evalOs T cl cm l fx ρ = .ok os ρ') : os.length = l.length := by
  induction l generalizing os ρ with
  | nil => simp only [evalOs] at h; cases h; rfl
  | cons e l ih =>
    simp only [evalOs] at h
    obtain ⟨x, ρ1, e1, e2⟩ := Res.bind_ok h
    split at e2
    · obtain ⟨ys, ρ2, e3, e4⟩ := Res.bind_ok e2
      cases e4
      simp [ih e3]
    · cases e2
theorem re_tup {es : List Expr} {l : List Ex} {k pos} (hl : PA X es (RA T cl cm X.K n fx l)) : PE X (.Tuple es k pos) (RE T cl cm X.K n fx (.tup l)) := by
  refine (pe_tup hl).imp fun σ H Q h => ?_
  obtain ⟨ρ, η, γ, Z, F, hn, rs, w, o, ρ', ev, q⟩ := h
  simp only [evalO] at ev
  obtain ⟨os, ρ1, e1, e2⟩ := Res.bind_ok ev
  split at e2
  · rename_i hz
    obtain ⟨h1, h2⟩ := Res.of_ok e2
    obtain ⟨ds, hd, rfl⟩ := Option.map_eq_some_iff.mp h1
    subst h2
    refine ⟨ρ, η, γ, Z, F, hn, rs, w, os, ρ1, e1, fun vs H' Z' γ' Fe Fo p od pu => ?_⟩
    have r := od.allV hd
    refine ⟨by rw [← od.len, ra_len e1]; exact lineT hz, fun a ha => ?_⟩
    exact q (.ref a) _ Z' γ' Fe Fo (p.ext ha) ⟨a, vs, rfl, .inl (.inl upd_same), r.keep (Same.keeps (Same.new ha) (G := Fo)) fun _ m => m⟩ fun pu' => ⟨(pu (by simpa [Ex.pur] using pu')).1.trans (Same.new ha), (pu (by simpa [Ex.pur] using pu')).2⟩
  · cases e2
theorem re_lst {es : List Expr} {l : List Ex} {pos} (hl : PA X es (RA T cl cm X.K n fx l)) : PE X (.List es pos) (RE T cl cm X.K n fx (.lst l)) := by
  refine (pe_lst hl).imp fun σ H Q h => ?_
  obtain ⟨ρ, η, γ, Z, F, hn, rs, w, o, ρ', ev, q⟩ := h
  simp only [evalO] at ev
  obtain ⟨os, ρ1, e1, e2⟩ := Res.bind_ok ev
  split at e2
  · rename_i hz
    obtain ⟨h1, h2⟩ := Res.of_ok e2
    obtain ⟨ds, hd, rfl⟩ := Option.map_eq_some_iff.mp h1
    subst h2
    refine ⟨ρ, η, γ, Z, F, hn, rs, w, os, ρ1, e1, fun vs H' Z' γ' Fe Fo p od pu => ?_⟩
    have r := od.allV hd
    refine ⟨by rw [← od.len, ra_len e1]; exact lineT hz, fun a ha => ?_⟩
    exact q (.ref a) _ Z' γ' Fe (a :: Fo) (p.extO ha trivial) ⟨a, vs, Fo, rfl, r.keep (Same.keeps (Same.new ha) (G := Fo)) (fun _ m => m), upd_same, rfl⟩ fun pu' => ⟨(pu (by simpa [Ex.pur] using pu')).1.trans (Same.new ha), (pu (by simpa [Ex.pur] using pu')).2⟩
  · cases e2

/-! ### dicts displayed -/
def tKs (ks : List Key) (ts : List TE) : List (TE × TE) := (ks.map fun k => (tC (kV k) : TE)).zip ts
theorem mergeK_nodup : ∀ {more kvs : List (Key × V)}, (kvs ++ more).map Prod.fst |>.Nodup → mergeK kvs more = kvs ++ more
  | [], kvs, _ => by simp [mergeK]
  | (k, v) :: more, kvs, h => by
    have hk : ∀ p ∈ kvs, p.1 ≠ k := fun p hp e => by
      rw [List.map_append, List.nodup_append] at h
      exact h.2.2 p.1 (List.mem_map_of_mem hp) k (by simp) e
    have hput : putK kvs k v = kvs ++ [(k, v)] := by
      unfold putK
      rw [if_neg]
      intro h2
      obtain ⟨p, hp, h3⟩ := List.any_eq_true.mp h2
      exact hk p hp (of_decide_eq_true h3)
    have : mergeK kvs ((k, v) :: more) = mergeK (putK kvs k v) more := rfl
    rw [this, hput, mergeK_nodup (by simpa using h)]
    simp
theorem dic_pairs : ∀ {vs : List Ex} {ks : List Key} {H : Hp} {Q : List (V × V) → Hp → Prop}, ks.length = vs.length → (RA T cl cm K n fx vs σ H fun vals H2 => Q ((ks.map kV).zip vals) H2) → tPairs (tKs ks (vs.map (RE T cl cm K n fx))) σ H Q
  | [], [], H, Q, _, h => by
    obtain ⟨ρ, η, γ, Z, F, hn, rs, w, os, ρ', ev, q⟩ := h
    simp only [evalOs] at ev
    cases ev
    exact q [] H Z γ F [] (Pst.refl hn.2 rs w) ⟨rfl, rfl⟩ fun _ => ⟨Same.refl H, rfl⟩
  | v :: vs, k :: ks, H, Q, hl, h => by
    obtain ⟨ρ, η, γ, Z, F, hn, rs, w, os, ρ', ev, q⟩ := h
    simp only [evalOs] at ev
    obtain ⟨x, ρ1, e1, e2⟩ := Res.bind_ok ev
    show RE T cl cm K n fx v σ H fun y H2 => tPairs (tKs ks (vs.map (RE T cl cm K n fx))) σ H2 fun ps H3 => Q ((kV k, y) :: ps) H3
    refine ⟨ρ, η, γ, Z, F, hn, rs, w, x, ρ1, e1, fun v H1 Z1 γ1 Fe1 Fo1 p1 od1 pu1 => ?_⟩
    split at e2
    · rename_i hk
      obtain ⟨ys, ρ2, e3, e4⟩ := Res.bind_ok e2
      cases e4
      refine dic_pairs (by simpa using hl) ⟨ρ1, η, γ1, Z1, Fe1, ⟨hn.1, p1.nl⟩, p1.rep, p1.wf, ys, _, e3, fun vals H2 Z2 γ2 Fe2 Fo2 p2 od2 pu2 => ?_⟩
      refine q (v :: vals) H2 Z2 γ2 Fe2 _ ((p1.seq p2).perm List.perm_append_comm) ⟨v, vals, Fo1, Fo2, rfl, od1.later (p1.keeps p2) hk (fun z => (pu2 z).1), od2, rfl⟩ fun pu => ?_
      have pu' : ‹Ex›.pur = true ∧ purL vs = true := by simpa [purL] using pu
      exact ⟨(pu1 pu'.1).1.trans (pu2 pu'.2).1, (pu2 pu'.2).2.trans (pu1 pu'.1).2⟩
    · cases e2
  | [], _ :: _, _, _, hl, _ => by simp at hl
  | _ :: _, [], _, _, hl, _ => by simp at hl
theorem re_dic {keys : List (Option Expr)} {values : List Expr} {ks vs : List Ex} {kl : List Key} {pos : Pos} (hk : cKeys ks = some kl) (hlen : kl.length = vs.length) (hp : PPs X pos keys values (tKs kl (vs.map (RE T cl cm X.K n fx)))) (hall : keys.all (·.isSome) = true) (hl : keys.length = values.length) (h0 : keys ≠ []) (h15 : keys.length ≤ 15) :
    PE X (.Dict keys values pos) (RE T cl cm X.K n fx (.dic false ks vs)) := by
  refine (pe_disp hp hall hl h0 h15).imp fun σ H Q h => ?_
  obtain ⟨ρ, η, γ, Z, F, hn, rs, w, o, ρ', ev, q⟩ := h
  simp only [evalO, hk] at ev
  obtain ⟨os, ρ1, e1, e2⟩ := Res.bind_ok ev
  split at e2
  · rename_i keys' ds h1 h2
    cases h1
    simp only [Bool.false_eq_true, if_false] at e2
    split at e2
    · rename_i hz
      obtain ⟨hnd, hle, h15'⟩ := hz
      cases e2
      intro p hpn
      have p0 := (Pst.refl (fx := fx) hn.2 rs w).extO (o := .dK []) hpn trivial
      refine dic_pairs hlen ⟨ρ, η, γ, Z, F, ⟨hn.1, p0.nl⟩, p0.rep, p0.wf, os, _, e1, fun vals H2 Z2 γ2 Fe2 Fo2 p2 od2 _ => ?_⟩
      have hH2 : H2 p = some (.dK []) := (p0.keeps p2).own p List.mem_cons_self _ upd_same
      have r := od2.allV h2
      have hvl := r.length
      refine ⟨hH2, kl.zip vals, ?_, by simp [List.length_zip]; omega, ?_⟩
      · rw [List.zip_map_left]; rfl
      have ps := (p0.seq p2).perm (Fo' := p :: Fo2) (by simpa using (List.perm_append_comm (l₁ := Fo2) (l₂ := [p])))
      have hm : mergeK [] (kl.zip vals) = kl.zip vals := by
        rw [mergeK_nodup]
        · rfl
        · rw [List.nil_append, List.map_fst_zip (by omega)]; exact hnd
      rw [hm]
      have wp : WF H2 Z2 (p :: (Fe2 ++ Fo2)) := ps.wf2.perm (List.perm_middle)
      have kp : Keeps Z2 Z2 H2 (upd H2 p (.dK (kl.zip vals))) (Fe2 ++ Fo2) := WFu wp
      have ev3 : Evo H2 Z2 (Fe2 ++ (p :: Fo2)) (upd H2 p (.dK (kl.zip vals))) Z2 (Fe2 ++ (p :: Fo2)) := Evo.opD ps.wf2 (by simp) trivial
      exact q (.ref p) _ Z2 γ2 Fe2 (p :: Fo2) ⟨ps.evo.trans ev3, ps.gl, ps.fx, ps.rep.keep (kp.mono fun a m => List.mem_append_left _ m) (fun _ m => m), ps.nl⟩
        ⟨p, vals, Fo2, rfl, r.keep (kp.mono fun a m => List.mem_append_right _ m) (fun _ m => m), by omega, hnd, upd_same, rfl⟩ fun z => by simp [Ex.pur] at z
    · cases e2
  · cases e2
theorem re_dic0 {t : Bool} {pos : Pos} : PE X (.Dict [] [] pos) (RE T cl cm X.K n fx (.dic t [] [])) := by
  cases t with
  | false =>
    refine pe_dnewK.imp fun σ H Q h => ?_
    obtain ⟨ρ, η, γ, Z, F, hn, rs, w, o, ρ', ev, q⟩ := h
    simp only [evalO, evalOs, Res.bind, cKeys, allV] at ev
    intro p hp
    have ev : Res.ok (Od.v (.dk false [] [])) ρ = Res.ok o ρ' := by simpa using ev
    cases ev
    exact q (.ref p) _ Z γ F [p] ((Pst.refl hn.2 rs w).extO hp trivial) ⟨p, [], [], rfl, ⟨rfl, rfl⟩, rfl, List.nodup_nil, upd_same, rfl⟩ fun z => by simp [Ex.pur] at z
  | true =>
    refine pe_dnewT.imp fun σ H Q h => ?_
    obtain ⟨ρ, η, γ, Z, F, hn, rs, w, o, ρ', ev, q⟩ := h
    simp only [evalO, evalOs, Res.bind, cKeys, allV] at ev
    intro p hp
    have ev : Res.ok (Od.v (.dt false [] [])) ρ = Res.ok o ρ' := by simpa using ev
    cases ev
    exact q (.ref p) _ Z γ F [p] ((Pst.refl hn.2 rs w).extO hp trivial) ⟨p, [], [], rfl, ⟨rfl, rfl⟩, rfl, List.nodup_nil, upd_same, rfl⟩ fun z => by simp [Ex.pur] at z

/-! ### parts -/
/-- a part that is read: the operand behind it -/
theorem RE.part {x o : Od} {v w : V} {d e : D} {s : Option Stp} {Fx F1 : List Addr} (p : Pst AL K η σ fx H Z F γ H1 Z1 γ1 ρ1 Fe1 Fo1)
    (hd : (Fx = Fo1 ∧ x = .v d ∨ (∃ r q v0 A B, x = .p r q ∧ σ[r]? = some (some v0) ∧ Wk H1 v0 q v ∧ Fo1 = [] ∧ Fe1 = A ++ Fx ++ B ∧ getP ρ1 r q = some d))) (hp : x.part d s e = some o) (r : Rep K η Z1 H1 e w F1) (sb : F1.Sublist Fx)
    (hs : d.imm = false → ∀ t, s = some t → St1 H1 v t w) : ∃ Fo', Pst AL K η σ fx H Z F γ H1 Z1 γ1 ρ1 Fe1 Fo' ∧ OdR K η Z1 H1 σ o w Fo' := by
  rcases hd with ⟨rfl, rfl⟩ | ⟨rr, q, v0, A, B, rfl, h1, h2, rfl, h3, h4⟩
  · cases hp
    exact ⟨F1, p.sub sb, r⟩
  · unfold Od.part at hp
    simp only at hp
    split at hp
    · rename_i hi
      cases hp
      exact ⟨[], p, r.nil hi⟩
    · split at hp
      · cases hp
      · rename_i hi
        obtain ⟨t, rfl, rfl⟩ := Option.map_eq_some_iff.mp hp
        exact ⟨[], p, rfl, v0, h1, h2.snoc (hs (by simpa using hi) t rfl)⟩
theorem re_idx (hu : X.A.units + 1 < cLine) {a b : Expr} {ea eb : Ex} {pos} (ha : PE X a (RE T cl cm X.K n fx ea)) (hb : PE X b (RE T cl cm X.K n fx eb)) (hs : PlainIx b) : PE X (.Subscript a b pos) (RE T cl cm X.K n fx (.idx ea eb)) := by
  refine (pe_ix (ix_ok hu) ha hb hs).imp fun σ H Q h => ?_
  obtain ⟨ρ, η, γ, Z, F, hn, rs, w, o, ρ', ev, q⟩ := h
  simp only [evalO] at ev
  obtain ⟨x, ρ1, e1, e2⟩ := Res.bind_ok ev
  refine ⟨ρ, η, γ, Z, F, hn, rs, w, x, ρ1, e1, fun v H1 Z1 γ1 Fe1 Fo1 p1 od1 pu1 => ?_⟩
  obtain ⟨y, ρ2, e3, e4⟩ := Res.bind_ok e2
  refine ⟨ρ1, η, γ1, Z1, Fe1, ⟨hn.1, p1.nl⟩, p1.rep, p1.wf, y, ρ2, e3, fun u H2 Z2 γ2 Fe2 Fo2 p2 od2 pu2 => ?_⟩
  split at e4
  · rename_i hk
    split at e4
    · rename_i d k hd
      obtain ⟨Fx, rx, hx⟩ := od1.use (ρ2 := ρ2) (b := eb.pur) (p1.keeps p2) p2.rep hk (fun z => (pu2 z).1) hd
      obtain ⟨h1, h2⟩ := Res.of_ok e4
      obtain ⟨e, he, hp⟩ := Option.bind_eq_some_iff.mp h1
      subst h2
      refine ⟨η, Z2, Fx, Fo2, d, k, e, rx, od2, he, fun w1 F1 r1 sb st => ?_⟩
      have ps := (p1.seq p2).sub (List.sublist_append_right Fo2 Fo1)
      obtain ⟨Fo', p', od'⟩ := RE.part ps hx hp r1 sb st
      refine q w1 H2 Z2 γ2 Fe2 Fo' p' od' fun pu => ?_
      have pu' : ea.pur = true ∧ eb.pur = true := by simpa [Ex.pur] using pu
      exact ⟨(pu1 pu'.1).1.trans (pu2 pu'.2).1, (pu2 pu'.2).2.trans (pu1 pu'.1).2⟩
    · cases e4
  · cases e4
/-- a class that is known: its attributes are plain -/
structure ClsOk (K : PySem.W.Frag) (T : Tab) : Prop where
  cls : ∀ c, T.cls.contains c = true → Cls K (He.ga K c)
  fld : ∀ c f, T.cls.contains c = true → T.flds.contains f = true → NoAttr K (He.ga K c) f
theorem look_lookup {f : Str} {ns : List Str} {l : List D} {d : D} {vs : List V} {F' : List Addr} (e : look f ns l = some d) (r : Reps K η Z H l vs F') : ∃ v F1, (ns.zip vs).lookup f = some v ∧ Rep K η Z H d v F1 ∧ F1.Sublist F' := by
  obtain ⟨i, i1, i2, i3, _⟩ := look_ix e
  obtain ⟨v, A, F1, B, e1, rfl, e3, _⟩ := r.get i1
  exact ⟨v, F1, lookup_zip i2 i3 e1, e3, sub3⟩
theorem Rep.insI {z : Bool} {c : Str} {ns : List Str} {l : List D} {v : V} {F : List Addr} (h : Rep K η Z H (.ins z c ns l) v F) :
    ∃ a dx vs F', v = .ref a ∧ H a = some (.ins (He.ga K c) dx (ns.zip vs)) ∧ ns.length = vs.length ∧ Reps K η Z H l vs F' ∧ F'.Sublist F := by
  obtain ⟨a, dx, vs, F', e, r, hl, h1, h2⟩ := h
  cases z with
  | false => subst h2; exact ⟨a, dx, vs, F', e, h1, hl, r, List.sublist_cons_self a F'⟩
  | true => obtain ⟨_, rfl, rfl, _⟩ := h2; exact ⟨a, dx, vs, [], e, h1, hl, r, List.Sublist.refl _⟩
theorem re_att (hc : ClsOk X.K T) {a : Expr} {ea : Ex} {f : Str} {pos} (ha : PE X a (RE T cl cm X.K n fx ea)) (hb : attributeBase a f X.env (eval a X.env) = eval a X.env) : PE X (.Attribute a f pos) (RE T cl cm X.K n fx (.att ea f)) := by
  refine (pe_fld ha hb).imp fun σ H Q h => ?_
  obtain ⟨ρ, η, γ, Z, F, hn, rs, w, o, ρ', ev, q⟩ := h
  simp only [evalO] at ev
  obtain ⟨x, ρ1, e1, e2⟩ := Res.bind_ok ev
  refine ⟨ρ, η, γ, Z, F, hn, rs, w, x, ρ1, e1, fun v H1 Z1 γ1 Fe1 Fo1 p1 od1 pu1 => ?_⟩
  split at e2
  · rename_i z c ns l hd
    split at e2
    · rename_i hk
      simp only [Bool.and_eq_true] at hk
      obtain ⟨Fx, rx, hx⟩ := od1.use (ρ2 := ρ1) (b := true) (Same.keeps (Same.refl _)) p1.rep od_self (fun _ => Same.refl _) hd
      obtain ⟨h1, h2⟩ := Res.of_ok e2
      obtain ⟨e, he, hp⟩ := Option.bind_eq_some_iff.mp h1
      subst h2
      obtain ⟨b, dx, vs, F', rfl, hb, hl, r, sb⟩ := rx.insI
      obtain ⟨w1, F1, lk, r1, sb1⟩ := look_lookup he r
      refine ⟨b, _, dx, _, w1, rfl, hb, hc.cls c hk.1, hc.fld c f hk.1 hk.2, lk, ?_⟩
      obtain ⟨Fo', p', od'⟩ := RE.part p1 hx hp r1 (sb1.trans sb) fun hi t ht => by
        cases ht
        exact ⟨b, rfl, _, dx, _, hb, lk⟩
      exact q w1 H1 Z1 γ1 Fe1 Fo' p' od' fun pu => pu1 (by simpa [Ex.pur] using pu)
    · cases e2
  · cases e2
/-! ### slices -/
def RP (T : Tab) (cl cm : CallT) (K : PySem.W.Frag) (n : Nat) (fx : List Nat) (l : List Ex) : TO := fun σ H Q => ∃ ρ η γ Z F, (σ.length = n ∧ ρ.nl = η.length) ∧ RepE T.al K η Z H ρ σ γ F ∧ WF H Z F ∧ ∃ o ρ', evalP T cl cm l fx ρ = .ok o ρ' ∧
  ∀ H' Z' γ' Fe, Pst T.al K η σ fx H Z F γ H' Z' γ' ρ' Fe [] → (purL l = true → Same H H' ∧ γ' = γ) → Q o H'
theorem _root_.L2.PO.imp {e : Option Expr} {t t' : TO} (h : PO X e t) (i : ∀ σ H Q, t' σ H Q → t σ H Q) : PO X e t' := ⟨fun pins s σ H Q I q => h.run pins s σ H Q I (i σ H Q q)⟩
theorem rp_none : PO X none (RP T cl cm X.K n fx []) := po_none.imp fun σ H Q h => by
  obtain ⟨ρ, η, γ, Z, F, hn, rs, w, o, ρ', ev, q⟩ := h
  simp only [evalP] at ev
  cases ev
  exact q H Z γ F (Pst.refl hn.2 rs w) fun _ => ⟨Same.refl H, rfl⟩
theorem rp_some {e : Expr} {ee : Ex} {l : List Ex} (he : PE X e (RE T cl cm X.K n fx ee)) : PO X (some e) (RP T cl cm X.K n fx (ee :: l)) := (po_some he).imp fun σ H Q h => by
  obtain ⟨ρ, η, γ, Z, F, hn, rs, w, o, ρ', ev, q⟩ := h
  simp only [evalP] at ev
  obtain ⟨x, ρ1, e1, e2⟩ := Res.bind_ok ev
  refine ⟨ρ, η, γ, Z, F, hn, rs, w, x, ρ1, e1, fun v H1 Z1 γ1 Fe1 Fo1 p1 od1 pu1 => ?_⟩
  split at e2
  · cases e2
    obtain ⟨rfl, rfl⟩ := od1
    exact ⟨_, rfl, q H1 Z1 γ1 Fe1 p1 fun pu => pu1 (show ee.pur = true ∧ purL l = true by simpa [purL] using pu).1⟩
  · cases e2
theorem re_sli {a : Expr} {lo hi : Option Expr} {ea : Ex} {l m : List Ex} {p2 pos} (ha : PE X a (RE T cl cm X.K n fx ea)) (hl : PO X lo (RP T cl cm X.K n fx l)) (hm : PO X hi (RP T cl cm X.K n fx m)) : PE X (.Subscript a (.Slice lo hi none p2) pos) (RE T cl cm X.K n fx (.sli ea l m)) := by
  refine (pe_slice sl_ok ha hl hm).imp fun σ H Q h => ?_
  obtain ⟨ρ, η, γ, Z, F, hn, rs, w, o, ρ', ev, q⟩ := h
  simp only [evalO] at ev
  obtain ⟨x, ρ1, e1, e2⟩ := Res.bind_ok ev
  refine ⟨ρ, η, γ, Z, F, hn, rs, w, x, ρ1, e1, fun v H1 Z1 γ1 Fe1 Fo1 p1 od1 pu1 => ?_⟩
  obtain ⟨y, ρ2, e3, e4⟩ := Res.bind_ok e2
  refine ⟨ρ1, η, γ1, Z1, Fe1, ⟨hn.1, p1.nl⟩, p1.rep, p1.wf, y, ρ2, e3, fun H2 Z2 γ2 Fe2 p2 pu2 => ?_⟩
  obtain ⟨z, ρ3, e5, e6⟩ := Res.bind_ok e4
  refine ⟨ρ2, η, γ2, Z2, Fe2, ⟨hn.1, p2.nl⟩, p2.rep, p2.wf, z, ρ3, e5, fun H3 Z3 γ3 Fe3 p3 pu3 => ?_⟩
  split at e6
  · rename_i hk
    obtain ⟨h1, h2⟩ := Res.of_ok e6
    obtain ⟨c, hc, rfl⟩ := Option.map_eq_some_iff.mp h1
    obtain ⟨d, hd, hs⟩ := Option.bind_eq_some_iff.mp hc
    subst h2
    have p23 := p2.seq p3
    have k13 : Keeps Z1 Z3 H1 H3 Fo1 := p1.keeps p23
    obtain ⟨Fx, rx, hx⟩ := od1.use (ρ2 := ρ3) (b := purL l && purL m) k13 p3.rep hk (fun z => by
      simp only [Bool.and_eq_true] at z
      exact (pu2 z.1).1.trans (pu3 z.2).1) hd
    refine ⟨η, Z3, Fx, d, c, rx, hs, fun r H' Fn s rr nd fr => ?_⟩
    refine q r H' Z3 γ3 Fe3 Fn ((p1.seq p23).new s nd fr rr.pm) rr fun pu => ?_
    have pu' : (ea.pur = true ∧ purL l = true) ∧ purL m = true := by simpa [Ex.pur] using pu
    exact ⟨(((pu1 pu'.1.1).1.trans (pu2 pu'.1.2).1).trans (pu3 pu'.2).1).trans s, (pu3 pu'.2).2.trans ((pu2 pu'.1.2).2.trans (pu1 pu'.1.1).2)⟩
  · cases e6
/-! ### a display of places compared -/
theorem RepA.reps {Z : Addr → Prop} {H : Hp} : ∀ {ds : List D} {vs : List V}, RepA K η Z H ds vs → ∃ F, Reps K η Z H ds vs F
  | [], _, h => ⟨[], h, rfl⟩
  | d :: ds, _, h => by
    obtain ⟨v, vs', F, rfl, r, h2⟩ := h
    obtain ⟨G, r2⟩ := RepA.reps h2
    exact ⟨F ++ G, v, vs', F, G, rfl, r, r2, rfl⟩
theorem RE.cmpl {ea : Ex} {l : List Ex} {f : D → D → Option D} {Q : VK} {ρ' : Env} {o : Od} (hn : σ.length = n ∧ ρ.nl = η.length) (rs : RepE T.al K η Z H ρ σ γ F) (w : WF H Z F)
    (ev : ((evalO T cl cm ea fx ρ).bind fun x ρ => (evalOs T cl cm l fx ρ).bind fun os ρ => if x.okb (purL l) && decide (l.length ≤ 1000) then (match x.rd ρ, rdAll ρ os with | some d, some ds => Res.of ((f d (.lst false ds)).map .v) ρ | _, _ => .no) else .no) = .ok o ρ')
    (q : ∀ v H' Z' γ' Fe Fo, Pst T.al K η σ fx H Z F γ H' Z' γ' ρ' Fe Fo → OdR K η Z' H' σ o v Fo → Q v H') :
    tOp (RD2 K f) (RE T cl cm K n fx ea) (tLst (RA T cl cm K n fx l)) σ H Q := by
  obtain ⟨x, ρ1, e1, e2⟩ := Res.bind_ok ev
  refine ⟨ρ, η, γ, Z, F, hn, rs, w, x, ρ1, e1, fun v H1 Z1 γ1 Fe1 Fo1 p1 od1 pu1 => ?_⟩
  obtain ⟨os, ρ2, e3, e4⟩ := Res.bind_ok e2
  refine ⟨ρ1, η, γ1, Z1, Fe1, ⟨hn.1, p1.nl⟩, p1.rep, p1.wf, os, ρ2, e3, fun vs H2 Z2 γ2 Fe2 Fo2 p2 od2 pu2 => ?_⟩
  split at e4
  · rename_i hk0
    simp only [Bool.and_eq_true, decide_eq_true_eq] at hk0
    obtain ⟨hk, hz⟩ := hk0
    split at e4
    · rename_i d ds hd he
      refine ⟨by rw [← od2.len, ra_len e3]; exact lineT hz, fun a ha => ?_⟩
      obtain ⟨Fx, rx, _⟩ := od1.use (ρ2 := ρ2) (b := purL l) (p1.keeps p2) p2.rep hk (fun z => (pu2 z).1) hd
      obtain ⟨Fy, ry⟩ := RepA.reps (od2.rdAll p2.rep he)
      obtain ⟨h1, h2⟩ := Res.of_ok e4
      obtain ⟨c, hc, rfl⟩ := Option.map_eq_some_iff.mp h1
      subst h2
      refine ⟨η, Z2, Fx, a :: Fy, d, .lst false ds, c, rx.keep (Same.keeps (Same.new ha) (G := Fx)) (fun _ m => m), ⟨a, vs, Fy, rfl, ry.keep (Same.keeps (Same.new ha) (G := Fy)) (fun _ m => m), upd_same, rfl⟩, hc, fun r H' Fn s rr nd fr => ?_⟩
      exact q r H' Z2 γ2 Fe2 Fn (((p1.seq p2).ext ha).new s nd fr rr.pm) rr
    · cases e4
  · cases e4
theorem cmpl_ev {ea : Ex} {l : List Ex} {k : Bool} (ρ : Env) : evalO T cl cm (.cmpl k ea l) fx ρ = ((evalO T cl cm ea fx ρ).bind fun x ρ => (evalOs T cl cm l fx ρ).bind fun os ρ => if x.okb (purL l) && decide (l.length ≤ 1000) then (match x.rd ρ, rdAll ρ os with | some d, some ds => Res.of (((cmpD (if k then .ne else .eq) d (.lst false ds)).map D.bl).map .v) ρ | _, _ => .no) else .no) := by
  simp only [evalO, Option.map_map]
  rfl
theorem re_cmpl (hu : X.A.units + 66 < cLine) {a : Expr} {es : List Expr} {ea : Ex} {l : List Ex} {k : Bool} {p2 pos} (ha : PE X a (RE T cl cm X.K n fx ea)) (hl : PA X es (RA T cl cm X.K n fx l)) : PE X (.Compare a [opC (if k then .ne else .eq)] [.List es p2] pos) (RE T cl cm X.K n fx (.cmpl k ea l)) := by
  refine (pe_cmpR (op_cmp hu _) ha (pe_lst hl) rfl).imp fun σ H Q h => ?_
  obtain ⟨ρ, η, γ, Z, F, hn, rs, w, x, ρ', ev, q⟩ := h
  rw [cmpl_ev] at ev
  exact RE.cmpl hn rs w ev fun v H' Z' γ' Fe Fo p od => q v H' Z' γ' Fe Fo p od fun pu => by simp [Ex.pur] at pu
theorem rt_cmpl (hu : X.A.units + 66 < cLine) {a : Expr} {es : List Expr} {ea : Ex} {l : List Ex} {k : Bool} {p2 pos} (ha : PE X a (RE T cl cm X.K n fx ea)) (hl : PA X es (RA T cl cm X.K n fx l)) : PT X (.Compare a [opC (if k then .ne else .eq)] [.List es p2] pos) (RT T cl cm X.K n fx (.cmpl k ea l)) := by
  refine (pt_cmpR (op_cmp hu _) ha (pe_lst hl) rfl).imp fun σ H Q h => ?_
  obtain ⟨ρ, η, γ, Z, F, hn, rs, w, x, ρ', ev, q⟩ := h
  obtain ⟨y, ρ1, e1, e2⟩ := Res.bind_ok ev
  rw [cmpl_ev] at e1
  refine RE.cmpl (Q := fun x H' => ∃ k, x = .bl k ∧ Q k H') hn rs w e1 fun v H' Z' γ' Fe Fo p od => ?_
  have hy : ∃ c, y = .v (.bl c) := by
    obtain ⟨x1, ρ2, _, e4⟩ := Res.bind_ok e1
    obtain ⟨y1, ρ3, _, e5⟩ := Res.bind_ok e4
    split at e5
    · split at e5
      · obtain ⟨c, hc, e6⟩ := Option.map_eq_some_iff.mp (Res.of_ok e5).1
        obtain ⟨c', _, rfl⟩ := Option.map_eq_some_iff.mp hc
        exact ⟨c', e6.symm⟩
      · cases e5
    · cases e5
  obtain ⟨c, rfl⟩ := hy
  obtain ⟨rfl, rfl⟩ := od
  obtain ⟨h1, h2⟩ := Res.of_ok e2
  subst h2
  have : c = x := by simpa [Od.rd, truth] using h1
  subst this
  exact ⟨c, rfl, q H' Z' γ' Fe [] p fun pu => by simp [Ex.pur] at pu⟩
/-! ### built-in calls -/
theorem RE.bi {f : List D → Option D} {l : List Ex} {Q : VK} {ρ' : Env} {o : Od} (hn : σ.length = n ∧ ρ.nl = η.length) (rs : RepE T.al K η Z H ρ σ γ F) (w : WF H Z F)
    (ev : ((evalOs T cl cm l fx ρ).bind fun os ρ => (match rdAll ρ os with | some ds => Res.of ((f ds).map .v) ρ | none => .no)) = .ok o ρ')
    (q : ∀ v H' Z' γ' Fe Fo, Pst T.al K η σ fx H Z F γ H' Z' γ' ρ' Fe Fo → OdR K η Z' H' σ o v Fo → (purL l = true → Same H H' ∧ γ' = γ) → Q v H') :
    tCB (RDn K f) (RA T cl cm K n fx l) σ H Q := by
  obtain ⟨os, ρ1, e1, e2⟩ := Res.bind_ok ev
  refine ⟨ρ, η, γ, Z, F, hn, rs, w, os, ρ1, e1, fun vs H1 Z1 γ1 Fe1 Fo1 p1 od1 pu1 => ?_⟩
  split at e2
  · rename_i ds hd
    obtain ⟨h1, h2⟩ := Res.of_ok e2
    obtain ⟨c, hc, rfl⟩ := Option.map_eq_some_iff.mp h1
    subst h2
    refine ⟨η, Z1, ds, c, od1.rdAll p1.rep hd, hc, fun r H' Fn s rr nd fr => ?_⟩
    exact q r H' Z1 γ1 Fe1 Fn (p1.new s nd fr rr.pm) rr fun pu => ⟨(pu1 pu).1.trans s, (pu1 pu).2⟩
  · cases e2
theorem re_biB (hc : X.calm = true) {x : Str} {p pos : Pos} {e : Expr} {es : List Expr} {id : String} {b : Bi} {l : List Ex} (hb : biV b = .builtin id) (hg : Gl X x) (hm : X.mg x = none) (hv : bootBuiltins x = some (.builtin id)) (ha : PA X (e :: es) (RA T cl cm X.K n fx l))
    (hn : x ≠ "__name__") (hdb : (x == ("__debug__" : Str)) = false) (he : starEach (e :: es) X.env = (false, eval e X.env) :: starEach es X.env) (hpl : (backTo pos (starEach es X.env)).any (·.1) = false) :
    PE X (.Call (.Name x p) (e :: es) [] pos) (RE T cl cm X.K n fx (.bi b l)) := by
  refine (pe_callB (hb ▸ call_bi hc b) hg hm hv ha hn hdb he hpl).imp fun σ H Q h => ?_
  obtain ⟨ρ, η, γ, Z, F, hn, rs, w, o, ρ', ev, q⟩ := h
  simp only [evalO] at ev
  exact RE.bi hn rs w ev fun v H' Z' γ' Fe Fo p od pu => q v H' Z' γ' Fe Fo p od (by simpa [Ex.pur] using pu)
theorem re_biT (hc : X.calm = true) {x : Str} {p pos : Pos} {e : Expr} {es : List Expr} {id : String} {b : Bi} {l : List Ex} (hb : biV b = .type id) (hg : Gl X x) (hm : X.mg x = none) (hv : bootBuiltins x = some (.type id)) (ha : PA X (e :: es) (RA T cl cm X.K n fx l))
    (hn : x ≠ "__name__") (hdb : (x == ("__debug__" : Str)) = false) (he : starEach (e :: es) X.env = (false, eval e X.env) :: starEach es X.env) (hpl : (backTo pos (starEach es X.env)).any (·.1) = false) :
    PE X (.Call (.Name x p) (e :: es) [] pos) (RE T cl cm X.K n fx (.bi b l)) := by
  refine (pe_callTy (hb ▸ call_bi hc b) hg hm hv ha hn hdb he hpl).imp fun σ H Q h => ?_
  obtain ⟨ρ, η, γ, Z, F, hn, rs, w, o, ρ', ev, q⟩ := h
  simp only [evalO] at ev
  exact RE.bi hn rs w ev fun v H' Z' γ' Fe Fo p od pu => q v H' Z' γ' Fe Fo p od (by simpa [Ex.pur] using pu)
end
end Pv

/-! Pv, part RT: lists and tuples from behind. -/
namespace Pv
open PySem PySem.Spec PyProof.Rows L2 HT
section
variable {prog : Program} {w : World} {A : Around} {E : Value → Shared → Prop} {s : Shared}
theorem appl_rev {sl : Addr} {va vb vc : Value} {n : Nat} {Q : Int × Int × Nat → Shared → Prop} (hs : s.heap.IsSliceOf sl va vb vc) (pa : IsPart va none) (pb : IsPart vb none) (pc : IsPart vc (some (-1)))
    (h : Q ((n : Int) - 1, -1, n) s) : wpAny (model prog w) A (Builtin.Slice.sliceApplied (.ref sl) (pure (n : Int))) Q E s := by
  obtain ⟨os, hos, hcs, hds⟩ := id hs
  unfold Builtin.Slice.sliceApplied Builtin.Slice.sliceFields
  refine wpAny_bind (wpAny_bind (wpAny_field hos hds (x := va) rfl (wpAny_bind (wpAny_field hos hds (x := vb) rfl (wpAny_bind (wpAny_field hos hds (x := vc) rfl (wpAny_pure ?_)))))))
  refine wpAny_bind (slicePart_ pc ?_)
  show wpAny _ _ (if ((-1 : Int) == 0) = true then _ else _) _ _ s
  rw [if_neg (by decide)]
  refine wpAny_bind (slicePart_ pa (wpAny_bind (slicePart_ pb (wpAny_bind (wpAny_pure ?_)))))
  have e1 : Builtin.Slice.sliceAdjust none none (-1) (n : Int) = ((n : Int) - 1, -1) := rfl
  have e2 : Builtin.Slice.slicePlaces ((n : Int) - 1) (-1) (-1) = n := by
    unfold Builtin.Slice.slicePlaces
    rw [if_neg (by decide)]
    by_cases hn : n = 0
    · subst hn; rfl
    · rw [if_pos (by omega)]
      have : ((n : Int) - 1 - -1 - 1) / (- -1) + 1 = n := by
        rw [show (- -1 : Int) = 1 from rfl, Int.ediv_one]; omega
      rw [this]; rfl
  show wpAny _ _ (match Builtin.Slice.sliceAdjust none none (-1) (n : Int) with | (lo, hi) => pure (lo, (-1 : Int), Builtin.Slice.slicePlaces lo hi (-1))) _ _ s
  rw [e1]
  show wpAny _ _ (pure ((n : Int) - 1, (-1 : Int), Builtin.Slice.slicePlaces ((n : Int) - 1) (-1) (-1))) _ _ s
  rw [e2]
  exact wpAny_pure h
theorem pick_rev (xs : Array Value) : ((List.range xs.size).filterMap fun (m : Nat) => xs[((xs.size : Int) - 1 + (m : Int) * (-1)).toNat]?).toArray = xs.toList.reverse.toArray := by
  congr 1
  have h1 : ∀ m ∈ List.range xs.size, xs[((xs.size : Int) - 1 + (m : Int) * (-1)).toNat]? = some (xs.toList.reverse.getD m default) := by
    intro m hm
    have hm := List.mem_range.mp hm
    have e : ((xs.size : Int) - 1 + (m : Int) * (-1)).toNat = xs.size - 1 - m := by omega
    rw [e, List.getD_eq_getElem?_getD, List.getElem?_reverse (by simpa using hm)]
    have h2 : xs.size - 1 - m < xs.size := by omega
    simp [h2]
  have h2 : ∀ (f : Nat → Option Value) (g : Nat → Value) (l : List Nat), (∀ m ∈ l, f m = some (g m)) → l.filterMap f = l.map g := by
    intro f g l
    induction l with
    | nil => intro _; rfl
    | cons a l ih =>
      intro h
      rw [List.filterMap_cons, h a (by simp), List.map_cons, ih fun m hm => h m (by simp [hm])]
  rw [h2 _ _ _ h1]
  apply List.ext_getElem?
  intro i
  rw [List.getElem?_map]
  by_cases hi : i < xs.size
  · rw [List.getElem?_range hi]
    have h3 : i < xs.toList.reverse.length := by simpa using hi
    simp [List.getElem?_eq_getElem h3]
  · rw [List.getElem?_eq_none (by simpa using hi), List.getElem?_eq_none (by simpa using hi)]; rfl
theorem get_tup_rev {t sl : Addr} {items : Array Value} {va vb vc : Value} {Q : Value → Shared → Prop} (hT : IsTup s.heap t items) (hs : s.heap.IsSliceOf sl va vb vc) (pa : IsPart va none) (pb : IsPart vb none) (pc : IsPart vc (some (-1)))
    (h : Q (.ref s.heap.objs.size) { s with heap := s.heap.push { cls := .type "tuple", data := .seq items.toList.reverse.toArray } })
    (hz : items.size ≤ sizeLine) : wpAny (model prog w) A (getItem (.ref t) (.ref sl)) Q E s := by
  have htk : sizeOk (.seq items.toList.reverse.toArray) := by
    show items.toList.reverse.toArray.size ≤ sizeLine
    rw [List.size_toArray, List.length_reverse, Array.length_toList]; exact hz
  obtain ⟨os, hos, hcs, hds⟩ := id hs
  have hTS : s.TypeIs (.ref sl) "slice" := ⟨os, hos, hcs⟩
  unfold getItem
  try with_reducible refine wpAny_holding ?_
  first | refine wpAny_bind (wpAny_pure ?_) | skip
  refine wpAny_bind (wpAny_sequenceKey hT.typeIs (by decide) ?_)
  refine wpAny_bind (wpAny_callSpecial?_slot (name := Str.ofString "__getitem__") hT.typeIs PyProof.Rows.slot_tuple_getitem (wpAny_call_entry PyProof.Rows.slot_tuple_getitem hT.typeIs entry_tuple_getitem ?_ (args_tuple_getitem _ _)))
  show wpAny _ _ (Builtin.Tuple.tupleItemsOf (.ref t) >>= _) _ _ s
  refine wpAny_bind (tupleItemsOf_ hT ?_)
  refine wpAny_bind (wpAny_typeOf hTS ?_)
  rw [if_pos (by decide)]
  refine wpAny_bind (appl_rev hs pa pb pc ?_)
  have hno : ¬ ((((items.size : Int) - 1) == 0 && (-1 : Int) == 1 && items.size == items.size) = true) := by
    intro q
    rw [Bool.and_eq_true, Bool.and_eq_true] at q
    exact absurd (eq_of_beq q.1.2) (by decide)
  show wpAny _ _ (if (((items.size : Int) - 1) == 0 && (-1 : Int) == 1 && items.size == items.size) = true then _ else _) _ _ s
  rw [if_neg hno, pick_rev]
  first
    | exact wpAny_bind (m := Builtin.Tuple.tupleExact _) (wpAny_newObj_type (wpAny_pure ⟨_, rfl, wpAny_pure h⟩) htk)
    | exact wpAny_bind (m := Builtin.Tuple.tupleExact _) (wpAny_newObj_type (wpAny_bind (wpAny_pure (wpAny_pure ⟨_, rfl, wpAny_pure h⟩))) htk)
    | exact wpAny_bind (wpAny_bind (m := Builtin.Tuple.tupleExact _) (wpAny_newObj_type (wpAny_pure (wpAny_pure ⟨_, rfl, wpAny_pure h⟩)) htk))
    | exact wpAny_bind (wpAny_bind (m := Builtin.Tuple.tupleExact _) (wpAny_newObj_type (wpAny_pure ⟨_, rfl, wpAny_pure h⟩) htk))
end
section
variable {X : Cx}
def tRevA (K : PySem.W.Frag) (te : TE) : TE := fun σ H Q => te σ H fun x H1 => ∃ a xs, x = .ref a ∧ ((SqL K H1 a xs ∧ ∀ p, H1 p = none → Q (.ref p) (upd H1 p (.lst xs.reverse))) ∨ (SqT K H1 a xs ∧ ∀ p, H1 p = none → Q (.ref p) (upd H1 p (.tup xs.reverse))))
theorem pe_revA {e : Expr} {te : TE} {k : Nat} {p1 p2 p3 pos : Pos} (he : PE X e te) : PE X (.Subscript e (.Slice none none (some (.UnaryOp .USub (.Constant (.int 1) k p1) p2)) p3) pos) (tRevA X.K te) := by
  refine ⟨fun pins s σ H Q I hh => Subscript_ (thn (he.run pins s σ H _ I hh) fun v s1 ⟨x, H1, I1, r1, a, xs, ex, hx⟩ => ?_)⟩
  subst ex
  cases r1
  have hst : PO X (some (.UnaryOp .USub (.Constant (.int 1) k p1) p2)) (tPart (tUn (rU fun i => .int (-i)) (tC (.int 1)))) := po_some (pe_un un_neg pe_int)
  refine wpAny_Slice (thn (po_none.run pins s1 σ H1 (fun o G => o = none ∧ G = H1) I1 ⟨rfl, rfl⟩) fun va s2 ⟨l, H2, I2, pa, el, e2⟩ => ?_)
  subst el e2
  refine thn (po_none.run pins s2 σ H2 (fun o G => o = none ∧ G = H2) I2 ⟨rfl, rfl⟩) fun vb s3 ⟨u, H3, I3, pb, eu, e3⟩ => ?_
  subst eu e3
  refine thn (hst.run pins s3 σ H3 (fun o G => o = some (-1) ∧ G = H3) I3 ⟨1, rfl, -1, rfl, rfl, rfl⟩) fun vc s4 ⟨o, H4, I4, pc, eo, e4⟩ => ?_
  subst eo e4
  have I5 : Inv X pins σ H4 { s4 with heap := s4.heap.push { cls := .type "slice", data := .fields #[va, vb, vc] } } := I4.kept (t' := s4.toks) fun b ob q => Heap.get?_push_of_some _ q
  show wpAny (model X.prog X.w) X.A (subscriptTail e (.Slice none none (some (.UnaryOp .USub (.Constant (.int 1) k p1) p2)) p3) (.ref a) (.ref s4.heap.objs.size)) (EP X pins σ Q) X.xe { s4 with heap := s4.heap.push { cls := .type "slice", data := .fields #[va, vb, vc] } }
  rcases hx with ⟨hx, q⟩ | ⟨hx, q⟩
  · obtain ⟨its, r, ht, hz⟩ := I5.list hx
    have hlen := r.length
    refine tail_any (ops := [.ref a, .ref s4.heap.objs.size]) ht.isList.typeIs (PySem.slot_list_getitem.lookup) ?_ (by with_unfolding_all rfl)
    refine wpAny_getItem_list_slice ht.isList (Heap.IsSliceOf.new _ va vb vc) pa pb pc (by decide) ?_ (by rw [List.size_toArray]; omega)
    rw [PySem.W.krv_pick]
    refine ⟨.ref _, _, I5.laid (t' := s4.toks) (o := .lst xs.reverse) (fun b ob q => Heap.get?_push_of_some _ q) (Nat.le_refl _) ?_, rfl, q _ (I5.hok.fresh (Nat.le_refl _))⟩
    refine ⟨?_, _, 0, r.reverse, Heap.get?_push_size _ rfl⟩
    rw [List.length_reverse]; exact hz
  · obtain ⟨its, r, ht, hz⟩ := I5.tuple hx
    have hlen := r.length
    refine tail_any (ops := [.ref a, .ref s4.heap.objs.size]) ht.typeIs PyProof.Rows.slot_tuple_getitem.lookup ?_ (by with_unfolding_all rfl)
    refine get_tup_rev ht (Heap.IsSliceOf.new _ va vb vc) pa pb pc ?_ (by rw [List.size_toArray]; omega)
    refine ⟨.ref _, _, I5.laid (t' := s4.toks) (o := .tup xs.reverse) (fun b ob q => Heap.get?_push_of_some _ q) (Nat.le_refl _) ?_, rfl, q _ (I5.hok.fresh (Nat.le_refl _))⟩
    refine ⟨by rw [List.length_reverse]; exact hz, _, ?_, IsTup.new _ _⟩
    simpa using r.reverse
end
end Pv

/-! Pv, part J: built-in methods, isinstance. -/
namespace Pv
open PySem PySem.Spec PyProof.Rows L2
variable {AL : AlT}
section
variable {X : Cx} {T : Tab} {cl cm : CallT} {n : Nat} {fx : List Nat}
variable {K : PySem.W.Frag} {η : List V} {σ : L2.St} {H H1 H2 : Hp} {Z Z1 Z2 : Addr → Prop} {F Fe1 Fo1 Fe2 Fo2 : List Addr} {γ γ1 γ2 : L2.St} {ρ ρ1 ρ2 : Env}
/-! ### isinstance -/
theorem tyX {d : D} {v : V} {F : List Addr} {t : String} (r : Rep K η Z H d v F) (e : tyN d = some t) : TyX K H v (.type t) := by
  cases d with
  | non => obtain ⟨rfl, _⟩ := r; cases e; exact .base .non
  | bl b => obtain ⟨rfl, _⟩ := r; cases e; exact .base (.bl b)
  | int b => obtain ⟨rfl, _⟩ := r; cases e; exact .base (.int b)
  | str b => obtain ⟨rfl, _⟩ := r; cases e; exact .base (.str b)
  | tup l =>
    obtain ⟨a, vs, rfl, sq, _⟩ := r
    cases e
    rcases sq with (sq | ⟨o, sq⟩) | ⟨o, its, m, h1, h2, _⟩
    · exact .base (.tup sq)
    · exact .fTuple sq
    · exact .kTuple h1 h2
  | lst z l =>
    obtain ⟨a, vs, F', rfl, sq, _⟩ := r.lstI
    cases e
    rcases sq with (sq | ⟨o, sq⟩) | ⟨o, its, m, h1, h2, _⟩
    · exact .base (.lst sq)
    · exact .base (.frz sq)
    · exact .kList h1 h2
  | dk z ks l =>
    obtain ⟨a, vs, F', rfl, rd, _⟩ := r.dkI
    cases e
    rcases rd with sq | ⟨o, sq⟩
    · exact .base (.dK sq)
    · exact .fDict sq
  | dt => cases e
  | ins => cases e
  | glo => cases e
  | hole => cases e
theorem isTy_kit {d : D} {t : Ty} {b : Bool} (e : isTy d t = some b) : ∃ s, tyN d = some s ∧ kitB s (tyS t) = some b := by
  cases d <;> cases t <;> simp [isTy] at e <;> subst e <;> exact ⟨_, rfl, by decide +kernel⟩
theorem isAny_kit {d : D} : ∀ {ts : List Ty} {b : Bool} {s : String}, tyN d = some s → isAny d ts = some b → PySem.W.kitAny K (.type s) (ts.map fun t => Value.type (tyS t)) = some b
  | [], b, s, _, e => by cases e; rfl
  | t :: ts, b, s, hs, e => by
    unfold isAny at e
    split at e
    · rename_i b1 b2 h1 h2
      cases e
      obtain ⟨s', hs', hk⟩ := isTy_kit h1
      rw [hs] at hs'; cases hs'
      refine kitAny_cons (kit_ty hk) (fun hb => ?_) fun hb => ?_
      · subst hb
        simpa using isAny_kit hs h2
      · subst hb; simp
    · cases e
/-- the classes as values -/
def tA : List Ty → TA
  | [] => tNil
  | t :: ts => tCons (tC (.ty (tyS t))) (tA ts)
theorem tA_run : ∀ (ts : List Ty) {H : Hp} {Q : List V → Hp → Prop}, Q (ts.map fun t => V.ty (tyS t)) H → tA ts σ H Q
  | [], _, _, q => q
  | t :: ts, _, _, q => tA_run ts q
theorem isN {d : D} {ts : List Ty} {b : Bool} (h : ts ≠ []) (e : isAny d ts = some b) : ∃ s, tyN d = some s := by
  cases ts with
  | nil => exact absurd rfl h
  | cons t ts =>
    unfold isAny at e
    split at e
    · rename_i h1 _
      obtain ⟨s, hs, _⟩ := isTy_kit h1
      exact ⟨s, hs⟩
    · cases e
theorem isAny1 {d : D} {t : Ty} {b : Bool} (h : isAny d [t] = some b) : isTy d t = some b := by
  unfold isAny at h
  cases e : isTy d t with
  | none => simp [e] at h
  | some c => simp [e, isAny] at h; rw [h]
theorem clsAll : ∀ ts : List Ty, Paired ClsV (ts.map fun t => V.ty (tyS t)) (ts.map fun t => Value.type (tyS t))
  | [] => .nil
  | t :: ts => .cons (.ty _) (clsAll ts)
theorem re_isi1 {p pos : Pos} {a c : Expr} {ea : Ex} {t : Ty} (hg : Gl X "isinstance") (hm : X.mg "isinstance" = none) (ha : PE X a (RE T cl cm X.K n fx ea)) (hc : PE X c (tC (.ty (tyS t))))
    (he : starEach (a :: [c]) X.env = (false, eval a X.env) :: starEach [c] X.env) (he2 : starEach [c] X.env = (false, eval c X.env) :: starEach [] X.env) :
    PE X (.Call (.Name "isinstance" p) [a, c] [] pos) (RE T cl cm X.K n fx (.isi ea false [t])) := by
  refine (pe_callB call_isi hg hm (by decide +kernel) (pa_cons ha (pa_cons hc pa_nil he2) he) (by decide) (by decide) he (by rw [he2]; rfl)).imp fun σ H Q h => ?_
  obtain ⟨ρ, η, γ, Z, F, hn, rs, w, o, ρ', ev, q⟩ := h
  simp only [evalO] at ev
  obtain ⟨x, ρ1, e1, e2⟩ := Res.bind_ok ev
  refine ⟨ρ, η, γ, Z, F, hn, rs, w, x, ρ1, e1, fun v H1 Z1 γ1 Fe1 Fo1 p1 od1 pu1 => ?_⟩
  obtain ⟨h1, h2⟩ := Res.of_ok e2
  obtain ⟨d, hd, hb0⟩ := Option.bind_eq_some_iff.mp h1
  obtain ⟨b, hb, rfl⟩ := Option.map_eq_some_iff.mp hb0
  subst h2
  obtain ⟨Fx, rx, hx⟩ := od1.use (ρ2 := ρ1) (b := true) (Same.keeps (Same.refl _)) p1.rep od_self (fun _ => Same.refl _) hd
  obtain ⟨s, hs⟩ := isN (by simp) hb
  have hk := isAny_kit (K := X.K) hs hb
  refine ⟨v, .ty (tyS t), .type s, .type (tyS t), b, rfl, .ty _, tyX rx hs, ?_, ?_⟩
  · have : isTy d t = some b := isAny1 hb
    obtain ⟨s', hs', hk'⟩ := isTy_kit this
    rw [hs] at hs'; cases hs'
    exact kit_ty hk'
  · exact q _ H1 Z1 γ1 Fe1 [] (p1.sub (List.nil_sublist _)) ⟨rfl, rfl⟩ (by simpa [Ex.pur] using pu1)
theorem re_isiN {p pos : Pos} {a c : Expr} {ea : Ex} {ts : List Ty} (hts : ts ≠ []) (hl : ts.length ≤ 1000) (hg : Gl X "isinstance") (hm : X.mg "isinstance" = none) (ha : PE X a (RE T cl cm X.K n fx ea)) (hc : PE X c (tTup (tA ts)))
    (he : starEach (a :: [c]) X.env = (false, eval a X.env) :: starEach [c] X.env) (he2 : starEach [c] X.env = (false, eval c X.env) :: starEach [] X.env) :
    PE X (.Call (.Name "isinstance" p) [a, c] [] pos) (RE T cl cm X.K n fx (.isi ea true ts)) := by
  refine (pe_callB call_isiT hg hm (by decide +kernel) (pa_cons ha (pa_cons hc pa_nil he2) he) (by decide) (by decide) he (by rw [he2]; rfl)).imp fun σ H Q h => ?_
  obtain ⟨ρ, η, γ, Z, F, hn, rs, w, o, ρ', ev, q⟩ := h
  simp only [evalO] at ev
  obtain ⟨x, ρ1, e1, e2⟩ := Res.bind_ok ev
  refine ⟨ρ, η, γ, Z, F, hn, rs, w, x, ρ1, e1, fun v H1 Z1 γ1 Fe1 Fo1 p1 od1 pu1 => ?_⟩
  obtain ⟨h1, h2⟩ := Res.of_ok e2
  obtain ⟨d, hd, hb0⟩ := Option.bind_eq_some_iff.mp h1
  obtain ⟨b, hb, rfl⟩ := Option.map_eq_some_iff.mp hb0
  subst h2
  refine tA_run ts ⟨by simpa using lineT hl, fun tp htp => ?_⟩
  have p2 := p1.ext (o := .tup (ts.map fun t => V.ty (tyS t))) htp
  have od2 : OdR X.K η Z1 (upd H1 tp (.tup (ts.map fun t => V.ty (tyS t)))) σ x v Fo1 := od1.later (b := true) (Same.keeps (Same.new htp)) od_self (fun _ => Same.new htp)
  obtain ⟨Fx, rx, hx⟩ := od2.use (ρ2 := ρ1) (b := true) (Same.keeps (Same.refl _)) p2.rep od_self (fun _ => Same.refl _) hd
  obtain ⟨s, hs⟩ := isN hts hb
  refine ⟨v, tp, _, .type s, _, b, rfl, upd_same, clsAll ts, tyX rx hs, isAny_kit hs hb, ?_⟩
  exact q _ _ Z1 γ1 Fe1 [] (p2.sub (List.nil_sublist _)) ⟨rfl, rfl⟩ fun pu => ⟨(pu1 (by simpa [Ex.pur] using pu)).1.trans (Same.new htp), (pu1 (by simpa [Ex.pur] using pu)).2⟩

/-! ### methods -/
theorem tyL {z : Bool} {l : List D} {v : V} {F : List Addr} (r : Rep K η Z H (.lst z l) v F) : tyV K "list" v H := by
  obtain ⟨a, vs, F', rfl, sq, _⟩ := r.lstI
  exact .inl ⟨rfl, vs, sq⟩
theorem tyStr {x : Str} {v : V} {F : List Addr} (r : Rep K η Z H (.str x) v F) : tyV K "str" v H := by
  obtain ⟨rfl, _⟩ := r
  rfl
/-- a method that changes nothing -/
theorem RE.bmP {Ts : String} {b : Bm} {eo : Ex} {l : List Ex} {Q : VK} {ρ' : Env} {o : Od} (hp : b.isP = true) (hn : σ.length = n ∧ ρ.nl = η.length) (rs : RepE T.al K η Z H ρ σ γ F) (w : WF H Z F)
    (ht : ∀ {d v Z H F}, bmTy b d = true → Rep K η Z H d v F → tyV K Ts v H)
    (ev : evalO T cl cm (.bm b eo l) fx ρ = .ok o ρ')
    (q : ∀ v H' Z' γ' Fe Fo, Pst T.al K η σ fx H Z F γ H' Z' γ' ρ' Fe Fo → OdR K η Z' H' σ o v Fo → Q v H') :
    tBM K Ts (RMp K (bmP b)) (RE T cl cm K n fx eo) (RA T cl cm K n fx l) σ H Q := by
  simp only [evalO] at ev
  obtain ⟨x, ρ1, e1, e2⟩ := Res.bind_ok ev
  refine ⟨ρ, η, γ, Z, F, hn, rs, w, x, ρ1, e1, fun v H1 Z1 γ1 Fe1 Fo1 p1 od1 pu1 => ?_⟩
  split at e2
  · rename_i d0 hd0
    split at e2
    · rename_i hty
      obtain ⟨F0, r0, _⟩ := od1.use (ρ2 := ρ1) (b := true) (Same.keeps (Same.refl _)) p1.rep od_self (fun _ => Same.refl _) hd0
      refine ⟨ht hty r0, ?_⟩
      obtain ⟨os, ρ2, e3, e4⟩ := Res.bind_ok e2
      refine ⟨ρ1, η, γ1, Z1, Fe1, ⟨hn.1, p1.nl⟩, p1.rep, p1.wf, os, ρ2, e3, fun vs H2 Z2 γ2 Fe2 Fo2 p2 od2 pu2 => ?_⟩
      split at e4
      · rename_i hk
        split at e4
        · rename_i d hd
          try simp only [hp, if_true] at e4
          split at e4
          · rename_i ds hds
            obtain ⟨Fx, rx, hx⟩ := od1.use (ρ2 := ρ2) (b := purL l) (p1.keeps p2) p2.rep hk (fun z => (pu2 z).1) hd
            obtain ⟨h1, h2⟩ := Res.of_ok e4
            obtain ⟨c, hc, rfl⟩ := Option.map_eq_some_iff.mp h1
            subst h2
            refine ⟨η, Z2, Fx, d, ds, c, rx, od2.rdAll p2.rep hds, hc, fun r H' Fn s rr nd fr => ?_⟩
            exact q r H' Z2 γ2 Fe2 Fn ((p1.seq p2).new s nd fr rr.pm) rr
          · cases e4
        · cases e4
      · cases e4
    · cases e2
  · cases e2
theorem putP_nl {ρ : Env} {r : Nat} {q : List Stp} {d : D} : (putP ρ r q d).nl = ρ.nl := by
  unfold putP
  split
  · split <;> rfl
  · rfl
/-- the thing at a place is changed -/
theorem Pst.mut {c d d' : D} {kc : Nat → List Stp → Bool} {v0 x w : V} {r : Nat} {q : List Stp} {A B Fx F' Fc Fs : List Addr} {H' : Hp} (p : Pst AL K η σ fx H Z F γ H1 Z1 γ1 ρ1 Fe1 Fs) (he : Fe1 = A ++ Fx ++ B)
    (k : ∀ kc Z' H' d' F1', Keeps Z1 Z' H1 H' (A ++ B) → Rep K η Z' H' d' x F1' → PathsOk kc r q d d' x H1 H' → RepE AL K η Z' H' (killE AL kc (putP ρ1 r q d')) σ γ1 (A ++ F1' ++ B)) (pk : PathsOk kc r q d d' x H1 H')
    (hk : ∀ a o, H1 a = some o → a ∉ Fx → H' a = some o) (r' : Rep K η Z1 H' d' x F') (rc : Rep K η Z1 H' c w Fc) (nd : (F' ++ Fc).Nodup) (sub : ∀ a ∈ F' ++ Fc, a ∈ Fx ++ Fs) :
    Pst AL K η σ fx H Z F γ H' Z1 γ1 (killE AL kc (putP ρ1 r q d')) (A ++ F' ++ B) Fc := by
  subst he
  have wf := p.wf2
  have nd0 := wf.nd
  have nd1 : (A ++ B ++ (Fx ++ Fs)).Nodup := by
    refine (List.Perm.nodup_iff ?_).mp nd0
    have : (A ++ Fx ++ B ++ Fs).Perm (A ++ (B ++ Fx) ++ Fs) := by
      rw [List.append_assoc A Fx B]
      exact (List.Perm.append_left A List.perm_append_comm).append_right Fs
    simpa [List.append_assoc] using this
  have ap : ∀ a ∈ A ++ B, a ∉ Fx ++ Fs := fun a m g => (List.nodup_append.mp nd1).2.2 a m a g rfl
  have kp : Keeps Z1 Z1 H1 H' (A ++ B) := ⟨fun a m o e => hk a o e fun z => ap a m (List.mem_append_left _ z), fun a o z e => hk a o e fun m => wf.dz a (by simp [m]) z, fun a o e n => hk a o e fun m => by
    obtain ⟨u, e', p'⟩ := wf.pm a (by simp [m])
    rw [e] at e'; cases e'; exact n p', fun _ z => z⟩
  refine ⟨p.evo.trans (Evo.op wf (fun a o e m => hk a o e fun z => m (by simp [z])) (fun a m => ?_) ?_ fun a m => ?_), p.gl, p.fx, k kc Z1 H' d' F' kp r' pk, by rw [killE_nl, putP_nl]; exact p.nl⟩
  · simp only [List.mem_append] at m ⊢
    have hs : a ∈ F' ∨ a ∈ Fc → a ∈ Fx ∨ a ∈ Fs := fun z => by simpa using sub a (by simpa using z)
    rcases m with ((m | m) | m) | m
    · exact .inl (.inl (.inl m))
    · exact (hs (.inl m)).elim (fun z => .inl (.inl (.inr z))) .inr
    · exact .inl (.inr m)
    · exact (hs (.inr m)).elim (fun z => .inl (.inl (.inr z))) .inr
  · have : ((A ++ B) ++ (F' ++ Fc)).Nodup := List.nodup_append.mpr ⟨(List.nodup_append.mp nd1).1, nd, fun a m b g e => ap a m (sub a (e ▸ g))⟩
    refine (List.Perm.nodup_iff ?_).mp this
    have : (A ++ B ++ (F' ++ Fc)).Perm (A ++ (F' ++ B) ++ Fc) := by
      rw [← List.append_assoc (A ++ B) F' Fc, List.append_assoc A B F']
      exact (List.Perm.append_left A List.perm_append_comm).append_right Fc
    simpa [List.append_assoc] using this
  · simp only [List.mem_append] at m
    rcases m with ((m | m) | m) | m
    · obtain ⟨o, e, p'⟩ := wf.pm a (by simp [m])
      exact ⟨o, kp.own a (by simp [m]) o e, p'⟩
    · exact r'.pm a m
    · obtain ⟨o, e, p'⟩ := wf.pm a (by simp [m])
      exact ⟨o, kp.own a (by simp [m]) o e, p'⟩
    · exact rc.pm a m
/-- a place: the thing there, whole -/
theorem OdR.place {r : Nat} {q : List Stp} {v : V} {d : D} {b : Bool} {F1 : List Addr} (h : OdR K η Z1 H1 σ (.p r q) v F1) (r2 : RepE AL K η Z2 H2 ρ2 σ γ2 Fe2) (hb : (Od.p r q).okb b = true) (hp : b = true → Same H1 H2) (e : getP ρ2 r q = some d) :
    ∃ A Fx B, Fe2 = A ++ Fx ++ B ∧ Rep K η Z2 H2 d v Fx ∧ ∀ kc Z' H' d' F1', Keeps Z2 Z' H2 H' (A ++ B) → Rep K η Z' H' d' v F1' → PathsOk kc r q d d' v H2 H' → RepE AL K η Z' H' (killE AL kc (putP ρ2 r q d')) σ γ2 (A ++ F1' ++ B) := by
  obtain ⟨rfl, v0, h1, h2⟩ := h
  obtain ⟨v0', v', A, Fx, B, g1, g2, g3, g4, g5⟩ := r2.put e
  have hr : r < σ.length := (List.getElem?_eq_some_iff.mp h1).1
  rw [List.getElem?_append_left hr, h1] at g1
  cases g1
  have h5 : Wk H2 v0 q v := by
    cases q with
    | nil => exact h2
    | cons s q => exact Wk.same (hp (by simpa [Od.okb] using hb)) h2
  cases g2.inj h5
  exact ⟨A, Fx, B, g3, g4, g5⟩
/-- a method that changes its thing -/
theorem RE.bmD {Ts : String} {b : Bm} {eo : Ex} {l : List Ex} {Q : VK} {ρ' : Env} {o : Od} (hp : b.isP = false) (hn : σ.length = n ∧ ρ.nl = η.length) (rs : RepE T.al K η Z H ρ σ γ F) (w : WF H Z F)
    (ht : ∀ {d v Z H F}, bmTy b d = true → Rep K η Z H d v F → tyV K Ts v H)
    (ev : evalO T cl cm (.bm b eo l) fx ρ = .ok o ρ')
    (q : ∀ v H' Z' γ' Fe Fo, Pst T.al K η σ fx H Z F γ H' Z' γ' ρ' Fe Fo → OdR K η Z' H' σ o v Fo → Q v H') :
    tBM K Ts (RMd K (bmD b)) (RE T cl cm K n fx eo) (RA T cl cm K n fx l) σ H Q := by
  simp only [evalO] at ev
  obtain ⟨x, ρ1, e1, e2⟩ := Res.bind_ok ev
  refine ⟨ρ, η, γ, Z, F, hn, rs, w, x, ρ1, e1, fun v H1 Z1 γ1 Fe1 Fo1 p1 od1 pu1 => ?_⟩
  split at e2
  · rename_i d0 hd0
    split at e2
    · rename_i hty
      obtain ⟨F0, r0, _⟩ := od1.use (ρ2 := ρ1) (b := true) (Same.keeps (Same.refl _)) p1.rep od_self (fun _ => Same.refl _) hd0
      refine ⟨ht hty r0, ?_⟩
      obtain ⟨os, ρ2, e3, e4⟩ := Res.bind_ok e2
      refine ⟨ρ1, η, γ1, Z1, Fe1, ⟨hn.1, p1.nl⟩, p1.rep, p1.wf, os, ρ2, e3, fun vs H2 Z2 γ2 Fe2 Fo2 p2 od2 pu2 => ?_⟩
      split at e4
      · rename_i hk
        split at e4
        · rename_i d hd
          simp only [hp, Bool.false_eq_true, if_false] at e4
          split at e4
          · rename_i r q' ds hds _
            split at e4
            · rename_i e d' hbd
              cases e4
              obtain ⟨A, Fx, B, hA, rx, kx⟩ := od1.place p2.rep hk (fun z => (pu2 z).1) hd
              have h0 : Fo1 = [] := od1.1
              subst h0
              have ps := p1.seq p2
              rw [List.append_nil] at ps
              have wx : WF H2 Z2 (Fx ++ Fo2) := p2.wf2.sublist (by
                rw [hA]
                exact List.Sublist.append sub3 (List.Sublist.refl _))
              refine ⟨η, Z2, Fx, Fo2, d, ds, e, d', rx, od2.allV hds, wx, hbd, fun v' H' F' Fc hkp r' rc nd sub => ?_⟩
              exact q v' H' Z2 γ2 _ Fc (Pst.mut (v0 := v') ps hA kx PathsOk.below hkp r' rc nd sub) rc
            · cases e4
          · cases e4
        · cases e4
      · cases e4
    · cases e2
  · cases e2
/-! ### list(range(..)), xs[::-1] -/
theorem rgV_ints (a b : Int) : rgV a b = (rgI a b).map V.int := by simp [rgV, rgI]
theorem re_rgl (hc : X.calm = true) (hg : Gl X "list") (hm : X.mg "list" = none) (hg2 : Gl X "range") (hm2 : X.mg "range" = none) {a : Expr} {ea : Ex} {p p2 pos pos2 : Pos} (ha : PE X a (RE T cl cm X.K n fx ea)) (na : starEach [a] X.env = (false, eval a X.env) :: starEach [] X.env) :
    PE X (.Call (.Name "list" p) [.Call (.Name "range" p2) [a] [] pos2] [] pos) (RE T cl cm X.K n fx (.rgl ea)) := by
  refine (pe_listRg hc hg hm (prg_1 hg2 hm2 ha na)).imp fun σ H Q h => ?_
  obtain ⟨ρ, η, γ, Z, F, hn, rs, w, o, ρ', ev, q⟩ := h
  simp only [evalO] at ev
  obtain ⟨x, ρ1, e1, e2⟩ := Res.bind_ok ev
  refine ⟨ρ, η, γ, Z, F, hn, rs, w, x, ρ1, e1, fun v H' Z' γ' Fe Fo p od pu => ?_⟩
  split at e2
  · rename_i j
    split at e2
    · rename_i hj
      cases e2
      obtain ⟨rfl, rfl⟩ := od
      refine ⟨j, rfl, ⟨by omega, by omega, by omega, by omega, by omega⟩, fun a ha => ?_⟩
      rw [rgV_ints]
      exact q (.ref a) _ Z' γ' Fe [a] (p.extO ha trivial) ⟨a, _, [], rfl, (Reps.ints (rgI 0 j)).keep (Same.keeps (Same.new ha) (G := [])) (fun _ m => m), upd_same, rfl⟩ fun pu' => by simp [Ex.pur] at pu'
    · cases e2
  · cases e2
theorem re_rg2 (hc : X.calm = true) (hg : Gl X "list") (hm : X.mg "list" = none) (hg2 : Gl X "range") (hm2 : X.mg "range" = none) {a b : Expr} {ea eb : Ex} {p p2 pos pos2 : Pos} (ha : PE X a (RE T cl cm X.K n fx ea)) (hb : PE X b (RE T cl cm X.K n fx eb))
    (na : starEach [a, b] X.env = (false, eval a X.env) :: starEach [b] X.env) (nb : starEach [b] X.env = (false, eval b X.env) :: starEach [] X.env) (hp : (backTo pos2 (starEach [b] X.env)).any (·.1) = false) :
    PE X (.Call (.Name "list" p) [.Call (.Name "range" p2) [a, b] [] pos2] [] pos) (RE T cl cm X.K n fx (.rg2 ea eb)) := by
  refine (pe_listRg hc hg hm (prg_2 hg2 hm2 ha hb na nb hp)).imp fun σ H Q h => ?_
  obtain ⟨ρ, η, γ, Z, F, hn, rs, w, o, ρ', ev, q⟩ := h
  simp only [evalO] at ev
  obtain ⟨x, ρ1, e1, e2⟩ := Res.bind_ok ev
  obtain ⟨y, ρ2, e3, e4⟩ := Res.bind_ok e2
  refine ⟨ρ, η, γ, Z, F, hn, rs, w, x, ρ1, e1, fun v H1 Z1 γ1 Fe1 Fo1 p1 od1 _ => ?_⟩
  refine ⟨ρ1, η, γ1, Z1, Fe1, ⟨hn.1, p1.nl⟩, p1.rep, p1.wf, y, ρ2, e3, fun u H2 Z2 γ2 Fe2 Fo2 p2 od2 _ => ?_⟩
  split at e4
  · rename_i i j
    split at e4
    · rename_i hj
      cases e4
      obtain ⟨rfl, rfl⟩ := od1
      obtain ⟨rfl, rfl⟩ := od2
      refine ⟨i, j, rfl, rfl, ⟨by omega, by omega, by omega, by omega, by omega⟩, fun a ha => ?_⟩
      rw [rgV_ints]
      have ps := (p1.seq p2)
      simp only [List.append_nil] at ps
      exact q (.ref a) _ Z2 γ2 Fe2 [a] (ps.extO ha trivial) ⟨a, _, [], rfl, (Reps.ints (rgI i j)).keep (Same.keeps (Same.new ha) (G := [])) (fun _ m => m), upd_same, rfl⟩ fun pu' => by simp [Ex.pur] at pu'
    · cases e4
  · cases e4
theorem Reps.rev : ∀ {l : List D} {vs : List V}, Reps K η Z H l vs [] → Reps K η Z H l.reverse vs.reverse []
  | [], _, h => by obtain ⟨rfl, _⟩ := h; exact ⟨rfl, rfl⟩
  | d :: l, _, h => by
    obtain ⟨v, vs', F1, F2, rfl, h1, h2, e⟩ := h
    obtain ⟨rfl, rfl⟩ : F1 = [] ∧ F2 = [] := by simpa using e.symm
    rw [List.reverse_cons, List.reverse_cons]
    exact Reps.append (F := []) (G := []) (Reps.rev h2) ⟨v, [], [], [], rfl, h1, ⟨rfl, rfl⟩, rfl⟩
theorem re_rev {e : Expr} {ee : Ex} {k : Nat} {p1 p2 p3 pos : Pos} (he : PE X e (RE T cl cm X.K n fx ee)) : PE X (.Subscript e (.Slice none none (some (.UnaryOp .USub (.Constant (.int 1) k p1) p2)) p3) pos) (RE T cl cm X.K n fx (.rev ee)) := by
  refine (pe_revA he).imp fun σ H Q h => ?_
  obtain ⟨ρ, η, γ, Z, F, hn, rs, w, o, ρ', ev, q⟩ := h
  simp only [evalO] at ev
  obtain ⟨x, ρ1, e1, e2⟩ := Res.bind_ok ev
  refine ⟨ρ, η, γ, Z, F, hn, rs, w, x, ρ1, e1, fun v H' Z' γ' Fe Fo p od pu => ?_⟩
  obtain ⟨h1, h2⟩ := Res.of_ok e2
  obtain ⟨c, hc, rfl⟩ := Option.map_eq_some_iff.mp h1
  obtain ⟨d, hd, hr⟩ := Option.bind_eq_some_iff.mp hc
  subst h2
  obtain ⟨F1, r1, _⟩ := od.use (ρ2 := ρ1) (b := true) (Same.keeps (Same.refl _)) p.rep od_self (fun _ => Same.refl _) hd
  unfold revD at hr
  split at hr
  · rename_i z l
    split at hr
    · rename_i hi
      cases hr
      obtain ⟨a, vs, F', rfl, sq, r2, _⟩ := r1.lstI
      have := Reps.imm r2 hi
      subst this
      refine ⟨a, vs, rfl, .inl ⟨sq, fun b hb => ?_⟩⟩
      have ps := p.sub (List.nil_sublist _)
      exact q (.ref b) _ Z' γ' Fe [b] (ps.extO hb trivial) ⟨b, _, [], rfl, (Reps.rev r2).keep (Same.keeps (Same.new hb) (G := [])) (fun _ m => m), upd_same, rfl⟩ fun pu' => by simp [Ex.pur] at pu'
    · cases hr
  · rename_i l
    split at hr
    · rename_i hi
      cases hr
      obtain ⟨a, vs, rfl, sq, r2⟩ := r1.tupI
      have := Reps.imm r2 hi
      subst this
      refine ⟨a, vs, rfl, .inr ⟨sq, fun b hb => ?_⟩⟩
      have ps := p.sub (List.nil_sublist _)
      exact q (.ref b) _ Z' γ' Fe [] (ps.ext hb) ⟨b, _, rfl, .inl (.inl upd_same), (Reps.rev r2).keep (Same.keeps (Same.new hb) (G := [])) (fun _ m => m)⟩ fun pu' => by simp [Ex.pur] at pu'
    · cases hr
  · cases hr
end
end Pv

/-! Pv, part K: holes, read-only copies, places put back. -/
namespace Pv
open PySem L2
mutual
/-- its holes are below n -/
def D.hb (n : Nat) : D → Bool
  | .tup l => hbL n l
  | .lst z l => z || hbL n l
  | .dk z _ l => z || hbL n l
  | .dt z _ l => z || hbL n l
  | .ins z _ _ l => z || hbL n l
  | .hole i => decide (i < n)
  | .non => true
  | .bl _ => true
  | .int _ => true
  | .str _ => true
  | .glo _ => true
def hbL (n : Nat) : List D → Bool
  | [] => true
  | d :: r => d.hb n && hbL n r
end
theorem hbL_mem {n : Nat} : ∀ {l : List D}, hbL n l = true ↔ ∀ d ∈ l, d.hb n = true
  | [] => by simp [hbL]
  | a :: l => by simp [hbL, hbL_mem (l := l)]
mutual
theorem noh_hb {n : Nat} : ∀ (d : D), d.noh = true → d.hb n = true
  | .tup l, h => by simpa [D.hb] using nohL_hb l (by simpa [D.noh] using h)
  | .lst z l, h => by
    cases z
    · simpa [D.hb] using nohL_hb l (by simpa [D.noh] using h)
    · simp [D.hb]
  | .dk z _ l, h => by
    cases z
    · simpa [D.hb] using nohL_hb l (by simpa [D.noh] using h)
    · simp [D.hb]
  | .dt z _ l, h => by
    cases z
    · simpa [D.hb] using nohL_hb l (by simpa [D.noh] using h)
    · simp [D.hb]
  | .ins z _ _ l, h => by
    cases z
    · simpa [D.hb] using nohL_hb l (by simpa [D.noh] using h)
    · simp [D.hb]
  | .hole _, h => by simp [D.noh] at h
  | .non, _ => by simp [D.hb]
  | .bl _, _ => by simp [D.hb]
  | .int _, _ => by simp [D.hb]
  | .str _, _ => by simp [D.hb]
  | .glo _, _ => by simp [D.hb]
theorem nohL_hb {n : Nat} : ∀ (l : List D), nohL l = true → hbL n l = true
  | [], _ => by simp [hbL]
  | d :: r, h => by
    have h' : d.noh = true ∧ nohL r = true := by simpa [nohL] using h
    simp [hbL, noh_hb d h'.1, nohL_hb r h'.2]
end
mutual
theorem hb_noh : ∀ (d : D), d.hb 0 = true → d.noh = true
  | .tup l, h => by simpa [D.noh] using hbL_noh l (by simpa [D.hb] using h)
  | .lst z l, h => by
    cases z
    · simpa [D.noh] using hbL_noh l (by simpa [D.hb] using h)
    · simp [D.noh]
  | .dk z _ l, h => by
    cases z
    · simpa [D.noh] using hbL_noh l (by simpa [D.hb] using h)
    · simp [D.noh]
  | .dt z _ l, h => by
    cases z
    · simpa [D.noh] using hbL_noh l (by simpa [D.hb] using h)
    · simp [D.noh]
  | .ins z _ _ l, h => by
    cases z
    · simpa [D.noh] using hbL_noh l (by simpa [D.hb] using h)
    · simp [D.noh]
  | .hole _, h => by simp [D.hb] at h
  | .non, _ => by simp [D.noh]
  | .bl _, _ => by simp [D.noh]
  | .int _, _ => by simp [D.noh]
  | .str _, _ => by simp [D.noh]
  | .glo _, _ => by simp [D.noh]
theorem hbL_noh : ∀ (l : List D), hbL 0 l = true → nohL l = true
  | [], _ => by simp [nohL]
  | d :: r, h => by
    have h' : d.hb 0 = true ∧ hbL 0 r = true := by simpa [hbL] using h
    simp [nohL, hb_noh d h'.1, hbL_noh r h'.2]
end
mutual
theorem noh_ro : ∀ (d : D), d.noh = true → d.ro.noh = true
  | .tup l, h => by simpa [D.noh, D.ro] using nohL_ro l (by simpa [D.noh] using h)
  | .lst _ l, h => by simp [D.ro, D.noh]
  | .dk _ _ l, h => by simp [D.ro, D.noh]
  | .dt _ _ l, h => by simp [D.ro, D.noh]
  | .ins _ _ _ l, h => by simp [D.ro, D.noh]
  | .hole _, h => by simp [D.noh] at h
  | .non, _ => by simp [D.ro, D.noh]
  | .bl _, _ => by simp [D.ro, D.noh]
  | .int _, _ => by simp [D.ro, D.noh]
  | .str _, _ => by simp [D.ro, D.noh]
  | .glo _, _ => by simp [D.ro, D.noh]
theorem nohL_ro : ∀ (l : List D), nohL l = true → nohL (roL l) = true
  | [], _ => by simp [roL, nohL]
  | d :: r, h => by
    have h' : d.noh = true ∧ nohL r = true := by simpa [nohL] using h
    simp [roL, nohL, noh_ro d h'.1, nohL_ro r h'.2]
end
section
variable {K : PySem.W.Frag} {η η' : List V} {Z Z' : Addr → Prop} {H : Hp}
mutual
theorem Rep.hb : ∀ {d : D} {v : V} {F : List Addr}, Rep K η Z H d v F → d.hb η.length = true
  | .tup l, _, _, h => by
    obtain ⟨_, _, _, _, h2⟩ := h
    simpa [D.hb] using Reps.hb h2
  | .lst z l, _, _, h => by
    obtain ⟨_, _, _, _, h2, _⟩ := h
    cases z <;> simp [D.hb, Reps.hb h2]
  | .dk z _ l, _, _, h => by
    obtain ⟨_, _, _, _, h2, _⟩ := h
    cases z <;> simp [D.hb, Reps.hb h2]
  | .dt z _ l, _, _, h => by
    obtain ⟨_, _, _, _, h2, _⟩ := h
    cases z <;> simp [D.hb, Reps.hb h2]
  | .ins z _ _ l, _, _, h => by
    obtain ⟨_, _, _, _, _, h2, _⟩ := h
    cases z <;> simp [D.hb, Reps.hb h2]
  | .hole i, _, _, h => by
    obtain ⟨e, _⟩ := h
    simpa [D.hb] using (List.getElem?_eq_some_iff.mp e).1
  | .non, _, _, _ => by simp [D.hb]
  | .bl _, _, _, _ => by simp [D.hb]
  | .int _, _, _, _ => by simp [D.hb]
  | .str _, _, _, _ => by simp [D.hb]
  | .glo _, _, _, _ => by simp [D.hb]
theorem Reps.hb : ∀ {l : List D} {v : List V} {F : List Addr}, Reps K η Z H l v F → hbL η.length l = true
  | [], _, _, _ => by simp [hbL]
  | d :: r, _, _, h => by
    obtain ⟨_, _, _, _, _, h1, h2, _⟩ := h
    simp [hbL, Rep.hb h1, Reps.hb h2]
end
mutual
theorem Rep.eta {m : Nat} (q : ∀ i, i < m → η'[i]? = η[i]?) : ∀ {d : D} {v : V} {F : List Addr}, Rep K η Z H d v F → d.hb m = true → Rep K η' Z H d v F
  | .tup l, _, _, h, e => by
    obtain ⟨a, vs, h0, h1, h2⟩ := h
    exact ⟨a, vs, h0, h1, Reps.eta q h2 (by simpa [D.hb] using e)⟩
  | .lst z l, _, _, h, e => by
    obtain ⟨a, vs, F', h0, h1, h2⟩ := h
    cases z with
    | false => exact ⟨a, vs, F', h0, Reps.eta q h1 (by simpa [D.hb] using e), h2⟩
    | true => exact ⟨a, vs, F', h0, Reps.eta q h1 (nohL_hb l h2.2.2.2), h2⟩
  | .dk z _ l, _, _, h, e => by
    obtain ⟨a, vs, F', h0, h1, h3, h4, h2⟩ := h
    cases z with
    | false => exact ⟨a, vs, F', h0, Reps.eta q h1 (by simpa [D.hb] using e), h3, h4, h2⟩
    | true => exact ⟨a, vs, F', h0, Reps.eta q h1 (nohL_hb l h2.2.2.2), h3, h4, h2⟩
  | .dt z _ l, _, _, h, e => by
    obtain ⟨a, vs, F', h0, h1, h3, h4, h2⟩ := h
    cases z with
    | false => exact ⟨a, vs, F', h0, Reps.eta q h1 (by simpa [D.hb] using e), h3, h4, h2⟩
    | true => exact ⟨a, vs, F', h0, Reps.eta q h1 (nohL_hb l h2.2.2.2), h3, h4, h2⟩
  | .ins z _ _ l, _, _, h, e => by
    obtain ⟨a, dx, vs, F', h0, h1, h3, h4, h2⟩ := h
    cases z with
    | false => exact ⟨a, dx, vs, F', h0, Reps.eta q h1 (by simpa [D.hb] using e), h3, h4, h2⟩
    | true => exact ⟨a, dx, vs, F', h0, Reps.eta q h1 (nohL_hb l h2.2.2.2), h3, h4, h2⟩
  | .hole i, _, _, h, e => by
    have : i < m := by simpa [D.hb] using e
    exact ⟨(q i this).trans h.1, h.2⟩
  | .non, _, _, h, _ => h
  | .bl _, _, _, h, _ => h
  | .int _, _, _, h, _ => h
  | .str _, _, _, h, _ => h
  | .glo _, _, _, h, _ => h
theorem Reps.eta {m : Nat} (q : ∀ i, i < m → η'[i]? = η[i]?) : ∀ {l : List D} {v : List V} {F : List Addr}, Reps K η Z H l v F → hbL m l = true → Reps K η' Z H l v F
  | [], _, _, h, _ => h
  | d :: r, _, _, h, e => by
    obtain ⟨v, vs, F1, F2, e0, h1, h2, e1⟩ := h
    have e' : d.hb m = true ∧ hbL m r = true := by simpa [hbL] using e
    exact ⟨v, vs, F1, F2, e0, Rep.eta q h1 e'.1, Reps.eta q h2 e'.2, e1⟩
end
theorem RdZ.mono (s : ∀ a, Z a → Z' a) {a : Addr} {u : HO} (r : RdZ Z H a u) : RdZ Z' H a u := r.imp (fun z => ⟨z.1, s a z.2⟩) id
theorem RoL.mono (s : ∀ a, Z a → Z' a) {a : Addr} {xs : List V} (r : RoL K Z H a xs) : RoL K Z' H a xs := r.imp (fun z => z.mono s) id
mutual
/-- a copy that may only be read -/
theorem Rep.ro (s : ∀ a, Z a → Z' a) : ∀ {d : D} {v : V} {F : List Addr}, Rep K η Z H d v F → d.noh = true → (∀ a ∈ F, Z' a) → Rep K [] Z' H d.ro v []
  | .tup l, _, _, h, e, m => by
    obtain ⟨a, vs, h0, h1, h2⟩ := h
    exact ⟨a, vs, h0, h1, Reps.ro s h2 (by simpa [D.noh] using e) m⟩
  | .lst z l, _, _, h, e, m => by
    obtain ⟨a, vs, F', h0, h1, h2⟩ := h
    cases z with
    | false =>
      obtain ⟨h3, rfl⟩ := h2
      have e' : nohL l = true := by simpa [D.noh] using e
      exact ⟨a, vs, [], h0, Reps.ro s h1 e' (fun b q => m b (List.mem_cons_of_mem _ q)), .inl (.inl ⟨h3, m a List.mem_cons_self⟩), rfl, rfl, nohL_ro l e'⟩
    | true =>
      obtain ⟨h3, rfl, rfl, e'⟩ := h2
      exact ⟨a, vs, [], h0, Reps.ro s h1 e' m, h3.mono s, rfl, rfl, nohL_ro l e'⟩
  | .dk z _ l, _, _, h, e, m => by
    obtain ⟨a, vs, F', h0, h1, hl, hn, h2⟩ := h
    cases z with
    | false =>
      obtain ⟨h3, rfl⟩ := h2
      have e' : nohL l = true := by simpa [D.noh] using e
      exact ⟨a, vs, [], h0, Reps.ro s h1 e' (fun b q => m b (List.mem_cons_of_mem _ q)), hl, hn, .inl ⟨h3, m a List.mem_cons_self⟩, rfl, rfl, nohL_ro l e'⟩
    | true =>
      obtain ⟨h3, rfl, rfl, e'⟩ := h2
      exact ⟨a, vs, [], h0, Reps.ro s h1 e' m, hl, hn, h3.mono s, rfl, rfl, nohL_ro l e'⟩
  | .dt z _ l, _, _, h, e, m => by
    obtain ⟨a, vs, F', h0, h1, hl, hn, h2⟩ := h
    cases z with
    | false =>
      obtain ⟨h3, rfl⟩ := h2
      have e' : nohL l = true := by simpa [D.noh] using e
      exact ⟨a, vs, [], h0, Reps.ro s h1 e' (fun b q => m b (List.mem_cons_of_mem _ q)), hl, hn, .inl ⟨h3, m a List.mem_cons_self⟩, rfl, rfl, nohL_ro l e'⟩
    | true =>
      obtain ⟨h3, rfl, rfl, e'⟩ := h2
      exact ⟨a, vs, [], h0, Reps.ro s h1 e' m, hl, hn, h3.mono s, rfl, rfl, nohL_ro l e'⟩
  | .ins z _ _ l, _, _, h, e, m => by
    obtain ⟨a, dx, vs, F', h0, h1, hl, hn, h2⟩ := h
    cases z with
    | false =>
      obtain rfl := h2
      have e' : nohL l = true := by simpa [D.noh] using e
      exact ⟨a, dx, vs, [], h0, Reps.ro s h1 e' (fun b q => m b (List.mem_cons_of_mem _ q)), hl, hn, m a List.mem_cons_self, rfl, rfl, nohL_ro l e'⟩
    | true =>
      obtain ⟨h3, rfl, rfl, e'⟩ := h2
      exact ⟨a, dx, vs, [], h0, Reps.ro s h1 e' m, hl, hn, s a h3, rfl, rfl, nohL_ro l e'⟩
  | .hole i, _, _, h, e, _ => by simp [D.noh] at e
  | .non, _, _, h, _, _ => ⟨h.1, rfl⟩
  | .bl _, _, _, h, _, _ => ⟨h.1, rfl⟩
  | .int _, _, _, h, _, _ => ⟨h.1, rfl⟩
  | .str _, _, _, h, _, _ => ⟨h.1, rfl⟩
  | .glo _, _, _, h, _, _ => ⟨h.1, rfl⟩
theorem Reps.ro (s : ∀ a, Z a → Z' a) : ∀ {l : List D} {v : List V} {F : List Addr}, Reps K η Z H l v F → nohL l = true → (∀ a ∈ F, Z' a) → Reps K [] Z' H (roL l) v []
  | [], _, _, h, _, _ => ⟨h.1, rfl⟩
  | d :: r, _, _, h, e, m => by
    obtain ⟨v, vs, F1, F2, rfl, h1, h2, rfl⟩ := h
    have e' : d.noh = true ∧ nohL r = true := by simpa [nohL] using e
    exact ⟨v, vs, [], [], rfl, Rep.ro s h1 e'.1 (fun a q => m a (List.mem_append_left _ q)), Reps.ro s h2 e'.2 (fun a q => m a (List.mem_append_right _ q)), rfl⟩
end
mutual
/-- nothing in it may only be read -/
theorem Rep.clnZ : ∀ {d : D} {v : V} {F : List Addr}, Rep K η Z H d v F → d.cln = true → Rep K η Z' H d v F
  | .tup l, _, _, h, e => by
    obtain ⟨a, vs, h0, h1, h2⟩ := h
    exact ⟨a, vs, h0, h1, Reps.clnZ h2 (by simpa [D.cln] using e)⟩
  | .lst z l, _, _, h, e => by
    obtain ⟨a, vs, F', h0, h1, h2⟩ := h
    cases z with
    | false => exact ⟨a, vs, F', h0, Reps.clnZ h1 (by simpa [D.cln] using e), h2⟩
    | true => simp [D.cln] at e
  | .dk z _ l, _, _, h, e => by
    obtain ⟨a, vs, F', h0, h1, h3, h4, h2⟩ := h
    cases z with
    | false => exact ⟨a, vs, F', h0, Reps.clnZ h1 (by simpa [D.cln] using e), h3, h4, h2⟩
    | true => simp [D.cln] at e
  | .dt z _ l, _, _, h, e => by
    obtain ⟨a, vs, F', h0, h1, h3, h4, h2⟩ := h
    cases z with
    | false => exact ⟨a, vs, F', h0, Reps.clnZ h1 (by simpa [D.cln] using e), h3, h4, h2⟩
    | true => simp [D.cln] at e
  | .ins z _ _ l, _, _, h, e => by
    obtain ⟨a, dx, vs, F', h0, h1, h3, h4, h2⟩ := h
    cases z with
    | false => exact ⟨a, dx, vs, F', h0, Reps.clnZ h1 (by simpa [D.cln] using e), h3, h4, h2⟩
    | true => simp [D.cln] at e
  | .hole i, _, _, h, e => by simp [D.cln] at e
  | .non, _, _, h, _ => h
  | .bl _, _, _, h, _ => h
  | .int _, _, _, h, _ => h
  | .str _, _, _, h, _ => h
  | .glo _, _, _, h, _ => h
theorem Reps.clnZ : ∀ {l : List D} {v : List V} {F : List Addr}, Reps K η Z H l v F → clnL l = true → Reps K η Z' H l v F
  | [], _, _, h, _ => h
  | d :: r, _, _, h, e => by
    obtain ⟨v, vs, F1, F2, e0, h1, h2, e1⟩ := h
    have e' : d.cln = true ∧ clnL r = true := by simpa [clnL] using e
    exact ⟨v, vs, F1, F2, e0, Rep.clnZ h1 e'.1, Reps.clnZ h2 e'.2, e1⟩
end
end

/-! ### places: got and put -/
section
variable {κ : Type} [DecidableEq κ]
theorem look_setK_ne {k k' : κ} (h : k ≠ k') {v : D} : ∀ {ks : List κ} {l : List D}, look k' ks (setK k v ks l) = look k' ks l
  | [], l => by cases l <;> simp [look]
  | a :: ks, [] => by simp [setK, look]
  | a :: ks, d :: l => by
    by_cases e : a = k
    · subst e
      simp [setK, look, h]
    · by_cases e2 : a = k'
      · subst e2
        simp [setK, look, e]
      · simp [setK, look, e, e2, look_setK_ne h]
theorem look_setK {k : κ} {v d0 : D} : ∀ {ks : List κ} {l : List D}, look k ks l = some d0 → look k ks (setK k v ks l) = some v
  | [], l, h => by simp [look] at h
  | a :: ks, [], h => by simp [look] at h
  | a :: ks, d :: l, h => by
    by_cases e : a = k
    · simp [setK, look, e]
    · simp only [look, e, if_false] at h
      simp [setK, look, e, look_setK h]
theorem setK_setK {k : κ} {v w : D} : ∀ {ks : List κ} {l : List D}, setK k w ks (setK k v ks l) = setK k w ks l
  | [], l => by cases l <;> simp [setK]
  | a :: ks, [] => by simp [setK]
  | a :: ks, d :: l => by
    by_cases e : a = k
    · simp [setK, e]
    · simp [setK, e, setK_setK]
theorem setK_comm {k k' : κ} (h : k ≠ k') {v w : D} : ∀ {ks : List κ} {l : List D}, setK k w ks (setK k' v ks l) = setK k' v ks (setK k w ks l)
  | [], l => by cases l <;> simp [setK]
  | a :: ks, [] => by simp [setK]
  | a :: ks, d :: l => by
    by_cases e : a = k
    · subst e
      simp [setK, h]
    · by_cases e2 : a = k'
      · subst e2
        simp [setK, e]
      · simp [setK, e, e2, setK_comm h]
end
theorem get1_set1_ne {d : D} {s s' : Stp} {v : D} (h : s ≠ s') : get1 (set1 d s v) s' = get1 d s' := by
  cases d with
  | lst z l => cases s <;> cases s' <;> cases z <;> simp_all [get1, set1, List.getElem?_set]
  | dk z ks l => cases s <;> cases s' <;> cases z <;> simp_all [get1, set1, look_setK_ne]
  | ins z c ns l => cases s <;> cases s' <;> cases z <;> simp_all [get1, set1, look_setK_ne]
  | _ => cases s <;> simp [set1]
theorem get1_set1 {d x : D} {s : Stp} {v : D} (h : get1 d s = some x) : get1 (set1 d s v) s = some v := by
  cases d with
  | lst z l => cases s <;> cases z <;> simp_all [get1, set1, List.getElem?_set]; rename_i i; exact (List.getElem?_eq_some_iff.mp h).1
  | dk z ks l => cases s <;> cases z <;> simp_all [get1, set1]; exact look_setK h
  | ins z c ns l => cases s <;> cases z <;> simp_all [get1, set1]; exact look_setK h
  | _ => cases s <;> simp [get1] at h
theorem set1_set1 {d : D} {s : Stp} {v w : D} : set1 (set1 d s v) s w = set1 d s w := by
  cases d with
  | lst z l => cases s <;> simp [set1]
  | dk z ks l => cases s <;> simp [set1, setK_setK]
  | ins z c ns l => cases s <;> simp [set1, setK_setK]
  | _ => cases s <;> simp [set1]
theorem set1_comm {d : D} {s s' : Stp} {v w : D} (h : s ≠ s') : set1 (set1 d s v) s' w = set1 (set1 d s' w) s v := by
  cases d with
  | lst z l => cases s <;> cases s' <;> simp_all [set1]; exact List.set_comm _ _ h
  | dk z ks l => cases s <;> cases s' <;> simp_all [set1]; exact setK_comm (Ne.symm h)
  | ins z c ns l => cases s <;> cases s' <;> simp_all [set1]; exact setK_comm (Ne.symm h)
  | _ => cases s <;> cases s' <;> simp [set1]
theorem getQ_setQ : ∀ {q : List Stp} {d x v : D}, getQ d q = some x → getQ (setQ d q v) q = some v
  | [], _, _, _, _ => rfl
  | s :: q, d, x, v, h => by
    cases e : get1 d s with
    | none => simp [getQ, e] at h
    | some y =>
      simp only [getQ, e] at h
      simp only [setQ, e, getQ, get1_set1 e]
      exact getQ_setQ h
theorem setQ_setQ : ∀ {q : List Stp} {d v w : D}, setQ (setQ d q v) q w = setQ d q w
  | [], _, _, _ => rfl
  | s :: q, d, v, w => by
    cases e : get1 d s with
    | none => simp [setQ, e]
    | some y => simp only [setQ, e, get1_set1 e, set1_set1, setQ_setQ]
def apartQ (q q' : List Stp) : Bool := !(q.isPrefixOf q' || q'.isPrefixOf q)
theorem apartQ_symm {q q' : List Stp} (h : apartQ q q' = true) : apartQ q' q = true := by simpa [apartQ, Bool.or_comm] using h
theorem getQ_apart : ∀ {q q' : List Stp} {d v : D}, apartQ q q' = true → getQ (setQ d q v) q' = getQ d q'
  | [], q', _, _, h => by simp [apartQ] at h
  | s :: q, [], _, _, h => by simp [apartQ] at h
  | s :: q, s' :: q', d, v, h => by
    cases e : get1 d s with
    | none => simp [setQ, e]
    | some y =>
      by_cases hs : s = s'
      · subst hs
        simp only [setQ, e, getQ, get1_set1 e]
        exact getQ_apart (by simpa [apartQ] using h)
      · simp only [setQ, e, getQ, get1_set1_ne hs]
theorem setQ_comm : ∀ {q q' : List Stp} {d v w : D}, apartQ q q' = true → setQ (setQ d q v) q' w = setQ (setQ d q' w) q v
  | [], q', _, _, _, h => by simp [apartQ] at h
  | s :: q, [], _, _, _, h => by simp [apartQ] at h
  | s :: q, s' :: q', d, v, w, h => by
    by_cases hs : s = s'
    · subst hs
      cases e : get1 d s with
      | none => simp [setQ, e]
      | some y =>
        simp only [setQ, e, get1_set1 e, set1_set1]
        rw [setQ_comm (by simpa [apartQ] using h)]
    · cases e : get1 d s with
      | none =>
        cases e' : get1 d s' with
        | none => simp [setQ, e, e']
        | some y' => simp only [setQ, e, e', get1_set1_ne (Ne.symm hs)]
      | some y =>
        cases e' : get1 d s' with
        | none => simp only [setQ, e, e', get1_set1_ne hs]
        | some y' => simp only [setQ, e, e', get1_set1_ne hs, get1_set1_ne (Ne.symm hs), set1_comm hs]
mutual
theorem hb_setK {κ : Type} [DecidableEq κ] {m : Nat} {k : κ} {v : D} (hv : v.hb m = true) : ∀ {ks : List κ} {l : List D}, hbL m l = true → hbL m (setK k v ks l) = true
  | [], l, h => by cases l <;> simpa [setK] using h
  | a :: ks, [], h => by simpa [setK] using h
  | a :: ks, d :: l, h => by
    have h' : d.hb m = true ∧ hbL m l = true := by simpa [hbL] using h
    by_cases e : a = k
    · simp [setK, e, hbL, hv, h'.2]
    · simp [setK, e, hbL, h'.1, hb_setK hv h'.2]
end
theorem hb_set1 {m : Nat} {d v : D} {s : Stp} (hd : d.hb m = true) (hv : v.hb m = true) : (set1 d s v).hb m = true := by
  cases d with
  | lst z l =>
    cases s <;> simp_all [set1, D.hb]
    rename_i i
    rcases hd with h | h
    · exact .inl h
    · refine .inr (hbL_mem.mpr fun x mx => ?_)
      rcases List.mem_or_eq_of_mem_set mx with q | rfl
      · exact hbL_mem.mp h x q
      · exact hv
  | dk z ks l =>
    cases s <;> simp_all [set1, D.hb]
    rcases hd with h | h
    · exact .inl h
    · exact .inr (hb_setK hv h)
  | ins z c ns l =>
    cases s <;> simp_all [set1, D.hb]
    rcases hd with h | h
    · exact .inl h
    · exact .inr (hb_setK hv h)
  | _ => cases s <;> simpa [set1] using hd
theorem look_mem {κ : Type} [DecidableEq κ] {k : κ} {ks : List κ} {l : List D} {x : D} (h : look k ks l = some x) : x ∈ l := by
  obtain ⟨i, e, _⟩ := look_ix h
  exact List.mem_of_getElem? e
theorem hb_get1 {m : Nat} {d x : D} {s : Stp} (hd : d.hb m = true) (h : get1 d s = some x) : x.hb m = true := by
  cases d with
  | lst z l => cases s <;> cases z <;> simp_all [get1, D.hb]; exact hbL_mem.mp hd _ (List.mem_of_getElem? h)
  | dk z ks l => cases s <;> cases z <;> simp_all [get1, D.hb]; exact hbL_mem.mp hd _ (look_mem h)
  | ins z c ns l => cases s <;> cases z <;> simp_all [get1, D.hb]; exact hbL_mem.mp hd _ (look_mem h)
  | _ => cases s <;> simp [get1] at h
theorem hb_setQ {m : Nat} : ∀ {q : List Stp} {d v : D}, d.hb m = true → v.hb m = true → (setQ d q v).hb m = true
  | [], _, _, _, hv => hv
  | s :: q, d, v, hd, hv => by
    cases e : get1 d s with
    | none => simpa [setQ, e] using hd
    | some y => simpa [setQ, e] using hb_set1 hd (hb_setQ (hb_get1 hd e) hv)

def Slot.hb (m : Nat) : Slot → Bool
  | .no => true
  | .own d => d.hb m
  | .lent h _ _ d => decide (h < m) && d.hb m
  | .al _ _ => true
def hbS (m : Nat) (l : List Slot) : Prop := ∀ x ∈ l, x.hb m = true
theorem Slot.hb_put {m : Nat} {x : Slot} {d v : D} (hx : x.hb m = true) (e : x.d? = some d) (hv : d.hb m = true → v.hb m = true) : (x.put v).hb m = true := by
  cases x with
  | own d0 => cases e; exact hv hx
  | lent h r q d0 =>
    cases e
    have hx' : h < m ∧ d.hb m = true := by simpa [Slot.hb] using hx
    simp [Slot.put, Slot.hb, hx'.1, hv hx'.2]
  | no => cases e
  | al => cases e
theorem hbS_putP {m : Nat} {ρ : Env} {r : Nat} {q : List Stp} {v : D} (h : hbS m ρ.s) (hv : v.hb m = true) : hbS m (putP ρ r q v).s := by
  unfold putP
  split
  · rename_i x ex
    split
    · rename_i d ed
      intro y my
      rcases List.mem_or_eq_of_mem_set my with z | rfl
      · exact h y z
      · exact Slot.hb_put (h x (List.mem_of_getElem? ex)) ed fun hd => hb_setQ hd hv
    · exact h
  · exact h
theorem hbS_backA {m : Nat} : ∀ {as : List (Bool × Od)} {ds : List D} {ρ : Env}, hbS m ρ.s → hbL m ds = true → hbS m (backA as ds ρ).s
  | [], _, _, h, _ => by simpa [backA] using h
  | (false, .p r q) :: l, [], ρ, h, _ => by simpa [backA] using h
  | (false, .p r q) :: l, d :: ds, ρ, h, e => by
    have e' : d.hb m = true ∧ hbL m ds = true := by simpa [hbL] using e
    simpa [backA] using hbS_backA (as := l) (ds := ds) (hbS_putP h e'.1) e'.2
  | (false, .v _) :: l, [], ρ, h, _ => by simpa [backA] using h
  | (false, .v _) :: l, d :: ds, ρ, h, e => by
    have e' : d.hb m = true ∧ hbL m ds = true := by simpa [hbL] using e
    simpa [backA] using hbS_backA (as := l) (ds := ds) h e'.2
  | (true, o) :: l, [], ρ, h, _ => by simpa [backA] using h
  | (true, o) :: l, d :: ds, ρ, h, e => by
    have e' : d.hb m = true ∧ hbL m ds = true := by simpa [hbL] using e
    simpa [backA] using hbS_backA (as := l) (ds := ds) h e'.2
/-- two places in the slots -/
theorem apart1_cases {r r' : Nat} {q q' : List Stp} (h : apart1 (r, q) (r', q') = true) : r ≠ r' ∨ (r = r' ∧ apartQ q q' = true) := by
  by_cases e : r = r'
  · subst e
    exact .inr ⟨rfl, by simpa [apart1, apartQ] using h⟩
  · exact .inl e
theorem getP_apart {ρ : Env} {r r' : Nat} {q q' : List Stp} {v : D} (h : apart1 (r, q) (r', q') = true) : getP (putP ρ r q v) r' q' = getP ρ r' q' := by
  unfold putP
  cases ex : ρ.s[r]? with
  | none => rfl
  | some x =>
    simp only []
    cases ed : x.d? with
    | none => rfl
    | some d =>
      simp only []
      rcases apart1_cases h with hr | ⟨rfl, hq⟩
      · simp [getP, own, List.getElem?_set, hr]
      · have hl := (List.getElem?_eq_some_iff.mp ex).1
        have : (x.put (setQ d q v)).d? = some (setQ d q v) := by cases x <;> simp_all [Slot.d?, Slot.put]
        simp only [getP, own, List.getElem?_set_self hl, this, ex, ed, getQ_apart hq]
theorem getP_put {ρ : Env} {r : Nat} {q : List Stp} {d v : D} (h : getP ρ r q = some d) : getP (putP ρ r q v) r q = some v := by
  unfold getP own at h
  cases ex : ρ.s[r]? with
  | none => simp [ex] at h
  | some x =>
    simp only [ex] at h
    cases ed : x.d? with
    | none => simp [ed] at h
    | some d0 =>
      simp only [ed] at h
      have hl := (List.getElem?_eq_some_iff.mp ex).1
      have : (x.put (setQ d0 q v)).d? = some (setQ d0 q v) := by cases x <;> simp_all [Slot.d?, Slot.put]
      simp only [putP, ex, ed, getP, own, List.getElem?_set_self hl, this, getQ_setQ h]
theorem Slot.put_put {x : Slot} {v w : D} : (x.put v).put w = x.put w := by cases x <;> rfl
theorem Slot.put_d {x : Slot} {d v : D} (e : x.d? = some d) : (x.put v).d? = some v := by cases x <;> simp_all [Slot.d?, Slot.put]
theorem putP_put {ρ : Env} {r : Nat} {q : List Stp} {v w : D} : putP (putP ρ r q v) r q w = putP ρ r q w := by
  cases ex : ρ.s[r]? with
  | none => simp [putP, ex]
  | some x =>
    cases ed : x.d? with
    | none => simp [putP, ex, ed]
    | some d =>
      have hl := (List.getElem?_eq_some_iff.mp ex).1
      simp only [putP, ex, ed, List.getElem?_set_self hl, Slot.put_d ed, Slot.put_put, setQ_setQ, List.set_set]
theorem putP_comm {ρ : Env} {r r' : Nat} {q q' : List Stp} {v w : D} (h : apart1 (r, q) (r', q') = true) : putP (putP ρ r q v) r' q' w = putP (putP ρ r' q' w) r q v := by
  rcases apart1_cases h with hr | ⟨rfl, hq⟩
  · cases ex : ρ.s[r]? with
    | none =>
      cases ex' : ρ.s[r']? with
      | none => simp [putP, ex, ex']
      | some x' =>
        cases ed' : x'.d? with
        | none => simp [putP, ex, ex', ed']
        | some d' => simp [putP, ex, ex', ed', List.getElem?_set, Ne.symm hr]
    | some x =>
      cases ed : x.d? with
      | none =>
        cases ex' : ρ.s[r']? with
        | none => simp [putP, ex, ex', ed]
        | some x' =>
          cases ed' : x'.d? with
          | none => simp [putP, ex, ex', ed', ed]
          | some d' => simp [putP, ex, ex', ed', ed, List.getElem?_set, Ne.symm hr]
      | some d =>
        cases ex' : ρ.s[r']? with
        | none => simp [putP, ex, ex', ed, List.getElem?_set, hr]
        | some x' =>
          cases ed' : x'.d? with
          | none => simp [putP, ex, ex', ed', ed, List.getElem?_set, hr]
          | some d' =>
            simp [putP, ex, ex', ed', ed, List.getElem?_set, Ne.symm hr, hr]
            exact List.set_comm _ _ hr
  · cases ex : ρ.s[r]? with
    | none => simp [putP, ex]
    | some x =>
      cases ed : x.d? with
      | none => simp [putP, ex, ed]
      | some d =>
        have hl := (List.getElem?_eq_some_iff.mp ex).1
        simp only [putP, ex, ed, List.getElem?_set_self hl, Slot.put_d ed, Slot.put_put, List.set_set, setQ_comm hq]
end Pv

/-! Pv, part L: arguments taken out, a call, arguments put back. -/
namespace Pv
open PySem PySem.Spec PyProof.Rows L2
variable {AL : AlT}
section
variable {K : PySem.W.Frag} {η η' : List V} {Z Z' Z2 : Addr → Prop} {H H' : Hp}
theorem Rep.mono (s : ∀ a, Z a → Z2 a) {d : D} {v : V} {F : List Addr} (r : Rep K η Z H d v F) : Rep K η Z2 H d v F :=
  r.keep (F0 := F) ⟨fun _ _ _ e => e, fun _ _ _ e => e, fun _ _ e _ => e, s⟩ fun _ m => m
theorem Rep.noh0 {d : D} {v : V} {F : List Addr} (r : Rep K [] Z H d v F) : d.noh = true := hb_noh d r.hb
theorem Rep.any {d : D} {v : V} {F : List Addr} (r : Rep K η Z H d v F) (h : d.noh = true) : Rep K η' Z H d v F := r.eta (m := 0) (fun i hi => absurd hi (Nat.not_lt_zero _)) (noh_hb d h)
theorem RepS.eta {m : Nat} (q : ∀ i, i < m → η'[i]? = η[i]?) : ∀ {ρ : List Slot} {S : List (Option V)} {F : List Addr}, RepS K η Z H ρ S F → hbS m ρ → RepS K η' Z H ρ S F
  | [], _, _, h, _ => h
  | x :: ρ, _, _, h, e => by
    obtain ⟨ov, S', F1, F2, e0, h1, h2, e1⟩ := h
    refine ⟨ov, S', F1, F2, e0, ?_, RepS.eta q h2 (fun y m => e y (List.mem_cons_of_mem _ m)), e1⟩
    have hx := e x List.mem_cons_self
    cases x with
    | no => exact h1
    | own d => obtain ⟨v, e2, r⟩ := h1; exact ⟨v, e2, r.eta q hx⟩
    | lent h _ _ d =>
      obtain ⟨v, e2, e3, r⟩ := h1
      have hx' : h < m ∧ d.hb m = true := by simpa [Slot.hb] using hx
      exact ⟨v, e2, (q h hx'.1).trans e3, r.eta q hx'.2⟩
    | al => exact h1
theorem RepS.hb : ∀ {ρ : List Slot} {S : List (Option V)} {F : List Addr}, RepS K η Z H ρ S F → hbS η.length ρ
  | [], _, _, h => fun x m => by cases m
  | x :: ρ, _, _, h => by
    obtain ⟨ov, S', F1, F2, e0, h1, h2, e1⟩ := h
    intro y m
    rcases List.mem_cons.mp m with rfl | m
    · cases y with
      | no => rfl
      | own d => obtain ⟨v, e2, r⟩ := h1; exact r.hb
      | lent h _ _ d =>
        obtain ⟨v, e2, e3, r⟩ := h1
        simp [Slot.hb, r.hb, (List.getElem?_eq_some_iff.mp e3).1]
      | al => rfl
    · exact RepS.hb h2 y m
theorem RepS.more {ξ : List V} {ρ : List Slot} {S : List (Option V)} {F : List Addr} (h : RepS K η Z H ρ S F) : RepS K (η ++ ξ) Z H ρ S F :=
  h.eta (m := η.length) (fun i hi => List.getElem?_append_left hi) h.hb

/-- the arguments as they were got -/
def gotA (ρ : Env) : List (Bool × Od) → List D → Prop
  | [], ds => ds = []
  | (_, .v d) :: as, ds => ∃ ds', ds = d :: ds' ∧ gotA ρ as ds'
  | (true, .p r q) :: as, ds => ∃ d ds', ds = d.ro :: ds' ∧ getP ρ r q = some d ∧ d.noh = true ∧ gotA ρ as ds'
  | (false, .p r q) :: as, ds => ∃ d ds', ds = d :: ds' ∧ getP ρ r q = some d ∧ d.noh = true ∧ gotA ρ as ds'
def muts : List (Bool × Od) → List (Nat × List Stp)
  | [] => []
  | (false, .p r q) :: as => (r, q) :: muts as
  | _ :: as => muts as
def hasRo (as : List (Bool × Od)) : Bool := as.any fun a => match a with | (true, .p _ _) => true | _ => false
variable (K Z H) in
def AsR (σ : L2.St) : List (Bool × Od) → List V → List Addr → Prop
  | [], vs, F => vs = [] ∧ F = []
  | (_, .v d) :: as, vs, F => ∃ v vs' F1 F2, vs = v :: vs' ∧ F = F1 ++ F2 ∧ Rep K [] Z H d v F1 ∧ AsR σ as vs' F2
  | (_, .p r q) :: as, vs, F => ∃ v vs' v0, vs = v :: vs' ∧ σ[r]? = some (some v0) ∧ Wk H v0 q v ∧ AsR σ as vs' F
variable (K Z H) in
def FinR : List (Bool × Od) → List D → List V → List Addr → Prop
  | [], ds, vs, F => ds = [] ∧ vs = [] ∧ F = []
  | a :: as, ds, vs, F => ∃ d ds' v vs' F1 F2, ds = d :: ds' ∧ vs = v :: vs' ∧ F = F1 ++ F2 ∧ (muts [a] ≠ [] → Rep K [] Z H d v F1) ∧ FinR as ds' vs' F2
theorem apart1_symm {p p' : Nat × List Stp} (h : apart1 p p' = true) : apart1 p' p = true := by
  obtain ⟨r, q⟩ := p; obtain ⟨r', q'⟩ := p'
  simp only [apart1, Bool.or_eq_true, bne_iff_ne, ne_eq, Bool.not_eq_true'] at h ⊢
  rcases h with h | h
  · exact .inl fun e => h e.symm
  · exact .inr (by rw [Bool.or_comm]; exact h)
theorem gotA_put {r : Nat} {q : List Stp} {v : D} : ∀ {as : List (Bool × Od)} {ds : List D} {ρ : Env}, gotA ρ as ds → (∀ a ∈ as, ∀ p ∈ a.2.plc, apart1 (r, q) p = true) → gotA (putP ρ r q v) as ds
  | [], _, _, h, _ => h
  | (z, .v d) :: as, _, _, h, e => by
    cases z <;> obtain ⟨ds', rfl, h⟩ := h <;> exact ⟨ds', rfl, gotA_put h fun a m => e a (List.mem_cons_of_mem _ m)⟩
  | (true, .p r' q') :: as, _, _, h, e => by
    obtain ⟨d, ds', rfl, h1, h2, h⟩ := h
    exact ⟨d, ds', rfl, by rw [getP_apart (e _ List.mem_cons_self (r', q') (by simp [Od.plc]))]; exact h1, h2, gotA_put h fun a m => e a (List.mem_cons_of_mem _ m)⟩
  | (false, .p r' q') :: as, _, _, h, e => by
    obtain ⟨d, ds', rfl, h1, h2, h⟩ := h
    exact ⟨d, ds', rfl, by rw [getP_apart (e _ List.mem_cons_self (r', q') (by simp [Od.plc]))]; exact h1, h2, gotA_put h fun a m => e a (List.mem_cons_of_mem _ m)⟩
theorem getP_backA {r : Nat} {q : List Stp} : ∀ {as : List (Bool × Od)} {ds : List D} {ρ : Env}, (∀ p ∈ muts as, apart1 p (r, q) = true) → getP (backA as ds ρ) r q = getP ρ r q
  | [], _, _, _ => by simp [backA]
  | (false, .p r' q') :: as, [], _, e => by simp [backA]
  | (false, .p r' q') :: as, d :: ds, ρ, e => by
    simp only [backA]
    rw [getP_backA (as := as) (fun p m => e p (by simp [muts, m]))]
    exact getP_apart (e (r', q') (by simp [muts]))
  | (false, .v _) :: as, [], _, e => by simp [backA]
  | (false, .v _) :: as, d :: ds, ρ, e => by simp only [backA]; exact getP_backA (as := as) (fun p m => e p (by simpa [muts] using m))
  | (true, o) :: as, [], _, e => by simp [backA]
  | (true, o) :: as, d :: ds, ρ, e => by simp only [backA]; exact getP_backA (as := as) (fun p m => e p (by simpa [muts] using m))
theorem putP_backA {r : Nat} {q : List Stp} {v : D} : ∀ {as : List (Bool × Od)} {ds : List D} {ρ : Env}, (∀ p ∈ muts as, apart1 p (r, q) = true) → putP (backA as ds ρ) r q v = backA as ds (putP ρ r q v)
  | [], _, _, _ => by simp [backA]
  | (false, .p r' q') :: as, [], _, e => by simp [backA]
  | (false, .p r' q') :: as, d :: ds, ρ, e => by
    simp only [backA]
    rw [putP_backA (as := as) (fun p m => e p (by simp [muts, m])), putP_comm (e (r', q') (by simp [muts]))]
  | (false, .v _) :: as, [], _, e => by simp [backA]
  | (false, .v _) :: as, d :: ds, ρ, e => by simp only [backA]; exact putP_backA (as := as) (fun p m => e p (by simpa [muts] using m))
  | (true, o) :: as, [], _, e => by simp [backA]
  | (true, o) :: as, d :: ds, ρ, e => by simp only [backA]; exact putP_backA (as := as) (fun p m => e p (by simpa [muts] using m))
theorem backA_nl : ∀ {as : List (Bool × Od)} {ds : List D} {ρ : Env}, (backA as ds ρ).nl = ρ.nl
  | [], _, _ => by simp [backA]
  | (false, .p r' q') :: as, [], _ => by simp [backA]
  | (false, .p r' q') :: as, d :: ds, ρ => by simp only [backA]; rw [backA_nl (as := as), putP_nl]
  | (false, .v _) :: as, [], _ => by simp [backA]
  | (false, .v _) :: as, d :: ds, ρ => by simp only [backA]; exact backA_nl (as := as)
  | (true, o) :: as, [], _ => by simp [backA]
  | (true, o) :: as, d :: ds, ρ => by simp only [backA]; exact backA_nl (as := as)
theorem muts_plc : ∀ {as : List (Bool × Od)} {p : Nat × List Stp}, p ∈ muts as → ∃ a ∈ as, a.1 = false ∧ p ∈ a.2.plc
  | [], _, h => by cases h
  | (false, .p r q) :: as, p, h => by
    rcases List.mem_cons.mp h with rfl | h
    · exact ⟨_, List.mem_cons_self, rfl, by simp [Od.plc]⟩
    · obtain ⟨a, m, e⟩ := muts_plc h
      exact ⟨a, List.mem_cons_of_mem _ m, e⟩
  | (false, .v _) :: as, p, h => by
    obtain ⟨a, m, e⟩ := muts_plc (as := as) h
    exact ⟨a, List.mem_cons_of_mem _ m, e⟩
  | (true, _) :: as, p, h => by
    obtain ⟨a, m, e⟩ := muts_plc (as := as) h
    exact ⟨a, List.mem_cons_of_mem _ m, e⟩
theorem Wk.inj' {v0 v w : V} {q : List Stp} (h1 : Wk H v0 q v) (h2 : Wk H v0 q w) : v = w := h1.inj h2

/-- the arguments taken out -/
theorem takeA {σ γ : L2.St} : ∀ (as : List (Bool × Od)) {ds : List D} {vs : List V} {η : List V} {ρ : Env} {F Fo : List Addr}, RepS K η Z H ρ.s (σ ++ γ) F → AsR K Z H σ as vs Fo → gotA ρ as ds → apartA as = true →
    ∃ ξ ρn Fr Fa, RepS K (η ++ ξ) Z H ρn.s (σ ++ γ) Fr ∧ (F ++ Fo).Perm (Fr ++ Fa) ∧
      (∀ r q, (∀ p ∈ muts as, apart1 p (r, q) = true) → getP ρn r q = getP ρ r q) ∧
      (∀ Z2 : Addr → Prop, (∀ a, Z a → Z2 a) → (hasRo as = true → ∀ a ∈ Fr, Z2 a) → Reps K [] Z2 H ds vs Fa) ∧
      (∀ (Z' : Addr → Prop) (H' : Hp) ds' Ff, Keeps Z Z' H H' Fr → FinR K Z' H' as ds' vs Ff → ∃ F'' G, RepS K (η ++ ξ) Z' H' (backA as ds' ρ).s (σ ++ γ) F'' ∧ F''.Perm (Fr ++ G) ∧ G.Sublist Ff) ∧
      ∀ r' q' x, belowA as r' q' = false → getP ρ r' q' = some x → ∃ y, getP ρn r' q' = some y
  | [], ds, vs, η, ρ, F, Fo, rs, ar, ga, _ => by
    obtain ⟨rfl, rfl⟩ := ar
    obtain rfl : ds = [] := ga
    refine ⟨[], ρ, F, [], by rw [List.append_nil]; exact rs, .refl _, fun _ _ _ => rfl, fun _ _ _ => ⟨rfl, rfl⟩, fun Z' H' ds' Ff k h => ?_, fun r' q' x _ h => ⟨x, h⟩⟩
    obtain ⟨rfl, _, rfl⟩ := h
    exact ⟨F, [], by rw [List.append_nil]; simpa [backA] using rs.keep k (fun _ m => m), by simp, List.Sublist.refl _⟩
  | (z, .v d) :: as, ds, vs, η, ρ, F, Fo, rs, ar, ga, ap => by
    have ar' : ∃ v vs' F1 F2, vs = v :: vs' ∧ Fo = F1 ++ F2 ∧ Rep K [] Z H d v F1 ∧ AsR K Z H σ as vs' F2 := by cases z <;> exact ar
    have ga' : ∃ ds', ds = d :: ds' ∧ gotA ρ as ds' := by cases z <;> exact ga
    obtain ⟨v, vs', F1, F2, rfl, rfl, r1, ar'⟩ := ar'
    obtain ⟨ds', rfl, ga'⟩ := ga'
    have ap' : apartA as = true := by cases z <;> simpa [apartA] using ap
    obtain ⟨ξ, ρn, Fr, Fa, t1, t2, t3, t4, t5, t6⟩ := takeA as rs ar' ga' ap'
    have hm : muts ((z, Od.v d) :: as) = muts as := by cases z <;> rfl
    have hr : hasRo ((z, Od.v d) :: as) = hasRo as := by cases z <;> simp [hasRo]
    refine ⟨ξ, ρn, Fr, F1 ++ Fa, t1, ?_, fun r q h => t3 r q (by rw [hm] at h; exact h), fun Z2 s1 s2 => ⟨v, vs', F1, Fa, rfl, r1.mono s1, t4 Z2 s1 (by rw [hr] at s2; exact s2), rfl⟩, fun Z' H' ds2 Ff k h => ?_, fun r' q' x hb h => t6 r' q' x (by cases z <;> simpa [belowA] using hb) h⟩
    · have : (F ++ (F1 ++ F2)).Perm (F1 ++ (F ++ F2)) := by
        rw [← List.append_assoc, ← List.append_assoc]; exact List.perm_append_comm.append_right _
      refine this.trans ((t2.append_left F1).trans ?_)
      rw [← List.append_assoc, ← List.append_assoc]; exact List.perm_append_comm.append_right _
    · obtain ⟨d2, ds3, v2, vs3, G1, G2, rfl, e, rfl, _, h⟩ := h
      cases e
      obtain ⟨F'', G, b1, b2, b3⟩ := t5 Z' H' ds3 G2 k h
      refine ⟨F'', G, ?_, b2, b3.trans (List.sublist_append_right _ _)⟩
      have : backA ((z, Od.v d) :: as) (d2 :: ds3) ρ = backA as ds3 ρ := by cases z <;> rfl
      rw [this]; exact b1
  | (true, .p r q) :: as, ds, vs, η, ρ, F, Fo, rs, ar, ga, ap => by
    obtain ⟨v, vs', v0, rfl, hs, hw, ar'⟩ := ar
    obtain ⟨d, ds', rfl, hg, hn, ga'⟩ := ga
    have ap' : (∀ a ∈ as, a.1 = true ∨ ∀ p ∈ a.2.plc, apart1 (r, q) p = true) ∧ apartA as = true := by simpa [apartA] using ap
    obtain ⟨ξ, ρn, Fr, Fa, t1, t2, t3, t4, t5, t6⟩ := takeA as rs ar' ga' ap'.2
    have hgn : getP ρn r q = some d := by
      rw [t3 r q fun p m => ?_]; exact hg
      obtain ⟨a, ma, ea, pa⟩ := muts_plc m
      rcases ap'.1 a ma with z | z
      · rw [ea] at z; cases z
      · exact apart1_symm (z p pa)
    have hr : r < σ.length := (List.getElem?_eq_some_iff.mp hs).1
    refine ⟨ξ, ρn, Fr, Fa, t1, t2, fun r' q' h => t3 r' q' (by simpa [muts] using h), fun Z2 s1 s2 => ?_, fun Z' H' ds2 Ff k h => ?_, fun r' q' x hb h => t6 r' q' x (by simpa [belowA] using hb) h⟩
    · obtain ⟨w0, w, A, F1, B, g1, g2, rfl, g4, _⟩ := t1.getP hgn
      rw [List.getElem?_append_left hr, hs] at g1
      cases g1
      cases Wk.inj' g2 hw
      exact ⟨_, vs', [], Fa, rfl, g4.ro s1 hn (fun a m => s2 (by simp [hasRo]) a (by simp [m])), t4 Z2 s1 (fun e => s2 (by simp [hasRo])), rfl⟩
    · obtain ⟨d2, ds3, v2, vs3, G1, G2, rfl, e, rfl, _, h⟩ := h
      cases e
      obtain ⟨F'', G, b1, b2, b3⟩ := t5 Z' H' ds3 G2 k h
      exact ⟨F'', G, by simpa [backA] using b1, b2, b3.trans (List.sublist_append_right _ _)⟩
  | (false, .p r q) :: as, ds, vs, η, ρ, F, Fo, rs, ar, ga, ap => by
    obtain ⟨v, vs', v0, rfl, hs, hw, ar'⟩ := ar
    obtain ⟨d, ds', rfl, hg, hn, ga'⟩ := ga
    have ap' : (∀ a ∈ as, ∀ p ∈ a.2.plc, apart1 (r, q) p = true) ∧ apartA as = true := by
      have := ap
      simp only [apartA, Bool.false_and, Bool.false_or, Bool.and_eq_true, List.all_eq_true] at this
      exact this
    have hr : r < σ.length := (List.getElem?_eq_some_iff.mp hs).1
    obtain ⟨w0, w, A, F1, B, g1, g2, rfl, g4, g5⟩ := (rs.more (ξ := [v])).getP hg
    rw [List.getElem?_append_left hr, hs] at g1
    cases g1
    cases Wk.inj' g2 hw
    have rs1 := g5 Z H (.hole η.length) [] ⟨fun _ _ _ e => e, fun _ _ _ e => e, fun _ _ e _ => e, fun _ z => z⟩ ⟨by simp, rfl⟩
    rw [List.append_nil] at rs1
    obtain ⟨ξ, ρn, Fr, Fa, t1, t2, t3, t4, t5, t6⟩ := takeA as rs1 ar' (gotA_put ga' ap'.1) ap'.2
    have am : ∀ p ∈ muts as, apart1 p (r, q) = true := fun p m => by
      obtain ⟨a, ma, _, pa⟩ := muts_plc m
      exact apart1_symm (ap'.1 a ma p pa)
    refine ⟨v :: ξ, ρn, Fr, F1 ++ Fa, by simpa using t1, ?_, fun r' q' h => ?_, fun Z2 s1 s2 => ⟨v, vs', F1, Fa, rfl, (g4.any hn).mono s1, t4 Z2 s1 (fun e => s2 (by simpa [hasRo] using e)), rfl⟩, fun Z' H' ds2 Ff k h => ?_, fun r' q' x hb h => ?_⟩
    · have : (A ++ F1 ++ B ++ Fo).Perm (F1 ++ (A ++ B ++ Fo)) := by
        have : (A ++ F1).Perm (F1 ++ A) := List.perm_append_comm
        have := (this.append_right B).append_right Fo
        simpa only [List.append_assoc] using this
      refine this.trans ((t2.append_left F1).trans ?_)
      rw [← List.append_assoc, ← List.append_assoc]; exact List.perm_append_comm.append_right _
    · rw [t3 r' q' (fun p m => h p (by simp [muts, m]))]
      exact getP_apart (h (r, q) (by simp [muts]))
    · obtain ⟨d2, ds3, v2, vs3, G1, G2, rfl, e, rfl, hd, h⟩ := h
      cases e
      have rd := hd (by simp [muts])
      obtain ⟨F'', G, b1, b2, b3⟩ := t5 Z' H' ds3 G2 k h
      have gh : getP (backA as ds3 (putP ρ r q (.hole η.length))) r q = some (.hole η.length) := by
        rw [getP_backA am]; exact getP_put hg
      obtain ⟨u0, u, A', Fh, B', c1, c2, rfl, c4, c5⟩ := b1.getP gh
      obtain ⟨c6, rfl⟩ := c4
      have : v = u := by simpa using c6
      subst this
      have rs2 := c5 Z' H' d2 G1 ⟨fun _ _ _ e => e, fun _ _ _ e => e, fun _ _ e _ => e, fun _ z => z⟩ (rd.any rd.noh0)
      rw [putP_backA am, putP_put] at rs2
      refine ⟨A' ++ G1 ++ B', G1 ++ G, by simpa [backA] using rs2, ?_, List.Sublist.append (List.Sublist.refl _) b3⟩
      have p1 : (A' ++ G1 ++ B').Perm (G1 ++ (A' ++ [] ++ B')) := by
        rw [List.append_nil, ← List.append_assoc]
        exact List.perm_append_comm.append_right _
      refine p1.trans ((b2.append_left G1).trans ?_)
      rw [← List.append_assoc, ← List.append_assoc]; exact List.perm_append_comm.append_right _
    · have hb' : below r q r' q' = false ∧ belowA as r' q' = false := by simpa [belowA] using hb
      obtain ⟨y, hy⟩ := getP_putP_some (v := .hole η.length) hg h (fun b => by rw [below_iff.mpr b] at hb'; exact absurd hb'.1 (by simp))
      exact t6 r' q' y hb'.2 hy
theorem getP_backA_some {r' : Nat} {q' : List Stp} : ∀ (as : List (Bool × Od)) {ds ds' : List D} {ρ : Env} {x : D}, gotA ρ as ds → apartA as = true → belowA as r' q' = false → getP ρ r' q' = some x → ∃ y, getP (backA as ds' ρ) r' q' = some y
  | [], ds, ds', ρ, x, _, _, _, h => ⟨x, by cases ds' <;> exact h⟩
  | (z, .v d) :: as, ds, ds', ρ, x, g, ap, hb, h => by
    have g' : ∃ ds', ds = d :: ds' ∧ gotA ρ as ds' := by cases z <;> exact g
    obtain ⟨_, _, g'⟩ := g'
    have ap' : apartA as = true := by cases z <;> simpa [apartA] using ap
    have hb' : belowA as r' q' = false := by cases z <;> simpa [belowA] using hb
    cases ds' with
    | nil => exact ⟨x, by cases z <;> exact h⟩
    | cons d' ds' =>
      have e : backA ((z, Od.v d) :: as) (d' :: ds') ρ = backA as ds' ρ := by cases z <;> rfl
      rw [e]; exact getP_backA_some as g' ap' hb' h
  | (true, .p r q) :: as, ds, ds', ρ, x, g, ap, hb, h => by
    obtain ⟨d, ds1, rfl, hg, hn, ga'⟩ := g
    have ap' : apartA as = true := by
      have : (∀ a ∈ as, a.1 = true ∨ ∀ p ∈ a.2.plc, apart1 (r, q) p = true) ∧ apartA as = true := by simpa [apartA] using ap
      exact this.2
    have hb' : belowA as r' q' = false := by simpa [belowA] using hb
    cases ds' with
    | nil => exact ⟨x, h⟩
    | cons d' ds' => exact getP_backA_some as (ds' := ds') ga' ap' hb' h
  | (false, .p r q) :: as, ds, ds', ρ, x, g, ap, hb, h => by
    obtain ⟨d, ds1, rfl, hg, hn, ga'⟩ := g
    have ap' : (∀ a ∈ as, ∀ p ∈ a.2.plc, apart1 (r, q) p = true) ∧ apartA as = true := by
      have := ap
      simp only [apartA, Bool.false_and, Bool.false_or, Bool.and_eq_true, List.all_eq_true] at this
      exact this
    have hb' : below r q r' q' = false ∧ belowA as r' q' = false := by simpa [belowA] using hb
    cases ds' with
    | nil => exact ⟨x, h⟩
    | cons d' ds' =>
      obtain ⟨y, hy⟩ := getP_putP_some (v := d') hg h (fun b => by rw [below_iff.mpr b] at hb'; exact absurd hb'.1 (by simp))
      exact getP_backA_some as (ds' := ds') (gotA_put ga' ap'.1) ap'.2 hb'.2 hy
theorem backA_al {i r' : Nat} {q' : List Stp} : ∀ {as : List (Bool × Od)} {ds : List D} {ρ : Env}, (backA as ds ρ).s[i]? = some (.al r' q') → ρ.s[i]? = some (.al r' q')
  | [], ds, ρ, e => by cases ds <;> exact e
  | (z, o) :: as, [], ρ, e => by cases z <;> cases o <;> exact e
  | (true, o) :: as, d :: ds, ρ, e => backA_al (as := as) (ds := ds) (by simpa [backA] using e)
  | (false, .v _) :: as, d :: ds, ρ, e => backA_al (as := as) (ds := ds) (by simpa [backA] using e)
  | (false, .p r q) :: as, d :: ds, ρ, e => putP_al (backA_al (as := as) (ds := ds) (by simpa [backA] using e))

/-! ### a call's promise -/
variable (K) in
def SpC (cl : CallT) (f : FId) : Sp := fun vs H Q E => ∃ Z ds F r ds', Reps K [] Z H ds vs F ∧ WF H Z F ∧ cl f ds = .ok r ds' ∧ ds'.length = ds.length ∧
  ∀ v H' Z' Fr Ff, Evo H Z F H' Z' (Fr ++ Ff) → Rep K [] Z' H' r v Fr → Reps K [] Z' H' ds' vs Ff → Q v H'
variable (K) in
/-- a call's promise, its result given -/
def SpG (ds : List D) (r : D) (ds' : List D) (vs : List V) (H : Hp) (Q : VK) : Prop := ∃ Z F, Reps K [] Z H ds vs F ∧ WF H Z F ∧ ds'.length = ds.length ∧
  ∀ v H' Z' Fr Ff, Evo H Z F H' Z' (Fr ++ Ff) → Rep K [] Z' H' r v Fr → Reps K [] Z' H' ds' vs Ff → Q v H'
theorem SpG.c {cl : CallT} {f : FId} {ds ds' : List D} {r : D} {vs : List V} {H : Hp} {Q : VK} {E : XK} (h : SpG K ds r ds' vs H Q) (e : cl f ds = .ok r ds') : SpC K cl f vs H Q E := by
  obtain ⟨Z, F, h1, h2, h3, h4⟩ := h
  exact ⟨Z, ds, F, r, ds', h1, h2, e, h3, h4⟩
theorem Evo.unmark {H H' : Hp} {Z Z2 Z' : Addr → Prop} {Fa Fr G : List Addr} (e : Evo H Z2 Fa H' Z' G) (h : ∀ a, Z a → Z2 a) (w : WF H Z (Fa ++ Fr)) : Evo H Z (Fa ++ Fr) H' Z (G ++ Fr) := by
  have gk : ∀ c ∈ Fr, ∃ o, H c = some o ∧ Pm o ∧ H' c = some o := fun c m => by
    obtain ⟨o, e1, p⟩ := w.pm c (List.mem_append_right _ m)
    exact ⟨o, e1, p, e.keep c o e1 fun q => w.apart q m⟩
  refine ⟨fun a o e1 n => e.keep a o e1 fun m => n (List.mem_append_left _ m), fun a m => ?_, fun _ z => z, fun _ z => .inl z, ⟨?_, fun a m => ?_, fun a m z => ?_, fun a z q => ?_⟩⟩
  · rcases List.mem_append.mp m with m | m
    · exact (e.sub a m).imp (List.mem_append_left _) id
    · exact .inl (List.mem_append_right _ m)
  · refine List.nodup_append.mpr ⟨e.wf.nd, (List.nodup_append.mp w.nd).2.1, fun a m b g q => ?_⟩
    subst q
    obtain ⟨o, e1, _, _⟩ := gk a g
    rcases e.sub a m with z | z
    · exact w.apart z g
    · rw [e1] at z; cases z
  · rcases List.mem_append.mp m with m | m
    · exact e.wf.pm a m
    · obtain ⟨o, _, p, e1⟩ := gk a m
      exact ⟨o, e1, p⟩
  · rcases List.mem_append.mp m with m | m
    · rcases e.sub a m with q | q
      · exact w.dz a (List.mem_append_left _ q) z
      · exact w.zt a z q
    · exact w.dz a (List.mem_append_right _ m) z
  · cases e1 : H a with
    | none => exact w.zt a z e1
    | some o =>
      rw [e.keep a o e1 fun m => w.dz a (List.mem_append_left _ m) z] at q
      cases q
theorem OdsR.asR {σ : L2.St} : ∀ {as : List (Bool × Od)} {vs : List V} {Fo : List Addr} {ρ : Env} {ds : List D}, OdsR K η Z H σ (as.map Prod.snd) vs Fo → argDs ρ as = some ds → ρ.nl = η.length → AsR K Z H σ as vs Fo
  | [], _, _, _, _, h, _, _ => h
  | (z, .v d) :: as, _, _, ρ, ds, h, e, n => by
    obtain ⟨v, vs', F1, F2, rfl, h1, h2, rfl⟩ := h
    cases e1 : argDs ρ as with
    | none => simp [argDs, e1] at e
    | some ds' =>
      have hn : d.noh = true := by
        have : argD ρ (z, .v d) ≠ none := fun z => by simp [argDs, z] at e
        have hc : ρ.nl = 0 ∨ d.noh = true := by
          cases z <;> (by_cases q : ρ.nl = 0 ∨ d.noh = true; exact q; exfalso; apply this; simp [argD]; simpa using q)
        rcases hc with q | q
        · have : Rep K [] Z H d v F1 := by
            have h3 : η = [] := List.length_eq_zero_iff.mp (n ▸ q)
            subst h3; exact h1
          exact this.noh0
        · exact q
      have := OdsR.asR (as := as) h2 e1 n
      cases z <;> exact ⟨v, vs', F1, F2, rfl, rfl, (show Rep K η Z H d v F1 from h1).any hn, this⟩
  | (z, .p r q) :: as, _, _, ρ, ds, h, e, n => by
    obtain ⟨v, vs', F1, F2, rfl, h1, h2, rfl⟩ := h
    obtain ⟨rfl, v0, h3, h4⟩ := h1
    cases e1 : argDs ρ as with
    | none => simp [argDs, e1] at e
    | some ds' =>
      have := OdsR.asR (as := as) h2 e1 n
      cases z <;> exact ⟨v, vs', v0, rfl, h3, h4, this⟩
theorem argDs_got {σ γ : L2.St} {F : List Addr} {ρ : Env} (rs : RepE AL K η Z H ρ σ γ F) (n : ρ.nl = η.length) : ∀ {as : List (Bool × Od)} {ds : List D}, argDs ρ as = some ds → gotA ρ as ds
  | [], ds, e => by simpa [argDs, gotA, eq_comm] using e
  | a :: as, ds, e => by
    cases e1 : argDs ρ as with
    | none => simp [argDs, e1] at e
    | some ds' =>
      cases e2 : argD ρ a with
      | none => simp [argDs, e2] at e
      | some d' =>
        have hds : ds = d' :: ds' := by simpa [argDs, e1, e2, eq_comm] using e
        subst hds
        have ih := argDs_got rs n e1
        have nh : ∀ {r : Nat} {q : List Stp} {d : D}, getP ρ r q = some d → (ρ.nl == 0 || d.noh) = true → d.noh = true := fun {r q d} hg hc => by
          rcases Bool.or_eq_true _ _ ▸ hc with z | z
          · obtain ⟨v0, v, A, F1, B, _, _, _, r1, _⟩ := rs.1.getP hg
            have h3 : η = [] := List.length_eq_zero_iff.mp (by rw [← n]; simpa using z)
            subst h3
            exact r1.noh0
          · exact z
        obtain ⟨z, o⟩ := a
        cases o with
        | v d =>
          have : d' = d := by
            simp only [argD] at e2
            split at e2
            · exact (Option.some.inj e2).symm
            · cases e2
          subst this
          cases z <;> exact ⟨ds', rfl, ih⟩
        | p r q =>
          cases z with
          | true =>
            simp only [argD] at e2
            cases hg : getP ρ r q with
            | none => simp [hg] at e2
            | some d =>
              simp only [hg, Option.bind_some] at e2
              split at e2
              · rename_i hc
                cases e2
                exact ⟨_, ds', rfl, hg, nh hg hc, ih⟩
              · cases e2
          | false =>
            simp only [argD] at e2
            cases hg : getP ρ r q with
            | none => simp [hg] at e2
            | some d =>
              simp only [hg, Option.bind_some] at e2
              split at e2
              · rename_i hc
                cases e2
                exact ⟨_, ds', rfl, hg, nh hg hc, ih⟩
              · cases e2
theorem Reps.finR : ∀ {as : List (Bool × Od)} {ds : List D} {vs : List V} {F : List Addr}, Reps K [] Z H ds vs F → ds.length = as.length → FinR K Z H as ds vs F
  | [], [], _, _, h, _ => ⟨rfl, h.1, h.2⟩
  | a :: as, d :: ds, _, _, h, e => by
    obtain ⟨v, vs', F1, F2, rfl, h1, h2, rfl⟩ := h
    exact ⟨d, ds, v, vs', F1, F2, rfl, rfl, rfl, fun _ => h1, Reps.finR h2 (by simpa using e)⟩
  | [], _ :: _, _, _, _, e => by simp at e
  | _ :: _, [], _, _, _, e => by simp at e
def finCln (as : List (Bool × Od)) (ds : List D) : Bool := (as.zip ds).all fun a => match a.1 with | (false, .p _ _) => a.2.cln | _ => true
theorem Reps.finRo {Z' : Addr → Prop} : ∀ {as : List (Bool × Od)} {ds : List D} {vs : List V} {F : List Addr}, Reps K [] Z H ds vs F → ds.length = as.length → finCln as ds = true → FinR K Z' H as ds vs F
  | [], [], _, _, h, _, _ => ⟨rfl, h.1, h.2⟩
  | a :: as, d :: ds, _, _, h, e, c => by
    obtain ⟨v, vs', F1, F2, rfl, h1, h2, rfl⟩ := h
    simp only [finCln, List.zip_cons_cons, List.all_cons, Bool.and_eq_true] at c
    refine ⟨d, ds, v, vs', F1, F2, rfl, rfl, rfl, fun m => ?_, Reps.finRo h2 (by simpa using e) c.2⟩
    obtain ⟨z, o⟩ := a
    cases z <;> cases o <;> simp [muts] at m
    exact h1.clnZ c.1
  | [], _ :: _, _, _, _, e, _ => by simp at e
  | _ :: _, [], _, _, _, e, _ => by simp at e

variable {σ γ γ1 : L2.St} {fx : List Nat} {H1 : Hp} {Z1 : Addr → Prop} {F Fe Fo : List Addr} {ρ1 : Env}
theorem argDs_len {ρ1 : Env} : ∀ {as : List (Bool × Od)} {ds : List D}, argDs ρ1 as = some ds → ds.length = as.length
  | [], ds, ea => by simp [argDs] at ea; simp [← ea]
  | a :: as, ds, ea => by
    cases e1 : argDs ρ1 as with
    | none => simp [argDs, e1] at ea
    | some l =>
      cases e2 : argD ρ1 a with
      | none => simp [argDs, e2] at ea
      | some x =>
        simp only [argDs, e1, e2, Option.some.injEq] at ea
        simp [← ea, argDs_len e1]
theorem callG {as : List (Bool × Od)} {ds ds' : List D} {vs : List V} {d : D} {Q : VK} (p : Pst AL K η σ fx H Z F γ H1 Z1 γ1 ρ1 Fe Fo) (od : OdsR K η Z1 H1 σ (as.map Prod.snd) vs Fo)
    (ap : apartA as = true) (ea : argDs ρ1 as = some ds) (ok : okRo as d ds' = true) (el : ds'.length = as.length)
    (q : ∀ v H' Z' γ' Fe' Fo', Pst AL K η σ fx H Z F γ H' Z' γ' (killE AL (belowA as) (backA as ds' ρ1)) Fe' Fo' → Rep K η Z' H' d v Fo' → Q v H') : SpG K ds d ds' vs H1 Q := by
  have got := argDs_got p.rep p.nl ea
  obtain ⟨ξ, ρn, Fr, Fa, t1, t2, _, t4, t5, t6⟩ := takeA as p.rep.1 (od.asR ea p.nl) got ap
  have wf : WF H1 Z1 (Fr ++ Fa) := p.wf2.perm t2
  have wf' : WF H1 Z1 (Fa ++ Fr) := wf.perm List.perm_append_comm
  have ela : ds.length = as.length := argDs_len ea
  have fin : ∀ (v : V) (H' : Hp) (Z'' Z' : Addr → Prop) (Fret Ff : List Addr), Evo H1 Z1 (Fa ++ Fr) H' Z'' ((Fret ++ Ff) ++ Fr) → Keeps Z1 Z'' H1 H' Fr → Rep K [] Z'' H' d v Fret → FinR K Z'' H' as ds' vs Ff → Reps K [] Z' H' ds' vs Ff → Q v H' := fun v H' Z'' Z' Fret Ff ev ke rr fr rp => by
    obtain ⟨F'', G, b1, b2, b3⟩ := t5 Z'' H' ds' Ff ke fr
    have hb : hbS η.length (backA as ds' ρ1).s := hbS_backA p.rep.1.hb (nohL_hb ds' (hbL_noh ds' rp.hb))
    have b4 : RepE AL K η Z'' H' (killE AL (belowA as) (backA as ds' ρ1)) σ γ1 F'' := by
      refine ⟨(b1.eta (m := η.length) (fun i hi => (List.getElem?_append_left hi).symm) hb).kill, fun i r1 q1 ea => ?_⟩
      obtain ⟨ea, hn⟩ := kill_al ea
      obtain ⟨ha, w0, w, x, h1, h2, h3, h4⟩ := p.rep.2 i r1 q1 (backA_al ea)
      have hn := hn ha
      obtain ⟨y, hy⟩ := t6 r1 q1 x hn h4
      obtain ⟨_, _, A', F1, B', _, _, e3, _, _, g6⟩ := t1.getPX hy
      obtain ⟨y2, hy2⟩ := getP_backA_some as (ds' := ds') got ap hn h4
      exact ⟨ha, w0, w, y2, h1, h2, g6 r1 q1 y w0 w hy (app_at h2) h3 (fun b => not_blw_self b.2) Z'' H' (ke.mono fun a m => by rw [e3]; simp at m ⊢; rcases m with m | m <;> simp [m]), by rw [getP_kill]; exact hy2⟩
    refine q v H' Z'' γ1 F'' Fret ⟨?_, p.gl, p.fx, b4, killE_nl.trans (backA_nl.trans p.nl)⟩ (rr.any rr.noh0)
    have e1 : Evo H1 Z1 (Fe ++ Fo) H' Z'' ((Fret ++ Ff) ++ Fr) := ev.permL (List.perm_append_comm.trans t2.symm)
    have e2 : Evo H1 Z1 (Fe ++ Fo) H' Z'' ((Fret ++ Fr) ++ Ff) := e1.perm (by
      rw [List.append_assoc, List.append_assoc]; exact List.perm_append_comm.append_left _)
    have e3 := e2.drop (List.Sublist.append (List.Sublist.refl (Fret ++ Fr)) b3)
    refine p.evo.trans (e3.perm ?_)
    rw [List.append_assoc]
    exact (b2.symm.append_left Fret).trans List.perm_append_comm
  cases hro : hasRo as with
  | false =>
    refine ⟨Z1, Fa, t4 Z1 (fun _ z => z) (fun e => absurd (hro ▸ e) (by simp)), wf.right, el.trans ela.symm, fun v H' Z' Fret Ff ev rr rf => ?_⟩
    exact fin v H' Z' Z' Fret Ff (ev.frame wf') (ev.keeps wf') rr (rf.finR el) rf
  | true =>
    have ok2 : (!hasRo as || (d.cln && finCln as ds')) = true := ok
    rw [hro] at ok2
    have ok' : d.cln = true ∧ finCln as ds' = true := by simpa only [Bool.not_true, Bool.false_or, Bool.and_eq_true] using ok2
    have wf2 : WF H1 (fun a => Z1 a ∨ a ∈ Fr) Fa := ⟨wf.right.nd, wf.right.pm, fun a m z => z.elim (wf.right.dz a m) (fun r => wf'.apart m r), fun a z => z.elim (wf.zt a) (fun r e => by
      obtain ⟨o, e1, _⟩ := wf.left.pm a r
      rw [e] at e1; cases e1)⟩
    refine ⟨fun a => Z1 a ∨ a ∈ Fr, Fa, t4 _ (fun _ z => .inl z) (fun _ a m => .inr m), wf2, el.trans ela.symm, fun v H' Z' Fret Ff ev rr rf => ?_⟩
    refine fin v H' Z1 Z' Fret Ff (ev.unmark (fun _ z => .inl z) wf') ⟨fun a m o e => ev.keep a o e fun q => wf'.apart q m, fun a o z e => ev.keep a o e fun q => wf.right.dz a q z, fun a o e np => ev.keep a o e fun q => ?_, fun _ z => z⟩ (rr.clnZ ok'.1) (rf.finRo el ok'.2) rf
    obtain ⟨o', e1, p1⟩ := wf.right.pm a q
    rw [e] at e1; cases e1; exact np p1
end
end Pv

/-! Pv, part M: calls of the program's own defs, built-in methods. -/
namespace Pv
open PySem PySem.Spec PyProof.Rows L2
theorem pass00 {X : Cx} {CX : CXT} {E : XK} (h : CX = L2.CX0) : Passes CX X E := by
  subst h
  exact fun _ _ _ _ _ _ _ h => h.elim
/-- a def is there and keeps its promise -/
def FnGood (X : Cx) (CX : CXT) (k : Nat) (sp : Sp) (fa : Addr) : Prop := ∃ fd ps, FnOk X.prog X.w X.K X.mg X.base CX k fa fd ps sp ∧ Binds X.K fd ps []
structure CallsOk (X : Cx) (cl cm : CallT) : Prop where
  fn : ∀ (f : Str) ds r, cl (f, none) ds = r → r ≠ .no → ∃ fa CX k, FnGood X CX k (SpC X.K cl (f, none)) fa ∧ CX = L2.CX0 ∧ Room k X.A ∧ X.mg f = some (.ref fa) ∧ PySem.W.keepIn X.K (.ref fa) = true
  me : ∀ (c m : Str) ds r, cl (c, some m) ds = r → r ≠ .no → ∃ fa CX k, FnGood X CX k (SpC X.K cl (c, some m)) fa ∧ CX = L2.CX0 ∧ Room k X.A ∧ Meth X.K (He.ga X.K c) m fa
  mke : ∀ (c : Str) ds r, cm (c, some "__init__") ds = r → r ≠ .no → ∃ fa CX k, FnGood X CX k (SpC X.K cm (c, some "__init__")) fa ∧ CX = L2.CX0 ∧ Room (k + 1) X.A ∧ X.mg c = some (.ref (He.ga X.K c)) ∧ Mk X.K (He.ga X.K c) fa
section
variable {X : Cx} {T : Tab} {cl cm : CallT} {n : Nat} {fx : List Nat}
variable {K : PySem.W.Frag} {η : List V} {σ : L2.St} {H H1 H2 : Hp} {Z Z1 Z2 : Addr → Prop} {F Fe1 Fo1 Fe2 Fo2 : List Addr} {γ γ1 γ2 : L2.St} {ρ ρ1 ρ2 : Env}
theorem doCall_ok {f : FId} {as : List (Bool × Od)} {o : Od} {ρ' : Env} {A : AlT} (h : doCall A cl f as ρ = .ok o ρ') :
    apartA as = true ∧ ∃ ds d l, argDs ρ as = some ds ∧ cl f ds = .ok d l ∧ okRo as d l = true ∧ l.length = as.length ∧ o = .v d ∧ ρ' = killE A (belowA as) (backA as l ρ) := by
  unfold doCall at h
  split at h
  · rename_i ha
    split at h
    · rename_i ds hds
      split at h
      · rename_i d l hc
        split at h
        · rename_i hk
          simp only [Bool.and_eq_true, decide_eq_true_eq] at hk
          cases h
          exact ⟨ha, ds, d, l, hds, hc, hk.1, hk.2, rfl, rfl⟩
        · cases h
      · cases h
      · cases h
    · cases h
  · cases h
theorem zip_snd {l : List Ex} {os : List Od} (h : os.length = l.length) : (((l.map Ex.isRo).zip os).map Prod.snd) = os := by
  rw [List.map_snd_zip]; simp [h]
/-- the arguments, then the call -/
theorem RE.call {f : Str} {l : List Ex} {Q : VK} {E : XK} {ρ' : Env} {o : Od} (hn : σ.length = n ∧ ρ.nl = η.length) (rs : RepE T.al K η Z H ρ σ γ F) (w : WF H Z F)
    (ev : evalO T cl cm (.call f l) fx ρ = .ok o ρ') (q : ∀ v H' Z' γ' Fe Fo, Pst T.al K η σ fx H Z F γ H' Z' γ' ρ' Fe Fo → OdR K η Z' H' σ o v Fo → Q v H') :
    RA T cl cm K n fx l σ H fun vs H1 => SpC K cl (f, none) (vs ++ []) H1 Q E := by
  simp only [evalO] at ev
  obtain ⟨os, ρ1, e1, e2⟩ := Res.bind_ok ev
  obtain ⟨ap, ds, d, ds', ea, ec, ok, el, rfl, rfl⟩ := doCall_ok e2
  refine ⟨ρ, η, γ, Z, F, hn, rs, w, os, ρ1, e1, fun vs H1 Z1 γ1 Fe1 Fo1 p1 od1 _ => ?_⟩
  show SpC K cl (f, none) (vs ++ []) H1 Q E
  rw [List.append_nil]
  exact (callG p1 (by rw [zip_snd (ra_len e1)]; exact od1) ap ea ok el fun v H' Z' γ' Fe' Fo' p r => q v H' Z' γ' Fe' Fo' p r).c ec
theorem call_fn {f : Str} {l : List Ex} {o : Od} {ρ' : Env} (ev : evalO T cl cm (.call f l) fx ρ = .ok o ρ') : ∃ ds d l', cl (f, none) ds = .ok d l' := by
  simp only [evalO] at ev
  obtain ⟨os, ρ1, e1, e2⟩ := Res.bind_ok ev
  obtain ⟨ap, ds, d, ds', ea, ec, _⟩ := doCall_ok e2
  exact ⟨ds, d, ds', ec⟩
theorem re_call (C : CallsOk X cl cm) {f : Str} {p pos : Pos} {e : Expr} {es : List Expr} {l : List Ex} (hg : Gl X f) (hdb : (f == ("__debug__" : Str)) = false) (ha : PA X (e :: es) (RA T cl cm X.K n fx l))
    (he : starEach (e :: es) X.env = (false, eval e X.env) :: starEach es X.env) (hpl : (backTo pos (starEach es X.env)).any (·.1) = false) :
    PE X (.Call (.Name f p) (e :: es) [] pos) (RE T cl cm X.K n fx (.call f l)) := by
  refine ⟨fun pins s σ H Q I h => ?_⟩
  obtain ⟨ρ, η, γ, Z, F, hn, rs, w, o, ρ', ev, q⟩ := h
  obtain ⟨ds, d, l', hc⟩ := call_fn ev
  obtain ⟨fa, CX, k, ⟨fd, ps, hF, hb⟩, hx, hr, hm, hk⟩ := C.fn f ds _ hc (fun z => nomatch z)
  exact (pe_call (E := fun _ _ _ => False) hF hr hg hm hk hb .nil (pass00 hx) ha hdb he hpl).run pins s σ H Q I (RE.call hn rs w ev fun v H' Z' γ' Fe Fo p r => q v H' Z' γ' Fe Fo p r fun z => by simp [Ex.pur] at z)
/-- defs with defaults -/
def DflOk (X : Cx) (T : Tab) (cl : CallT) : Prop := ∀ (f : Str) (ks : List Int), T.dfl.lookup f = some ks → ∀ ds r, cl (f, none) ds = r → r ≠ .no → ∃ fa CX k fd ps, FnOk X.prog X.w X.K X.mg X.base CX k fa fd ps (SpC X.K cl (f, none)) ∧
  (∀ j, j ≤ ks.length → ∃ us, Vals ((ks.drop j).map V.int) us ∧ Binds X.K fd ps us) ∧ CX = L2.CX0 ∧ Room k X.A ∧ X.mg f = some (.ref fa) ∧ PySem.W.keepIn X.K (.ref fa) = true
theorem evalOs_ints : ∀ (ks : List Int) (ρ : Env), evalOs T cl cm (ks.map .int) fx ρ = .ok (ks.map fun i => .v (.int i)) ρ
  | [], ρ => by simp only [List.map_nil, evalOs]
  | i :: ks, ρ => by simp only [List.map_cons, evalOs, evalO, Res.bind, Od.okb, if_true, evalOs_ints ks ρ]
theorem purL_ints : ∀ (l : List Ex) (ks : List Int), purL (l ++ ks.map .int) = purL l
  | [], [] => rfl
  | [], i :: ks => by
    have := purL_ints [] ks
    simp only [List.nil_append] at this
    simp [purL, Ex.pur, this]
  | e :: l, ks => by simp [purL, purL_ints l ks]
theorem evalOs_app : ∀ {l : List Ex} {ks : List Int} {ρ ρ1 : Env} {os : List Od}, evalOs T cl cm (l ++ ks.map .int) fx ρ = .ok os ρ1 → ∃ os1, evalOs T cl cm l fx ρ = .ok os1 ρ1 ∧ os = os1 ++ ks.map fun i => .v (.int i)
  | [], ks, ρ, ρ1, os, h => by
    rw [List.nil_append, evalOs_ints] at h
    cases h
    exact ⟨[], by simp only [evalOs], rfl⟩
  | e :: l, ks, ρ, ρ1, os, h => by
    simp only [List.cons_append, evalOs, purL_ints] at h
    obtain ⟨o, ρ2, e1, e2⟩ := Res.bind_ok h
    split at e2
    · rename_i hk
      obtain ⟨os', ρ3, e3, e4⟩ := Res.bind_ok e2
      cases e4
      obtain ⟨os1, e5, rfl⟩ := evalOs_app e3
      exact ⟨o :: os1, by simp only [evalOs, e1, Res.bind, hk, if_true, e5], rfl⟩
    · cases e2
theorem OdsR.ints : ∀ {os : List Od} {vs : List V} {Fo : List Addr} (ks : List Int), OdsR K η Z H σ os vs Fo → OdsR K η Z H σ (os ++ ks.map fun i => .v (.int i)) (vs ++ ks.map V.int) Fo
  | [], vs, Fo, [], h => by
    obtain ⟨rfl, rfl⟩ := h
    exact ⟨rfl, rfl⟩
  | [], vs, Fo, i :: ks, h => by
    obtain ⟨rfl, rfl⟩ := h
    exact ⟨.int i, _, [], [], rfl, ⟨rfl, rfl⟩, OdsR.ints (os := []) (vs := []) (Fo := []) ks ⟨rfl, rfl⟩, rfl⟩
  | o :: os, vs, Fo, ks, h => by
    obtain ⟨v, vs', F1, F2, rfl, h1, h2, rfl⟩ := h
    exact ⟨v, _, F1, F2, rfl, h1, OdsR.ints ks h2, rfl⟩
theorem RE.callD {f : Str} {l : List Ex} {ks : List Int} {Q : VK} {E : XK} {ρ' : Env} {o : Od} (hn : σ.length = n ∧ ρ.nl = η.length) (rs : RepE T.al K η Z H ρ σ γ F) (w : WF H Z F)
    (ev : evalO T cl cm (.call f (l ++ ks.map .int)) fx ρ = .ok o ρ') (q : ∀ v H' Z' γ' Fe Fo, Pst T.al K η σ fx H Z F γ H' Z' γ' ρ' Fe Fo → OdR K η Z' H' σ o v Fo → Q v H') :
    RA T cl cm K n fx l σ H fun vs H1 => SpC K cl (f, none) (vs ++ ks.map V.int) H1 Q E := by
  simp only [evalO] at ev
  obtain ⟨os, ρ1, e1, e2⟩ := Res.bind_ok ev
  obtain ⟨ap, ds, d, ds', ea, ec, ok, el, rfl, rfl⟩ := doCall_ok e2
  obtain ⟨os1, e3, rfl⟩ := evalOs_app e1
  refine ⟨ρ, η, γ, Z, F, hn, rs, w, os1, ρ1, e3, fun vs H1 Z1 γ1 Fe1 Fo1 p1 od1 _ => ?_⟩
  show SpC K cl (f, none) (vs ++ ks.map V.int) H1 Q E
  exact (callG p1 (by rw [zip_snd (ra_len e1)]; exact od1.ints ks) ap ea ok el fun v H' Z' γ' Fe' Fo' p r => q v H' Z' γ' Fe' Fo' p r).c ec
theorem re_callD (C : DflOk X T cl) {f : Str} {p pos : Pos} {e : Expr} {es : List Expr} {l : List Ex} {ks : List Int} {j : Nat} (hk : T.dfl.lookup f = some ks) (hj : j ≤ ks.length) (hg : Gl X f) (hdb : (f == ("__debug__" : Str)) = false) (ha : PA X (e :: es) (RA T cl cm X.K n fx l))
    (he : starEach (e :: es) X.env = (false, eval e X.env) :: starEach es X.env) (hpl : (backTo pos (starEach es X.env)).any (·.1) = false) :
    PE X (.Call (.Name f p) (e :: es) [] pos) (RE T cl cm X.K n fx (.call f (l ++ (ks.drop j).map .int))) := by
  refine ⟨fun pins s σ H Q I h => ?_⟩
  obtain ⟨ρ, η, γ, Z, F, hn, rs, w, o, ρ', ev, q⟩ := h
  obtain ⟨ds, d, l', hc⟩ := call_fn ev
  obtain ⟨fa, CX, k, fd, ps, hF, hb, hx, hr, hm, hkp⟩ := C f ks hk ds _ hc (fun z => nomatch z)
  obtain ⟨us, hv, hb⟩ := hb j hj
  exact (pe_call (E := fun _ _ _ => False) hF hr hg hm hkp hb hv (pass00 hx) ha hdb he hpl).run pins s σ H Q I (RE.callD hn rs w ev fun v H' Z' γ' Fe Fo p r => q v H' Z' γ' Fe Fo p r fun z => by simp [Ex.pur] at z)
/-- defs that are called by their last parameter's name -/
def kG {α : Type} (us ws : List α) : List α := if ws.length = 1 then us ++ ws else []
def KwOk (X : Cx) (T : Tab) (cl : CallT) : Prop := ∀ (f a : Str), T.kwn.lookup f = some a → ∀ ds r, cl (f, none) ds = r → r ≠ .no → ∃ fa CX k fd ps, FnOk X.prog X.w X.K X.mg X.base CX k fa fd ps (SpC X.K cl (f, none)) ∧
  KBinds X.K fd ps [a] kG kG ∧ CX = L2.CX0 ∧ Room k X.A ∧ X.mg f = some (.ref fa) ∧ PySem.W.keepIn X.K (.ref fa) = true
theorem re_callK (C : KwOk X T cl) {f a : Str} {p pos q1 q2 : Pos} {kk : Nat} {i : Int} {e : Expr} {es : List Expr} {l : List Ex} (hk : T.kwn.lookup f = some a) (hg : Gl X f) (hdb : (f == ("__debug__" : Str)) = false) (ha : PA X (e :: es) (RA T cl cm X.K n fx l))
    (he : starEach (e :: es) X.env = (false, eval e X.env) :: starEach es X.env) (hpl : (backTo pos (starEach (e :: es) X.env)).any (·.1) = false) :
    PE X (.Call (.Name f p) (e :: es) [⟨some a, .Constant (.int i) kk q1, q2⟩] pos) (RE T cl cm X.K n fx (.call f (l ++ [i].map .int))) := by
  refine ⟨fun pins s σ H Q I h => ?_⟩
  obtain ⟨ρ, η, γ, Z, F, hn, rs, w, o, ρ', ev, q⟩ := h
  obtain ⟨ds, d, l', hc⟩ := call_fn ev
  obtain ⟨fa, CX, k, fd, ps, hF, hb, hx, hr, hm, hkp⟩ := C f a hk ds _ hc (fun z => nomatch z)
  refine (pe_callK (E := fun _ _ _ => False) hF hr hg hm hkp hb (pass00 hx) ha (pk_cons pe_int pk_nil) rfl rfl hdb he (by rw [hpl]; rfl)).run pins s σ H Q I ?_
  have := RE.callD (ks := [i]) (E := fun _ _ _ => False) hn rs w ev fun v H' Z' γ' Fe Fo p r => q v H' Z' γ' Fe Fo p r fun z => by simp [Ex.pur] at z
  exact this
theorem re_call0 (C : CallsOk X cl cm) {f : Str} {p pos : Pos} (hg : Gl X f) (hdb : (f == ("__debug__" : Str)) = false) :
    PE X (.Call (.Name f p) [] [] pos) (RE T cl cm X.K n fx (.call f [])) := by
  refine ⟨fun pins s σ H Q I h => ?_⟩
  obtain ⟨ρ, η, γ, Z, F, hn, rs, w, o, ρ', ev, q⟩ := h
  obtain ⟨ds, d, l', hc⟩ := call_fn ev
  obtain ⟨fa, CX, k, ⟨fd, ps, hF, hb⟩, hx, hr, hm, hk⟩ := C.fn f ds _ hc (fun z => nomatch z)
  refine (pe_call0 (E := fun _ _ _ => False) hF hr hg hm hk hb .nil (pass00 hx) hdb).run pins s σ H Q I ?_
  have := RE.call (E := fun _ _ _ => False) hn rs w ev fun v H' Z' γ' Fe Fo p r => q v H' Z' γ' Fe Fo p r fun z => by simp [Ex.pur] at z
  obtain ⟨ρ, η, γ, Z, F, hn, rs, w, os, ρ', ev, q⟩ := this
  simp only [evalOs] at ev
  cases ev
  exact q [] H Z γ F [] (Pst.refl hn.2 rs w) ⟨rfl, rfl⟩ fun _ => ⟨Same.refl _, rfl⟩
theorem zip_none {m : Str} : ∀ {ns : List Str} {vs : List V}, ns.contains m = false → (ns.zip vs).lookup m = none
  | [], _, _ => rfl
  | _ :: _, [], _ => rfl
  | a :: ns, v :: vs, h => by
    simp only [List.contains_cons, Bool.or_eq_false_iff] at h
    simp only [List.zip_cons_cons, List.lookup, h.1]
    exact zip_none h.2
theorem meth_fn {eo : Ex} {m : Str} {l : List Ex} {o : Od} {ρ' : Env} (ev : evalO T cl cm (.meth eo m l) fx ρ = .ok o ρ') : ∃ c x ρ1 z ns d, evalO T cl cm eo fx ρ = .ok x ρ1 ∧ x.rd ρ1 = some (.ins z c ns d) ∧ ∃ ds d l', cl (c, some m) ds = .ok d l' := by
  simp only [evalO] at ev
  obtain ⟨x, ρ1, e1, e2⟩ := Res.bind_ok ev
  split at e2
  · rename_i z c ns l0 hd
    split at e2
    · obtain ⟨os, ρ2, e3, e4⟩ := Res.bind_ok e2
      split at e4
      · obtain ⟨ap, ds, d, ds', ea, ec, _⟩ := doCall_ok e4
        exact ⟨c, x, ρ1, z, ns, l0, e1, hd, ds, d, ds', ec⟩
      · cases e4
    · cases e2
  · cases e2
theorem RE.meth {eo : Ex} {m c : Str} {l : List Ex} {Q : VK} {E : XK} {ρ' : Env} {o : Od} (hn : σ.length = n ∧ ρ.nl = η.length) (rs : RepE T.al K η Z H ρ σ γ F) (w : WF H Z F)
    (ev : evalO T cl cm (.meth eo m l) fx ρ = .ok o ρ') {x0 : Od} {ρ0 : Env} {z0 : Bool} {ns0 : List Str} {l0 : List D} (h0 : evalO T cl cm eo fx ρ = .ok x0 ρ0) (h1 : x0.rd ρ0 = some (.ins z0 c ns0 l0))
    (q : ∀ v H' Z' γ' Fe Fo, Pst T.al K η σ fx H Z F γ H' Z' γ' ρ' Fe Fo → OdR K η Z' H' σ o v Fo → Q v H') :
    RE T cl cm K n fx eo σ H fun x H1 => ∃ a dx fs, x = .ref a ∧ H1 a = some (.ins (He.ga K c) dx fs) ∧ fs.lookup m = none ∧ RA T cl cm K n fx l σ H1 fun vs H2 => SpC K cl (c, some m) (x :: (vs ++ [])) H2 Q E := by
  simp only [evalO] at ev
  obtain ⟨x, ρ1, e1, e2⟩ := Res.bind_ok ev
  rw [e1] at h0
  cases h0
  refine ⟨ρ, η, γ, Z, F, hn, rs, w, x0, ρ0, e1, fun v H1 Z1 γ1 Fe1 Fo1 p1 od1 pu1 => ?_⟩
  rw [h1] at e2
  simp only [] at e2
  split at e2
  · rename_i hk
    simp only [Bool.and_eq_true, Bool.not_eq_true'] at hk
    obtain ⟨Fx, rx, hx⟩ := od1.use (ρ2 := ρ0) (b := true) (Same.keeps (Same.refl _)) p1.rep od_self (fun _ => Same.refl _) h1
    obtain ⟨b, dx, vs, F', rfl, hb, hl, r, sb⟩ := rx.insI
    refine ⟨b, dx, _, rfl, hb, zip_none hk.2, ?_⟩
    obtain ⟨os, ρ2, e3, e4⟩ := Res.bind_ok e2
    split at e4
    · rename_i ho
      obtain ⟨ap, ds, d, ds', ea, ec, ok, el, rfl, rfl⟩ := doCall_ok e4
      refine ⟨ρ0, η, γ1, Z1, Fe1, ⟨hn.1, p1.nl⟩, p1.rep, p1.wf, os, ρ2, e3, fun vs H2 Z2 γ2 Fe2 Fo2 p2 od2 pu2 => ?_⟩
      show SpC K cl (c, some m) (_ :: (vs ++ [])) H2 Q E
      rw [List.append_nil]
      have odx := od1.later (b := purL l) (p1.keeps p2) ho (fun z => (pu2 z).1)
      have ps := (p1.seq p2).perm (Fo' := Fo1 ++ Fo2) List.perm_append_comm
      refine (callG (vs := V.ref b :: vs) ps ?_ ap ea ok el fun v H' Z' γ' Fe' Fo' p r => q v H' Z' γ' Fe' Fo' p r).c ec
      rw [zip_snd (by simp [ra_len e3])]
      exact ⟨_, _, Fo1, Fo2, rfl, odx, od2, rfl⟩
    · cases e4
  · cases e2
/-- how a call of a method is read -/
def MethRead (X : Cx) (o : Expr) (m : Str) (apos pos : Pos) (es : List Expr) : Prop := ∃ pl : Sem Bool, eval (.Call (.Attribute o m apos) es [] pos) X.env = (do
      let ov ← eval o X.env
      standAt apos.atName
      let (f, first) ← holding [ov] (getMethod ov m pl)
      callWith pos f first (backTo pos (starEach es X.env)) (backToKw pos (keywordEach [] X.env)))
theorem methRead {X : Cx} {o : Expr} {m : Str} {apos pos : Pos} {es : List Expr} (hbase : attributeBase o m X.env (eval o X.env) = eval o X.env)
    (hfew : ((backTo pos (starEach es X.env)).all (fun x => !x.1) && (backToKw pos (keywordEach [] X.env)).all (fun x => x.1.isSome)
      && decide (es.length + ([] : List Keyword).length + (if ([] : List Keyword).isEmpty then 0 else 1) < 30)) = true)
    (hline : (apos.endLine == pos.line) = true) : MethRead X o m apos pos es := by
  refine ⟨do return (← importBound o X.env).getD true, ?_⟩
  rw [arm_eval_Call, hbase]
  have hform : methodCallForm (es.length + ([] : List Keyword).length) (backTo pos (starEach es X.env)) (backToKw pos (keywordEach [] X.env)) = true := hfew
  have hpos : methodCallPos true o X.env apos pos = pure pos := by unfold methodCallPos; simp [hline]
  unfold methodCall
  rw [hform, hpos]
  simp only [pure_bind]
  rfl
theorem meth_cls {eo : Ex} {m : Str} {l : List Ex} {o : Od} {ρ' : Env} {x0 : Od} {ρ0 : Env} {z0 : Bool} {c : Str} {ns0 : List Str} {l0 : List D} (ev : evalO T cl cm (.meth eo m l) fx ρ = .ok o ρ') (h0 : evalO T cl cm eo fx ρ = .ok x0 ρ0) (h1 : x0.rd ρ0 = some (.ins z0 c ns0 l0)) : T.cls.contains c = true := by
  simp only [evalO] at ev
  obtain ⟨x, ρ1, e1, e2⟩ := Res.bind_ok ev
  rw [e1] at h0
  cases h0
  rw [h1] at e2
  simp only [] at e2
  split at e2
  · rename_i hk
    simp only [Bool.and_eq_true] at hk
    exact hk.1
  · cases e2
theorem re_meth (hc : ClsOk X.K T) (C : CallsOk X cl cm) {eo : Ex} {m : Str} {o e : Expr} {apos pos : Pos} {es : List Expr} {l : List Ex} (ho : PE X o (RE T cl cm X.K n fx eo)) (ha : PA X (e :: es) (RA T cl cm X.K n fx l)) (hm : MethRead X o m apos pos (e :: es))
    (he : starEach (e :: es) X.env = (false, eval e X.env) :: starEach es X.env) (hpl : (backTo pos (starEach es X.env)).any (·.1) = false) :
    PE X (.Call (.Attribute o m apos) (e :: es) [] pos) (RE T cl cm X.K n fx (.meth eo m l)) := by
  obtain ⟨pl, hm⟩ := hm
  refine ⟨fun pins s σ H Q I h => ?_⟩
  obtain ⟨ρ, η, γ, Z, F, hn, rs, w, o, ρ', ev, q⟩ := h
  obtain ⟨c, x0, ρ0, z0, ns0, l0, h0, h1, ds, d, l', hcc⟩ := meth_fn ev
  obtain ⟨fa, CX, k, ⟨fd, ps, hF, hb⟩, hx, hr, hM⟩ := C.me c m ds _ hcc (fun z => nomatch z)
  exact (pe_meth (E := fun _ _ _ => False) ho (hc.cls c (meth_cls ev h0 h1)) hM hF hr hb .nil (pass00 hx) ha he hpl hm).run pins s σ H Q I (RE.meth hn rs w ev h0 h1 fun v H' Z' γ' Fe Fo p r => q v H' Z' γ' Fe Fo p r fun z => by simp [Ex.pur] at z)
theorem re_meth0 (hc : ClsOk X.K T) (C : CallsOk X cl cm) {eo : Ex} {m : Str} {o : Expr} {apos pos : Pos} (ho : PE X o (RE T cl cm X.K n fx eo)) (hm : MethRead X o m apos pos []) :
    PE X (.Call (.Attribute o m apos) [] [] pos) (RE T cl cm X.K n fx (.meth eo m [])) := by
  obtain ⟨pl, hm⟩ := hm
  refine ⟨fun pins s σ H Q I h => ?_⟩
  obtain ⟨ρ, η, γ, Z, F, hn, rs, w, o, ρ', ev, q⟩ := h
  obtain ⟨c, x0, ρ0, z0, ns0, l0, h0, h1, ds, d, l', hcc⟩ := meth_fn ev
  obtain ⟨fa, CX, k, ⟨fd, ps, hF, hb⟩, hx, hr, hM⟩ := C.me c m ds _ hcc (fun z => nomatch z)
  refine (pe_meth0 (E := fun _ _ _ => False) ho (hc.cls c (meth_cls ev h0 h1)) hM hF hr hb .nil (pass00 hx) hm).run pins s σ H Q I ?_
  obtain ⟨ρ, η, γ, Z, F, hn, rs, w, o, ρ', ev, q⟩ := RE.meth (E := fun _ _ _ => False) hn rs w ev h0 h1 fun v H' Z' γ' Fe Fo p r => q v H' Z' γ' Fe Fo p r fun z => by simp [Ex.pur] at z
  refine ⟨ρ, η, γ, Z, F, hn, rs, w, o, ρ', ev, fun v H' Z' γ' Fe Fo p r pu => ?_⟩
  obtain ⟨a, dx, fs, e1, e2, e3, ρ, η, γ, Z, F, hn, rs, w, os, ρ', ev, q⟩ := q v H' Z' γ' Fe Fo p r pu
  refine ⟨a, dx, fs, e1, e2, e3, ?_⟩
  simp only [evalOs] at ev
  cases ev
  exact q [] _ Z γ F [] (Pst.refl hn.2 rs w) ⟨rfl, rfl⟩ fun _ => ⟨Same.refl _, rfl⟩

/-! ### a new object -/
theorem make_ok {c : Str} {l : List Ex} {o : Od} {ρ' : Env} (ev : evalO T cl cm (.make c l) fx ρ = .ok o ρ') : ∃ os ρ1 ds d ds', evalOs T cl cm l fx ρ = .ok os ρ1 ∧ argDs ρ1 ((l.map Ex.isRo).zip os) = some ds ∧ apartA ((l.map Ex.isRo).zip os) = true ∧
    cm (c, some "__init__") (.ins false c [] [] :: ds) = .ok .non (d :: ds') ∧ okRo ((l.map Ex.isRo).zip os) d ds' = true ∧ ds'.length = os.length ∧ o = .v d ∧ ρ' = killE T.al (belowA ((l.map Ex.isRo).zip os)) (backA ((l.map Ex.isRo).zip os) ds' ρ1) := by
  simp only [evalO] at ev
  obtain ⟨os, ρ1, e1, e2⟩ := Res.bind_ok ev
  split at e2
  · rename_i ds hds
    split at e2
    · rename_i ha
      split at e2
      · rename_i d ds' hc
        split at e2
        · rename_i hk
          simp only [Bool.and_eq_true, decide_eq_true_eq] at hk
          cases e2
          exact ⟨os, ρ1, ds, d, ds', e1, hds, ha, hc, hk.1, hk.2, rfl, rfl⟩
        · cases e2
      · cases e2
    · cases e2
  · cases e2
theorem RE.make {c : Str} {l : List Ex} {Q : VK} {E : XK} {ρ' : Env} {o : Od} (hn : σ.length = n ∧ ρ.nl = η.length) (rs : RepE T.al K η Z H ρ σ γ F) (w : WF H Z F)
    (ev : evalO T cl cm (.make c l) fx ρ = .ok o ρ') (q : ∀ v H' Z' γ' Fe Fo, Pst T.al K η σ fx H Z F γ H' Z' γ' ρ' Fe Fo → OdR K η Z' H' σ o v Fo → Q v H') :
    RA T cl cm K n fx l σ H fun vs H1 => ∀ x dx, H1 x = none → H1 dx = none → dx ≠ x →
      SpC K cm (c, some "__init__") (.ref x :: (vs ++ [])) (upd (upd H1 dx (.own x)) x (.ins (He.ga K c) dx [])) (fun v H2 => v = .non ∧ Q (.ref x) H2) E := by
  obtain ⟨os, ρ1, ds, d, ds', e1, ea, ap, ec, ok, el, rfl, rfl⟩ := make_ok ev
  refine ⟨ρ, η, γ, Z, F, hn, rs, w, os, ρ1, e1, fun vs H1 Z1 γ1 Fe1 Fo1 p1 od1 _ x dx hx hdx hne => ?_⟩
  have elz : ds'.length = ((l.map Ex.isRo).zip os).length := by simp [el, ra_len e1]
  obtain ⟨Z2, F2, g1, g2, g3, g4⟩ := callG p1 (by rw [zip_snd (ra_len e1)]; exact od1) ap ea ok elz fun v H' Z' γ' Fe' Fo' p r => q v H' Z' γ' Fe' Fo' p r
  rw [List.append_nil]
  have hx2 : upd H1 dx (.own x) x = none := by rw [upd_ne (Ne.symm hne)]; exact hx
  have sm : Same H1 (upd (upd H1 dx (.own x)) x (.ins (He.ga K c) dx [])) := (Same.new hdx).trans (Same.new hx2)
  have ev1 := Evo.fresh g2 sm (Fn := [x]) (by simp) (by simpa using hx) (fun a m => by
    obtain rfl : a = x := by simpa using m
    exact ⟨_, upd_same, trivial⟩)
  have ev2 := ev1.perm (G := [x] ++ F2) List.perm_append_comm
  refine ⟨Z2, .ins false c [] [] :: ds, [x] ++ F2, _, _, ⟨.ref x, vs, [x], F2, rfl, ⟨x, dx, [], [], rfl, ⟨rfl, rfl⟩, rfl, upd_same, rfl⟩, g1.keep (F0 := F2) (Same.keeps sm) (fun _ m => m), rfl⟩, ev2.wf, ec, by simp [g3], fun v H' Z' Fr Ff ev3 r1 r2 => ?_⟩
  obtain ⟨rfl, rfl⟩ := r1
  obtain ⟨v, vs', Fa, Fb, e2, r3, r4, rfl⟩ := r2
  cases e2
  exact ⟨rfl, g4 (.ref x) H' Z' Fa Fb (ev2.trans (by simpa using ev3)) r3 r4⟩
theorem re_make (C : CallsOk X cl cm) {c : Str} {p pos : Pos} {e : Expr} {es : List Expr} {l : List Ex} (hg : Gl X c) (hdb : (c == ("__debug__" : Str)) = false) (ha : PA X (e :: es) (RA T cl cm X.K n fx l))
    (he : starEach (e :: es) X.env = (false, eval e X.env) :: starEach es X.env) (hpl : (backTo pos (starEach es X.env)).any (·.1) = false) :
    PE X (.Call (.Name c p) (e :: es) [] pos) (RE T cl cm X.K n fx (.make c l)) := by
  refine ⟨fun pins s σ H Q I h => ?_⟩
  obtain ⟨ρ, η, γ, Z, F, hn, rs, w, o, ρ', ev, q⟩ := h
  obtain ⟨os, ρ1, ds, d, ds', e1, ea, ap, ec, _⟩ := make_ok ev
  obtain ⟨fa, CX, k, ⟨fd, ps, hF, hb⟩, hx, hr, hm, hM⟩ := C.mke c _ _ ec (fun z => nomatch z)
  exact (pe_make (E := fun _ _ _ => False) hM hF hr hg hm hb .nil (pass00 hx) ha hdb he hpl).run pins s σ H Q I (RE.make hn rs w ev fun v H' Z' γ' Fe Fo p r => q v H' Z' γ' Fe Fo p r fun z => by simp [Ex.pur] at z)
theorem re_make0 (C : CallsOk X cl cm) {c : Str} {p pos : Pos} (hg : Gl X c) (hdb : (c == ("__debug__" : Str)) = false) :
    PE X (.Call (.Name c p) [] [] pos) (RE T cl cm X.K n fx (.make c [])) := by
  refine ⟨fun pins s σ H Q I h => ?_⟩
  obtain ⟨ρ, η, γ, Z, F, hn, rs, w, o, ρ', ev, q⟩ := h
  obtain ⟨os, ρ1, ds, d, ds', e1, ea, ap, ec, _⟩ := make_ok ev
  obtain ⟨fa, CX, k, ⟨fd, ps, hF, hb⟩, hx, hr, hm, hM⟩ := C.mke c _ _ ec (fun z => nomatch z)
  refine (pe_make0 (E := fun _ _ _ => False) hM hF hr hg hm hb .nil (pass00 hx) hdb).run pins s σ H Q I ?_
  have := RE.make (E := fun _ _ _ => False) hn rs w ev fun v H' Z' γ' Fe Fo p r => q v H' Z' γ' Fe Fo p r fun z => by simp [Ex.pur] at z
  obtain ⟨ρ, η, γ, Z, F, hn, rs, w, os, ρ', ev, q⟩ := this
  simp only [evalOs] at ev
  cases ev
  exact q [] H Z γ F [] (Pst.refl hn.2 rs w) ⟨rfl, rfl⟩ fun _ => ⟨Same.refl _, rfl⟩
/-! ### built-in methods -/
def bmN : Bm → Str
  | .append => "append" | .extend => "extend" | .insert => "insert" | .remove => "remove" | .pop => "pop" | .popAt => "pop" | .clear => "clear" | .reverse => "reverse" | .indexL => "index" | .indexT => "index"
  | .dget1 => "get" | .dget2 => "get" | .dpop1 => "pop" | .dpop2 => "pop" | .setdefault => "setdefault" | .join => "join" | .split => "split" | .upper => "upper" | .find => "find"
/-- methods of lists and texts -/
def bmGo : Bm → Bool
  | .append => true | .extend => true | .pop => true | .popAt => true | .remove => true | .clear => true | .reverse => true | .join => true | .split => true | .dget1 => true | .dget2 => true | _ => false
theorem look_val {K : PySem.W.Frag} {η : List V} {Z : Addr → Prop} {H : Hp} {k : Key} {d : D} : ∀ {ks : List Key} {l : List D} {vs : List V} {F : List Addr}, Reps K η Z H l vs F → ks.length = vs.length → look k ks l = some d → ∃ v G, valV (ks.zip vs) k = some v ∧ Rep K η Z H d v G
  | [], l, vs, F, r, hl, e => by cases l <;> simp [look] at e
  | a :: ks, [], vs, F, r, hl, e => by simp [look] at e
  | a :: ks, x :: l, vs, F, r, hl, e => by
    obtain ⟨v, vs', F1, F2, rfl, h1, h2, rfl⟩ := r
    by_cases h : a = k
    · subst h
      simp only [look, if_true, Option.some.injEq] at e
      subst e
      exact ⟨v, F1, by simp [valV], h1⟩
    · simp only [look, if_neg h] at e
      obtain ⟨w, G, e1, e2⟩ := look_val h2 (by simpa using hl) e
      exact ⟨w, G, by rw [List.zip_cons_cons, valV_neg h]; exact e1, e2⟩
theorem look_no {k : Key} : ∀ {ks : List Key} {l : List D} {vs : List V}, ks.length = vs.length → l.length = vs.length → look k ks l = none → valV (ks.zip vs) k = none := by
  intro ks l vs h1 h2 e
  have := look_zip (k := k) h1 h2
  rw [e] at this
  simpa using this.symm
theorem mt_pd_get2 {X : Cx} (hu : X.A.units + 1 < cLine) : MtR X "dict.get" (RMp X.K dg2D) := by
  intro pins s σ H x xs v us Q I rx rxs h
  obtain ⟨η, Z, Fx, d, ds, c, hd, ha, hf, q⟩ := h
  unfold dg2D at hf
  split at hf
  · rename_i z ks l kd dd
    obtain ⟨k, hk, hf⟩ := Option.bind_eq_some_iff.mp hf
    split at hf
    · rename_i hi
      cases hf
      obtain ⟨a, vs, F', rfl, rd, hl, hn, r, _⟩ := hd.dkI
      obtain ⟨v1, v2, G1, G2, rfl, r1, r2⟩ := ha.two
      have ek := keyV r1 hk
      subst ek
      cases (show v = Value.ref a from rx)
      cases rxs with
      | cons x1 y1 =>
        cases y1 with
        | cons x2 y2 =>
          cases y2
          have g : DGet H a (kV k) (valV (ks.zip vs) k) := .inl ⟨_, _, rd, rfl, rfl⟩
          refine d_get2 hu I g x1 x2 fun w' s' I' rw' => ⟨_, H, I', rw', ?_⟩
          cases e : look k ks l with
          | some d' =>
            obtain ⟨w, G, e1, e2⟩ := look_val r hl e
            rw [e1]
            rw [e] at hi q
            obtain rfl := e2.imm hi
            exact q.of e2
          | none =>
            rw [look_no hl r.length e]
            rw [e] at hi q
            obtain rfl := r2.imm hi
            exact q.of r2
    · cases hf
  · cases hf
theorem mt_pd_get1 {X : Cx} (hu : X.A.units + 1 < cLine) : MtR X "dict.get" (RMp X.K dg1D) := by
  intro pins s σ H x xs v us Q I rx rxs h
  obtain ⟨η, Z, Fx, d, ds, c, hd, ha, hf, q⟩ := h
  unfold dg1D at hf
  split at hf
  · rename_i z ks l kd
    obtain ⟨k, hk, hf⟩ := Option.bind_eq_some_iff.mp hf
    split at hf
    · rename_i hi
      cases hf
      obtain ⟨a, vs, F', rfl, rd, hl, hn, r, _⟩ := hd.dkI
      obtain ⟨v1, G1, rfl, r1⟩ := ha.one
      have ek := keyV r1 hk
      subst ek
      cases (show v = Value.ref a from rx)
      cases rxs with
      | cons x1 y1 =>
        cases y1
        have g : DGet H a (kV k) (valV (ks.zip vs) k) := .inl ⟨_, _, rd, rfl, rfl⟩
        refine d_get1 hu I g x1 fun w' s' I' rw' => ⟨_, H, I', rw', ?_⟩
        cases e : look k ks l with
        | some d' =>
          obtain ⟨w, G, e1, e2⟩ := look_val r hl e
          rw [e1]
          rw [e] at hi q
          obtain rfl := e2.imm hi
          exact q.of e2
        | none =>
          rw [look_no hl r.length e]
          rw [e] at hi q
          exact q.of ⟨rfl, rfl⟩
    · cases hf
  · cases hf
theorem tyDk {K : PySem.W.Frag} {η : List V} {Z : Addr → Prop} {H : Hp} {ks : List Key} {l : List D} {v : V} {F : List Addr} (r : Rep K η Z H (.dk false ks l) v F) : tyV K "dict" v H := by
  obtain ⟨a, vs, F', rfl, _, _, _, h⟩ := r
  exact .inr (.inr (.inl ⟨rfl, .inl ⟨_, h.1⟩⟩))
theorem bm_ok (b : Bm) (h : bmGo b = true) : ∃ (Ts id : String), PlainAttrs Ts ∧ PySem.Slot Ts (bmN b) id ∧ typeOf (.builtin id) = pure (.type "method_descriptor") ∧
    (∀ {K : PySem.W.Frag} {η : List V} {d : D} {v : V} {Z : Addr → Prop} {H : Hp} {F : List Addr}, bmTy b d = true → Rep K η Z H d v F → tyV K Ts v H) ∧
    ((b.isP = true ∧ ∀ X : Cx, X.A.units + 66 < cLine → MtR X id (RMp X.K (bmP b))) ∨ (b.isP = false ∧ ∀ X : Cx, X.A.units + 66 < cLine → MtR X id (RMd X.K (bmD b)))) := by
  cases b with
  | append => exact ⟨"list", "list.append", PySem.F.plainAttrs_list, PySem.F.slot_list_append, PySem.F.type_list_append, fun {K η d v Z H F} t r => by cases d <;> simp [bmTy] at t; exact tyL r, .inr ⟨rfl, fun X _ => mt_dl_append⟩⟩
  | extend => exact ⟨"list", "list.extend", PySem.F.plainAttrs_list, PySem.F.slot_list_extend, PySem.F.type_list_extend, fun {K η d v Z H F} t r => by cases d <;> simp [bmTy] at t; exact tyL r, .inr ⟨rfl, fun X _ => mt_dl_extend⟩⟩
  | pop => exact ⟨"list", "list.pop", PySem.F.plainAttrs_list, PySem.F.slot_list_pop, PySem.F.type_list_pop, fun {K η d v Z H F} t r => by cases d <;> simp [bmTy] at t; exact tyL r, .inr ⟨rfl, fun X _ => mt_dl_pop⟩⟩
  | popAt => exact ⟨"list", "list.pop", PySem.F.plainAttrs_list, PySem.F.slot_list_pop, PySem.F.type_list_pop, fun {K η d v Z H F} t r => by cases d <;> simp [bmTy] at t; exact tyL r, .inr ⟨rfl, fun X _ => mt_dl_popAt⟩⟩
  | remove => exact ⟨"list", "list.remove", PySem.F.plainAttrs_list, PySem.F.slot_list_remove, PySem.F.type_list_remove, fun {K η d v Z H F} t r => by cases d <;> simp [bmTy] at t; exact tyL r, .inr ⟨rfl, fun X _ => mt_dl_remove⟩⟩
  | clear => exact ⟨"list", "list.clear", PySem.F.plainAttrs_list, PySem.F.slot_list_clear, PySem.F.type_list_clear, fun {K η d v Z H F} t r => by cases d <;> simp [bmTy] at t; exact tyL r, .inr ⟨rfl, fun X _ => mt_dl_clear⟩⟩
  | reverse => exact ⟨"list", "list.reverse", PySem.F.plainAttrs_list, PySem.F.slot_list_reverse, PySem.F.type_list_reverse, fun {K η d v Z H F} t r => by cases d <;> simp [bmTy] at t; exact tyL r, .inr ⟨rfl, fun X _ => mt_dl_reverse⟩⟩
  | join => exact ⟨"str", "str.join", PySem.F.plainAttrs_str, PySem.F.slot_str_join, PySem.F.type_str_join, fun {K η d v Z H F} t r => by cases d <;> simp [bmTy] at t; exact tyStr r, .inl ⟨rfl, fun X _ => mt_ps_join⟩⟩
  | split => exact ⟨"str", "str.split", PySem.F.plainAttrs_str, PySem.F.slot_str_split, PySem.F.type_str_split, fun {K η d v Z H F} t r => by cases d <;> simp [bmTy] at t; exact tyStr r, .inl ⟨rfl, fun X _ => mt_ps_split⟩⟩
  | dget1 => exact ⟨"dict", "dict.get", PySem.F.plainAttrs_dict, PySem.F.slot_dict_get, PySem.F.type_dict_get, fun {K η d v Z H F} t r => by
      cases d with
      | dk z ks l => cases z <;> simp [bmTy] at t; exact tyDk r
      | _ => simp [bmTy] at t, .inl ⟨rfl, fun X hu => mt_pd_get1 (by omega)⟩⟩
  | dget2 => exact ⟨"dict", "dict.get", PySem.F.plainAttrs_dict, PySem.F.slot_dict_get, PySem.F.type_dict_get, fun {K η d v Z H F} t r => by
      cases d with
      | dk z ks l => cases z <;> simp [bmTy] at t; exact tyDk r
      | _ => simp [bmTy] at t, .inl ⟨rfl, fun X hu => mt_pd_get2 (by omega)⟩⟩
  | _ => simp [bmGo] at h
theorem re_bm {b : Bm} (h : bmGo b = true) (un : X.A.units + 66 < cLine) {eo : Ex} {o e : Expr} {apos cpos : Pos} {es : List Expr} {l : List Ex} (ho : PE X o (RE T cl cm X.K n fx eo)) (ha : PA X (e :: es) (RA T cl cm X.K n fx l))
    (hbase : attributeBase o (bmN b) X.env (eval o X.env) = eval o X.env)
    (hfew : ((backTo cpos (starEach (e :: es) X.env)).all (fun x => !x.1) && (backToKw cpos (keywordEach [] X.env)).all (fun x => x.1.isSome)
      && decide ((e :: es).length + ([] : List Keyword).length + (if ([] : List Keyword).isEmpty then 0 else 1) < 30)) = true)
    (hline : (apos.endLine == cpos.line) = true) (hs : starEach (e :: es) X.env = (false, eval e X.env) :: starEach es X.env) (hplain : (backTo cpos (starEach es X.env)).any (·.1) = false) :
    PE X (.Call (.Attribute o (bmN b) apos) (e :: es) [] cpos) (RE T cl cm X.K n fx (.bm b eo l)) := by
  obtain ⟨Ts, id, pa, sl, ty, tv, hm⟩ := bm_ok b h
  rcases hm with ⟨hp, hm⟩ | ⟨hp, hm⟩
  · refine (pe_bm pa sl ty (hm X un) ho ha hbase hfew hline hs hplain).imp fun σ H Q h => ?_
    obtain ⟨ρ, η, γ, Z, F, hn, rs, w, o, ρ', ev, q⟩ := h
    exact RE.bmP hp hn rs w tv ev fun v H' Z' γ' Fe Fo p r => q v H' Z' γ' Fe Fo p r fun z => by simp [Ex.pur] at z
  · refine (pe_bm pa sl ty (hm X un) ho ha hbase hfew hline hs hplain).imp fun σ H Q h => ?_
    obtain ⟨ρ, η, γ, Z, F, hn, rs, w, o, ρ', ev, q⟩ := h
    exact RE.bmD hp hn rs w tv ev fun v H' Z' γ' Fe Fo p r => q v H' Z' γ' Fe Fo p r fun z => by simp [Ex.pur] at z
theorem re_bm0 {b : Bm} (h : bmGo b = true) (un : X.A.units + 66 < cLine) {eo : Ex} {o : Expr} {apos cpos : Pos} (ho : PE X o (RE T cl cm X.K n fx eo))
    (hbase : attributeBase o (bmN b) X.env (eval o X.env) = eval o X.env) (hline : (apos.endLine == cpos.line) = true) :
    PE X (.Call (.Attribute o (bmN b) apos) [] [] cpos) (RE T cl cm X.K n fx (.bm b eo [])) := by
  obtain ⟨Ts, id, pa, sl, ty, tv, hm⟩ := bm_ok b h
  rcases hm with ⟨hp, hm⟩ | ⟨hp, hm⟩
  · refine (pe_bm0 pa sl ty (hm X un) ho hbase hline).imp fun σ H Q h => ?_
    obtain ⟨ρ, η, γ, Z, F, hn, rs, w, o, ρ', ev, q⟩ := h
    obtain ⟨ρ, η, γ, Z, F, hn, rs, w, x, ρ1, e1, q⟩ := RE.bmP (Q := Q) hp hn rs w tv ev fun v H' Z' γ' Fe Fo p r => q v H' Z' γ' Fe Fo p r fun z => by simp [Ex.pur] at z
    refine ⟨ρ, η, γ, Z, F, hn, rs, w, x, ρ1, e1, fun v H' Z' γ' Fe Fo p r pu => ?_⟩
    obtain ⟨t, ρ, η, γ, Z, F, hn, rs, w, os, ρ', ev, q⟩ := q v H' Z' γ' Fe Fo p r pu
    simp only [evalOs] at ev
    cases ev
    exact ⟨t, q [] _ Z γ F [] (Pst.refl hn.2 rs w) ⟨rfl, rfl⟩ fun _ => ⟨Same.refl _, rfl⟩⟩
  · refine (pe_bm0 pa sl ty (hm X un) ho hbase hline).imp fun σ H Q h => ?_
    obtain ⟨ρ, η, γ, Z, F, hn, rs, w, o, ρ', ev, q⟩ := h
    obtain ⟨ρ, η, γ, Z, F, hn, rs, w, x, ρ1, e1, q⟩ := RE.bmD (Q := Q) hp hn rs w tv ev fun v H' Z' γ' Fe Fo p r => q v H' Z' γ' Fe Fo p r fun z => by simp [Ex.pur] at z
    refine ⟨ρ, η, γ, Z, F, hn, rs, w, x, ρ1, e1, fun v H' Z' γ' Fe Fo p r pu => ?_⟩
    obtain ⟨t, ρ, η, γ, Z, F, hn, rs, w, os, ρ', ev, q⟩ := q v H' Z' γ' Fe Fo p r pu
    simp only [evalOs] at ev
    cases ev
    exact ⟨t, q [] _ Z γ F [] (Pst.refl hn.2 rs w) ⟨rfl, rfl⟩ fun _ => ⟨Same.refl _, rfl⟩⟩
/-- the index of a thing in a tuple of the module -/
theorem re_bmIx {g : Str} {p apos cpos : Pos} {e : Expr} {es : List Expr} {l : List Ex} (hg : Gl X g) (hd : (g == ("__debug__" : Str)) = false) (hc : ∀ d, T.con.lookup g = some d → ConOk X g d) (ha : PA X (e :: es) (RA T cl cm X.K n fx l))
    (hbase : attributeBase (.Name g p) "index" X.env (eval (.Name g p) X.env) = eval (.Name g p) X.env)
    (hfew : ((backTo cpos (starEach (e :: es) X.env)).all (fun x => !x.1) && (backToKw cpos (keywordEach [] X.env)).all (fun x => x.1.isSome)
      && decide ((e :: es).length + ([] : List Keyword).length + (if ([] : List Keyword).isEmpty then 0 else 1) < 30)) = true)
    (hline : (apos.endLine == cpos.line) = true) (hs : starEach (e :: es) X.env = (false, eval e X.env) :: starEach es X.env) (hplain : (backTo cpos (starEach es X.env)).any (·.1) = false) :
    PE X (.Call (.Attribute (.Name g p) "index" apos) (e :: es) [] cpos) (RE T cl cm X.K n fx (.bm .indexT (.glo g) l)) := by
  refine ⟨fun pins s σ H Q I h => ?_⟩
  obtain ⟨ρ, η, γ, Z, F, hn, rs, w, o, ρ', ev, q⟩ := h
  simp only [evalO] at ev
  obtain ⟨x, ρ1, e1, e2⟩ := Res.bind_ok ev
  obtain ⟨h1, h2⟩ := Res.of_ok e1
  obtain ⟨d, hd1, rfl⟩ := Option.map_eq_some_iff.mp h1
  subst h2
  obtain ⟨u, v, hm, rv, rep, tp⟩ := hc d hd1
  refine (pe_bm PySem.F.plainAttrs_tuple PySem.F.slot_tuple_index PySem.F.type_tuple_index mt_pt_index (pe_glob hg hm rv hd) ha hbase hfew hline hs hplain).run pins s σ H Q I ?_
  split at e2
  · rename_i d0 hd0
    obtain rfl : d = d0 := Option.some.inj hd0
    split at e2
    · rename_i hty
      obtain ⟨l0, rfl⟩ : ∃ l0, d = .tup l0 := by cases d <;> simp [bmTy] at hty; exact ⟨_, rfl⟩
      obtain ⟨p0, o0, rfl, k1, k2, k3⟩ := tp l0 rfl
      refine ⟨.inr (.inl ⟨rfl, o0, k1, k2, k3⟩), ?_⟩
      obtain ⟨os, ρ2, e3, e4⟩ := Res.bind_ok e2
      refine ⟨ρ, η, γ, Z, F, hn, rs, w, os, ρ2, e3, fun vs H2 Z2 γ2 Fe2 Fo2 p2 od2 pu2 => ?_⟩
      split at e4
      · split at e4
        · rename_i d hd
          obtain rfl : D.tup l0 = d := Option.some.inj hd
          simp only [Bm.isP, if_true] at e4
          split at e4
          · rename_i ds hds
            obtain ⟨h1, h2⟩ := Res.of_ok e4
            obtain ⟨c, hc, rfl⟩ := Option.map_eq_some_iff.mp h1
            subst h2
            refine ⟨η, Z2, [], .tup l0, ds, c, rep η Z2 H2, od2.rdAll p2.rep hds, hc, fun r H' Fn s rr nd fr => ?_⟩
            exact q r H' Z2 γ2 Fe2 Fn (p2.new s nd fr rr.pm) rr fun z => by simp [Ex.pur] at z
          · cases e4
        · cases e4
      · cases e4
    · cases e2
  · cases e2
/-- a fresh thing that may only be read from here on -/
theorem re_fz {a : Expr} {ea : Ex} (ha : PE X a (RE T cl cm X.K n fx ea)) : PE X a (RE T cl cm X.K n fx (.fz ea)) := by
  refine ha.imp fun σ H Q h => ?_
  obtain ⟨ρ, η, γ, Z, F, hn, rs, w, o, ρ', ev, q⟩ := h
  simp only [evalO] at ev
  obtain ⟨x, ρ1, e1, e2⟩ := Res.bind_ok ev
  refine ⟨ρ, η, γ, Z, F, hn, rs, w, x, ρ1, e1, fun v H' Z' γ' Fe Fo p od pu => ?_⟩
  cases x with
  | p r q => cases e2
  | v d =>
    simp only at e2
    split at e2
    · rename_i hd
      cases e2
      have od' : Rep X.K η Z' H' d v Fo := od
      have w2 := p.wf2
      have zz : ∀ b, Z' b → (Z' b ∨ b ∈ Fo) := fun b z => .inl z
      have r2 := Rep.ro (Z' := fun b => Z' b ∨ b ∈ Fo) zz od' hd (fun b m => .inr m)
      refine q v H' (fun b => Z' b ∨ b ∈ Fo) γ' Fe [] ⟨⟨p.evo.keep, fun b m => ?_, fun b z => .inl (p.evo.zs b z), fun b z => ?_, ⟨?_, fun b m => ?_, fun b m => ?_, fun b z => ?_⟩⟩, p.gl, p.fx, p.rep.keep ⟨fun _ _ _ e => e, fun _ _ _ e => e, fun _ _ e _ => e, fun b z => .inl z⟩ (fun _ m => m), p.nl⟩ (r2.any r2.noh0) fun pu' => by simp [Ex.pur] at pu'
      · rw [List.append_nil] at m
        exact p.evo.sub b (List.mem_append_left _ m)
      · rcases z with z | z
        · exact p.evo.zn b z
        · exact .inr (p.evo.sub b (List.mem_append_right _ z))
      · rw [List.append_nil]; exact w2.left.nd
      · rw [List.append_nil] at m; exact w2.left.pm b m
      · rw [List.append_nil] at m
        rintro (z | z)
        · exact w2.left.dz b m z
        · exact w2.apart m z
      · rcases z with z | z
        · exact w2.zt b z
        · obtain ⟨u, e, _⟩ := w2.right.pm b z
          rw [e]; simp
    · cases e2
end
end Pv

set_option maxHeartbeats 1000000
/-! Pv, part ET: enumerate over tuples. -/
namespace PET
open PySem
open PySem.Sem (wp)
open AutoSeq1 (wpAny_loadPart')
theorem enum_newT (l : Addr) (items : Array Value) (n : Nat) (dct : Option Addr) (sl : Array (Option Value)) :
    Meets (Builtin.«enumerate.__new__» ⟨[.type "enumerate", .ref l], []⟩) (fun _ R s => s.heap.get? l = some { cls := .type "tuple", dict := dct, data := .seq items n, slots := sl } ∧
      R (.ok (.ret (.ref (s.heap.push { cls := .type "tuple_iterator", data := .fields #[.ref l, .int 0 0] }).objs.size)))
        { s with heap := (s.heap.push { cls := .type "tuple_iterator", data := .fields #[.ref l, .int 0 0] }).push { cls := .type "enumerate", data := .fields #[.none, .bool false, .ref s.heap.objs.size, rawInt 0, .none, .none] } }) :=
  .of_wp fun prog w A R s h => by
    obtain ⟨hp, g, d, tk, os⟩ := s
    obtain ⟨hl, h⟩ := h
    have hsu := sub_enumerate
    have hL : Heap.IsTuple (Shared.heap ⟨hp, g, d, tk, os⟩) l items := ⟨_, hl, rfl, n, rfl⟩
    wp_walk using wpAny_loadPart' hl
    refine wpAny_stack_any fun st => wpAny_pure ?_
    split
    · rename_i c _ _ _ _ _
      cases (c == Value.type "enumerate")
      · wp_walk using wpAny_loadPart' hl, wpAny_pyIter_tuple hL
        exact ⟨_, rfl, h⟩
      · wp_walk using wpAny_loadPart' hl, wpAny_pyIter_tuple hL
        exact ⟨_, rfl, h⟩
    · wp_walk using wpAny_loadPart' hl, wpAny_pyIter_tuple hL
      exact ⟨_, rfl, h⟩
theorem drawsT {prog : Program} {w : World} {A : Around} (hh : A.handled = none) (it l : Addr) (hne : l ≠ it) (items : Array Value) :
    Draws prog w A it [it, l] items.size (fun i v => items[i]? = some v) (fun i h => h.IsTupleIter it l i ∧ h.IsTuple l items) where
  live := fun _ _ ⟨⟨o, ho, _⟩, _⟩ => ⟨o, ho⟩
  frame := fun i h h' ⟨⟨o, ho, hc, hd⟩, ⟨o2, ho2, r2⟩⟩ hk => ⟨⟨o, hk it (by simp) o ho, hc, hd⟩, ⟨o2, hk l (by simp) o2 ho2, r2⟩⟩
  item := fun i s Q E hi st hQ => RZ.nextOf_tuple_item st.1 st.2 (x := items[i]) (by simp [hi]) fun h' hit' hs' =>
    hQ _ h' s.toks (by simp [hi]) ⟨hit', by obtain ⟨o2, ho2, r2⟩ := st.2; exact ⟨o2, (hs'.2 l hne).trans ho2, r2⟩⟩ hs'
  done := fun s Q E st hE => RZ.nextOf_tuple_end hh st.1 st.2 (by simp) hE
section
variable {prog : Program} {w : World} {A : Around} {E : Value → Shared → Prop} {s : Shared}
theorem call_enumT {l : Addr} {items : Array Value} {Q : Value → Shared → Prop} (hT : s.heap.IsTuple l items)
    (h : ∀ h', IsEnum h' (s.heap.objs.size + 1) s.heap.objs.size 0 .none → h'.IsTupleIter s.heap.objs.size l 0 → h'.objs.size = s.heap.objs.size + 2 →
      (∀ b o, s.heap.get? b = some o → h'.get? b = some o) → Q (.ref (s.heap.objs.size + 1)) { s with heap := h' }) :
    wpAny (model prog w) A (call (.type "enumerate") [.ref l]) Q E s := by
  obtain ⟨⟨c, dct, dt, sl⟩, hl, hc, n, hd⟩ := hT
  replace hc : c = .type "tuple" := hc
  replace hd : dt = .seq items n := hd
  subst hc hd
  refine callType_new F.called_enumerate (by decide) (F.typeCall_enumerate_1 _) (F.newCall_enumerate_1 _) (fun obj => F.args_object_init_2 obj _) F.entry_enumerate_new (enum_newT l items n dct sl) ⟨hl, ?_⟩
  have hz : (s.heap.push { cls := .type "tuple_iterator", data := .fields #[.ref l, .int 0 0] }).objs.size = s.heap.objs.size + 1 := Heap.size_push ..
  show _ ∧ _
  rw [hz]
  have he : IsEnum ((s.heap.push { cls := .type "tuple_iterator", data := .fields #[.ref l, .int 0 0] }).push { cls := .type "enumerate", data := .fields #[.none, .bool false, .ref s.heap.objs.size, rawInt 0, .none, .none] }) (s.heap.objs.size + 1) s.heap.objs.size 0 .none := by
    have := Heap.get?_push_size (s.heap.push { cls := .type "tuple_iterator", data := .fields #[.ref l, .int 0 0] }) (o := { cls := .type "enumerate", data := .fields #[.none, .bool false, .ref s.heap.objs.size, rawInt 0, .none, .none] }) rfl
    rw [hz] at this; exact this
  refine ⟨⟨_, he, rfl⟩, h _ he ⟨_, Heap.get?_push_of_some _ (Heap.get?_push_size _ rfl), rfl, rfl⟩ (by rw [Heap.size_push, hz]) fun b o x => Heap.get?_push_of_some _ (Heap.get?_push_of_some _ x)⟩
end
end PET
namespace PET
open PySem PySem.Spec PyProof.Rows L2
/-- the tuple at a, each item in a new pair -/
def IteT (K : PySem.W.Frag) (a : Addr) : It :=
  ⟨fun i H => ∃ (xs : List V) (x : V), SqT K H a xs ∧ xs[i]? = some x, fun i H v H' => ∃ T x, v = .ref T ∧ H T = none ∧ H' = upd H T (.tup [.int (i : Nat), x]) ∧ ∀ xs, SqT K H a xs → xs[i]? = some x, fun i H => ∃ xs : List V, SqT K H a xs ∧ xs.length ≤ i⟩
theorem turn_enumT {P : Program} {w : World} {K : PySem.W.Frag} {elts : List Expr} {kk : Nat} {tpos : Pos} (a e it : Addr) (hae : a ≠ it) (hae2 : a ≠ e) :
    Turn P w K (.Tuple elts kk tpos) (IteT K a) [e, it] e (fun i h => (∃ old, IsEnum h e it ((i : Nat) : Int) old) ∧ h.IsTupleIter it a i ∧ e ≠ it) where
  mem := by simp
  obj := fun i h st b hb => by
    obtain ⟨⟨old, he⟩, ⟨o, ho, hc, hd⟩, _⟩ := st
    have e' : b = e ∨ b = it := by simpa using hb
    rcases e' with z | z
    · rw [z]; exact ⟨_, he, fun v q => nomatch q⟩
    · rw [z]; exact ⟨o, ho, fun v q => by rw [hd] at q; cases q⟩
  keep := fun i h h' ⟨⟨old, he⟩, ⟨o, ho, r⟩, hne⟩ k => ⟨⟨old, k e (by simp) _ he⟩, ⟨o, k it (by simp) o ho, r⟩, hne⟩
  item := by
    intro X hP hw hK hc i pins s σ H E I hf st hg
    subst hP hw hK
    obtain ⟨⟨old, he⟩, hit, hne⟩ := st
    obtain ⟨xs, x, hq, hx⟩ := hg
    obtain ⟨its, rv, p, hz⟩ := I.tuple hq
    obtain ⟨u, hu, ru⟩ := rv.get hx
    have hel : e < s.heap.objs.size := Heap.lt_size he
    have hil : it < s.heap.objs.size := by obtain ⟨_, q, _⟩ := hit; exact Heap.lt_size q
    have hxs := rv.length
    have hix : i < xs.length := (List.getElem?_eq_some_iff.mp hx).1
    have ht : s.heap.IsTuple a its.toArray := p
    refine wpAny_pyNext_enum_itemD (drawsT (A := X.A.in1) (show X.A.handled = none from I.ok.hd hc) it a hae its.toArray) he ⟨hit, ht⟩ (by rw [List.size_toArray]; omega) hne (by simp only [List.mem_cons, List.not_mem_nil, or_false, not_or]; exact ⟨hne, fun q => hae2 q.symm⟩) fun y h' tk hy ho hst' hT hsz hk => ?_
    have hyu : y = u := by
      have h1 : its[i]? = some y := by simpa using hy
      rw [hu] at h1
      exact (Option.some.inj h1).symm
    subst hyu
    refine ⟨_, rfl, wpAny_letOwnedTupleGo_enum (s := { s with heap := h', toks := tk + 1 }) ho fun h'' he' sb => ?_⟩
    have hT2 : h''.get? s.heap.objs.size = some { cls := .type "tuple", data := .seq #[.int i tk, y] } := (sb.2 _ (Nat.ne_of_gt hel)).trans hT
    have new : ObjOk X.prog X.w (upd H s.heap.objs.size (.tup [.int (i : Nat), x])) h'' s.heap.objs.size (.tup [.int (i : Nat), x]) :=
      ⟨by show 2 ≤ sizeLine; decide, [.int i tk, y], .cons ⟨_, rfl⟩ (.cons ru .nil), ⟨_, hT2, rfl, _, rfl⟩⟩
    have I1 : Inv X pins σ (upd H s.heap.objs.size (.tup [.int (i : Nat), x])) { s with heap := h'', toks := tk + 1 } :=
      I.turnedNew (ch := [e, it]) (fun b ob hb q => (sb.2 b (fun z => hb (by simp [z]))).trans (hk b ob (fun z => hb (by simp [z])) (fun z => hb (by simp [z])) q)) hf (Nat.le_refl _) new
    refine ⟨.ref s.heap.objs.size, _, I1, rfl, ⟨_, x, rfl, I.hok.fresh (Nat.le_refl _), rfl, fun ys hy => by rw [I.tuple_inj hy hq]; exact hx⟩, ⟨⟨y, ?_⟩, ?_, hne⟩, fun b hb => ?_⟩
    · have e1 : ((i + 1 : Nat) : Int) = (i : Int) + 1 := by omega
      rw [e1]; exact he'
    · obtain ⟨⟨o3, ho3, r3⟩, _⟩ := hst'
      exact ⟨o3, (sb.2 it (Ne.symm hne)).trans ho3, r3⟩
    · have hb' : b < s.heap.objs.size := by
        have e' : b = e ∨ b = it := by simpa using hb
        rcases e' with z | z
        · rw [z]; exact hel
        · rw [z]; exact hil
      rw [upd_ne (Nat.ne_of_lt hb')]
      exact (hf b hb).1
  done := by
    intro X hP hw hK hc i pins s σ H E I hf st hg
    subst hP hw hK
    obtain ⟨⟨old, he⟩, hit, hne⟩ := st
    obtain ⟨xs, hq, hx⟩ := hg
    obtain ⟨its, rv, p, hz⟩ := I.tuple hq
    obtain ⟨f0, f1, f2, f3, f4, f5⟩ := hf it (by simp)
    have hl := rv.length
    have ht : s.heap.IsTuple a its.toArray := p
    have hT : s.TypeIs (.ref e) "enumerate" := ⟨_, he, rfl⟩
    unfold pyNext
    refine wpAny_bind (wpAny_attempt (wpAny_callSpecial?_slot (name := Str.ofString "__next__") hT F.slot_enumerate_next (wpAny_call_entry F.slot_enumerate_next hT F.entry_enumerate_next ?_ (F.args_enumerate_next_1 _))))
    show wpAny _ _ (field (.ref e) 2 >>= _) _ _ _
    refine wpAny_bind (wpAny_field he rfl (x := .ref it) rfl ?_)
    refine wpAny_bind (RZ.nextOf_tuple_end (show X.A.handled = none from I.ok.hd hc) hit ht (by simp; omega) fun h' x eb hx' => ?_)
    obtain ⟨o, ho, hco⟩ := hx'
    refine wpAny_bind (wpAny_isInstance (T := "StopIteration") (b := true) ⟨o, ho, hco⟩ isSubtype_stop ?_)
    exact wpAny_pure ⟨rfl, I.turned (t' := s.toks) (fun b o hb q => eb b o hb q) f0 f1 f3 f4 f5⟩
  self := fun A i s Q E st h => let ⟨⟨_, he⟩, _⟩ := st; wpAny_pyIter_enum he h
def iEnumA (K : PySem.W.Frag) (ta : TA) : TI := fun σ H R => ta σ H fun vs H1 => ∃ a xs, vs = [.ref a] ∧ ((SqL K H1 a xs ∧ R (Ite K a) H1) ∨ (SqT K H1 a xs ∧ R (IteT K a) H1))
theorem pi_enumA {X : Cx} {e : Expr} {ta : TA} {p pos tpos : Pos} {elts : List Expr} {kk : Nat} (hg : Gl X "enumerate") (hm : X.mg "enumerate" = none) (ha : PA X [e] ta) (hs : starEach [e] X.env = [(false, eval e X.env)]) :
    PI X (.Tuple elts kk tpos) (.Call (.Name "enumerate" p) [e] [] pos) (iEnumA X.K ta) := by
  refine ⟨fun pins s σ H R I h => ?_⟩
  refine Call_ (ld_blt I hg hm boot_enumerate (PyProof.Rows.callWith_type1 (thn (ha.run pos pins s σ H _ I h) fun us s1 ⟨vs, H1, I1, r1, a, xs, ex, q1⟩ => ?_) hs rfl))
  subst ex
  cases r1 with
  | cons r rr =>
    cases rr
    cases r
    have hfp : ∀ b, b ∈ [s1.heap.objs.size + 1, s1.heap.objs.size] → FpOk X pins H1 b := fun b hb => by
      have e' : b = s1.heap.objs.size + 1 ∨ b = s1.heap.objs.size := by simpa using hb
      have hle : s1.heap.objs.size ≤ b := by
        rcases e' with z | z
        · rw [z]; exact Nat.le_add_right _ _
        · rw [z]; exact Nat.le_refl _
      exact I1.fpOk hle (I1.hok.fresh hle)
    rcases q1 with ⟨hq, q⟩ | ⟨hq, q⟩
    · obtain ⟨its, rv, p', hz⟩ := I1.list hq
      refine call_enumerate_list p'.isList fun h' he hit hsz hk => wpAny_pyIter_enum he ?_
      have I2 : Inv X pins σ H1 { s1 with heap := h' } := I1.kept (t' := s1.toks) hk
      exact ⟨s1.heap.objs.size + 1, [s1.heap.objs.size + 1, s1.heap.objs.size], _, _, H1, rfl, I2, turn_enum a (s1.heap.objs.size + 1) s1.heap.objs.size, ⟨⟨.none, he⟩, hit, Nat.succ_ne_self _⟩, hfp, q⟩
    · obtain ⟨its, rv, p', hz⟩ := I1.tuple hq
      obtain ⟨o1, ho1, _⟩ := id p'
      have hla : a < s1.heap.objs.size := Heap.lt_size ho1
      refine call_enumT (show s1.heap.IsTuple a its.toArray from p') fun h' he hit hsz hk => wpAny_pyIter_enum he ?_
      have I2 : Inv X pins σ H1 { s1 with heap := h' } := I1.kept (t' := s1.toks) hk
      exact ⟨s1.heap.objs.size + 1, [s1.heap.objs.size + 1, s1.heap.objs.size], _, _, H1, rfl, I2, turn_enumT a (s1.heap.objs.size + 1) s1.heap.objs.size (Nat.ne_of_lt hla) (Nat.ne_of_lt (Nat.lt_succ_of_lt hla)), ⟨⟨.none, he⟩, hit, Nat.succ_ne_self _⟩, hfp, q⟩
end PET

/-! Pv, part N: what is walked, targets by names. -/
namespace Pv
open PySem PySem.Spec PyProof.Rows L2
variable {AL : AlT}
section
variable {K : PySem.W.Frag} {η : List V} {Z Z' : Addr → Prop} {H H' : Hp}
/-- slots changed to what owns nothing -/
theorem RepS.upd : ∀ {ρ ρ' : List Slot} {S S' : List (Option V)} {F : List Addr}, RepS K η Z H ρ S F → ρ'.length = ρ.length → S'.length = S.length →
    (∀ (j : Nat) (x : Slot), ρ'[j]? = some x → (ρ[j]? = some x ∧ S'[j]? = S[j]?) ∨ ∃ ov, S'[j]? = some ov ∧ RepS1 K η Z H x ov []) → ∃ F', F'.Sublist F ∧ RepS K η Z H ρ' S' F'
  | [], ρ', S, S', F, h, e1, e2, _ => by
    obtain ⟨rfl, rfl⟩ := h
    have h1 : ρ' = [] := List.length_eq_zero_iff.mp e1
    have h2 : S' = [] := List.length_eq_zero_iff.mp e2
    subst h1 h2
    exact ⟨[], List.Sublist.refl _, rfl, rfl⟩
  | x :: ρ, [], _, _, _, _, e1, _, _ => by simp at e1
  | x :: ρ, y :: ρ', S, [], F, h, e1, e2, _ => by
    obtain ⟨ov, S2, F1, F2, rfl, _⟩ := h
    simp at e2
  | x :: ρ, y :: ρ', S, ov' :: S', F, h, e1, e2, hh => by
    obtain ⟨ov, S2, F1, F2, rfl, h1, h2, rfl⟩ := h
    obtain ⟨F', s', r'⟩ := RepS.upd h2 (ρ' := ρ') (S' := S') (by simpa using e1) (by simpa using e2) fun j z hz => by
      have := hh (j + 1) z (by simpa using hz)
      simpa using this
    have h0 := hh 0 y rfl
    simp only [List.getElem?_cons_zero, Option.some.injEq] at h0
    rcases h0 with ⟨rfl, rfl⟩ | ⟨ov2, rfl, r0⟩
    · exact ⟨F1 ++ F', List.Sublist.append (List.Sublist.refl _) s', _, _, _, _, rfl, h1, r', rfl⟩
    · exact ⟨F', s'.trans (List.sublist_append_right _ _), _, _, [], _, rfl, r0, r', rfl⟩
variable (K) in
/-- the iterator J walks w -/
def WStand (w : Walk) (J : L2.It) (S : List (Option V)) : Prop := match w with
  | .seq t g _ => ∃ a, S[g]? = some (some (.ref a)) ∧ J = (if t then Itt K a else Itl K a)
  | .enu g _ => ∃ a, S[g]? = some (some (.ref a)) ∧ J = Ite K a
  | .enut g _ => ∃ a, S[g]? = some (some (.ref a)) ∧ J = PET.IteT K a
  | .rng lo c n => (c = 1 ∧ J = Itr lo n) ∨ J = Itc lo c n
  | .chs x => J = Its x
  | .zip g g2 _ => ∃ a b, S[g]? = some (some (.ref a)) ∧ S[g2]? = some (some (.ref b)) ∧ J = RZ.ItzT K a b
theorem WStand.mono {w : Walk} {J : L2.It} {S S' : List (Option V)} (h : WStand K w J S) (e : ∀ j ∈ w.fx [], S'[j]? = S[j]?) : WStand K w J S' := by
  cases w with
  | seq t g n => obtain ⟨a, h1, h2⟩ := h; exact ⟨a, (e g (by simp [Walk.fx])).trans h1, h2⟩
  | enu g n => obtain ⟨a, h1, h2⟩ := h; exact ⟨a, (e g (by simp [Walk.fx])).trans h1, h2⟩
  | enut g n => obtain ⟨a, h1, h2⟩ := h; exact ⟨a, (e g (by simp [Walk.fx])).trans h1, h2⟩
  | rng => exact h
  | chs => exact h
  | zip g g2 n => obtain ⟨a, b, h1, h2, h3⟩ := h; exact ⟨a, b, (e g (by simp [Walk.fx])).trans h1, (e g2 (by simp [Walk.fx])).trans h2, h3⟩
/-- an owned thing of a slot -/
theorem RepS.own {ρ : Env} {S : List (Option V)} {F : List Addr} {r : Nat} {d : D} (h : RepS K η Z H ρ.s S F) (e : own ρ r = some d) : ∃ v F1, S[r]? = some (some v) ∧ Rep K η Z H d v F1 := by
  unfold Pv.own at e
  cases hx : ρ.s[r]? with
  | none => simp [hx] at e
  | some x =>
    simp only [hx] at e
    obtain ⟨ov, A, F1, B, e1, _, r1, _⟩ := h.at hx
    obtain ⟨v0, rfl, r0, _⟩ := r1.d e
    exact ⟨v0, F1, e1, r0⟩
theorem Reps.at : ∀ {l : List D} {vs : List V} {F : List Addr} {i : Nat} {d : D}, Reps K η Z H l vs F → l[i]? = some d → ∃ v F1, vs[i]? = some v ∧ Rep K η Z H d v F1 := fun h e => by
  obtain ⟨v, A, F1, B, h1, _, h2, _⟩ := h.get e
  exact ⟨v, F1, h1, h2⟩
/-- a turn -/
theorem WStand.turn {w : Walk} {J : L2.It} {ρ : Env} {S : List (Option V)} {F : List Addr} {i : Nat} (h : WStand K w J S) (rs : RepS K η Z H ρ.s S F) (th : w.there ρ = true) :
    (w.len ≤ i → J.stop i H) ∧ ∀ d, i < w.len → w.item ρ i = some d → J.go i H ∧ ∀ x H', J.yld i H x H' → Same H H' ∧ Rep K η Z H' d x [] := by
  cases w with
  | seq t g n =>
    obtain ⟨a, h1, rfl⟩ := h
    simp only [Walk.there] at th
    split at th
    · rename_i d0 hd0
      simp only [decide_eq_true_eq] at th
      obtain ⟨v, F1, e1, r1⟩ := rs.own hd0
      rw [h1] at e1
      cases e1
      cases t with
      | false =>
        cases d0 with
        | lst z l =>
          have hn : l.length = n := by simpa [seqOf] using th
          obtain ⟨b, vs, F', e2, sq, r2, _⟩ := r1.lstI
          cases e2
          refine ⟨fun hi => ⟨vs, sq, by rw [← r2.length, hn]; exact hi⟩, fun d hi hit => ?_⟩
          simp only [Walk.item, hd0, itemsOf, Option.bind_some] at hit
          obtain ⟨e, he, hit⟩ := Option.bind_eq_some_iff.mp hit
          split at hit
          · rename_i hm
            cases hit
            obtain ⟨v, F2, hv, rv⟩ := r2.at he
            obtain rfl := rv.imm hm
            refine ⟨⟨vs, v, sq, hv⟩, fun x H' y => ?_⟩
            obtain ⟨rfl, hy⟩ := y
            have := hy vs sq
            rw [hv] at this
            cases this
            exact ⟨Same.refl _, rv⟩
          · cases hit
        | tup => simp [seqOf] at th
        | _ => simp [seqOf] at th
      | true =>
        cases d0 with
        | tup l =>
          have hn : l.length = n := by simpa [seqOf] using th
          obtain ⟨b, vs, e2, sq, r2⟩ := r1.tupI
          cases e2
          refine ⟨fun hi => ⟨vs, sq, by rw [← r2.length, hn]; exact hi⟩, fun d hi hit => ?_⟩
          simp only [Walk.item, hd0, itemsOf, Option.bind_some] at hit
          obtain ⟨e, he, hit⟩ := Option.bind_eq_some_iff.mp hit
          split at hit
          · rename_i hm
            cases hit
            obtain ⟨v, F2, hv, rv⟩ := r2.at he
            obtain rfl := rv.imm hm
            refine ⟨⟨vs, v, sq, hv⟩, fun x H' y => ?_⟩
            obtain ⟨rfl, hy⟩ := y
            have := hy vs sq
            rw [hv] at this
            cases this
            exact ⟨Same.refl _, rv⟩
          · cases hit
        | lst => simp [seqOf] at th
        | _ => simp [seqOf] at th
    · cases th
  | enu g n =>
    obtain ⟨a, h1, rfl⟩ := h
    simp only [Walk.there] at th
    split at th
    · rename_i d0 hd0
      simp only [decide_eq_true_eq] at th
      obtain ⟨v, F1, e1, r1⟩ := rs.own hd0
      rw [h1] at e1
      cases e1
      cases d0 with
      | lst z l =>
        have hn : l.length = n := by simpa [seqOf] using th
        obtain ⟨b, vs, F', e2, sq, r2, _⟩ := r1.lstI
        cases e2
        refine ⟨fun hi => ⟨vs, sq, by rw [← r2.length, hn]; exact hi⟩, fun d hi hit => ?_⟩
        simp only [Walk.item, hd0, itemsOf, Option.bind_some] at hit
        obtain ⟨e, he, hit⟩ := Option.bind_eq_some_iff.mp hit
        split at hit
        · rename_i hm
          cases hit
          obtain ⟨v, F2, hv, rv⟩ := r2.at he
          obtain rfl := rv.imm hm
          refine ⟨⟨vs, v, sq, hv⟩, fun x H' y => ?_⟩
          obtain ⟨t, y0, rfl, ht, rfl, hy⟩ := y
          have := hy vs sq
          rw [hv] at this
          cases this
          exact ⟨Same.new ht, t, _, rfl, .inl (.inl upd_same), _, _, [], [], rfl, ⟨rfl, rfl⟩, ⟨_, [], [], [], rfl, rv.keep (F0 := []) (Same.keeps (Same.new ht)) (fun _ m => m), ⟨rfl, rfl⟩, rfl⟩, rfl⟩
        · cases hit
      | _ => simp [seqOf] at th
    · cases th
  | enut g n =>
    obtain ⟨a, h1, rfl⟩ := h
    simp only [Walk.there] at th
    split at th
    · rename_i d0 hd0
      simp only [decide_eq_true_eq] at th
      obtain ⟨v, F1, e1, r1⟩ := rs.own hd0
      rw [h1] at e1
      cases e1
      cases d0 with
      | tup l =>
        have hn : l.length = n := by simpa [seqOf] using th
        obtain ⟨b, vs, e2, sq, r2⟩ := r1.tupI
        cases e2
        refine ⟨fun hi => ⟨vs, sq, by rw [← r2.length, hn]; exact hi⟩, fun d hi hit => ?_⟩
        simp only [Walk.item, hd0, itemsOf, Option.bind_some] at hit
        obtain ⟨e, he, hit⟩ := Option.bind_eq_some_iff.mp hit
        split at hit
        · rename_i hm
          cases hit
          obtain ⟨v, F2, hv, rv⟩ := r2.at he
          obtain rfl := rv.imm hm
          refine ⟨⟨vs, v, sq, hv⟩, fun x H' y => ?_⟩
          obtain ⟨t, y0, rfl, ht, rfl, hy⟩ := y
          have := hy vs sq
          rw [hv] at this
          cases this
          exact ⟨Same.new ht, t, _, rfl, .inl (.inl upd_same), _, _, [], [], rfl, ⟨rfl, rfl⟩, ⟨_, [], [], [], rfl, rv.keep (F0 := []) (Same.keeps (Same.new ht)) (fun _ m => m), ⟨rfl, rfl⟩, rfl⟩, rfl⟩
        · cases hit
      | _ => simp [seqOf] at th
    · cases th
  | rng lo c n =>
    rcases h with ⟨rfl, rfl⟩ | rfl
    · refine ⟨fun hi => hi, fun d hi hit => ?_⟩
      cases hit
      refine ⟨hi, fun x H' y => ?_⟩
      obtain ⟨rfl, rfl⟩ := y
      exact ⟨Same.refl _, by rw [Int.mul_one], rfl⟩
    · refine ⟨fun hi => hi, fun d hi hit => ?_⟩
      cases hit
      refine ⟨hi, fun x H' y => ?_⟩
      obtain ⟨rfl, rfl⟩ := y
      exact ⟨Same.refl _, rfl, rfl⟩
  | chs z =>
    obtain rfl := h
    refine ⟨fun hi => hi, fun d hi hit => ⟨hi, fun x H' y => ?_⟩⟩
    obtain ⟨rfl, c, hc, rfl⟩ := y
    simp only [Walk.item, hc, Option.map_some, Option.some.injEq] at hit
    subst hit
    exact ⟨Same.refl _, rfl, rfl⟩
  | zip g g2 n =>
    obtain ⟨a, b, h1, h2, rfl⟩ := h
    simp only [Walk.there] at th
    split at th
    · rename_i l m hd1 hd2
      simp only [decide_eq_true_eq] at th
      obtain ⟨v, F1, e1, r1⟩ := rs.own hd1
      obtain ⟨u, F2, e2, r2⟩ := rs.own hd2
      rw [h1] at e1
      rw [h2] at e2
      cases e1
      cases e2
      obtain ⟨a', vs, e3, sq, r3⟩ := r1.tupI
      obtain ⟨b', us, e4, sq2, r4⟩ := r2.tupI
      cases e3
      cases e4
      have l1 := r3.length
      have l2 := r4.length
      refine ⟨fun hi => ⟨vs, us, sq, sq2, ?_⟩, fun d hi hit => ?_⟩
      · have hi' : n ≤ i := hi
        omega
      · simp only [Walk.item, hd1, hd2] at hit
        split at hit
        · rename_i x y hx hy
          split at hit
          · rename_i hm
            simp only [Bool.and_eq_true] at hm
            cases hit
            obtain ⟨v, F3, hv, rv⟩ := r3.at hx
            obtain ⟨u, F4, hu, ru⟩ := r4.at hy
            obtain rfl := rv.imm hm.1
            obtain rfl := ru.imm hm.2
            refine ⟨⟨vs, us, v, u, sq, sq2, hv, hu⟩, fun z H' q => ?_⟩
            obtain ⟨t, y0, y1, rfl, ht, rfl, q1, q2⟩ := q
            have q1 := q1 vs sq
            have q2 := q2 us sq2
            rw [hv] at q1
            rw [hu] at q2
            cases q1
            cases q2
            exact ⟨Same.new ht, t, _, rfl, .inl (.inl upd_same), _, _, [], [], rfl, rv.keep (F0 := []) (Same.keeps (Same.new ht)) (fun _ m => m), ⟨_, [], [], [], rfl, ru.keep (F0 := []) (Same.keeps (Same.new ht)) (fun _ m => m), ⟨rfl, rfl⟩, rfl⟩, rfl⟩
          · cases hit
        · cases hit
    · cases th
end

section
variable {X : Cx} {T : Tab} {cl cm : CallT} {n : Nat} {fx : List Nat}
variable {K : PySem.W.Frag} {η : List V} {σ : L2.St} {H H1 H2 : Hp} {Z Z1 Z2 : Addr → Prop} {F Fe1 Fo1 Fe2 Fo2 : List Addr} {γ γ1 γ2 : L2.St} {ρ ρ1 ρ2 : Env}
/-- what is walked, its reading -/
def RI (T : Tab) (cl cm : CallT) (K : PySem.W.Frag) (n : Nat) (fx : List Nat) (it : Pv.It) (g : Nat) : TI := fun σ H R => ∃ ρ η γ Z F, (σ.length = n ∧ ρ.nl = η.length) ∧ RepE T.al K η Z H ρ σ γ F ∧ WF H Z F ∧ ∃ w ρ', evalI T cl cm it g fx ρ = .ok w ρ' ∧
  ∀ J H' Z' γ' Fe, Pst T.al K η σ fx H Z F γ H' Z' γ' ρ' Fe [] → WStand K w J (σ ++ γ') → R J H'
theorem _root_.L2.PI.imp {tg e : Expr} {t t' : TI} (h : PI X tg e t) (i : ∀ σ H Q, t' σ H Q → t σ H Q) : PI X tg e t' := ⟨fun pins s σ H Q I q => h.run pins s σ H Q I (i σ H Q q)⟩
theorem setS_nl {i : Nat} {x : Slot} : (setS ρ i x).nl = ρ.nl := rfl
/-- what is walked, put into a slot of its own -/
theorem Pst.setG {g : Nat} {d : D} {v : V} (p : Pst AL K η σ fx H Z F γ H1 Z1 γ1 ρ1 Fe1 Fo1) (r : Rep K η Z1 H1 d v Fo1) (hg : σ.length ≤ g) (hl : g < ρ1.s.length) (hlk : ¬ lk AL fx g = true) :
    ∃ γ2 Fe2, Pst AL K η σ fx H Z F γ H1 Z1 γ2 (setS ρ1 g (.own d)) Fe2 [] ∧ (σ ++ γ2)[g]? = some (some v) := by
  have hlk : lk AL fx g = false := by simpa using hlk
  have hf : g ∉ fx := by simpa using (lk_of hlk).1
  obtain ⟨ov, A, F1, B, e1, rfl, r1, k⟩ := p.rep.1.at (List.getElem?_eq_getElem hl)
  have k1 := k Z1 H1 (.own d) (some v) Fo1 ⟨fun _ _ _ e => e, fun _ _ _ e => e, fun _ _ e _ => e, fun _ z => z⟩ ⟨v, rfl, r⟩
  rw [List.set_append_right _ _ hg] at k1
  have hlen : g - σ.length < γ1.length := by
    have := (List.getElem?_eq_some_iff.mp e1).1
    simp at this; omega
  refine ⟨γ1.set (g - σ.length) (some v), A ++ Fo1 ++ B, ⟨?_, by simpa using p.gl, fun i hi => ?_, ⟨k1, p.rep.2.setS (fun _ _ h => nomatch h) (lk_of hlk).2 (fun _ _ => rfl)⟩, p.nl⟩, ?_⟩
  · rw [List.append_nil]
    have : (A ++ F1 ++ B ++ Fo1).Perm ((A ++ Fo1 ++ B) ++ F1) := by
      have h1 : (F1 ++ B ++ Fo1).Perm (Fo1 ++ B ++ F1) := by
        have : (F1 ++ (B ++ Fo1)).Perm ((B ++ Fo1) ++ F1) := List.perm_append_comm
        have h2 : ((B ++ Fo1) ++ F1).Perm ((Fo1 ++ B) ++ F1) := List.perm_append_comm.append_right _
        simpa only [List.append_assoc] using this.trans h2
      simpa only [List.append_assoc] using h1.append_left A
    exact (p.evo.perm this).drop (List.sublist_append_left _ _)
  · rw [← p.fx i hi]
    have : i ≠ g := fun e => hf (e ▸ hi)
    rw [← List.set_append_right _ _ hg, List.getElem?_set_ne (Ne.symm this)]
  · rw [List.getElem?_append_right hg, List.getElem?_set_self hlen]
theorem seqOf_cases {d : D} {t : Bool} {m : Nat} (h : seqOf d = some (t, m)) : (∃ z l, d = .lst z l ∧ t = false ∧ m = l.length) ∨ (∃ l, d = .tup l ∧ t = true ∧ m = l.length) := by
  cases d <;> simp [seqOf] at h
  · exact .inr ⟨_, rfl, h.1, h.2.symm⟩
  · exact .inl ⟨_, _, rfl, h.1, h.2.symm⟩
theorem ri_ex {tg e : Expr} {ee : Ex} {g : Nat} (he : PE X e (RE T cl cm X.K n fx ee)) (hg : n ≤ g) : PI X tg e (RI T cl cm X.K n fx (.ex ee) g) := by
  refine ⟨fun pins s σ H R I h => ?_⟩
  obtain ⟨ρ, η, γ, Z, F, hn, rs, w, W, ρ', ev, q⟩ := h
  simp only [evalI] at ev
  obtain ⟨o, ρ1, e1, e2⟩ := Res.bind_ok ev
  split at e2
  · rename_i x
    cases e2
    refine (pi_str he).run pins s σ H R I ⟨ρ, η, γ, Z, F, hn, rs, w, _, _, e1, fun v H1 Z1 γ1 Fe Fo p od _ => ?_⟩
    obtain ⟨rfl, rfl⟩ := od
    exact ⟨x, rfl, q _ H1 Z1 γ1 Fe p rfl⟩
  · rename_i d _
    split at e2
    · rename_i t m hs
      split at e2
      · cases e2
      · rename_i hc
        cases e2
        simp only [Bool.or_eq_true, List.contains_iff_mem, decide_eq_true_eq, not_or, Nat.not_le] at hc
        rcases seqOf_cases hs with ⟨z, l, rfl, rfl, rfl⟩ | ⟨l, rfl, rfl, rfl⟩
        · refine (pi_list he).run pins s σ H R I ⟨ρ, η, γ, Z, F, hn, rs, w, _, _, e1, fun v H1 Z1 γ1 Fe Fo p od _ => ?_⟩
          obtain ⟨a, vs, F', rfl, sq, r2, _⟩ := Rep.lstI od
          obtain ⟨γ2, Fe2, p2, hg2⟩ := p.setG od (by rw [hn.1]; exact hg) hc.2 hc.1
          exact ⟨a, rfl, ⟨vs, sq⟩, q _ H1 Z1 γ2 Fe2 p2 ⟨a, hg2, rfl⟩⟩
        · refine (pi_tup he).run pins s σ H R I ⟨ρ, η, γ, Z, F, hn, rs, w, _, _, e1, fun v H1 Z1 γ1 Fe Fo p od _ => ?_⟩
          obtain ⟨a, vs, rfl, sq, r2⟩ := Rep.tupI od
          obtain ⟨γ2, Fe2, p2, hg2⟩ := p.setG od (by rw [hn.1]; exact hg) hc.2 hc.1
          exact ⟨a, rfl, ⟨vs, sq⟩, q _ H1 Z1 γ2 Fe2 p2 ⟨a, hg2, rfl⟩⟩
    · cases e2
  · rename_i r
    split at e2
    · rename_i t m hs
      cases e2
      obtain ⟨d, hd, hs⟩ := Option.bind_eq_some_iff.mp hs
      rcases seqOf_cases hs with ⟨z, l, rfl, rfl, rfl⟩ | ⟨l, rfl, rfl, rfl⟩
      · refine (pi_list he).run pins s σ H R I ⟨ρ, η, γ, Z, F, hn, rs, w, _, _, e1, fun v H1 Z1 γ1 Fe Fo p od _ => ?_⟩
        obtain ⟨rfl, v0, h1, h2⟩ := od
        have hr : r < σ.length := (List.getElem?_eq_some_iff.mp h1).1
        obtain ⟨v', F1, h3, r3⟩ := p.rep.1.own hd
        rw [List.getElem?_append_left hr, h1] at h3
        cases h3
        cases h2
        obtain ⟨a, vs, F', rfl, sq, r2, _⟩ := Rep.lstI r3
        exact ⟨a, rfl, ⟨vs, sq⟩, q _ H1 Z1 γ1 Fe p ⟨a, by rw [List.getElem?_append_left hr, h1], rfl⟩⟩
      · refine (pi_tup he).run pins s σ H R I ⟨ρ, η, γ, Z, F, hn, rs, w, _, _, e1, fun v H1 Z1 γ1 Fe Fo p od _ => ?_⟩
        obtain ⟨rfl, v0, h1, h2⟩ := od
        have hr : r < σ.length := (List.getElem?_eq_some_iff.mp h1).1
        obtain ⟨v', F1, h3, r3⟩ := p.rep.1.own hd
        rw [List.getElem?_append_left hr, h1] at h3
        cases h3
        cases h2
        obtain ⟨a, vs, rfl, sq, r2⟩ := Rep.tupI r3
        exact ⟨a, rfl, ⟨vs, sq⟩, q _ H1 Z1 γ1 Fe p ⟨a, by rw [List.getElem?_append_left hr, h1], rfl⟩⟩
    · cases e2
  · cases e2
theorem ri_enu {e : Expr} {ee : Ex} {g : Nat} {p pos tpos : Pos} {elts : List Expr} {kk : Nat} (hgl : Gl X "enumerate") (hm : X.mg "enumerate" = none) (he : PE X e (RE T cl cm X.K n fx ee)) (hs : starEach [e] X.env = [(false, eval e X.env)]) (hg : n ≤ g) :
    PI X (.Tuple elts kk tpos) (.Call (.Name "enumerate" p) [e] [] pos) (RI T cl cm X.K n fx (.enu ee) g) := by
  refine (PET.pi_enumA hgl hm (pa_cons he pa_nil (by rw [hs]; rfl)) hs).imp fun σ H R h => ?_
  obtain ⟨ρ, η, γ, Z, F, hn, rs, w, W, ρ', ev, q⟩ := h
  simp only [evalI] at ev
  obtain ⟨o, ρ1, e1, e2⟩ := Res.bind_ok ev
  refine ⟨ρ, η, γ, Z, F, hn, rs, w, _, _, e1, fun v H1 Z1 γ1 Fe Fo p od _ => ?_⟩
  split at e2
  · rename_i d
    split at e2
    · rename_i m hsq
      split at e2
      · cases e2
      · rename_i hc
        cases e2
        simp only [Bool.or_eq_true, List.contains_iff_mem, decide_eq_true_eq, not_or, Nat.not_le] at hc
        rcases seqOf_cases hsq with ⟨z, l, rfl, _, rfl⟩ | ⟨l, _, hz, _⟩
        · obtain ⟨a, vs, F', rfl, sq, r2, _⟩ := Rep.lstI od
          obtain ⟨γ2, Fe2, p2, hg2⟩ := p.setG od (by rw [hn.1]; exact hg) hc.2 hc.1
          exact ⟨a, vs, rfl, .inl ⟨sq, q _ H1 Z1 γ2 Fe2 p2 ⟨a, hg2, rfl⟩⟩⟩
        · cases hz
    · rename_i m hsq
      split at e2
      · cases e2
      · rename_i hc
        cases e2
        simp only [Bool.or_eq_true, List.contains_iff_mem, decide_eq_true_eq, not_or, Nat.not_le] at hc
        rcases seqOf_cases hsq with ⟨z, l, rfl, hz, _⟩ | ⟨l, rfl, _, rfl⟩
        · cases hz
        · obtain ⟨a, vs, rfl, sq, r2⟩ := Rep.tupI od
          obtain ⟨γ2, Fe2, p2, hg2⟩ := p.setG od (by rw [hn.1]; exact hg) hc.2 hc.1
          exact ⟨a, vs, rfl, .inr ⟨sq, q _ H1 Z1 γ2 Fe2 p2 ⟨a, hg2, rfl⟩⟩⟩
    · cases e2
  · rename_i r
    split at e2
    · rename_i m hsq
      cases e2
      obtain ⟨d, hd, hsq⟩ := Option.bind_eq_some_iff.mp hsq
      rcases seqOf_cases hsq with ⟨z, l, rfl, _, rfl⟩ | ⟨l, _, hz, _⟩
      · obtain ⟨rfl, v0, h1, h2⟩ := od
        have hr : r < σ.length := (List.getElem?_eq_some_iff.mp h1).1
        obtain ⟨v', F1, h3, r3⟩ := p.rep.1.own hd
        rw [List.getElem?_append_left hr, h1] at h3
        cases h3
        cases h2
        obtain ⟨a, vs, F', rfl, sq, r2, _⟩ := Rep.lstI r3
        exact ⟨a, vs, rfl, .inl ⟨sq, q _ H1 Z1 γ1 Fe p ⟨a, by rw [List.getElem?_append_left hr, h1], rfl⟩⟩⟩
      · cases hz
    · cases e2
  · cases e2
theorem ri_zip {e1 e2 : Expr} {ea eb : Ex} {g : Nat} {p pos tpos : Pos} {elts : List Expr} {kk : Nat} (hgl : Gl X "zip") (hm : X.mg "zip" = none) (ha : PE X e1 (RE T cl cm X.K n fx ea)) (hb : PE X e2 (RE T cl cm X.K n fx eb))
    (hs : starEach [e1, e2] X.env = (false, eval e1 X.env) :: starEach [e2] X.env) (hs2 : starEach [e2] X.env = [(false, eval e2 X.env)]) (hg : n ≤ g) :
    PI X (.Tuple elts kk tpos) (.Call (.Name "zip" p) [e1, e2] [] pos) (RI T cl cm X.K n fx (.zip ea eb) g) := by
  refine (RZ.pi_zipA hgl hm (pa_cons ha (pa_cons hb pa_nil (by rw [hs2]; rfl)) hs) hs (by rw [hs2]; rfl)).imp fun σ H R h => ?_
  obtain ⟨ρ, η, γ, Z, F, hn, rs, w, W, ρ', ev, q⟩ := h
  simp only [evalI] at ev
  obtain ⟨x, ρ1, e1, e2⟩ := Res.bind_ok ev
  obtain ⟨y, ρ2, e3, e4⟩ := Res.bind_ok e2
  refine ⟨ρ, η, γ, Z, F, hn, rs, w, _, _, e1, fun v H1 Z1 γ1 Fe1 Fo1 p1 od1 _ => ?_⟩
  refine ⟨ρ1, η, γ1, Z1, Fe1, ⟨hn.1, p1.nl⟩, p1.rep, p1.wf, _, _, e3, fun u H2 Z2 γ2 Fe2 Fo2 p2 od2 _ => ?_⟩
  split at e4
  · rename_i l m
    split at e4
    · rename_i hi
      simp only [Bool.and_eq_true] at hi
      split at e4
      · cases e4
      · rename_i hc
        cases e4
        simp only [Bool.or_eq_true, List.contains_iff_mem, decide_eq_true_eq, not_or, Nat.not_le] at hc
        obtain ⟨a, vs, rfl, sq, r1⟩ := Rep.tupI od1
        obtain ⟨b, us, rfl, sq2, r2⟩ := Rep.tupI od2
        have z1 := Reps.imm r1 hi.1
        have z2 := Reps.imm r2 hi.2
        subst z1 z2
        have ps := p1.seq p2
        have od1' := Rep.keep (p1.keeps p2) (show Rep X.K η Z1 H1 (.tup l) (.ref a) [] from od1) (fun _ m => m)
        obtain ⟨_, _, ea', sq', _⟩ := od1'.tupI
        cases ea'
        obtain ⟨γ3, Fe3, p3, hg3⟩ := (ps.sub (List.nil_sublist _)).setG od1' (by rw [hn.1]; exact hg) (by omega) hc.1.1
        obtain ⟨γ4, Fe4, p4, hg4⟩ := (Pst.refl (fx := g :: fx) p3.nl p3.rep p3.wf).setG (d := .tup m) (v := .ref b) (g := g + 1) (show Rep X.K η Z2 H2 (.tup m) (.ref b) [] from od2) (by rw [hn.1]; omega) (by simpa [setS] using hc.2) (fun h => hc.1.2 (by simpa [lk] using h))
        have p5 : Pst T.al X.K η σ fx H2 Z2 Fe3 γ3 H2 Z2 γ4 _ Fe4 [] := ⟨p4.evo, p4.gl, fun i hi => p4.fx i (List.mem_cons_of_mem _ hi), p4.rep, p4.nl⟩
        exact ⟨a, b, _, us, rfl, .inr ⟨sq', sq2, q _ H2 Z2 γ4 Fe4 (p3.seq p5) ⟨a, b, (p4.fx g List.mem_cons_self).trans hg3, hg4, rfl⟩⟩⟩
    · cases e4
  · cases e4
theorem OdsR.ints1 {a : Int} {vs : List V} {Fo : List Addr} (h : OdsR K η Z H σ [.v (.int a)] vs Fo) : vs = [.int a] ∧ Fo = [] := by
  obtain ⟨v, vs', F1, F2, rfl, ⟨rfl, rfl⟩, ⟨rfl, rfl⟩, rfl⟩ := h
  exact ⟨rfl, rfl⟩
theorem OdsR.ints2 {a b : Int} {vs : List V} {Fo : List Addr} (h : OdsR K η Z H σ [.v (.int a), .v (.int b)] vs Fo) : vs = [.int a, .int b] ∧ Fo = [] := by
  obtain ⟨v, vs', F1, F2, rfl, ⟨rfl, rfl⟩, h2, rfl⟩ := h
  obtain ⟨rfl, rfl⟩ := OdsR.ints1 h2
  exact ⟨rfl, rfl⟩
theorem OdsR.ints3 {a b c : Int} {vs : List V} {Fo : List Addr} (h : OdsR K η Z H σ [.v (.int a), .v (.int b), .v (.int c)] vs Fo) : vs = [.int a, .int b, .int c] ∧ Fo = [] := by
  obtain ⟨v, vs', F1, F2, rfl, ⟨rfl, rfl⟩, h2, rfl⟩ := h
  obtain ⟨rfl, rfl⟩ := OdsR.ints2 h2
  exact ⟨rfl, rfl⟩
theorem ri_rng1 {tg a : Expr} {ea : Ex} {g : Nat} {p pos : Pos} (hgl : Gl X "range") (hm : X.mg "range" = none) (ha : PA X [a] (RA T cl cm X.K n fx [ea])) (hs : starEach [a] X.env = [(false, eval a X.env)]) :
    PI X tg (.Call (.Name "range" p) [a] [] pos) (RI T cl cm X.K n fx (.rng [ea]) g) := by
  refine (pi_range1 hgl hm ha hs).imp fun σ H R h => ?_
  obtain ⟨ρ, η, γ, Z, F, hn, rs, w, W, ρ', ev, q⟩ := h
  simp only [evalI] at ev
  obtain ⟨os, ρ1, e1, e2⟩ := Res.bind_ok ev
  refine ⟨ρ, η, γ, Z, F, hn, rs, w, _, _, e1, fun vs H1 Z1 γ1 Fe Fo p od _ => ?_⟩
  have hl := ra_len e1
  split at e2
  · rename_i j
    split at e2
    · rename_i hj
      cases e2
      obtain ⟨rfl, rfl⟩ := od.ints1
      exact ⟨j, rfl, hj.1, hj.2, q _ H1 Z1 γ1 Fe p (.inl ⟨rfl, rfl⟩)⟩
    · cases e2
  · simp at hl
  · simp at hl
  · cases e2
theorem ri_rng2 {tg a b : Expr} {ea eb : Ex} {g : Nat} {p pos : Pos} (hgl : Gl X "range") (hm : X.mg "range" = none) (ha : PA X [a, b] (RA T cl cm X.K n fx [ea, eb])) (hs : starEach [a, b] X.env = [(false, eval a X.env), (false, eval b X.env)]) (hs2 : starEach [b] X.env = [(false, eval b X.env)]) :
    PI X tg (.Call (.Name "range" p) [a, b] [] pos) (RI T cl cm X.K n fx (.rng [ea, eb]) g) := by
  refine (pi_range2 hgl hm ha hs hs2).imp fun σ H R h => ?_
  obtain ⟨ρ, η, γ, Z, F, hn, rs, w, W, ρ', ev, q⟩ := h
  simp only [evalI] at ev
  obtain ⟨os, ρ1, e1, e2⟩ := Res.bind_ok ev
  refine ⟨ρ, η, γ, Z, F, hn, rs, w, _, _, e1, fun vs H1 Z1 γ1 Fe Fo p od _ => ?_⟩
  have hl := ra_len e1
  split at e2
  · simp at hl
  · rename_i i j
    split at e2
    · rename_i hj
      cases e2
      obtain ⟨rfl, rfl⟩ := od.ints2
      exact ⟨i, j, rfl, ⟨hj.1.1, hj.1.2, hj.2.1, hj.2.2⟩, q _ H1 Z1 γ1 Fe p (.inl ⟨rfl, rfl⟩)⟩
    · cases e2
  · simp at hl
  · cases e2
theorem ri_rng3 {tg a b c : Expr} {ea eb ec : Ex} {g : Nat} {p pos : Pos} (hgl : Gl X "range") (hm : X.mg "range" = none) (ha : PA X [a, b, c] (RA T cl cm X.K n fx [ea, eb, ec]))
    (hs : starEach [a, b, c] X.env = (false, eval a X.env) :: starEach [b, c] X.env) (hs2 : starEach [b, c] X.env = [(false, eval b X.env), (false, eval c X.env)]) :
    PI X tg (.Call (.Name "range" p) [a, b, c] [] pos) (RI T cl cm X.K n fx (.rng [ea, eb, ec]) g) := by
  refine (pi_range3 hgl hm ha hs (by rw [hs2]; rfl)).imp fun σ H R h => ?_
  obtain ⟨ρ, η, γ, Z, F, hn, rs, w, W, ρ', ev, q⟩ := h
  simp only [evalI] at ev
  obtain ⟨os, ρ1, e1, e2⟩ := Res.bind_ok ev
  refine ⟨ρ, η, γ, Z, F, hn, rs, w, _, _, e1, fun vs H1 Z1 γ1 Fe Fo p od _ => ?_⟩
  have hl := ra_len e1
  split at e2
  · simp at hl
  · simp at hl
  · rename_i i j c
    split at e2
    · rename_i hj
      cases e2
      obtain ⟨rfl, rfl⟩ := od.ints3
      obtain ⟨rfl, hj⟩ := hj
      exact ⟨i, j, -1, (i - j).toNat, rfl, RgC.neg hj.1.1 hj.1.2 hj.2.1 hj.2.2, q _ H1 Z1 γ1 Fe p (.inr rfl)⟩
    · cases e2
  · cases e2

/-! ### targets by names -/
def tgIx : Tg → List Nat
  | .nm i => [i]
  | .tp l => (tgNames l).getD []
  | _ => []
/-- behind a target by names -/
def GPost (AL : AlT) (K : PySem.W.Frag) (η : List V) (fx ix : List Nat) (σ γ : L2.St) (Z : Addr → Prop) (H : Hp) (F : List Addr) (ρ ρ' : Env) (Q : L2.St → Hp → Prop) : Prop := ∀ σ' F', σ'.length = σ.length → (∀ j, j ∉ ix → σ'[j]? = σ[j]?) → (∀ j ∈ fx, σ'[j]? = σ[j]?) →
  RepE AL K η Z H ρ' σ' γ F' → F'.Sublist F → ρ'.nl = ρ.nl → Q σ' H
def RG (AL : AlT) (K : PySem.W.Frag) (n : Nat) (fx : List Nat) (t : Tg) : TG := fun v σ H Q => ∃ ρ η γ Z F d, σ.length = n ∧ RepE AL K η Z H ρ σ γ F ∧ Rep K η Z H d v [] ∧ ∃ ρ', asgI AL fx t d ρ = .ok () ρ' ∧ GPost AL K η fx (tgIx t) σ γ Z H F ρ ρ' Q
def RGs (AL : AlT) (K : PySem.W.Frag) (n : Nat) (fx : List Nat) (is : List Nat) : TGs := fun vs σ H Q => ∃ ρ η γ Z F ds, σ.length = n ∧ RepE AL K η Z H ρ σ γ F ∧ Reps K η Z H ds vs [] ∧ ∃ ρ', asgNs AL fx is ds ρ = .ok () ρ' ∧ GPost AL K η fx is σ γ Z H F ρ ρ' Q
theorem asgN_ok {i : Nat} {d : D} {ρ' : Env} (h : asgN AL fx i d ρ = .ok () ρ') : (i ∉ fx ∧ tgt AL i = false) ∧ i < ρ.s.length ∧ ρ' = setS ρ i (.own d) := by
  unfold asgN at h
  split at h
  · cases h
  · rename_i hc
    have hc' : i ∉ fx ∧ tgt AL i = false := by simpa [lk] using hc
    split at h <;> first | cases h | skip
    all_goals (rename_i e; exact ⟨hc', (List.getElem?_eq_some_iff.mp e).1, rfl⟩)
/-- a name gets what owns nothing -/
theorem RepE.setN {i : Nat} {d : D} {v : V} (rs : RepE AL K η Z H ρ σ γ F) (r : Rep K η Z H d v []) (hi : i < σ.length) (hl : i < ρ.s.length) (ht : tgt AL i = false) : ∃ F', F'.Sublist F ∧ RepE AL K η Z H (setS ρ i (.own d)) (σ.set i (some v)) γ F' := by
  have ha := rs.2.setS (x := .own d) (σ' := σ.set i (some v)) (fun _ _ h => nomatch h) ht (fun j hj => List.getElem?_set_ne (Ne.symm hj))
  suffices h : ∃ F', F'.Sublist F ∧ RepS K η Z H (setS ρ i (.own d)).s (σ.set i (some v) ++ γ) F' by
    obtain ⟨F', s', r'⟩ := h
    exact ⟨F', s', r', ha⟩
  refine rs.1.upd (by simp [setS]) (by simp) fun j x hx => ?_
  by_cases e : j = i
  · subst e
    right
    rw [show (setS ρ j (.own d)).s = ρ.s.set j (.own d) from rfl, List.getElem?_set_self hl] at hx
    cases hx
    exact ⟨some v, by rw [List.getElem?_append_left (by simpa using hi), List.getElem?_set_self hi], v, rfl, r⟩
  · left
    rw [show (setS ρ i (.own d)).s = ρ.s.set i (.own d) from rfl, List.getElem?_set_ne (Ne.symm e)] at hx
    refine ⟨hx, ?_⟩
    rw [← List.set_append_left _ _ hi, List.getElem?_set_ne (Ne.symm e)]
theorem RepE.len2 (rs : RepE AL K η Z H ρ σ γ F) : ρ.s.length = σ.length + γ.length := by rw [rs.1.len]; simp
theorem rg_nm {i : Nat} {x : Str} {pos : Pos} (hN : X.N.Nodup) (hi : X.N[i]? = some x) (hx : Loc X.env.scope x) (hf : X.fn x = true ∨ X.env.scope.names.lookup x = some .local) (hin : i < n) : PG X (.Name x pos) (RG AL X.K n fx (.nm i)) := by
  refine ⟨fun pins s σ H v u Q I r h => (pg_name (i := i) hN hi hx hf).run pins s σ H v u Q I r ?_⟩
  obtain ⟨ρ, η, γ, Z, F, d, hn, rs, rd, ρ', ev, q⟩ := h
  simp only [asgI] at ev
  obtain ⟨h1, h2, rfl⟩ := asgN_ok ev
  obtain ⟨F', s', r'⟩ := rs.setN rd (by rw [hn]; exact hin) h2 h1.2
  refine q _ F' (by simp) (fun j hj => ?_) (fun j hj => ?_) r' s' rfl
  · exact List.getElem?_set_ne fun e => hj (by simp [tgIx, e])
  · exact List.getElem?_set_ne fun e => h1.1 (by rw [e]; exact hj)
/-- names of a tuple target -/
inductive NmOk (X : Cx) (n : Nat) : List Nat → List Expr → Prop
  | nil : NmOk X n [] []
  | cons {i : Nat} {is : List Nat} {x : Str} {p : Pos} {es : List Expr} : X.N[i]? = some x → Loc X.env.scope x → (X.fn x = true ∨ X.env.scope.names.lookup x = some .local) → i < n → NmOk X n is es → NmOk X n (i :: is) (.Name x p :: es)
theorem rgs {is : List Nat} {es : List Expr} (hN : X.N.Nodup) (h : NmOk X n is es) : PGs X es (RGs AL X.K n fx is) := by
  induction h with
  | nil =>
    refine ⟨fun pins s σ H vs us Q I r h => pgs_nil.run pins s σ H vs us Q I r ?_⟩
    obtain ⟨ρ, η, γ, Z, F, ds, hn, rs, rd, ρ', ev, q⟩ := h
    cases ds with
    | nil =>
      obtain ⟨rfl, _⟩ := rd
      simp only [asgNs] at ev
      cases ev
      exact ⟨rfl, q σ F rfl (fun _ _ => rfl) (fun _ _ => rfl) rs (List.Sublist.refl _) rfl⟩
    | cons d ds => simp [asgNs] at ev
  | @cons i is x p es h1 h2 h3 h4 _ ih =>
    refine ⟨fun pins s σ H vs us Q I r h => (pgs_cons (rg_nm (AL := AL) (fx := fx) hN h1 h2 h3 h4) ih).run pins s σ H vs us Q I r ?_⟩
    obtain ⟨ρ, η, γ, Z, F, ds, hn, rs, rd, ρ', ev, q⟩ := h
    cases ds with
    | nil => simp [asgNs] at ev
    | cons d ds =>
      obtain ⟨v, vs', F1, F2, rfl, r1, r2, e0⟩ := rd
      obtain ⟨rfl, rfl⟩ : F1 = [] ∧ F2 = [] := by simpa using e0.symm
      simp only [asgNs] at ev
      obtain ⟨_, ρ1, e1, e2⟩ := Res.bind_ok ev
      refine ⟨v, vs', rfl, ρ, η, γ, Z, F, d, hn, rs, r1, ρ1, by simpa only [asgI] using e1, fun σ1 F1 hl hj hfx rs1 sb nl => ?_⟩
      refine ⟨ρ1, η, γ, Z, F1, ds, hl.trans hn, rs1, r2, ρ', e2, fun σ2 F2 hl2 hj2 hfx2 rs2 sb2 nl2 => ?_⟩
      refine q σ2 F2 (hl2.trans hl) (fun j hj' => ?_) (fun j hj' => (hfx2 j hj').trans (hfx j hj')) rs2 (sb2.trans sb) (nl2.trans nl)
      rw [hj2 j fun m => hj' (List.mem_cons_of_mem _ m), hj j fun m => hj' (by simp [tgIx] at m; simp [m])]
/-- a name gets what may own -/
theorem RepE.setO {i : Nat} {d : D} {v : V} {Fo : List Addr} (rs : RepE AL K η Z H ρ σ γ F) (r : Rep K η Z H d v Fo) (hi : i < σ.length) (hl : i < ρ.s.length) (ht : tgt AL i = false) : ∃ F' G, (F' ++ G).Perm (F ++ Fo) ∧ RepE AL K η Z H (setS ρ i (.own d)) (σ.set i (some v)) γ F' := by
  have ha := rs.2.setS (x := .own d) (σ' := σ.set i (some v)) (fun _ _ h => nomatch h) ht (fun j hj => List.getElem?_set_ne (Ne.symm hj))
  obtain ⟨ov, A, G, B, e1, rfl, r1, k⟩ := rs.1.at (List.getElem?_eq_getElem hl)
  have k1 := k Z H (.own d) (some v) Fo ⟨fun _ _ _ e => e, fun _ _ _ e => e, fun _ _ e _ => e, fun _ z => z⟩ ⟨v, rfl, r⟩
  rw [List.set_append_left _ _ hi] at k1
  refine ⟨A ++ Fo ++ B, G, ?_, k1, ha⟩
  have h1 : (G ++ B ++ Fo).Perm (Fo ++ B ++ G) := by
    have : (G ++ (B ++ Fo)).Perm ((B ++ Fo) ++ G) := List.perm_append_comm
    have h2 : ((B ++ Fo) ++ G).Perm ((Fo ++ B) ++ G) := List.perm_append_comm.append_right _
    simpa only [List.append_assoc] using this.trans h2
  exact (by simpa only [List.append_assoc] using h1.append_left A : (A ++ G ++ B ++ Fo).Perm (A ++ Fo ++ B ++ G)).symm
/-- parts that may own are put into names -/
def RGo (AL : AlT) (K : PySem.W.Frag) (n : Nat) (fx : List Nat) (is : List Nat) : TGs := fun vs σ H Q => ∃ ρ η γ Z F ds Fo, σ.length = n ∧ RepE AL K η Z H ρ σ γ F ∧ Reps K η Z H ds vs Fo ∧ ∃ ρ', asgNs AL fx is ds ρ = .ok () ρ' ∧
  ∀ σ' F' G, σ'.length = σ.length → (∀ j ∈ fx, σ'[j]? = σ[j]?) → RepE AL K η Z H ρ' σ' γ F' → (F' ++ G).Perm (F ++ Fo) → ρ'.nl = ρ.nl → Q σ' H
theorem rgo {is : List Nat} {es : List Expr} (hN : X.N.Nodup) (h : NmOk X n is es) : PGs X es (RGo AL X.K n fx is) := by
  induction h with
  | nil =>
    refine ⟨fun pins s σ H vs us Q I r h => pgs_nil.run pins s σ H vs us Q I r ?_⟩
    obtain ⟨ρ, η, γ, Z, F, ds, Fo, hn, rs, rd, ρ', ev, q⟩ := h
    cases ds with
    | nil =>
      obtain ⟨rfl, rfl⟩ := rd
      simp only [asgNs] at ev
      cases ev
      exact ⟨rfl, q σ F [] rfl (fun _ _ => rfl) rs (List.Perm.refl _) rfl⟩
    | cons d ds => simp [asgNs] at ev
  | @cons i is x p es h1 h2 h3 h4 _ ih =>
    refine ⟨fun pins s σ H vs us Q I r h => (pgs_cons (pg_name (i := i) hN h1 h2 h3) ih).run pins s σ H vs us Q I r ?_⟩
    obtain ⟨ρ, η, γ, Z, F, ds, Fo, hn, rs, rd, ρ', ev, q⟩ := h
    cases ds with
    | nil => simp [asgNs] at ev
    | cons d ds =>
      obtain ⟨v, vs', F1, F2, rfl, r1, r2, rfl⟩ := rd
      simp only [asgNs] at ev
      obtain ⟨_, ρ1, e1, e2⟩ := Res.bind_ok ev
      obtain ⟨k1, k2, rfl⟩ := asgN_ok e1
      have hi : i < σ.length := by rw [hn]; exact h4
      obtain ⟨Fa, Ga, pa, rs1⟩ := rs.setO r1 hi k2 k1.2
      refine ⟨v, vs', rfl, setS ρ i (.own d), η, γ, Z, Fa, ds, F2, by simpa using hn, rs1, r2, ρ', e2, fun σ2 Fb Gb hl2 hfx2 rs2 pb nl2 => ?_⟩
      refine q σ2 Fb (Gb ++ Ga) (hl2.trans (by simp)) (fun j hj' => (hfx2 j hj').trans (List.getElem?_set_ne fun e => k1.1 (by rw [e]; exact hj'))) rs2 ?_ nl2
      have p1 : (Fb ++ Gb ++ Ga).Perm (Fa ++ F2 ++ Ga) := pb.append_right _
      have p2 : (Fa ++ F2 ++ Ga).Perm (Fa ++ Ga ++ F2) := by
        have : (F2 ++ Ga).Perm (Ga ++ F2) := List.perm_append_comm
        simpa only [List.append_assoc] using this.append_left Fa
      have p3 : (Fa ++ Ga ++ F2).Perm (F ++ F1 ++ F2) := pa.append_right _
      simpa only [List.append_assoc] using p1.trans (p2.trans p3)
/-- what is unpacked, its parts may own -/
def RGuo (AL : AlT) (K : PySem.W.Frag) (n : Nat) (fx : List Nat) (is : List Nat) : TG := fun v σ H Q => ∃ ρ η γ Z F ds Fo a vs, σ.length = n ∧ RepE AL K η Z H ρ σ γ F ∧ v = .ref a ∧ (SqT K H a vs ∨ SqL K H a vs) ∧ Reps K η Z H ds vs Fo ∧ ∃ ρ', asgNs AL fx is ds ρ = .ok () ρ' ∧
  ∀ σ' F' G, σ'.length = σ.length → (∀ j ∈ fx, σ'[j]? = σ[j]?) → RepE AL K η Z H ρ' σ' γ F' → (F' ++ G).Perm (F ++ Fo) → ρ'.nl = ρ.nl → Q σ' H
/-- what is unpacked, its parts not owned -/
def RGu (AL : AlT) (K : PySem.W.Frag) (n : Nat) (fx : List Nat) (is : List Nat) : TG := fun v σ H Q => ∃ ρ η γ Z F ds a vs, σ.length = n ∧ RepE AL K η Z H ρ σ γ F ∧ v = .ref a ∧ (SqT K H a vs ∨ SqL K H a vs) ∧ Reps K η Z H ds vs [] ∧ ∃ ρ', asgNs AL fx is ds ρ = .ok () ρ' ∧ GPost AL K η fx is σ γ Z H F ρ ρ' Q
theorem asgNs_len : ∀ (is : List Nat) (ds : List D) (ρ ρ' : Env), asgNs AL fx is ds ρ = .ok () ρ' → ds.length = is.length := by
  intro is
  induction is with
  | nil => intro ds ρ ρ' h; cases ds <;> simp [asgNs] at h; rfl
  | cons i is ih =>
    intro ds ρ ρ' h
    cases ds with
    | nil => simp [asgNs] at h
    | cons d ds =>
      simp only [asgNs] at h
      obtain ⟨_, ρ1, e1, e2⟩ := Res.bind_ok h
      simp [ih ds ρ1 ρ' e2]
theorem rg_un {is : List Nat} {es : List Expr} {k : Nat} {pos : Pos} (hc : X.calm = true) (hN : X.N.Nodup) (h : NmOk X n is es)
    (hn : (assignEach es X.env).length = is.length) (hst : (assignEach es X.env).findIdx? (·.1) = none) : PG X (.Tuple es k pos) (RGu AL X.K n fx is) := by
  refine ⟨fun pins s σ H v u Q I r h' => ?_⟩
  obtain ⟨ρ, η, γ, Z, F, ds, a, vs, hn', rs, rfl, sq, r2, ρ', ev, q⟩ := h'
  have hl : vs.length = is.length := by rw [← r2.length, asgNs_len is ds ρ ρ' ev]
  rcases sq with sq | sq
  · exact (pg_tup (n := is.length) hc (rgs (fx := fx) hN h) hn hst).run pins s σ H _ u Q I r ⟨a, vs, rfl, sq, hl, ρ, η, γ, Z, F, ds, hn', rs, r2, ρ', ev, q⟩
  · exact (pg_lst (n := is.length) hc (rgs (fx := fx) hN h) hn hst).run pins s σ H _ u Q I r ⟨a, vs, rfl, sq, hl, ρ, η, γ, Z, F, ds, hn', rs, r2, ρ', ev, q⟩
theorem rg_uno {is : List Nat} {es : List Expr} {k : Nat} {pos : Pos} (hc : X.calm = true) (hN : X.N.Nodup) (h : NmOk X n is es)
    (hn : (assignEach es X.env).length = is.length) (hst : (assignEach es X.env).findIdx? (·.1) = none) : PG X (.Tuple es k pos) (RGuo AL X.K n fx is) := by
  refine ⟨fun pins s σ H v u Q I r h' => ?_⟩
  obtain ⟨ρ, η, γ, Z, F, ds, Fo, a, vs, hn', rs, rfl, sq, r2, ρ', ev, q⟩ := h'
  have hl : vs.length = is.length := by rw [← r2.length, asgNs_len is ds ρ ρ' ev]
  rcases sq with sq | sq
  · exact (pg_tup (n := is.length) hc (rgo (fx := fx) hN h) hn hst).run pins s σ H _ u Q I r ⟨a, vs, rfl, sq, hl, ρ, η, γ, Z, F, ds, Fo, hn', rs, r2, ρ', ev, q⟩
  · exact (pg_lst (n := is.length) hc (rgo (fx := fx) hN h) hn hst).run pins s σ H _ u Q I r ⟨a, vs, rfl, sq, hl, ρ, η, γ, Z, F, ds, Fo, hn', rs, r2, ρ', ev, q⟩
theorem unpD_repO {d : D} {ds : List D} {v : V} {F : List Addr} {K : PySem.W.Frag} {η : List V} {Z : Addr → Prop} {H : Hp} (h : unpD d = some ds) (r : Rep K η Z H d v F) : ∃ a vs F', v = .ref a ∧ (SqT K H a vs ∨ SqL K H a vs) ∧ Reps K η Z H ds vs F' ∧ F'.Sublist F := by
  cases d with
  | tup l =>
    cases h
    obtain ⟨a, vs, e, sq, r2⟩ := r.tupI
    exact ⟨a, vs, F, e, .inl sq, r2, List.Sublist.refl _⟩
  | lst z l =>
    cases h
    obtain ⟨a, vs, F', e, sq, r2, sb, _⟩ := r.lstI
    exact ⟨a, vs, F', e, .inr sq, r2, sb⟩
  | _ => simp [unpD] at h
theorem unpI_rep {d : D} {ds : List D} {v : V} {K : PySem.W.Frag} {η : List V} {Z : Addr → Prop} {H : Hp} (h : unpI d = some ds) (r : Rep K η Z H d v []) : ∃ a vs, v = .ref a ∧ (SqT K H a vs ∨ SqL K H a vs) ∧ Reps K η Z H ds vs [] := by
  cases d with
  | tup l =>
    cases h
    obtain ⟨a, vs, e, sq, r2⟩ := r.tupI
    exact ⟨a, vs, e, .inl sq, r2⟩
  | lst z l =>
    cases z with
    | false => simp [unpI] at h
    | true =>
      cases h
      obtain ⟨a, vs, F', e, sq, r2, sb, _⟩ := r.lstI
      obtain rfl : F' = [] := List.eq_nil_of_sublist_nil sb
      exact ⟨a, vs, e, .inr sq, r2⟩
  | _ => simp [unpI] at h
theorem unpD_rep {d : D} {ds : List D} {v : V} {F : List Addr} {K : PySem.W.Frag} {η : List V} {Z : Addr → Prop} {H : Hp} (h : unpD d = some ds) (hm : immL ds = true) (r : Rep K η Z H d v F) : ∃ a vs, v = .ref a ∧ (SqT K H a vs ∨ SqL K H a vs) ∧ Reps K η Z H ds vs [] := by
  cases d with
  | tup l =>
    cases h
    obtain ⟨a, vs, e, sq, r2⟩ := r.tupI
    have := Reps.imm r2 hm
    subst this
    exact ⟨a, vs, e, .inl sq, r2⟩
  | lst z l =>
    cases h
    obtain ⟨a, vs, F', e, sq, r2, _⟩ := r.lstI
    have := Reps.imm r2 hm
    subst this
    exact ⟨a, vs, e, .inr sq, r2⟩
  | _ => simp [unpD] at h
theorem rg_tp {l : List Tg} {is : List Nat} {es : List Expr} {k : Nat} {pos : Pos} (hc : X.calm = true) (hN : X.N.Nodup) (ht : tgNames l = some is) (h : NmOk X n is es)
    (hn : (assignEach es X.env).length = is.length) (hst : (assignEach es X.env).findIdx? (·.1) = none) : PG X (.Tuple es k pos) (RG AL X.K n fx (.tp l)) := by
  refine ⟨fun pins s σ H v u Q I r h' => (rg_un (AL := AL) (fx := fx) hc hN h hn hst).run pins s σ H v u Q I r ?_⟩
  obtain ⟨ρ, η, γ, Z, F, d, hn', rs, rd, ρ', ev, q⟩ := h'
  simp only [asgI, ht] at ev
  split at ev
  · rename_i ds is' h1 h2
    cases h2
    obtain ⟨a, vs, e, sq, r2⟩ := unpI_rep h1 rd
    have : tgIx (.tp l) = is := by simp [tgIx, ht]
    rw [this] at q
    exact ⟨ρ, η, γ, Z, F, ds, a, vs, hn', rs, e, sq, r2, ρ', ev, q⟩
  · cases ev
end
end Pv

/-! Pv, part O: comprehensions. -/
namespace Pv
open PySem PySem.Spec PyProof.Rows L2
variable {AL : AlT}
theorem backS_get {ρ : Env} {j : Nat} : ∀ {own : List Nat} {ρ' : Env}, (backS ρ own ρ').s[j]? = if j ∈ own then (if j < ρ'.s.length then some (ρ.s.getD j .no) else none) else ρ'.s[j]?
  | [], _ => by simp [backS]
  | i :: own, ρ' => by
    rw [backS, backS_get (own := own)]
    by_cases e : j = i
    · subst e
      by_cases m : j ∈ own
      · simp [m, setS]
      · by_cases hl : j < ρ'.s.length
        · simp [m, setS, hl]
        · simp [m, setS, hl, List.getElem?_set]
    · by_cases m : j ∈ own
      · simp [m, setS]
      · simp [m, setS, e, List.getElem?_set, Ne.symm e]
theorem backS_len {ρ : Env} : ∀ {own : List Nat} {ρ' : Env}, (backS ρ own ρ').s.length = ρ'.s.length
  | [], _ => rfl
  | i :: own, ρ' => by rw [backS, backS_len (own := own)]; simp [setS]
theorem backS_nl {ρ : Env} : ∀ {own : List Nat} {ρ' : Env}, (backS ρ own ρ').nl = ρ'.nl
  | [], _ => rfl
  | i :: own, ρ' => by rw [backS, backS_nl (own := own)]; rfl
theorem wipeS_get {j : Nat} : ∀ {own : List Nat} {ρ : Env}, (wipeS own ρ).s[j]? = if j ∈ own then (if j < ρ.s.length then some .no else none) else ρ.s[j]?
  | [], _ => by simp [wipeS]
  | i :: own, ρ => by
    rw [wipeS, wipeS_get (own := own)]
    by_cases e : j = i
    · subst e
      by_cases m : j ∈ own
      · simp [m, setS]
      · by_cases hl : j < ρ.s.length
        · simp [m, setS, hl]
        · simp [m, setS, hl, List.getElem?_set]
    · by_cases m : j ∈ own
      · simp [m, setS]
      · simp [m, setS, e, List.getElem?_set, Ne.symm e]
theorem wipeS_len : ∀ {own : List Nat} {ρ : Env}, (wipeS own ρ).s.length = ρ.s.length
  | [], _ => rfl
  | i :: own, ρ => by rw [wipeS, wipeS_len (own := own)]; simp [setS]
theorem wipeS_nl : ∀ {own : List Nat} {ρ : Env}, (wipeS own ρ).nl = ρ.nl
  | [], _ => rfl
  | i :: own, ρ => by rw [wipeS, wipeS_nl (own := own)]; rfl
theorem wipe_in {σ : L2.St} {i : Nat} : ∀ {vs : List Nat}, i ∈ vs → i < σ.length → (wipe σ vs)[i]? = some none
  | v :: vs, h, hl => by
    unfold wipe
    by_cases e : v = i
    · subst e
      rw [List.getElem?_set_self (by rw [wipe_length]; exact hl)]
    · rw [List.getElem?_set_ne e]
      exact wipe_in (by simpa [Ne.symm e] using h) hl
theorem wipe_eq {σ σ' : L2.St} {own : List Nat} (hl : σ'.length = σ.length) (h : ∀ j, j ∉ own → σ'[j]? = σ[j]?) : wipe σ' own = wipe σ own := by
  apply List.ext_getElem?
  intro j
  by_cases m : j ∈ own
  · by_cases hj : j < σ.length
    · rw [wipe_in m (by omega), wipe_in m hj]
    · rw [List.getElem?_eq_none (by rw [wipe_length]; omega), List.getElem?_eq_none (by rw [wipe_length]; omega)]
  · rw [wipe_out m, wipe_out m, h j m]
theorem wipe_idem {σ : L2.St} {own : List Nat} : wipe (wipe σ own) own = wipe σ own := wipe_eq (wipe_length σ own) fun j hj => wipe_out hj
theorem fx_sub {w : Walk} {fx : List Nat} {j : Nat} (h : j ∈ fx) : j ∈ w.fx fx := by
  cases w <;> simp [Walk.fx, h]
theorem fx_self {w : Walk} {fx : List Nat} {j : Nat} (h : j ∈ w.fx []) : j ∈ w.fx fx := by
  cases w <;> simp_all [Walk.fx] <;> omega
theorem app_same {σ σ' γ γ' : L2.St} {j : Nat} (hl : σ'.length = σ.length) (h : (σ' ++ γ')[j]? = (σ' ++ γ)[j]?) : (σ ++ γ')[j]? = (σ ++ γ)[j]? := by
  by_cases hj : j < σ.length
  · rw [List.getElem?_append_left hj, List.getElem?_append_left hj]
  · rw [List.getElem?_append_right (by omega), List.getElem?_append_right (by omega)] at h ⊢
    rw [hl] at h
    exact h
theorem app_get {σ σ' γ : L2.St} {j : Nat} (hl : σ'.length = σ.length) (h : σ'[j]? = σ[j]?) : (σ' ++ γ)[j]? = (σ ++ γ)[j]? := by
  by_cases hj : j < σ.length
  · rw [List.getElem?_append_left hj, List.getElem?_append_left (by omega), h]
  · rw [List.getElem?_append_right (by omega), List.getElem?_append_right (by omega), hl]
section
variable {X : Cx} {T : Tab} {cl cm : CallT} {n : Nat} {fx : List Nat}
variable {K : PySem.W.Frag} {η : List V} {σ : L2.St} {H H1 H2 : Hp} {Z Z1 Z2 : Addr → Prop} {F Fe1 Fo1 Fe2 Fo2 : List Addr} {γ γ1 γ2 : L2.St} {ρ ρ1 ρ2 : Env}
/-- a comprehension's test, its reading -/
def RC (T : Tab) (cl cm : CallT) (K : PySem.W.Frag) (n : Nat) (fx : List Nat) (c : List Ex) : TT := fun σ H Q => ∃ ρ η γ Z F, (σ.length = n ∧ ρ.nl = η.length) ∧ RepE T.al K η Z H ρ σ γ F ∧ WF H Z F ∧ ∃ b ρ', evalC T cl cm c fx ρ = .ok b ρ' ∧
  ∀ H' Z' γ' Fe, Pst T.al K η σ fx H Z F γ H' Z' γ' ρ' Fe [] → Q b H'
theorem _root_.L2.PTs.imp {e : List Expr} {t t' : TT} (h : PTs X e t) (i : ∀ σ H Q, t' σ H Q → t σ H Q) : PTs X e t' := ⟨fun pins s σ H Q I q => h.run pins s σ H Q I (i σ H Q q)⟩
theorem rc_nil : PTs X [] (RC T cl cm X.K n fx []) := pts_nil.imp fun σ H Q h => by
  obtain ⟨ρ, η, γ, Z, F, hn, rs, w, b, ρ', ev, q⟩ := h
  simp only [evalC] at ev
  cases ev
  exact q H Z γ F (Pst.refl hn.2 rs w)
theorem rc_one {e : Expr} {ee : Ex} (he : PT X e (RT T cl cm X.K n fx ee)) : PTs X [e] (RC T cl cm X.K n fx [ee]) := (pts_one he).imp fun σ H Q h => by
  obtain ⟨ρ, η, γ, Z, F, hn, rs, w, b, ρ', ev, q⟩ := h
  simp only [evalC] at ev
  exact ⟨ρ, η, γ, Z, F, hn, rs, w, b, ρ', ev, fun H' Z' γ' Fe Fo p _ => q H' Z' γ' Fe (p.sub (List.nil_sublist _))⟩
/-- within a comprehension -/
structure LcI (AL : AlT) (K : PySem.W.Frag) (η : List V) (σ γ1 : L2.St) (own fxw : List Nat) (H1 : Hp) (Z1 : Addr → Prop) (Fe1 : List Addr) (Dl : Addr) (acc : List D) (ρ2 : Env) (H : Hp) (σ2 γ2 : L2.St) (Z2 : Addr → Prop) (Fe2 Fd : List Addr) : Prop where
  wip : wipe σ2 own = wipe σ own
  gl : γ2.length = γ1.length
  fx : ∀ j ∈ fxw, (σ ++ γ2)[j]? = (σ ++ γ1)[j]?
  rep : RepE AL K η Z2 H ρ2 σ2 γ2 Fe2
  acc : Rep K η Z2 H (.lst false acc) (.ref Dl) Fd
  evo : Evo H1 Z1 Fe1 H Z2 (Fe2 ++ Fd)
  nl : ρ2.nl = η.length
theorem LcI.len {own fxw : List Nat} {Dl : Addr} {acc : List D} {σ2 : L2.St} {Fd : List Addr} (h : LcI AL K η σ γ1 own fxw H1 Z1 Fe1 Dl acc ρ2 H σ2 γ2 Z2 Fe2 Fd) : σ2.length = σ.length := by
  have := congrArg List.length h.wip
  rwa [wipe_length, wipe_length] at this
theorem LcI.out {own fxw : List Nat} {Dl : Addr} {acc : List D} {σ2 : L2.St} {Fd : List Addr} (h : LcI AL K η σ γ1 own fxw H1 Z1 Fe1 Dl acc ρ2 H σ2 γ2 Z2 Fe2 Fd) {j : Nat} (hj : j ∉ own) : σ2[j]? = σ[j]? := by
  have := congrArg (fun l : L2.St => l[j]?) h.wip
  simpa only [wipe_out hj] using this
/-- the whole of it -/
theorem RE.lc {t : Tg} {own : List Nat} {e : Ex} {it : Pv.It} {g : Nat} {c : List Ex} {Q : VK} {ρ' : Env} {o : Od} (hn : σ.length = n ∧ ρ.nl = η.length) (rs : RepE T.al K η Z H ρ σ γ F) (w : WF H Z F)
    (hgn : n ≤ g) (ho : ∀ i ∈ own, i < n) (ht : ∀ i ∈ tgIx t, i ∈ own) (ev : evalO T cl cm (.lc t own e it g c) fx ρ = .ok o ρ')
    (q : ∀ v H' Z' γ' Fe Fo, Pst T.al K η σ fx H Z F γ H' Z' γ' ρ' Fe Fo → OdR K η Z' H' σ o v Fo → Q v H') :
    tLc (RI T cl cm K n fx it g) (fun v σ H Q => ∃ fx, RG T.al K n fx t v σ H Q) (fun σ H Q => ∃ fx, RC T cl cm K n fx c σ H Q) (fun σ H Q => ∃ fx, RE T cl cm K n fx e σ H Q) own σ H Q := by
  simp only [evalO] at ev
  obtain ⟨wk, ρ1, e1, e2⟩ := Res.bind_ok ev
  refine ⟨ρ, η, γ, Z, F, hn, rs, w, wk, ρ1, e1, fun J H1 Z1 γ1 Fe1 p1 ws D hD => ?_⟩
  split at e2
  · rename_i hown
    simp only [List.all_eq_true, Bool.and_eq_true, Bool.not_eq_true'] at hown
    obtain ⟨ds, ρ2, e3, e4⟩ := Res.bind_ok e2
    cases e4
    have wno : ∀ i ∈ own, i ∉ wk.fx [] := fun i m => by simpa using (lk_of (hown i m).1).1
    have tno : ∀ i ∈ own, tgt T.al i = false := fun i m => (lk_of (hown i m).1).2
    have wf1 : WF H1 Z1 Fe1 := p1.wf
    -- the state ahead of the turns
    have start : ∃ Fe0, LcI T.al K η σ γ1 own (wk.fx fx) H1 Z1 Fe1 D [] (wipeS own ρ1) (upd H1 D (.lst [])) (wipe σ own) γ1 Z1 Fe0 [D] := by
      have a0 : AlI T.al H1 (wipeS own ρ1) (wipe σ own) := p1.rep.2.chg (fun j x hx => by
        rw [wipeS_get] at hx
        by_cases m : j ∈ own
        · right
          simp only [m, if_true] at hx
          split at hx
          · cases hx; exact fun _ _ h => nomatch h
          · cases hx
        · left
          simp only [m, if_false] at hx
          exact ⟨hx, wipe_out m⟩) (fun j hj => ⟨by rw [wipeS_get, if_neg (tgt_own tno hj)], wipe_out (tgt_own tno hj)⟩)
      obtain ⟨Fe0, s0, r0⟩ := p1.rep.1.upd (ρ' := (wipeS own ρ1).s) (S' := wipe σ own ++ γ1) wipeS_len (by simp [wipe_length]) fun j x hx => by
        rw [wipeS_get] at hx
        by_cases m : j ∈ own
        · right
          simp only [m, if_true] at hx
          split at hx
          · cases hx
            have hj : j < σ.length := by rw [hn.1]; exact ho j m
            exact ⟨none, by rw [List.getElem?_append_left (by rw [wipe_length]; exact hj), wipe_in m hj], rfl⟩
          · cases hx
        · left
          simp only [m, if_false] at hx
          exact ⟨hx, app_get (wipe_length σ own) (wipe_out m)⟩
      have sm : Same H1 (upd H1 D (.lst [])) := Same.new hD
      refine ⟨Fe0, wipe_idem, rfl, fun _ _ => rfl, RepE.keep ⟨r0, a0⟩ (Same.keeps sm (G := Fe0)) (fun _ m => m), ⟨D, [], [], rfl, ⟨rfl, rfl⟩, upd_same, rfl⟩, ?_, wipeS_nl.trans p1.nl⟩
      exact (Evo.fresh wf1 sm (Fn := [D]) (by simp) (by simpa using hD) (fun a m => by
        obtain rfl : a = D := by simpa using m
        exact ⟨_, upd_same, trivial⟩)).drop (s0.append (List.Sublist.refl _))
    obtain ⟨Fe0, i0⟩ := start
    refine ⟨fun i m H => ∃ acc ρ2' σ2 γ2 Z2 Fe2 Fd, LcI T.al K η σ γ1 own (wk.fx fx) H1 Z1 Fe1 D acc ρ2' H σ2 γ2 Z2 Fe2 Fd ∧ i ≤ wk.len ∧ m = wk.len - i ∧
      lcLoop wk (fun d ρ => asgI T.al (wk.fx fx) t d (wipeS own ρ)) (fun ρ => evalC T cl cm c (wk.fx fx) ρ) (fun ρ => evalO T cl cm e (wk.fx fx) ρ) (wk.len - i) i acc ρ2' = .ok ds ρ2,
      ⟨wk.len, [], wipeS own ρ1, wipe σ own, γ1, Z1, Fe0, [D], i0, Nat.zero_le _, by simp, by simpa using e3⟩, ?_⟩
    rintro i m H3 ⟨acc, ρ3, σ3, γ3, Z3, Fe3, Fd, I, hi, rfl, lp⟩
    have st3 : WStand K wk J (σ3 ++ γ3) := ws.mono fun j hj => by
      have h1 := I.fx j (fx_self hj)
      have hno : j ∉ own := fun m => wno j m hj
      rw [← h1]
      exact app_get I.len (I.out hno)
    cases hm : wk.len - i with
    | zero =>
      rw [hm] at lp
      simp only [lcLoop] at lp
      split at lp
      · rename_i th
        cases lp
        refine .inl ⟨(st3.turn I.rep.1 th).1 (by omega), ?_⟩
        have wf3 : WF H3 Z3 Fe3 := I.evo.wf.left
        -- back to the state ahead
        have a4 : AlI T.al H3 (backS ρ1 own ρ2) σ := I.rep.2.chg (fun j x hx => by
          rw [backS_get] at hx
          by_cases m : j ∈ own
          · right
            simp only [m, if_true] at hx
            split at hx
            · cases hx
              have h2 := (hown j m).2
              cases hg : ρ1.s[j]? with
              | none => rw [hg] at h2; cases h2
              | some x =>
                rw [List.getD_eq_getElem?_getD, hg]
                rw [hg] at h2
                cases x with
                | al => cases h2
                | _ => exact fun _ _ h => nomatch h
            · cases hx
          · left
            simp only [m, if_false] at hx
            exact ⟨hx, (I.out m).symm⟩) (fun j hj => ⟨by rw [backS_get, if_neg (tgt_own tno hj)], (I.out (tgt_own tno hj)).symm⟩)
        obtain ⟨Fe4, s4, r4⟩ := I.rep.1.upd (ρ' := (backS ρ1 own ρ2).s) (S' := σ ++ γ3) backS_len (by simp [I.len]) fun j x hx => by
          rw [backS_get] at hx
          by_cases m : j ∈ own
          · right
            simp only [m, if_true] at hx
            have hj : j < σ.length := by rw [hn.1]; exact ho j m
            have hj1 : j < ρ1.s.length := by rw [RepE.len2 p1.rep]; omega
            split at hx
            · cases hx
              have h2 := (hown j m).2
              rw [List.getElem?_eq_getElem hj1] at h2
              obtain ⟨ov, A, F1, B, g1, g2, g3, _⟩ := p1.rep.1.at (List.getElem?_eq_getElem hj1)
              rw [List.getElem?_append_left hj] at g1
              refine ⟨ov, by rw [List.getElem?_append_left hj]; exact g1, ?_⟩
              have hgd : ρ1.s.getD j .no = ρ1.s[j] := by simp [List.getD, List.getElem?_eq_getElem hj1]
              rw [hgd]
              have kp : Keeps Z1 Z3 H1 H3 [] := I.evo.keeps (by rw [List.append_nil]; exact wf1)
              cases hx : ρ1.s[j] with
              | no => rfl
              | own d =>
                rw [hx] at g3 h2
                obtain ⟨v, rfl, r⟩ := g3
                have := r.imm h2
                subst this
                exact ⟨v, rfl, r.keep kp fun _ m => m⟩
              | lent => rw [hx] at h2; cases h2
              | al => rw [hx] at h2; cases h2
            · cases hx
          · left
            simp only [m, if_false] at hx
            exact ⟨hx, app_get I.len.symm (I.out m).symm⟩
        have gone : ∃ Fe5, Fe5.Sublist Fe4 ∧ RepE T.al K η Z3 H3 (wk.gone g (backS ρ1 own ρ2)) σ γ3 Fe5 ∧ (wk.gone g (backS ρ1 own ρ2)).nl = η.length := by
          have a5 : AlI T.al H3 (setS (backS ρ1 own ρ2) g .no) σ := a4.setH (fun _ _ h => nomatch h) (by rw [hn.1]; exact hgn)
          have one : ∃ Fe5, Fe5.Sublist Fe4 ∧ RepS K η Z3 H3 (setS (backS ρ1 own ρ2) g .no).s (σ ++ γ3) Fe5 := r4.upd (by simp [setS]) rfl fun j x hx => by
            by_cases e : j = g
            · subst e
              right
              rw [show (setS (backS ρ1 own ρ2) j .no).s = (backS ρ1 own ρ2).s.set j .no from rfl] at hx
              have hjl : j < ((backS ρ1 own ρ2).s.set j .no).length := (List.getElem?_eq_some_iff.mp hx).1
              rw [List.getElem?_set_self (by simpa using hjl)] at hx
              cases hx
              have : j < (σ ++ γ3).length := by rw [← r4.len]; simpa using hjl
              exact ⟨_, List.getElem?_eq_getElem this, rfl⟩
            · left
              rw [show (setS (backS ρ1 own ρ2) g .no).s = (backS ρ1 own ρ2).s.set g .no from rfl, List.getElem?_set_ne (Ne.symm e)] at hx
              exact ⟨hx, rfl⟩
          have hnl : (backS ρ1 own ρ2).nl = η.length := backS_nl.trans I.nl
          cases wk with
          | rng => exact ⟨Fe4, List.Sublist.refl _, ⟨r4, a4⟩, hnl⟩
          | chs => exact ⟨Fe4, List.Sublist.refl _, ⟨r4, a4⟩, hnl⟩
          | zip => exact ⟨Fe4, List.Sublist.refl _, ⟨r4, a4⟩, hnl⟩
          | seq => obtain ⟨Fe5, s5, r5⟩ := one; exact ⟨Fe5, s5, ⟨r5, a5⟩, hnl⟩
          | enu => obtain ⟨Fe5, s5, r5⟩ := one; exact ⟨Fe5, s5, ⟨r5, a5⟩, hnl⟩
          | enut => obtain ⟨Fe5, s5, r5⟩ := one; exact ⟨Fe5, s5, ⟨r5, a5⟩, hnl⟩
        obtain ⟨Fe5, s5, r5, nl5⟩ := gone
        refine q (.ref D) H3 Z3 γ3 Fe5 Fd ⟨?_, I.gl.trans p1.gl, fun j hj => (I.fx j (fx_sub hj)).trans (p1.fx j hj), r5, nl5⟩ I.acc
        have := p1.evo
        rw [List.append_nil] at this
        exact (this.trans I.evo).drop ((s5.trans s4).append (List.Sublist.refl _))
      · cases lp
    | succ m =>
      rw [hm] at lp
      simp only [lcLoop] at lp
      split at lp
      · rename_i th
        split at lp
        · rename_i d hd
          obtain ⟨u1, ρa, ea, lp⟩ := Res.bind_ok lp
          obtain ⟨b, ρb, eb, lp⟩ := Res.bind_ok lp
          obtain ⟨hgo, hyl⟩ := (st3.turn I.rep.1 th).2 d (by omega) hd
          refine .inr ⟨hgo, _, fun H' h' => ⟨wk.len - (i + 1), by omega, h'⟩, fun x H4 hy => ?_⟩
          obtain ⟨sm, rd⟩ := hyl x H4 hy
          have rep4 := I.rep.keep (Same.keeps sm (G := Fe3)) (fun _ m => m)
          have acc4 := I.acc.keep (Same.keeps sm (G := Fd)) (fun _ m => m)
          have evo4 : Evo H1 Z1 Fe1 H4 Z3 (Fe3 ++ Fd) := by
            have := I.evo.trans (Evo.fresh I.evo.wf sm (Fn := []) (by simp) (by simp) (by simp))
            rwa [List.append_nil] at this
          have a4 : AlI T.al H4 (wipeS own ρ3) (wipe σ own) := rep4.2.chg (fun j x hx => by
            rw [wipeS_get] at hx
            by_cases m : j ∈ own
            · right
              simp only [m, if_true] at hx
              split at hx
              · cases hx; exact fun _ _ h => nomatch h
              · cases hx
            · left
              simp only [m, if_false] at hx
              exact ⟨hx, by rw [wipe_out m, I.out m]⟩) (fun j hj => ⟨by rw [wipeS_get, if_neg (tgt_own tno hj)], by rw [wipe_out (tgt_own tno hj), I.out (tgt_own tno hj)]⟩)
          obtain ⟨Fe4, s4, r4⟩ := rep4.1.upd (ρ' := (wipeS own ρ3).s) (S' := wipe σ own ++ γ3) wipeS_len (by simp [wipe_length, I.len]) fun j x hx => by
            rw [wipeS_get] at hx
            by_cases m : j ∈ own
            · right
              simp only [m, if_true] at hx
              split at hx
              · cases hx
                have hj : j < σ.length := by rw [hn.1]; exact ho j m
                exact ⟨none, by rw [List.getElem?_append_left (by rw [wipe_length]; exact hj), wipe_in m hj], rfl⟩
              · cases hx
            · left
              simp only [m, if_false] at hx
              exact ⟨hx, app_get (by rw [wipe_length, I.len]) (by rw [wipe_out m, I.out m])⟩
          refine ⟨wk.fx fx, wipeS own ρ3, η, γ3, Z3, Fe4, d, by rw [wipe_length]; exact hn.1, ⟨r4, a4⟩, rd, ρa, ea, fun σ5 Fe5 hl5 hj5 hf5 r5 s5 nl5 => ?_⟩
          have wip5 : wipe σ5 own = wipe σ own := by
            rw [← wipe_idem (σ := σ)]
            exact wipe_eq hl5 fun j hj => hj5 j fun m => hj (ht j m)
          have hl5' : σ5.length = n := by rw [hl5, wipe_length]; exact hn.1
          have evo5 : Evo H1 Z1 Fe1 H4 Z3 (Fe5 ++ Fd) := evo4.drop ((s5.trans s4).append (List.Sublist.refl _))
          have nla : ρa.nl = η.length := nl5.trans (wipeS_nl.trans I.nl)
          refine ⟨wip5, wk.fx fx, ρa, η, γ3, Z3, Fe5, ⟨hl5', nla⟩, r5, evo5.wf.left, b, ρb, eb, fun H6 Z6 γ6 Fe6 p6 => ?_⟩
          have e6 : Evo H4 Z3 Fe5 H6 Z6 Fe6 := by have := p6.evo; rwa [List.append_nil] at this
          have evo6 : Evo H1 Z1 Fe1 H6 Z6 (Fe6 ++ Fd) := evo5.trans (e6.frame evo5.wf)
          have acc6 := acc4.keep (e6.keeps evo5.wf) (fun _ m => m)
          have fx6 : ∀ j ∈ wk.fx fx, (σ ++ γ6)[j]? = (σ ++ γ1)[j]? := fun j hj => (app_same (hl5'.trans hn.1.symm) (p6.fx j hj)).trans (I.fx j hj)
          have hm' : wk.len - (i + 1) = m := by omega
          cases b with
          | false =>
            simp only [Bool.false_eq_true, if_false] at lp ⊢
            exact ⟨acc, ρb, σ5, γ6, Z6, Fe6, Fd, ⟨wip5, p6.gl.trans I.gl, fx6, p6.rep, acc6, evo6, p6.nl⟩, by omega, trivial, by rw [hm']; exact lp⟩
          | true =>
            simp only [if_true] at lp ⊢
            obtain ⟨oy, ρc, ec, lp⟩ := Res.bind_ok lp
            split at lp
            · rename_i y
              split at lp
              · rename_i hz
                refine ⟨wk.fx fx, ρb, η, γ6, Z6, Fe6, ⟨hl5', p6.nl⟩, p6.rep, p6.wf, _, ρc, ec, fun v H7 Z7 γ7 Fe7 Fo7 p7 od7 _ => ?_⟩
                have e7 := p7.evo
                have evo7 : Evo H1 Z1 Fe1 H7 Z7 (Fe7 ++ Fo7 ++ Fd) := evo6.trans (e7.frame evo6.wf)
                have acc7 := acc6.keep (e7.keeps evo6.wf) (fun _ m => m)
                obtain ⟨a, vs, F', ea', rv, h7, rfl⟩ := acc7
                cases ea'
                have wf7 := evo7.wf
                have hDm : D ∈ Fe7 ++ Fo7 ++ D :: F' := by simp
                obtain ⟨hpm, hpm2⟩ := wf7.pm D hDm
                have hzD : ¬ Z7 D := wf7.dz D hDm
                have nd := wf7.nd
                have nD : D ∉ Fe7 ++ Fo7 ++ F' := by
                  have : (D :: (Fe7 ++ Fo7 ++ F')).Nodup := (List.Perm.nodup_iff (by
                    have : (Fe7 ++ Fo7 ++ D :: F').Perm (D :: (Fe7 ++ Fo7 ++ F')) := List.perm_middle
                    exact this)).mp nd
                  exact (List.nodup_cons.mp this).1
                refine ⟨vs, h7, by rw [← rv.length]; exact hz, acc ++ [y], ρc, σ5, γ7, Z7, Fe7, D :: (F' ++ Fo7), ⟨wip5, (p7.gl.trans p6.gl).trans I.gl, fun j hj => (app_same (hl5'.trans hn.1.symm) (p7.fx j hj)).trans (fx6 j hj), ?_, ?_, ?_, p7.nl⟩, by omega, trivial, by rw [hm']; exact lp⟩
                · exact p7.rep.keep (keepsU (G := Fe7) (fun m => nD (by simp [m])) hzD ⟨_, hpm2⟩) (fun _ m => m)
                · refine ⟨D, vs ++ [v], F' ++ Fo7, rfl, ?_, upd_same, rfl⟩
                  exact (rv.keep (keepsU (G := F') (fun m => nD (by simp [m])) hzD ⟨_, hpm2⟩) (fun _ m => m)).snoc (Rep.keep (keepsU (G := Fo7) (fun m => nD (by simp [m])) hzD ⟨_, hpm2⟩) (show Rep K η Z7 H7 y v Fo7 from od7) (fun _ m => m))
                · have pm1 : (Fe7 ++ Fo7 ++ D :: F').Perm (Fe7 ++ (D :: (F' ++ Fo7))) := by
                    rw [List.append_assoc]
                    refine List.Perm.append_left Fe7 ?_
                    exact List.perm_append_comm
                  refine evo7.trans (Evo.op wf7 (fun a o e na => ?_) (fun a m => pm1.mem_iff.mpr m) (pm1.nodup_iff.mp nd) (fun a m => ?_))
                  · rw [upd_ne (fun e => na (by rw [e]; exact hDm))]; exact e
                  · by_cases e : a = D
                    · subst e; exact ⟨_, upd_same, trivial⟩
                    · obtain ⟨o, h1, h2⟩ := wf7.pm a (pm1.mem_iff.mpr m)
                      exact ⟨o, by rw [upd_ne e]; exact h1, h2⟩
              · cases lp
            · cases lp
        · cases lp
      · cases lp
  · cases e2
/-- in a block -/
theorem pex {Y : Cx} {e : Expr} {ee : Ex} (h : ∀ fx, PE Y e (RE T cl cm K n fx ee)) : PE Y e (fun σ H Q => ∃ fx, RE T cl cm K n fx ee σ H Q) := ⟨fun pins s σ H Q I ⟨fx, q⟩ => (h fx).run pins s σ H Q I q⟩
theorem pgx {Y : Cx} {e : Expr} {t : Tg} (h : ∀ fx, PG Y e (RG T.al K n fx t)) : PG Y e (fun v σ H Q => ∃ fx, RG T.al K n fx t v σ H Q) := ⟨fun pins s σ H v u Q I r ⟨fx, q⟩ => (h fx).run pins s σ H v u Q I r q⟩
theorem ptx {Y : Cx} {e : List Expr} {c : List Ex} (h : ∀ fx, PTs Y e (RC T cl cm K n fx c)) : PTs Y e (fun σ H Q => ∃ fx, RC T cl cm K n fx c σ H Q) := ⟨fun pins s σ H Q I ⟨fx, q⟩ => (h fx).run pins s σ H Q I q⟩
theorem re_lc {elt tg iter : Expr} {ifs : List Expr} {scope : Scope} {own : List (Str × Nat)} {pos : Pos} {t : Tg} {e : Ex} {it : Pv.It} {g : Nat} {c : List Ex} (hc : X.calm = true) (hN : X.N.Nodup) (hl : X.N.length = n) (hgn : n ≤ g) (hi : PI X tg iter (RI T cl cm X.K n fx it g)) (ok : BlkOk X.N X.env.scope scope own)
    (ht : ∀ i ∈ tgIx t, i ∈ own.map (·.2))
    (hg : ∀ (s : Shared) (H : Hp) (C : Addr) (cls : List (Str × Addr)) (fp : List Addr) fx, PG (X.blk s H scope (compEnvC scope cls C X.env) fp) tg (RG T.al X.K n fx t))
    (htt : ∀ (s : Shared) (H : Hp) (C : Addr) (cls : List (Str × Addr)) (fp : List Addr) fx, PTs (X.blk s H scope (compEnvC scope cls C X.env) fp) ifs (RC T cl cm X.K n fx c))
    (he : ∀ (s : Shared) (H : Hp) (C : Addr) (cls : List (Str × Addr)) (fp : List Addr) fx, PE (X.blk s H scope (compEnvC scope cls C X.env) fp) elt (RE T cl cm X.K n fx e)) (hs : ∀ x, foldedSetIterable iter X.env x = pure x) :
    PE X (.ListComp elt [⟨tg, iter, ifs, 0⟩] scope pos) (RE T cl cm X.K n fx (.lc t (own.map (·.2)) e it g c)) := by
  refine (pe_lc hc hN hi ok (fun s H C cls fp => pgx (hg s H C cls fp)) (fun s H C cls fp => ptx (htt s H C cls fp)) (fun s H C cls fp => pex (he s H C cls fp)) hs).imp fun σ H Q h => ?_
  obtain ⟨ρ, η, γ, Z, F, hn, rs, w, o, ρ', ev, q⟩ := h
  refine RE.lc hn rs w hgn (fun i hi => ?_) ht ev fun v H' Z' γ' Fe Fo p r => q v H' Z' γ' Fe Fo p r fun z => by simp [Ex.pur] at z
  obtain ⟨p, hp, rfl⟩ := List.mem_map.mp hi
  rw [← hl]
  exact (List.getElem?_eq_some_iff.mp (ok.ix p hp)).1
end
end Pv

/-! Pv, part P: statements. -/
namespace Pv
open PySem PySem.Spec PyProof.Rows L2
variable {AL : AlT}
section
variable (AL) (K : PySem.W.Frag) (η : List V)
/-- behind a statement -/
structure PstS (fx : List Nat) (σ γ : L2.St) (H : Hp) (Z : Addr → Prop) (F : List Addr) (σ' γ' : L2.St) (H' : Hp) (Z' : Addr → Prop) (ρ' : Env) (F' Fo : List Addr) : Prop where
  evo : Evo H Z F H' Z' (F' ++ Fo)
  sl : σ'.length = σ.length
  gl : γ'.length = γ.length
  fx : ∀ i ∈ fx, (σ' ++ γ')[i]? = (σ ++ γ)[i]?
  rep : RepE AL K η Z' H' ρ' σ' γ' F'
  nl : ρ'.nl = η.length
def SOk (fx : List Nat) (σ γ : L2.St) (H : Hp) (Z : Addr → Prop) (F : List Addr) (D : Ends) : SRes → Prop
  | .nx ρ' => ∀ σ' γ' H' Z' F', PstS AL K η fx σ γ H Z F σ' γ' H' Z' ρ' F' [] → D.nx σ' H'
  | .rt d ρ' => ∀ v σ' γ' H' Z' F' Fo, PstS AL K η fx σ γ H Z F σ' γ' H' Z' ρ' F' Fo → Rep K η Z' H' d v Fo → D.rt v H'
  | .bk ρ' => ∀ σ' γ' H' Z' F', PstS AL K η fx σ γ H Z F σ' γ' H' Z' ρ' F' [] → D.bk σ' H'
  | .ct ρ' => ∀ σ' γ' H' Z' F', PstS AL K η fx σ γ H Z F σ' γ' H' Z' ρ' F' [] → D.ct σ' H'
  | .ex _ _ => False
  | .no => False
end
section
variable {K : PySem.W.Frag} {η : List V} {fx fx' : List Nat} {σ σ1 σ2 γ γ1 γ2 : L2.St} {H H1 H2 : Hp} {Z Z1 Z2 : Addr → Prop} {F F1 F2 Fo Fe1 Fo1 : List Addr} {ρ ρ1 ρ2 : Env} {En : Ends}
theorem PstS.refl (nl : ρ.nl = η.length) (r : RepE AL K η Z H ρ σ γ F) (w : WF H Z F) : PstS AL K η fx σ γ H Z F σ γ H Z ρ F [] := ⟨by rw [List.append_nil]; exact Evo.refl w, rfl, rfl, fun _ _ => rfl, r, nl⟩
theorem Pst.s (p : Pst AL K η σ fx H Z F γ H1 Z1 γ1 ρ1 Fe1 Fo1) : PstS AL K η fx σ γ H Z F σ γ1 H1 Z1 ρ1 Fe1 Fo1 := ⟨p.evo, rfl, p.gl, p.fx, p.rep, p.nl⟩
theorem PstS.trans (p : PstS AL K η fx σ γ H Z F σ1 γ1 H1 Z1 ρ1 F1 []) (q : PstS AL K η fx σ1 γ1 H1 Z1 F1 σ2 γ2 H2 Z2 ρ2 F2 Fo) : PstS AL K η fx σ γ H Z F σ2 γ2 H2 Z2 ρ2 F2 Fo :=
  ⟨by have := p.evo; rw [List.append_nil] at this; exact this.trans q.evo, q.sl.trans p.sl, q.gl.trans p.gl, fun i m => (q.fx i m).trans (p.fx i m), q.rep, q.nl⟩
theorem PstS.mono (p : PstS AL K η fx σ γ H Z F σ1 γ1 H1 Z1 ρ1 F1 Fo) (h : ∀ i ∈ fx', i ∈ fx) : PstS AL K η fx' σ γ H Z F σ1 γ1 H1 Z1 ρ1 F1 Fo := ⟨p.evo, p.sl, p.gl, fun i m => p.fx i (h i m), p.rep, p.nl⟩
theorem PstS.wf (p : PstS AL K η fx σ γ H Z F σ1 γ1 H1 Z1 ρ1 F1 Fo) : WF H1 Z1 F1 := p.evo.wf.left
theorem SOk.after {r : SRes} (p : PstS AL K η fx σ γ H Z F σ1 γ1 H1 Z1 ρ1 F1 []) (h : SOk AL K η fx σ γ H Z F En r) : SOk AL K η fx σ1 γ1 H1 Z1 F1 En r := by
  cases r with
  | nx ρ' => exact fun σ' γ' H' Z' F' q => h σ' γ' H' Z' F' (p.trans q)
  | rt d ρ' => exact fun v σ' γ' H' Z' F' Fo q r => h v σ' γ' H' Z' F' Fo (p.trans q) r
  | bk ρ' => exact fun σ' γ' H' Z' F' q => h σ' γ' H' Z' F' (p.trans q)
  | ct ρ' => exact fun σ' γ' H' Z' F' q => h σ' γ' H' Z' F' (p.trans q)
  | ex _ _ => exact h
  | no => exact h
/-- a name gets a thing -/
theorem Pst.store {i : Nat} {d : D} {v : V} {ρ2 : Env} (p : Pst AL K η σ fx H Z F γ H1 Z1 γ1 ρ1 Fe1 Fo1) (r : Rep K η Z1 H1 d v Fo1) (hi : i < σ.length) (e : asgN AL fx i d ρ1 = .ok () ρ2) :
    ∃ F2, PstS AL K η fx σ γ H Z F (σ.set i (some v)) γ1 H1 Z1 ρ2 F2 [] := by
  obtain ⟨⟨h1, ht⟩, h2, rfl⟩ := asgN_ok e
  have ha := p.rep.2.setS (x := .own d) (σ' := σ.set i (some v)) (fun _ _ h => nomatch h) ht (fun j hj => List.getElem?_set_ne (Ne.symm hj))
  obtain ⟨ov, A, G, B, e1, rfl, r1, k⟩ := p.rep.1.at (List.getElem?_eq_getElem h2)
  have k1 := k Z1 H1 (.own d) (some v) Fo1 ⟨fun _ _ _ e => e, fun _ _ _ e => e, fun _ _ e _ => e, fun _ z => z⟩ ⟨v, rfl, r⟩
  rw [List.set_append_left _ _ hi] at k1
  refine ⟨A ++ Fo1 ++ B, ⟨?_, by simp, p.gl, fun j hj => ?_, ⟨k1, ha⟩, p.nl⟩⟩
  · rw [List.append_nil]
    have : (A ++ G ++ B ++ Fo1).Perm ((A ++ Fo1 ++ B) ++ G) := by
      have h1 : (G ++ B ++ Fo1).Perm (Fo1 ++ B ++ G) := by
        have : (G ++ (B ++ Fo1)).Perm ((B ++ Fo1) ++ G) := List.perm_append_comm
        have h2 : ((B ++ Fo1) ++ G).Perm ((Fo1 ++ B) ++ G) := List.perm_append_comm.append_right _
        simpa only [List.append_assoc] using this.trans h2
      simpa only [List.append_assoc] using h1.append_left A
    exact (p.evo.perm this).drop (List.sublist_append_left _ _)
  · rw [← p.fx j hj]
    have : j ≠ i := fun e => h1 (by rw [← e]; exact hj)
    rw [← List.set_append_left _ _ hi, List.getElem?_set_ne (Ne.symm this)]
theorem Res.st_bind {α β : Type} {r : Res α} {f : α → Env → Res β} {g : β → Env → SRes} : (r.bind f).st g = r.st fun a ρ => (f a ρ).st g := by cases r <;> rfl
end

section
variable {X : Cx} {T : Tab} {cl cm : CallT} {n W : Nat} {fx : List Nat}
/-- a statement's reading -/
def RS (T : Tab) (cl cm : CallT) (K : PySem.W.Frag) (n W : Nat) (fx : List Nat) (s : Sx) : TS := fun D σ H => ∃ ρ η γ Z F, (σ.length = n ∧ ρ.nl = η.length) ∧ RepE T.al K η Z H ρ σ γ F ∧ WF H Z F ∧ SOk T.al K η fx σ γ H Z F D (exec T cl cm W s fx ρ)
def RSs (T : Tab) (cl cm : CallT) (K : PySem.W.Frag) (n W : Nat) (fx : List Nat) (s : List Sx) : TS := fun D σ H => ∃ ρ η γ Z F, (σ.length = n ∧ ρ.nl = η.length) ∧ RepE T.al K η Z H ρ σ γ F ∧ WF H Z F ∧ SOk T.al K η fx σ γ H Z F D (execs T cl cm W s fx ρ)
theorem rss_nil : PSs X [] (RSs T cl cm X.K n W fx []) := pss_nil.imp fun D σ H h => by
  obtain ⟨ρ, η, γ, Z, F, hn, rs, w, ok⟩ := h
  simp only [execs] at ok
  exact ok σ γ H Z F (PstS.refl hn.2 rs w)
theorem rss_cons {st : Stmt} {rest : List Stmt} {s : Sx} {r : List Sx} (h1 : PS X st (RS T cl cm X.K n W fx s)) (h2 : PSs X rest (RSs T cl cm X.K n W fx r)) : PSs X (st :: rest) (RSs T cl cm X.K n W fx (s :: r)) := (pss_cons h1 h2).imp fun D σ H h => by
  obtain ⟨ρ, η, γ, Z, F, hn, rs, w, ok⟩ := h
  refine ⟨ρ, η, γ, Z, F, hn, rs, w, ?_⟩
  simp only [execs] at ok
  cases e : exec T cl cm W s fx ρ with
  | nx ρ1 =>
    rw [e] at ok
    exact fun σ' γ' H' Z' F' p => ⟨ρ1, η, γ', Z', F', ⟨p.sl.trans hn.1, p.nl⟩, p.rep, p.wf, ok.after p⟩
  | rt d ρ1 => rw [e] at ok; exact ok
  | bk ρ1 => rw [e] at ok; exact ok
  | ct ρ1 => rw [e] at ok; exact ok
  | ex _ _ => rw [e] at ok; exact ok
  | no => rw [e] at ok; exact ok
theorem rs_pass {pos : Pos} : PS X (.Pass pos) (RS T cl cm X.K n W fx .pass) := ps_pass.imp fun D σ H h => by
  obtain ⟨ρ, η, γ, Z, F, hn, rs, w, ok⟩ := h
  simp only [exec] at ok
  exact ok σ γ H Z F (PstS.refl hn.2 rs w)
theorem rs_doc {x j pos pos'} : PS X (.Expr (.Constant (.str x) j pos) pos') (RS T cl cm X.K n W fx .pass) := ps_doc.imp fun D σ H h => by
  obtain ⟨ρ, η, γ, Z, F, hn, rs, w, ok⟩ := h
  simp only [exec] at ok
  exact ok σ γ H Z F (PstS.refl hn.2 rs w)
theorem rs_brk {pos : Pos} : PS X (.Break pos) (RS T cl cm X.K n W fx .brk) := ps_break.imp fun D σ H h => by
  obtain ⟨ρ, η, γ, Z, F, hn, rs, w, ok⟩ := h
  simp only [exec] at ok
  exact ok σ γ H Z F (PstS.refl hn.2 rs w)
theorem rs_cnt {pos : Pos} : PS X (.Continue pos) (RS T cl cm X.K n W fx .cnt) := ps_continue.imp fun D σ H h => by
  obtain ⟨ρ, η, γ, Z, F, hn, rs, w, ok⟩ := h
  simp only [exec] at ok
  exact ok σ γ H Z F (PstS.refl hn.2 rs w)
variable {K : PySem.W.Frag} {η : List V} {σ γ : L2.St} {H : Hp} {Z : Addr → Prop} {F : List Addr} {ρ : Env} {En : Ends}
theorem st_ok {α : Type} {r : Res α} {f : α → Env → SRes} (h : SOk AL K η fx σ γ H Z F En (r.st f)) : ∃ a ρ1, r = .ok a ρ1 ∧ SOk AL K η fx σ γ H Z F En (f a ρ1) := by
  cases r with
  | ok a ρ1 => exact ⟨a, ρ1, rfl, h⟩
  | ex x ρ1 => exact h.elim
  | no => exact h.elim
theorem rs_expr {e : Expr} {ee : Ex} {pos : Pos} (he : PE X e (RE T cl cm X.K n fx ee)) (hs : swapsWith e none pos.line X.env = pure false) : PS X (.Expr e pos) (RS T cl cm X.K n W fx (.expr ee)) := (ps_expr he hs).imp fun D σ H h => by
  obtain ⟨ρ, η, γ, Z, F, hn, rs, w, ok⟩ := h
  simp only [exec] at ok
  obtain ⟨o, ρ1, e1, ok⟩ := st_ok ok
  exact ⟨ρ, η, γ, Z, F, hn, rs, w, o, ρ1, e1, fun v H' Z' γ' Fe Fo p _ _ => ok σ γ' H' Z' Fe (p.sub (List.nil_sublist _)).s⟩
theorem rs_ret {e : Expr} {ee : Ex} {pos : Pos} (he : PE X e (RE T cl cm X.K n fx ee)) : PS X (.Return (some e) pos) (RS T cl cm X.K n W fx (.ret ee)) := (ps_ret he).imp fun D σ H h => by
  obtain ⟨ρ, η, γ, Z, F, hn, rs, w, ok⟩ := h
  simp only [exec] at ok
  obtain ⟨o, ρ1, e1, ok⟩ := st_ok ok
  refine ⟨ρ, η, γ, Z, F, hn, rs, w, o, ρ1, e1, fun v H' Z' γ' Fe Fo p od _ => ?_⟩
  cases o with
  | v d => exact ok v σ γ' H' Z' Fe Fo p.s od
  | p r q => exact ok.elim
theorem rs_retN {pos : Pos} : PS X (.Return none pos) (RS T cl cm X.K n W fx (.ret .non)) := ps_retN.imp fun D σ H h => by
  obtain ⟨ρ, η, γ, Z, F, hn, rs, w, ok⟩ := h
  simp only [exec, evalO] at ok
  exact ok .non σ γ H Z F [] (PstS.refl hn.2 rs w) ⟨rfl, rfl⟩
theorem rs_ite {c : Expr} {ec : Ex} {a b : List Stmt} {sa sb : List Sx} {pos : Pos} (hc : PT X c (RT T cl cm X.K n fx ec)) (ha : PSs X a (RSs T cl cm X.K n W fx sa)) (hb : PSs X b (RSs T cl cm X.K n W fx sb)) : PS X (.If c a b pos) (RS T cl cm X.K n W fx (.ite ec sa sb)) := (ps_if hc ha hb).imp fun D σ H h => by
  obtain ⟨ρ, η, γ, Z, F, hn, rs, w, ok⟩ := h
  simp only [exec] at ok
  rw [← Res.st_bind] at ok
  obtain ⟨t, ρ1, e1, ok⟩ := st_ok ok
  refine ⟨ρ, η, γ, Z, F, hn, rs, w, t, ρ1, e1, fun H' Z' γ' Fe Fo p _ => ?_⟩
  have p0 := (p.sub (List.nil_sublist _)).s
  cases t with
  | true => exact ⟨ρ1, η, γ', Z', Fe, ⟨hn.1, p.nl⟩, p.rep, p.wf, by simpa using ok.after p0⟩
  | false => exact ⟨ρ1, η, γ', Z', Fe, ⟨hn.1, p.nl⟩, p.rep, p.wf, by simpa using ok.after p0⟩
theorem keeps_refl {G : List Addr} : Keeps Z Z H H G := ⟨fun _ _ _ e => e, fun _ _ _ e => e, fun _ _ e _ => e, fun _ z => z⟩
/-- a name becomes another name of a place -/
theorem Pst.alias {i r : Nat} {q : List Stp} {d : D} {x : Slot} {v : V} (p : Pst AL K η σ fx H Z F γ H1 Z1 γ1 ρ1 Fe1 Fo1) (od : OdR K η Z1 H1 σ (.p r q) v Fo1) (hi : i < σ.length) (hlk : lk AL fx i = false) (hm : (i, r, q) ∈ AL) (hx : ρ1.s[i]? = some x) (hf : x.free = true) (hg : getP ρ1 r q = some d) :
    PstS AL K η fx σ γ H Z F (σ.set i (some v)) γ1 H1 Z1 (setS ρ1 i (.al r q)) Fe1 [] := by
  obtain ⟨rfl, v0, o1, o2⟩ := od
  obtain ⟨h1, ht⟩ := lk_of hlk
  have hri : r ≠ i := fun e => by
    have := tgt_of hm
    rw [e, ht] at this; cases this
  obtain ⟨ov, A, G, B, e1, e2, r1, k⟩ := p.rep.1.at hx
  have hG : G = [] := by
    cases x with
    | no => exact r1
    | al => exact r1
    | own d => obtain ⟨v, _, r⟩ := r1; exact r.imm hf
    | lent => cases hf
  subst hG
  have k1 := k Z1 H1 (.al r q) (some v) [] keeps_refl rfl
  rw [List.set_append_left _ _ hi, ← e2] at k1
  refine ⟨p.evo, by simp, p.gl, fun j hj => ?_, ⟨k1, fun j r' q' ej => ?_⟩, p.nl⟩
  · rw [← p.fx j hj]
    have : j ≠ i := fun e => by rw [e] at hj; simp [hj] at h1
    rw [← List.set_append_left _ _ hi, List.getElem?_set_ne (Ne.symm this)]
  · have ej' : (ρ1.s.set i (.al r q))[j]? = some (.al r' q') := ej
    by_cases e : i = j
    · subst e
      rw [List.getElem?_set_self (List.getElem?_eq_some_iff.mp hx).1] at ej'
      cases ej'
      exact ⟨hm, v0, v, d, List.getElem?_set_self hi, by rw [List.getElem?_set_ne (Ne.symm hri)]; exact o1, o2, by rw [getP_setS hri]; exact hg⟩
    · rw [List.getElem?_set_ne e] at ej'
      obtain ⟨ha, w0, w, y, g1, g2, g3, g4⟩ := p.rep.2 j r' q' ej'
      have hr' : r' ≠ i := fun e => by
        have := tgt_of ha
        rw [e, ht] at this; cases this
      exact ⟨ha, w0, w, y, by rw [List.getElem?_set_ne e]; exact g1, by rw [List.getElem?_set_ne (Ne.symm hr')]; exact g2, g3, by rw [getP_setS hr']; exact g4⟩
/-- name = e -/
theorem RS.set {i : Nat} {ee : Ex} {D : Ends} (hi : i < n) (h : RS T cl cm K n W fx (.asg (.nm i) ee) D σ H) : RE T cl cm K n fx ee σ H fun x H1 => gName i x σ H1 D.nx := by
  obtain ⟨ρ, η, γ, Z, F, hn, rs, w, ok⟩ := h
  simp only [exec] at ok
  obtain ⟨o, ρ1, e1, ok⟩ := st_ok ok
  refine ⟨ρ, η, γ, Z, F, hn, rs, w, o, ρ1, e1, fun v H' Z' γ' Fe Fo p od _ => ?_⟩
  obtain ⟨u, ρ2, e2, ok2⟩ := st_ok ok
  cases o with
  | v d =>
    simp only [asgT] at e2
    obtain ⟨F2, p2⟩ := p.store od (by rw [hn.1]; exact hi) e2
    exact ok2 _ _ _ _ _ p2
  | p r q =>
    simp only [asgT] at e2
    split at e2
    · cases e2
    · rename_i hlk
      split at e2
      · rename_i hm
        split at e2
        · rename_i x d hx hg
          split at e2
          · rename_i hf
            cases e2
            exact ok2 _ _ _ _ _ (p.alias od (by rw [hn.1]; exact hi) (by simpa using hlk) (by simpa using hm) hx hf hg)
          · cases e2
        · cases e2
      · cases e2
theorem rs_set {i : Nat} {x : Str} {e : Expr} {ee : Ex} {pos pos' : Pos} (hN : X.N.Nodup) (hl : X.N.length = n) (hi : X.N[i]? = some x) (hx : Loc X.env.scope x) (hf : X.fn x = true ∨ X.env.scope.names.lookup x = some .local) (he : PE X e (RE T cl cm X.K n fx ee))
    (hs : swapsWith e (some (.Name x pos')) pos.line X.env = pure false) : PS X (.Assign [.Name x pos'] e pos) (RS T cl cm X.K n W fx (.asg (.nm i) ee)) :=
  (ps_set hN hi hx he hs hf).imp fun D σ H h => h.set (by rw [← hl]; exact (List.getElem?_eq_some_iff.mp hi).1)
theorem rs_setLc {i : Nat} {y : Str} {py : Pos} {elt tg iter : Expr} {ifs : List Expr} {scope : Scope} {own : List (Str × Nat)} {pos spos : Pos} {t : Tg} {e : Ex} {it : Pv.It} {g : Nat} {c : List Ex} (hc : X.calm = true) (hN : X.N.Nodup) (hl : X.N.length = n) (hy : X.N[i]? = some y) (hyl : X.env.scope.names.lookup y = some .local)
    (hsw : swapsWith (.ListComp elt [⟨tg, iter, ifs, 0⟩] scope pos) (some (.Name y py)) spos.line X.env = pure true)
    (hgn : n ≤ g) (hi : PI X tg iter (RI T cl cm X.K n fx it g)) (ok : BlkOk X.N X.env.scope scope own) (ht : ∀ i ∈ tgIx t, i ∈ own.map (·.2))
    (hg : ∀ (s : Shared) (H : Hp) (C : Addr) (cls : List (Str × Addr)) (fp : List Addr) fx, PG (X.blk s H scope (compEnvC scope cls C X.env) fp) tg (RG T.al X.K n fx t))
    (htt : ∀ (s : Shared) (H : Hp) (C : Addr) (cls : List (Str × Addr)) (fp : List Addr) fx, PTs (X.blk s H scope (compEnvC scope cls C X.env) fp) ifs (RC T cl cm X.K n fx c))
    (he : ∀ (s : Shared) (H : Hp) (C : Addr) (cls : List (Str × Addr)) (fp : List Addr) fx, PE (X.blk s H scope (compEnvC scope cls C X.env) fp) elt (RE T cl cm X.K n fx e)) (hs : ∀ x, foldedSetIterable iter X.env x = pure x) :
    PS X (.Assign [.Name y py] (.ListComp elt [⟨tg, iter, ifs, 0⟩] scope pos) spos) (RS T cl cm X.K n W fx (.asg (.nm i) (.lc t (own.map (·.2)) e it g c))) := by
  refine (ps_setLc hc hN hy hyl hsw hi ok (fun s H C cls fp => pgx (hg s H C cls fp)) (fun s H C cls fp => ptx (htt s H C cls fp)) (fun s H C cls fp => pex (he s H C cls fp)) hs).imp fun D σ H h => ?_
  have h2 := h.set (K := X.K) (by rw [← hl]; exact (List.getElem?_eq_some_iff.mp hy).1)
  obtain ⟨ρ, η, γ, Z, F, hn, rs, w, o, ρ', ev, q⟩ := h2
  show tLc _ _ _ _ _ σ H (fun x H1 => gName i x σ H1 D.nx)
  refine RE.lc hn rs w hgn (fun i hi => ?_) ht ev fun v H' Z' γ' Fe Fo p r => q v H' Z' γ' Fe Fo p r fun z => by simp [Ex.pur] at z
  obtain ⟨p, hp, rfl⟩ := List.mem_map.mp hi
  rw [← hl]
  exact (List.getElem?_eq_some_iff.mp (ok.ix p hp)).1
/-- a, b = e -/
theorem rs_tup {l : List Tg} {is : List Nat} {es : List Expr} {k : Nat} {e : Expr} {ee : Ex} {pos pos' : Pos} (hc : X.calm = true) (hN : X.N.Nodup) (hl : X.N.length = n) (ht : tgNames l = some is) (h : NmOk X n is es)
    (hn : (assignEach es X.env).length = is.length) (hst : (assignEach es X.env).findIdx? (·.1) = none) (he : PE X e (RE T cl cm X.K n fx ee))
    (hs : swapsWithSole [.Tuple es k pos'] e pos.line X.env = pure false) (hw : swappedStores [.Tuple es k pos'] e X.env = pure none) (h1 : (assignEach [.Tuple es k pos'] X.env).map (·.2) = [assign (.Tuple es k pos') X.env]) :
    PS X (.Assign [.Tuple es k pos'] e pos) (RS T cl cm X.K n W fx (.asg (.tp l) ee)) := (ps_asg he (rg_uno (fx := fx) hc hN h hn hst) hs hw h1).imp fun D σ H h => by
  obtain ⟨ρ, η, γ, Z, F, hn, rs, w, ok⟩ := h
  simp only [exec] at ok
  obtain ⟨o, ρ1, e1, ok1⟩ := st_ok ok
  refine ⟨ρ, η, γ, Z, F, hn, rs, w, o, ρ1, e1, fun v H' Z' γ' Fe Fo p od _ => ?_⟩
  obtain ⟨u, ρ2, e2, ok2⟩ := st_ok ok1
  simp only [asgT, ht] at e2
  split at e2
  · rename_i ds is' h3 h4
    cases h4
    obtain ⟨d, h5, h6⟩ := Option.bind_eq_some_iff.mp h3
    split at e2
    · rename_i hm
      obtain ⟨F1, r1, _⟩ := od.use (ρ2 := ρ1) (b := true) (Same.keeps (Same.refl _)) p.rep od_self (fun _ => Same.refl _) h5
      obtain ⟨a, vs, e, sq, r2⟩ := unpD_rep h6 hm r1
      refine ⟨ρ1, η, γ', Z', Fe, ds, [], a, vs, hn.1, p.rep, e, sq, r2, ρ2, e2, fun σ' F' G hl' hfx rs' pm nl => ?_⟩
      refine ok2 σ' γ' H' Z' F' ⟨?_, hl', p.gl, fun j hj' => ?_, rs', nl.trans p.nl⟩
      · rw [List.append_nil] at pm ⊢
        exact ((p.evo.drop (List.sublist_append_left _ _)).perm pm.symm).drop (List.sublist_append_left _ _)
      · rw [← p.fx j hj']
        exact app_get hl' (hfx j hj')
    · split at e2
      · rename_i d2
        have hd : d2 = d := Option.some.inj h5
        subst hd
        obtain ⟨a, vs, F1, e, sq, r2, sb⟩ := unpD_repO h6 od
        refine ⟨ρ1, η, γ', Z', Fe, ds, F1, a, vs, hn.1, p.rep, e, sq, r2, ρ2, e2, fun σ' F' G hl' hfx rs' pm nl => ?_⟩
        refine ok2 σ' γ' H' Z' F' ⟨?_, hl', p.gl, fun j hj' => ?_, rs', nl.trans p.nl⟩
        · rw [List.append_nil]
          exact ((p.evo.drop ((List.Sublist.refl _).append sb)).perm pm.symm).drop (List.sublist_append_left _ _)
        · rw [← p.fx j hj']
          exact app_get hl' (hfx j hj')
      · cases e2
  · cases e2
/-- an item of a list set -/
theorem Reps.set : ∀ {l : List D} {vs : List V} {F : List Addr} {j : Nat} {d : D} {v : V} {Fo : List Addr}, Reps K η Z H l vs F → j < l.length → Rep K η Z H d v Fo →
    ∃ A F1 B, F = A ++ F1 ++ B ∧ Reps K η Z H (l.set j d) (vs.set j v) (A ++ Fo ++ B)
  | [], _, _, _, _, _, _, _, h, _ => by simp at h
  | x :: l, _, _, 0, d, v, Fo, h, _, r => by
    obtain ⟨w, vs', F1, F2, rfl, h1, h2, rfl⟩ := h
    exact ⟨[], F1, F2, rfl, v, vs', Fo, F2, rfl, r, h2, rfl⟩
  | x :: l, _, _, j + 1, d, v, Fo, h, hl, r => by
    obtain ⟨w, vs', F1, F2, rfl, h1, h2, rfl⟩ := h
    obtain ⟨A, G, B, rfl, r2⟩ := Reps.set (j := j) h2 (by simpa using hl) r
    exact ⟨F1 ++ A, G, B, by simp, w, vs'.set j v, F1, A ++ Fo ++ B, rfl, h1, r2, by simp⟩
theorem ixN_of {m : Nat} {i : Int} {j : Nat} (h : ixOf m i = some j) : ixN m i = some j ∧ j < m := by
  have h' : ixN m i = some j := h
  exact ⟨h', (ixN_seq h').2.1⟩
/-- things put by a name or a key -/
def putVs {κ : Type} [DecidableEq κ] (f : κ) (y : V) : List κ → List V → List V
  | a :: ks, d :: l => if a = f then y :: l else d :: putVs f y ks l
  | _, _ => [y]
theorem putF_zip (f : Str) (y : V) : ∀ {ns : List Str} {vs : List V}, ns.length = vs.length → putF f y (ns.zip vs) = (putKs f ns).zip (putVs f y ns vs)
  | [], [], _ => rfl
  | a :: ns, v :: vs, h => by
    simp only [List.zip_cons_cons, putF, putKs, putVs]
    split
    · simp
    · simp [putF_zip f y (by simpa using h)]
  | [], _ :: _, h => by simp at h
  | _ :: _, [], h => by simp at h
theorem putVs_len {κ : Type} [DecidableEq κ] (f : κ) (y : V) : ∀ {ns : List κ} {vs : List V}, ns.length = vs.length → (putKs f ns).length = (putVs f y ns vs).length
  | [], [], _ => rfl
  | a :: ns, v :: vs, h => by
    simp only [putKs, putVs]
    split
    · simpa using h
    · simp [putVs_len f y (by simpa using h)]
  | [], _ :: _, h => by simp at h
  | _ :: _, [], h => by simp at h
theorem Reps.putF {κ : Type} [DecidableEq κ] {K : PySem.W.Frag} {η : List V} {Z : Addr → Prop} {H : Hp} {f : κ} {d : D} {v : V} {Fo : List Addr} (r : Rep K η Z H d v Fo) : ∀ {ns : List κ} {l : List D} {vs : List V} {F : List Addr}, ns.length = vs.length → Reps K η Z H l vs F →
    ∃ A F1 B, F = A ++ F1 ++ B ∧ Reps K η Z H (putDs f d ns l) (putVs f v ns vs) (A ++ Fo ++ B)
  | [], [], vs, F, hl, h => by
    obtain ⟨rfl, rfl⟩ := h
    exact ⟨[], [], [], rfl, v, [], Fo, [], rfl, r, ⟨rfl, rfl⟩, rfl⟩
  | a :: ns, x :: l, vs, F, hl, h => by
    obtain ⟨w, vs', F1, F2, rfl, h1, h2, rfl⟩ := h
    simp only [putDs, putVs]
    split
    · exact ⟨[], F1, F2, rfl, v, vs', Fo, F2, rfl, r, h2, rfl⟩
    · obtain ⟨A, G, B, rfl, h3⟩ := Reps.putF r (ns := ns) (by simpa using hl) h2
      exact ⟨F1 ++ A, G, B, by simp, w, _, F1, A ++ Fo ++ B, rfl, h1, h3, by simp⟩
  | [], x :: l, vs, F, hl, h => by
    obtain ⟨w, vs', F1, F2, rfl, _⟩ := h
    simp at hl
  | a :: ns, [], vs, F, hl, h => by
    obtain ⟨rfl, rfl⟩ := h
    simp at hl
theorem putK_ne {a k : Key} {v y : V} {r : List (Key × V)} (h : ¬ a = k) : putK ((a, v) :: r) k y = (a, v) :: putK r k y := by
  unfold putK
  simp only [List.any_cons, h, decide_false, Bool.false_or, List.map_cons, if_false]
  split <;> rfl
theorem map_ne {k : Key} {y : V} : ∀ {r : List (Key × V)}, (∀ p ∈ r, ¬ p.1 = k) → r.map (fun kv => if kv.1 = k then (kv.1, y) else kv) = r
  | [], _ => rfl
  | p :: r, h => by
    rw [List.map_cons, if_neg (h p List.mem_cons_self), map_ne fun q m => h q (List.mem_cons_of_mem _ m)]
theorem putK_eq {k : Key} {v y : V} {r : List (Key × V)} (h : ∀ p ∈ r, ¬ p.1 = k) : putK ((k, v) :: r) k y = (k, y) :: r := by
  unfold putK
  rw [if_pos (by simp), List.map_cons, map_ne h]
  simp
theorem putK_zip {k : Key} {y : V} : ∀ {ks : List Key} {vs : List V}, ks.length = vs.length → ks.Nodup → putK (ks.zip vs) k y = (putKs k ks).zip (putVs k y ks vs)
  | [], [], _, _ => rfl
  | a :: ks, v :: vs, h, nd => by
    have nd' := List.nodup_cons.mp nd
    simp only [List.zip_cons_cons, putKs, putVs]
    by_cases e : a = k
    · subst e
      rw [if_pos rfl, if_pos rfl, putK_eq fun p m q => nd'.1 (by rw [← q]; exact (List.of_mem_zip m).1)]
      rfl
    · rw [if_neg e, if_neg e, putK_ne e, putK_zip (by simpa using h) nd'.2]
      rfl
  | [], _ :: _, h, _ => by simp at h
  | _ :: _, [], h, _ => by simp at h
theorem putKs_mem {k x : Key} : ∀ {ks : List Key}, x ∈ putKs k ks → x = k ∨ x ∈ ks
  | [], h => .inl (by simpa [putKs] using h)
  | a :: ks, h => by
    simp only [putKs] at h
    split at h
    · exact .inr h
    · rcases List.mem_cons.mp h with rfl | h
      · exact .inr List.mem_cons_self
      · exact (putKs_mem h).imp id (List.mem_cons_of_mem _)
theorem putKs_nodup {k : Key} : ∀ {ks : List Key}, ks.Nodup → (putKs k ks).Nodup
  | [], _ => by simp [putKs]
  | a :: ks, h => by
    have h' := List.nodup_cons.mp h
    simp only [putKs]
    split
    · exact h
    · rename_i e
      exact List.nodup_cons.mpr ⟨fun m => (putKs_mem m).elim e h'.1, putKs_nodup h'.2⟩
theorem look_put {κ : Type} [DecidableEq κ] {k k' : κ} {d : D} (h : k' ≠ k) : ∀ {ks : List κ} {l : List D}, ks.length = l.length → look k' (putKs k ks) (putDs k d ks l) = look k' ks l
  | [], [], _ => by simp [look, putKs, putDs, Ne.symm h]
  | [], _ :: _, e => by simp at e
  | _ :: _, [], e => by simp at e
  | a :: ks, x :: l, hl => by
    simp only [putKs, putDs]
    split
    · rename_i e; subst e; simp [look, Ne.symm h]
    · rename_i e
      simp only [look]
      split
      · rfl
      · exact look_put h (by simpa using hl)
theorem valV_put {κ : Type} [DecidableEq κ] {k k' : κ} {y : V} (h : k' ≠ k) : ∀ {ks : List κ} {vs : List V}, ks.length = vs.length → valV ((putKs k ks).zip (putVs k y ks vs)) k' = valV (ks.zip vs) k'
  | [], [], _ => by simp [putKs, putVs, valV, Ne.symm h]
  | [], _ :: _, e => by simp at e
  | _ :: _, [], e => by simp at e
  | a :: ks, v :: vs, hl => by
    simp only [putKs, putVs]
    split
    · rename_i e; subst e; simp [valV, Ne.symm h]
    · simp only [List.zip_cons_cons]
      by_cases e : a = k'
      · subst e; simp [valV]
      · rw [valV_neg e, valV_neg e, valV_put h (by simpa using hl)]
theorem lookup_put {k k' : Str} {y : V} (h : k' ≠ k) : ∀ {ks : List Str} {vs : List V}, ks.length = vs.length → ((putKs k ks).zip (putVs k y ks vs)).lookup k' = (ks.zip vs).lookup k'
  | [], [], _ => by
    have hb : (k' == k) = false := beq_eq_false_iff_ne.mpr h
    simp [putKs, putVs, List.lookup, hb]
  | [], _ :: _, e => by simp at e
  | _ :: _, [], e => by simp at e
  | a :: ks, v :: vs, hl => by
    simp only [putKs, putVs]
    split
    · rename_i e; subst e
      have hb : (k' == a) = false := beq_eq_false_iff_ne.mpr h
      simp [List.lookup, hb]
    · simp only [List.zip_cons_cons, List.lookup]
      split
      · rfl
      · exact lookup_put h (by simpa using hl)
theorem pfx {q t : List Stp} : q.isPrefixOf (q ++ t) = true := List.isPrefixOf_iff_prefix.mpr (List.prefix_append q _)
/-- a thing is put into an owned dict -/
theorem Pst.putKey {k : Key} {ks : List Key} {l : List D} {vx y : V} {d : D} {r : Nat} {q : List Stp} {A Fx B Fo : List Addr} (p : Pst AL K η σ fx H Z F γ H1 Z1 γ1 ρ1 Fe1 Fo) (hA : Fe1 = A ++ Fx ++ B)
    {kc : Nat → List Stp → Bool} (hkc : ∀ s t, kc r (q ++ s :: t) = false → s ≠ .key k) (kx : ∀ kc Z' H' d' F1', Keeps Z1 Z' H1 H' (A ++ B) → Rep K η Z' H' d' vx F1' → PathsOk kc r q (.dk false ks l) d' vx H1 H' → RepE AL K η Z' H' (killE AL kc (putP ρ1 r q d')) σ γ1 (A ++ F1' ++ B)) (rx : Rep K η Z1 H1 (.dk false ks l) vx Fx) (rd : Rep K η Z1 H1 d y Fo) :
    ∃ a vs, vx = .ref a ∧ H1 a = some (.dK (ks.zip vs)) ∧ ks.length = vs.length ∧ ∃ F', Pst AL K η σ fx H Z F γ (upd H1 a (.dK (putK (ks.zip vs) k y))) Z1 γ1 (killE AL kc (putP ρ1 r q (.dk false (putKs k ks) (putDs k d ks l)))) F' [] := by
  obtain ⟨a, vs, F', rfl, rv, hln, hnd, hh, rfl⟩ := rx
  refine ⟨a, vs, rfl, hh, hln, ?_⟩
  have rx0 : Rep K η Z1 H1 (.dk false ks l) (.ref a) (a :: F') := ⟨a, vs, F', rfl, rv, hln, hnd, hh, rfl⟩
  have wf := p.wf2
  have hap : (a :: (F' ++ Fo)).Nodup := by
    have := wf.nd
    rw [hA] at this
    have h3 : ((a :: F') ++ Fo).Sublist (A ++ (a :: F') ++ B ++ Fo) := List.Sublist.append sub3 (List.Sublist.refl _)
    simpa using this.sublist h3
  have hnm : a ∉ F' ++ Fo := (List.nodup_cons.mp hap).1
  have hz : ¬ Z1 a := wf.dz a (by rw [hA]; simp)
  have pk : PathsOk kc r q (.dk false ks l) (.dk false (putKs k ks) (putDs k d ks l)) (.ref a) H1 (upd H1 a (.dK (putK (ks.zip vs) k y))) :=
    PathsOk.of rx0 (keepsU (fun m => hnm (by simp [m])) hz ⟨_, hh, trivial⟩) fun s t x u hk hx hu => by
      have hne := hkc s t hk
      cases s with
      | key k' =>
        have hne' : k' ≠ k := fun e => hne (by rw [e])
        obtain ⟨b, eb, kvs, e1, e2⟩ := hu
        cases eb
        rw [hh] at e1; cases e1
        exact ⟨⟨a, rfl, _, upd_same, by rw [putK_zip hln hnd, valV_put hne' hln]; exact e2⟩, by rw [show Pv.get1 (.dk false (putKs k ks) (putDs k d ks l)) (.key k') = look k' (putKs k ks) (putDs k d ks l) from rfl, look_put hne' (hln.trans rv.length.symm)]; exact hx⟩
      | fld f => simp [Pv.get1] at hx
      | ix f => simp [Pv.get1] at hx
  have rv2 := rv.keep (keepsU (o := .dK (putK (ks.zip vs) k y)) (G := F') (fun m => hnm (by simp [m])) hz ⟨_, hh, trivial⟩) (fun _ m => m)
  have rd2 := rd.keep (keepsU (o := .dK (putK (ks.zip vs) k y)) (G := Fo) (fun m => hnm (by simp [m])) hz ⟨_, hh, trivial⟩) (fun _ m => m)
  obtain ⟨A', G, B', rfl, rset⟩ := Reps.putF (f := k) rd2 hln rv2
  have nd2 := (List.nodup_cons.mp hap).2
  refine ⟨_, Pst.mut (v0 := y) (c := .non) (w := .non) (Fc := []) (F' := a :: (A' ++ Fo ++ B')) (d' := .dk false (putKs k ks) (putDs k d ks l)) (H' := upd H1 a (.dK (putK (ks.zip vs) k y))) p hA kx pk
    (fun b o e nb => by rw [upd_ne (fun z => nb (by rw [z]; exact List.mem_cons_self))]; exact e) ⟨a, putVs k y ks vs, A' ++ Fo ++ B', rfl, rset, putVs_len k y hln, putKs_nodup hnd, by rw [upd_same, putK_zip hln hnd], rfl⟩ ⟨rfl, rfl⟩ ?_ ?_⟩
  · rw [List.append_nil]
    refine List.nodup_cons.mpr ⟨fun m => hnm ?_, ?_⟩
    · simp only [List.mem_append] at m ⊢
      rcases m with (m | m) | m <;> simp [m]
    · have h3 : (A' ++ Fo ++ B').Perm (A' ++ B' ++ Fo) := by
        simpa only [List.append_assoc] using (List.perm_append_comm (l₁ := Fo) (l₂ := B')).append_left A'
      refine (h3.nodup_iff).mpr (nd2.sublist ?_)
      exact List.Sublist.append (List.Sublist.append (List.sublist_append_left _ _) (List.Sublist.refl _)) (List.Sublist.refl _)
  · intro b m
    simp only [List.append_nil, List.mem_cons, List.mem_append] at m ⊢
    rcases m with m | (m | m) | m <;> simp [m]
theorem belowK_key {r : Nat} {q t : List Stp} {k : D} {key : Key} (h : k.key = some key) (hk : belowK r q k r (q ++ Stp.key key :: t) = false) : False := by
  simp only [belowK, beq_self_eq_true, Bool.true_and, pfx, List.drop_left] at hk
  cases k <;> simp [D.key] at h <;> subst h <;> simp [D.key] at hk
theorem belowF_fld {r : Nat} {q t : List Stp} {f : Str} (hk : belowF r q f r (q ++ Stp.fld f :: t) = false) : False := by
  simp [belowF, pfx, List.drop_left] at hk
theorem belowK_ix {r j' : Nat} {q t : List Stp} {i : Int} (hk : belowK r q (.int i) r (q ++ Stp.ix j' :: t) = false) : 0 ≤ i ∧ i.toNat ≠ j' := by
  simp only [belowK, beq_self_eq_true, Bool.true_and, pfx, List.drop_left, Bool.or_eq_false_iff, decide_eq_false_iff_not, beq_eq_false_iff_ne] at hk
  exact ⟨by omega, hk.2⟩
/-- o[i] = v, a list or a dict -/
def rSetLD : TSet := fun o i v H Q => rSetL o i v H Q ∨ rSetD o i v H Q
theorem set_ld (hu : X.A.units + 1 < cLine) : PSet X rSetLD := by
  intro pins s σ H o i v ov iv u Q I ro ri rv h
  rcases h with h | h
  · exact set_list pins s σ H o i v ov iv u Q I ro ri rv h
  · exact set_dict hu pins s σ H o i v ov iv u Q I ro ri rv h
theorem D.key_nil {d : Pv.D} {k : Key} {v : V} {F : List Addr} (h : Rep K η Z H d v F) (e : d.key = some k) : F = [] := by
  cases d <;> simp [D.key] at e <;> exact h.2
/-- o[i] = e, a list -/
theorem rs_ix (hu : X.A.units + 1 < cLine) {o i e : Expr} {eo ei ee : Ex} {pos pos' : Pos} (ho : PE X o (RE T cl cm X.K n fx eo)) (hi : PE X i (RE T cl cm X.K n fx ei)) (he : PE X e (RE T cl cm X.K n fx ee))
    (ha : ∀ v, assign (.Subscript o i pos') X.env v = (do
      let ov ← holding [v] (eval o X.env)
      let iv ← holding [v, ov] (eval i X.env)
      standAt pos'
      holding [v, ov, iv] (setItem ov iv v)
      release [v, ov, iv] []))
    (hs : swapsWithSole [.Subscript o i pos'] e pos.line X.env = pure false) (hw : swappedStores [.Subscript o i pos'] e X.env = pure none) (h1 : (assignEach [.Subscript o i pos'] X.env).map (·.2) = [assign (.Subscript o i pos') X.env]) :
    PS X (.Assign [.Subscript o i pos'] e pos) (RS T cl cm X.K n W fx (.asg (.ix eo ei) ee)) := (ps_asg he (pg_sub ho hi (set_ld hu) ha) hs hw h1).imp fun En σ H h => by
  obtain ⟨ρ, η, γ, Z, F, hn, rs, w, ok⟩ := h
  simp only [exec] at ok
  obtain ⟨o0, ρ0, e0, ok⟩ := st_ok ok
  refine ⟨ρ, η, γ, Z, F, hn, rs, w, o0, ρ0, e0, fun v H0 Z0 γ0 Fe0 Fo0 p0 od0 _ => ?_⟩
  obtain ⟨u, ρ', e1, ok⟩ := st_ok ok
  cases o0 with
  | p r q => simp [asgT] at e1
  | v d =>
    simp only [asgT] at e1
    obtain ⟨x, ρ1, e1, e2⟩ := Res.bind_ok e1
    obtain ⟨y, ρ2, e2, e3⟩ := Res.bind_ok e2
    refine ⟨ρ0, η, γ0, Z0, Fe0, ⟨hn.1, p0.nl⟩, p0.rep, p0.wf, x, ρ1, e1, fun vx H1 Z1 γ1 Fe1 Fo1 p1 od1 _ => ?_⟩
    refine ⟨ρ1, η, γ1, Z1, Fe1, ⟨hn.1, p1.nl⟩, p1.rep, p1.wf, y, ρ2, e2, fun vy H2 Z2 γ2 Fe2 Fo2 p2 od2 pu2 => ?_⟩
    split at e3
    · rename_i hk
      split at e3
      · rename_i r q k _
        split at e3
        · rename_i e' he'
          cases e3
          obtain ⟨d0, hd0, hset⟩ := Option.bind_eq_some_iff.mp he'
          have hcase : (∃ l ik, d0 = .lst false l ∧ k = .int ik) ∨ ∃ ks l, d0 = .dk false ks l := by
            unfold ixSet at hset
            split at hset
            · exact .inl ⟨_, _, rfl, rfl⟩
            · exact .inr ⟨_, _, rfl⟩
            · cases hset
          obtain ⟨l, ik, rfl, rfl⟩ | ⟨ks, l, rfl⟩ := hcase
          · simp only [ixSet] at hset
            obtain ⟨j, hj, rfl⟩ := Option.map_eq_some_iff.mp hset
            obtain ⟨A, Fx, B, hA, rx, kx⟩ := od1.place p2.rep hk (fun z => (pu2 z).1) hd0
            obtain ⟨hx1, hx2⟩ := ixN_of hj
            obtain ⟨a, vs, F', rfl, rv, hh, rfl⟩ := rx
            obtain ⟨rfl, rfl⟩ := od2
            have h0 : Fo1 = [] := od1.1
            subst h0
            have ps := p0.seq (p1.seq p2)
            simp only [List.append_nil, List.nil_append] at ps
            have kd : Keeps Z0 Z2 H0 H2 Fo0 := (p1.seq p2).evo.keeps p0.wf2
            have rd : Rep X.K η Z2 H2 d v Fo0 := Rep.keep kd (show Rep X.K η Z0 H0 d v Fo0 from od0) (fun _ m => m)
            refine .inl ⟨a, vs, ik, j, rfl, rfl, hh, by rw [← rv.length]; exact hx1, ?_⟩
            have wf := ps.wf2
            have hap : (a :: (F' ++ Fo0)).Nodup := by
              have := wf.nd
              rw [hA] at this
              have h3 : ((a :: F') ++ Fo0).Sublist (A ++ (a :: F') ++ B ++ Fo0) := List.Sublist.append sub3 (List.Sublist.refl _)
              simpa using this.sublist h3
            have hnm : a ∉ F' ++ Fo0 := (List.nodup_cons.mp hap).1
            have hz : ¬ Z2 a := wf.dz a (by rw [hA]; simp)
            have rx0 : Rep X.K η Z2 H2 (.lst false l) (.ref a) (a :: F') := ⟨a, vs, F', rfl, rv, hh, rfl⟩
            have pk : PathsOk (belowK r q (.int ik)) r q (.lst false l) (.lst false (l.set j d)) (.ref a) H2 (upd H2 a (.lst (vs.set j v))) :=
              PathsOk.of rx0 (keepsU (fun m => hnm (by simp [m])) hz ⟨_, hh, trivial⟩) fun s t x u hk hx hu => by
                cases s with
                | ix j' =>
                  have hne : j ≠ j' := by
                    obtain ⟨hk1, hk2⟩ := belowK_ix hk
                    have : j = ik.toNat := by
                      unfold ixOf at hj
                      rw [if_pos hk1] at hj
                      split at hj
                      · exact (Option.some.inj hj).symm
                      · cases hj
                    rw [this]
                    exact hk2
                  obtain ⟨b, eb, vs1, e1, e2⟩ := hu
                  cases eb
                  rw [hh] at e1; cases e1
                  exact ⟨⟨a, rfl, _, upd_same, by rw [List.getElem?_set_ne hne]; exact e2⟩, by rw [show Pv.get1 (.lst false (l.set j d)) (.ix j') = (l.set j d)[j']? from rfl, List.getElem?_set_ne hne]; exact hx⟩
                | key f => simp [Pv.get1] at hx
                | fld f => simp [Pv.get1] at hx
            have rv2 := rv.keep (keepsU (o := .lst (vs.set j v)) (G := F') (fun m => hnm (by simp [m])) hz ⟨_, hh, trivial⟩) (fun _ m => m)
            have rd2 := rd.keep (keepsU (o := .lst (vs.set j v)) (G := Fo0) (fun m => hnm (by simp [m])) hz ⟨_, hh, trivial⟩) (fun _ m => m)
            obtain ⟨A', G, B', rfl, rset⟩ := rv2.set hx2 rd2
            have nd2 := (List.nodup_cons.mp hap).2
            have pst := Pst.mut (v0 := v) (c := .non) (w := .non) (Fc := []) (F' := a :: (A' ++ Fo0 ++ B')) (d' := .lst false (l.set j d)) (H' := upd H2 a (.lst (vs.set j v))) ps hA kx pk
              (fun b o e nb => by rw [upd_ne (fun z => nb (by rw [z]; exact List.mem_cons_self))]; exact e) ⟨a, vs.set j v, A' ++ Fo0 ++ B', rfl, rset, upd_same, rfl⟩ ⟨rfl, rfl⟩ ?_ ?_
            · exact ok _ _ _ _ _ pst.s
            · rw [List.append_nil]
              refine List.nodup_cons.mpr ⟨fun m => hnm ?_, ?_⟩
              · simp only [List.mem_append] at m ⊢
                rcases m with (m | m) | m <;> simp [m]
              · have h3 : (A' ++ Fo0 ++ B').Perm (A' ++ B' ++ Fo0) := by
                  simpa only [List.append_assoc] using (List.perm_append_comm (l₁ := Fo0) (l₂ := B')).append_left A'
                refine (h3.nodup_iff).mpr (nd2.sublist ?_)
                exact List.Sublist.append (List.Sublist.append (List.sublist_append_left _ _) (List.Sublist.refl _)) (List.Sublist.refl _)
            · intro b m
              simp only [List.append_nil, List.mem_cons, List.mem_append] at m ⊢
              rcases m with m | (m | m) | m <;> simp [m]
          · simp only [ixSet] at hset
            split at hset
            · rename_i hsz
              obtain ⟨key, hkey, rfl⟩ := Option.map_eq_some_iff.mp hset
              obtain ⟨A, Fx, B, hA, rx, kx⟩ := od1.place p2.rep hk (fun z => (pu2 z).1) hd0
              have hv := keyV (show Rep X.K η Z2 H2 k vy Fo2 from od2) hkey
              have hf := D.key_nil (show Rep X.K η Z2 H2 k vy Fo2 from od2) hkey
              subst hv hf
              have h0 : Fo1 = [] := od1.1
              subst h0
              have ps := p0.seq (p1.seq p2)
              simp only [List.append_nil, List.nil_append] at ps
              have kd : Keeps Z0 Z2 H0 H2 Fo0 := (p1.seq p2).evo.keeps p0.wf2
              have rd : Rep X.K η Z2 H2 d v Fo0 := Rep.keep kd (show Rep X.K η Z0 H0 d v Fo0 from od0) (fun _ m => m)
              obtain ⟨a, vs, rfl, hh, hln, F', pst⟩ := Pst.putKey (k := key) (kc := belowK r q k) ps hA (fun s t hk e => by subst e; exact belowK_key hkey hk) kx rx rd
              exact .inr ⟨a, _, rfl, DPut.k hh (by rw [List.length_zip, sizeLine_eq]; omega), ok _ _ _ _ _ pst.s⟩
            · cases hset
        · cases e3
      · cases e3
    · cases e3
/-- a field of an owned instance is stored -/
theorem Pst.putAt {c f : Str} {ns : List Str} {l : List D} {vx y : V} {d : D} {r : Nat} {q : List Stp} {A Fx B Fo : List Addr} (p : Pst AL K η σ fx H Z F γ H1 Z1 γ1 ρ1 Fe1 Fo) (hA : Fe1 = A ++ Fx ++ B)
    {kc : Nat → List Stp → Bool} (hkc : ∀ s t, kc r (q ++ s :: t) = false → s ≠ .fld f) (kx : ∀ kc Z' H' d' F1', Keeps Z1 Z' H1 H' (A ++ B) → Rep K η Z' H' d' vx F1' → PathsOk kc r q (.ins false c ns l) d' vx H1 H' → RepE AL K η Z' H' (killE AL kc (putP ρ1 r q d')) σ γ1 (A ++ F1' ++ B)) (rx : Rep K η Z1 H1 (.ins false c ns l) vx Fx) (rd : Rep K η Z1 H1 d y Fo) :
    ∃ a dx vs, vx = .ref a ∧ H1 a = some (.ins (He.ga K c) dx (ns.zip vs)) ∧ ns.length = vs.length ∧ ∃ F', Pst AL K η σ fx H Z F γ (upd H1 a (.ins (He.ga K c) dx (putF f y (ns.zip vs)))) Z1 γ1 (killE AL kc (putP ρ1 r q (.ins false c (putKs f ns) (putDs f d ns l)))) F' [] := by
  obtain ⟨a, dx, vs, F', rfl, rv, hln, hh, rfl⟩ := rx
  refine ⟨a, dx, vs, rfl, hh, hln, ?_⟩
  have rx0 : Rep K η Z1 H1 (.ins false c ns l) (.ref a) (a :: F') := ⟨a, dx, vs, F', rfl, rv, hln, hh, rfl⟩
  have wf := p.wf2
  have hap : (a :: (F' ++ Fo)).Nodup := by
    have := wf.nd
    rw [hA] at this
    have h3 : ((a :: F') ++ Fo).Sublist (A ++ (a :: F') ++ B ++ Fo) := List.Sublist.append sub3 (List.Sublist.refl _)
    simpa using this.sublist h3
  have hnm : a ∉ F' ++ Fo := (List.nodup_cons.mp hap).1
  have hz : ¬ Z1 a := wf.dz a (by rw [hA]; simp)
  have pk : PathsOk kc r q (.ins false c ns l) (.ins false c (putKs f ns) (putDs f d ns l)) (.ref a) H1 (upd H1 a (.ins (He.ga K c) dx (putF f y (ns.zip vs)))) :=
    PathsOk.of rx0 (keepsU (fun m => hnm (by simp [m])) hz ⟨_, hh, trivial⟩) fun s t x u hk hx hu => by
      have hne := hkc s t hk
      cases s with
      | fld k' =>
        have hne' : k' ≠ f := fun e => hne (by rw [e])
        obtain ⟨b, eb, C, dx1, fs, e1, e2⟩ := hu
        cases eb
        rw [hh] at e1; cases e1
        exact ⟨⟨a, rfl, _, _, _, upd_same, by rw [putF_zip f y hln, lookup_put hne' hln]; exact e2⟩, by rw [show Pv.get1 (.ins false c (putKs f ns) (putDs f d ns l)) (.fld k') = look k' (putKs f ns) (putDs f d ns l) from rfl, look_put hne' (hln.trans rv.length.symm)]; exact hx⟩
      | key f => simp [Pv.get1] at hx
      | ix f => simp [Pv.get1] at hx
  have rv2 := rv.keep (keepsU (o := .ins (He.ga K c) dx (putF f y (ns.zip vs))) (G := F') (fun m => hnm (by simp [m])) hz ⟨_, hh, trivial⟩) (fun _ m => m)
  have rd2 := rd.keep (keepsU (o := .ins (He.ga K c) dx (putF f y (ns.zip vs))) (G := Fo) (fun m => hnm (by simp [m])) hz ⟨_, hh, trivial⟩) (fun _ m => m)
  obtain ⟨A', G, B', rfl, rset⟩ := Reps.putF (f := f) rd2 hln rv2
  have nd2 := (List.nodup_cons.mp hap).2
  refine ⟨_, Pst.mut (v0 := y) (c := .non) (w := .non) (Fc := []) (F' := a :: (A' ++ Fo ++ B')) (d' := .ins false c (putKs f ns) (putDs f d ns l)) (H' := upd H1 a (.ins (He.ga K c) dx (putF f y (ns.zip vs)))) p hA kx pk
    (fun b o e nb => by rw [upd_ne (fun z => nb (by rw [z]; exact List.mem_cons_self))]; exact e) ⟨a, dx, putVs f y ns vs, A' ++ Fo ++ B', rfl, rset, putVs_len f y hln, by rw [upd_same, putF_zip f y hln], rfl⟩ ⟨rfl, rfl⟩ ?_ ?_⟩
  · rw [List.append_nil]
    refine List.nodup_cons.mpr ⟨fun m => hnm ?_, ?_⟩
    · simp only [List.mem_append] at m ⊢
      rcases m with (m | m) | m <;> simp [m]
    · have h3 : (A' ++ Fo ++ B').Perm (A' ++ B' ++ Fo) := by
        simpa only [List.append_assoc] using (List.perm_append_comm (l₁ := Fo) (l₂ := B')).append_left A'
      refine (h3.nodup_iff).mpr (nd2.sublist ?_)
      exact List.Sublist.append (List.Sublist.append (List.sublist_append_left _ _) (List.Sublist.refl _)) (List.Sublist.refl _)
  · intro b m
    simp only [List.append_nil, List.mem_cons, List.mem_append] at m ⊢
    rcases m with m | (m | m) | m <;> simp [m]
theorem rs_at (hcl : ClsOk X.K T) {o e : Expr} {f : Str} {eo ee : Ex} {pos pos' : Pos} (ho : PE X o (RE T cl cm X.K n fx eo)) (he : PE X e (RE T cl cm X.K n fx ee)) (hs : swapsWith e (some (.Attribute o f pos')) pos.line X.env = pure false) :
    PS X (.Assign [.Attribute o f pos'] e pos) (RS T cl cm X.K n W fx (.asg (.at eo f) ee)) := (ps_fld ho he hs).imp fun En σ H h => by
  obtain ⟨ρ, η, γ, Z, F, hn, rs, w, ok⟩ := h
  simp only [exec] at ok
  obtain ⟨o0, ρ0, e0, ok⟩ := st_ok ok
  refine ⟨ρ, η, γ, Z, F, hn, rs, w, o0, ρ0, e0, fun v H0 Z0 γ0 Fe0 Fo0 p0 od0 _ => ?_⟩
  obtain ⟨u, ρ', e1, ok⟩ := st_ok ok
  cases o0 with
  | p r q => simp [asgT] at e1
  | v d =>
    simp only [asgT] at e1
    obtain ⟨x, ρ1, e1, e2⟩ := Res.bind_ok e1
    refine ⟨ρ0, η, γ0, Z0, Fe0, ⟨hn.1, p0.nl⟩, p0.rep, p0.wf, x, ρ1, e1, fun vx H1 Z1 γ1 Fe1 Fo1 p1 od1 _ => ?_⟩
    split at e2
    · rename_i r q
      split at e2
      · rename_i e' he'
        cases e2
        obtain ⟨d0, hd0, hset⟩ := Option.bind_eq_some_iff.mp he'
        split at hset
        · rename_i hfb
          have hcase : ∃ c ns l, d0 = .ins false c ns l := by
            unfold fldSet at hset
            split at hset
            · exact ⟨_, _, _, rfl⟩
            · cases hset
          obtain ⟨c, ns, l, rfl⟩ := hcase
          simp only [fldB, Bool.and_eq_true] at hfb
          simp only [fldSet] at hset
          split at hset
          · rename_i hlen
            cases hset
            obtain ⟨A, Fx, B, hA, rx, kx⟩ := od1.place (b := true) p1.rep (by cases q <;> rfl) (fun _ => Same.refl _) hd0
            have h0 : Fo1 = [] := od1.1
            subst h0
            have ps := p0.seq p1
            simp only [List.nil_append] at ps
            have kd : Keeps Z0 Z1 H0 H1 Fo0 := p1.evo.keeps p0.wf2
            have rd : Rep X.K η Z1 H1 d v Fo0 := Rep.keep kd (show Rep X.K η Z0 H0 d v Fo0 from od0) (fun _ m => m)
            obtain ⟨a, dx, vs, rfl, hh, hln, F', pst⟩ := Pst.putAt (f := f) (kc := belowF r q f) ps hA (fun s t hk e => by subst e; exact belowF_fld hk) kx rx rd
            exact ⟨a, _, dx, ns.zip vs, rfl, hh, hcl.cls c hfb.1, hcl.fld c f hfb.1 hfb.2, by rw [List.length_zip]; omega, ok _ _ _ _ _ pst.s⟩
          · cases hset
        · cases hset
      · cases e2
    · cases e2
theorem bin_add_int {d e : Pv.D} {k : Int} (h : binD .add d e = some (.int k)) : ∃ a c, d = .int a ∧ e = .int c ∧ k = a + c := by
  unfold binD at h
  split at h <;> simp_all
theorem bin_sub_int {d e : Pv.D} {k : Int} (h : binD .sub d e = some (.int k)) : ∃ a c, d = .int a ∧ e = .int c ∧ k = a - c := by
  unfold binD at h
  split at h <;> simp_all
/-- o.f op= e -/
theorem rs_augA (hcl : ClsOk X.K T) {o e : Expr} {f : Str} {eo ee : Ex} {b : Bool} {pos pos' : Pos} (ho : PE X o (RE T cl cm X.K n fx eo)) (he : PE X e (RE T cl cm X.K n fx ee)) :
    PS X (.AugAssign (.Attribute o f pos') (if b then .Add else .Sub) e pos) (RS T cl cm X.K n W fx (.aug (.at eo f) (if b then .add else .sub) ee)) := by
  have hp : InOp X (if b then .Add else .Sub) (if b then rAdd else rSub) := by
    cases b
    · simpa using in_sub
    · simpa using in_add
  refine (ps_fldaug ho he hp).imp fun En σ H h => ?_
  obtain ⟨ρ, η, γ, Z, F, hn, rs, w, ok⟩ := h
  simp only [exec] at ok
  obtain ⟨x, ρ1, e1, ok⟩ := st_ok ok
  refine ⟨ρ, η, γ, Z, F, hn, rs, w, x, ρ1, e1, fun vx H1 Z1 γ1 Fe1 Fo1 p1 od1 _ => ?_⟩
  split at ok
  · rename_i r q
    split at ok
    · rename_i c ns l hg1
      split at ok
      · rename_i d hlk
        split at ok
        · rename_i hk
          simp only [Bool.and_eq_true] at hk
          obtain ⟨hk, hc1, hf1⟩ := hk
          obtain ⟨y, ρ2, e2, ok⟩ := st_ok ok
          split at ok
          · rename_i k
            split at ok
            · rename_i j e2' hb hg2
              split at ok
              · rename_i e' hset
                split at hset
                · rename_i hsc
                  obtain ⟨A, Fx, B, hA, rx, _⟩ := od1.place (b := true) p1.rep (by cases q <;> rfl) (fun _ => Same.refl _) hg1
                  obtain ⟨a, dx, vs, F', rfl, rv, hln, hh, _⟩ := rx
                  obtain ⟨v, F1, hl2, rd, _⟩ := look_lookup hlk rv
                  obtain ⟨a1, c1, rfl, rfl, rfl⟩ : ∃ a1 c1, d = .int a1 ∧ k = .int c1 ∧ j = (if b then a1 + c1 else a1 - c1) := by
                    cases b
                    · exact bin_sub_int (by simpa using hb)
                    · exact bin_add_int (by simpa using hb)
                  obtain ⟨rfl, _⟩ := rd
                  refine ⟨a, _, dx, ns.zip vs, .int a1, rfl, hh, hcl.cls c hc1, hcl.fld c f hc1 hf1, hl2, ?_⟩
                  have h0 : Fo1 = [] := od1.1
                  subst h0
                  refine ⟨ρ1, η, γ1, Z1, Fe1, ⟨hn.1, p1.nl⟩, p1.rep, p1.wf, _, ρ2, e2, fun vy H2 Z2 γ2 Fe2 Fo2 p2 od2 pu2 => ?_⟩
                  obtain ⟨rfl, rfl⟩ := od2
                  have fin : ∃ dx' fs', H2 a = some (.ins (He.ga X.K c) dx' fs') ∧ fs'.length < 1000 ∧ En.nx σ (upd H2 a (.ins (He.ga X.K c) dx' (putF f (.int (if b then a1 + c1 else a1 - c1)) fs'))) := by
                    have hcase : ∃ c' ns l, e2' = .ins false c' ns l := by
                      unfold fldSet at hset
                      split at hset
                      · exact ⟨_, _, _, rfl⟩
                      · cases hset
                    obtain ⟨c', ns', l', rfl⟩ := hcase
                    obtain rfl : c' = c := by simpa [sameC] using hsc
                    simp only [fldSet] at hset
                    split at hset
                    · rename_i hlen
                      cases hset
                      obtain ⟨A2, Fx2, B2, hA2, rx2, kx2⟩ := od1.place p2.rep hk (fun z => (pu2 z).1) hg2
                      have ps := p1.seq p2
                      simp only [List.append_nil] at ps
                      obtain ⟨a', dx', vs', e5, hh', hln', F5, pst⟩ := Pst.putAt (f := f) (d := .int (if b then a1 + c1 else a1 - c1)) (y := .int (if b then a1 + c1 else a1 - c1)) (kc := belowF r q f) ps hA2 (fun s t hk e => by subst e; exact belowF_fld hk) kx2 rx2 ⟨rfl, rfl⟩
                      cases e5
                      exact ⟨dx', ns'.zip vs', hh', by rw [List.length_zip]; omega, ok _ _ _ _ _ pst.s⟩
                    · cases hset
                  cases b
                  · exact ⟨a1, c1, rfl, rfl, fin⟩
                  · exact ⟨a1, c1, rfl, rfl, fin⟩
                · cases hset
              · exact ok.elim
            · exact ok.elim
          · exact ok.elim
        · exact ok.elim
      · exact ok.elim
    · exact ok.elim
  · exact ok.elim
/-- name op= e -/
theorem rs_aug {i : Nat} {x : Str} {e : Expr} {ee : Ex} {b : Bool} {pos pos' : Pos} (hN : X.N.Nodup) (hl : X.N.length = n) (hi : X.N[i]? = some x) (hx : Loc X.env.scope x) (hf : X.fn x = true ∨ X.env.scope.names.lookup x = some .local) (he : PE X e (RE T cl cm X.K n fx ee)) :
    PS X (.AugAssign (.Name x pos') (if b then .Add else .Sub) e pos) (RS T cl cm X.K n W fx (.aug (.nm i) (if b then .add else .sub) ee)) := by
  have hin : i < n := by rw [← hl]; exact (List.getElem?_eq_some_iff.mp hi).1
  have hp : PIp X (if b then .Add else .Sub) (ipI fun i j => if b then i + j else i - j) := by
    cases b
    · simpa using ip_sub
    · simpa using ip_add
  refine (ps_aug hN hi hx he hp hf).imp fun En σ H h => ?_
  obtain ⟨ρ, η, γ, Z, F, hn, rs, w, ok⟩ := h
  simp only [exec] at ok
  split at ok
  · rename_i d hd
    obtain ⟨o, ρ1, e1, ok⟩ := st_ok ok
    split at ok
    · rename_i d2 hd2
      split at ok
      · rename_i k hk
        obtain ⟨u, ρ2, e2, ok2⟩ := st_ok ok
        obtain ⟨a, c, rfl, rfl, rfl⟩ : ∃ a c, d = .int a ∧ d2 = .int c ∧ k = (if b then a + c else a - c) := by
          cases b
          · exact bin_sub_int (by simpa using hk)
          · exact bin_add_int (by simpa using hk)
        obtain ⟨ov, A, F1, B, g1, g2, g3, _⟩ := rs.1.at hd
        obtain ⟨v, rfl, rfl, _⟩ := g3
        have hlt : i < σ.length := by rw [hn.1]; exact hin
        rw [List.getElem?_append_left hlt] at g1
        refine ⟨_, g1, ρ, η, γ, Z, F, hn, rs, w, o, ρ1, e1, fun vy H' Z' γ' Fe Fo p od _ => ?_⟩
        obtain ⟨F2, r2, _⟩ := od.use (ρ2 := ρ1) (b := true) (Same.keeps (Same.refl _)) p.rep od_self (fun _ => Same.refl _) hd2
        obtain ⟨rfl, _⟩ := r2
        refine ⟨a, c, rfl, rfl, ?_⟩
        obtain ⟨F3, p3⟩ := (p.sub (List.nil_sublist Fo)).store (d := .int (if b then a + c else a - c)) (v := .int (if b then a + c else a - c)) ⟨rfl, rfl⟩ hlt e2
        exact ok2 _ _ _ _ _ p3
      · exact ok.elim
    · exact ok.elim
  · exact ok.elim
theorem PstS.sub {K : PySem.W.Frag} {η : List V} {fx : List Nat} {σ γ σ1 γ1 : L2.St} {H H1 : Hp} {Z Z1 : Addr → Prop} {F F1 F2 : List Addr} {ρ1 ρ2 : Env} (p : PstS AL K η fx σ γ H Z F σ1 γ1 H1 Z1 ρ1 F1 []) (s : F2.Sublist F1) (r : RepE AL K η Z1 H1 ρ2 σ1 γ1 F2) (nl : ρ2.nl = ρ1.nl) : PstS AL K η fx σ γ H Z F σ1 γ1 H1 Z1 ρ2 F2 [] :=
  ⟨p.evo.drop (s.append (List.Sublist.refl _)), p.sl, p.gl, p.fx, r, nl.trans p.nl⟩
theorem gone_ok {w : Walk} {g : Nat} {σ γ : L2.St} {F : List Addr} (rs : RepE AL K η Z H ρ σ γ F) (hg : σ.length ≤ g) : ∃ F', F'.Sublist F ∧ RepE AL K η Z H (w.gone g ρ) σ γ F' ∧ (w.gone g ρ).nl = ρ.nl := by
  have ha := rs.2.setH (x := .no) (fun _ _ h => nomatch h) hg
  have one : ∃ F', F'.Sublist F ∧ RepS K η Z H (setS ρ g .no).s (σ ++ γ) F' := rs.1.upd (by simp [setS]) rfl fun j x hx => by
    by_cases e : j = g
    · subst e
      right
      rw [show (setS ρ j .no).s = ρ.s.set j .no from rfl] at hx
      have hjl : j < (ρ.s.set j .no).length := (List.getElem?_eq_some_iff.mp hx).1
      rw [List.getElem?_set_self (by simpa using hjl)] at hx
      cases hx
      have : j < (σ ++ γ).length := by rw [← rs.1.len]; simpa using hjl
      exact ⟨_, List.getElem?_eq_getElem this, rfl⟩
    · left
      rw [show (setS ρ g .no).s = ρ.s.set g .no from rfl, List.getElem?_set_ne (Ne.symm e)] at hx
      exact ⟨hx, rfl⟩
  cases w with
  | rng => exact ⟨F, List.Sublist.refl _, rs, rfl⟩
  | chs => exact ⟨F, List.Sublist.refl _, rs, rfl⟩
  | zip => exact ⟨F, List.Sublist.refl _, rs, rfl⟩
  | seq => obtain ⟨F', s, r⟩ := one; exact ⟨F', s, ⟨r, ha⟩, rfl⟩
  | enu => obtain ⟨F', s, r⟩ := one; exact ⟨F', s, ⟨r, ha⟩, rfl⟩
  | enut => obtain ⟨F', s, r⟩ := one; exact ⟨F', s, ⟨r, ha⟩, rfl⟩
theorem psx {Y : Cx} {e : List Stmt} {s : List Sx} (h : ∀ fx, PSs Y e (RSs T cl cm K n W fx s)) : PSs Y e (fun D σ H => ∃ fx, RSs T cl cm K n W fx s D σ H) := ⟨fun pins s σ H D I ⟨fx, q⟩ => (h fx).run pins s σ H D I q⟩
theorem rs_for {tg iter : Expr} {body : List Stmt} {t : Tg} {it : Pv.It} {g : Nat} {b : List Sx} {pos : Pos} (hp : PassesOwn (model X.prog X.w) X.A X.env X.xe) (hc : X.calm = true) (hgn : n ≤ g) (hi : PI X tg iter (RI T cl cm X.K n fx it g))
    (hg : ∀ fx, PG X tg (RG T.al X.K n fx t)) (hb : ∀ fx, PSs X body (RSs T cl cm X.K n W fx b)) (hs : ∀ x, foldedSetIterable iter X.env x = pure x) : PS X (.For tg iter body [] pos) (RS T cl cm X.K n W fx (.for t it g b)) := by
  refine (ps_for hp hc hi (pgx hg) (psx hb) hs).imp fun En σ H h => ?_
  obtain ⟨ρ, η, γ, Z, F, hn, rs, w, ok⟩ := h
  simp only [exec] at ok
  obtain ⟨wk, ρ1, e1, ok⟩ := st_ok ok
  refine ⟨ρ, η, γ, Z, F, hn, rs, w, wk, ρ1, e1, fun J H1 Z1 γ1 Fe1 p1 ws => ?_⟩
  have ok1 := ok.after p1.s
  -- what is left of the walk
  generalize hr : forLoop wk (fun d ρ => asgI T.al (wk.fx fx) t d ρ) (fun ρ => execs T cl cm W b (wk.fx fx) ρ) wk.len 0 ρ1 = r at ok1
  refine ⟨fun i m σ2 H2 => ∃ ρ2 γ2 Z2 F2, PstS T.al X.K η (wk.fx fx) σ γ1 H1 Z1 Fe1 σ2 γ2 H2 Z2 ρ2 F2 [] ∧ i ≤ wk.len ∧ m = wk.len - i ∧
    forLoop wk (fun d ρ => asgI T.al (wk.fx fx) t d ρ) (fun ρ => execs T cl cm W b (wk.fx fx) ρ) (wk.len - i) i ρ2 = r,
    ⟨wk.len, ρ1, γ1, Z1, Fe1, PstS.refl p1.nl p1.rep p1.wf, Nat.zero_le _, by simp, by simpa using hr⟩, ?_⟩
  rintro i m σ2 H2 ⟨ρ2, γ2, Z2, F2, P, hi', rfl, lp⟩
  have st2 : WStand X.K wk J (σ2 ++ γ2) := ws.mono fun j hj => P.fx j (fx_self hj)
  have fin : ∀ ρ' σ' γ' H' Z' F', r = .nx ρ' → PstS T.al X.K η (wk.fx fx) σ γ1 H1 Z1 Fe1 σ' γ' H' Z' ρ' F' [] → En.nx σ' H' := fun ρ' σ' γ' H' Z' F' hr' P' => by
    rw [hr'] at ok1
    obtain ⟨F5, s5, r5, nl5⟩ := gone_ok (w := wk) (g := g) P'.rep (by rw [P'.sl, hn.1]; exact hgn)
    exact ok1 σ' γ' H' Z' F5 ((P'.mono fun j hj => fx_sub hj).sub s5 r5 nl5)
  cases hm : wk.len - i with
  | zero =>
    rw [hm] at lp
    simp only [forLoop] at lp
    split at lp
    · rename_i th
      exact .inl ⟨(st2.turn P.rep.1 th).1 (by omega), fin ρ2 σ2 γ2 H2 Z2 F2 lp.symm P⟩
    · rw [← lp] at ok1; exact ok1.elim
  | succ m =>
    rw [hm] at lp
    simp only [forLoop] at lp
    split at lp
    · rename_i th
      split at lp
      · rename_i d hd
        cases ha : asgI T.al (wk.fx fx) t d ρ2 with
        | no => rw [ha] at lp; rw [← lp] at ok1; exact ok1.elim
        | ex x ρ' => rw [ha] at lp; rw [← lp] at ok1; exact ok1.elim
        | ok u ρa =>
          rw [ha] at lp
          simp only [Res.st] at lp
          obtain ⟨hgo, hyl⟩ := (st2.turn P.rep.1 th).2 d (by omega) hd
          refine .inr ⟨hgo, _, fun σ' H' h' => ⟨wk.len - (i + 1), by omega, h'⟩, fun x H4 hy => ?_⟩
          obtain ⟨sm, rd⟩ := hyl x H4 hy
          have rep4 := P.rep.keep (Same.keeps sm (G := F2)) (fun _ m => m)
          have P4 : PstS T.al X.K η (wk.fx fx) σ γ1 H1 Z1 Fe1 σ2 γ2 H4 Z2 ρ2 F2 [] := ⟨by
            have := P.evo.trans (Evo.fresh P.evo.wf sm (Fn := []) (by simp) (by simp) (by simp))
            simpa using this, P.sl, P.gl, P.fx, rep4, P.nl⟩
          refine ⟨wk.fx fx, ρ2, η, γ2, Z2, F2, d, P.sl.trans hn.1, rep4, rd, ρa, ha, fun σ5 Fe5 hl5 hj5 hf5 r5 s5 nl5 => ?_⟩
          have P5 : PstS T.al X.K η (wk.fx fx) σ γ1 H1 Z1 Fe1 σ5 γ2 H4 Z2 ρa Fe5 [] := ⟨P4.evo.drop (s5.append (List.Sublist.refl _)), hl5.trans P.sl, P.gl, fun j hj => (app_get hl5 (hf5 j hj)).trans (P.fx j hj), r5, nl5.trans P.nl⟩
          refine ⟨wk.fx fx, ρa, η, γ2, Z2, Fe5, ⟨P5.sl.trans hn.1, P5.nl⟩, r5, P5.wf, ?_⟩
          have hm' : wk.len - (i + 1) = m := by omega
          cases hb' : execs T cl cm W b (wk.fx fx) ρa with
          | nx ρ3 =>
            rw [hb'] at lp
            exact fun σ' γ' H' Z' F' q => ⟨ρ3, γ', Z', F', P5.trans q, by omega, rfl, by rw [hm']; exact lp⟩
          | ct ρ3 =>
            rw [hb'] at lp
            exact fun σ' γ' H' Z' F' q => ⟨ρ3, γ', Z', F', P5.trans q, by omega, rfl, by rw [hm']; exact lp⟩
          | bk ρ3 =>
            rw [hb'] at lp
            exact fun σ' γ' H' Z' F' q => fin ρ3 σ' γ' H' Z' F' lp.symm (P5.trans q)
          | rt d' ρ3 =>
            rw [hb'] at lp
            simp only [] at lp
            rw [← lp] at ok1
            exact fun v σ' γ' H' Z' F' Fo q r' => ok1 v σ' γ' H' Z' F' Fo ((P5.trans q).mono fun j hj => fx_sub hj) r'
          | ex x ρ3 => rw [hb'] at lp; simp only [] at lp; rw [← lp] at ok1; exact ok1.elim
          | no => rw [hb'] at lp; simp only [] at lp; rw [← lp] at ok1; exact ok1.elim
      · rw [← lp] at ok1; exact ok1.elim
    · rw [← lp] at ok1; exact ok1.elim
theorem rs_whl {c : Expr} {ec : Ex} {body : List Stmt} {b : List Sx} {pos : Pos} (hp : PassesOwn (model X.prog X.w) X.A X.env X.xe) (hc : PT X c (RT T cl cm X.K n fx ec)) (hb : PSs X body (RSs T cl cm X.K n W fx b)) : PS X (.While c body [] pos) (RS T cl cm X.K n W fx (.whl ec b)) := by
  refine (ps_while hp hc hb).imp fun En σ H h => ?_
  obtain ⟨ρ, η, γ, Z, F, hn, rs, w, ok⟩ := h
  simp only [exec] at ok
  generalize hr : whLoop (fun ρ => (evalO T cl cm ec fx ρ).bind fun o ρ => truO o ρ) (fun ρ => execs T cl cm W b fx ρ) W ρ = r at ok
  refine ⟨fun m σ2 H2 => ∃ ρ2 γ2 Z2 F2, PstS T.al X.K η fx σ γ H Z F σ2 γ2 H2 Z2 ρ2 F2 [] ∧ whLoop (fun ρ => (evalO T cl cm ec fx ρ).bind fun o ρ => truO o ρ) (fun ρ => execs T cl cm W b fx ρ) m ρ2 = r,
    ⟨W, ρ, γ, Z, F, PstS.refl hn.2 rs w, hr⟩, ?_⟩
  rintro m σ2 H2 ⟨ρ2, γ2, Z2, F2, P, lp⟩
  cases m with
  | zero => simp only [whLoop] at lp; rw [← lp] at ok; exact ok.elim
  | succ m =>
    simp only [whLoop] at lp
    cases hcv : ((evalO T cl cm ec fx ρ2).bind fun o ρ => truO o ρ) with
    | no => rw [hcv] at lp; rw [← lp] at ok; exact ok.elim
    | ex x ρ' => rw [hcv] at lp; rw [← lp] at ok; exact ok.elim
    | ok tb ρ3 =>
      rw [hcv] at lp
      simp only [Res.st] at lp
      refine ⟨ρ2, η, γ2, Z2, F2, ⟨P.sl.trans hn.1, P.nl⟩, P.rep, P.wf, tb, ρ3, hcv, fun H3 Z3 γ3 F3 Fo3 p3 _ => ?_⟩
      have P3 := P.trans (p3.sub (List.nil_sublist _)).s
      cases tb with
      | false =>
        simp only [Bool.false_eq_true, if_false] at lp ⊢
        rw [← lp] at ok
        exact ok σ2 γ3 H3 Z3 F3 P3
      | true =>
        simp only [if_true] at lp ⊢
        refine ⟨_, fun σ' H' h' => ⟨m, by omega, h'⟩, ρ3, η, γ3, Z3, F3, ⟨P3.sl.trans hn.1, P3.nl⟩, P3.rep, P3.wf, ?_⟩
        cases hb' : execs T cl cm W b fx ρ3 with
        | nx ρ4 => rw [hb'] at lp; exact fun σ' γ' H' Z' F' q => ⟨ρ4, γ', Z', F', P3.trans q, lp⟩
        | ct ρ4 => rw [hb'] at lp; exact fun σ' γ' H' Z' F' q => ⟨ρ4, γ', Z', F', P3.trans q, lp⟩
        | bk ρ4 => rw [hb'] at lp; simp only [] at lp; rw [← lp] at ok; exact fun σ' γ' H' Z' F' q => ok σ' γ' H' Z' F' (P3.trans q)
        | rt d' ρ4 => rw [hb'] at lp; simp only [] at lp; rw [← lp] at ok; exact fun v σ' γ' H' Z' F' Fo q r' => ok v σ' γ' H' Z' F' Fo (P3.trans q) r'
        | ex x ρ4 => rw [hb'] at lp; simp only [] at lp; rw [← lp] at ok; exact ok.elim
        | no => rw [hb'] at lp; simp only [] at lp; rw [← lp] at ok; exact ok.elim
end
end Pv

/-! Pv, part Q: the text against the small language: expressions. -/
namespace Pv
open PySem PySem.Spec PyProof.Rows L2
/-- where a text stands: the slots' names, the scope, which names are the frame's own cells -/
structure MC where
  N : List Str
  sc : Scope
  fn : Str → Bool
  df : List (Str × List Int)
  kw : List (Str × Str)
def MC.n (m : MC) : Nat := m.N.length
def ndbg (x : Str) : Bool := !(x == ("__debug__" : Str)) && !(x == ("__classdict__" : Str)) && decide (x ≠ "__name__")
def visB (sc : Scope) (x : Str) : Bool := decide (sc.names.lookup x = some .local) || decide (sc.names.lookup x = some .cell) || decide (sc.names.lookup x = some .free)
def locB (sc : Scope) (x : Str) : Bool := decide (sc.names.lookup x = some .local) || decide (sc.names.lookup x = some .cell)
def glB (sc : Scope) (x : Str) : Bool := decide (sc.names.lookup x = some .globalImplicit) && ndbg x
def MC.blk (m : MC) (scope : Scope) : MC := ⟨m.N, relS scope m.sc, fun x => scope.names.lookup x == some .cell, m.df, m.kw⟩
def nst : Expr → Bool
  | .Starred _ _ => false
  | _ => true
def nsl : Expr → Bool
  | .Slice _ _ _ _ => false
  | _ => true
def nset : Expr → Bool
  | .Set _ _ _ => false
  | _ => true
def nsup : Expr → Bool
  | .Call (.Name _ _) [] [] _ => false
  | _ => true
/-- a test is a plain value's -/
def pltest : Expr → Bool
  | .UnaryOp .Not _ _ => false
  | .BoolOp _ _ _ => false
  | .IfExp _ _ _ _ => false
  | .Compare _ _ _ _ => false
  | _ => true
def nmB (m : MC) (i : Nat) (x : Str) : Bool := decide (m.N[i]? = some x) && locB m.sc x && (m.fn x || decide (m.sc.names.lookup x = some .local))
def nmsB (m : MC) : List Nat → List Expr → Bool
  | [], [] => true
  | i :: is, .Name x _ :: es => nmB m i x && nmsB m is es
  | _, _ => false
def mTg (m : MC) : Tg → Expr → Bool
  | .nm i, .Name x _ => nmB m i x
  | .tp l, .Tuple es _ _ => (match tgNames l with
    | some is => nmsB m is es
    | none => false)
  | _, _ => false
def isTup : Expr → Bool
  | .Tuple _ _ _ => true
  | _ => false
def biN : Bi → Str
  | .len => "len" | .int => "int" | .str => "str" | .tuple => "tuple" | .list => "list" | .max => "max" | .min => "min" | .sum => "sum" | .sorted => "sorted" | .all => "all" | .dict => "dict" | .bool => "bool"
def tyNm : Ty → Str
  | .int => "int" | .bool => "bool" | .str => "str" | .tuple => "tuple" | .list => "list" | .dict => "dict" | .own _ => ""
def mTys (m : MC) : List Ty → List Expr → Bool
  | [], [] => true
  | .own _ :: _, _ => false
  | t :: ts, .Name x _ :: es => decide (x = tyNm t) && glB m.sc x && mTys m ts es
  | _, _ => false
def mTy (m : MC) : Bool → List Ty → Expr → Bool
  | false, [t], e => mTys m [t] [e]
  | true, ts, .Tuple es _ _ => !ts.isEmpty && decide (ts.length ≤ 1000) && mTys m ts es
  | _, _, _ => false
def ownN (m : MC) (own : List Nat) : List (Str × Nat) := own.map fun i => (m.N.getD i "", i)
/-- a method that the matcher takes: index of a module's tuple, or one of bmGo -/
def bmOk : Bm → Ex → Expr → Bool
  | .indexT, .glo g, .Name x _ => decide (g = x)
  | b, _, _ => bmGo b
/-- two lists, item by item -/
inductive All2 {α β : Type} (R : α → β → Prop) : List α → List β → Prop where
  | nil : All2 R [] []
  | cons {a : α} {b : β} {l : List α} {m : List β} : R a b → All2 R l m → All2 R (a :: l) (b :: m)
/-- a display's keys -/
def mKs : List Ex → List (Option Expr) → Bool
  | [], [] => true
  | .int i :: ks, some (.Constant (.int j) _ _) :: es => decide (i = j) && mKs ks es
  | .str x :: ks, some (.Constant (.str y) _ _) :: es => decide (x = y) && mKs ks es
  | _, _ => false
theorem mKs_ok {X : Cx} {pos : Pos} : ∀ {ks : List Ex} {keys : List (Option Expr)}, mKs ks keys = true → ∃ kl, cKeys ks = some kl ∧ kl.length = keys.length ∧ keys.all (·.isSome) = true ∧ (ks = [] ↔ keys = []) ∧
    ∀ {values : List Expr} {ts : List TE}, All2 (fun e t => PE X e t) values ts → keys.length = values.length → PPs X pos keys values (tKs kl ts)
  | [], [], _ => ⟨[], rfl, rfl, rfl, by simp, fun {values ts} h hl => by
    cases h with
    | nil => exact pps_nil
    | cons => simp at hl⟩
  | k :: ks, [], h => by cases k <;> simp [mKs] at h
  | [], e :: es, h => by simp [mKs] at h
  | k :: ks, e :: es, h => by
    unfold mKs at h
    split at h
    · rename_i h1 _; cases h1
    · rename_i i ks' j a b es' h1 h2
      cases h1; cases h2
      simp only [Bool.and_eq_true, decide_eq_true_eq] at h
      obtain ⟨rfl, h⟩ := h
      obtain ⟨kl, h1, h2, h3, _, h4⟩ := mKs_ok (X := X) (pos := pos) h
      refine ⟨.inl i :: kl, by simp [cKeys, h1], by simp [h2], by simpa using h3, by simp, fun {values ts} hf hl => ?_⟩
      cases hf with
      | nil => simp at hl
      | cons x y => exact pps_cons pe_int x (h4 y (by simpa using hl))
    · rename_i x ks' y a b es' h1 h2
      cases h1; cases h2
      simp only [Bool.and_eq_true, decide_eq_true_eq] at h
      obtain ⟨rfl, h⟩ := h
      obtain ⟨kl, h1, h2, h3, _, h4⟩ := mKs_ok (X := X) (pos := pos) h
      refine ⟨.inr x :: kl, by simp [cKeys, h1], by simp [h2], by simpa using h3, by simp, fun {values ts} hf hl => ?_⟩
      cases hf with
      | nil => simp at hl
      | cons x y => exact pps_cons pe_str x (h4 y (by simpa using hl))
    · cases h
/-- written whole numbers -/
def intsEx : List Ex → Option (List Int)
  | [] => some []
  | .int i :: r => (intsEx r).map (i :: ·)
  | _ :: _ => none
theorem intsEx_ok : ∀ {l : List Ex} {is : List Int}, intsEx l = some is → l = is.map .int
  | [], is, h => by cases h; rfl
  | e :: r, is, h => by
    cases e with
    | int i =>
      simp only [intsEx, Option.map_eq_some_iff] at h
      obtain ⟨js, h1, rfl⟩ := h
      rw [intsEx_ok h1]; rfl
    | _ => simp [intsEx] at h
/-- the last arguments are the def's defaults -/
def dflB (df : List (Str × List Int)) (f : Str) (l : List Ex) : Bool := match df.lookup f, intsEx l with
  | some ks, some is => decide (is.length ≤ ks.length) && decide (ks.drop (ks.length - is.length) = is)
  | _, _ => false
theorem dflB_ok {df : List (Str × List Int)} {f : Str} {l : List Ex} (h : dflB df f l = true) : ∃ ks j, df.lookup f = some ks ∧ j ≤ ks.length ∧ l = (ks.drop j).map .int := by
  unfold dflB at h
  split at h
  · rename_i ks is h1 h2
    simp only [Bool.and_eq_true, decide_eq_true_eq] at h
    exact ⟨ks, ks.length - is.length, h1, by omega, by rw [h.2]; exact intsEx_ok h2⟩
  · cases h
/-- one keyword, a written whole number -/
def kwI : List Keyword → Option (Str × Int)
  | [⟨some a, .Constant (.int v) _ _, _⟩] => some (a, v)
  | _ => none
theorem kwI_ok {ks : List Keyword} {a : Str} {v : Int} (h : kwI ks = some (a, v)) : ∃ k p q, ks = [⟨some a, .Constant (.int v) k p, q⟩] := by
  unfold kwI at h
  split at h
  · cases h; exact ⟨_, _, _, rfl⟩
  · cases h
/-- x(y(..)) -/
def rglA : Expr → Option (Str × Str × List Expr)
  | .Call (.Name x _) [.Call (.Name y _) es [] _] [] _ => some (x, y, es)
  | _ => none
theorem rglA_ok {e : Expr} {x y : Str} {es : List Expr} (h : rglA e = some (x, y, es)) : ∃ p p2 pos pos2, e = .Call (.Name x p) [.Call (.Name y p2) es [] pos2] [] pos := by
  unfold rglA at h
  split at h
  · cases h; exact ⟨_, _, _, _, rfl⟩
  · cases h
/-- e[::-1] -/
def revA : Expr → Option Expr
  | .Subscript e (.Slice none none (some (.UnaryOp .USub (.Constant (.int 1) _ _) _)) _) _ => some e
  | _ => none
theorem revA_ok {e e0 : Expr} (h : revA e = some e0) : ∃ k p1 p2 p3 pos, e = .Subscript e0 (.Slice none none (some (.UnaryOp .USub (.Constant (.int 1) k p1) p2)) p3) pos := by
  unfold revA at h
  split at h
  · cases h; exact ⟨_, _, _, _, _, rfl⟩
  · cases h
mutual
def mE : Ex → MC → Bool → Expr → Bool
  | .var i, m, _, .Name x _ => decide (m.N[i]? = some x) && visB m.sc x && ndbg x
  | .glo g, m, _, .Name x _ => decide (g = x) && glB m.sc x
  | .non, _, _, .Constant .none _ _ => true
  | .bl b, _, _, .Constant (.bool c) _ _ => decide (b = c)
  | .int i, _, _, .Constant (.int j) _ _ => decide (i = j)
  | .str x, _, _, .Constant (.str y) _ _ => decide (x = y)
  | .tup l, m, _, .Tuple es _ _ => mL l m es
  | .lst l, m, _, .List es _ => mL l m es
  | .bin o a b, m, _, .BinOp a' o' b' _ => decide (opB o = o') && mE a m false a' && mE b m false b'
  | .neg a, m, _, .UnaryOp .USub a' _ => mE a m false a'
  | .cmp o a b, m, _, .Compare a' [o'] [b'] _ => decide (opC o = o') && !behindInMarks o' b' && mE a m false a' && mE b m false b'
  | .not a, m, t, .UnaryOp .Not a' _ => mE a m t a'
  | .bop k a b, m, t, .BoolOp op (a' :: b' :: r) pos => decide (op = (if k then .And else .Or)) && mE a m t a' && mE b m t (match r with | [] => b' | _ => .BoolOp op (b' :: r) pos)
  | .ite c a b, m, false, .IfExp c' a' b' _ => mE c m true c' && mE a m false a' && mE b m false b'
  | .idx a i, m, _, .Subscript a' i' _ => nsl i' && mE a m false a' && mE i m false i'
  | .sli a lo hi, m, _, .Subscript a' (.Slice l h none _) _ => mE a m false a' && mO lo m l && mO hi m h
  | .att a f, m, _, .Attribute a' f' _ => decide (f = f') && nsup a' && mE a m false a'
  | .call f l, m, _, .Call (.Name x _) es ks _ => decide (f = x) && glB m.sc x && (match ks with
    | [] => mL l m es || (!es.isEmpty && mLP l f m es)
    | _ => match kwI ks with
      | some (a, v) => !es.isEmpty && decide (m.kw.lookup x = some a) && mLK l m es v
      | none => false)
  | .mv i, m, _, .Name x _ => decide (m.N[i]? = some x) && visB m.sc x && ndbg x
  | .make f l, m, _, .Call (.Name x _) es [] _ => decide (f = x) && glB m.sc x && mL l m es
  | .bi b l, m, _, .Call (.Name x _) (e :: es) [] _ => decide (biN b = x) && glB m.sc x && mL l m (e :: es)
  | .bm b o l, m, _, .Call (.Attribute o' m' apos) es [] cpos => bmOk b o o' && decide (bmN b = m') && nsup o' && (apos.endLine == cpos.line) && decide (es.length < 25) && mE o m false o' && mL l m es
  | .dic t ks vs, m, _, .Dict keys values _ => mKs ks keys && decide (keys.length = values.length) && decide (keys.length ≤ 15) && !(t && !ks.isEmpty) && mL vs m values
  | .meth o f l, m, _, .Call (.Attribute o' f' apos) es [] cpos => decide (f = f') && nsup o' && (apos.endLine == cpos.line) && decide (es.length < 25) && mE o m false o' && mL l m es
  | .isi a tup ts, m, _, .Call (.Name x _) [a', c] [] _ => decide (x = "isinstance") && glB m.sc x && nst a' && nst c && mE a m false a' && mTy m tup ts c
  | .lc t own e it g c, m, _, .ListComp elt [⟨tg, iter, ifs, 0⟩] scope _ => nset iter && decide (m.N.length ≤ g) && blkC m.N m.sc scope (ownN m own) && ((tgIx t).all fun i => own.contains i) && mTg (m.blk scope) t tg && mI it m (isTup tg) iter && mE e (m.blk scope) false elt && mC c (m.blk scope) ifs
  | .rgl a, m, _, e => (match rglA e with
    | some (x, y, [e0]) => decide (x = "list") && decide (y = "range") && glB m.sc x && glB m.sc y && nst e0 && mE a m false e0
    | _ => false)
  | .rg2 a b, m, _, e => (match rglA e with
    | some (x, y, [e0, e1]) => decide (x = "list") && decide (y = "range") && glB m.sc x && glB m.sc y && nst e0 && nst e1 && mE a m false e0 && mE b m false e1
    | _ => false)
  | .rev a, m, _, e => (match revA e with
    | some e0 => mE a m false e0
    | none => false)
  | .ro a, m, t, e => mE a m t e
  | .fz a, m, t, e => !t && mE a m false e
  | .cmpl k a l, m, _, .Compare a' [o'] [.List es _] _ => decide (opC (if k then .ne else .eq) = o') && mE a m false a' && mL l m es
  | _, _, _, _ => false
def mL : List Ex → MC → List Expr → Bool
  | [], _, [] => true
  | x :: l, m, e :: es => nst e && mE x m false e && mL l m es
  | _, _, _ => false
def mLP : List Ex → Str → MC → List Expr → Bool
  | [], _, _, _ => false
  | x :: l, f, m, [] => dflB m.df f (x :: l)
  | x :: l, f, m, e :: es => nst e && mE x m false e && mLP l f m es
def mLK : List Ex → MC → List Expr → Int → Bool
  | [], _, _, _ => false
  | x :: l, _, [], v => (match x with
    | .int i => decide (i = v) && l.isEmpty
    | _ => false)
  | x :: l, m, e :: es, v => nst e && mE x m false e && mLK l m es v
def mO : List Ex → MC → Option Expr → Bool
  | [], _, none => true
  | x :: _, m, some e => mE x m false e
  | _, _, _ => false
def mC : List Ex → MC → List Expr → Bool
  | [], _, [] => true
  | x :: r, m, [e] => r.isEmpty && mE x m true e
  | _, _, _ => false
def mI : It → MC → Bool → Expr → Bool
  | .ex e, m, _, iter => mE e m false iter
  | .enu e, m, t, .Call (.Name x _) [a] [] _ => t && decide (x = "enumerate") && glB m.sc x && nst a && mE e m false a
  | .zip a b, m, t, .Call (.Name x _) [ea, eb] [] _ => t && decide (x = "zip") && glB m.sc x && nst ea && nst eb && mE a m false ea && mE b m false eb
  | .rng l, m, _, .Call (.Name x _) es [] _ => decide (x = "range") && glB m.sc x && decide (1 ≤ l.length) && decide (l.length ≤ 3) && mL l m es
  | _, _, _, _ => false
end

/-- the built-in names -/
def bltL : List Str := ["len", "int", "str", "tuple", "list", "max", "min", "sum", "sorted", "all", "dict", "bool", "isinstance", "enumerate", "range", "zip"]
structure Fit (T : Tab) (cl cm : CallT) (n : Nat) (X : Cx) (m : MC) : Prop where
  N : X.N = m.N
  n : m.N.length = n
  sc : X.env.scope = m.sc
  fn : X.fn = m.fn
  nd : X.N.Nodup
  calm : X.calm = true
  un : X.A.units + 66 < cLine
  con : ∀ x d, T.con.lookup x = some d → ConOk X x d
  blt : ∀ x ∈ bltL, X.mg x = none
  cls : ClsOk X.K T
  calls : CallsOk X cl cm
  dfs : DflOk X T cl
  df : m.df = T.dfl
  kws : KwOk X T cl
  kw : m.kw = T.kwn
section
variable {T : Tab} {cl cm : CallT} {n : Nat} {X : Cx} {m : MC} {fx : List Nat}
theorem Fit.gl (F : Fit T cl cm n X m) {x : Str} (h : glB m.sc x = true) : Gl X x ∧ (x == ("__debug__" : Str)) = false ∧ x ≠ "__name__" := by
  simp only [glB, ndbg, Bool.and_eq_true, Bool.not_eq_true', decide_eq_true_eq] at h
  refine ⟨?_, h.2.1.1, h.2.2⟩
  show X.env.scope.names.lookup x = _
  rw [F.sc]; exact h.1
/-- the block of a comprehension -/
theorem Fit.blk (F : Fit T cl cm n X m) {scope : Scope} (s : Shared) (H : Hp) (C : Addr) (cls : List (Str × Addr)) (fp : List Addr) : Fit T cl cm n (X.blk s H scope (compEnvC scope cls C X.env) fp) (m.blk scope) where
  N := F.N
  n := F.n
  sc := by
    show relS scope X.env.scope = relS scope m.sc
    rw [F.sc]
  fn := rfl
  nd := F.nd
  calm := F.calm
  un := F.un
  con := F.con
  blt := F.blt
  cls := F.cls
  calls := ⟨F.calls.fn, F.calls.me, F.calls.mke⟩
  dfs := F.dfs
  df := F.df
  kws := F.kws
  kw := F.kw
theorem star1 {e : Expr} {es : List Expr} {env : PySem.Env} (h : nst e = true) : starEach (e :: es) env = (false, eval e env) :: starEach es env := by
  cases e <;> first | rfl | (simp [nst] at h)
theorem mL_star : ∀ {l : List Ex} {es : List Expr} {env : PySem.Env}, mL l m es = true → (starEach es env).all (fun x => !x.1) = true
  | [], [], _, _ => rfl
  | x :: l, e :: es, env, h => by
    simp only [mL, Bool.and_eq_true] at h
    rw [star1 h.1.1]
    simpa using mL_star (env := env) h.2
  | [], _ :: _, _, h => by simp [mL] at h
  | _ :: _, [], _, h => by simp [mL] at h
theorem mL_len : ∀ {l : List Ex} {es : List Expr}, mL l m es = true → l.length = es.length
  | [], [], _ => rfl
  | x :: l, e :: es, h => by
    simp only [mL, Bool.and_eq_true] at h
    simp [mL_len h.2]
  | [], _ :: _, h => by simp [mL] at h
  | _ :: _, [], h => by simp [mL] at h
theorem back_any {es : List Expr} {env : PySem.Env} {pos : Pos} (h : (starEach es env).all (fun x => !x.1) = true) : (backTo pos (starEach es env)).any (·.1) = false := by
  unfold backTo
  rw [List.any_map]
  simp only [List.all_eq_true, Bool.not_eq_true'] at h
  rw [List.any_eq_false]
  intro x hx
  simpa using h x hx
theorem back_all {es : List Expr} {env : PySem.Env} {pos : Pos} (h : (starEach es env).all (fun x => !x.1) = true) : (backTo pos (starEach es env)).all (fun x => !x.1) = true := by
  unfold backTo
  rw [List.all_map]
  simpa using h
theorem base_of {o : Expr} {f : Str} {env : PySem.Env} {w : Sem Value} (h : nsup o = true) : attributeBase o f env w = w := by
  unfold attributeBase
  split
  · simp [nsup] at h
  · rfl
theorem pix {i : Expr} (h : nsl i = true) : PlainIx i := by
  intro o v
  cases i <;> first | rfl | (simp [nsl] at h)
theorem fold_of {i : Expr} {env : PySem.Env} (h : nset i = true) : ∀ x, foldedSetIterable i env x = pure x := by
  intro x
  cases i <;> first | rfl | (simp [nset] at h)
theorem plt {e : Expr} {env : PySem.Env} (h : pltest e = true) : ∀ whole, PySem.isTrue e env whole = (do let v ← whole; standAt e.pos; holding [v] (truthy v)) := by
  intro w
  cases e with
  | UnaryOp op _ _ => cases op <;> first | rfl | (simp [pltest] at h)
  | _ => first | rfl | (simp [pltest] at h)
/-- what a text is shown to be -/
def Sd (T : Tab) (cl cm : CallT) (n : Nat) (X : Cx) (e : Expr) (ee : Ex) : Bool → Prop
  | false => ∀ fx, PE X e (RE T cl cm X.K n fx ee)
  | true => ∀ fx, PT X e (RT T cl cm X.K n fx ee)
theorem Sd.of {e : Expr} {ee : Ex} {t : Bool} (h : ∀ fx, PE X e (RE T cl cm X.K n fx ee)) (hp : pltest e = true) : Sd T cl cm n X e ee t := by
  cases t with
  | false => exact h
  | true => exact fun fx => rt_any (h fx) (plt hp)
theorem mTg_ok (F : Fit T cl cm n X m) {t : Tg} {e : Expr} (h : mTg m t e = true) : PG X e (RG T.al X.K n fx t) ∧ ∀ i ∈ tgIx t, i < n := by
  have nm : ∀ {i : Nat} {x : Str}, nmB m i x = true → X.N[i]? = some x ∧ L2.Loc X.env.scope x ∧ (X.fn x = true ∨ X.env.scope.names.lookup x = some .local) ∧ i < n := fun {i x} h => by
    simp only [nmB, locB, Bool.and_eq_true, Bool.or_eq_true, decide_eq_true_eq] at h
    rw [F.N, F.sc, F.fn]
    refine ⟨h.1.1, h.1.2, h.2, ?_⟩
    rw [← F.n]
    exact (List.getElem?_eq_some_iff.mp h.1.1).1
  have nms : ∀ {is : List Nat} {es : List Expr}, nmsB m is es = true → NmOk X n is es ∧ (assignEach es X.env).length = is.length ∧ (assignEach es X.env).findIdx? (·.1) = none ∧ ∀ i ∈ is, i < n := by
    intro is
    induction is with
    | nil =>
      intro es h
      cases es with
      | nil => exact ⟨.nil, rfl, rfl, by simp⟩
      | cons e es => simp [nmsB] at h
    | cons i is ih =>
      intro es h
      cases es with
      | nil => simp [nmsB] at h
      | cons e es =>
        cases e with
        | Name x p =>
          simp only [nmsB, Bool.and_eq_true] at h
          obtain ⟨h1, h2, h3, h4⟩ := nm h.1
          obtain ⟨g1, g2, g3, g4⟩ := ih h.2
          refine ⟨.cons h1 h2 h3 h4 g1, ?_, ?_, ?_⟩
          · show (_ :: assignEach es X.env).length = _
            simp [g2]
          · show ((false, assign (.Name x p) X.env) :: assignEach es X.env).findIdx? (·.1) = none
            rw [List.findIdx?_cons]
            simp [g3]
          · intro j hj
            rcases List.mem_cons.mp hj with rfl | hj
            · exact h4
            · exact g4 j hj
        | _ => simp [nmsB] at h
  cases t with
  | nm i =>
    cases e with
    | Name x p =>
      obtain ⟨h1, h2, h3, h4⟩ := nm (by simpa [mTg] using h)
      exact ⟨rg_nm F.nd h1 h2 h3 h4, by simpa [tgIx] using h4⟩
    | _ => simp [mTg] at h
  | tp l =>
    cases e with
    | Tuple es k p =>
      simp only [mTg] at h
      split at h
      · rename_i is hi
        obtain ⟨h1, h2, h3, h4⟩ := nms h
        exact ⟨rg_tp F.calm F.nd hi h1 h2 h3, by simpa [tgIx, hi] using h4⟩
      · cases h
    | _ => simp [mTg] at h
  | «at» o f => simp [mTg] at h
  | ix o i => simp [mTg] at h
theorem ty_boot : ∀ t : Ty, (∀ c, t ≠ .own c) → bootBuiltins (tyNm t) = some (.type (tyS t)) ∧ tyNm t ∈ bltL
  | .int, _ => ⟨by decide +kernel, by decide⟩
  | .bool, _ => ⟨by decide +kernel, by decide⟩
  | .str, _ => ⟨by decide +kernel, by decide⟩
  | .tuple, _ => ⟨by decide +kernel, by decide⟩
  | .list, _ => ⟨by decide +kernel, by decide⟩
  | .dict, _ => ⟨by decide +kernel, by decide⟩
  | .own c, h => absurd rfl (h c)
theorem mTys_ok (F : Fit T cl cm n X m) : ∀ {ts : List Ty} {es : List Expr}, mTys m ts es = true → PA X es (tA ts)
  | [], [], _ => pa_nil
  | [], _ :: _, h => by simp [mTys] at h
  | t :: ts, [], h => by cases t <;> simp [mTys] at h
  | t :: ts, e :: es, h => by
    have hno : ∀ c, t ≠ .own c := fun c e0 => by subst e0; simp [mTys] at h
    have h' : ∃ x p, e = .Name x p ∧ x = tyNm t ∧ glB m.sc x = true ∧ mTys m ts es = true := by
      cases t <;> cases e <;> simp_all [mTys]
      all_goals (rw [← h.1.1]; exact h.1.2)
    obtain ⟨x, p, rfl, rfl, hg, hr⟩ := h'
    obtain ⟨g1, g2, g3⟩ := F.gl hg
    obtain ⟨b1, b2⟩ := ty_boot t hno
    exact pa_cons (pe_bltn g1 (F.blt _ b2) b1 (by first | rfl | exact ⟨⟩ | simp [RelV]) g3 g2) (mTys_ok F hr) rfl
theorem bi_boot : ∀ b : Bi, biN b ∈ bltL ∧ ((∃ id, biV b = .builtin id ∧ bootBuiltins (biN b) = some (.builtin id)) ∨ ∃ id, biV b = .type id ∧ bootBuiltins (biN b) = some (.type id))
  | .len => ⟨by decide, .inl ⟨_, rfl, by decide +kernel⟩⟩
  | .int => ⟨by decide, .inr ⟨_, rfl, by decide +kernel⟩⟩
  | .str => ⟨by decide, .inr ⟨_, rfl, by decide +kernel⟩⟩
  | .tuple => ⟨by decide, .inr ⟨_, rfl, by decide +kernel⟩⟩
  | .list => ⟨by decide, .inr ⟨_, rfl, by decide +kernel⟩⟩
  | .max => ⟨by decide, .inl ⟨_, rfl, by decide +kernel⟩⟩
  | .min => ⟨by decide, .inl ⟨_, rfl, by decide +kernel⟩⟩
  | .sum => ⟨by decide, .inl ⟨_, rfl, by decide +kernel⟩⟩
  | .sorted => ⟨by decide, .inl ⟨_, rfl, by decide +kernel⟩⟩
  | .all => ⟨by decide, .inl ⟨_, rfl, by decide +kernel⟩⟩
  | .dict => ⟨by decide, .inr ⟨_, rfl, by decide +kernel⟩⟩
  | .bool => ⟨by decide, .inr ⟨_, rfl, by decide +kernel⟩⟩
mutual
theorem mE_ok : ∀ (ee : Ex) {m : MC} {t : Bool} {e : Expr} {X : Cx}, Fit T cl cm n X m → mE ee m t e = true → Sd T cl cm n X e ee t
  | .var i, m, t, e, X, F, h => by
    cases e with
    | Name x p =>
      simp only [mE, visB, ndbg, Bool.and_eq_true, Bool.or_eq_true, Bool.not_eq_true', decide_eq_true_eq] at h
      obtain ⟨⟨h1, h2⟩, ⟨h3, h4⟩, h5⟩ := h
      refine Sd.of (fun fx => re_var (by rw [F.N]; exact h1) ?_ h3 h4 (by rw [F.N]; exact F.n)) rfl
      show L2.Vis X.env.scope x
      rw [F.sc]
      rcases h2 with (h2 | h2) | h2
      · exact .inl h2
      · exact .inr (.inl h2)
      · exact .inr (.inr h2)
    | _ => simp [mE] at h
  | .glo g, m, t, e, X, F, h => by
    cases e with
    | Name x p =>
      simp only [mE, Bool.and_eq_true, decide_eq_true_eq] at h
      obtain ⟨rfl, h2⟩ := h
      obtain ⟨g1, g2, g3⟩ := F.gl h2
      exact Sd.of (fun fx => re_glo g1 g2 (F.con g)) rfl
    | _ => simp [mE] at h
  | .non, m, t, e, X, F, h => by
    cases e with
    | Constant c j p => cases c <;> first | exact Sd.of (fun fx => re_non) rfl | simp [mE] at h
    | _ => simp [mE] at h
  | .bl b, m, t, e, X, F, h => by
    cases e with
    | Constant c j p =>
      cases c with
      | bool c =>
        simp only [mE, decide_eq_true_eq] at h
        subst h
        exact Sd.of (fun fx => re_bl) rfl
      | _ => simp [mE] at h
    | _ => simp [mE] at h
  | .int i, m, t, e, X, F, h => by
    cases e with
    | Constant c j p =>
      cases c with
      | int c =>
        simp only [mE, decide_eq_true_eq] at h
        subst h
        exact Sd.of (fun fx => re_int) rfl
      | _ => simp [mE] at h
    | _ => simp [mE] at h
  | .str x, m, t, e, X, F, h => by
    cases e with
    | Constant c j p =>
      cases c with
      | str c =>
        simp only [mE, decide_eq_true_eq] at h
        subst h
        exact Sd.of (fun fx => re_str) rfl
      | _ => simp [mE] at h
    | _ => simp [mE] at h
  | .tup l, m, t, e, X, F, h => by
    cases e with
    | Tuple es k p => exact Sd.of (fun fx => re_tup (mL_ok l F (by simpa only [mE] using h) fx)) rfl
    | _ => simp [mE] at h
  | .lst l, m, t, e, X, F, h => by
    cases e with
    | List es p => exact Sd.of (fun fx => re_lst (mL_ok l F (by simpa only [mE] using h) fx)) rfl
    | _ => simp [mE] at h
  | .dic t0 ks vs, m, t, e, X, F, h => by
    cases e with
    | Dict keys values p =>
      simp only [mE, Bool.and_eq_true, decide_eq_true_eq] at h
      obtain ⟨⟨⟨⟨h1, h2⟩, h3⟩, h4⟩, h5⟩ := h
      obtain ⟨kl, hk, hl, hall, hnil, hp⟩ := mKs_ok (X := X) (pos := p) h1
      have hv := mLE_ok vs F h5
      have hlen := mL_len h5
      cases ks with
      | nil =>
        obtain rfl := hnil.mp rfl
        obtain rfl : values = [] := List.eq_nil_of_length_eq_zero (by simpa using h2.symm)
        obtain rfl : vs = [] := List.eq_nil_of_length_eq_zero (by simpa using hlen)
        exact Sd.of (fun fx => re_dic0) rfl
      | cons k ks =>
        have ht : t0 = false := by cases t0 <;> simp_all
        subst ht
        have hne : keys ≠ [] := fun e => by have := hnil.mpr e; cases this
        exact Sd.of (fun fx => re_dic hk (by omega) (hp (hv fx) h2) hall h2 hne h3) rfl
    | _ => simp [mE] at h
  | .bin o a b, m, t, e, X, F, h => by
    cases e with
    | BinOp a' o' b' p =>
      simp only [mE, Bool.and_eq_true, decide_eq_true_eq] at h
      obtain ⟨⟨rfl, h2⟩, h3⟩ := h
      exact Sd.of (fun fx => re_bin (mE_ok a F h2 fx) (mE_ok b F h3 fx)) rfl
    | _ => simp [mE] at h
  | .neg a, m, t, e, X, F, h => by
    cases e with
    | UnaryOp op a' p =>
      cases op with
      | USub =>
        simp only [mE] at h
        exact Sd.of (fun fx => re_neg (mE_ok a F h fx)) rfl
      | _ => simp [mE] at h
    | _ => simp [mE] at h
  | .cmp o a b, m, t, e, X, F, h => by
    cases e with
    | Compare a' os bs p =>
      match os, bs, h with
      | [], _, h => simp [mE] at h
      | _ :: _ :: _, _, h => simp [mE] at h
      | [_], [], h => simp [mE] at h
      | [_], _ :: _ :: _, h => simp [mE] at h
      | [o'], [b'], h =>
        simp only [mE, Bool.and_eq_true, Bool.not_eq_true', decide_eq_true_eq] at h
        obtain ⟨⟨⟨rfl, h1⟩, h2⟩, h3⟩ := h
        cases t with
        | false => exact fun fx => re_cmp F.un (mE_ok a F h2 fx) (mE_ok b F h3 fx) h1
        | true => exact fun fx => rt_cmp F.un (mE_ok a F h2 fx) (mE_ok b F h3 fx) h1
    | _ => simp [mE] at h
  | .chn _ _ _ _ _, m, t, e, X, F, h => by cases e <;> simp [mE] at h
  | .not a, m, t, e, X, F, h => by
    cases e with
    | UnaryOp op a' p =>
      cases op with
      | Not =>
        simp only [mE] at h
        have ih := mE_ok a F h
        cases t with
        | false => exact fun fx => re_not (ih fx)
        | true => exact fun fx => rt_not (ih fx)
      | _ => simp [mE] at h
    | _ => simp [mE] at h
  | .bop k a b, m, t, e, X, F, h => by
    cases e with
    | BoolOp op vs p =>
      match vs, h with
      | [], h => simp [mE] at h
      | [_], h => simp [mE] at h
      | a' :: b' :: r, h =>
        simp only [mE, Bool.and_eq_true, decide_eq_true_eq] at h
        obtain ⟨⟨rfl, h2⟩, h3⟩ := h
        have ia := mE_ok a F h2
        have ib := mE_ok b F h3
        cases t with
        | false =>
          have hb : ∀ fx, PE X (.BoolOp (if k = true then .And else .Or) (b' :: r) p) (RE T cl cm X.K n fx b) := fun fx => by
            cases r with
            | nil => exact ⟨(ib fx).run⟩
            | cons c r => exact ib fx
          cases k with
          | true => exact fun fx => re_and (ia fx) (hb fx)
          | false => exact fun fx => re_or (ia fx) (hb fx)
        | true =>
          cases k with
          | true =>
            have hb : ∀ fx, PW X (.BoolOp .And (b' :: r) p) (RT T cl cm X.K n fx b) := fun fx => by
              cases r with
              | nil => exact pw_and1 (ib fx)
              | cons c r => exact ⟨fun w => (ib fx).run⟩
            exact fun fx => (rw_and (ia fx) (hb fx)).pt
          | false =>
            have hb : ∀ fx, PW X (.BoolOp .Or (b' :: r) p) (RT T cl cm X.K n fx b) := fun fx => by
              cases r with
              | nil => exact pw_or1 (ib fx)
              | cons c r => exact ⟨fun w => (ib fx).run⟩
            exact fun fx => (rw_or (ia fx) (hb fx)).pt
    | _ => simp [mE] at h
  | .ite c a b, m, t, e, X, F, h => by
    cases e with
    | IfExp c' a' b' p =>
      cases t with
      | false =>
        simp only [mE, Bool.and_eq_true] at h
        exact fun fx => re_ite (mE_ok c F h.1.1 fx) (mE_ok a F h.1.2 fx) (mE_ok b F h.2 fx)
      | true => simp [mE] at h
    | _ => cases t <;> simp [mE] at h
  | .idx a i, m, t, e, X, F, h => by
    cases e with
    | Subscript a' i' p =>
      simp only [mE, Bool.and_eq_true] at h
      exact Sd.of (fun fx => re_idx (by have := F.un; omega) (mE_ok a F h.1.2 fx) (mE_ok i F h.2 fx) (pix h.1.1)) rfl
    | _ => simp [mE] at h
  | .sli a lo hi, m, t, e, X, F, h => by
    cases e with
    | Subscript a' i' p =>
      cases i' with
      | Slice l u st p2 =>
        cases st with
        | none =>
          simp only [mE, Bool.and_eq_true] at h
          exact Sd.of (fun fx => re_sli (mE_ok a F h.1.1 fx) (mO_ok lo F h.1.2 fx) (mO_ok hi F h.2 fx)) rfl
        | some _ => simp [mE] at h
      | _ => simp [mE] at h
    | _ => simp [mE] at h
  | .rev a, m, t, e, X, F, h => by
    simp only [mE] at h
    split at h
    · rename_i e0 he
      obtain ⟨k, p1, p2, p3, pos, rfl⟩ := revA_ok he
      exact Sd.of (fun fx => re_rev (mE_ok a F h fx)) rfl
    · cases h
  | .rgl a, m, t, e, X, F, h => by
    simp only [mE] at h
    split at h
    · rename_i x y e0 he
      simp only [Bool.and_eq_true, decide_eq_true_eq] at h
      obtain ⟨⟨⟨⟨⟨rfl, rfl⟩, h2⟩, h3⟩, h4⟩, h5⟩ := h
      obtain ⟨p, p2, pos, pos2, rfl⟩ := rglA_ok he
      obtain ⟨g1, _, _⟩ := F.gl h2
      obtain ⟨g2, _, _⟩ := F.gl h3
      exact Sd.of (fun fx => re_rgl F.calm g1 (F.blt _ (by decide)) g2 (F.blt _ (by decide)) (mE_ok a F h5 fx) (star1 h4)) rfl
    · cases h
  | .rg2 a b, m, t, e, X, F, h => by
    simp only [mE] at h
    split at h
    · rename_i x y e0 e1 he
      simp only [Bool.and_eq_true, decide_eq_true_eq] at h
      obtain ⟨⟨⟨⟨⟨⟨⟨rfl, rfl⟩, h2⟩, h3⟩, h4⟩, h5⟩, h6⟩, h7⟩ := h
      obtain ⟨p, p2, pos, pos2, rfl⟩ := rglA_ok he
      obtain ⟨g1, _, _⟩ := F.gl h2
      obtain ⟨g2, _, _⟩ := F.gl h3
      have s2 : starEach [e1] X.env = (false, eval e1 X.env) :: starEach [] X.env := star1 h5
      exact Sd.of (fun fx => re_rg2 F.calm g1 (F.blt _ (by decide)) g2 (F.blt _ (by decide)) (mE_ok a F h6 fx) (mE_ok b F h7 fx) (star1 h4) s2 (by rw [s2]; rfl)) rfl
    · cases h
  | .att a f, m, t, e, X, F, h => by
    cases e with
    | Attribute a' f' p =>
      simp only [mE, Bool.and_eq_true, decide_eq_true_eq] at h
      obtain ⟨⟨rfl, h2⟩, h3⟩ := h
      exact Sd.of (fun fx => re_att F.cls (mE_ok a F h3 fx) (base_of h2)) rfl
    | _ => simp [mE] at h
  | .call f l, m, t, e, X, F, h => by
    cases e with
    | Call g es ks p =>
      cases g with
      | Name x p2 =>
        cases ks with
        | nil =>
          simp only [mE, Bool.and_eq_true, decide_eq_true_eq] at h
          obtain ⟨⟨rfl, h2⟩, h3⟩ := h
          obtain ⟨g1, g2, g3⟩ := F.gl h2
          rw [Bool.or_eq_true] at h3
          rcases h3 with h3 | h3
          · have hl := mL_ok l F h3
            have hst := mL_star (env := X.env) h3
            match l, es, h3, hl, hst with
            | [], [], h3, hl, hst => exact Sd.of (fun fx => re_call0 F.calls g1 g2) rfl
            | x :: l, e :: es, h3, hl, hst =>
              simp only [mL, Bool.and_eq_true] at h3
              exact Sd.of (fun fx => re_call F.calls g1 g2 (hl fx) (star1 h3.1.1) (back_any (mL_star h3.2))) rfl
            | [], _ :: _, h3, _, _ => simp [mL] at h3
            | _ :: _, [], h3, _, _ => simp [mL] at h3
          · simp only [Bool.and_eq_true] at h3
            obtain ⟨hne, h3⟩ := h3
            obtain ⟨l1, ks, j, rfl, hk, hj, hl, hst⟩ := mLP_ok l F h3
            match es, h3, hl, hst with
            | [], _, _, _ => simp at hne
            | e :: es, h3, hl, hst =>
              have hn1 : nst e = true := by
                cases e <;> first | rfl | (simp [starEach] at hst)
              have hs2 := star1 (es := es) (env := X.env) hn1
              rw [hs2] at hst
              exact Sd.of (fun fx => re_callD F.dfs hk hj g1 g2 (hl fx) hs2 (back_any (by simpa using hst))) rfl
        | cons k0 ks0 =>
          simp only [mE, Bool.and_eq_true, decide_eq_true_eq] at h
          obtain ⟨⟨rfl, h2⟩, h3⟩ := h
          obtain ⟨g1, g2, _⟩ := F.gl h2
          split at h3
          · rename_i a v hkw
            obtain ⟨kk, q1, q2, hks⟩ := kwI_ok hkw
            rw [hks]
            simp only [Bool.and_eq_true, decide_eq_true_eq] at h3
            obtain ⟨⟨hne, hkn⟩, h3⟩ := h3
            obtain ⟨l1, rfl, hl, hst⟩ := mLK_ok l F h3
            match es, h3, hl, hst with
            | [], _, _, _ => simp at hne
            | e :: es, h3, hl, hst =>
              have hn1 : nst e = true := by
                cases e <;> first | rfl | (simp [starEach] at hst)
              exact Sd.of (fun fx => re_callK F.kws (by rw [← F.kw]; exact hkn) g1 g2 (hl fx) (star1 (es := es) (env := X.env) hn1) (back_any hst)) rfl
          · cases h3
      | _ => simp [mE] at h
    | _ => simp [mE] at h
  | .meth o f l, m, t, e, X, F, h => by
    cases e with
    | Call g es ks p =>
      cases g with
      | Attribute o' f' apos =>
        cases ks with
        | nil =>
          simp only [mE, Bool.and_eq_true, decide_eq_true_eq] at h
          obtain ⟨⟨⟨⟨⟨rfl, h2⟩, h3⟩, h4⟩, h5⟩, h6⟩ := h
          have io := mE_ok o F h5
          have hl := mL_ok l F h6
          have hst := mL_star (env := X.env) h6
          have few : ((backTo p (starEach es X.env)).all (fun x => !x.1) && (backToKw p (keywordEach [] X.env)).all (fun x => x.1.isSome)
              && decide (es.length + ([] : List Keyword).length + (if ([] : List Keyword).isEmpty then 0 else 1) < 30)) = true := by
            have hk : ((backToKw p (keywordEach [] X.env)).all fun x => x.1.isSome) = true := rfl
            have hd : decide (es.length + ([] : List Keyword).length + (if ([] : List Keyword).isEmpty then 0 else 1) < 30) = true := decide_eq_true (by show es.length + 0 + 0 < 30; omega)
            rw [back_all hst, hk, hd]
            rfl
          match l, es, h4, h6, hl, hst, few with
          | [], [], h4, h6, hl, hst, few => exact Sd.of (fun fx => re_meth0 F.cls F.calls (io fx) (methRead (base_of h2) few h3)) rfl
          | x :: l, e :: es, h4, h6, hl, hst, few =>
            have h6' := h6
            simp only [mL, Bool.and_eq_true] at h6'
            exact Sd.of (fun fx => re_meth F.cls F.calls (io fx) (hl fx) (methRead (base_of h2) few h3) (star1 h6'.1.1) (back_any (mL_star h6'.2))) rfl
          | [], _ :: _, _, h6, _, _, _ => simp [mL] at h6
          | _ :: _, [], _, h6, _, _, _ => simp [mL] at h6
        | cons => simp [mE] at h
      | _ => simp [mE] at h
    | _ => simp [mE] at h
  | .make f l, m, t, e, X, F, h => by
    cases e with
    | Call g es ks p =>
      cases g with
      | Name x p2 =>
        cases ks with
        | nil =>
          simp only [mE, Bool.and_eq_true, decide_eq_true_eq] at h
          obtain ⟨⟨rfl, h2⟩, h3⟩ := h
          obtain ⟨g1, g2, g3⟩ := F.gl h2
          have hl := mL_ok l F h3
          match l, es, h3, hl with
          | [], [], h3, hl => exact Sd.of (fun fx => re_make0 F.calls g1 g2) rfl
          | x :: l, e :: es, h3, hl =>
            simp only [mL, Bool.and_eq_true] at h3
            exact Sd.of (fun fx => re_make F.calls g1 g2 (hl fx) (star1 h3.1.1) (back_any (mL_star h3.2))) rfl
          | [], _ :: _, h3, _ => simp [mL] at h3
          | _ :: _, [], h3, _ => simp [mL] at h3
        | cons => simp [mE] at h
      | _ => simp [mE] at h
    | _ => simp [mE] at h
  | .bi b l, m, t, e, X, F, h => by
    cases e with
    | Call g es ks p =>
      cases g with
      | Name x p2 =>
        cases es with
        | nil => simp [mE] at h
        | cons e es =>
          cases ks with
          | nil =>
            simp only [mE, Bool.and_eq_true, decide_eq_true_eq] at h
            obtain ⟨⟨rfl, h2⟩, h3⟩ := h
            obtain ⟨g1, g2, g3⟩ := F.gl h2
            have hl := mL_ok l F h3
            have hlen := mL_len h3
            match l, h3, hl, hlen with
            | [], _, _, hlen => simp at hlen
            | x :: l, h3, hl, _ =>
              simp only [mL, Bool.and_eq_true] at h3
              obtain ⟨b1, b2⟩ := bi_boot b
              rcases b2 with ⟨id, c1, c2⟩ | ⟨id, c1, c2⟩
              · exact Sd.of (fun fx => re_biB F.calm c1 g1 (F.blt _ b1) c2 (hl fx) g3 g2 (star1 h3.1.1) (back_any (mL_star h3.2))) rfl
              · exact Sd.of (fun fx => re_biT F.calm c1 g1 (F.blt _ b1) c2 (hl fx) g3 g2 (star1 h3.1.1) (back_any (mL_star h3.2))) rfl
          | cons => simp [mE] at h
      | _ => simp [mE] at h
    | _ => simp [mE] at h
  | .bm b o l, m, t, e, X, F, h => by
    cases e with
    | Call g es ks p =>
      cases g with
      | Attribute o' m' apos =>
        cases ks with
        | nil =>
          simp only [mE, Bool.and_eq_true, decide_eq_true_eq] at h
          obtain ⟨⟨⟨⟨⟨⟨h1, rfl⟩, h2⟩, h3⟩, h4⟩, h5⟩, h6⟩ := h
          have io := mE_ok o F h5
          have hl := mL_ok l F h6
          have hst := mL_star (env := X.env) h6
          have h1' : bmGo b = true ∨ ∃ g p, b = .indexT ∧ o = .glo g ∧ o' = .Name g p := by
            unfold bmOk at h1
            split at h1
            · rename_i g x p
              have : g = x := of_decide_eq_true h1
              subst this
              exact .inr ⟨g, p, rfl, rfl, rfl⟩
            · exact .inl h1
          rcases h1' with h1 | ⟨g, p9, rfl, rfl, rfl⟩
          case inr =>
            simp only [mE, Bool.and_eq_true, decide_eq_true_eq] at h5
            obtain ⟨g1, g2, g3⟩ := F.gl h5.2
            match l, es, h4, h6, hl, hst with
            | [], [], h4, h6, hl, hst =>
              refine Sd.of (fun fx => ⟨fun pins s σ H Q I q => ?_⟩) rfl
              exfalso
              obtain ⟨ρ, η, γ, Z, G, hn, rs, w, o, ρ', ev, q⟩ := q
              simp only [evalO] at ev
              obtain ⟨x, ρ1, e1, e2⟩ := Res.bind_ok ev
              split at e2
              · split at e2
                · obtain ⟨os, ρ2, e3, e4⟩ := Res.bind_ok e2
                  simp only [evalOs] at e3
                  cases e3
                  split at e4
                  · split at e4
                    · simp only [Bm.isP, if_true, rdAll, bmP] at e4
                      rename_i d hd
                      cases d <;> simp [tixD, Res.of] at e4
                    · cases e4
                  · cases e4
                · cases e2
              · cases e2
            | x :: l, e :: es, h4, h6, hl, hst =>
              have h6' := h6
              simp only [mL, Bool.and_eq_true] at h6'
              refine Sd.of (fun fx => re_bmIx g1 g2 (F.con g) (hl fx) (base_of h2) ?_ h3 (star1 h6'.1.1) (back_any (mL_star h6'.2))) rfl
              rw [back_all hst]
              simp only [Bool.true_and, Bool.and_eq_true, decide_eq_true_eq]
              refine ⟨rfl, ?_⟩
              simp only [List.length_cons, List.length_nil, List.isEmpty_nil, if_true] at h4 ⊢
              omega
            | [], _ :: _, _, h6, _, _ => simp [mL] at h6
            | _ :: _, [], _, h6, _, _ => simp [mL] at h6
          case inl =>
            match l, es, h4, h6, hl, hst with
            | [], [], h4, h6, hl, hst => exact Sd.of (fun fx => re_bm0 h1 F.un (io fx) (base_of h2) h3) rfl
            | x :: l, e :: es, h4, h6, hl, hst =>
              have h6' := h6
              simp only [mL, Bool.and_eq_true] at h6'
              refine Sd.of (fun fx => re_bm h1 F.un (io fx) (hl fx) (base_of h2) ?_ h3 (star1 h6'.1.1) (back_any (mL_star h6'.2))) rfl
              rw [back_all hst]
              simp only [Bool.true_and, Bool.and_eq_true, decide_eq_true_eq]
              refine ⟨rfl, ?_⟩
              simp only [List.length_cons, List.length_nil, List.isEmpty_nil, if_true] at h4 ⊢
              omega
            | [], _ :: _, _, h6, _, _ => simp [mL] at h6
            | _ :: _, [], _, h6, _, _ => simp [mL] at h6
        | cons => simp [mE] at h
      | _ => simp [mE] at h
    | _ => simp [mE] at h
  | .isi a tup ts, m, t, e, X, F, h => by
    cases e with
    | Call g es ks p =>
      cases g with
      | Name x p2 =>
        match es, ks, h with
        | [a', c], [], h =>
          simp only [mE, Bool.and_eq_true, decide_eq_true_eq] at h
          obtain ⟨⟨⟨⟨⟨rfl, h1⟩, h2⟩, h3⟩, h4⟩, h5⟩ := h
          obtain ⟨g1, g2, g3⟩ := F.gl h1
          have ia := mE_ok a F h4
          have hm := F.blt "isinstance" (by decide)
          cases tup with
          | false =>
            match ts, h5 with
            | [ty], h5 =>
              simp only [mTy] at h5
              have hc : PE X c (tC (.ty (tyS ty))) := by
                have hno : ∀ c, ty ≠ .own c := fun c e0 => by subst e0; simp [mTys] at h5
                have h' : ∃ x p, c = .Name x p ∧ x = tyNm ty ∧ glB m.sc x = true := by
                  cases ty <;> cases c <;> simp_all [mTys]
                  all_goals (rw [← h5.1]; exact h5.2)
                obtain ⟨x, p, rfl, rfl, hg⟩ := h'
                obtain ⟨k1, k2, k3⟩ := F.gl hg
                obtain ⟨b1, b2⟩ := ty_boot ty hno
                exact pe_bltn k1 (F.blt _ b2) b1 (by first | rfl | exact ⟨⟩ | simp [RelV]) k3 k2
              exact Sd.of (fun fx => re_isi1 g1 hm (ia fx) hc (star1 h2) (star1 h3)) rfl
            | [], h5 => simp [mTy] at h5
            | _ :: _ :: _, h5 => simp [mTy] at h5
          | true =>
            cases c with
            | Tuple es k p =>
              simp only [mTy, Bool.and_eq_true, Bool.not_eq_true', decide_eq_true_eq] at h5
              have hc := pe_tup (x1 := k) (pos := p) (mTys_ok F h5.2)
              exact Sd.of (fun fx => re_isiN (by intro e0; subst e0; simp at h5) h5.1.2 g1 hm (ia fx) hc (star1 h2) (star1 h3)) rfl
            | _ => simp [mTy] at h5
        | [], _, h => simp [mE] at h
        | [_], _, h => simp [mE] at h
        | _ :: _ :: _ :: _, _, h => simp [mE] at h
        | [_, _], _ :: _, h => simp [mE] at h
      | _ => simp [mE] at h
    | _ => simp [mE] at h
  | .lc tg0 own e0 it g c, m, t, e, X, F, h => by
    cases e with
    | ListComp elt gs scope p =>
      match gs, h with
      | [], h => simp [mE] at h
      | _ :: _ :: _, h => simp [mE] at h
      | [⟨tg, iter, ifs, k⟩], h =>
        by_cases hk : k = 0
        case neg => simp [mE, hk] at h
        case pos =>
          subst hk
          simp only [mE, Bool.and_eq_true, decide_eq_true_eq, List.all_eq_true] at h
          obtain ⟨⟨⟨⟨⟨⟨⟨h1, h2⟩, h3⟩, h4⟩, h5⟩, h6⟩, h7⟩, h8⟩ := h
          have ow : (ownN m own).map (·.2) = own := by simp [ownN, Function.comp_def]
          rw [F.n] at h2
          have := fun fx => re_lc (T := T) (cl := cl) (cm := cm) (n := n) (fx := fx) (X := X) (elt := elt) (pos := p) (own := ownN m own) (t := tg0) (e := e0) (c := c) F.calm F.nd (by rw [F.N]; exact F.n) h2 (mI_ok it h2 F h6 fx tg (fun z => z)) (by rw [F.N, F.sc]; exact blkOk_by h3)
            (by rw [ow]; exact fun i hi => by simpa using h4 i hi) (fun s H C cls fp fx => (mTg_ok (F.blk s H C cls fp) h5).1) (fun s H C cls fp fx => mC_ok c (F.blk s H C cls fp) h8 fx) (fun s H C cls fp fx => mE_ok e0 (F.blk s H C cls fp) h7 fx) (fold_of h1)
          rw [ow] at this
          exact Sd.of this rfl
    | _ => simp [mE] at h
  | .mv i, m, t, e, X, F, h => by
    cases e with
    | Name x p =>
      simp only [mE, visB, ndbg, Bool.and_eq_true, Bool.or_eq_true, Bool.not_eq_true', decide_eq_true_eq] at h
      obtain ⟨⟨h1, h2⟩, ⟨h3, h4⟩, h5⟩ := h
      refine Sd.of (fun fx => re_mv (by rw [F.N]; exact h1) ?_ h3 h4 (by rw [F.N]; exact F.n)) rfl
      show L2.Vis X.env.scope x
      rw [F.sc]
      rcases h2 with (h2 | h2) | h2
      · exact .inl h2
      · exact .inr (.inl h2)
      · exact .inr (.inr h2)
    | _ => simp [mE] at h
  | .fz a, m, t, e, X, F, h => by
    simp only [mE, Bool.and_eq_true, Bool.not_eq_true'] at h
    obtain ⟨rfl, h⟩ := h
    exact fun fx => re_fz (mE_ok a F h fx)
  | .cmpl k a l, m, t, e, X, F, h => by
    cases e with
    | Compare a' os bs p =>
      match os, bs, h with
      | [], _, h => simp [mE] at h
      | _ :: _ :: _, _, h => simp [mE] at h
      | [_], [], h => simp [mE] at h
      | [_], _ :: _ :: _, h => simp [mE] at h
      | [o'], [b'], h =>
        cases b' with
        | List es p2 =>
          simp only [mE, Bool.and_eq_true, decide_eq_true_eq] at h
          obtain ⟨⟨rfl, h1⟩, h2⟩ := h
          cases t with
          | false => exact fun fx => re_cmpl F.un (mE_ok a F h1 fx) (mL_ok l F h2 fx)
          | true => exact fun fx => rt_cmpl F.un (mE_ok a F h1 fx) (mL_ok l F h2 fx)
        | _ => simp [mE] at h
    | _ => simp [mE] at h
  | .ro a, m, t, e, X, F, h => by
    have ih := mE_ok a F (by simpa only [mE] using h)
    have conv : ∀ (fx : List Nat) (ρ : Env), evalO T cl cm (.ro a) fx ρ = evalO T cl cm a fx ρ := fun fx ρ => by simp only [evalO]
    have pu : (Ex.ro a).pur = a.pur := by simp [Ex.pur]
    cases t with
    | false => exact fun fx => (ih fx).imp fun σ H Q ⟨ρ, η, γ, Z, G, hn, rs, w, o, ρ', ev, q⟩ => ⟨ρ, η, γ, Z, G, hn, rs, w, o, ρ', by rw [← conv]; exact ev, by rw [pu] at q; exact q⟩
    | true => exact fun fx => (ih fx).imp fun σ H Q ⟨ρ, η, γ, Z, G, hn, rs, w, o, ρ', ev, q⟩ => ⟨ρ, η, γ, Z, G, hn, rs, w, o, ρ', by rw [← conv]; exact ev, by rw [pu] at q; exact q⟩
theorem mL_ok : ∀ (l : List Ex) {m : MC} {es : List Expr} {X : Cx}, Fit T cl cm n X m → mL l m es = true → ∀ fx, PA X es (RA T cl cm X.K n fx l)
  | [], m, es, X, F, h, fx => by
    cases es with
    | nil => exact ra_nil
    | cons => simp [mL] at h
  | x :: l, m, es, X, F, h, fx => by
    cases es with
    | nil => simp [mL] at h
    | cons e es =>
      simp only [mL, Bool.and_eq_true] at h
      exact ra_cons (mE_ok x F h.1.2 fx) (mL_ok l F h.2 fx) (star1 h.1.1)
theorem mLE_ok : ∀ (l : List Ex) {m : MC} {es : List Expr} {X : Cx}, Fit T cl cm n X m → mL l m es = true → ∀ fx, All2 (fun e t => PE X e t) es (l.map (RE T cl cm X.K n fx))
  | [], m, es, X, F, h, fx => by
    cases es with
    | nil => exact .nil
    | cons => simp [mL] at h
  | x :: l, m, es, X, F, h, fx => by
    cases es with
    | nil => simp [mL] at h
    | cons e es =>
      simp only [mL, Bool.and_eq_true] at h
      exact .cons (mE_ok x F h.1.2 fx) (mLE_ok l F h.2 fx)
theorem mLP_ok : ∀ (l : List Ex) {f : Str} {m : MC} {es : List Expr} {X : Cx}, Fit T cl cm n X m → mLP l f m es = true → ∃ l1 ks j, l = l1 ++ (List.drop j ks).map .int ∧ T.dfl.lookup f = some ks ∧ j ≤ ks.length ∧ (∀ fx, PA X es (RA T cl cm X.K n fx l1)) ∧ (starEach es X.env).all (fun x => !x.1) = true
  | [], f, m, es, X, F, h => by simp [mLP] at h
  | x :: l, f, m, es, X, F, h => by
    cases es with
    | nil =>
      simp only [mLP] at h
      obtain ⟨ks, j, h1, h2, h3⟩ := dflB_ok h
      exact ⟨[], ks, j, h3, by rw [← F.df]; exact h1, h2, fun fx => ra_nil, rfl⟩
    | cons e es =>
      simp only [mLP, Bool.and_eq_true] at h
      obtain ⟨l1, ks, j, e1, h1, h2, h3, h4⟩ := mLP_ok l F h.2
      refine ⟨x :: l1, ks, j, by rw [e1]; rfl, h1, h2, fun fx => ra_cons (mE_ok x F h.1.2 fx) (h3 fx) (star1 h.1.1), ?_⟩
      rw [star1 h.1.1]
      simpa using h4
theorem mLK_ok : ∀ (l : List Ex) {m : MC} {es : List Expr} {X : Cx} {v : Int}, Fit T cl cm n X m → mLK l m es v = true → ∃ l1, l = l1 ++ [v].map .int ∧ (∀ fx, PA X es (RA T cl cm X.K n fx l1)) ∧ (starEach es X.env).all (fun x => !x.1) = true
  | [], m, es, X, v, F, h => by simp [mLK] at h
  | x :: l, m, es, X, v, F, h => by
    cases es with
    | nil =>
      simp only [mLK] at h
      cases x with
      | int i =>
        simp only [Bool.and_eq_true, decide_eq_true_eq, List.isEmpty_iff] at h
        obtain ⟨rfl, rfl⟩ := h
        exact ⟨[], rfl, fun fx => ra_nil, rfl⟩
      | _ => cases h
    | cons e es =>
      simp only [mLK, Bool.and_eq_true] at h
      obtain ⟨l1, e1, h3, h4⟩ := mLK_ok l F h.2
      refine ⟨x :: l1, by rw [e1]; rfl, fun fx => ra_cons (mE_ok x F h.1.2 fx) (h3 fx) (star1 h.1.1), ?_⟩
      rw [star1 h.1.1]
      simpa using h4
theorem mO_ok : ∀ (l : List Ex) {m : MC} {e : Option Expr} {X : Cx}, Fit T cl cm n X m → mO l m e = true → ∀ fx, PO X e (RP T cl cm X.K n fx l)
  | [], m, e, X, F, h, fx => by
    cases e with
    | none => exact rp_none
    | some e => simp [mO] at h
  | x :: l, m, e, X, F, h, fx => by
    cases e with
    | none => simp [mO] at h
    | some e =>
      simp only [mO] at h
      exact rp_some (mE_ok x F h fx)
theorem mC_ok : ∀ (l : List Ex) {m : MC} {es : List Expr} {X : Cx}, Fit T cl cm n X m → mC l m es = true → ∀ fx, PTs X es (RC T cl cm X.K n fx l)
  | [], m, es, X, F, h, fx => by
    cases es with
    | nil => exact rc_nil
    | cons => simp [mC] at h
  | x :: l, m, es, X, F, h, fx => by
    match es, h with
    | [], h => simp [mC] at h
    | _ :: _ :: _, h => simp [mC] at h
    | [e], h =>
      simp only [mC, Bool.and_eq_true, List.isEmpty_iff] at h
      obtain ⟨rfl, h2⟩ := h
      exact rc_one (mE_ok x F h2 fx)
theorem mI_ok : ∀ (it : It) {m : MC} {b : Bool} {iter : Expr} {X : Cx} {g : Nat}, n ≤ g → Fit T cl cm n X m → mI it m b iter = true → ∀ fx (tg : Expr), (b = true → isTup tg = true) → PI X tg iter (RI T cl cm X.K n fx it g)
  | .ex e, m, b, iter, X, g, hg, F, h, fx, tg, ht => by
    simp only [mI] at h
    exact ri_ex (mE_ok e F h fx) hg
  | .enu e, m, b, iter, X, g, hg, F, h, fx, tg, ht => by
    cases iter with
    | Call f es ks p =>
      cases f with
      | Name x p2 =>
        match es, ks, h with
        | [a], [], h =>
          simp only [mI, Bool.and_eq_true, decide_eq_true_eq] at h
          obtain ⟨⟨⟨⟨h1, rfl⟩, h2⟩, h3⟩, h4⟩ := h
          obtain ⟨g1, g2, g3⟩ := F.gl h2
          have := ht h1
          cases tg with
          | Tuple elts k tp => exact ri_enu g1 (F.blt _ (by decide)) (mE_ok e F h4 fx) (star1 h3) hg
          | _ => simp [isTup] at this
        | [], _, h => simp [mI] at h
        | _ :: _ :: _, _, h => simp [mI] at h
        | [_], _ :: _, h => simp [mI] at h
      | _ => simp [mI] at h
    | _ => simp [mI] at h
  | .zip ea eb, m, b, iter, X, g, hg, F, h, fx, tg, ht => by
    cases iter with
    | Call f es ks p =>
      cases f with
      | Name x p2 =>
        match es, ks, h with
        | [a, c], [], h =>
          simp only [mI, Bool.and_eq_true, decide_eq_true_eq] at h
          obtain ⟨⟨⟨⟨⟨⟨h1, rfl⟩, h2⟩, h3⟩, h4⟩, h5⟩, h6⟩ := h
          obtain ⟨g1, g2, g3⟩ := F.gl h2
          have := ht h1
          cases tg with
          | Tuple elts k tp => exact ri_zip g1 (F.blt _ (by decide)) (mE_ok ea F h5 fx) (mE_ok eb F h6 fx) (star1 h3) (star1 h4) hg
          | _ => simp [isTup] at this
        | [], _, h => simp [mI] at h
        | [_], _, h => simp [mI] at h
        | _ :: _ :: _ :: _, _, h => simp [mI] at h
        | [_, _], _ :: _, h => simp [mI] at h
      | _ => simp [mI] at h
    | _ => simp [mI] at h
  | .rng l, m, b, iter, X, g, hg, F, h, fx, tg, ht => by
    cases iter with
    | Call f es ks p =>
      cases f with
      | Name x p2 =>
        cases ks with
        | cons => simp [mI] at h
        | nil =>
          simp only [mI, Bool.and_eq_true, decide_eq_true_eq] at h
          obtain ⟨⟨⟨⟨rfl, h2⟩, h3⟩, h4⟩, h5⟩ := h
          obtain ⟨g1, g2, g3⟩ := F.gl h2
          have hm := F.blt "range" (by decide)
          have hl := mL_ok l F h5 fx
          have hlen := mL_len h5
          match l, es, hl, h5, hlen, h3, h4 with
          | [x], [a], hl, h5, _, _, _ =>
            simp only [mL, Bool.and_eq_true] at h5
            exact ri_rng1 g1 hm hl (star1 h5.1.1)
          | [x, y], [a, c], hl, h5, _, _, _ =>
            simp only [mL, Bool.and_eq_true] at h5
            exact ri_rng2 g1 hm hl (by rw [star1 h5.1.1, star1 h5.2.1.1]; rfl) (star1 h5.2.1.1)
          | [x, y, z], [a, c, d], hl, h5, _, _, _ =>
            simp only [mL, Bool.and_eq_true] at h5
            exact ri_rng3 g1 hm hl (star1 h5.1.1) (by rw [star1 h5.2.1.1, star1 h5.2.2.1.1]; rfl)
          | [], _, _, _, _, h3, _ => simp at h3
          | _ :: _ :: _ :: _ :: _, _, _, _, _, _, h4 => simp at h4
          | [_], [], _, _, hlen, _, _ => simp at hlen
          | [_], _ :: _ :: _, _, _, hlen, _, _ => simp at hlen
          | [_, _], [], _, _, hlen, _, _ => simp at hlen
          | [_, _], [_], _, _, hlen, _, _ => simp at hlen
          | [_, _], _ :: _ :: _ :: _, _, _, hlen, _, _ => simp at hlen
          | [_, _, _], [], _, _, hlen, _, _ => simp at hlen
          | [_, _, _], [_], _, _, hlen, _, _ => simp at hlen
          | [_, _, _], [_, _], _, _, hlen, _, _ => simp at hlen
          | [_, _, _], _ :: _ :: _ :: _ :: _, _, _, hlen, _, _ => simp at hlen
      | _ => simp [mI] at h
    | _ => simp [mI] at h
end
end
end Pv

/-! Pv, part R: statements and defs matched; a def's promise. -/
namespace Pv
open PySem PySem.Spec PyProof.Rows L2
def ncomp : Expr → Bool
  | .ListComp _ _ _ _ => false
  | .SetComp _ _ _ _ => false
  | .DictComp _ _ _ _ _ => false
  | _ => true
def ntup : Expr → Bool
  | .Tuple _ _ _ => false
  | _ => true
/-- the target of name = [..] is stored within the comprehension -/
def swB (m : MC) (x : Str) (py : Pos) : Expr → Bool
  | .ListComp _ _ scope pos => decide (m.sc.kind = .function) && decide (m.sc.names.lookup x = some .local) && (py.line == pos.line) && !(scope.names.any fun (n, k) => n == x && (k == .local || k == .cell))
  | _ => false
/-- a name that inner blocks see -/
def celB (m : MC) (x : Str) : Bool := decide (m.sc.names.lookup x = some .cell)
def isSt : Expr → Bool
  | .Starred .. => true
  | _ => false
theorem st_no : ∀ e : Expr, nst e = true → isSt e = false := fun e h => by cases e <;> first | rfl | cases h
theorem sw_par {x y : Str} {a b : Expr} {px py pt : Pos} {kt k2 : Nat} {pt2 : Pos} {env : PySem.Env} (hxy : x ≠ y) (hx : env.scope.names.lookup x = some .local) (hy : env.scope.names.lookup y = some .local) (hk : env.scope.kind = .function) (hl : (px.line == py.line) = true)
    (hf : (foldedForSure 8 a && foldedForSure 8 b) = false) (hc : (constantsAlone 8 a && constantsAlone 8 b) = false) (ha : nst a = true) (hb : nst b = true) :
    swappedStores [.Tuple [.Name x px, .Name y py] kt pt] (.Tuple [a, b] k2 pt2) env = pure (some [x, y]) := by
  have hbk : env.blockKind = .function := by unfold PySem.Env.blockKind; rw [hk]; rfl
  have k1 : (env.kindOf x == some .local) = true := by
    have : env.kindOf x = some .local := hx
    rw [this]; rfl
  have k2 : (env.kindOf y == some .local) = true := by
    have : env.kindOf y = some .local := hy
    rw [this]; rfl
  have hl' : (py.line == px.line) = true := by
    have := eq_of_beq hl
    rw [this]; exact beq_self_eq_true _
  have hs : ([a, b].any fun | .Starred .. => true | _ => false) = false := by
    show (isSt a || (isSt b || false)) = false
    rw [st_no a ha, st_no b hb]; rfl
  have hne : (y == x) = false := beq_eq_false_iff_ne.mpr (Ne.symm hxy)
  have hne2 : (x == y) = false := beq_eq_false_iff_ne.mpr hxy
  have he : ([x, y].eraseDups).length = 2 := by
    simp only [List.eraseDups, List.eraseDupsBy, List.eraseDupsBy.loop, List.any_nil, List.any_cons, hne, hne2, Bool.or_false, List.reverse_cons, List.reverse_nil, List.nil_append, List.cons_append, List.length_cons, List.length_nil]
  have hn : ([Expr.Name x px, Expr.Name y py].filterMap fun
    | .Name id pos => if env.kindOf id == some .local && pos.line == px.line then some id else none
    | _ => none) = [x, y] := by
    simp only [List.filterMap_cons, List.filterMap_nil, k1, k2, hl', beq_self_eq_true, Bool.and_self, if_true]
  have hf' : ([a, b].all (foldedForSure 8)) = false := by simp only [List.all_cons, List.all_nil, Bool.and_true]; exact hf
  have hc' : ([a, b].all (constantsAlone 8)) = false := by simp only [List.all_cons, List.all_nil, Bool.and_true]; exact hc
  unfold swappedStores
  show (do
    if !(([Expr.Name x px, Expr.Name y py]).length == 2 || ([Expr.Name x px, Expr.Name y py]).length == 3) || [a, b].length != ([Expr.Name x px, Expr.Name y py]).length || env.blockKind != .function then return none
    if [a, b].any fun | .Starred .. => true | _ => false then return none
    let names := ([Expr.Name x px, Expr.Name y py].filterMap fun
      | .Name id pos => if env.kindOf id == some .local && pos.line == px.line then some id else none
      | _ => none)
    if names.length != ([Expr.Name x px, Expr.Name y py]).length || names.eraseDups.length != names.length then return none
    if [a, b].all (foldedForSure 8) then return none
    if [a, b].all (constantsAlone 8) then unsupported "assign.tuple-of-constant-expressions:order-of-the-stores"
    return some names : Sem (Option (List Str))) = _
  simp only [hbk, hs, hn, he, hf', hc']
  rfl
/-- a pair stored from a pair -/
def parB (m : MC) : Tg → List Expr → Ex → Expr → Bool
  | .tp [.nm i, .nm j], [.Name x px, .Name y py], .tup [ea, eb], .Tuple [a, b] _ _ => decide (i ≠ j) && decide (m.N[i]? = some x) && decide (m.N[j]? = some y) && decide (x ≠ y) && decide (m.sc.names.lookup x = some .local) && decide (m.sc.names.lookup y = some .local) && decide (m.sc.kind = .function) && (px.line == py.line) &&
      !(foldedForSure 8 a && foldedForSure 8 b) && !(constantsAlone 8 a && constantsAlone 8 b) && nst a && nst b
  | _, _, _, _ => false
def isLc : Ex → Bool
  | .lc _ _ _ _ _ _ => true
  | _ => false
def mAsg1 (m : MC) (e : Ex) (v : Expr) : Tg → Expr → Bool
  | .nm i, .Name x p => nmB m i x && ((ncomp v || celB m x) || (isLc e && swB m x p v)) && mE e m false v
  | .tp l, .Tuple es k p => if parB m (.tp l) es e v then mE e m false v else (ntup v || decide (4 ≤ es.length)) && mTg m (.tp l) (.Tuple es k p) && mE e m false v
  | .at o f, .Attribute o' f' _ => decide (f = f') && mE o m false o' && mE e m false v
  | .ix o i, .Subscript o' i' _ => ncomp v && nsl i' && mE o m false o' && mE i m false i' && mE e m false v
  | _, _ => false
def mAsg (m : MC) (t : Tg) (e : Ex) (ts : List Expr) (v : Expr) : Bool := match ts with
  | [tg] => mAsg1 m e v t tg
  | _ => false
mutual
def mS : Sx → MC → Stmt → Bool
  | .pass, _, .Pass _ => true
  | .pass, _, .Expr (.Constant (.str _) _ _) _ => true
  | .expr e, m, .Expr v _ => ncomp v && mE e m false v
  | .asg t e, m, .Assign ts v _ => mAsg m t e ts v
  | .aug (.nm i) .add e, m, .AugAssign (.Name x _) .Add v _ => nmB m i x && mE e m false v
  | .aug (.nm i) .sub e, m, .AugAssign (.Name x _) .Sub v _ => nmB m i x && mE e m false v
  | .aug (.at o f) .add e, m, .AugAssign (.Attribute o' f' _) .Add v _ => decide (f = f') && mE o m false o' && mE e m false v
  | .aug (.at o f) .sub e, m, .AugAssign (.Attribute o' f' _) .Sub v _ => decide (f = f') && mE o m false o' && mE e m false v
  | .ret e, m, .Return (some v) _ => mE e m false v
  | .ret .non, _, .Return none _ => true
  | .ite c a b, m, .If c' a' b' _ => mE c m true c' && mSs a m a' && mSs b m b'
  | .for t it g b, m, .For tg iter body [] _ => nset iter && decide (m.N.length ≤ g) && mTg m t tg && mI it m (isTup tg) iter && mSs b m body
  | .whl c b, m, .While c' body [] _ => mE c m true c' && mSs b m body
  | .brk, _, .Break _ => true
  | .cnt, _, .Continue _ => true
  | .rais _ _, _, _ => true
  | _, _, _ => false
def mSs : List Sx → MC → List Stmt → Bool
  | [], _, [] => true
  | s :: r, m, t :: ts => mS s m t && mSs r m ts
  | _, _, _ => false
end
section
variable {T : Tab} {cl cm : CallT} {n W : Nat} {X : Cx} {m : MC}
theorem sw_no {v : Expr} {t : Option Expr} {l : Nat} {env : PySem.Env} (h : ncomp v = true) : swapsWith v t l env = pure false := by
  cases v <;> first | rfl | (simp [ncomp] at h)
theorem sw_cell {v : Expr} {x : Str} {p : Pos} {l : Nat} {env : PySem.Env} (h : env.scope.names.lookup x = some .cell) : swapsWith v (some (.Name x p)) l env = pure false := by
  have hk : (env.kindOf x == some .local) = false := by
    have : env.kindOf x = some .cell := h
    rw [this]; rfl
  cases v <;> first | rfl | (simp only [swapsWith, hk, Bool.and_false, Bool.false_and, pure_bind])
theorem sw_at {v o : Expr} {f : Str} {p : Pos} {l : Nat} {env : PySem.Env} : swapsWith v (some (.Attribute o f p)) l env = pure false := by
  cases v <;> rfl
theorem sw_tp {v : Expr} {es : List Expr} {k : Nat} {p : Pos} {l : Nat} {env : PySem.Env} : swapsWith v (some (.Tuple es k p)) l env = pure false := by
  cases v <;> rfl
theorem sws_tp {v : Expr} {es : List Expr} {k : Nat} {p : Pos} {l : Nat} {env : PySem.Env} : swapsWithSole [.Tuple es k p] v l env = pure false := sw_tp (v := v) (es := es) (k := k) (p := p) (l := l) (env := env)
theorem sws_no {v t : Expr} {l : Nat} {env : PySem.Env} (h : ncomp v = true) : swapsWithSole [t] v l env = pure false := sw_no h
theorem ss_no {v : Expr} {t : Expr} {env : PySem.Env} (h : ntup v = true) : swappedStores [t] v env = pure none := by
  cases v <;> first | (cases t <;> rfl) | (simp [ntup] at h)
theorem ss_4 {es : List Expr} {k : Nat} {p : Pos} {v : Expr} {env : PySem.Env} (h : 4 ≤ es.length) : swappedStores [.Tuple es k p] v env = pure none := by
  have h2 : (es.length == 2) = false := beq_eq_false_iff_ne.mpr (by omega)
  have h3 : (es.length == 3) = false := beq_eq_false_iff_ne.mpr (by omega)
  cases v <;> first | rfl | (simp only [swappedStores, h2, h3, Bool.or_self, Bool.not_false, Bool.true_or, if_true])
theorem nm_ok (F : Fit T cl cm n X m) {i : Nat} {x : Str} (h : nmB m i x = true) : X.N[i]? = some x ∧ L2.Loc X.env.scope x ∧ (X.fn x = true ∨ X.env.scope.names.lookup x = some .local) := by
  simp only [nmB, locB, Bool.and_eq_true, Bool.or_eq_true, decide_eq_true_eq] at h
  rw [F.N, F.sc, F.fn]
  exact ⟨h.1.1, h.1.2, h.2⟩
theorem nms_ok (F : Fit T cl cm n X m) : ∀ {is : List Nat} {es : List Expr}, nmsB m is es = true → NmOk X n is es ∧ (assignEach es X.env).length = is.length ∧ (assignEach es X.env).findIdx? (·.1) = none
  | [], [], _ => ⟨.nil, rfl, rfl⟩
  | [], _ :: _, h => by simp [nmsB] at h
  | _ :: _, [], h => by simp [nmsB] at h
  | i :: is, e :: es, h => by
    cases e with
    | Name x p =>
      simp only [nmsB, Bool.and_eq_true] at h
      obtain ⟨h1, h2, h3⟩ := nm_ok F h.1
      obtain ⟨g1, g2, g3⟩ := nms_ok F h.2
      refine ⟨.cons h1 h2 h3 (by rw [← F.n, ← F.N]; exact (List.getElem?_eq_some_iff.mp h1).1) g1, ?_, ?_⟩
      · show (_ :: assignEach es X.env).length = _
        simp [g2]
      · show ((false, assign (.Name x p) X.env) :: assignEach es X.env).findIdx? (·.1) = none
        rw [List.findIdx?_cons]
        simp [g3]
    | _ => simp [nmsB] at h
theorem lenN (F : Fit T cl cm n X m) : X.N.length = n := by rw [F.N]; exact F.n
section
variable {AL : AlT} {K : PySem.W.Frag} {η : List V} {fx : List Nat} {σ0 σ1 γ0 γ1 : L2.St} {H H1 : Hp} {Z Z1 : Addr → Prop} {F Fe1 Fo1 Fr : List Addr} {ρ1 ρ2 : Env}
/-- a name gets a thing, more things are held -/
theorem PstS.storeO {i : Nat} {d : D} {v : V} (p : PstS AL K η fx σ0 γ0 H Z F σ1 γ1 H1 Z1 ρ1 Fe1 (Fo1 ++ Fr)) (r : Rep K η Z1 H1 d v Fo1) (hi : i < σ1.length) (e : asgN AL fx i d ρ1 = .ok () ρ2) :
    ∃ F2, PstS AL K η fx σ0 γ0 H Z F (σ1.set i (some v)) γ1 H1 Z1 ρ2 F2 Fr := by
  obtain ⟨⟨h1, ht⟩, h2, rfl⟩ := asgN_ok e
  have ha := p.rep.2.setS (x := .own d) (σ' := σ1.set i (some v)) (fun _ _ h => nomatch h) ht (fun j hj => List.getElem?_set_ne (Ne.symm hj))
  obtain ⟨ov, A, G, B, e1, rfl, r1, k⟩ := p.rep.1.at (List.getElem?_eq_getElem h2)
  have k1 := k Z1 H1 (.own d) (some v) Fo1 ⟨fun _ _ _ e => e, fun _ _ _ e => e, fun _ _ e _ => e, fun _ z => z⟩ ⟨v, rfl, r⟩
  rw [List.set_append_left _ _ hi] at k1
  refine ⟨A ++ Fo1 ++ B, ⟨?_, by simpa using p.sl, p.gl, fun j hj => ?_, ⟨k1, ha⟩, p.nl⟩⟩
  · have : (A ++ G ++ B ++ (Fo1 ++ Fr)).Perm ((A ++ Fo1 ++ B ++ Fr) ++ G) := by
      rw [List.perm_iff_count]; intro a; simp only [List.count_append]; omega
    exact (p.evo.perm this).drop (List.sublist_append_left _ _)
  · rw [← p.fx j hj]
    have : j ≠ i := fun e => h1 (by rw [← e]; exact hj)
    rw [← List.set_append_left _ _ hi, List.getElem?_set_ne (Ne.symm this)]
end
/-- a, b = x, y -/
theorem rs_par {i j : Nat} {x y : Str} {a b : Expr} {l : List Ex} {px py pt pos : Pos} {kt k2 : Nat} {pt2 : Pos} {fx : List Nat} (hc : X.calm = true) (hN : X.N.Nodup) (hl : X.N.length = n) (hi : X.N[i]? = some x) (hj : X.N[j]? = some y) (hij : i ≠ j)
    (hx : X.env.scope.names.lookup x = some .local) (hy : X.env.scope.names.lookup y = some .local) (ha : PA X [a, b] (RA T cl cm X.K n fx l))
    (hw : swappedStores [.Tuple [.Name x px, .Name y py] kt pt] (.Tuple [a, b] k2 pt2) X.env = pure (some [x, y])) :
    PS X (.Assign [.Tuple [.Name x px, .Name y py] kt pt] (.Tuple [a, b] k2 pt2) pos) (RS T cl cm X.K n W fx (.asg (.tp [.nm i, .nm j]) (.tup l))) := (ps_par hc hN hi hj hij hx hy ha hw sws_tp).imp fun D σ H h => by
  obtain ⟨ρ, η, γ, Z, F, hn, rs, w, ok⟩ := h
  simp only [exec] at ok
  obtain ⟨o, ρ1, e1, ok1⟩ := st_ok ok
  simp only [evalO] at e1
  obtain ⟨os, ρ2, e2, e3⟩ := Res.bind_ok e1
  split at e3
  case isFalse => cases e3
  obtain ⟨h1, h2⟩ := Res.of_ok e3
  obtain ⟨ds, hd, rfl⟩ := Option.map_eq_some_iff.mp h1
  subst h2
  obtain ⟨u, ρ3, e4, ok2⟩ := st_ok ok1
  have e5 : asgNs T.al fx [i, j] ds ρ2 = .ok u ρ3 := by
    simp only [asgT, Od.rd, Option.bind_some, unpD, tgNames, Option.map_some] at e4
    split at e4 <;> exact e4
  refine ⟨ρ, η, γ, Z, F, hn, rs, w, os, ρ2, e2, fun vs H' Z' γ' Fe Fo p od _ => ?_⟩
  have r := od.allV hd
  have li : i < σ.length := by rw [hn.1, ← hl]; exact (List.getElem?_eq_some_iff.mp hi).1
  have lj : j < σ.length := by rw [hn.1, ← hl]; exact (List.getElem?_eq_some_iff.mp hj).1
  match ds, r, e5 with
  | [], _, e5 => simp [asgNs] at e5
  | [_], _, e5 =>
    simp only [asgNs] at e5
    obtain ⟨_, _, _, e7⟩ := Res.bind_ok e5
    simp [asgNs] at e7
  | _ :: _ :: _ :: _, _, e5 =>
    simp only [asgNs] at e5
    obtain ⟨_, _, _, e7⟩ := Res.bind_ok e5
    obtain ⟨_, _, _, e9⟩ := Res.bind_ok e7
    simp [asgNs] at e9
  | [d1, d2], r, e5 =>
    simp only [asgNs] at e5
    obtain ⟨u1, ρ4, e6, e7⟩ := Res.bind_ok e5
    obtain ⟨u2, ρ5, e8, e9⟩ := Res.bind_ok e7
    cases e9
    obtain ⟨v1, vs1, F1, F2, rfl, r1, r2, rfl⟩ := r
    obtain ⟨v2, vs2, F3, F4, rfl, r3, r4, rfl⟩ := r2
    obtain ⟨rfl, rfl⟩ := r4
    obtain ⟨Fa, p1⟩ := PstS.storeO (i := i) (Fr := F3 ++ []) p.s r1 li e6
    obtain ⟨Fb, p2⟩ := PstS.storeO (i := j) (Fo1 := F3) (Fr := []) p1 r3 (by simpa using lj) e8
    exact ⟨v1, v2, rfl, ok2 _ γ' H' Z' Fb p2⟩
theorem par_ok (F : Fit T cl cm n X m) {l : List Tg} {es : List Expr} {k : Nat} {e : Ex} {v : Expr} {pt p : Pos} (h : parB m (.tp l) es e v = true) (he : mE e m false v = true) (fx : List Nat) : PS X (.Assign [.Tuple es k pt] v p) (RS T cl cm X.K n W fx (.asg (.tp l) e)) := by
  unfold parB at h
  split at h
  · rename_i i j x px y py ea eb a b k2 pt2 h0
    cases h0
    simp only [Bool.and_eq_true, Bool.not_eq_true', decide_eq_true_eq] at h
    obtain ⟨⟨⟨⟨⟨⟨⟨⟨⟨⟨⟨k1, k3⟩, k4⟩, k5⟩, k6⟩, k7⟩, k8⟩, k9⟩, k10⟩, k11⟩, k12⟩, k13⟩ := h
    simp only [mE, mL, Bool.and_eq_true] at he
    exact rs_par F.calm F.nd (lenN F) (by rw [F.N]; exact k3) (by rw [F.N]; exact k4) k1 (by rw [F.sc]; exact k6) (by rw [F.sc]; exact k7) (ra_cons (mE_ok ea F he.1.2 fx) (ra_cons (mE_ok eb F he.2.1.2 fx) ra_nil (by cases b <;> first | rfl | cases k13)) (by cases a <;> first | rfl | cases k12))
      (sw_par k5 (by rw [F.sc]; exact k6) (by rw [F.sc]; exact k7) (by rw [F.sc]; exact k8) k9 k10 k11 k12 k13)
  · cases h
theorem mS_asg (t : Tg) (e : Ex) {m : MC} {st : Stmt} {X : Cx} (F : Fit T cl cm n X m) (h : mS (.asg t e) m st = true) (fx : List Nat) : PS X st (RS T cl cm X.K n W fx (.asg t e)) := by
    cases st with
    | Assign ts v p =>
      match ts, h with
      | [], h => simp [mS, mAsg] at h
      | _ :: _ :: _, h => simp [mS, mAsg] at h
      | [tg], h =>
        simp only [mS, mAsg] at h
        cases t with
        | nm i =>
          cases tg with
          | Name x py =>
            simp only [mAsg1, Bool.and_eq_true, Bool.or_eq_true] at h
            obtain ⟨⟨h1, h2⟩, h3⟩ := h
            obtain ⟨g1, g2, g3⟩ := nm_ok F h1
            rcases h2 with h2 | ⟨hlc, h2⟩
            · exact rs_set F.nd (lenN F) g1 g2 g3 (mE_ok e F h3 fx) (h2.elim sw_no fun h2 => sw_cell (by rw [F.sc]; exact of_decide_eq_true h2))
            · cases v with
              | ListComp elt gs scope pos =>
                simp only [swB, Bool.and_eq_true, decide_eq_true_eq, Bool.not_eq_true'] at h2
                obtain ⟨⟨⟨k1, k2⟩, k3⟩, k4⟩ := h2
                have hsw : swapsWith (.ListComp elt gs scope pos) (some (.Name x py)) p.line X.env = pure true := sw_true (by rw [F.sc]; exact k1) (by rw [F.sc]; exact k2) k3 k4
                cases e with
                | lc tg0 own e0 it g c =>
                  match gs, h3, hsw with
                  | [], h, _ => simp [mE] at h
                  | _ :: _ :: _, h, _ => simp [mE] at h
                  | [⟨tg, iter, ifs, k⟩], h, hsw =>
                    by_cases hk : k = 0
                    case neg => simp [mE, hk] at h
                    case pos =>
                      subst hk
                      simp only [mE, Bool.and_eq_true, decide_eq_true_eq, List.all_eq_true] at h
                      obtain ⟨⟨⟨⟨⟨⟨⟨h1, h2⟩, h3⟩, h4⟩, h5⟩, h6⟩, h7⟩, h8⟩ := h
                      have ow : (ownN m own).map (·.2) = own := by simp [ownN, Function.comp_def]
                      rw [F.n] at h2
                      have := rs_setLc (T := T) (cl := cl) (cm := cm) (n := n) (W := W) (fx := fx) (X := X) (elt := elt) (pos := pos) (spos := p) (own := ownN m own) (t := tg0) (e := e0) (c := c) F.calm F.nd (lenN F) g1 (by rw [F.sc]; exact k2) hsw h2 (mI_ok it h2 F h6 fx tg (fun z => z)) (by rw [F.N, F.sc]; exact blkOk_by h3)
                        (by rw [ow]; exact fun i hi => by simpa using h4 i hi) (fun s H C cls fp fx => (mTg_ok (F.blk s H C cls fp) h5).1) (fun s H C cls fp fx => mC_ok c (F.blk s H C cls fp) h8 fx) (fun s H C cls fp fx => mE_ok e0 (F.blk s H C cls fp) h7 fx) (fold_of h1)
                      rw [ow] at this
                      exact this
                | _ => simp [isLc] at hlc
              | _ => simp [swB] at h2
          | _ => simp [mAsg1] at h
        | tp l =>
          cases tg with
          | Tuple es k pt =>
            simp only [mAsg1] at h
            split at h
            · rename_i hpar
              exact par_ok F hpar h fx
            simp only [Bool.and_eq_true] at h
            obtain ⟨⟨h2, h3⟩, h4⟩ := h
            simp only [mTg] at h3
            split at h3
            · rename_i is hi
              obtain ⟨g1, g2, g3⟩ := nms_ok F h3
              exact rs_tup F.calm F.nd (lenN F) hi g1 g2 g3 (mE_ok e F h4 fx) sws_tp (by simp only [Bool.or_eq_true, decide_eq_true_eq] at h2; exact h2.elim ss_no ss_4) rfl
            · cases h3
          | _ => simp [mAsg1] at h
        | ix o i =>
          cases tg with
          | Subscript o' i' ps =>
            simp only [mAsg1, Bool.and_eq_true] at h
            obtain ⟨⟨⟨⟨h1, h2⟩, h3⟩, h4⟩, h5⟩ := h
            have hn : swappedStores [.Subscript o' i' ps] v X.env = pure none := by cases v <;> rfl
            have ha : ∀ v, assign (.Subscript o' i' ps) X.env v = (do
                let ov ← holding [v] (eval o' X.env)
                let iv ← holding [v, ov] (eval i' X.env)
                standAt ps
                holding [v, ov, iv] (setItem ov iv v)
                release [v, ov, iv] []) := by
              intro v
              cases i' <;> first | rfl | (simp [nsl] at h2)
            exact rs_ix (by have := F.un; omega) (mE_ok o F h3 fx) (mE_ok i F h4 fx) (mE_ok e F h5 fx) ha (sws_no h1) hn rfl
          | _ => simp [mAsg1] at h
        | «at» o f =>
          cases tg with
          | Attribute o' f' ps =>
            simp only [mAsg1, Bool.and_eq_true, decide_eq_true_eq] at h
            obtain ⟨⟨rfl, h2⟩, h3⟩ := h
            exact rs_at F.cls (mE_ok o F h2 fx) (mE_ok e F h3 fx) sw_at
          | _ => simp [mAsg1] at h
    | _ => simp [mS] at h
theorem mS_aug (t : Tg) (o : Bin) (e : Ex) {m : MC} {st : Stmt} {X : Cx} (F : Fit T cl cm n X m) (h : mS (.aug t o e) m st = true) (fx : List Nat) : PS X st (RS T cl cm X.K n W fx (.aug t o e)) := by
    cases st with
    | AugAssign tg op v p =>
      cases t with
      | nm i =>
        cases tg with
        | Name x py =>
          cases o with
          | add =>
            cases op with
            | Add =>
              simp only [mS, Bool.and_eq_true] at h
              obtain ⟨g1, g2, g3⟩ := nm_ok F h.1
              simpa using rs_aug (b := true) (W := W) (pos := p) (pos' := py) F.nd (lenN F) g1 g2 g3 (mE_ok e F h.2 fx)
            | _ => simp [mS] at h
          | sub =>
            cases op with
            | Sub =>
              simp only [mS, Bool.and_eq_true] at h
              obtain ⟨g1, g2, g3⟩ := nm_ok F h.1
              simpa using rs_aug (b := false) (W := W) (pos := p) (pos' := py) F.nd (lenN F) g1 g2 g3 (mE_ok e F h.2 fx)
            | _ => simp [mS] at h
          | _ => simp [mS] at h
        | _ => cases o <;> simp [mS] at h
      | «at» a f =>
        cases tg with
        | Attribute o' f' py =>
          cases o with
          | add =>
            cases op with
            | Add =>
              simp only [mS, Bool.and_eq_true, decide_eq_true_eq] at h
              obtain ⟨⟨rfl, h2⟩, h3⟩ := h
              simpa using rs_augA (b := true) (W := W) (pos := p) (pos' := py) F.cls (mE_ok a F h2 fx) (mE_ok e F h3 fx)
            | _ => simp [mS] at h
          | sub =>
            cases op with
            | Sub =>
              simp only [mS, Bool.and_eq_true, decide_eq_true_eq] at h
              obtain ⟨⟨rfl, h2⟩, h3⟩ := h
              simpa using rs_augA (b := false) (W := W) (pos := p) (pos' := py) F.cls (mE_ok a F h2 fx) (mE_ok e F h3 fx)
            | _ => simp [mS] at h
          | _ => simp [mS] at h
        | _ => cases o <;> simp [mS] at h
      | _ => simp [mS] at h
    | _ => cases t <;> cases o <;> simp [mS] at h
mutual
theorem mS_ok : ∀ (s : Sx) {m : MC} {st : Stmt} {X : Cx}, Fit T cl cm n X m → PassesOwn (model X.prog X.w) X.A X.env X.xe → mS s m st = true → ∀ fx, PS X st (RS T cl cm X.K n W fx s)
  | .pass, m, st, X, F, po, h, fx => by
    cases st with
    | Pass p => exact rs_pass
    | Expr v p =>
      cases v with
      | Constant c j q =>
        cases c with
        | str x => exact rs_doc
        | _ => simp [mS] at h
      | _ => simp [mS] at h
    | _ => simp [mS] at h
  | .expr e, m, st, X, F, po, h, fx => by
    cases st with
    | Expr v p =>
      simp only [mS, Bool.and_eq_true] at h
      exact rs_expr (mE_ok e F h.2 fx) (sw_no h.1)
    | _ => simp [mS] at h
  | .asg t e, m, st, X, F, po, h, fx => mS_asg t e F h fx
  | .aug t o e, m, st, X, F, po, h, fx => mS_aug t o e F h fx
  | .ret e, m, st, X, F, po, h, fx => by
    cases st with
    | Return v p =>
      cases v with
      | some v =>
        simp only [mS] at h
        exact rs_ret (mE_ok e F h fx)
      | none =>
        cases e with
        | non => exact rs_retN
        | _ => simp [mS] at h
    | _ => cases e <;> simp [mS] at h
  | .ite c a b, m, st, X, F, po, h, fx => by
    cases st with
    | If c' a' b' p =>
      simp only [mS, Bool.and_eq_true] at h
      exact rs_ite (mE_ok c F h.1.1 fx) (mSs_ok a F po h.1.2 fx) (mSs_ok b F po h.2 fx)
    | _ => simp [mS] at h
  | .for t it g b, m, st, X, F, po, h, fx => by
    cases st with
    | For tg iter body orelse p =>
      cases orelse with
      | cons => simp [mS] at h
      | nil =>
        simp only [mS, Bool.and_eq_true, decide_eq_true_eq] at h
        obtain ⟨⟨⟨⟨h1, h2⟩, h3⟩, h4⟩, h5⟩ := h
        rw [F.n] at h2
        exact rs_for po F.calm h2 (mI_ok it h2 F h4 fx tg (fun z => z)) (fun fx => (mTg_ok F h3).1) (fun fx => mSs_ok b F po h5 fx) (fold_of h1)
    | _ => simp [mS] at h
  | .whl c b, m, st, X, F, po, h, fx => by
    cases st with
    | While c' body orelse p =>
      cases orelse with
      | cons => simp [mS] at h
      | nil =>
        simp only [mS, Bool.and_eq_true] at h
        exact rs_whl po (mE_ok c F h.1 fx) (mSs_ok b F po h.2 fx)
    | _ => simp [mS] at h
  | .brk, m, st, X, F, po, h, fx => by
    cases st with
    | Break p => exact rs_brk
    | _ => simp [mS] at h
  | .cnt, m, st, X, F, po, h, fx => by
    cases st with
    | Continue p => exact rs_cnt
    | _ => simp [mS] at h
  | .rais a b, m, st, X, F, po, h, fx => ⟨fun pins s σ H D I ⟨ρ, η, γ, Z, G, hn, rs, w, ok⟩ => by
      simp only [exec] at ok
      exact ok.elim⟩
  | .trye _ _ _ _, m, st, X, F, po, h, fx => by cases st <;> simp [mS] at h
theorem mSs_ok : ∀ (s : List Sx) {m : MC} {st : List Stmt} {X : Cx}, Fit T cl cm n X m → PassesOwn (model X.prog X.w) X.A X.env X.xe → mSs s m st = true → ∀ fx, PSs X st (RSs T cl cm X.K n W fx s)
  | [], m, st, X, F, po, h, fx => by
    cases st with
    | nil => exact rss_nil
    | cons => simp [mSs] at h
  | s :: r, m, st, X, F, po, h, fx => by
    cases st with
    | nil => simp [mSs] at h
    | cons t ts =>
      simp only [mSs, Bool.and_eq_true] at h
      exact rss_cons (mS_ok s F po h.1 fx) (mSs_ok r F po h.2 fx)
end
end
end Pv

/-! Pv, part S: defs keep their promises. -/
namespace Pv
open PySem PySem.Spec PyProof.Rows L2
section
variable {K : PySem.W.Frag} {η : List V} {Z Z' : Addr → Prop} {H H' : Hp}
theorem RepS.none : ∀ (a : Nat), RepS K η Z H (List.replicate a .no) (List.replicate a (Option.none : Option V)) []
  | 0 => ⟨rfl, rfl⟩
  | a + 1 => ⟨_, _, [], [], rfl, rfl, RepS.none a, rfl⟩
theorem Reps.start {sl : List Slot} {S : List (Option V)} (h : RepS K η Z H sl S []) : ∀ {ds : List D} {vs : List V} {F : List Addr}, Reps K η Z H ds vs F → RepS K η Z H (ds.map .own ++ sl) (vs.map some ++ S) F
  | [], _, _, r => by obtain ⟨rfl, rfl⟩ := r; exact h
  | d :: ds, _, _, r => by
    obtain ⟨v, vs', F1, F2, rfl, r1, r2, rfl⟩ := r
    exact ⟨some v, _, F1, F2, rfl, ⟨v, rfl, r1⟩, Reps.start h r2, rfl⟩
theorem mutIx_mem : ∀ {ds : List D} {i j : Nat} {d : D}, ds[j]? = some d → d.imm = false → i + j ∈ mutIx ds i
  | [], _, _, _, h, _ => by simp at h
  | e :: ds, i, 0, d, h, hd => by
    simp at h; subst h
    simp [mutIx, hd]
  | e :: ds, i, j + 1, d, h, hd => by
    have := mutIx_mem (i := i + 1) (j := j) (by simpa using h) hd
    have e1 : i + 1 + j = i + (j + 1) := by omega
    rw [e1] at this
    unfold mutIx
    split
    · exact this
    · exact List.mem_cons_of_mem _ this
/-- the arguments behind a call -/
theorem finals_ok {ρ : Env} {S' : List (Option V)} (kp : Keeps Z Z' H H' []) : ∀ {ds ds' : List D} {vs : List V} {F Fl : List Addr} {i : Nat}, Reps K η Z H ds vs F → finals ds i ρ = some ds' →
    (∀ j d v, ds[j]? = some d → d.imm = false → vs[j]? = some v → S'[i + j]? = some (some v)) → RepS K η Z' H' (ρ.s.drop i) (S'.drop i) Fl → ∃ Ff, Ff.Sublist Fl ∧ Reps K η Z' H' ds' vs Ff
  | [], ds', vs, F, Fl, i, r, e, hh, rs => by
    obtain ⟨rfl, rfl⟩ := r
    simp only [finals, Option.some.injEq] at e
    subst e
    exact ⟨[], List.nil_sublist _, rfl, rfl⟩
  | d :: ds, ds', vs, F, Fl, i, r, e, hh, rs => by
    obtain ⟨v, vs', F1, F2, rfl, r1, r2, rfl⟩ := r
    cases e1 : finals ds (i + 1) ρ with
    | none => simp [finals, e1] at e
    | some l =>
      have hh' : ∀ j d v, ds[j]? = some d → d.imm = false → vs'[j]? = some v → S'[i + 1 + j]? = some (some v) := fun j d' v' h1 h2 h3 => by
        have := hh (j + 1) d' v' (by simpa using h1) h2 (by simpa using h3)
        rwa [show i + (j + 1) = i + 1 + j by omega] at this
      have tail : ∃ Fa Fb, Fl = Fa ++ Fb ∧ RepS K η Z' H' (ρ.s.drop (i + 1)) (S'.drop (i + 1)) Fb ∧ (∀ x, ρ.s[i]? = some x → ∃ ov, S'[i]? = some ov ∧ RepS1 K η Z' H' x ov Fa) := by
        cases hs : ρ.s.drop i with
        | nil =>
          rw [hs] at rs
          obtain ⟨h1, rfl⟩ := rs
          have h2 : ρ.s.drop (i + 1) = [] := by
            rw [← List.drop_drop, hs]; rfl
          have h3 : S'.drop (i + 1) = [] := by rw [← List.drop_drop, h1]; rfl
          refine ⟨[], [], rfl, by rw [h2, h3]; exact ⟨rfl, rfl⟩, fun x hx => ?_⟩
          have : i < ρ.s.length := (List.getElem?_eq_some_iff.mp hx).1
          have h4 := congrArg List.length hs
          simp at h4; omega
        | cons x sl =>
          rw [hs] at rs
          obtain ⟨ov, S2, Fa, Fb, h1, h2, h3, rfl⟩ := rs
          have hx : ρ.s[i]? = some x := by
            have := congrArg (fun l : List Slot => l[0]?) hs
            simpa using this
          have hv : S'[i]? = some ov := by
            have := congrArg (fun l : List (Option V) => l[0]?) h1
            simpa using this
          have d1 : ρ.s.drop (i + 1) = sl := by rw [← List.drop_drop, hs]; rfl
          have d2 : S'.drop (i + 1) = S2 := by rw [← List.drop_drop, h1]; rfl
          refine ⟨Fa, Fb, rfl, by rw [d1, d2]; exact h3, fun y hy => ?_⟩
          rw [hx] at hy
          cases hy
          exact ⟨ov, hv, h2⟩
      obtain ⟨Fa, Fb, rfl, rst, one⟩ := tail
      obtain ⟨Ff, s, r3⟩ := finals_ok kp r2 e1 hh' rst
      simp only [finals, e1] at e
      split at e
      · rename_i hm
        cases e
        obtain rfl := r1.imm hm
        exact ⟨Ff, s.trans (List.sublist_append_right _ _), v, vs', [], Ff, rfl, r1.keep kp (fun _ m => m), r3, rfl⟩
      · rename_i hm
        split at e
        · rename_i e' he
          cases e
          obtain ⟨ov, h1, v', rfl, r4⟩ := one _ he
          have h2 := hh 0 d v rfl (by simpa using hm) rfl
          rw [Nat.add_zero, h1] at h2
          cases h2
          exact ⟨Fa ++ Ff, List.Sublist.append (List.Sublist.refl _) s, v, vs', Fa, Ff, rfl, r4, r3, rfl⟩
        · cases e
end

/-- how a def binds: its defaults, whole numbers -/
def BindQ (Pr : Prog) (id : FId) (K : PySem.W.Frag) (fdat : FuncData) (ps : List Str) : Prop := ∃ is : List Int, (is = [] → ∀ (s : Shared) (us : List Value), us.length = ps.length → BindsTo s fdat ⟨us, []⟩ (ps.zip us)) ∧
  (∀ j, j ≤ is.length → ∃ us, Vals ((is.drop j).map V.int) us ∧ Binds K fdat ps us) ∧ (∀ f, id = (f, none) → (Pr.tab.dfl.lookup f).getD [] = is) ∧ ∀ f a, id = (f, none) → Pr.tab.kwn.lookup f = some a → KBinds K fdat ps [a] kG kG
theorem BindQ.all {Pr : Prog} {id : FId} {K : PySem.W.Frag} {fdat : FuncData} {ps : List Str} (h : BindQ Pr id K fdat ps) : Binds K fdat ps [] := by
  obtain ⟨is, _, hb, _⟩ := h
  obtain ⟨us, hv, hb⟩ := hb is.length (Nat.le_refl _)
  rw [List.drop_length] at hv
  cases hv
  exact hb
structure ModOk (Pr : Prog) (nm : FId → List Str) (mg : Str → Option Value) (K : PySem.W.Frag) : Prop where
  con : ∀ x d, Pr.tab.con.lookup x = some d → ∃ u v, mg x = some u ∧ RelV v u ∧ (∀ η Z H, Rep K η Z H d v []) ∧ (∀ l, d = .tup l → ∃ p o, v = .ref p ∧ K.lookup p = some o ∧ o.cls = .type "tuple" ∧ o.dict = none)
  blt : ∀ x ∈ bltL, mg x = none
  cls : ClsOk K Pr.tab
  fns : ∀ id fd, Pr.get id = some fd → ∃ x qual params body scope N ps fa fdat dvs, FunD K x qual params body scope dvs [] fa fdat ∧ FnScope N ps scope ∧ (ps = nm id ∧ BindQ Pr id K fdat ps) ∧ mSs fd.body ⟨N, scope, fun _ => true, Pr.tab.dfl, Pr.tab.kwn⟩ body = true ∧
    fd.np = ps.length ∧ N.length ≤ fd.n ∧ ps.length ≤ N.length ∧ (match id with
      | (f, .none) => mg f = some (.ref fa)
      | (c, some m) => Meth K (He.ga K c) m fa ∧ (m = "__init__" → mg c = some (.ref (He.ga K c)) ∧ Mk K (He.ga K c) fa))
section
variable {Pr : Prog} {nm : FId → List Str} {W : Nat} {P : Program} {w : World} {K : PySem.W.Frag} {mg : Str → Option Value} {base : Heap}
/-- the def id, k deep -/
def KeepsK (Pr : Prog) (nm : FId → List Str) (W : Nat) (P : Program) (w : World) (K : PySem.W.Frag) (mg : Str → Option Value) (base : Heap) (k : Nat) : Prop := ∀ id fd, Pr.get id = some fd → ∃ fa fdat ps, FnOk P w K mg base CX0 k fa fdat ps (SpC K (callF Pr W k) id) ∧ (ps = nm id ∧ (∃ oc od osl, K.lookup fa = some ⟨oc, od, .func fdat, osl⟩) ∧ BindQ Pr id K fdat ps) ∧ PySem.W.keepIn K (.ref fa) = true ∧ fd.np = ps.length ∧
    (match id with
      | (f, .none) => mg f = some (.ref fa)
      | (c, some m) => Meth K (He.ga K c) m fa ∧ (m = "__init__" → mg c = some (.ref (He.ga K c)) ∧ Mk K (He.ga K c) fa))
theorem callF_succ {k : Nat} {id : FId} {ds : List D} : callF Pr W (k + 1) id ds = match Pr.get id with
    | some fd => runF Pr.tab (callF Pr W k) (callM Pr W k) W fd ds
    | none => .no := rfl
theorem callM_succ {k : Nat} : callM Pr W (k + 1) = callF Pr W k := rfl
theorem callF_lk {k : Nat} {id : FId} {ds : List D} {r : CRes} (h : callF Pr W k id ds = r) (hr : r ≠ .no) : ∃ fd, Pr.get id = some fd := by
  cases k with
  | zero => exact absurd h.symm hr
  | succ k =>
    rw [callF_succ] at h
    split at h
    · exact ⟨_, by assumption⟩
    · exact absurd h.symm hr
theorem callF_ok {k : Nat} {id : FId} {fd : Fn} {ds ds' : List D} {d : D} (lk : Pr.get id = some fd) (h : callF Pr W (k + 1) id ds = .ok d ds') :
    ds.length = fd.np ∧ ∃ ρ, finals ds 0 ρ = some ds' ∧ (execs (Pr.tab.wal fd.dfl) (callF Pr W k) (callM Pr W k) W fd.body (mutIx ds 0) (startE fd.n ds) = .rt d ρ ∨
      (d = .non ∧ execs (Pr.tab.wal fd.dfl) (callF Pr W k) (callM Pr W k) W fd.body (mutIx ds 0) (startE fd.n ds) = .nx ρ)) := by
  rw [callF_succ, lk] at h
  simp only [runF] at h
  split at h
  · rename_i hl
    refine ⟨hl, ?_⟩
    split at h
    · rename_i e ρ he
      unfold CRes.of at h
      split at h
      · rename_i l hf
        cases h
        exact ⟨ρ, hf, .inl he⟩
      · cases h
    · rename_i ρ he
      unfold CRes.of at h
      split at h
      · rename_i l hf
        cases h
        exact ⟨ρ, hf, .inr ⟨rfl, he⟩⟩
      · cases h
    · unfold CRes.ofx at h
      split at h <;> cases h
    · cases h
  · cases h
theorem binds_all {fd : FuncData} {ps : List Str} (h : ∀ (s : Shared) (us : List Value), us.length = ps.length → BindsTo s fd ⟨us, []⟩ (ps.zip us)) : Binds K fd ps [] := fun s us _ hl => by
  rw [List.append_nil] at hl ⊢
  exact h s us hl
theorem callsOk {X : Cx} {k : Nat} (hX : X.prog = P ∧ X.w = w ∧ X.K = K ∧ X.mg = mg ∧ X.base = base) (hr : Room k X.A) (h1 : KeepsK Pr nm W P w K mg base k) (h2 : ∀ j, k = j + 1 → KeepsK Pr nm W P w K mg base j) :
    CallsOk X (callF Pr W k) (callM Pr W k) := by
  obtain ⟨rfl, rfl, rfl, rfl, rfl⟩ := hX
  refine ⟨fun f ds r e hn => ?_, fun c m ds r e hn => ?_, fun c ds r e hn => ?_⟩
  · obtain ⟨fd, lk⟩ := callF_lk e hn
    obtain ⟨fa, fdat, ps, F, b, kp, _, hid⟩ := h1 _ fd lk
    exact ⟨fa, _, k, ⟨fdat, ps, F, b.2.2.all⟩, rfl, hr, hid, kp⟩
  · obtain ⟨fd, lk⟩ := callF_lk e hn
    obtain ⟨fa, fdat, ps, F, b, kp, _, hid⟩ := h1 _ fd lk
    exact ⟨fa, _, k, ⟨fdat, ps, F, b.2.2.all⟩, rfl, hr, hid.1⟩
  · cases k with
    | zero => exact absurd e.symm hn
    | succ j =>
      obtain ⟨fd, lk⟩ := callF_lk e hn
      obtain ⟨fa, fdat, ps, F, b, kp, _, hid⟩ := h2 j rfl _ fd lk
      exact ⟨fa, _, j, ⟨fdat, ps, F, b.2.2.all⟩, rfl, hr, (hid.2 rfl).1, (hid.2 rfl).2⟩
theorem dflOk {X : Cx} {k : Nat} (hX : X.prog = P ∧ X.w = w ∧ X.K = K ∧ X.mg = mg ∧ X.base = base) (hr : Room k X.A) (h1 : KeepsK Pr nm W P w K mg base k) : DflOk X Pr.tab (callF Pr W k) := by
  obtain ⟨rfl, rfl, rfl, rfl, rfl⟩ := hX
  intro f ks hf ds r e hn
  obtain ⟨fd, lk⟩ := callF_lk e hn
  obtain ⟨fa, fdat, ps, F, b, kp, _, hid⟩ := h1 _ fd lk
  obtain ⟨is, _, hb, hi, _⟩ := b.2.2
  have := hi f rfl
  rw [hf] at this
  cases this
  exact ⟨fa, _, k, fdat, ps, F, hb, rfl, hr, hid, kp⟩
theorem kwOk {X : Cx} {k : Nat} (hX : X.prog = P ∧ X.w = w ∧ X.K = K ∧ X.mg = mg ∧ X.base = base) (hr : Room k X.A) (h1 : KeepsK Pr nm W P w K mg base k) : KwOk X Pr.tab (callF Pr W k) := by
  obtain ⟨rfl, rfl, rfl, rfl, rfl⟩ := hX
  intro f a hf ds r e hn
  obtain ⟨fd, lk⟩ := callF_lk e hn
  obtain ⟨fa, fdat, ps, F, b, kp, _, hid⟩ := h1 _ fd lk
  obtain ⟨is, _, _, _, hb⟩ := b.2.2
  exact ⟨fa, _, k, fdat, ps, F, hb f a rfl hf, rfl, hr, hid, kp⟩
theorem lkF {x qual : Str} {params : Arguments} {body : List Stmt} {scope : Scope} {fa : Addr} {fdat : FuncData} {dvs : List V} (F : FunD K x qual params body scope dvs [] fa fdat) : ∃ oc od osl, K.lookup fa = some ⟨oc, od, .func fdat, osl⟩ := by
  obtain ⟨oc, od, dV, kV, doc, pm, an, cdv, ct, osl, _, lk, _⟩ := F.ex
  exact ⟨oc, od, osl, lk⟩
theorem ClsOk.wal {K : PySem.W.Frag} {T : Tab} {A : AlT} (h : ClsOk K T) : ClsOk K (T.wal A) := ⟨h.cls, h.fld⟩
theorem keepsK (M : ModOk Pr nm mg K) : ∀ k, KeepsK Pr nm W P w K mg base k ∧ ∀ j, k = j + 1 → KeepsK Pr nm W P w K mg base j
  | 0 => by
    refine ⟨fun id fd lk => ?_, fun j h => by cases h⟩
    obtain ⟨x, qual, params, body, scope, N, ps, fa, fdat, dvs, F, S, b, hm, hnp, hN, hps, hid⟩ := M.fns id fd lk
    have no : ∀ vs H Q E, ¬ SpC K (callF Pr W 0) id vs H Q E := fun vs H Q E h => by
      obtain ⟨Z, ds, F, r, ds', _, _, e, _⟩ := h
      cases e
    exact ⟨fa, fdat, ps, ⟨fun vs H Q E h => (no vs H Q E h).elim, fun _ _ _ H _ _ vs Q E _ _ _ _ h => (no vs H Q E h).elim⟩, ⟨b.1, lkF F, b.2⟩, F.kp, hnp, hid⟩
  | k + 1 => by
    obtain ⟨ih, ih2⟩ := keepsK M k
    refine ⟨fun id fd lk => ?_, fun j h => by cases h; exact ih⟩
    obtain ⟨x, qual, params, body, scope, N, ps, fa, fdat, dvs, F, S, b, hm, hnp, hN, hps, hid⟩ := M.fns id fd lk
    refine ⟨fa, fdat, ps, ?_, ⟨b.1, lkF F, b.2⟩, F.kp, hnp, hid⟩
    refine F.ok S (fun vs H Q E h => ?_) (fun cdv A outer s H vs Q E hr h => ?_)
    · obtain ⟨Z, ds, Fp, r, ds', hd, _, e, _⟩ := h
      rw [← hd.length, (callF_ok lk e).1, hnp]
    · obtain ⟨Z, ds, Fp, r, ds', hd, wf, e, hl, q⟩ := h
      obtain ⟨hds, ρ, hf, he⟩ := callF_ok lk e
      have hX : Fit (Pr.tab.wal fd.dfl) (callF Pr W k) (callM Pr W k) N.length (cxOf CX0 P w K mg base N qual scope fa cdv A outer s H E).nox ⟨N, scope, fun _ => true, Pr.tab.dfl, Pr.tab.kwn⟩ := {
        N := rfl, n := rfl, sc := rfl, fn := rfl, nd := S.nd, calm := rfl,
        un := by
          have := hr.un
          show (A.deeper _).units + 66 < cLine
          omega,
        con := M.con, blt := M.blt, cls := ClsOk.wal M.cls,
        calls := callsOk ⟨rfl, rfl, rfl, rfl, rfl⟩ hr ih ih2
        dfs := dflOk ⟨rfl, rfl, rfl, rfl, rfl⟩ hr ih
        df := rfl
        kws := kwOk ⟨rfl, rfl, rfl, rfl, rfl⟩ hr ih
        kw := rfl }
      refine ⟨_, PSs.nox (mSs_ok (W := W) fd.body hX PassesOwn.never hm (mutIx ds 0)), startE fd.n ds, [], List.replicate (fd.n - N.length) none, Z, Fp, ⟨?_, rfl⟩, ?_, wf, ?_⟩
      · have := hd.length
        simp only [L2.start, List.length_append, List.length_map, List.length_replicate]
        omega
      · refine ⟨?_, fun i r q ea => ?_⟩
        rotate_left
        · exfalso
          have ea' : (ds.map Slot.own ++ List.replicate (fd.n - ds.length) Slot.no)[i]? = some (.al r q) := ea
          have := List.mem_of_getElem? ea'
          simp at this
        have h1 : L2.start N vs ++ List.replicate (fd.n - N.length) none = vs.map some ++ List.replicate (fd.n - ds.length) (none : Option V) := by
          have := hd.length
          rw [L2.start, List.append_assoc, List.replicate_append_replicate]
          congr 2
          omega
        rw [h1]
        exact Reps.start (RepS.none _) hd
      · have fin : ∀ (v : V) (σ' γ' : L2.St) (H' : Hp) (Z' : Addr → Prop) (F' Fo : List Addr), PstS (Pr.tab.wal fd.dfl).al K [] (mutIx ds 0) (L2.start N vs) (List.replicate (fd.n - N.length) none) H Z Fp σ' γ' H' Z' ρ F' Fo → Rep K [] Z' H' r v Fo → Q v H' := fun v σ' γ' H' Z' F' Fo p rv => by
          have kp : Keeps Z Z' H H' [] := p.evo.keeps (by rw [List.append_nil]; exact wf)
          obtain ⟨Ff, sb, rf⟩ := finals_ok (i := 0) kp hd hf (fun j d v h1 h2 h3 => by
            rw [p.fx (0 + j) (mutIx_mem h1 h2), Nat.zero_add]
            have hj : j < vs.length := (List.getElem?_eq_some_iff.mp h3).1
            have hjN : j < (L2.start N vs).length := by
              simp only [L2.start, List.length_append, List.length_map]; omega
            rw [List.getElem?_append_left hjN, L2.start, List.getElem?_append_left (by simpa using hj), List.getElem?_map, h3]
            rfl) (by simpa using p.rep.1)
          exact q v H' Z' Fo Ff ((p.evo.perm List.perm_append_comm).drop ((List.Sublist.refl _).append sb)) rv rf
        rcases he with he | ⟨rfl, he⟩
        · rw [he]
          exact fun v σ' γ' H' Z' F' Fo p rv => fin v σ' γ' H' Z' F' Fo p rv
        · rw [he]
          exact fun σ' γ' H' Z' F' p => fin .non σ' γ' H' Z' F' [] p ⟨rfl, rfl⟩
/-- the law's def -/
theorem lawF (M : ModOk Pr nm mg K) {x f : Str} {fdl : Fn} {fa : Addr} {m k : Nat} (hg : Pr.get (f, none) = some fdl) (hn : nm (f, none) = [x]) (hm : mg f = some (.ref fa))
    (pure : ∀ ns : List Int, ns.length ≤ m → ∃ e, callF Pr W k (f, none) [.lst true (ns.map .int)] = .ok (.bl true) [e]) (hdf : (Pr.tab.dfl.lookup f).getD [] = [] := by rfl) :
    ∃ (fd : FuncData) (sp : Sp), (∀ (s : Shared) (u : Value), BindsTo s fd ⟨[u], []⟩ [(x, u)]) ∧
      (∀ (H : Hp) (a : Addr) (ns : List Int), ns.length ≤ m → SqL K H a (ns.map V.int) → sp [.ref a] H (fun v _ => v = .bl true) fun _ _ _ => False) ∧
      ∀ base : Heap, FnOk P w K mg base CX0 k fa fd [x] sp := by
  obtain ⟨x1, qual, params, body, scope, N, ps, fa1, fdat, dvs, F, S, b, _, _, _, _, hid⟩ := M.fns _ fdl hg
  obtain ⟨is, hbA, _, hi, _⟩ := b.2
  have h0 := hbA ((hi f rfl).symm.trans hdf)
  have e1 : fa1 = fa := by
    have h1 : mg f = some (.ref fa1) := hid
    rw [hm] at h1
    cases h1
    rfl
  subst e1
  have hps : ps = [x] := b.1.trans hn
  subst hps
  refine ⟨fdat, SpC K (callF Pr W k) (f, none), fun s u => h0 s [u] rfl, fun H a ns hl sq => ?_, fun base => ?_⟩
  · obtain ⟨e, he⟩ := pure ns hl
    have hr : ∀ (Z : Addr → Prop), Reps K [] Z H (ns.map .int) (ns.map V.int) [] := fun Z => by
      clear he hl sq
      induction ns with
      | nil => exact ⟨rfl, rfl⟩
      | cons i ns ih => exact ⟨.int i, _, [], [], rfl, ⟨rfl, rfl⟩, ih, rfl⟩
    have hh : nohL (ns.map D.int) = true := by
      clear he hl sq hr
      induction ns with
      | nil => rfl
      | cons i ns ih => simpa [nohL, D.noh] using ih
    have mk : ∀ (Z : Addr → Prop), RoL K Z H a (ns.map V.int) → (∀ b, Z b → H b ≠ none) → SpC K (callF Pr W k) (f, none) [.ref a] H (fun v _ => v = .bl true) fun _ _ _ => False := fun Z ro zt => by
      refine ⟨Z, [.lst true (ns.map .int)], [], _, _, ⟨.ref a, [], [], [], rfl, ⟨a, _, [], rfl, hr Z, ro, rfl, rfl, hh⟩, ⟨rfl, rfl⟩, rfl⟩, ⟨List.nodup_nil, by simp, by simp, zt⟩, he, rfl, fun v H' Z' Fr Ff _ r _ => r.1⟩
    rcases sq with (sq | ⟨o, sq⟩) | sq
    · exact mk (fun b => b = a) (.inl (.inl ⟨sq, rfl⟩)) fun b hb => by rw [hb, sq]; exact fun z => nomatch z
    · exact mk (fun _ => False) (.inl (.inr ⟨o, sq⟩)) fun b hb => hb.elim
    · exact mk (fun _ => False) (.inr sq) fun b hb => hb.elim
  · obtain ⟨fa2, fd2, ps2, F2, ⟨h1, ⟨oc, od, osl, h2⟩, _⟩, _, _, hid2⟩ := (keepsK (P := P) (w := w) (base := base) (W := W) M k).1 _ fdl hg
    have e2 : fa2 = fa1 := by
      have h3 : mg f = some (.ref fa2) := hid2
      rw [hm] at h3
      cases h3
      rfl
    subst e2
    obtain ⟨oc', od', osl', h4⟩ := lkF F
    rw [h2] at h4
    cases h4
    have : ps2 = [x] := h1.trans hn
    subst this
    exact F2
end
end Pv

/-! Pv, part T: what is looked at behind the top. -/
namespace Pv
open PySem PySem.Spec PyProof.Rows L2
mutual
/-- a constant as it stands in the written part -/
def repK (K : PySem.W.Frag) : D → Value → Bool
  | .non, .none => true
  | .bl b, .bool c => b == c
  | .int i, .int j _ => decide (i = j)
  | .str x, .str y _ => decide (x = y)
  | .tup l, .ref a => (match K.lookup a with
    | some ⟨.type c, none, .seq its _, _⟩ => decide (c = "tuple") && decide (its.size ≤ sizeLine) && repKs K l its.toList
    | _ => false)
  | .lst true l, .ref a => (match K.lookup a with
    | some ⟨.type c, none, .seq its _, _⟩ => decide (c = "list") && decide (its.size ≤ sizeLine) && nohL l && repKs K l its.toList
    | _ => false)
  | _, _ => false
def repKs (K : PySem.W.Frag) : List D → List Value → Bool
  | [], [] => true
  | d :: l, u :: us => repK K d u && repKs K l us
  | _, _ => false
end
mutual
theorem repK_ok {K : PySem.W.Frag} : ∀ {d : D} {u : Value}, repK K d u = true → ∃ v, RelV v u ∧ (∀ η Z H, Rep K η Z H d v []) ∧ (∀ l, d = .tup l → ∃ p o, v = .ref p ∧ K.lookup p = some o ∧ o.cls = .type "tuple" ∧ o.dict = none)
  | .non, u, h => by
    cases u with
    | none => exact ⟨.non, rfl, fun _ _ _ => ⟨rfl, rfl⟩, fun l e => by cases e⟩
    | _ => simp [repK] at h
  | .bl b, u, h => by
    cases u with
    | bool c =>
      simp only [repK, beq_iff_eq] at h
      subst h
      exact ⟨.bl b, rfl, fun _ _ _ => ⟨rfl, rfl⟩, fun l e => by cases e⟩
    | _ => simp [repK] at h
  | .int i, u, h => by
    cases u with
    | int j t =>
      simp only [repK, decide_eq_true_eq] at h
      subst h
      exact ⟨.int i, ⟨t, rfl⟩, fun _ _ _ => ⟨rfl, rfl⟩, fun l e => by cases e⟩
    | _ => simp [repK] at h
  | .str x, u, h => by
    cases u with
    | str y t =>
      simp only [repK, decide_eq_true_eq] at h
      subst h
      exact ⟨.str x, ⟨t, rfl⟩, fun _ _ _ => ⟨rfl, rfl⟩, fun l e => by cases e⟩
    | _ => simp [repK] at h
  | .tup l, u, h => by
    cases u with
    | ref a =>
      simp only [repK] at h
      split at h
      · rename_i c its n osl q
        simp only [Bool.and_eq_true, decide_eq_true_eq] at h
        obtain ⟨⟨rfl, h2⟩, h3⟩ := h
        obtain ⟨vs, h4, h5⟩ := repKs_ok h3
        exact ⟨.ref a, rfl, fun η Z H => ⟨a, vs, rfl, .inr ⟨_, its, n, q, rfl, rfl, h2, h4⟩, h5 η Z H⟩, fun l' e => ⟨a, _, rfl, q, rfl, rfl⟩⟩
      · cases h
    | _ => simp [repK] at h
  | .lst z l, u, h => by
    cases z with
    | false => cases u <;> simp [repK] at h
    | true =>
      cases u with
      | ref a =>
        simp only [repK] at h
        split at h
        · rename_i c its n osl q
          simp only [Bool.and_eq_true, decide_eq_true_eq] at h
          obtain ⟨⟨⟨rfl, h2⟩, h6⟩, h3⟩ := h
          obtain ⟨vs, h4, h5⟩ := repKs_ok h3
          exact ⟨.ref a, rfl, fun η Z H => ⟨a, vs, [], rfl, h5 η Z H, .inr ⟨_, its, n, q, rfl, rfl, rfl, h2, h4⟩, rfl, rfl, h6⟩, fun l' e => by cases e⟩
        · cases h
      | _ => simp [repK] at h
  | .dk _ _ _, u, h => by cases u <;> simp [repK] at h
  | .dt _ _ _, u, h => by cases u <;> simp [repK] at h
  | .ins _ _ _ _, u, h => by cases u <;> simp [repK] at h
  | .glo _, u, h => by cases u <;> simp [repK] at h
  | .hole _, u, h => by cases u <;> simp [repK] at h
theorem repKs_ok {K : PySem.W.Frag} : ∀ {l : List D} {us : List Value}, repKs K l us = true → ∃ vs, Vals vs us ∧ ∀ η Z H, Reps K η Z H l vs []
  | [], [], _ => ⟨[], .nil, fun _ _ _ => ⟨rfl, rfl⟩⟩
  | [], _ :: _, h => by simp [repKs] at h
  | _ :: _, [], h => by simp [repKs] at h
  | d :: l, u :: us, h => by
    simp only [repKs, Bool.and_eq_true] at h
    obtain ⟨v, h1, h2, _⟩ := repK_ok h.1
    obtain ⟨vs, h3, h4⟩ := repKs_ok h.2
    exact ⟨v :: vs, .cons h1 h3, fun η Z H => ⟨v, vs, [], [], rfl, h2 η Z H, h4 η Z H, rfl⟩⟩
end
/-- the module's name x is the constant d -/
def conB (K : PySem.W.Frag) (c : Str × D) : Bool := match PySem.W.nsIn K mainGlobals c.1 with
  | some (some u) => repK K c.2 u
  | _ => false
abbrev AlP : Type := He.AlD × Bool
def obsP (fa : List He.Fa) (fn : List He.DefD) (cs : List (Str × D)) (K : PySem.W.Frag) : AlP := (He.obsD fa fn K, cs.all fun c => conB K c)
def valP (fn : List He.DefD) : AlP := (He.valD fn, true)
def SaysP (fa : List He.Fa) (fn : List He.DefD) (cs : List (Str × D)) (K : PySem.W.Frag) : Prop := obsP fa fn cs K = valP fn
def obsPG (n : Nat) (fa : List He.Fa) (fn : List He.DefD) (cs : List (Str × D)) (g : Addr → Option Obj) : AlP := obsP fa fn cs (He.frG g (He.asD g n))
def hookP (n : Nat) (fa : List He.Fa) (fn : List He.DefD) (cs : List (Str × D)) : PySem.W.Hook where
  α := AlP
  obs := fun s => obsPG n fa fn cs s.heap.get?
  val := fun _ => valP fn
  says := fun _ h => ∃ K : PySem.W.Frag, K.In h ∧ SaysP fa fn cs K
  of := fun _ _ e => ⟨_, He.frG_in, e⟩
  keeps := fun _ _ _ ⟨K, hK, c⟩ k => ⟨K, PySem.W.Frag.In.keeps hK k, c⟩
theorem obsPG_eq {n : Nat} {fa : List He.Fa} {fn : List He.DefD} {cs : List (Str × D)} {g : Addr → Option Obj} {s : Shared} (h : ∀ a, g a = s.heap.get? a) : obsPG n fa fn cs g = (hookP n fa fn cs).obs s := by
  have e : g = s.heap.get? := funext h
  rw [e] <;> rfl
theorem SaysP.d {fa : List He.Fa} {fn : List He.DefD} {cs : List (Str × D)} {K : PySem.W.Frag} (c : SaysP fa fn cs K) : He.SaysD fa fn K := congrArg Prod.fst c
theorem SaysP.con {fa : List He.Fa} {fn : List He.DefD} {cs : List (Str × D)} {K : PySem.W.Frag} (c : SaysP fa fn cs K) {x : Str} {d : D} (h : (x, d) ∈ cs) : conB K (x, d) = true := by
  have : (cs.all fun c => conB K c) = true := congrArg Prod.snd c
  exact List.all_eq_true.mp this _ h
/-- a def of the text, its reading -/
structure FnX where
  id : FId
  fd : Fn
  d : He.DefD
  N : List Str
  ps : List Str
  df : List Int
  kn : Option Str
/-- written whole numbers -/
def dvI : List He.Dv → Option (List Int)
  | [] => some []
  | .int i :: r => (dvI r).map (i :: ·)
  | _ :: _ => none
theorem dvI_ok {K : PySem.W.Frag} : ∀ {l : List He.Dv} {is : List Int}, dvI l = some is → l.map (He.Dv.v K) = is.map V.int
  | [], is, h => by cases h; rfl
  | e :: r, is, h => by
    cases e with
    | int i =>
      simp only [dvI, Option.map_eq_some_iff] at h
      obtain ⟨js, h1, rfl⟩ := h
      simp [dvI_ok h1, He.Dv.v]
    | _ => simp [dvI] at h
def FnX.chk (tab : Tab) (e : FnX) : Bool := C8.scC e.N e.ps e.d.scope && mSs e.fd.body ⟨e.N, e.d.scope, fun _ => true, tab.dfl, tab.kwn⟩ e.d.body && decide (e.fd.np = e.ps.length) && decide (e.N.length ≤ e.fd.n) && decide (e.ps.length ≤ e.N.length) &&
  decide (dvI e.d.dfl = some e.df) && e.d.kwd.isEmpty && decide (e.d.at_ = e.id) && (match e.id with
    | (f, none) => decide ((tab.dfl.lookup f).getD [] = e.df) && decide (tab.kwn.lookup f = e.kn) && (e.kn.isNone || !e.df.isEmpty)
    | (c, some _) => tab.cls.contains c)
def FnX.bind (e : FnX) : Prop := (e.df = [] → ∀ (kV doc pm : Value) (an : Option Addr) (cdv ct : Value) (us : List Value), us.length = e.ps.length → bindArgs (PySem.W.fnOf e.d.name e.d.qual e.d.params e.d.body e.d.scope .none kV doc pm an cdv ct) ⟨us, []⟩ = pure (e.ps.zip us)) ∧
  (e.df ≠ [] → ∀ (j : Nat), j ≤ e.df.length → e.df.length ≤ e.ps.length ∧ ∀ (T : Addr) (kV doc pm : Value) (an : Option Addr) (cdv ct : Value) (us its : List Value), us.length = e.ps.length - (e.df.length - j) → its.length = e.df.length →
    ∃ k, bindArgs (PySem.W.fnOf e.d.name e.d.qual e.d.params e.d.body e.d.scope (.ref T) kV doc pm an cdv ct) ⟨us, []⟩ = seqItems? (.ref T) >>= k ∧ k (some its.toArray) = pure (e.ps.zip (us ++ its.drop j))) ∧
  (∀ a, e.kn = some a → ∀ (T : Addr) (kV doc pm : Value) (an : Option Addr) (cdv ct : Value) (us its : List Value) (v : Value), us.length + 1 = e.ps.length → its.length = e.df.length →
    ∃ k, bindArgs (PySem.W.fnOf e.d.name e.d.qual e.d.params e.d.body e.d.scope (.ref T) kV doc pm an cdv ct) ⟨us, [(a, v)]⟩ = seqItems? (.ref T) >>= k ∧ k (some its.toArray) = pure (e.ps.zip (us ++ [v])))
theorem FunD.bindsK {K : PySem.W.Frag} {x qual : Str} {params : Arguments} {body : List Stmt} {scope : Scope} {dvs : List V} {kws : List (Str × V)} {f : Addr} {fd : FuncData} {ps : List Str} (F : FunD K x qual params body scope dvs kws f fd) (a : Str) (hd : dvs ≠ []) (hp : ps ≠ [])
    (h : ∀ (T : Addr) (kV doc pm : Value) (an : Option Addr) (cdv ct : Value) (us its : List Value) (v : Value), us.length + 1 = ps.length → its.length = dvs.length →
      ∃ k, bindArgs (PySem.W.fnOf x qual params body scope (.ref T) kV doc pm an cdv ct) ⟨us, [(a, v)]⟩ = seqItems? (.ref T) >>= k ∧ k (some its.toArray) = pure (ps.zip (us ++ [v]))) : KBinds K fd ps [a] kG kG := by
  obtain ⟨oc, od, dV, kV, doc, pm, an, cdv, ct, osl, rfl, lk, hcd, hD, hK⟩ := F.ex
  rcases hD with ⟨e, _⟩ | ⟨_, T, o, its, m, rfl, lT, oT, rT⟩
  · exact absurd e hd
  · refine ⟨fun s us ws X hlen => ?_, fun {vs us zs ws} r1 r2 => ?_⟩
    · by_cases h1 : ws.length = 1
      · match ws, h1 with
        | [v], _ =>
          have hg : kG us [v] = us ++ [v] := rfl
          rw [hg] at hlen ⊢
          obtain ⟨k, e1, e2⟩ := h T kV doc pm an cdv ct us its v (by simpa using hlen) rT.length.symm
          refine BindsTo.of_looks fun M => ?_
          rw [show [a].zip [v] = [(a, v)] from rfl, e1]
          exact looks_items X lT oT (.of_pure e2)
      · have hg : kG us ws = [] := by simp [kG, h1]
        rw [hg] at hlen
        exact absurd (List.eq_nil_of_length_eq_zero hlen.symm) hp
    · have hl := r2.length
      by_cases h1 : ws.length = 1
      · simp only [kG, h1, hl, if_true]
        exact r1.append r2
      · simp only [kG, h1, hl, if_false]
        exact .nil
def progOf (tab : Tab) (fs : List FnX) : Prog := ⟨tab, fs.map fun e => (e.id, e.fd)⟩
/-- the facts of the module: names, classes, methods -/
def faOf (tab : Tab) (fs : List FnX) (blt : List Str) : List He.Fa := fs.flatMap (fun e => match e.id with
    | (f, none) => [.glo f]
    | (c, some m) => .meth c m :: (if m = "__init__" then [.mkr c] else [])) ++ (tab.cls.flatMap fun c => .glo c :: .cls c :: tab.flds.map (.noat c)) ++ blt.map .free
def nmOf (fs : List FnX) (id : FId) : List Str := match fs.find? (fun e => decide (e.id = id)) with
  | some e => e.ps
  | none => []
theorem get_mem {tab : Tab} : ∀ {fs : List FnX} {id : FId} {fd : Fn}, (progOf tab fs).get id = some fd → ∃ e ∈ fs, e.id = id ∧ e.fd = fd ∧ nmOf fs id = e.ps
  | [], id, fd, h => by simp [progOf, Prog.get] at h
  | e :: fs, id, fd, h => by
    simp only [progOf, Prog.get, List.map_cons, List.lookup] at h
    split at h
    · rename_i hb
      have hb' : id = e.id := by simpa using hb
      exact ⟨e, List.mem_cons_self, hb'.symm, Option.some.inj h, by simp [nmOf, List.find?_cons, hb']⟩
    · rename_i hb
      obtain ⟨e', m, h1, h2, h3⟩ := get_mem (tab := tab) (fs := fs) h
      have hb' : ¬ e.id = id := fun z => by simp [z] at hb
      refine ⟨e', List.mem_cons_of_mem _ m, h1, h2, ?_⟩
      rw [← h3]
      simp [nmOf, List.find?_cons, hb']
theorem modOk {tab : Tab} {fs : List FnX} {K : PySem.W.Frag} {h : Heap} {mg : Str → Option Value} (X : K.In h) (G : h.Ns mainGlobals mg) (c : SaysP (faOf tab fs bltL) (fs.map (·.d)) tab.con K) (hk : fs.all (FnX.chk tab) = true) (hb : ∀ e ∈ fs, e.bind) :
    ModOk (progOf tab fs) (nmOf fs) mg K := by
  have fact : ∀ f : He.Fa, f ∈ faOf tab fs bltL → f.ok K = true := fun f hf => by
    obtain ⟨i, hi⟩ := List.getElem?_of_mem hf
    exact c.d.fact i hi
  have clsf : ∀ x, tab.cls.contains x = true → He.Fa.glo x ∈ faOf tab fs bltL ∧ He.Fa.cls x ∈ faOf tab fs bltL ∧ ∀ f, tab.flds.contains f = true → He.Fa.noat x f ∈ faOf tab fs bltL := fun x hx => by
    have hx : x ∈ tab.cls := by simpa using hx
    have sub : ∀ g, g ∈ (He.Fa.glo x :: He.Fa.cls x :: tab.flds.map (He.Fa.noat x)) → g ∈ faOf tab fs bltL := fun g hg =>
      List.mem_append_left _ (List.mem_append_right _ (List.mem_flatMap.mpr ⟨x, hx, hg⟩))
    exact ⟨sub _ (by simp), sub _ (by simp), fun f hf => sub _ (by simp; exact by simpa using hf)⟩
  exact {
  con := fun x d e => by
    have hm : (x, d) ∈ tab.con := by
      have : ∀ {l : List (Str × D)}, l.lookup x = some d → (x, d) ∈ l := by
        intro l
        induction l with
        | nil => intro h; simp at h
        | cons a l ih =>
          intro h
          simp only [List.lookup] at h
          split at h
          · rename_i hb
            cases h
            have : x = a.1 := by simpa using hb
            rw [this]; exact List.mem_cons_self
          · exact List.mem_cons_of_mem _ (ih h)
      exact this e
    have := c.con hm
    unfold conB at this
    split at this
    · rename_i u hu
      obtain ⟨v, h1, h2, h3⟩ := repK_ok this
      exact ⟨u, v, PySem.W.mg_of X G hu, h1, h2, h3⟩
    · cases this
  blt := fun x hx => He.free_ok X G (fact _ (List.mem_append_right _ (List.mem_map_of_mem hx)))
  cls := ⟨fun x e => He.cls_ok (fact _ (clsf x e).2.1), fun x f e e2 => He.noat_ok (fact _ ((clsf x e).2.2 f e2))⟩
  fns := fun id fd he => by
    obtain ⟨e, hm, rfl, rfl, hnm⟩ := get_mem he
    clear he
    have hchk := List.all_eq_true.mp hk e hm
    simp only [FnX.chk, Bool.and_eq_true, decide_eq_true_eq, List.isEmpty_iff] at hchk
    obtain ⟨⟨⟨⟨⟨⟨⟨⟨h1, h2⟩, h3⟩, h4⟩, h5⟩, h6⟩, h7⟩, h8⟩, h9⟩ := hchk
    obtain ⟨i, hi⟩ := List.getElem?_of_mem (List.mem_map_of_mem (f := (·.d)) hm)
    obtain ⟨fdat, F⟩ := c.d.def_ i hi
    have hd : e.d.dvs K = e.df.map V.int := dvI_ok h6
    have hkw : e.d.kws K = [] := by simp [He.DefD.kws, h7]
    rw [hd, hkw] at F
    have S0 := C8.fnScope_by h1
    have hid : (match e.id with
      | (f, .none) => mg f = some (.ref (He.fAd K e.d.at_))
      | (c, some m) => Meth K (He.ga K c) m (He.fAd K e.d.at_) ∧ (m = "__init__" → mg c = some (.ref (He.ga K c)) ∧ Mk K (He.ga K c) (He.fAd K e.d.at_))) := by
      rw [h8]
      have mem : ∀ g, g ∈ (match e.id with
        | (f, none) => [He.Fa.glo f]
        | (c, some m) => He.Fa.meth c m :: (if m = "__init__" then [He.Fa.mkr c] else [])) → g ∈ faOf tab fs bltL := fun g hg =>
        List.mem_append_left _ (List.mem_append_left _ (List.mem_flatMap.mpr ⟨e, hm, hg⟩))
      cases hE : e.id with
      | mk f m =>
        rw [hE] at mem h9
        cases m with
        | none => exact He.glo_ok X G (fact _ (mem _ (by simp)))
        | some m =>
          refine ⟨He.meth_ok (fact _ (mem _ (by simp))), fun e => ?_⟩
          subst e
          exact ⟨He.glo_ok X G (fact _ (clsf f h9).1), He.mkr_ok (fact _ (mem _ (by simp)))⟩
    refine ⟨e.d.name, e.d.qual, e.d.params, e.d.body, e.d.scope, e.N, e.ps, He.fAd K e.d.at_, fdat, _, F, S0, ⟨hnm.symm, ?_⟩, h2, h3, h4, h5, hid⟩
    have hb := hb e hm
    refine ⟨e.df, fun h0 => ?_, fun j hj => ?_, fun f hf => ?_, fun f a hf ha => ?_⟩
    · rw [h0] at F
      exact FunD.bindsA F (hb.1 h0)
    · by_cases h0 : e.df = []
      · rw [h0] at F ⊢
        exact ⟨[], by simp; exact .nil, FunD.bindsN F (hb.1 h0)⟩
      · obtain ⟨hle, hb2⟩ := hb.2.1 h0 j hj
        have := FunD.binds1 F (e.ps.length - (e.df.length - j)) j (by simpa using h0) (by simp; omega) (fun T kV doc pm an cdv ct us its h1 h2 => hb2 T kV doc pm an cdv ct us its h1 (by simpa using h2))
        simpa using this
    · rw [hf] at h9
      simp only [Bool.and_eq_true, decide_eq_true_eq] at h9
      exact h9.1.1
    · rw [hf] at h9
      simp only [Bool.and_eq_true, decide_eq_true_eq] at h9
      have hkn : e.kn = some a := by rw [← h9.1.2]; exact ha
      have h10 : e.df ≠ [] := by
        intro z
        have := h9.2
        rw [hkn, z] at this
        simp at this
      have hps : e.ps ≠ [] := by
        intro z
        have := (hb.2.1 h10 0 (Nat.zero_le _)).1
        rw [z] at this
        exact h10 (List.eq_nil_of_length_eq_zero (by simpa using this))
      exact FunD.bindsK F a (by simpa using h10) hps fun T kV doc pm an cdv ct us its v l1 l2 => hb.2.2 a hkn T kV doc pm an cdv ct us its v l1 (by simpa using l2) }
end Pv

/-! Pv, part V: rules for reckoning, one for each form, called by value. -/
namespace Pv
section
variable {T : Tab} {cl cm : CallT} {fx : List Nat} {ρ ρ1 ρ2 ρ3 : Env} {W : Nat}
theorem e_var {i : Nat} {d : D} (h : ρ.s[i]? = some (.own d)) : evalO T cl cm (.var i) fx ρ = .ok (.mk d i []) ρ := by simp only [evalO, h]
theorem e_glo {x : PySem.Str} {d : D} (h : T.con.lookup x = some d) : evalO T cl cm (.glo x) fx ρ = .ok (.v d) ρ := by simp only [evalO, h]; rfl
theorem e_non : evalO T cl cm .non fx ρ = .ok (.v .non) ρ := by simp only [evalO]
theorem e_bl {b : Bool} : evalO T cl cm (.bl b) fx ρ = .ok (.v (.bl b)) ρ := by simp only [evalO]
theorem e_int {i : Int} : evalO T cl cm (.int i) fx ρ = .ok (.v (.int i)) ρ := by simp only [evalO]
theorem e_str {x : PySem.Str} : evalO T cl cm (.str x) fx ρ = .ok (.v (.str x)) ρ := by simp only [evalO]
theorem es_nil : evalOs T cl cm [] fx ρ = .ok [] ρ := by simp only [evalOs]
theorem es_cons {e : Ex} {r : List Ex} {o : Od} {os : List Od} (h : evalO T cl cm e fx ρ = .ok o ρ1) (hk : o.okb (purL r) = true) (h2 : evalOs T cl cm r fx ρ1 = .ok os ρ2) : evalOs T cl cm (e :: r) fx ρ = .ok (o :: os) ρ2 := by
  simp only [evalOs, h, Res.bind, hk, h2, if_true]
theorem e_tup {l : List Ex} {os : List Od} {ds : List D} (h : evalOs T cl cm l fx ρ = .ok os ρ1) (h2 : allV os = some ds) (h3 : decide (l.length ≤ 1000) = true) : evalO T cl cm (.tup l) fx ρ = .ok (.v (.tup ds)) ρ1 := by
  have h3 := of_decide_eq_true h3
  simp only [evalO, h, Res.bind, h2, h3, if_true]; rfl
theorem e_lst {l : List Ex} {os : List Od} {ds : List D} (h : evalOs T cl cm l fx ρ = .ok os ρ1) (h2 : allV os = some ds) (h3 : decide (l.length ≤ 1000) = true) : evalO T cl cm (.lst l) fx ρ = .ok (.v (.lst false ds)) ρ1 := by
  have h3 := of_decide_eq_true h3
  simp only [evalO, h, Res.bind, h2, h3, if_true]; rfl
theorem e_bin {o : Bin} {a b : Ex} {x y : Od} {d e r : D} (ha : evalO T cl cm a fx ρ = .ok x ρ1) (hb : evalO T cl cm b fx ρ1 = .ok y ρ2) (hk : x.okb b.pur = true) (hd : x.rd ρ2 = some d) (he : y.rd ρ2 = some e) (hr : binD o d e = some r) :
    evalO T cl cm (.bin o a b) fx ρ = .ok (.v r) ρ2 := by
  simp only [evalO, ha, Res.bind, hb, hk, hd, he, hr, if_true]; rfl
theorem e_neg {a : Ex} {o : Od} {i : Int} (ha : evalO T cl cm a fx ρ = .ok o ρ1) (ho : o = .v (.int i)) : evalO T cl cm (.neg a) fx ρ = .ok (.v (.int (-i))) ρ1 := by
  subst ho
  simp only [evalO, ha, Res.bind]
theorem e_cmp {o : Cm} {a b : Ex} {x y : Od} {d e : D} {r : Bool} (ha : evalO T cl cm a fx ρ = .ok x ρ1) (hb : evalO T cl cm b fx ρ1 = .ok y ρ2) (hk : x.okb b.pur = true) (hd : x.rd ρ2 = some d) (he : y.rd ρ2 = some e) (hr : cmpD o d e = some r) :
    evalO T cl cm (.cmp o a b) fx ρ = .ok (.v (.bl r)) ρ2 := by
  simp only [evalO, ha, Res.bind, hb, hk, hd, he, hr, if_true]; rfl
theorem e_not {a : Ex} {o : Od} {b : Bool} (ha : evalO T cl cm a fx ρ = .ok o ρ1) (ht : truO o ρ1 = .ok b ρ2) : evalO T cl cm (.not a) fx ρ = .ok (.v (.bl !b)) ρ2 := by
  simp only [evalO, ha, Res.bind, ht]
theorem e_bopG {k c : Bool} {a b : Ex} {o : Od} {r : Res Od} (ha : evalO T cl cm a fx ρ = .ok o ρ1) (ho : o = .v (.bl c)) (hc : c = k) (hb : evalO T cl cm b fx ρ1 = r) : evalO T cl cm (.bop k a b) fx ρ = r := by
  subst ho hc hb
  simp only [evalO, ha, Res.bind, if_true]
theorem e_bopS {k c : Bool} {a b : Ex} {o : Od} (ha : evalO T cl cm a fx ρ = .ok o ρ1) (ho : o = .v (.bl c)) (hc : c = !k) : evalO T cl cm (.bop k a b) fx ρ = .ok (.v (.bl c)) ρ1 := by
  subst ho hc
  simp only [evalO, ha, Res.bind]
  cases k <;> simp
theorem e_idx {a i : Ex} {x y r : Od} {d k e : D} (ha : evalO T cl cm a fx ρ = .ok x ρ1) (hb : evalO T cl cm i fx ρ1 = .ok y ρ2) (hk : x.okb i.pur = true) (hd : x.rd ρ2 = some d) (hy : y = .v k) (hi : idxD d k = some e) (hp : x.part d (stepOf d k) e = some r) :
    evalO T cl cm (.idx a i) fx ρ = .ok r ρ2 := by
  subst hy
  simp only [evalO, ha, Res.bind, hb, hk, hd, hi, hp, if_true, Option.bind_some]; rfl
theorem p_nil : evalP T cl cm [] fx ρ = .ok none ρ := by simp only [evalP]
theorem p_one {e : Ex} {r : List Ex} {o : Od} {i : Int} (h : evalO T cl cm e fx ρ = .ok o ρ1) (ho : o = .v (.int i)) : evalP T cl cm (e :: r) fx ρ = .ok (some i) ρ1 := by
  subst ho
  simp only [evalP, h, Res.bind]
theorem e_sli {a : Ex} {lo hi : List Ex} {x : Od} {l h : Option Int} {d r : D} (ha : evalO T cl cm a fx ρ = .ok x ρ1) (hl : evalP T cl cm lo fx ρ1 = .ok l ρ2) (hh : evalP T cl cm hi fx ρ2 = .ok h ρ3) (hk : x.okb (purL lo && purL hi) = true) (hd : x.rd ρ3 = some d) (hr : sliD d l h = some r) :
    evalO T cl cm (.sli a lo hi) fx ρ = .ok (.v r) ρ3 := by
  simp only [evalO, ha, Res.bind, hl, hh, hk, hd, hr, if_true, Option.bind_some]; rfl
theorem e_call {f : PySem.Str} {l : List Ex} {os : List Od} {as : List (Bool × Od)} {ds l' : List D} {d : D} (h : evalOs T cl cm l fx ρ = .ok os ρ1) (has : (l.map Ex.isRo).zip os = as) (ha : apartA as = true) (hd : argDs ρ1 as = some ds) (hc : cl (f, none) ds = .ok d l')
    (hk : (okRo as d l' && decide (l'.length = as.length)) = true) (hb : killE T.al (belowA as) (backA as l' ρ1) = ρ2) : evalO T cl cm (.call f l) fx ρ = .ok (.v d) ρ2 := by
  subst has hb
  simp only [evalO, h, Res.bind, doCall, ha, hd, hc, hk, if_true]
theorem e_bi {b : Bi} {l : List Ex} {os : List Od} {ds : List D} {r : D} (h : evalOs T cl cm l fx ρ = .ok os ρ1) (hd : rdAll ρ1 os = some ds) (hr : biD b ds = some r) : evalO T cl cm (.bi b l) fx ρ = .ok (.v r) ρ1 := by
  simp only [evalO, h, Res.bind, hd, hr]; rfl
theorem e_isi {a : Ex} {u : Bool} {ts : List Ty} {o : Od} {d : D} {b : Bool} (h : evalO T cl cm a fx ρ = .ok o ρ1) (hd : o.rd ρ1 = some d) (ht : isAny d ts = some b) : evalO T cl cm (.isi a u ts) fx ρ = .ok (.v (.bl b)) ρ1 := by
  simp only [evalO, h, Res.bind, hd, ht, Option.bind_some]; rfl
theorem i_exV {e : Ex} {g : Nat} {o : Od} {d : D} {t : Bool} {n : Nat} (h : evalO T cl cm e fx ρ = .ok o ρ1) (ho : o = .v d) (hs : seqOf d = some (t, n)) (hg : (lk T.al fx g || decide (ρ1.s.length ≤ g)) = false) : evalI T cl cm (.ex e) g fx ρ = .ok (.seq t g n) (setS ρ1 g (.own d)) := by
  subst ho
  cases d <;> simp [seqOf] at hs <;> (obtain ⟨rfl, rfl⟩ := hs; simp only [evalI, h, Res.bind, seqOf, hg]; rfl)
theorem i_enuV {e : Ex} {g : Nat} {o : Od} {d : D} {n : Nat} (h : evalO T cl cm e fx ρ = .ok o ρ1) (ho : o = .v d) (hs : seqOf d = some (false, n)) (hg : (lk T.al fx g || decide (ρ1.s.length ≤ g)) = false) : evalI T cl cm (.enu e) g fx ρ = .ok (.enu g n) (setS ρ1 g (.own d)) := by
  subst ho
  simp only [evalI, h, Res.bind, hs, hg]; rfl
theorem e_lc {t : Tg} {ow : List Nat} {e : Ex} {it : It} {g : Nat} {c : List Ex} {w : Walk} {ds : List D} (hi : evalI T cl cm it g fx ρ = .ok w ρ1)
    (ho : (ow.all (fun i => !lk T.al (w.fx []) i && match ρ1.s[i]? with | some .no => true | some (.own d) => d.imm | _ => false)) = true)
    (hl : lcLoop w (fun d ρ => asgI T.al (w.fx fx) t d (wipeS ow ρ)) (fun ρ => evalC T cl cm c (w.fx fx) ρ) (fun ρ => evalO T cl cm e (w.fx fx) ρ) w.len 0 [] (wipeS ow ρ1) = .ok ds ρ2) (hf : w.gone g (backS ρ1 ow ρ2) = ρ3) :
    evalO T cl cm (.lc t ow e it g c) fx ρ = .ok (.v (.lst false ds)) ρ3 := by
  subst hf
  simp only [evalO, hi, Res.bind]
  refine (if_pos ho).trans ?_
  rw [hl]
theorem c_nil : evalC T cl cm [] fx ρ = .ok true ρ := by simp only [evalC]
theorem lc_nil {w : Walk} {t : D → Env → Res Unit} {c : Env → Res Bool} {e : Env → Res Od} {i : Nat} {acc : List D} (h : w.there ρ = true) : lcLoop w t c e 0 i acc ρ = .ok acc ρ := by simp only [lcLoop, h, if_true]
theorem lc_turn {w : Walk} {t : D → Env → Res Unit} {c : Env → Res Bool} {e : Env → Res Od} {i m : Nat} {acc ds : List D} {d y : D} {o : Od} {ρ4 : Env} (h : w.there ρ = true) (hd : w.item ρ i = some d) (ht : t d ρ = .ok () ρ1) (hc : c ρ1 = .ok true ρ2) (he : e ρ2 = .ok o ρ3) (ho : o = .v y) (hz : decide (acc.length < PySem.sizeLine) = true)
    (hr : lcLoop w t c e m (i + 1) (acc ++ [y]) ρ3 = .ok ds ρ4) : lcLoop w t c e (m + 1) i acc ρ = .ok ds ρ4 := by
  subst ho
  have hz := of_decide_eq_true hz
  simp only [lcLoop, h, hd, ht, hc, he, hz, hr, Res.bind, if_true]
theorem t_nm {i : Nat} {o : Od} {d : D} (ho : o = .v d) (h : asgN T.al fx i d ρ = .ok () ρ1) : asgT T cl cm (.nm i) o fx ρ = .ok () ρ1 := by
  subst ho
  simp only [asgT, h]
theorem t_ix {a i : Ex} {o x y : Od} {d k e e' : D} {r : Nat} {q : List Stp} (ho : o = .v d) (ha : evalO T cl cm a fx ρ = .ok x ρ1) (hb : evalO T cl cm i fx ρ1 = .ok y ρ2) (hk : x.okb i.pur = true) (hx : x = .p r q) (hy : y = .v k) (hg : getP ρ2 r q = some e) (hs : ixSet e k d = some e') (hp : killE T.al (belowK r q k) (putP ρ2 r q e') = ρ3) : asgT T cl cm (.ix a i) o fx ρ = .ok () ρ3 := by
  subst ho hx hy hp
  simp only [asgT, ha, Res.bind, hb, hk, hg, hs, if_true, Option.bind_some]
theorem x_asg {t : Tg} {e : Ex} {o : Od} (h : evalO T cl cm e fx ρ = .ok o ρ1) (ht : asgT T cl cm t o fx ρ1 = .ok () ρ2) : exec T cl cm W (.asg t e) fx ρ = .nx ρ2 := by
  simp only [exec, h, Res.st, ht]
theorem x_ret {e : Ex} {o : Od} {d : D} (h : evalO T cl cm e fx ρ = .ok o ρ1) (ho : o = .v d) : exec T cl cm W (.ret e) fx ρ = .rt d ρ1 := by
  subst ho
  simp only [exec, h, Res.st]
theorem x_iteT {c : Ex} {a b : List Sx} {o : Od} {t : Bool} {r : SRes} (h : evalO T cl cm c fx ρ = .ok o ρ1) (ht : truO o ρ1 = .ok t ρ2) (hb : t = true) (hr : execs T cl cm W a fx ρ2 = r) : exec T cl cm W (.ite c a b) fx ρ = r := by
  subst hb hr
  simp only [exec, h, Res.st, ht, if_true]
theorem x_iteF {c : Ex} {a b : List Sx} {o : Od} {t : Bool} {r : SRes} (h : evalO T cl cm c fx ρ = .ok o ρ1) (ht : truO o ρ1 = .ok t ρ2) (hb : t = false) (hr : execs T cl cm W b fx ρ2 = r) : exec T cl cm W (.ite c a b) fx ρ = r := by
  subst hb hr
  simp only [exec, h, Res.st, ht, Bool.false_eq_true, if_false]
theorem x_for {t : Tg} {it : It} {g : Nat} {b : List Sx} {w : Walk} (h : evalI T cl cm it g fx ρ = .ok w ρ1) (hl : forLoop w (fun d ρ => asgI T.al (w.fx fx) t d ρ) (fun ρ => execs T cl cm W b (w.fx fx) ρ) w.len 0 ρ1 = .nx ρ2) (hf : w.gone g ρ2 = ρ3) : exec T cl cm W (.for t it g b) fx ρ = .nx ρ3 := by
  subst hf
  simp only [exec, h, Res.st, hl, SRes.sq]
theorem xs_nil : execs T cl cm W [] fx ρ = .nx ρ := by simp only [execs]
theorem xs_nx {s : Sx} {r : List Sx} {res : SRes} (h : exec T cl cm W s fx ρ = .nx ρ1) (h2 : execs T cl cm W r fx ρ1 = res) : execs T cl cm W (s :: r) fx ρ = res := by
  simp only [execs, h, SRes.sq, h2]
theorem xs_rt {s : Sx} {r : List Sx} {d : D} (h : exec T cl cm W s fx ρ = .rt d ρ1) : execs T cl cm W (s :: r) fx ρ = .rt d ρ1 := by
  simp only [execs, h, SRes.sq]
theorem f_turn {w : Walk} {t : D → Env → Res Unit} {b : Env → SRes} {i m : Nat} {d : D} {r : SRes} (h : w.there ρ = true) (hd : w.item ρ i = some d) (ht : t d ρ = .ok () ρ1) (hb : b ρ1 = .nx ρ2) (hr : forLoop w t b m (i + 1) ρ2 = r) : forLoop w t b (m + 1) i ρ = r := by
  simp only [forLoop, h, hd, ht, hb, hr, Res.st, if_true]
theorem f_nil {w : Walk} {t : D → Env → Res Unit} {b : Env → SRes} {i : Nat} (h : w.there ρ = true) : forLoop w t b 0 i ρ = .nx ρ := by simp only [forLoop, h, if_true]
/-- a walk with an invariant -/
theorem f_inv {w : Walk} {t : D → Env → Res Unit} {b : Env → SRes} {n : Nat} (I : Nat → Env → Prop) (hs : ∀ i ρ, i < n → I i ρ → ∃ ρ2, I (i + 1) ρ2 ∧ ∀ m r, forLoop w t b m (i + 1) ρ2 = r → forLoop w t b (m + 1) i ρ = r) (he : ∀ ρ, I n ρ → w.there ρ = true) :
    ∀ (m i : Nat) (ρ : Env), i + m = n → I i ρ → ∃ ρ', I n ρ' ∧ forLoop w t b m i ρ = .nx ρ'
  | 0, i, ρ, hi, h => by
    have : i = n := by omega
    subst this
    exact ⟨ρ, h, f_nil (he ρ h)⟩
  | m + 1, i, ρ, hi, h => by
    obtain ⟨ρ2, h2, h3⟩ := hs i ρ (by omega) h
    obtain ⟨ρ', h4, h5⟩ := f_inv I hs he m (i + 1) ρ2 (by omega) h2
    exact ⟨ρ', h4, h3 m _ h5⟩
end
theorem r_call {Pr : Prog} {W k : Nat} {id : FId} {fd : Fn} {ds l : List D} {d : D} {ρ : Env} (hg : Pr.get id = some fd) (hl : decide (ds.length = fd.np) = true) (hx : execs (Pr.tab.wal fd.dfl) (callF Pr W k) (callM Pr W k) W fd.body (mutIx ds 0) (startE fd.n ds) = .rt d ρ) (hf : finals ds 0 ρ = some l) :
    callF Pr W (k + 1) id ds = .ok d l := by
  have hl := of_decide_eq_true hl
  rw [callF_succ, hg]
  simp only [runF, hl, hx, hf, if_true]
  rfl
/-- a body's end -/
def fin (ds : List D) : SRes → CRes
  | .rt d ρ => CRes.of d (finals ds 0 ρ)
  | .nx ρ => CRes.of .non (finals ds 0 ρ)
  | .ex x ρ => CRes.ofx x (finals ds 0 ρ)
  | _ => .no
theorem r_fin {Pr : Prog} {W k : Nat} {id : FId} {fd : Fn} {ds : List D} {c : CRes} (hg : Pr.get id = some fd) (hl : decide (ds.length = fd.np) = true) (hx : fin ds (execs (Pr.tab.wal fd.dfl) (callF Pr W k) (callM Pr W k) W fd.body (mutIx ds 0) (startE fd.n ds)) = c) :
    callF Pr W (k + 1) id ds = c := by
  have hl := of_decide_eq_true hl
  rw [callF_succ, hg]
  subst hx
  simp only [runF, hl, if_true]
  rfl
section
variable {T : Tab} {cl cm : CallT} {fx : List Nat} {ρ ρ1 ρ2 : Env} {W : Nat} {ds : List D} {c : CRes}
theorem g_nx {s : Sx} {r : List Sx} (h : exec T cl cm W s fx ρ = .nx ρ1) (h2 : fin ds (execs T cl cm W r fx ρ1) = c) : fin ds (execs T cl cm W (s :: r) fx ρ) = c := by rw [xs_nx h rfl]; exact h2
theorem g_iteF {e : Ex} {a b r : List Sx} {o : Od} {t : Bool} (h : evalO T cl cm e fx ρ = .ok o ρ1) (ht : truO o ρ1 = .ok t ρ2) (hb : t = false) (hr : fin ds (execs T cl cm W (b ++ r) fx ρ2) = c) : fin ds (execs T cl cm W (.ite e a b :: r) fx ρ) = c := by
  have ap : ∀ (b : List Sx) (ρ : Env), execs T cl cm W (b ++ r) fx ρ = (execs T cl cm W b fx ρ).sq fun ρ => execs T cl cm W r fx ρ := by
    intro b
    induction b with
    | nil => intro ρ; simp only [List.nil_append, execs, SRes.sq]
    | cons s b ih =>
      intro ρ
      simp only [List.cons_append, execs]
      cases exec T cl cm W s fx ρ <;> simp only [SRes.sq, ih]
  rw [← hr, ap, ← x_iteF (a := a) h ht hb rfl]
  simp only [execs]
theorem g_iteT {e : Ex} {a b r : List Sx} {o : Od} {t : Bool} (h : evalO T cl cm e fx ρ = .ok o ρ1) (ht : truO o ρ1 = .ok t ρ2) (hb : t = true) (hr : fin ds (execs T cl cm W (a ++ r) fx ρ2) = c) : fin ds (execs T cl cm W (.ite e a b :: r) fx ρ) = c := by
  have ap : ∀ (b : List Sx) (ρ : Env), execs T cl cm W (b ++ r) fx ρ = (execs T cl cm W b fx ρ).sq fun ρ => execs T cl cm W r fx ρ := by
    intro b
    induction b with
    | nil => intro ρ; simp only [List.nil_append, execs, SRes.sq]
    | cons s b ih =>
      intro ρ
      simp only [List.cons_append, execs]
      cases exec T cl cm W s fx ρ <;> simp only [SRes.sq, ih]
  rw [← hr, ap, ← x_iteT (b := b) h ht hb rfl]
  simp only [execs]
theorem g_ret {e : Ex} {r : List Sx} {o : Od} {d : D} (h : evalO T cl cm e fx ρ = .ok o ρ1) (ho : o = .v d) (hf : CRes.of d (finals ds 0 ρ1) = c) : fin ds (execs T cl cm W (.ret e :: r) fx ρ) = c := by
  rw [xs_rt (x_ret h ho)]; exact hf
end
end Pv

/-! Pv, part W: more rules: ranges, methods, walks with invariants, lists of numbers. -/
namespace Pv
variable {AL : AlT}
section
variable {T : Tab} {cl cm : CallT} {fx : List Nat} {ρ ρ1 ρ2 ρ3 : Env} {W : Nat}
theorem i_rng1 {l : List Ex} {g : Nat} {os : List Od} {j : Int} (h : evalOs T cl cm l fx ρ = .ok os ρ1) (ho : os = [.v (.int j)]) (hj : -(2 ^ 62) ≤ j ∧ j < 2 ^ 62) : evalI T cl cm (.rng l) g fx ρ = .ok (.rng 0 1 j.toNat) ρ1 := by
  subst ho
  simp only [evalI, h, Res.bind]
  rw [if_pos hj]
theorem i_rng2 {l : List Ex} {g : Nat} {os : List Od} {i j : Int} (h : evalOs T cl cm l fx ρ = .ok os ρ1) (ho : os = [.v (.int i), .v (.int j)]) (hj : (-(2 ^ 62) ≤ i ∧ i < 2 ^ 62) ∧ (-(2 ^ 62) ≤ j ∧ j < 2 ^ 62)) : evalI T cl cm (.rng l) g fx ρ = .ok (.rng i 1 (j - i).toNat) ρ1 := by
  subst ho
  simp only [evalI, h, Res.bind]
  rw [if_pos hj]
theorem e_bmD {b : Bm} {o : Ex} {l : List Ex} {x : Od} {os : List Od} {d d2 e d' : D} {ds : List D} {r : Nat} {q : List Stp} (ho : evalO T cl cm o fx ρ = .ok x ρ1) (hx : x = .p r q) (hd : getP ρ1 r q = some d) (ht : bmTy b d = true) (hl : evalOs T cl cm l fx ρ1 = .ok os ρ2) (hk : x.okb (purL l) = true)
    (hd2 : getP ρ2 r q = some d2) (hp : b.isP = false) (hv : allV os = some ds) (hb : bmD b d2 ds = some (e, d')) (hq : killE T.al (below r q) (putP ρ2 r q d') = ρ3) : evalO T cl cm (.bm b o l) fx ρ = .ok (.v e) ρ3 := by
  subst hx hq
  simp only [evalO, ho, Res.bind, Od.rd, hd, ht, if_true, hl, hk, hd2, hp, hv, hb, Bool.false_eq_true, if_false]
theorem e_bmP {b : Bm} {o : Ex} {l : List Ex} {x : Od} {os : List Od} {d d2 r : D} {ds : List D} (ho : evalO T cl cm o fx ρ = .ok x ρ1) (hd : x.rd ρ1 = some d) (ht : bmTy b d = true) (hl : evalOs T cl cm l fx ρ1 = .ok os ρ2) (hk : x.okb (purL l) = true)
    (hd2 : x.rd ρ2 = some d2) (hp : b.isP = true) (hv : rdAll ρ2 os = some ds) (hb : bmP b d2 ds = some r) : evalO T cl cm (.bm b o l) fx ρ = .ok (.v r) ρ2 := by
  simp only [evalO, ho, Res.bind, hd, ht, if_true, hl, hk, hd2, hp, hv, hb]
  rfl
theorem x_expr {e : Ex} {o : Od} (h : evalO T cl cm e fx ρ = .ok o ρ1) : exec T cl cm W (.expr e) fx ρ = .nx ρ1 := by simp only [exec, h, Res.st]
theorem c_one {e : Ex} {o : Od} {b : Bool} (h : evalO T cl cm e fx ρ = .ok o ρ1) (ht : truO o ρ1 = .ok b ρ2) : evalC T cl cm [e] fx ρ = .ok b ρ2 := by
  simp only [evalC, h, Res.bind, ht]
theorem lc_skip {w : Walk} {t : D → Env → Res Unit} {c : Env → Res Bool} {e : Env → Res Od} {i m : Nat} {acc ds : List D} {d : D} {ρ4 : Env} (h : w.there ρ = true) (hd : w.item ρ i = some d) (ht : t d ρ = .ok () ρ1) (hc : c ρ1 = .ok false ρ2)
    (hr : lcLoop w t c e m (i + 1) acc ρ2 = .ok ds ρ4) : lcLoop w t c e (m + 1) i acc ρ = .ok ds ρ4 := by
  simp only [lcLoop, h, hd, ht, hc, hr, Res.bind, if_true, Bool.false_eq_true, if_false]
/-- a comprehension with an invariant -/
theorem lc_inv {w : Walk} {t : D → Env → Res Unit} {c : Env → Res Bool} {e : Env → Res Od} {n : Nat} (I : Nat → List D → Env → Prop) (hs : ∀ i acc ρ, i < n → I i acc ρ → ∃ acc' ρ2, I (i + 1) acc' ρ2 ∧ ∀ m ds ρ4, lcLoop w t c e m (i + 1) acc' ρ2 = .ok ds ρ4 → lcLoop w t c e (m + 1) i acc ρ = .ok ds ρ4) (he : ∀ acc ρ, I n acc ρ → w.there ρ = true) :
    ∀ (m i : Nat) (acc : List D) (ρ : Env), i + m = n → I i acc ρ → ∃ ds ρ', I n ds ρ' ∧ lcLoop w t c e m i acc ρ = .ok ds ρ'
  | 0, i, acc, ρ, hi, h => by
    have : i = n := by omega
    subst this
    exact ⟨acc, ρ, h, lc_nil (he acc ρ h)⟩
  | m + 1, i, acc, ρ, hi, h => by
    obtain ⟨acc', ρ2, h2, h3⟩ := hs i acc ρ (by omega) h
    obtain ⟨ds, ρ', h4, h5⟩ := lc_inv I hs he m (i + 1) acc' ρ2 (by omega) h2
    exact ⟨ds, ρ', h4, h3 m _ _ h5⟩
def okS (s : Slot) : Prop := s = .no ∨ ∃ d, s = .own d
theorem a_nm {i : Nat} {s : Slot} {d : D} (ok : okS s) (hs : ρ.s[i]? = some s) (hf : lk AL fx i = false) : asgN AL fx i d ρ = .ok () (setS ρ i (.own d)) := by
  unfold asgN
  rw [hf]
  rcases ok with rfl | ⟨d, rfl⟩ <;> simp only [hs, Bool.false_eq_true, if_false]
theorem as_nil : asgNs AL fx [] [] ρ = .ok () ρ := rfl
theorem as_cons {is : List Nat} {i : Nat} {d : D} {ds : List D} (h : asgN AL fx i d ρ = .ok () ρ1) (h2 : asgNs AL fx is ds ρ1 = .ok () ρ2) : asgNs AL fx (i :: is) (d :: ds) ρ = .ok () ρ2 := by
  simp only [asgNs, h, Res.bind, h2]
theorem ai_tp {is : List Nat} {l : List Tg} {ds : List D} (h : tgNames l = some is) (h2 : asgNs AL fx is ds ρ = .ok () ρ1) : asgI AL fx (.tp l) (.tup ds) ρ = .ok () ρ1 := by
  simp only [asgI, unpI, h, h2]
theorem t_tp {l : List Tg} {is : List Nat} {o : Od} {ds : List D} (ho : o.rd ρ = some (.tup ds)) (h : tgNames l = some is) (hm : immL ds = true) (h2 : asgNs T.al fx is ds ρ = .ok () ρ1) : asgT T cl cm (.tp l) o fx ρ = .ok () ρ1 := by
  simp only [asgT, ho, Option.bind_some, unpD, h, hm, if_true, h2]
end
/-! ### numbers -/
theorem b_mod {i j : Int} (h : 0 < j) : binD .mod (.int i) (.int j) = some (.int (i % j)) := by simp [binD, h]
theorem b_fdiv {i j : Int} (h : 0 < j) (h2 : j.natAbs.log2 < 9000) : binD .fdiv (.int i) (.int j) = some (.int (i / j)) := by simp [binD, h, h2]
theorem b_mul {i j : Int} (h : i.natAbs.log2 < 1000) (h2 : j.natAbs.log2 < 1000) : binD .mul (.int i) (.int j) = some (.int (i * j)) := by
  have : i.natAbs.log2 + j.natAbs.log2 < 1000000 := by omega
  simp [binD, this]
theorem lg {i : Int} (h : -(2 ^ 200) < i) (h2 : i < 2 ^ 200) : i.natAbs.log2 < 1000 := by
  by_cases h0 : i.natAbs = 0
  · rw [h0]; decide
  · have h3 : i.natAbs < 2 ^ 200 := by omega
    exact Nat.lt_trans ((Nat.log2_lt h0).mpr h3) (by decide)
theorem ix2 {z : Bool} {p q r : Int} (h : 0 ≤ r ∧ r < 2) : idxD (.lst z [.int p, .int q]) (.int r) = some (.int (if r = 0 then p else q)) := by
  obtain rfl | rfl : r = 0 ∨ r = 1 := by omega
  · rfl
  · rfl
/-! ### lists of numbers -/
theorem immI (ns : List Int) : immL (ns.map D.int) = true := by
  induction ns with
  | nil => rfl
  | cons i ns ih => simpa [immL, D.imm] using ih
theorem eqkI (ns : List Int) (n : Nat) : eqkL (n + 1) (ns.map D.int) = true := by
  induction ns with
  | nil => simp [eqkL]
  | cons i ns ih => simpa [eqkL, D.eqk] using ih
theorem beqI (ns : List Int) : beqL (ns.map D.int) (ns.map D.int) = true := by
  induction ns with
  | nil => simp [beqL]
  | cons i ns ih => simpa [beqL, D.beq] using ih
theorem eqI (ns : List Int) : eqD (.tup (ns.map .int)) (.tup (ns.map .int)) = some true := by
  have h1 : (D.tup (ns.map D.int)).eqk 60 = true := by simpa [D.eqk] using eqkI ns 58
  have h2 : (D.tup (ns.map D.int)).beq (.tup (ns.map .int)) = true := by simpa [D.beq] using beqI ns
  simp [eqD, h1, h2]
theorem s_take (ns : List Int) (z : Bool) (m : Nat) : sliD (.lst z (ns.map .int)) none (some (m : Int)) = some (.lst false ((ns.take m).map .int)) := by
  have e : cut (ns.map D.int) none (some (m : Int)) = (ns.take m).map D.int := by
    have : sIx (ns.map D.int).length (ns.map D.int).length (some (m : Int)) - sIx (ns.map D.int).length 0 none = min m ns.length := by
      simp only [sIx, List.length_map]
      have : ¬ ((m : Int) < 0) := by omega
      rw [if_neg this]
      omega
    unfold cut
    rw [this]
    simp only [sIx, List.drop_zero, List.map_take]
    rw [Nat.min_def]
    split
    · rfl
    · rw [List.take_of_length_le (by simp), List.take_of_length_le (by simp; omega)]
  simp only [sliD, immI, if_true, e]
theorem a_lst (ns ms : List Int) (h : ns.length + ms.length ≤ 100000) : binD .add (.lst false (ns.map .int)) (.lst false (ms.map .int)) = some (.lst false ((ns ++ ms).map .int)) := by
  have h2 : (ns.map D.int).length + (ms.map D.int).length ≤ PySem.sizeLine := by
    simp only [List.length_map]
    exact Nat.le_trans h (by decide)
  simp only [binD, immI, h2, decide_true, Bool.and_self, if_true, List.map_append]
theorem a_tup (ns ms : List Int) (h : ns.length + ms.length ≤ 100000) : binD .add (.tup (ns.map .int)) (.tup (ms.map .int)) = some (.tup ((ns ++ ms).map .int)) := by
  have h2 : (ns.map D.int).length + (ms.map D.int).length ≤ PySem.sizeLine := by
    simp only [List.length_map]
    exact Nat.le_trans h (by decide)
  simp only [binD, immI, h2, decide_true, Bool.and_self, if_true, List.map_append]
theorem ap_ok (ns : List Int) (x : Int) (h : ns.length < 100000) : bmD .append (.lst false (ns.map .int)) [.int x] = some (.non, .lst false ((ns ++ [x]).map .int)) := by
  have h2 : (ns.map D.int).length < PySem.sizeLine := by
    simp only [List.length_map]
    exact Nat.lt_of_lt_of_le h (by decide)
  simp only [bmD, apD, h2, if_true, List.map_append, List.map_cons, List.map_nil]
theorem bi_tupI (z : Bool) (ns : List Int) : biD .tuple [.lst z (ns.map .int)] = some (.tup (ns.map .int)) := by simp only [biD, immI, if_true]
end Pv

/-! Pv, part X: a calculus of what must be shown: goals that are walked forwards. -/
namespace Hw
open Pv
variable {AL : AlT}
/-- the slot i of a frame -/
def gS (S : List Slot) (i : Nat) : Slot := S.getD i .no
theorem gS_zero {a : Slot} {S : List Slot} : gS (a :: S) 0 = a := rfl
theorem gS_succ {a : Slot} {S : List Slot} {i : Nat} : gS (a :: S) (i + 1) = gS S i := rfl
/-- nothing, or a thing that is not owned -/
def okI (s : Slot) : Prop := s = .no ∨ ∃ d, s = .own d ∧ d.imm = true
theorem okI.s {s : Slot} (h : okI s) : okS s := h.imp id fun ⟨d, e, _⟩ => ⟨d, e⟩
def ownB (AL : AlT) (w : Walk) (ρ : Env) (i : Nat) : Bool := !lk AL (w.fx []) i && match ρ.s[i]? with | some .no => true | some (.own d) => d.imm | _ => false
theorem own_nil {w : Walk} {ρ : Env} : ([] : List Nat).all (ownB AL w ρ) = true := rfl
theorem own_cons {w : Walk} {ρ : Env} {i : Nat} {ow : List Nat} {s : Slot} (hf : lk AL (w.fx []) i = false) (hs : ρ.s[i]? = some s) (h : okI s) (r : ow.all (ownB AL w ρ) = true) : (i :: ow).all (ownB AL w ρ) = true := by
  have : ownB AL w ρ i = true := by
    unfold ownB
    rw [hf, hs]
    rcases h with rfl | ⟨d, rfl, hd⟩
    · rfl
    · exact hd
  simp [this, r]
/-- a call ends, with Q of what is told and of the arguments behind it -/
def Ok (c : CRes) (Q : D → List D → Prop) : Prop := ∃ d l, c = .ok d l ∧ Q d l
/-- where a piece of a body may end -/
structure Pst where
  nx : Env → Prop
  ct : Env → Prop
  bk : Env → Prop
  rt : D → Env → Prop
  ex : Exn → Env → Prop
@[irreducible] def WS (r : SRes) (P : Pst) : Prop := match r with
  | .nx ρ => P.nx ρ
  | .ct ρ => P.ct ρ
  | .bk ρ => P.bk ρ
  | .rt d ρ => P.rt d ρ
  | .ex x ρ => P.ex x ρ
  | .no => False
@[irreducible] def WE {α : Type} (r : Res α) (X : Exn → Env → Prop) (K : α → Env → Prop) : Prop := match r with
  | .ok a ρ => K a ρ
  | .ex x ρ => X x ρ
  | .no => False
theorem WE.ok {α : Type} {a : α} {ρ : Env} {X : Exn → Env → Prop} {K : α → Env → Prop} (k : K a ρ) : WE (.ok a ρ) X K := by unfold WE; exact k
theorem WS.i_nx {ρ : Env} {P : Pst} (k : P.nx ρ) : WS (.nx ρ) P := by unfold WS; exact k
theorem WS.e_nx {ρ : Env} {P : Pst} (k : WS (.nx ρ) P) : P.nx ρ := by unfold WS at k; exact k
theorem WS.i_ct {ρ : Env} {P : Pst} (k : P.ct ρ) : WS (.ct ρ) P := by unfold WS; exact k
theorem WS.e_ct {ρ : Env} {P : Pst} (k : WS (.ct ρ) P) : P.ct ρ := by unfold WS at k; exact k
theorem WS.i_bk {ρ : Env} {P : Pst} (k : P.bk ρ) : WS (.bk ρ) P := by unfold WS; exact k
theorem WS.e_bk {ρ : Env} {P : Pst} (k : WS (.bk ρ) P) : P.bk ρ := by unfold WS at k; exact k
theorem WS.i_rt {d : D} {ρ : Env} {P : Pst} (k : P.rt d ρ) : WS (.rt d ρ) P := by unfold WS; exact k
theorem WS.e_rt {d : D} {ρ : Env} {P : Pst} (k : WS (.rt d ρ) P) : P.rt d ρ := by unfold WS at k; exact k
theorem WS.i_ex {x : Exn} {ρ : Env} {P : Pst} (k : P.ex x ρ) : WS (.ex x ρ) P := by unfold WS; exact k
theorem WS.e_ex {x : Exn} {ρ : Env} {P : Pst} (k : WS (.ex x ρ) P) : P.ex x ρ := by unfold WS at k; exact k
theorem WS.e_no {P : Pst} (k : WS .no P) : False := by unfold WS at k; exact k
theorem WE.e_ok {α : Type} {a : α} {ρ : Env} {X : Exn → Env → Prop} {K : α → Env → Prop} (k : WE (.ok a ρ) X K) : K a ρ := by unfold WE at k; exact k
theorem WE.bind {α β : Type} {r : Res α} {f : α → Env → Res β} {X : Exn → Env → Prop} {K : β → Env → Prop} (h : WE r X fun a ρ => WE (f a ρ) X K) : WE (r.bind f) X K := by
  cases r <;> simpa [WE, Res.bind] using h
theorem WE.mono {α : Type} {r : Res α} {X : Exn → Env → Prop} {K K' : α → Env → Prop} (h : WE r X K) (k : ∀ a ρ, K a ρ → K' a ρ) : WE r X K' := by
  cases r <;> simp only [WE] at h ⊢ <;> first | exact k _ _ h | exact h
theorem WE.st {α : Type} {r : Res α} {f : α → Env → SRes} {P : Pst} (h : WE r P.ex fun a ρ => WS (f a ρ) P) : WS (r.st f) P := by
  cases r <;> simpa [WE, WS, Res.st] using h
theorem WS.sq {r : SRes} {f : Env → SRes} {P : Pst} (h : WS r ⟨fun ρ => WS (f ρ) P, P.ct, P.bk, P.rt, P.ex⟩) : WS (r.sq f) P := by
  cases r <;> simpa [WS, SRes.sq] using h
theorem WS.mono {r : SRes} {P P' : Pst} (h : WS r P) (h1 : ∀ ρ, P.nx ρ → P'.nx ρ) (h2 : ∀ ρ, P.ct ρ → P'.ct ρ) (h3 : ∀ ρ, P.bk ρ → P'.bk ρ) (h4 : ∀ d ρ, P.rt d ρ → P'.rt d ρ) (h5 : ∀ x ρ, P.ex x ρ → P'.ex x ρ) : WS r P' := by
  cases r <;> simp only [WS] at h ⊢ <;> first | exact h1 _ h | exact h2 _ h | exact h3 _ h | exact h4 _ _ h | exact h5 _ _ h
theorem WE.of {α : Type} {r : Res α} {X : Exn → Env → Prop} {a : α} {ρ : Env} {K : α → Env → Prop} (h : r = .ok a ρ) (k : K a ρ) : WE r X K := by subst h; exact WE.ok k
theorem WE.eq {α : Type} {r : Res α} {a : α} {ρ : Env} (h : WE r (fun _ _ => False) fun b ρ' => b = a ∧ ρ' = ρ) : r = .ok a ρ := by
  cases r <;> simp only [WE] at h
  obtain ⟨rfl, rfl⟩ := h; rfl
theorem Ok.eq {c : CRes} {d : D} {l : List D} (h : Ok c fun d' l' => d' = d ∧ l' = l) : c = .ok d l := by
  obtain ⟨_, _, rfl, rfl, rfl⟩ := h; rfl
theorem Ok.of {c : CRes} {d : D} {l : List D} {Q : D → List D → Prop} (h : c = .ok d l) (k : Q d l) : Ok c Q := ⟨_, _, h, k⟩
theorem Ok.mono {c : CRes} {Q Q' : D → List D → Prop} (h : Ok c Q) (k : ∀ d l, Q d l → Q' d l) : Ok c Q' := by
  obtain ⟨d, l, e, q⟩ := h; exact ⟨d, l, e, k _ _ q⟩
/-- the end of a body -/
@[reducible] def fit (ds : List D) (Q : D → List D → Prop) (Z : Exn → List D → Prop) : Pst := ⟨fun ρ => ∃ l, finals ds 0 ρ = some l ∧ Q .non l, fun _ => False, fun _ => False, fun d ρ => ∃ l, finals ds 0 ρ = some l ∧ Q d l, fun _ _ => False⟩
theorem call_ok {Pr : Prog} {W k : Nat} {id : FId} {fd : Fn} {ds : List D} {fx : List Nat} {ρ : Env} {Q : D → List D → Prop} (hg : Pr.get id = some fd) (hl : decide (ds.length = fd.np) = true) (hm : mutIx ds 0 = fx) (hs : startE fd.n ds = ρ)
    (hx : WS (execs (Pr.tab.wal fd.dfl) (callF Pr W k) (callM Pr W k) W fd.body fx ρ) (fit ds Q fun _ _ => False)) : Ok (callF Pr W (k + 1) id ds) Q := by
  have hl := of_decide_eq_true hl
  subst hm hs
  rw [callF_succ, hg]
  simp only [runF, hl, if_true]
  revert hx
  generalize execs (Pr.tab.wal fd.dfl) (callF Pr W k) (callM Pr W k) W fd.body (mutIx ds 0) (startE fd.n ds) = r
  intro hx
  cases r <;> simp only [WS, fit] at hx
  · obtain ⟨l, e, q⟩ := hx
    exact ⟨_, l, by simp only [e]; rfl, q⟩
  · obtain ⟨l, e, q⟩ := hx
    exact ⟨_, l, by simp only [e]; rfl, q⟩
theorem mut_nil {i : Nat} : mutIx [] i = [] := rfl
theorem mut_imm {d : D} {ds : List D} {i : Nat} {l : List Nat} (h : d.imm = true) (r : mutIx ds (i + 1) = l) : mutIx (d :: ds) i = l := by simp [mutIx, h, r]
theorem mut_mut {d : D} {ds : List D} {i : Nat} {l : List Nat} (h : d.imm = false) (r : mutIx ds (i + 1) = l) : mutIx (d :: ds) i = i :: l := by simp [mutIx, h, r]
theorem fin_nil {i : Nat} {ρ : Env} : finals [] i ρ = some [] := rfl
theorem fin_imm {d : D} {ds l : List D} {i : Nat} {ρ : Env} (h : d.imm = true) (r : finals ds (i + 1) ρ = some l) : finals (d :: ds) i ρ = some (d :: l) := by simp [finals, h, r]
theorem fin_mut {d e : D} {ds l : List D} {i : Nat} {ρ : Env} (h : d.imm = false) (hs : ρ.s[i]? = some (.own e)) (r : finals ds (i + 1) ρ = some l) : finals (d :: ds) i ρ = some (e :: l) := by simp [finals, h, r, hs]
section
variable {T : Tab} {cl cm : CallT} {fx : List Nat} {ρ ρ1 ρ2 ρ3 : Env} {W : Nat} {X : Exn → Env → Prop} {K : Od → Env → Prop} {P : Pst}
/-! ### expressions -/
theorem we_var {i : Nat} {d : D} (h : ρ.s[i]? = some (.own d)) (hi : d.imm = true) (k : K (.v d) ρ) : WE (evalO T cl cm (.var i) fx ρ) X K :=
  WE.of (e_var h) (by simpa [Od.mk, hi] using k)
theorem we_varp {i : Nat} {d : D} (h : ρ.s[i]? = some (.own d)) (hi : d.imm = false) (k : K (.p i []) ρ) : WE (evalO T cl cm (.var i) fx ρ) X K :=
  WE.of (e_var h) (by simpa [Od.mk, hi] using k)
theorem we_al {i r : Nat} {q : List Stp} {d : D} (h : ρ.s[i]? = some (.al r q)) (hg : getP ρ r q = some d) (hi : d.imm = false) (k : K (.p r q) ρ) : WE (evalO T cl cm (.var i) fx ρ) X K := by
  refine WE.of (a := .p r q) (ρ := ρ) ?_ k
  simp only [evalO, h, hg, hi, Bool.false_eq_true, if_false]
theorem we_mv {i : Nat} {d : D} (h : ρ.s[i]? = some (.own d)) (hf : lk T.al fx i = false) (e : setS ρ i .no = ρ2) (k : K (.v d) ρ2) : WE (evalO T cl cm (.mv i) fx ρ) X K := by
  subst e
  refine WE.of (a := .v d) (ρ := setS ρ i .no) ?_ k
  simp only [evalO, hf, h, Bool.false_eq_true, if_false]
theorem we_glo {x : PySem.Str} {d : D} (h : T.con.lookup x = some d) (k : K (.v d) ρ) : WE (evalO T cl cm (.glo x) fx ρ) X K := WE.of (e_glo h) k
theorem we_non (k : K (.v .non) ρ) : WE (evalO T cl cm .non fx ρ) X K := WE.of e_non k
theorem we_bl {b : Bool} (k : K (.v (.bl b)) ρ) : WE (evalO T cl cm (.bl b) fx ρ) X K := WE.of e_bl k
theorem we_int {i : Int} (k : K (.v (.int i)) ρ) : WE (evalO T cl cm (.int i) fx ρ) X K := WE.of e_int k
theorem we_str {x : PySem.Str} (k : K (.v (.str x)) ρ) : WE (evalO T cl cm (.str x) fx ρ) X K := WE.of e_str k
theorem we_ro {a : Ex} (k : WE (evalO T cl cm a fx ρ) X K) : WE (evalO T cl cm (.ro a) fx ρ) X K := by simpa only [evalO] using k
theorem wes_nil {K : List Od → Env → Prop} (k : K [] ρ) : WE (evalOs T cl cm [] fx ρ) X K := WE.of es_nil k
theorem wes_cons {e : Ex} {r : List Ex} {K : List Od → Env → Prop} (k : WE (evalO T cl cm e fx ρ) X fun o ρ => o.okb (purL r) = true ∧ WE (evalOs T cl cm r fx ρ) X fun os ρ => K (o :: os) ρ) : WE (evalOs T cl cm (e :: r) fx ρ) X K := by
  simp only [evalOs]
  refine WE.bind (k.mono fun o ρ h => ?_)
  simp only [h.1, if_true]
  exact WE.bind (h.2.mono fun os ρ h => WE.ok h)
/-- a row of operands is at hand -/
theorem wv {o : Od} {os : List Od} {ds : List D} {d : D} (h : o = .v d) (h2 : allV os = some ds) : allV (o :: os) = some (d :: ds) := by subst h; simp [allV, h2]
theorem we_tup {l : List Ex} (k : WE (evalOs T cl cm l fx ρ) X fun os ρ => ∃ ds, allV os = some ds ∧ K (.v (.tup ds)) ρ) (hl : decide (l.length ≤ 1000) = true) : WE (evalO T cl cm (.tup l) fx ρ) X K := by
  have hl := of_decide_eq_true hl
  simp only [evalO]
  refine WE.bind (k.mono fun os ρ ⟨ds, h, k⟩ => ?_)
  simp only [h, hl, if_true]
  exact WE.ok k
theorem we_lst {l : List Ex} (k : WE (evalOs T cl cm l fx ρ) X fun os ρ => ∃ ds, allV os = some ds ∧ K (.v (.lst false ds)) ρ) (hl : decide (l.length ≤ 1000) = true) : WE (evalO T cl cm (.lst l) fx ρ) X K := by
  have hl := of_decide_eq_true hl
  simp only [evalO]
  refine WE.bind (k.mono fun os ρ ⟨ds, h, k⟩ => ?_)
  simp only [h, hl, if_true]
  exact WE.ok k
/-- two operands meet -/
structure Two (x y : Od) (pb : Bool) (ρ : Env) (d e : D) : Prop where
  hk : x.okb pb = true
  hd : x.rd ρ = some d
  he : y.rd ρ = some e
theorem two_v {d e : D} {pb : Bool} : Two (.v d) (.v e) pb ρ d e := ⟨rfl, rfl, rfl⟩
theorem we_bin {o : Bin} {a b : Ex} (k : WE (evalO T cl cm a fx ρ) X fun x ρ => WE (evalO T cl cm b fx ρ) X fun y ρ => ∃ d e r, Two x y b.pur ρ d e ∧ binD o d e = some r ∧ K (.v r) ρ) : WE (evalO T cl cm (.bin o a b) fx ρ) X K := by
  simp only [evalO]
  refine WE.bind (k.mono fun x ρ k => WE.bind (k.mono fun y ρ ⟨d, e, r, h, hr, k⟩ => ?_))
  simp only [h.hk, h.hd, h.he, hr, if_true]
  exact WE.ok k
theorem we_cmp {o : Cm} {a b : Ex} (k : WE (evalO T cl cm a fx ρ) X fun x ρ => WE (evalO T cl cm b fx ρ) X fun y ρ => ∃ d e r, Two x y b.pur ρ d e ∧ cmpD o d e = some r ∧ K (.v (.bl r)) ρ) : WE (evalO T cl cm (.cmp o a b) fx ρ) X K := by
  simp only [evalO]
  refine WE.bind (k.mono fun x ρ k => WE.bind (k.mono fun y ρ ⟨d, e, r, h, hr, k⟩ => ?_))
  simp only [h.hk, h.hd, h.he, hr, if_true]
  exact WE.ok k
theorem we_cmpl {kk : Bool} {a : Ex} {l : List Ex} (k : WE (evalO T cl cm a fx ρ) X fun x ρ => WE (evalOs T cl cm l fx ρ) X fun os ρ => ∃ d ds r, (x.okb (purL l) && decide (l.length ≤ 1000)) = true ∧ x.rd ρ = some d ∧ rdAll ρ os = some ds ∧ cmpD (if kk then .ne else .eq) d (.lst false ds) = some r ∧ K (.v (.bl r)) ρ) : WE (evalO T cl cm (.cmpl kk a l) fx ρ) X K := by
  simp only [evalO]
  refine WE.bind (k.mono fun x ρ k => WE.bind (k.mono fun os ρ ⟨d, ds, r, hk, hd, he, hr, k⟩ => ?_))
  simp only [hk, hd, he, hr, if_true]
  exact WE.ok k
theorem we_fz {a : Ex} (k : WE (evalO T cl cm a fx ρ) X fun x ρ => ∃ d e, x = .v d ∧ d.noh = true ∧ d.ro = e ∧ K (.v e) ρ) : WE (evalO T cl cm (.fz a) fx ρ) X K := by
  simp only [evalO]
  refine WE.bind (k.mono fun x ρ ⟨d, e, h, hh, he, k⟩ => ?_)
  subst h; subst he
  simp only [hh, if_true]
  exact WE.ok k
theorem we_neg {a : Ex} (k : WE (evalO T cl cm a fx ρ) X fun x ρ => ∃ i, x = .v (.int i) ∧ K (.v (.int (-i))) ρ) : WE (evalO T cl cm (.neg a) fx ρ) X K := by
  simp only [evalO]
  refine WE.bind (k.mono fun x ρ ⟨i, h, k⟩ => ?_)
  subst h
  exact WE.ok k
theorem tru {o : Od} {d : D} {t : Bool} (h : o.rd ρ = some d) (ht : truth d = some t) : truO o ρ = .ok t ρ := by
  simp only [truO, h, Option.bind_some, ht]; rfl
theorem we_not {a : Ex} (k : WE (evalO T cl cm a fx ρ) X fun x ρ => ∃ d t, x.rd ρ = some d ∧ truth d = some t ∧ K (.v (.bl !t)) ρ) : WE (evalO T cl cm (.not a) fx ρ) X K := by
  simp only [evalO]
  refine WE.bind (k.mono fun x ρ ⟨d, t, h, ht, k⟩ => WE.bind (WE.of (tru h ht) ?_))
  exact WE.ok k
/-- and: the second part changes nothing -/
theorem we_and {a b : Ex} (k : WE (evalO T cl cm a fx ρ) X fun x ρ => ∃ p q, x = .v (.bl p) ∧ (p = true → WE (evalO T cl cm b fx ρ) (fun _ _ => False) fun y ρ' => y = .v (.bl q) ∧ ρ' = ρ) ∧ K (.v (.bl (p && q))) ρ) : WE (evalO T cl cm (.bop true a b) fx ρ) X K := by
  simp only [evalO]
  refine WE.bind (k.mono fun x ρ ⟨p, q, h, hb, k⟩ => ?_)
  subst h
  cases p with
  | false => exact WE.ok k
  | true =>
    have hb := WE.eq (hb rfl)
    simp only [if_true, hb]
    exact WE.ok k
theorem we_or {a b : Ex} (k : WE (evalO T cl cm a fx ρ) X fun x ρ => ∃ p q, x = .v (.bl p) ∧ (p = false → WE (evalO T cl cm b fx ρ) (fun _ _ => False) fun y ρ' => y = .v (.bl q) ∧ ρ' = ρ) ∧ K (.v (.bl (p || q))) ρ) : WE (evalO T cl cm (.bop false a b) fx ρ) X K := by
  simp only [evalO]
  refine WE.bind (k.mono fun x ρ ⟨p, q, h, hb, k⟩ => ?_)
  subst h
  cases p with
  | true => exact WE.ok k
  | false =>
    have hb := WE.eq (hb rfl)
    simp only [if_true, hb]
    exact WE.ok k
/-- and, or: one way after the other -/
theorem we_bop {t : Bool} {a b : Ex} (k : WE (evalO T cl cm a fx ρ) X fun x ρ => ∃ p, x = .v (.bl p) ∧ (p = t → WE (evalO T cl cm b fx ρ) X K) ∧ (p = (!t) → K (.v (.bl (!t))) ρ)) : WE (evalO T cl cm (.bop t a b) fx ρ) X K := by
  simp only [evalO]
  refine WE.bind (k.mono fun x ρ ⟨p, h, k1, k2⟩ => ?_)
  subst h
  by_cases hp : p = t
  · subst hp
    simp only [if_true]
    exact k1 rfl
  · have : p = !t := by cases p <;> cases t <;> simp_all
    subst this
    simp only [hp, if_false]
    exact WE.ok (k2 rfl)
theorem we_ite {c a b : Ex} (k : WE (evalO T cl cm c fx ρ) X fun x ρ => ∃ d t, x.rd ρ = some d ∧ truth d = some t ∧ (t = true → WE (evalO T cl cm a fx ρ) X K) ∧ (t = false → WE (evalO T cl cm b fx ρ) X K)) : WE (evalO T cl cm (.ite c a b) fx ρ) X K := by
  simp only [evalO]
  refine WE.bind (k.mono fun x ρ ⟨d, t, h, ht, k1, k2⟩ => WE.bind (WE.of (tru h ht) ?_))
  cases t with
  | true => exact k1 rfl
  | false => exact k2 rfl
/-- a part read out of a thing that is at hand -/
theorem we_rgl {a : Ex} (k : WE (evalO T cl cm a fx ρ) X fun x ρ => ∃ j, x = .v (.int j) ∧ (-16777216 ≤ j ∧ j ≤ 16777216) ∧ K (.v (.lst false ((rgI 0 j).map .int))) ρ) : WE (evalO T cl cm (.rgl a) fx ρ) X K := by
  simp only [evalO]
  refine WE.bind (k.mono fun x ρ ⟨j, h1, h2, k⟩ => ?_)
  subst h1
  simp only
  rw [if_pos h2]
  exact WE.ok k
theorem we_rg2 {a b : Ex} (k : WE (evalO T cl cm a fx ρ) X fun x ρ => WE (evalO T cl cm b fx ρ) X fun y ρ => ∃ i j, x = .v (.int i) ∧ y = .v (.int j) ∧ ((0 ≤ i ∧ i ≤ 16777216) ∧ (0 ≤ j ∧ j ≤ 16777216)) ∧ K (.v (.lst false ((rgI i j).map .int))) ρ) : WE (evalO T cl cm (.rg2 a b) fx ρ) X K := by
  simp only [evalO]
  refine WE.bind (k.mono fun x ρ1 k1 => WE.bind (k1.mono fun y ρ2 ⟨i, j, h1, h2, h3, k2⟩ => ?_))
  subst h1 h2
  simp only
  rw [if_pos h3]
  exact WE.ok k2
theorem we_rev {a : Ex} (k : WE (evalO T cl cm a fx ρ) X fun x ρ => ∃ d r, x.rd ρ = some d ∧ revD d = some r ∧ K (.v r) ρ) : WE (evalO T cl cm (.rev a) fx ρ) X K := by
  simp only [evalO]
  refine WE.bind (k.mono fun x ρ ⟨d, r, h1, h2, k⟩ => ?_)
  rw [h1]
  simp only [Option.bind_some, h2]
  exact WE.ok k
theorem we_dic {ks vs : List Ex} (k : WE (evalOs T cl cm vs fx ρ) X fun os ρ => ∃ keys ds, cKeys ks = some keys ∧ allV os = some ds ∧ (keys.Nodup ∧ keys.length = ds.length ∧ ds.length ≤ 15) ∧ K (.v (.dk false keys ds)) ρ) : WE (evalO T cl cm (.dic false ks vs) fx ρ) X K := by
  simp only [evalO]
  refine WE.bind (k.mono fun os ρ ⟨keys, ds, h1, h2, h3, k⟩ => ?_)
  simp only [h1, h2, Bool.false_eq_true, if_false]
  rw [if_pos h3]
  exact WE.ok k
theorem we_idx {a i : Ex} (k : WE (evalO T cl cm a fx ρ) X fun x ρ => WE (evalO T cl cm i fx ρ) X fun y ρ => ∃ d e r o, Two x y i.pur ρ d e ∧ y = .v e ∧ idxD d e = some r ∧ x.part d (stepOf d e) r = some o ∧ K o ρ) : WE (evalO T cl cm (.idx a i) fx ρ) X K := by
  simp only [evalO]
  refine WE.bind (k.mono fun x ρ k => WE.bind (k.mono fun y ρ ⟨d, e, r, o, h, hy, hr, hp, k⟩ => ?_))
  subst hy
  simp only [h.hk, h.hd, hr, hp, if_true, Option.bind_some]
  exact WE.ok k
theorem part_v {d r : D} {s : Option Stp} : (Od.v d).part d s r = some (.v r) := rfl
theorem part_p {d r : D} {i : Nat} {q : List Stp} {s : Option Stp} (h : r.imm = true) : (Od.p i q).part d s r = some (.v r) := by simp [Od.part, h]
theorem wp_nil {K : Option Int → Env → Prop} (k : K none ρ) : WE (evalP T cl cm [] fx ρ) X K := WE.of p_nil k
theorem wp_one {e : Ex} {r : List Ex} {K : Option Int → Env → Prop} (k : WE (evalO T cl cm e fx ρ) X fun o ρ => ∃ i, o = .v (.int i) ∧ K (some i) ρ) : WE (evalP T cl cm (e :: r) fx ρ) X K := by
  simp only [evalP]
  refine WE.bind (k.mono fun x ρ ⟨i, h, k⟩ => ?_)
  subst h
  exact WE.ok k
theorem we_sli {a : Ex} {lo hi : List Ex} (k : WE (evalO T cl cm a fx ρ) X fun x ρ => WE (evalP T cl cm lo fx ρ) X fun l ρ => WE (evalP T cl cm hi fx ρ) X fun h ρ => ∃ d r, x.okb (purL lo && purL hi) = true ∧ x.rd ρ = some d ∧ sliD d l h = some r ∧ K (.v r) ρ) : WE (evalO T cl cm (.sli a lo hi) fx ρ) X K := by
  simp only [evalO]
  refine WE.bind (k.mono fun x ρ k => WE.bind (k.mono fun l ρ k => WE.bind (k.mono fun h ρ ⟨d, r, hk, hd, hr, k⟩ => ?_)))
  simp only [hk, hd, hr, if_true, Option.bind_some]
  exact WE.ok k
theorem we_att {a : Ex} {f : PySem.Str} (k : WE (evalO T cl cm a fx ρ) X fun x ρ => ∃ z c ns l e o, x.rd ρ = some (.ins z c ns l) ∧ (T.cls.contains c && T.flds.contains f) = true ∧ look f ns l = some e ∧ x.part (.ins z c ns l) (some (.fld f)) e = some o ∧ K o ρ) : WE (evalO T cl cm (.att a f) fx ρ) X K := by
  simp only [evalO]
  refine WE.bind (k.mono fun x ρ ⟨z, c, ns, l, e, o, h, hc, hl, hp, k⟩ => ?_)
  simp only [h, hc, hl, hp, if_true, Option.bind_some]
  exact WE.ok k
theorem we_call {f : PySem.Str} {l : List Ex} (k : WE (evalOs T cl cm l fx ρ) X fun os ρ1 => ∃ as ds Q, (l.map Ex.isRo).zip os = as ∧ apartA as = true ∧ argDs ρ1 as = some ds ∧ Ok (cl (f, none) ds) Q ∧
      ∀ d l', Q d l' → (okRo as d l' && decide (l'.length = as.length)) = true ∧ ∃ ρ2, killE T.al (belowA as) (backA as l' ρ1) = ρ2 ∧ K (.v d) ρ2) : WE (evalO T cl cm (.call f l) fx ρ) X K := by
  simp only [evalO]
  refine WE.bind (k.mono fun os ρ ⟨as, ds, Q, e, ha, hd, ⟨d, l', hc, hq⟩, k⟩ => ?_)
  subst e
  obtain ⟨h1, _, rfl, h2⟩ := k d l' hq
  simp only [doCall, ha, hd, hc, h1, if_true]
  exact WE.ok h2
/-- a call whose end is known -/
theorem we_callE {f : PySem.Str} {l : List Ex} (k : WE (evalOs T cl cm l fx ρ) X fun os ρ1 => ∃ as ds d l', (l.map Ex.isRo).zip os = as ∧ apartA as = true ∧ argDs ρ1 as = some ds ∧ cl (f, none) ds = .ok d l' ∧
      (okRo as d l' && decide (l'.length = as.length)) = true ∧ ∃ ρ2, killE T.al (belowA as) (backA as l' ρ1) = ρ2 ∧ K (.v d) ρ2) : WE (evalO T cl cm (.call f l) fx ρ) X K := by
  simp only [evalO]
  refine WE.bind (k.mono fun os ρ ⟨as, ds, d, l', e, ha, hd, hc, h1, ρ2, e2, k⟩ => ?_)
  subst e e2
  simp only [doCall, ha, hd, hc, h1, if_true]
  exact WE.ok k
/-- a method of an instance -/
theorem we_meth {o : Ex} {m : PySem.Str} {l : List Ex} (k : WE (evalO T cl cm o fx ρ) X fun x ρ => ∃ z c ns ds0, x.rd ρ = some (.ins z c ns ds0) ∧ (T.cls.contains c && !ns.contains m) = true ∧ WE (evalOs T cl cm l fx ρ) X fun os ρ1 => x.okb (purL l) = true ∧ ∃ as ds Q, ((o :: l).map Ex.isRo).zip (x :: os) = as ∧ apartA as = true ∧ argDs ρ1 as = some ds ∧ Ok (cl (c, some m) ds) Q ∧
      ∀ d l', Q d l' → (okRo as d l' && decide (l'.length = as.length)) = true ∧ ∃ ρ2, killE T.al (belowA as) (backA as l' ρ1) = ρ2 ∧ K (.v d) ρ2) : WE (evalO T cl cm (.meth o m l) fx ρ) X K := by
  simp only [evalO]
  refine WE.bind (k.mono fun x ρ ⟨z, c, ns, ds0, h1, h2, k⟩ => ?_)
  simp only [h1, h2, if_true]
  refine WE.bind (k.mono fun os ρ ⟨hk, as, ds, Q, e, ha, hd, ⟨d, l', hc, hq⟩, k⟩ => ?_)
  obtain ⟨h1, _, e2, h2⟩ := k d l' hq
  subst e
  subst e2
  simp only [hk, if_true]
  simp only [doCall, ha, hd, hc, h1, if_true]
  exact WE.ok h2
/-- a method whose end is known -/
theorem we_methE {o : Ex} {m : PySem.Str} {l : List Ex} (k : WE (evalO T cl cm o fx ρ) X fun x ρ => ∃ z c ns ds0, x.rd ρ = some (.ins z c ns ds0) ∧ (T.cls.contains c && !ns.contains m) = true ∧ WE (evalOs T cl cm l fx ρ) X fun os ρ1 => x.okb (purL l) = true ∧ ∃ as ds d l', ((o :: l).map Ex.isRo).zip (x :: os) = as ∧ apartA as = true ∧ argDs ρ1 as = some ds ∧ cl (c, some m) ds = .ok d l' ∧
      (okRo as d l' && decide (l'.length = as.length)) = true ∧ ∃ ρ2, killE T.al (belowA as) (backA as l' ρ1) = ρ2 ∧ K (.v d) ρ2) : WE (evalO T cl cm (.meth o m l) fx ρ) X K :=
  we_meth (k.mono fun x ρ ⟨z, c, ns, ds0, h1, h2, k⟩ => ⟨z, c, ns, ds0, h1, h2, k.mono fun os ρ ⟨hk, as, ds, d, l', e, ha, hd, hc, h3, ρ2, e2, k⟩ => ⟨hk, as, ds, fun d' l2 => d' = d ∧ l2 = l', e, ha, hd, ⟨d, l', hc, rfl, rfl⟩, fun _ _ ⟨a, b⟩ => by subst a b; exact ⟨h3, ρ2, e2, k⟩⟩⟩)
/-- an instance is made -/
theorem we_make {c : PySem.Str} {l : List Ex} (k : WE (evalOs T cl cm l fx ρ) X fun os ρ1 => ∃ as ds Q, (l.map Ex.isRo).zip os = as ∧ argDs ρ1 as = some ds ∧ apartA as = true ∧ Ok (cm (c, some "__init__") (.ins false c [] [] :: ds)) Q ∧
      ∀ d l', Q d l' → ∃ e l2, d = .non ∧ l' = e :: l2 ∧ (okRo as e l2 && decide (l2.length = os.length)) = true ∧ ∃ ρ2, killE T.al (belowA as) (backA as l2 ρ1) = ρ2 ∧ K (.v e) ρ2) : WE (evalO T cl cm (.make c l) fx ρ) X K := by
  simp only [evalO]
  refine WE.bind (k.mono fun os ρ ⟨as, ds, Q, e, hd, ha, ⟨d, l', hc, hq⟩, k⟩ => ?_)
  obtain ⟨e1, l2, rfl, rfl, h1, _, e2, h2⟩ := k d l' hq
  subst e
  subst e2
  simp only [hd, ha, hc, h1, if_true]
  exact WE.ok h2
theorem we_bi {b : Bi} {l : List Ex} (k : WE (evalOs T cl cm l fx ρ) X fun os ρ => ∃ ds r, rdAll ρ os = some ds ∧ biD b ds = some r ∧ K (.v r) ρ) : WE (evalO T cl cm (.bi b l) fx ρ) X K := by
  simp only [evalO]
  refine WE.bind (k.mono fun os ρ ⟨ds, r, h, hr, k⟩ => ?_)
  simp only [h, hr]
  exact WE.ok k
theorem we_bmD {b : Bm} {o : Ex} {l : List Ex} (k : WE (evalO T cl cm o fx ρ) X fun x ρ => ∃ r q d, x = .p r q ∧ getP ρ r q = some d ∧ bmTy b d = true ∧ WE (evalOs T cl cm l fx ρ) X fun os ρ => ∃ d2 ds e d', x.okb (purL l) = true ∧ getP ρ r q = some d2 ∧ b.isP = false ∧ allV os = some ds ∧ bmD b d2 ds = some (e, d') ∧ ∃ ρ2, killE T.al (below r q) (putP ρ r q d') = ρ2 ∧ K (.v e) ρ2) : WE (evalO T cl cm (.bm b o l) fx ρ) X K := by
  simp only [evalO]
  refine WE.bind (k.mono fun x ρ ⟨r, q, d, hx, hd, ht, k⟩ => ?_)
  subst hx
  simp only [Od.rd, hd, ht, if_true]
  refine WE.bind (k.mono fun os ρ ⟨d2, ds, e, d', hk, hd2, hp, hv, hb, _, rfl, k⟩ => ?_)
  simp only [hk, hd2, hp, hv, hb, if_true, Bool.false_eq_true, if_false]
  exact WE.ok k
theorem we_bmP {b : Bm} {o : Ex} {l : List Ex} (k : WE (evalO T cl cm o fx ρ) X fun x ρ => ∃ d, x.rd ρ = some d ∧ bmTy b d = true ∧ WE (evalOs T cl cm l fx ρ) X fun os ρ => ∃ d2 ds r, x.okb (purL l) = true ∧ x.rd ρ = some d2 ∧ b.isP = true ∧ rdAll ρ os = some ds ∧ bmP b d2 ds = some r ∧ K (.v r) ρ) : WE (evalO T cl cm (.bm b o l) fx ρ) X K := by
  simp only [evalO]
  refine WE.bind (k.mono fun x ρ ⟨d, hd, ht, k⟩ => ?_)
  simp only [hd, ht, if_true]
  refine WE.bind (k.mono fun os ρ ⟨d2, ds, r, hk, hd2, hp, hv, hb, k⟩ => ?_)
  simp only [hk, hd2, hp, hv, hb, if_true]
  exact WE.ok k
theorem we_isi {a : Ex} {u : Bool} {ts : List Ty} (k : WE (evalO T cl cm a fx ρ) X fun x ρ => ∃ d t, x.rd ρ = some d ∧ isAny d ts = some t ∧ K (.v (.bl t)) ρ) : WE (evalO T cl cm (.isi a u ts) fx ρ) X K := by
  simp only [evalO]
  refine WE.bind (k.mono fun x ρ ⟨d, t, h, ht, k⟩ => ?_)
  simp only [h, ht, Option.bind_some]
  exact WE.ok k
/-! ### what is walked -/
section
variable {K : Walk → Env → Prop}
theorem wi_v {e : Ex} {g : Nat} (k : WE (evalO T cl cm e fx ρ) X fun o ρ => ∃ d t n, o = .v d ∧ seqOf d = some (t, n) ∧ (lk T.al fx g || decide (ρ.s.length ≤ g)) = false ∧ ∃ ρ2, setS ρ g (.own d) = ρ2 ∧ K (.seq t g n) ρ2) : WE (evalI T cl cm (.ex e) g fx ρ) X K := by
  simp only [evalI]
  refine WE.bind (k.mono fun o ρ ⟨d, t, n, ho, hs, hg, _, rfl, k⟩ => ?_)
  subst ho
  cases d <;> simp [seqOf] at hs <;> (obtain ⟨rfl, rfl⟩ := hs; simp only [seqOf, hg]; exact WE.ok k)
theorem wi_p {e : Ex} {g : Nat} (k : WE (evalO T cl cm e fx ρ) X fun o ρ => ∃ r d t n, o = .p r [] ∧ own ρ r = some d ∧ seqOf d = some (t, n) ∧ K (.seq t r n) ρ) : WE (evalI T cl cm (.ex e) g fx ρ) X K := by
  simp only [evalI]
  refine WE.bind (k.mono fun o ρ ⟨r, d, t, n, ho, hd, hs, k⟩ => ?_)
  subst ho
  simp only [hd, Option.bind_some, hs]
  exact WE.ok k
theorem wi_enuV {e : Ex} {g : Nat} (k : WE (evalO T cl cm e fx ρ) X fun o ρ => ∃ d n, o = .v d ∧ seqOf d = some (false, n) ∧ (lk T.al fx g || decide (ρ.s.length ≤ g)) = false ∧ ∃ ρ2, setS ρ g (.own d) = ρ2 ∧ K (.enu g n) ρ2) : WE (evalI T cl cm (.enu e) g fx ρ) X K := by
  simp only [evalI]
  refine WE.bind (k.mono fun o ρ ⟨d, n, ho, hs, hg, _, rfl, k⟩ => ?_)
  subst ho
  simp only [hs, hg]; exact WE.ok k
theorem wi_enuT {e : Ex} {g : Nat} (k : WE (evalO T cl cm e fx ρ) X fun o ρ => ∃ d n, o = .v d ∧ seqOf d = some (true, n) ∧ (lk T.al fx g || decide (ρ.s.length ≤ g)) = false ∧ ∃ ρ2, setS ρ g (.own d) = ρ2 ∧ K (.enut g n) ρ2) : WE (evalI T cl cm (.enu e) g fx ρ) X K := by
  simp only [evalI]
  refine WE.bind (k.mono fun o ρ ⟨d, n, ho, hs, hg, _, e, k⟩ => ?_)
  subst ho e
  simp only [hs, hg]
  exact WE.ok k
theorem wi_enuP {e : Ex} {g : Nat} (k : WE (evalO T cl cm e fx ρ) X fun o ρ => ∃ r d n, o = .p r [] ∧ own ρ r = some d ∧ seqOf d = some (false, n) ∧ K (.enu r n) ρ) : WE (evalI T cl cm (.enu e) g fx ρ) X K := by
  simp only [evalI]
  refine WE.bind (k.mono fun o ρ ⟨r, d, n, ho, hd, hs, k⟩ => ?_)
  subst ho
  simp only [hd, Option.bind_some, hs]; exact WE.ok k
theorem wi_zip {a b : Ex} {g : Nat} (k : WE (evalO T cl cm a fx ρ) X fun x ρ => WE (evalO T cl cm b fx ρ) X fun y ρ => ∃ l m, x = .v (.tup l) ∧ y = .v (.tup m) ∧ (immL l && immL m) = true ∧ (lk T.al fx g || lk T.al fx (g + 1) || decide (ρ.s.length ≤ g + 1)) = false ∧ ∃ ρ2, setS (setS ρ g (.own (.tup l))) (g + 1) (.own (.tup m)) = ρ2 ∧ K (.zip g (g + 1) (min l.length m.length)) ρ2) : WE (evalI T cl cm (.zip a b) g fx ρ) X K := by
  simp only [evalI]
  refine WE.bind (k.mono fun x ρ1 k1 => WE.bind (k1.mono fun y ρ2 ⟨l, m, h1, h2, h3, h4, ρ3, h5, k2⟩ => ?_))
  subst h1 h2
  simp only [h3, if_true, h4, Bool.false_eq_true, if_false]
  subst h5
  exact WE.ok k2
theorem wi_rng1 {l : List Ex} {g : Nat} (k : WE (evalOs T cl cm l fx ρ) X fun os ρ => ∃ j, os = [.v (.int j)] ∧ (-(2 ^ 62) ≤ j ∧ j < 2 ^ 62) ∧ K (.rng 0 1 j.toNat) ρ) : WE (evalI T cl cm (.rng l) g fx ρ) X K := by
  simp only [evalI]
  refine WE.bind (k.mono fun os ρ ⟨j, ho, hj, k⟩ => ?_)
  subst ho
  simp only
  rw [if_pos hj]
  exact WE.ok k
theorem wi_rng2 {l : List Ex} {g : Nat} (k : WE (evalOs T cl cm l fx ρ) X fun os ρ => ∃ i j, os = [.v (.int i), .v (.int j)] ∧ ((-(2 ^ 62) ≤ i ∧ i < 2 ^ 62) ∧ (-(2 ^ 62) ≤ j ∧ j < 2 ^ 62)) ∧ K (.rng i 1 (j - i).toNat) ρ) : WE (evalI T cl cm (.rng l) g fx ρ) X K := by
  simp only [evalI]
  refine WE.bind (k.mono fun os ρ ⟨i, j, ho, hj, k⟩ => ?_)
  subst ho
  simp only
  rw [if_pos hj]
  exact WE.ok k
theorem wi_rng3 {l : List Ex} {g : Nat} (k : WE (evalOs T cl cm l fx ρ) X fun os ρ => ∃ i j, os = [.v (.int i), .v (.int j), .v (.int (-1))] ∧ ((-(2 ^ 62) ≤ i ∧ i < 2 ^ 62) ∧ (-(2 ^ 62) ≤ j ∧ j < 2 ^ 62)) ∧ K (.rng i (-1) (i - j).toNat) ρ) : WE (evalI T cl cm (.rng l) g fx ρ) X K := by
  simp only [evalI]
  refine WE.bind (k.mono fun os ρ ⟨i, j, ho, hj, k⟩ => ?_)
  subst ho
  simp only
  rw [if_pos ⟨trivial, hj⟩]
  exact WE.ok k
end
theorem wc_nil {K : Bool → Env → Prop} (k : K true ρ) : WE (evalC T cl cm [] fx ρ) X K := WE.of c_nil k
theorem wc_one {e : Ex} {K : Bool → Env → Prop} (k : WE (evalO T cl cm e fx ρ) X fun o ρ => ∃ d t, o.rd ρ = some d ∧ truth d = some t ∧ K t ρ) : WE (evalC T cl cm [e] fx ρ) X K := by
  simp only [evalC]
  refine WE.bind (k.mono fun o ρ ⟨d, t, h, ht, k⟩ => ?_)
  exact WE.of (tru h ht) k
/-! ### comprehensions -/
theorem lc_walk {w : Walk} {t : D → Env → Res Unit} {c : Env → Res Bool} {e : Env → Res Od} {n : Nat} (hz : n ≤ 100000) (I : Nat → List D → Env → Prop) (he : ∀ i acc ρ, i ≤ n → I i acc ρ → w.there ρ = true)
    (hs : ∀ i acc ρ, i < n → I i acc ρ → ∃ d, w.item ρ i = some d ∧ WE (t d ρ) X fun _ ρ => WE (c ρ) X fun b ρ => (b = false → I (i + 1) acc ρ) ∧ (b = true → WE (e ρ) X fun o ρ => ∃ y, o = .v y ∧ I (i + 1) (acc ++ [y]) ρ))
    {K : List D → Env → Prop} (hK : ∀ acc ρ, I n acc ρ → K acc ρ) :
    ∀ (m i : Nat) (acc : List D) (ρ : Env), i + m = n → acc.length ≤ i → I i acc ρ → WE (lcLoop w t c e m i acc ρ) X K
  | 0, i, acc, ρ, hi, ha, h => by
    have : i = n := by omega
    subst this
    exact WE.of (lc_nil (he _ acc ρ (Nat.le_refl _) h)) (hK _ _ h)
  | m + 1, i, acc, ρ, hi, ha, h => by
    obtain ⟨d, hd, k⟩ := hs i acc ρ (by omega) h
    simp only [lcLoop, he i acc ρ (by omega) h, hd, if_true]
    refine WE.bind (k.mono fun _ ρ k => WE.bind (k.mono fun b ρ ⟨kf, kt⟩ => ?_))
    cases b with
    | false =>
      simp only [Bool.false_eq_true, if_false]
      exact lc_walk hz I he hs hK m (i + 1) acc ρ (by omega) (by omega) (kf rfl)
    | true =>
      simp only [if_true]
      refine WE.bind ((kt rfl).mono fun o ρ ⟨y, ho, k⟩ => ?_)
      subst ho
      have hl : acc.length < PySem.sizeLine := Nat.lt_of_lt_of_le (show acc.length < 100000 by omega) (by decide)
      simp only [hl, if_true]
      exact lc_walk hz I he hs hK m (i + 1) (acc ++ [y]) ρ (by omega) (by simp; omega) k
theorem we_lcG {t : Tg} {ow : List Nat} {e : Ex} {it : It} {g : Nat} {c : List Ex} (k : WE (evalI T cl cm it g fx ρ) X fun w ρ1 => ow.all (ownB T.al w ρ1) = true ∧ w.len ≤ 100000 ∧
      ∃ I : List Slot → Nat → List D → Env → Prop, I ρ1.s 0 [] (wipeS ow ρ1) ∧ (∀ i acc ρ, i ≤ w.len → I ρ1.s i acc ρ → w.there ρ = true) ∧
      (∀ i acc ρ, i < w.len → I ρ1.s i acc ρ → ∃ d ρ2, w.item ρ i = some d ∧ wipeS ow ρ = ρ2 ∧ WE (asgI T.al (w.fx fx) t d ρ2) X fun _ ρ => WE (evalC T cl cm c (w.fx fx) ρ) X fun b ρ => (b = false → I ρ1.s (i + 1) acc ρ) ∧ (b = true → WE (evalO T cl cm e (w.fx fx) ρ) X fun o ρ => ∃ y, o = .v y ∧ I ρ1.s (i + 1) (acc ++ [y]) ρ)) ∧
      ∀ acc ρ, I ρ1.s w.len acc ρ → ∃ ρ2, w.gone g (backS ρ1 ow ρ) = ρ2 ∧ K (.v (.lst false acc)) ρ2) : WE (evalO T cl cm (.lc t ow e it g c) fx ρ) X K := by
  simp only [evalO]
  refine WE.bind (k.mono fun w ρ1 ⟨ho, hz, I, h0, he, hs, hK⟩ => ?_)
  refine cast (congrArg (fun r => WE r X K) (Eq.symm (if_pos ho))) ?_
  refine WE.bind ?_
  exact lc_walk hz (I ρ1.s) he (fun i acc ρ hi h => by obtain ⟨d, _, h1, rfl, h2⟩ := hs i acc ρ hi h; exact ⟨d, h1, h2⟩) (fun acc ρ h => by obtain ⟨_, rfl, k⟩ := hK acc ρ h; exact WE.ok k) w.len 0 [] (wipeS ow ρ1) (by omega) (by simp) h0
/-- a comprehension without a test: J holds of the frame ahead of each turn, each item is the reading of a thing with V -/
theorem we_lcM {α : Type} (enc : α → D) (V : Nat → α → Prop) (J : List Slot → Nat → Env → Prop) {t : Tg} {ow : List Nat} {e : Ex} {it : It} {g : Nat} (k : WE (evalI T cl cm it g fx ρ) X fun w ρ1 => ow.all (ownB T.al w ρ1) = true ∧ w.len ≤ 100000 ∧
      J ρ1.s 0 (wipeS ow ρ1) ∧ (∀ i ρ, i ≤ w.len → J ρ1.s i ρ → w.there ρ = true) ∧
      (∀ i ρ, i < w.len → J ρ1.s i ρ → ∃ d ρ2, w.item ρ i = some d ∧ wipeS ow ρ = ρ2 ∧ WE (asgI T.al (w.fx fx) t d ρ2) X fun _ ρ => WE (evalO T cl cm e (w.fx fx) ρ) X fun o ρ => ∃ v, o = .v (enc v) ∧ V i v ∧ J ρ1.s (i + 1) ρ) ∧
      ∀ (L : List α) ρ, L.length = w.len → (∀ i v, L[i]? = some v → V i v) → J ρ1.s w.len ρ → ∃ ρ2, w.gone g (backS ρ1 ow ρ) = ρ2 ∧ K (.v (.lst false (L.map enc))) ρ2) : WE (evalO T cl cm (.lc t ow e it g []) fx ρ) X K := by
  refine we_lcG (k.mono fun w ρ1 ⟨ho, hz, h0, he, hs, hK⟩ => ⟨ho, hz, fun S i acc ρ => J S i ρ ∧ ∃ L : List α, acc = L.map enc ∧ L.length = i ∧ ∀ i v, L[i]? = some v → V i v, ⟨h0, [], rfl, rfl, fun i v h => by simp at h⟩, fun i _ ρ hi h => he i ρ hi h.1, ?_, ?_⟩)
  · rintro i _ ρ hi ⟨hJ, L, rfl, hL, hV⟩
    obtain ⟨d, ρ2, hd, hw, k⟩ := hs i ρ hi hJ
    refine ⟨d, ρ2, hd, hw, k.mono fun _ ρ k => wc_nil ⟨fun h => (by cases h), fun _ => k.mono fun o ρ ⟨v, ho, hv, hJ⟩ => ⟨enc v, ho, hJ, L ++ [v], by simp, by simp [hL], ?_⟩⟩⟩
    intro j u hj
    rw [List.getElem?_append] at hj
    split at hj
    · exact hV j u hj
    · rename_i h2
      have : j = i := by
        by_cases h3 : j - L.length = 0
        · omega
        · rw [List.getElem?_singleton] at hj
          simp [h3] at hj
      subst this
      have h4 : j - L.length = 0 := by omega
      rw [h4] at hj
      simp at hj
      subst hj
      exact hv
  · rintro _ ρ ⟨hJ, L, rfl, hL, hV⟩
    exact hK L ρ hL hV hJ
/-- a comprehension whose items are let by a test: what stands behind it is told of all that were let by -/
theorem we_lcP {α : Type} (enc : α → D) (V : Nat → α → Prop) (J : List Slot → Nat → Env → Prop) {t : Tg} {ow : List Nat} {e f : Ex} {it : It} {g : Nat} (k : WE (evalI T cl cm it g fx ρ) X fun w ρ1 => ow.all (ownB T.al w ρ1) = true ∧ w.len ≤ 100000 ∧
      J ρ1.s 0 (wipeS ow ρ1) ∧ (∀ i ρ, i ≤ w.len → J ρ1.s i ρ → w.there ρ = true) ∧
      (∀ i ρ, i < w.len → J ρ1.s i ρ → ∃ d ρ2, w.item ρ i = some d ∧ wipeS ow ρ = ρ2 ∧ WE (asgI T.al (w.fx fx) t d ρ2) X fun _ ρ => WE (evalO T cl cm f (w.fx fx) ρ) X fun o ρ => ∃ d b, o.rd ρ = some d ∧ truth d = some b ∧ (b = false → J ρ1.s (i + 1) ρ) ∧ (b = true → WE (evalO T cl cm e (w.fx fx) ρ) X fun o ρ => ∃ v, o = .v (enc v) ∧ V i v ∧ J ρ1.s (i + 1) ρ)) ∧
      ∀ (L : List α) ρ, L.length ≤ w.len → (∀ v ∈ L, ∃ i, i < w.len ∧ V i v) → J ρ1.s w.len ρ → ∃ ρ2, w.gone g (backS ρ1 ow ρ) = ρ2 ∧ K (.v (.lst false (L.map enc))) ρ2) : WE (evalO T cl cm (.lc t ow e it g [f]) fx ρ) X K := by
  refine we_lcG (k.mono fun w ρ1 ⟨ho, hz, h0, he, hs, hK⟩ => ⟨ho, hz, fun S i acc ρ => J S i ρ ∧ ∃ L : List α, acc = L.map enc ∧ L.length ≤ i ∧ ∀ v ∈ L, ∃ j, j < i ∧ V j v, ⟨h0, [], rfl, Nat.le_refl _, fun v h => by cases h⟩, fun i _ ρ hi h => he i ρ hi h.1, ?_, ?_⟩)
  · rintro i _ ρ hi ⟨hJ, L, rfl, hL, hV⟩
    obtain ⟨d, ρ2, hd, hw, k⟩ := hs i ρ hi hJ
    refine ⟨d, ρ2, hd, hw, k.mono fun _ ρ k => wc_one (k.mono fun o ρ ⟨d, b, h1, h2, kf, kt⟩ => ⟨d, b, h1, h2, fun hb => ⟨kf hb, L, rfl, by omega, fun v hv => ?_⟩, fun hb => (kt hb).mono fun o ρ ⟨v, ho, hv, hJ⟩ => ⟨enc v, ho, hJ, L ++ [v], by simp, by simp; omega, fun u hu => ?_⟩⟩)⟩
    · obtain ⟨j, hj, h⟩ := hV v hv
      exact ⟨j, by omega, h⟩
    · rcases List.mem_append.mp hu with hu | hu
      · obtain ⟨j, hj, h⟩ := hV u hu
        exact ⟨j, by omega, h⟩
      · have : u = v := by simpa using hu
        subst this
        exact ⟨i, by omega, hv⟩
  · rintro _ ρ ⟨hJ, L, rfl, hL, hV⟩
    exact hK L ρ hL hV hJ
/-- a comprehension with a test, told exactly: the items i with P, F of each -/
theorem we_lcX {α : Type} (enc : α → D) (P : Nat → Bool) (F : Nat → α) (J : List Slot → Nat → Env → Prop) {t : Tg} {ow : List Nat} {e f : Ex} {it : It} {g : Nat} (k : WE (evalI T cl cm it g fx ρ) X fun w ρ1 => ow.all (ownB T.al w ρ1) = true ∧ w.len ≤ 100000 ∧
      J ρ1.s 0 (wipeS ow ρ1) ∧ (∀ i ρ, i ≤ w.len → J ρ1.s i ρ → w.there ρ = true) ∧
      (∀ i ρ, i < w.len → J ρ1.s i ρ → ∃ d ρ2, w.item ρ i = some d ∧ wipeS ow ρ = ρ2 ∧ WE (asgI T.al (w.fx fx) t d ρ2) X fun _ ρ => WE (evalO T cl cm f (w.fx fx) ρ) X fun o ρ => ∃ d, o.rd ρ = some d ∧ truth d = some (P i) ∧ (P i = false → J ρ1.s (i + 1) ρ) ∧ (P i = true → WE (evalO T cl cm e (w.fx fx) ρ) X fun o ρ => o = .v (enc (F i)) ∧ J ρ1.s (i + 1) ρ)) ∧
      ∀ ρ, J ρ1.s w.len ρ → ∃ ρ2, w.gone g (backS ρ1 ow ρ) = ρ2 ∧ K (.v (.lst false ((((List.range w.len).filter P).map F).map enc))) ρ2) : WE (evalO T cl cm (.lc t ow e it g [f]) fx ρ) X K := by
  refine we_lcG (k.mono fun w ρ1 ⟨ho, hz, h0, he, hs, hK⟩ => ⟨ho, hz, fun S i acc ρ => J S i ρ ∧ acc = (((List.range i).filter P).map F).map enc, ⟨h0, rfl⟩, fun i _ ρ hi h => he i ρ hi h.1, ?_, ?_⟩)
  · rintro i _ ρ hi ⟨hJ, rfl⟩
    obtain ⟨d, ρ2, hd, hw, k⟩ := hs i ρ hi hJ
    refine ⟨d, ρ2, hd, hw, k.mono fun _ ρ k => wc_one (k.mono fun o ρ ⟨d, h1, h2, kf, kt⟩ => ⟨d, P i, h1, h2, fun hb => ⟨kf hb, ?_⟩, fun hb => (kt hb).mono fun o ρ ⟨ho, hJ⟩ => ⟨enc (F i), ho, hJ, ?_⟩⟩)⟩
    · rw [List.range_succ, List.filter_append]; simp [hb]
    · rw [List.range_succ, List.filter_append]; simp [hb]
  · rintro _ ρ ⟨hJ, rfl⟩
    exact hK ρ hJ
/-- a comprehension whose test is never so -/
theorem we_lcF (J : List Slot → Nat → Env → Prop) {t : Tg} {ow : List Nat} {e f : Ex} {it : It} {g : Nat} (k : WE (evalI T cl cm it g fx ρ) X fun w ρ1 => ow.all (ownB T.al w ρ1) = true ∧ w.len ≤ 100000 ∧
      J ρ1.s 0 (wipeS ow ρ1) ∧ (∀ i ρ, i ≤ w.len → J ρ1.s i ρ → w.there ρ = true) ∧
      (∀ i ρ, i < w.len → J ρ1.s i ρ → ∃ d ρ2, w.item ρ i = some d ∧ wipeS ow ρ = ρ2 ∧ WE (asgI T.al (w.fx fx) t d ρ2) X fun _ ρ => WE (evalO T cl cm f (w.fx fx) ρ) X fun o ρ => ∃ d, o.rd ρ = some d ∧ truth d = some false ∧ J ρ1.s (i + 1) ρ) ∧
      ∀ ρ, J ρ1.s w.len ρ → ∃ ρ2, w.gone g (backS ρ1 ow ρ) = ρ2 ∧ K (.v (.lst false [])) ρ2) : WE (evalO T cl cm (.lc t ow e it g [f]) fx ρ) X K := by
  refine we_lcG (k.mono fun w ρ1 ⟨ho, hz, h0, he, hs, hK⟩ => ⟨ho, hz, fun S i acc ρ => J S i ρ ∧ acc = [], ⟨h0, rfl⟩, fun i _ ρ hi h => he i ρ hi h.1, ?_, ?_⟩)
  · rintro i _ ρ hi ⟨hJ, rfl⟩
    obtain ⟨d, ρ2, hd, hw, k⟩ := hs i ρ hi hJ
    exact ⟨d, ρ2, hd, hw, k.mono fun _ ρ k => wc_one (k.mono fun o ρ ⟨d, h1, h2, h3⟩ => ⟨d, false, h1, h2, fun _ => ⟨h3, rfl⟩, fun h => nomatch h⟩)⟩
  · rintro _ ρ ⟨hJ, rfl⟩
    exact hK ρ hJ
/-! ### targets -/
section
variable {K : Unit → Env → Prop}
theorem wt_nm {i : Nat} {d : D} {s : Slot} (ok : okS s) (hs : ρ.s[i]? = some s) (hf : lk T.al fx i = false) (e : setS ρ i (.own d) = ρ2) (k : K () ρ2) : WE (asgT T cl cm (.nm i) (.v d) fx ρ) X K :=
  WE.of (t_nm rfl (a_nm ok hs hf)) (by subst e; exact k)
theorem wt_al {i r : Nat} {q : List Stp} {s : Slot} {d : D} (hf : lk T.al fx i = false) (hm : T.al.contains (i, r, q) = true) (hs : ρ.s[i]? = some s) (hfr : s.free = true) (hg : getP ρ r q = some d) (e : setS ρ i (.al r q) = ρ2) (k : K () ρ2) : WE (asgT T cl cm (.nm i) (.p r q) fx ρ) X K := by
  subst e
  refine WE.of (a := ()) (ρ := setS ρ i (.al r q)) ?_ k
  simp only [asgT, hf, hm, hs, hg, hfr, Bool.false_eq_true, if_false, if_true]
theorem okI.f {s : Slot} (h : okI s) : s.free = true := by
  rcases h with rfl | ⟨d, rfl, h⟩
  · rfl
  · exact h
theorem wn_nil (k : K () ρ) : WE (asgNs AL fx [] [] ρ) X K := WE.of as_nil k
theorem wn_cons {is : List Nat} {i : Nat} {d : D} {ds : List D} {s : Slot} (ok : okS s) (hs : ρ.s[i]? = some s) (hf : lk AL fx i = false) (e : setS ρ i (.own d) = ρ2) (k : WE (asgNs AL fx is ds ρ2) X K) : WE (asgNs AL fx (i :: is) (d :: ds) ρ) X K := by
  subst e
  simp only [asgNs, a_nm ok hs hf, Res.bind]; exact k
theorem wt_tp {l : List Tg} {is : List Nat} {o : Od} {ds : List D} (ho : (o.rd ρ).bind unpD = some ds) (h : tgNames l = some is) (hm : immL ds = true) (k : WE (asgNs T.al fx is ds ρ) X K) : WE (asgT T cl cm (.tp l) o fx ρ) X K := by
  simp only [asgT, ho, h, hm, if_true]; exact k
theorem wt_tpV {l : List Tg} {is : List Nat} {d : D} {ds : List D} (ho : unpD d = some ds) (h : tgNames l = some is) (k : WE (asgNs T.al fx is ds ρ) X K) : WE (asgT T cl cm (.tp l) (.v d) fx ρ) X K := by
  simp only [asgT, Od.rd, Option.bind_some, ho, h]
  split <;> exact k
theorem wa_nm {i : Nat} {d : D} {s : Slot} (ok : okS s) (hs : ρ.s[i]? = some s) (hf : lk AL fx i = false) (e : setS ρ i (.own d) = ρ2) (k : K () ρ2) : WE (asgI AL fx (.nm i) d ρ) X K :=
  WE.of (a_nm ok hs hf) (by subst e; exact k)
theorem wa_tp {l : List Tg} {is : List Nat} {d : D} {ds : List D} (hu : unpI d = some ds) (h : tgNames l = some is) (k : WE (asgNs AL fx is ds ρ) X K) : WE (asgI AL fx (.tp l) d ρ) X K := by
  simp only [asgI, hu, h]; exact k
theorem wt_ix {a i : Ex} {d : D} (k : WE (evalO T cl cm a fx ρ) X fun x ρ => WE (evalO T cl cm i fx ρ) X fun y ρ => ∃ r q k e e', x.okb i.pur = true ∧ x = .p r q ∧ y = .v k ∧ getP ρ r q = some e ∧ ixSet e k d = some e' ∧ ∃ ρ2, killE T.al (belowK r q k) (putP ρ r q e') = ρ2 ∧ K () ρ2) : WE (asgT T cl cm (.ix a i) (.v d) fx ρ) X K := by
  simp only [asgT]
  refine WE.bind (k.mono fun x ρ k => WE.bind (k.mono fun y ρ ⟨r, q, kk, e, e', hk, hx, hy, hg, hs, _, rfl, kz⟩ => ?_))
  subst hx hy
  simp only [hk, hg, hs, if_true, Option.bind_some]
  exact WE.ok kz
theorem wt_at {a : Ex} {f : PySem.Str} {d : D} (k : WE (evalO T cl cm a fx ρ) X fun x ρ => ∃ r q e e', x = .p r q ∧ getP ρ r q = some e ∧ fldB T e f = true ∧ fldSet e f d = some e' ∧ ∃ ρ2, killE T.al (belowF r q f) (putP ρ r q e') = ρ2 ∧ K () ρ2) : WE (asgT T cl cm (.at a f) (.v d) fx ρ) X K := by
  simp only [asgT]
  refine WE.bind (k.mono fun x ρ ⟨r, q, e, e', hx, hg, hfb, hs, _, rfl, k⟩ => ?_)
  subst hx
  simp only [hg, hfb, hs, Option.bind_some, if_true]
  exact WE.ok k
end
/-! ### statements -/
theorem execs_app : ∀ (b r : List Sx) (ρ : Env), execs T cl cm W (b ++ r) fx ρ = (execs T cl cm W b fx ρ).sq fun ρ => execs T cl cm W r fx ρ
  | [], r, ρ => by simp only [List.nil_append, execs, SRes.sq]
  | s :: b, r, ρ => by
    simp only [List.cons_append, execs]
    cases exec T cl cm W s fx ρ <;> simp only [SRes.sq, execs_app b r]
theorem ws_nil (k : P.nx ρ) : WS (execs T cl cm W [] fx ρ) P := by rw [xs_nil]; exact WS.i_nx k
theorem ws_asg {t : Tg} {e : Ex} {r : List Sx} (k : WE (evalO T cl cm e fx ρ) P.ex fun o ρ => WE (asgT T cl cm t o fx ρ) P.ex fun _ ρ => WS (execs T cl cm W r fx ρ) P) : WS (execs T cl cm W (.asg t e :: r) fx ρ) P := by
  simp only [execs, exec]
  refine WS.sq (WE.st (k.mono fun o ρ k => WE.st (k.mono fun _ ρ k => WS.i_nx k)))
theorem ws_expr {e : Ex} {r : List Sx} (k : WE (evalO T cl cm e fx ρ) P.ex fun _ ρ => WS (execs T cl cm W r fx ρ) P) : WS (execs T cl cm W (.expr e :: r) fx ρ) P := by
  simp only [execs, exec]
  exact WS.sq (WE.st (k.mono fun o ρ k => WS.i_nx k))
theorem ws_pass {r : List Sx} (k : WS (execs T cl cm W r fx ρ) P) : WS (execs T cl cm W (.pass :: r) fx ρ) P := by
  simp only [execs, exec]
  exact WS.sq (WS.i_nx k)
theorem ws_brk {r : List Sx} (k : P.bk ρ) : WS (execs T cl cm W (.brk :: r) fx ρ) P := by
  simp only [execs, exec]; exact WS.i_bk k
theorem ws_cnt {r : List Sx} (k : P.ct ρ) : WS (execs T cl cm W (.cnt :: r) fx ρ) P := by
  simp only [execs, exec]; exact WS.i_ct k
theorem ws_ret {e : Ex} {r : List Sx} (k : WE (evalO T cl cm e fx ρ) P.ex fun o ρ => ∃ d, o = .v d ∧ P.rt d ρ) : WS (execs T cl cm W (.ret e :: r) fx ρ) P := by
  simp only [execs, exec]
  refine WS.sq (WE.st (k.mono fun o ρ ⟨d, h, k⟩ => ?_))
  subst h
  exact WS.i_rt k
theorem ws_ite {c : Ex} {a b r : List Sx} (k : WE (evalO T cl cm c fx ρ) P.ex fun o ρ => ∃ d t, o.rd ρ = some d ∧ truth d = some t ∧ (t = true → WS (execs T cl cm W (a ++ r) fx ρ) P) ∧ (t = false → WS (execs T cl cm W (b ++ r) fx ρ) P)) : WS (execs T cl cm W (.ite c a b :: r) fx ρ) P := by
  simp only [execs, exec]
  refine WS.sq (WE.st (k.mono fun o ρ ⟨d, t, h, ht, k1, k2⟩ => WE.st (WE.of (tru h ht) ?_)))
  have ap : ∀ (b : List Sx) (ρ : Env), WS (execs T cl cm W (b ++ r) fx ρ) P → WS (execs T cl cm W b fx ρ) ⟨fun ρ => WS (execs T cl cm W r fx ρ) P, P.ct, P.bk, P.rt, P.ex⟩ := by
    intro b ρ h
    rw [execs_app] at h
    revert h
    cases execs T cl cm W b fx ρ
    case nx => exact fun h => WS.i_nx h
    case ct ρ => exact fun h => WS.i_ct (WS.e_ct (ρ := ρ) (P := P) h)
    case bk ρ => exact fun h => WS.i_bk (WS.e_bk (ρ := ρ) (P := P) h)
    case rt d ρ => exact fun h => WS.i_rt (WS.e_rt (d := d) (ρ := ρ) (P := P) h)
    case ex x ρ => exact fun h => WS.i_ex (WS.e_ex (x := x) (ρ := ρ) (P := P) h)
    case no => exact fun h => (WS.e_no (P := P) h).elim
  cases t with
  | true => exact ap _ _ (k1 rfl)
  | false => exact ap _ _ (k2 rfl)
/-- both ways meet: R holds behind -/
theorem ws_join {s : Sx} {r : List Sx} (R : List Slot → Env → Prop) (h : WS (execs T cl cm W [s] fx ρ) ⟨R ρ.s, P.ct, P.bk, P.rt, P.ex⟩) (k : ∀ ρ', R ρ.s ρ' → WS (execs T cl cm W r fx ρ') P) : WS (execs T cl cm W (s :: r) fx ρ) P := by
  simp only [execs]
  refine WS.sq ?_
  have : execs T cl cm W [s] fx ρ = exec T cl cm W s fx ρ := by
    simp only [execs]
    cases exec T cl cm W s fx ρ <;> rfl
  rw [this] at h
  exact h.mono k (fun _ h => h) (fun _ h => h) (fun _ _ h => h) (fun _ _ h => h)
theorem ws_aug {i : Nat} {o : Bin} {e : Ex} {r : List Sx} {d : D} (h : ρ.s[i]? = some (.own d)) (k : WE (evalO T cl cm e fx ρ) P.ex fun y ρ => ∃ e j s, y.rd ρ = some e ∧ binD o d e = some (.int j) ∧ okS s ∧ ρ.s[i]? = some s ∧ lk T.al fx i = false ∧ ∃ ρ2, setS ρ i (.own (.int j)) = ρ2 ∧ WS (execs T cl cm W r fx ρ2) P) : WS (execs T cl cm W (.aug (.nm i) o e :: r) fx ρ) P := by
  simp only [execs, exec, h]
  refine WS.sq (WE.st (k.mono fun y ρ ⟨e, j, s, he, hb, ok, hs, hf, _, rfl, k⟩ => ?_))
  simp only [he, hb]
  exact WE.st (WE.of (a_nm ok hs hf) (WS.i_nx k))
theorem ws_augA {a : Ex} {f : PySem.Str} {o : Bin} {e : Ex} {r : List Sx} (k : WE (evalO T cl cm a fx ρ) P.ex fun x ρ => ∃ p q c ns l d, x = .p p q ∧ getP ρ p q = some (.ins false c ns l) ∧ look f ns l = some d ∧ (x.okb e.pur && (T.cls.contains c && T.flds.contains f)) = true ∧ WE (evalO T cl cm e fx ρ) P.ex fun y ρ => ∃ b j e2 e', y = .v b ∧ binD o d b = some (.int j) ∧ getP ρ p q = some e2 ∧ sameC c e2 = true ∧ fldSet e2 f (.int j) = some e' ∧ ∃ ρ2, killE T.al (belowF p q f) (putP ρ p q e') = ρ2 ∧ WS (execs T cl cm W r fx ρ2) P) : WS (execs T cl cm W (.aug (.at a f) o e :: r) fx ρ) P := by
  simp only [execs, exec]
  refine WS.sq (WE.st (k.mono fun x ρ ⟨p, q, c, ns, l, d, hx, hg, hl, hk, k⟩ => ?_))
  subst hx
  simp only [hg, hl, hk, if_true]
  refine WE.st (k.mono fun y ρ ⟨b, j, e2, e', hy, hb, hg2, hsc, hf, _, rfl, k⟩ => ?_)
  subst hy
  simp only [hb, hg2, hsc, hf, if_true]
  exact WS.i_nx k
theorem for_walk {w : Walk} {t : D → Env → Res Unit} {b : Env → SRes} {n : Nat} (I : Nat → Env → Prop) (E : Env → Prop) (he : ∀ i ρ, i ≤ n → I i ρ → w.there ρ = true)
    (hs : ∀ i ρ, i < n → I i ρ → ∃ d, w.item ρ i = some d ∧ WE (t d ρ) P.ex fun _ ρ => WS (b ρ) ⟨I (i + 1), I (i + 1), E, P.rt, P.ex⟩) (hE : ∀ ρ, E ρ → P.nx ρ) (hK : ∀ ρ, I n ρ → P.nx ρ) :
    ∀ (m i : Nat) (ρ : Env), i + m = n → I i ρ → WS (forLoop w t b m i ρ) P
  | 0, i, ρ, hi, h => by
    have : i = n := by omega
    subst this
    rw [f_nil (he _ _ (Nat.le_refl _) h)]
    exact WS.i_nx (hK _ h)
  | m + 1, i, ρ, hi, h => by
    obtain ⟨d, hd, k⟩ := hs i ρ (by omega) h
    simp only [forLoop, he i ρ (by omega) h, hd, if_true]
    refine WE.st (k.mono fun _ ρ k => ?_)
    revert k
    cases b ρ with
    | nx ρ => exact fun k => for_walk I E he hs hE hK m (i + 1) ρ (by omega) (WS.e_nx k)
    | ct ρ => exact fun k => for_walk I E he hs hE hK m (i + 1) ρ (by omega) (WS.e_ct k)
    | bk ρ => exact fun k => WS.i_nx (hE ρ (WS.e_bk k))
    | rt d ρ => exact fun k => by have h := WS.e_rt k; exact WS.i_rt h
    | ex x ρ => exact fun k => by have h := WS.e_ex k; exact WS.i_ex h
    | no => exact fun k => (WS.e_no k).elim
theorem ws_for {t : Tg} {it : It} {g : Nat} {b r : List Sx} (k : WE (evalI T cl cm it g fx ρ) P.ex fun w ρ1 => ∃ (I : List Slot → Nat → Env → Prop) (E : List Slot → Env → Prop), I ρ1.s 0 ρ1 ∧ (∀ i ρ, i ≤ w.len → I ρ1.s i ρ → w.there ρ = true) ∧
      (∀ i ρ, i < w.len → I ρ1.s i ρ → ∃ d, w.item ρ i = some d ∧ WE (asgI T.al (w.fx fx) t d ρ) P.ex fun _ ρ => WS (execs T cl cm W b (w.fx fx) ρ) ⟨I ρ1.s (i + 1), I ρ1.s (i + 1), E ρ1.s, P.rt, P.ex⟩) ∧
      (∀ ρ, E ρ1.s ρ → ∃ ρ2, w.gone g ρ = ρ2 ∧ WS (execs T cl cm W r fx ρ2) P) ∧ (∀ ρ, I ρ1.s w.len ρ → ∃ ρ2, w.gone g ρ = ρ2 ∧ WS (execs T cl cm W r fx ρ2) P)) : WS (execs T cl cm W (.for t it g b :: r) fx ρ) P := by
  simp only [execs, exec]
  refine WS.sq (WE.st (k.mono fun w ρ1 ⟨I, E, h0, he, hs, hE, hK⟩ => WS.sq ?_))
  refine WS.mono (for_walk (P := ⟨fun ρ => WS (execs T cl cm W r fx (w.gone g ρ)) P, P.ct, P.bk, P.rt, P.ex⟩) (I ρ1.s) (E ρ1.s) he hs (fun ρ h => by obtain ⟨_, rfl, k⟩ := hE ρ h; exact k) (fun ρ h => by obtain ⟨_, rfl, k⟩ := hK ρ h; exact k) w.len 0 ρ1 (by omega) h0) (fun ρ h => WS.i_nx h) (fun _ h => h) (fun _ h => h) (fun _ _ h => h) (fun _ _ h => h)
theorem wh_walk {c : Env → Res Bool} {b : Env → SRes} (I : Nat → Env → Prop) (E : Env → Prop)
    (hs : ∀ m ρ, I m ρ → WE (c ρ) P.ex fun t ρ => (t = false → P.nx ρ) ∧ (t = true → WS (b ρ) ⟨fun ρ => ∃ m', m' < m ∧ I m' ρ, fun ρ => ∃ m', m' < m ∧ I m' ρ, E, P.rt, P.ex⟩)) (hE : ∀ ρ, E ρ → P.nx ρ) :
    ∀ (W m : Nat) (ρ : Env), m < W → I m ρ → WS (whLoop c b W ρ) P
  | 0, m, ρ, hm, h => by omega
  | W + 1, m, ρ, hm, h => by
    simp only [whLoop]
    refine WE.st ((hs m ρ h).mono fun t ρ ⟨kf, kt⟩ => ?_)
    cases t with
    | false => exact WS.i_nx (kf rfl)
    | true =>
      have k := kt rfl
      revert k
      simp only [if_true]
      cases b ρ with
      | nx ρ => exact fun k => (fun ⟨m', h1, h2⟩ => wh_walk I E hs hE W m' ρ (by omega) h2) (WS.e_nx k)
      | ct ρ => exact fun k => (fun ⟨m', h1, h2⟩ => wh_walk I E hs hE W m' ρ (by omega) h2) (WS.e_ct k)
      | bk ρ => exact fun k => WS.i_nx (hE ρ (WS.e_bk k))
      | rt d ρ => exact fun k => by have h := WS.e_rt k; exact WS.i_rt h
      | ex x ρ => exact fun k => by have h := WS.e_ex k; exact WS.i_ex h
      | no => exact fun k => (WS.e_no k).elim
theorem ws_whl {c : Ex} {b r : List Sx} (I : List Slot → Nat → Env → Prop) (E : List Slot → Env → Prop) {m : Nat} (hm : m < W) (h0 : I ρ.s m ρ)
    (hs : ∀ m ρ', I ρ.s m ρ' → WE (evalO T cl cm c fx ρ') P.ex fun o ρ' => ∃ d t, o.rd ρ' = some d ∧ truth d = some t ∧ (t = false → WS (execs T cl cm W r fx ρ') P) ∧ (t = true → WS (execs T cl cm W b fx ρ') ⟨fun ρ' => ∃ m', m' < m ∧ I ρ.s m' ρ', fun ρ' => ∃ m', m' < m ∧ I ρ.s m' ρ', E ρ.s, P.rt, P.ex⟩))
    (hE : ∀ ρ', E ρ.s ρ' → WS (execs T cl cm W r fx ρ') P) : WS (execs T cl cm W (.whl c b :: r) fx ρ) P := by
  simp only [execs, exec]
  refine WS.sq (wh_walk (P := ⟨fun ρ => WS (execs T cl cm W r fx ρ) P, P.ct, P.bk, P.rt, P.ex⟩) (I ρ.s) (E ρ.s) (fun m ρ h => WE.bind ((hs m ρ h).mono fun o ρ ⟨d, t, ho, ht, kf, kt⟩ => WE.of (tru ho ht) ⟨kf, kt⟩)) hE W m ρ hm h0)
end
end Hw

/-! Pv, part Y: typed leaves of the calculus. -/
namespace Hw
open Pv
/-! ### what is not owned -/
theorem imN : immL [] = true := rfl
theorem imC {d : D} {ds : List D} (h : d.imm = true) (h2 : immL ds = true) : immL (d :: ds) = true := by simp [immL, h, h2]
theorem imT {l : List D} (h : immL l = true) : (D.tup l).imm = true := by simpa [D.imm] using h
theorem imL {α : Type} {enc : α → D} (h : ∀ x, (enc x).imm = true) (l : List α) : immL (l.map enc) = true := by
  induction l with
  | nil => rfl
  | cons x l ih => exact imC (h x) ih
theorem imM {α : Type} {enc : α → D} (h : ∀ x, (enc x).imm = true) {l : List α} : (D.tup (l.map enc)).imm = true := imT (imL h l)
/-- the item at a place -/
def geti {α : Type} [Inhabited α] (l : List α) (i : Int) : α := l.getD i.toNat default
theorem geti_eq {α : Type} [Inhabited α] {l : List α} {i : Int} (h : 0 ≤ i ∧ i < l.length) : l[i.toNat]? = some (geti l i) := by
  have : i.toNat < l.length := by omega
  simp [geti, List.getD_eq_getElem?_getD, List.getElem?_eq_getElem this]
theorem geti_mem {α : Type} [Inhabited α] {l : List α} {i : Int} (h : 0 ≤ i ∧ i < l.length) : geti l i ∈ l := List.mem_of_getElem? (geti_eq h)
theorem geti_all {α : Type} [Inhabited α] {P : α → Prop} {l : List α} {i : Int} (hP : ∀ x ∈ l, P x) (h : 0 ≤ i ∧ i < l.length) : P (geti l i) := hP _ (geti_mem h)
theorem ixOf_in {n : Nat} {i : Int} (h : 0 ≤ i ∧ i < n) : ixOf n i = some i.toNat := by simp [ixOf, h.1, h.2]
theorem ixOf_neg {n : Nat} {i : Int} (h : i < 0 ∧ -(n : Int) ≤ i) : ixOf n i = some (i + n).toNat := by
  have : ¬ 0 ≤ i := by omega
  simp [ixOf, this, h.2]
variable {AL : AlT}
section
variable {α : Type} [Inhabited α] {enc : α → D}
theorem ix_tl {l : List α} {i : Int} (h : 0 ≤ i ∧ i < l.length) : idxD (.tup (l.map enc)) (.int i) = some (enc (geti l i)) := by
  have h' : 0 ≤ i ∧ i < (l.map enc).length := by simpa using h
  simp [idxD, ixOf_in h, geti_eq h]
theorem ix_ll {z : Bool} {l : List α} {i : Int} (h : 0 ≤ i ∧ i < l.length) : idxD (.lst z (l.map enc)) (.int i) = some (enc (geti l i)) := by
  have h' : 0 ≤ i ∧ i < (l.map enc).length := by simpa using h
  simp [idxD, ixOf_in h, geti_eq h]
theorem ix_tlN {l : List α} {i : Int} (h : i < 0 ∧ -(l.length : Int) ≤ i) : idxD (.tup (l.map enc)) (.int i) = some (enc (geti l (i + l.length))) := by
  have h' : i < 0 ∧ -((l.map enc).length : Int) ≤ i := by simpa using h
  have h2 : 0 ≤ i + l.length ∧ i + l.length < l.length := by omega
  simp [idxD, ixOf_neg h, geti_eq h2]
theorem ix_llN {z : Bool} {l : List α} {i : Int} (h : i < 0 ∧ -(l.length : Int) ≤ i) : idxD (.lst z (l.map enc)) (.int i) = some (enc (geti l (i + l.length))) := by
  have h' : i < 0 ∧ -((l.map enc).length : Int) ≤ i := by simpa using h
  have h2 : 0 ≤ i + l.length ∧ i + l.length < l.length := by omega
  simp [idxD, ixOf_neg h, geti_eq h2]
/-- d[i] = v -/
def seti (l : List α) (i : Int) (v : α) : List α := l.set i.toNat v
theorem ixs {l : List α} {i : Int} {v : α} (h : 0 ≤ i ∧ i < l.length) : ixSet (.lst false (l.map enc)) (.int i) (enc v) = some (.lst false ((seti l i v).map enc)) := by
  have h' : 0 ≤ i ∧ i < (l.map enc).length := by simpa using h
  simp [ixSet, ixOf_in h, seti, List.map_set]
theorem ixsN {l : List α} {i : Int} {v : α} (h : i < 0 ∧ -(l.length : Int) ≤ i) : ixSet (.lst false (l.map enc)) (.int i) (enc v) = some (.lst false ((seti l (i + l.length) v).map enc)) := by
  have h' : i < 0 ∧ -((l.map enc).length : Int) ≤ i := by simpa using h
  simp [ixSet, ixOf_neg h, seti, List.map_set]
theorem seti_len {l : List α} {i : Int} {v : α} : (seti l i v).length = l.length := by simp [seti]
theorem seti_all {P : α → Prop} {l : List α} {i : Int} {v : α} (h : ∀ x ∈ l, P x) (hv : P v) : ∀ x ∈ seti l i v, P x := by
  intro x hx
  rcases List.mem_or_eq_of_mem_set hx with h1 | rfl
  · exact h x h1
  · exact hv
/-! ### slices -/
def takei (l : List α) (i : Int) : List α := l.take i.toNat
def dropi (l : List α) (i : Int) : List α := l.drop i.toNat
theorem cut_to {β : Type} {l : List β} {i : Int} (h : 0 ≤ i) : cut l none (some i) = l.take i.toNat := by
  have e : (if i < 0 then max (i + (l.length : Int)) 0 else min i (l.length : Int)).toNat - 0 = min i.toNat l.length := by rw [if_neg (by omega)]; omega
  simp only [cut, sIx]
  rw [e, List.drop_zero]
  rw [Nat.min_def]
  split
  · rfl
  · rw [List.take_of_length_le (by omega), List.take_of_length_le (by omega)]
theorem cut_from {β : Type} {l : List β} {i : Int} (h : 0 ≤ i) : cut l (some i) none = l.drop i.toNat := by
  have e : (if i < 0 then max (i + (l.length : Int)) 0 else min i (l.length : Int)).toNat = min i.toNat l.length := by rw [if_neg (by omega)]; omega
  simp only [cut, sIx]
  rw [e, List.take_of_length_le (by simp), Nat.min_def]
  split
  · rfl
  · rw [List.drop_of_length_le (by omega), List.drop_of_length_le (by omega)]
theorem cut_all {β : Type} {l : List β} : cut l none none = l := by simp [cut, sIx]
theorem sl_to {l : List α} {i : Int} (hi : ∀ x, (enc x).imm = true) (h : 0 ≤ i) : sliD (.tup (l.map enc)) none (some i) = some (.tup ((takei l i).map enc)) := by
  simp only [sliD, imL hi, if_true, cut_to h, takei, List.map_take]
theorem sl_from {l : List α} {i : Int} (hi : ∀ x, (enc x).imm = true) (h : 0 ≤ i) : sliD (.tup (l.map enc)) (some i) none = some (.tup ((dropi l i).map enc)) := by
  simp only [sliD, imL hi, if_true, cut_from h, dropi, List.map_drop]
theorem sl_toL {z : Bool} {l : List α} {i : Int} (hi : ∀ x, (enc x).imm = true) (h : 0 ≤ i) : sliD (.lst z (l.map enc)) none (some i) = some (.lst false ((takei l i).map enc)) := by
  simp only [sliD, imL hi, if_true, cut_to h, takei, List.map_take]
theorem sl_fromL {z : Bool} {l : List α} {i : Int} (hi : ∀ x, (enc x).imm = true) (h : 0 ≤ i) : sliD (.lst z (l.map enc)) (some i) none = some (.lst false ((dropi l i).map enc)) := by
  simp only [sliD, imL hi, if_true, cut_from h, dropi, List.map_drop]
theorem cut_mid {β : Type} {l : List β} {i j : Int} (h : 0 ≤ i ∧ i ≤ j) : cut l (some i) (some j) = (l.take j.toNat).drop i.toNat := by
  have e1 : (if i < 0 then max (i + (l.length : Int)) 0 else min i (l.length : Int)).toNat = min i.toNat l.length := by rw [if_neg (by omega)]; omega
  have e2 : (if j < 0 then max (j + (l.length : Int)) 0 else min j (l.length : Int)).toNat = min j.toNat l.length := by rw [if_neg (by omega)]; omega
  have e3 : cut l (some i) (some j) = (l.drop (min i.toNat l.length)).take (min j.toNat l.length - min i.toNat l.length) := by
    simp only [cut, sIx]
    rw [e1, e2]
  rw [e3]
  apply List.ext_getElem?
  intro q
  simp only [List.getElem?_take, List.getElem?_drop]
  by_cases h1 : i.toNat + q < j.toNat ∧ i.toNat + q < l.length
  · rw [if_pos (by omega), if_pos (by omega), Nat.min_eq_left (by omega)]
  · by_cases h2 : i.toNat + q < j.toNat
    · rw [if_neg (by omega), if_pos h2, List.getElem?_eq_none (by omega)]
    · rw [if_neg (by omega), if_neg h2]
theorem sl_mid {l : List α} {i j : Int} (hi : ∀ x, (enc x).imm = true) (h : 0 ≤ i ∧ i ≤ j) : sliD (.tup (l.map enc)) (some i) (some j) = some (.tup ((dropi (takei l j) i).map enc)) := by
  simp only [sliD, imL hi, if_true, cut_mid h, takei, dropi, List.map_drop, List.map_take]
theorem sl_midL {z : Bool} {l : List α} {i j : Int} (hi : ∀ x, (enc x).imm = true) (h : 0 ≤ i ∧ i ≤ j) : sliD (.lst z (l.map enc)) (some i) (some j) = some (.lst false ((dropi (takei l j) i).map enc)) := by
  simp only [sliD, imL hi, if_true, cut_mid h, takei, dropi, List.map_drop, List.map_take]
theorem sl_fix {l m : List D} {lo hi : Option Int} (h : immL l = true) (hr : cut l lo hi = m) : sliD (.tup l) lo hi = some (.tup m) := by
  simp only [sliD, h, if_true, hr]
theorem sl_fixL {z : Bool} {l m : List D} {lo hi : Option Int} (h : immL l = true) (hr : cut l lo hi = m) : sliD (.lst z l) lo hi = some (.lst false m) := by
  simp only [sliD, h, if_true, hr]
/-! ### numbers -/
theorem b_addI {i j : Int} : binD .add (.int i) (.int j) = some (.int (i + j)) := rfl
theorem b_subI {i j : Int} : binD .sub (.int i) (.int j) = some (.int (i - j)) := rfl
theorem b_mulI {i j : Int} (h : -18446744073709551616 < i ∧ i < 18446744073709551616) (h2 : -18446744073709551616 < j ∧ j < 18446744073709551616) : binD .mul (.int i) (.int j) = some (.int (i * j)) :=
  b_mul (lg (by omega) (by omega)) (lg (by omega) (by omega))
theorem b_fdivI {i j : Int} (h : 0 < j ∧ j < 18446744073709551616) : binD .fdiv (.int i) (.int j) = some (.int (i / j)) :=
  b_fdiv h.1 (Nat.lt_trans (lg (by omega) (by omega)) (by decide))
theorem b_modI {i j : Int} (h : 0 < j) : binD .mod (.int i) (.int j) = some (.int (i % j)) := b_mod h
theorem b_tupM {l m : List α} (hi : ∀ x, (enc x).imm = true) (h : l.length + m.length ≤ 100000) : binD .add (.tup (l.map enc)) (.tup (m.map enc)) = some (.tup ((l ++ m).map enc)) := by
  have h2 : (l.map enc).length + (m.map enc).length ≤ PySem.sizeLine := by
    simp only [List.length_map]
    exact Nat.le_trans h (by decide)
  simp only [binD, imL hi, h2, decide_true, Bool.and_self, if_true, List.map_append]
theorem b_lstM {z z2 : Bool} {l m : List α} (hi : ∀ x, (enc x).imm = true) (h : l.length + m.length ≤ 100000) : binD .add (.lst z (l.map enc)) (.lst z2 (m.map enc)) = some (.lst false ((l ++ m).map enc)) := by
  have h2 : (l.map enc).length + (m.map enc).length ≤ PySem.sizeLine := by
    simp only [List.length_map]
    exact Nat.le_trans h (by decide)
  simp only [binD, imL hi, h2, decide_true, Bool.and_self, if_true, List.map_append]
theorem b_fix {l m n : List D} (h : immL l = true) (h2 : immL m = true) (h3 : decide (l.length + m.length ≤ 1000) = true) (hr : l ++ m = n) : binD .add (.tup l) (.tup m) = some (.tup n) := by
  have h3 := of_decide_eq_true h3
  have h4 : l.length + m.length ≤ PySem.sizeLine := Nat.le_trans h3 (by decide)
  simp only [binD, h, h2, h4, decide_true, Bool.and_self, if_true, hr]
/-- [x] * n -/
theorem b_repL {x : α} {n : Int} (hi : ∀ x, (enc x).imm = true) (h : 0 ≤ n ∧ n ≤ 1000) : binD .mul (.lst false [enc x]) (.int n) = some (.lst false ((List.replicate n.toNat x).map enc)) := by
  have e : (List.replicate n.toNat [enc x]).flatten = (List.replicate n.toNat x).map enc := by
    induction n.toNat with
    | zero => rfl
    | succ k ih => simp [List.replicate_succ, ih]
  simp [binD, imC (hi x) imN, h.1, h.2, e]
theorem b_repT {x : α} {n : Int} (hi : ∀ x, (enc x).imm = true) (h : -1000000 ≤ n ∧ n ≤ 1000) : binD .mul (.tup [enc x]) (.int n) = some (.tup ((List.replicate n.toNat x).map enc)) := by
  have e : (List.replicate n.toNat [enc x]).flatten = (List.replicate n.toNat x).map enc := by
    induction n.toNat with
    | zero => rfl
    | succ k ih => simp [List.replicate_succ, ih]
  simp [binD, imC (hi x) imN, h.1, h.2, e]
/-! ### comparisons -/
theorem c_eqI {i j : Int} : cmpD .eq (.int i) (.int j) = some (decide (i = j)) := by simp [cmpD, eqD, D.eqk, D.beq]
theorem c_neI {i j : Int} : cmpD .ne (.int i) (.int j) = some (!decide (i = j)) := by simp [cmpD, eqD, D.eqk, D.beq]
theorem c_ltI {i j : Int} : cmpD .lt (.int i) (.int j) = some (decide (i < j)) := rfl
theorem c_leI {i j : Int} : cmpD .le (.int i) (.int j) = some (decide (i ≤ j)) := rfl
theorem c_gtI {i j : Int} : cmpD .gt (.int i) (.int j) = some (decide (j < i)) := rfl
theorem c_geI {i j : Int} : cmpD .ge (.int i) (.int j) = some (decide (j ≤ i)) := rfl
theorem c_eqB {a b : Bool} : cmpD .eq (.bl a) (.bl b) = some (a == b) := by simp [cmpD, eqD, D.eqk, D.beq]
theorem c_neB {a b : Bool} : cmpD .ne (.bl a) (.bl b) = some (!(a == b)) := by simp [cmpD, eqD, D.eqk, D.beq]
theorem anyEq_int (i : Int) : ∀ ws : List Int, anyEq (.int i) (ws.map .int) = decide (i ∈ ws)
  | [] => by simp [anyEq]
  | w :: ws => by
    simp only [List.map_cons, anyEq, anyEq_int i ws, D.beq]
    by_cases h : w = i
    · simp [h]
    · have : ¬ i = w := fun e => h e.symm
      simp [h, this]
theorem c_inI {i : Int} {ws : List Int} : cmpD .inn (.int i) (.tup (ws.map .int)) = some (decide (i ∈ ws)) := by
  have h1 : eqkL 60 (ws.map D.int) = true := eqkI ws 59
  have h2 : (D.int i).eqk 60 = true := rfl
  simp only [cmpD, inD, h1, h2, Bool.and_self, if_true, anyEq_int]
theorem c_inIL {z : Bool} {i : Int} {ws : List Int} : cmpD .inn (.int i) (.lst z (ws.map .int)) = some (decide (i ∈ ws)) := by
  have h1 : eqkL 60 (ws.map D.int) = true := eqkI ws 59
  have h2 : (D.int i).eqk 60 = true := rfl
  simp only [cmpD, inD, h1, h2, Bool.and_self, if_true, anyEq_int]
theorem c_ninIL {z : Bool} {i : Int} {ws : List Int} : cmpD .nin (.int i) (.lst z (ws.map .int)) = some (!decide (i ∈ ws)) := by
  have h1 : eqkL 60 (ws.map D.int) = true := eqkI ws 59
  have h2 : (D.int i).eqk 60 = true := rfl
  simp only [cmpD, inD, h1, h2, Bool.and_self, if_true, anyEq_int, Option.map_some]
theorem c_ninI {i : Int} {ws : List Int} : cmpD .nin (.int i) (.tup (ws.map .int)) = some (!decide (i ∈ ws)) := by
  have h1 : eqkL 60 (ws.map D.int) = true := eqkI ws 59
  have h2 : (D.int i).eqk 60 = true := rfl
  simp only [cmpD, inD, h1, h2, Bool.and_self, if_true, anyEq_int, Option.map_some]
mutual
theorem beq_self : ∀ {d : D} {n : Nat}, d.eqk n = true → d.beq d = true
  | .non, _ + 1, _ => by simp [D.beq]
  | .bl _, _ + 1, _ => by simp [D.beq]
  | .int _, _ + 1, _ => by simp [D.beq]
  | .str _, _ + 1, _ => by simp [D.beq]
  | .tup l, n + 1, h => by simp only [D.eqk] at h; simpa [D.beq] using beqL_self h
  | .lst _ l, n + 1, h => by simp only [D.eqk] at h; simpa [D.beq] using beqL_self h
  | .dk _ _ _, _ + 1, h => by simp [D.eqk] at h
  | .dt _ _ _, _ + 1, h => by simp [D.eqk] at h
  | .ins _ _ _ _, _ + 1, h => by simp [D.eqk] at h
  | .glo _, _ + 1, h => by simp [D.eqk] at h
  | .hole _, _ + 1, h => by simp [D.eqk] at h
  | _, 0, h => by simp [D.eqk] at h
theorem beqL_self : ∀ {l : List D} {n : Nat}, eqkL n l = true → beqL l l = true
  | [], _, _ => by simp [beqL]
  | d :: l, n, h => by
    simp only [eqkL, Bool.and_eq_true] at h
    simp [beqL, beq_self h.1, beqL_self h.2]
end
theorem c_eqS {d : D} (h : d.eqk 60 = true) : cmpD .eq d d = some true := by simp [cmpD, eqD, h, beq_self h]
theorem c_neS {d : D} (h : d.eqk 60 = true) : cmpD .ne d d = some false := by simp [cmpD, eqD, h, beq_self h]
/-- what may be compared -/
theorem eqkM {enc : α → D} {n : Nat} (h : ∀ x, (enc x).eqk n = true) (l : List α) : eqkL n (l.map enc) = true := by
  induction l with
  | nil => simp [eqkL]
  | cons x l ih => simp [eqkL, h x, ih]
theorem beqL_int : ∀ a b : List Int, beqL (a.map .int) (b.map .int) = decide (a = b)
  | [], [] => by simp [beqL]
  | [], y :: b => by simp [beqL]
  | x :: a, [] => by simp [beqL]
  | x :: a, y :: b => by
    simp only [List.map_cons, beqL, D.beq, beqL_int a b]
    by_cases h : x = y <;> by_cases h2 : a = b <;> simp [h, h2]
theorem c_eqT {a b : List Int} : cmpD .eq (.tup (a.map .int)) (.tup (b.map .int)) = some (decide (a = b)) := by
  have h1 : ∀ l : List Int, (D.tup (l.map D.int)).eqk 60 = true := fun l => by simpa [D.eqk] using eqkI l 58
  simp [cmpD, eqD, h1, D.beq, beqL_int]
theorem c_neT {a b : List Int} : cmpD .ne (.tup (a.map .int)) (.tup (b.map .int)) = some (!decide (a = b)) := by
  have h1 : ∀ l : List Int, (D.tup (l.map D.int)).eqk 60 = true := fun l => by simpa [D.eqk] using eqkI l 58
  simp [cmpD, eqD, h1, D.beq, beqL_int]
theorem c_eqL {y z : Bool} {a b : List Int} : cmpD .eq (.lst y (a.map .int)) (.lst z (b.map .int)) = some (decide (a = b)) := by
  have h1 : ∀ (z : Bool) (l : List Int), (D.lst z (l.map D.int)).eqk 60 = true := fun z l => by simpa [D.eqk] using eqkI l 58
  simp [cmpD, eqD, h1, D.beq, beqL_int]
theorem c_neL {y z : Bool} {a b : List Int} : cmpD .ne (.lst y (a.map .int)) (.lst z (b.map .int)) = some (!decide (a = b)) := by
  have h1 : ∀ (z : Bool) (l : List Int), (D.lst z (l.map D.int)).eqk 60 = true := fun z l => by simpa [D.eqk] using eqkI l 58
  simp [cmpD, eqD, h1, D.beq, beqL_int]
theorem c_eqTs {a b : List Int} (h : a = b) : cmpD .eq (.tup (a.map .int)) (.tup (b.map .int)) = some true := by rw [c_eqT, decide_eq_true h]
theorem c_neTs {a b : List Int} (h : a = b) : cmpD .ne (.tup (a.map .int)) (.tup (b.map .int)) = some false := by rw [c_neT, decide_eq_true h]; rfl
theorem geti_last {α : Type} [Inhabited α] {l : List α} {x : α} : geti (l ++ [x]) (-1 + ((l ++ [x]).length : Int)) = x := by
  have e : (-1 + ((l ++ [x]).length : Int)).toNat = l.length := by simp; omega
  unfold geti
  rw [e]
  simp
theorem geti_take {α : Type} [Inhabited α] {l : List α} {i j : Int} (h : 0 ≤ i ∧ i < j) : geti (takei l j) i = geti l i := by
  simp only [geti, takei, List.getD_eq_getElem?_getD]
  rw [List.getElem?_take_of_lt (by omega)]
/-! ### built-ins -/
theorem rev_ll {z : Bool} {l : List α} (hi : ∀ x, (enc x).imm = true) : revD (.lst z (l.map enc)) = some (.lst false (l.reverse.map enc)) := by simp only [revD, imL hi, if_true, List.map_reverse]
theorem rev_tl {l : List α} (hi : ∀ x, (enc x).imm = true) : revD (.tup (l.map enc)) = some (.tup (l.reverse.map enc)) := by simp only [revD, imL hi, if_true, List.map_reverse]
theorem b_shl {i j : Int} (h : 0 ≤ j ∧ j ≤ 1000000) (h2 : i.natAbs < 18446744073709551616) : binD .shl (.int i) (.int j) = some (.int (i * 2 ^ j.toNat)) := by simp only [binD]; rw [if_pos ⟨h.1, h.2, h2⟩]
theorem b_shr {i j : Int} (h : 0 ≤ j) : binD .shr (.int i) (.int j) = some (.int (i / 2 ^ j.toNat)) := by simp only [binD, h, if_true]
theorem b_and1 {i : Int} : binD .band (.int i) (.int 1) = some (.int (i % 2)) := rfl
theorem bi_lenT {l : List α} : biD .len [.tup (l.map enc)] = some (.int (l.length : Int)) := by simp [biD]
theorem bi_lenL {z : Bool} {l : List α} : biD .len [.lst z (l.map enc)] = some (.int (l.length : Int)) := by simp [biD]
theorem bi_tupM {z : Bool} {l : List α} (hi : ∀ x, (enc x).imm = true) : biD .tuple [.lst z (l.map enc)] = some (.tup (l.map enc)) := by simp only [biD, imL hi, if_true]
theorem bi_lstT {l : List α} (hi : ∀ x, (enc x).imm = true) : biD .list [.tup (l.map enc)] = some (.lst false (l.map enc)) := by simp only [biD, imL hi, if_true]
theorem bi_lstL {z : Bool} {l : List α} (hi : ∀ x, (enc x).imm = true) : biD .list [.lst z (l.map enc)] = some (.lst false (l.map enc)) := by simp only [biD, imL hi, if_true]
theorem bi_lstF {l : List D} (hi : immL l = true) : biD .list [.tup l] = some (.lst false l) := by simp only [biD, hi, if_true]
theorem bi_tupF {z : Bool} {l : List D} (hi : immL l = true) : biD .tuple [.lst z l] = some (.tup l) := by simp only [biD, hi, if_true]
theorem bi_tupT {l : List D} (hi : immL l = true) : biD .tuple [.tup l] = some (.tup l) := by simp only [biD, hi, if_true]
theorem bi_intB {b : Bool} : biD .int [.bl b] = some (.int (if b then 1 else 0)) := rfl
theorem bi_allM {z : Bool} {l : List Bool} : biD .all [.lst z (l.map .bl)] = some (.bl (l.all id)) := by
  have : ∀ l : List Bool, blsOf (l.map D.bl) = some l := by
    intro l
    induction l with
    | nil => rfl
    | cons x l ih => simp [blsOf, ih]
  simp [biD, this]
theorem intsOf_map : ∀ l : List Int, intsOf (l.map D.int) = some l
  | [] => rfl
  | x :: l => by simp [intsOf, intD?, intsOf_map l]
theorem bi_sumM {z : Bool} {l : List Int} : biD .sum [.lst z (l.map .int)] = some (.int l.sum) := by simp [biD, intsOf_map]
theorem bm_app {l : List α} {x : α} (h : l.length < 100000) : bmD .append (.lst false (l.map enc)) [enc x] = some (.non, .lst false ((l ++ [x]).map enc)) := by
  have h2 : (l.map enc).length < PySem.sizeLine := by
    simp only [List.length_map]
    exact Nat.lt_of_lt_of_le h (by decide)
  simp only [bmD, apD, h2, if_true, List.map_append, List.map_cons, List.map_nil]
theorem bm_ext {l m : List α} (hi : ∀ x, (enc x).imm = true) (h : l.length + m.length ≤ 100000) : bmD .extend (.lst false (l.map enc)) [.lst false (m.map enc)] = some (.non, .lst false ((l ++ m).map enc)) := by
  have h2 : (l.map enc).length + (m.map enc).length ≤ PySem.sizeLine := by
    simp only [List.length_map]
    exact Nat.le_trans h (by decide)
  simp only [bmD, exD, imL hi, h2, decide_true, Bool.and_self, if_true, List.map_append]
end
theorem all_of {α : Type} {P : α → Prop} {L : List α} (h : ∀ (i : Nat) v, L[i]? = some v → P v) : ∀ x ∈ L, P x := by
  intro x hx
  obtain ⟨i, hi⟩ := List.getElem?_of_mem hx
  exact h i x hi
theorem all_rep {α : Type} {P : α → Prop} {n : Nat} {x : α} (h : P x) : ∀ y ∈ List.replicate n x, P y := by
  intro y hy
  rw [List.eq_of_mem_replicate hy]; exact h
theorem geti_nat {α : Type} [Inhabited α] {l : List α} {i : Nat} (h : i < l.length) : l[i]? = some (geti l (i : Int)) := by
  have := geti_eq (l := l) (i := (i : Int)) (by omega)
  simpa using this
/-! ### dicts whose keys are numbers -/
section
variable {α : Type} {enc : α → D}
@[reducible] def dkI (enc : α → D) (m : List (Int × α)) : D := .dk false (m.map fun p => Sum.inl p.1) (m.map fun p => enc p.2)
def mg (k : Int) : List (Int × α) → Option α
  | [] => none
  | (a, v) :: r => if a = k then some v else mg k r
def mp (k : Int) (v : α) : List (Int × α) → List (Int × α)
  | [] => [(k, v)]
  | (a, u) :: r => if a = k then (a, v) :: r else (a, u) :: mp k v r
theorem look_dk (k : Int) : ∀ m : List (Int × α), look (Sum.inl k : L2.Key) (m.map fun p => Sum.inl p.1) (m.map fun p => enc p.2) = (mg k m).map enc
  | [] => rfl
  | (a, v) :: r => by
    simp only [List.map_cons, look, mg, look_dk k r, Sum.inl.injEq]
    by_cases h : a = k <;> simp [h]
theorem c_inK {k : Int} {m : List (Int × α)} : cmpD .inn (.int k) (dkI enc m) = some (mg k m).isSome := by simp [cmpD, inD, D.key, look_dk]
theorem c_ninK {k : Int} {m : List (Int × α)} : cmpD .nin (.int k) (dkI enc m) = some (!(mg k m).isSome) := by simp [cmpD, inD, D.key, look_dk]
theorem ix_dk {k : Int} {v : α} {m : List (Int × α)} (h : mg k m = some v) : idxD (dkI enc m) (.int k) = some (enc v) := by simp [idxD, D.key, look_dk, h]
theorem putKs_dk (k : Int) (v : α) : ∀ m : List (Int × α), putKs (Sum.inl k : L2.Key) (m.map fun p => Sum.inl p.1) = (mp k v m).map fun p => Sum.inl p.1
  | [] => rfl
  | (a, u) :: r => by
    simp only [List.map_cons, putKs, mp, putKs_dk k v r, Sum.inl.injEq]
    by_cases h : a = k <;> simp [h]
theorem putDs_dk (k : Int) (v : α) : ∀ m : List (Int × α), putDs (Sum.inl k : L2.Key) (enc v) (m.map fun p => Sum.inl p.1) (m.map fun p => enc p.2) = (mp k v m).map fun p => enc p.2
  | [] => rfl
  | (a, u) :: r => by
    simp only [List.map_cons, putDs, mp, putDs_dk k v r, Sum.inl.injEq]
    by_cases h : a = k <;> simp [h]
theorem ixs_dk {k : Int} {v : α} {m : List (Int × α)} (h : m.length < 100000) : ixSet (dkI enc m) (.int k) (enc v) = some (dkI enc (mp k v m)) := by
  simp [ixSet, D.key, h, putKs_dk k v, putDs_dk]
theorem mg_mp {j k : Int} {v : α} : ∀ m : List (Int × α), mg j (mp k v m) = if j = k then some v else mg j m
  | [] => by
    simp only [mp, mg]
    by_cases h : k = j
    · simp [h]
    · have h3 : ¬ j = k := fun e => h e.symm
      simp [h, h3]
  | (a, u) :: r => by
    simp only [mp]
    by_cases h : a = k
    · subst h
      simp only [if_true, mg]
      by_cases h2 : a = j
      · simp [h2]
      · have h3 : ¬ j = a := fun e => h2 e.symm
        simp [h2, h3]
    · simp only [if_neg h, mg, mg_mp r]
      by_cases h2 : a = j
      · subst h2; simp [h]
      · simp [h2]
theorem mp_lenE {k : Int} {v : α} : ∀ m : List (Int × α), (mp k v m).length = m.length + if (mg k m).isSome then 0 else 1
  | [] => by simp [mp, mg]
  | (a, u) :: r => by
    simp only [mp, mg]
    by_cases h : a = k
    · simp [h]
    · have := mp_lenE (k := k) (v := v) r
      simp only [if_neg h, List.length_cons]; omega
theorem mp_len {k : Int} {v : α} : ∀ m : List (Int × α), (mp k v m).length ≤ m.length + 1
  | [] => by simp [mp]
  | (a, u) :: r => by
    simp only [mp]
    split
    · simp
    · have := mp_len (k := k) (v := v) r
      simp only [List.length_cons]; omega
/-- how many of the first n numbers are keys -/
def mcnt (m : List (Int × α)) : Nat → Nat
  | 0 => 0
  | n + 1 => mcnt m n + if (mg (n : Int) m).isSome then 1 else 0
theorem mcnt_le (m : List (Int × α)) : ∀ n, mcnt m n ≤ n
  | 0 => Nat.le_refl _
  | n + 1 => by
    have := mcnt_le m n
    simp only [mcnt]
    split <;> omega
theorem mcnt_out {k : Int} {v : α} {m : List (Int × α)} : ∀ n : Nat, (n : Int) ≤ k → mcnt (mp k v m) n = mcnt m n
  | 0, _ => rfl
  | n + 1, h => by
    have h2 : ¬ (n : Int) = k := by omega
    have h3 := mcnt_out (k := k) (v := v) (m := m) n (by omega)
    simp only [mcnt, h3, mg_mp, if_neg h2]
theorem mcnt_new {k : Int} {v : α} {m : List (Int × α)} (h : mg k m = none) (h0 : 0 ≤ k) : ∀ n : Nat, k < n → mcnt (mp k v m) n = mcnt m n + 1
  | 0, h => by omega
  | n + 1, h1 => by
    simp only [mcnt, mg_mp]
    by_cases e : (n : Int) = k
    · rw [if_pos e, mcnt_out n (by omega), e, h]
      simp
    · rw [if_neg e, mcnt_new h h0 n (by omega)]
      omega
theorem mcnt_old {k : Int} {v : α} {m : List (Int × α)} (h : (mg k m).isSome = true) : ∀ n : Nat, mcnt (mp k v m) n = mcnt m n
  | 0 => rfl
  | n + 1 => by
    simp only [mcnt, mcnt_old h n, mg_mp]
    by_cases e : (n : Int) = k
    · rw [if_pos e, e, h]; rfl
    · rw [if_neg e]
theorem mcnt_mp {k : Int} {v : α} {m : List (Int × α)} {n : Nat} (h0 : 0 ≤ k ∧ k < n) : mcnt (mp k v m) n = mcnt m n + if (mg k m).isSome then 0 else 1 := by
  cases h : mg k m with
  | none => simpa using mcnt_new h h0.1 n h0.2
  | some u => simpa using mcnt_old (by rw [h]; rfl) n
end
theorem c_neIs {i : Int} : cmpD .ne (.int i) (.int i) = some false := by rw [c_neI, decide_eq_true rfl]; rfl
theorem rev_of {α : Type} [Inhabited α] {L M : List α} {n : Nat} (hL : L.length = n) (hM : M.length = n) (h : ∀ (i : Nat) v, L[i]? = some v → v = geti M ((n : Int) - 1 - (0 + (i : Int) * 1))) : L.reverse = M := by
  apply List.ext_getElem?
  intro i
  by_cases hi : i < n
  · rw [List.getElem?_reverse (by omega)]
    have e := h (L.length - 1 - i) _ (List.getElem?_eq_getElem (by omega))
    rw [List.getElem?_eq_getElem (by omega), e, geti_nat (by omega)]
    congr 2
    omega
  · rw [List.getElem?_eq_none (by simp; omega), List.getElem?_eq_none (by omega)]
theorem rgI_mem {a b x : Int} (h : x ∈ rgI a b) : a ≤ x ∧ x < b := by
  simp only [rgI, List.mem_map, List.mem_range] at h
  obtain ⟨i, h1, rfl⟩ := h
  omega
theorem rgI_len {a b : Int} : (rgI a b).length = (b - a).toNat := by simp [rgI]
section
variable {T : Tab} {cl cm : CallT} {fx : List Nat} {ρ : Env} {X : Exn → Env → Prop} {K : Od → Env → Prop}
/-- a comprehension with a test, told exactly, the list by a name -/
theorem we_lcXL {α : Type} (enc : α → D) (P : Nat → Bool) (F : Nat → α) (J : List Slot → Nat → Env → Prop) {t : Tg} {ow : List Nat} {e f : Ex} {it : It} {g : Nat} (k : WE (evalI T cl cm it g fx ρ) X fun w ρ1 => ow.all (ownB T.al w ρ1) = true ∧ w.len ≤ 100000 ∧
      J ρ1.s 0 (wipeS ow ρ1) ∧ (∀ i ρ, i ≤ w.len → J ρ1.s i ρ → w.there ρ = true) ∧
      (∀ i ρ, i < w.len → J ρ1.s i ρ → ∃ d ρ2, w.item ρ i = some d ∧ wipeS ow ρ = ρ2 ∧ WE (asgI T.al (w.fx fx) t d ρ2) X fun _ ρ => WE (evalO T cl cm f (w.fx fx) ρ) X fun o ρ => ∃ d, o.rd ρ = some d ∧ truth d = some (P i) ∧ (P i = false → J ρ1.s (i + 1) ρ) ∧ (P i = true → WE (evalO T cl cm e (w.fx fx) ρ) X fun o ρ => o = .v (enc (F i)) ∧ J ρ1.s (i + 1) ρ)) ∧
      ∀ L ρ, L = (((List.range w.len).filter P).map F) → J ρ1.s w.len ρ → ∃ ρ2, w.gone g (backS ρ1 ow ρ) = ρ2 ∧ K (.v (.lst false (L.map enc))) ρ2) : WE (evalO T cl cm (.lc t ow e it g [f]) fx ρ) X K :=
  we_lcX enc P F J (k.mono fun w ρ1 ⟨a, b, c, d, e, h⟩ => ⟨a, b, c, d, e, fun ρ hJ => h _ ρ rfl hJ⟩)
end
/-! ### walks -/
theorem it_rng {ρ : Env} {lo c : Int} {n i : Nat} : Walk.item ρ i (.rng lo c n) = some (.int (lo + i * c)) := rfl
theorem it_seq {α : Type} [Inhabited α] {enc : α → D} {ρ : Env} {t : Bool} {g n i : Nat} {l : List α} {d : D} (h : own ρ g = some d) (hd : itemsOf d = some (l.map enc)) (hi : i < l.length) (him : (enc (geti l (i : Int))).imm = true) : Walk.item ρ i (.seq t g n) = some (enc (geti l (i : Int))) := by
  simp [Walk.item, h, hd, geti_nat hi, him]
theorem it_enu {α : Type} [Inhabited α] {enc : α → D} {ρ : Env} {g n i : Nat} {l : List α} {d : D} (h : own ρ g = some d) (hd : itemsOf d = some (l.map enc)) (hi : i < l.length) (him : (enc (geti l (i : Int))).imm = true) : Walk.item ρ i (.enu g n) = some (.tup [.int (i : Int), enc (geti l (i : Int))]) := by
  simp [Walk.item, h, hd, geti_nat hi, him]
theorem it_lit {ρ : Env} {t : Bool} {g n i : Nat} {x d : D} (h : own ρ g = some d) (hx : (itemsOf d).bind (fun l => l[i]?) = some x) (hi : x.imm = true) : Walk.item ρ i (.seq t g n) = some x := by
  obtain ⟨l, h1, h2⟩ := Option.bind_eq_some_iff.mp hx
  simp [Walk.item, h, h1, h2, hi]
theorem th_seq {ρ : Env} {t : Bool} {g n : Nat} {d : D} (h : own ρ g = some d) (hs : seqOf d = some (t, n)) : Walk.there ρ (.seq t g n) = true := by simp [Walk.there, h, hs]
theorem it_enut {α : Type} [Inhabited α] {enc : α → D} {ρ : Env} {g n i : Nat} {l : List α} {d : D} (h : own ρ g = some d) (hd : itemsOf d = some (l.map enc)) (hi : i < l.length) (him : (enc (geti l (i : Int))).imm = true) : Walk.item ρ i (.enut g n) = some (.tup [.int (i : Int), enc (geti l (i : Int))]) := by
  simp [Walk.item, h, hd, geti_nat hi, him]
theorem th_enut {ρ : Env} {g n : Nat} {d : D} (h : own ρ g = some d) (hs : seqOf d = some (true, n)) : Walk.there ρ (.enut g n) = true := by simp [Walk.there, h, hs]
theorem th_enu {ρ : Env} {g n : Nat} {d : D} (h : own ρ g = some d) (hs : seqOf d = some (false, n)) : Walk.there ρ (.enu g n) = true := by simp [Walk.there, h, hs]
theorem it_zip {α β : Type} [Inhabited α] [Inhabited β] {enc : α → D} {en2 : β → D} {ρ : Env} {g g2 n i : Nat} {l : List α} {m : List β} (h : own ρ g = some (.tup (l.map enc))) (h2 : own ρ g2 = some (.tup (m.map en2))) (hi : i < min l.length m.length) (him : (enc (geti l (i : Int))).imm = true) (him2 : (en2 (geti m (i : Int))).imm = true) : Walk.item ρ i (.zip g g2 n) = some (.tup [enc (geti l (i : Int)), en2 (geti m (i : Int))]) := by
  have h3 : i < l.length := by omega
  have h4 : i < m.length := by omega
  simp [Walk.item, h, h2, geti_nat h3, geti_nat h4, him, him2]
theorem th_zip {ρ : Env} {g g2 n : Nat} {l m : List D} (h : own ρ g = some (.tup l)) (h2 : own ρ g2 = some (.tup m)) (hn : min l.length m.length = n) : Walk.there ρ (.zip g g2 n) = true := by simp [Walk.there, h, h2, hn]
theorem sq_ll {α : Type} {enc : α → D} {z : Bool} {l : List α} : seqOf (.lst z (l.map enc)) = some (false, l.length) := by simp [seqOf]
theorem sq_tl {α : Type} {enc : α → D} {l : List α} : seqOf (.tup (l.map enc)) = some (true, l.length) := by simp [seqOf]
section
variable {T : Tab} {cl cm : CallT} {fx : List Nat} {ρ : Env} {X : Exn → Env → Prop} {K : Od → Env → Prop}
/-- a number in its place is forgotten but for what is said of it -/
theorem we_intA {e : Ex} (V : Int → Prop) (k : WE (evalO T cl cm e fx ρ) X fun o ρ => ∃ i, o = .v (.int i) ∧ V i ∧ ∀ v, V v → K (.v (.int v)) ρ) : WE (evalO T cl cm e fx ρ) X K :=
  k.mono fun o ρ ⟨i, h, hv, k⟩ => by subst h; exact k i hv
/-- a number that is known -/
theorem we_intC {e : Ex} (c : Int) (k : WE (evalO T cl cm e fx ρ) X fun o ρ => ∃ i, o = .v (.int i) ∧ i = c ∧ K (.v (.int c)) ρ) : WE (evalO T cl cm e fx ρ) X K :=
  k.mono fun o ρ ⟨i, h, hv, k⟩ => by subst h hv; exact k
theorem we_modA {a b : Ex} (k : WE (evalO T cl cm a fx ρ) X fun x ρ => WE (evalO T cl cm b fx ρ) X fun y ρ => ∃ i j, x = .v (.int i) ∧ y = .v (.int j) ∧ 0 < j ∧ ∀ v, 0 ≤ v ∧ v < j → K (.v (.int v)) ρ) : WE (evalO T cl cm (.bin .mod a b) fx ρ) X K := by
  refine we_bin (k.mono fun x ρ k => k.mono fun y ρ ⟨i, j, hx, hy, hj, kz⟩ => ?_)
  subst hx hy
  exact ⟨_, _, _, two_v, b_modI hj, kz _ ⟨Int.emod_nonneg _ (by omega), Int.emod_lt_of_pos _ hj⟩⟩
theorem we_minA {l : List Ex} (k : WE (evalOs T cl cm l fx ρ) X fun os ρ => ∃ i j, rdAll ρ os = some [.int i, .int j] ∧ ∀ v, v ≤ i ∧ v ≤ j ∧ (v = i ∨ v = j) → K (.v (.int v)) ρ) : WE (evalO T cl cm (.bi .min l) fx ρ) X K :=
  we_bi (k.mono fun os ρ ⟨i, j, h, k⟩ => ⟨_, _, h, rfl, k _ (by split <;> omega)⟩)
theorem we_maxA {l : List Ex} (k : WE (evalOs T cl cm l fx ρ) X fun os ρ => ∃ i j, rdAll ρ os = some [.int i, .int j] ∧ ∀ v, i ≤ v ∧ j ≤ v ∧ (v = i ∨ v = j) → K (.v (.int v)) ρ) : WE (evalO T cl cm (.bi .max l) fx ρ) X K :=
  we_bi (k.mono fun os ρ ⟨i, j, h, k⟩ => ⟨_, _, h, rfl, k _ (by split <;> omega)⟩)
/-- a number read out of a list, with what is known of it -/
theorem we_idxF (V : Int → Prop) {a i : Ex} (k : WE (evalO T cl cm a fx ρ) X fun x ρ => WE (evalO T cl cm i fx ρ) X fun y ρ => ∃ d e v, Two x y i.pur ρ d e ∧ y = .v e ∧ idxD d e = some (.int v) ∧ V v ∧ (V v → K (.v (.int v)) ρ)) : WE (evalO T cl cm (.idx a i) fx ρ) X K :=
  we_idx (k.mono fun x ρ k => k.mono fun y ρ ⟨d, e, v, h, hy, hr, hV, kz⟩ => ⟨d, e, _, _, h, hy, hr, by cases x <;> rfl, kz hV⟩)
end
theorem roL_map {α : Type} {enc : α → D} (h : ∀ x, (enc x).ro = enc x) : ∀ l : List α, roL (l.map enc) = l.map enc
  | [] => rfl
  | x :: l => by simp [roL, h x, roL_map h l]
theorem nohL_map {α : Type} {enc : α → D} (h : ∀ x, (enc x).noh = true) : ∀ l : List α, nohL (l.map enc) = true
  | [] => rfl
  | x :: l => by simp [nohL, h x, nohL_map h l]
theorem fz_ll {α : Type} {enc : α → D} (h : ∀ x, (enc x).ro = enc x) {z : Bool} {l : List α} : (D.lst z (l.map enc)).ro = .lst true (l.map enc) := by simp only [D.ro, roL_map h]
theorem noh_ll {α : Type} {enc : α → D} (h : ∀ x, (enc x).noh = true) {z : Bool} {l : List α} : (D.lst z (l.map enc)).noh = true := by simp [D.noh, nohL_map h]
theorem bm_clr {α : Type} {enc : α → D} {l : List α} (hi : ∀ x, (enc x).imm = true) : bmD .clear (.lst false (l.map enc)) [] = some (.non, .lst false []) := by
  simp only [bmD, clD, imL hi, if_true]
theorem erase_map' {α β : Type} {f : α → β} : ∀ (l : List α) (j : Nat), (l.map f).eraseIdx j = (l.eraseIdx j).map f
  | [], j => by simp
  | a :: l, 0 => by simp
  | a :: l, j + 1 => by simp [erase_map' l j]
theorem bm_popAt {α : Type} [Inhabited α] {enc : α → D} {l : List α} {i : Int} (hi : ∀ x, (enc x).imm = true) (h : 0 ≤ i ∧ i < l.length ∧ l.length ≤ 100000) : bmD .popAt (.lst false (l.map enc)) [.int i] = some (enc (geti l i), .lst false ((l.eraseIdx i.toNat).map enc)) := by
  have h1 : 0 ≤ i ∧ i < l.length := ⟨h.1, h.2.1⟩
  have h2 : (immL (l.map enc) && decide (-(2 ^ 62) ≤ i ∧ i < 2 ^ 62)) = true := by
    rw [imL hi, Bool.true_and, decide_eq_true_eq]
    omega
  simp only [bmD, paD]
  rw [if_pos h2]
  simp [ixOf_in h1, geti_eq h1, erase_map']
theorem bm_rem {ns : List Int} {k : Int} (h : k ∈ ns) : bmD .remove (.lst false (ns.map .int)) [.int k] = some (.non, .lst false ((ns.erase k).map .int)) := by
  simp only [bmD, rmD, intsOf_map, Option.bind_some, if_pos h]
end Hw

set_option maxHeartbeats 2000000
/-! Texts of numbers and rows: plain facts, rules for walks. -/
namespace Hw
open PySem Pv TL
section
variable {T : Tab} {cl cm : CallT} {fx : List Nat} {ρ ρ1 ρ2 : Pv.Env} {W : Nat} {X : Exn → Pv.Env → Prop}
theorem wi_s {e : Ex} {g : Nat} {K : Walk → Pv.Env → Prop} (k : WE (evalO T cl cm e fx ρ) X fun o ρ => ∃ x, o = .v (.str x) ∧ K (.chs x) ρ) : WE (evalI T cl cm (.ex e) g fx ρ) X K := by
  simp only [evalI]
  refine WE.bind (k.mono fun o ρ ⟨x, ho, k⟩ => ?_)
  subst ho
  exact WE.ok k
end
/-- a sign of a text -/
def chN (x : PySem.Str) (i : Nat) : PySem.Str := ⟨#[x.cps.getD i 0]⟩
theorem it_chs {x : PySem.Str} {ρ : Pv.Env} {i : Nat} (h : i < x.cps.size) : (Walk.chs x).item ρ i = some (.str (chN x i)) := by
  simp only [Walk.item, chN, Array.getElem?_eq_getElem h, Option.map_some, Array.getD, h, dif_pos]
  rfl
/-- a number's text -/
def NS (i : Int) : PySem.Str := PySem.Str.ofString (toString i)
theorem tl_NS {i : Int} (h : 0 ≤ i) : tl (NS i) = numL i.toNat := by
  have := tl_num i.toNat
  rwa [Int.toNat_of_nonneg h] at this
theorem NS_len {i : Int} (h : 0 ≤ i ∧ i < 65536) : (NS i).length ≤ 5 := by
  rw [len_tl, tl_NS h.1]
  exact numL_len (by decide) (by omega)
theorem NS_size {i : Int} (h : 0 ≤ i ∧ i < 65536) : (NS i).cps.size ≤ 5 := NS_len h
theorem NS_pos {i : Int} (h : 0 ≤ i) : 0 < (NS i).length := by
  rw [len_tl, tl_NS h]
  exact List.length_pos_iff.mpr (numL_ne _)
theorem NS_int {i : Int} (h : 0 ≤ i ∧ i < 65536) : PySem.intText? (NS i) = some i := by
  have h1 : (numL i.toNat).length ≤ 5 := numL_len (by decide) (by omega)
  have := int_num (n := i.toNat) (by omega)
  rwa [Int.toNat_of_nonneg h.1] at this
theorem NS_dig {i : Int} (h : 0 ≤ i) : ∀ c ∈ tl (NS i), 48 ≤ c ∧ c ≤ 57 := by
  rw [tl_NS h]; exact numL_digits _
theorem ok_tl {x : PySem.Str} (h : ∀ c ∈ tl x, c < 0x110000) : PySem.PyData.strOk x = true := by
  unfold PySem.PyData.strOk
  rw [← Array.all_toList]
  exact List.all_eq_true.mpr fun c hc => decide_eq_true (h c hc)
theorem NS_ok {i : Int} (h : 0 ≤ i) : PySem.PyData.strOk (NS i) = true := ok_tl fun c hc => by have := NS_dig h c hc; omega
theorem numL_head : ∀ n : Nat, (numL n).headD 0 = 48 ↔ n = 0 := by
  intro n
  induction n using Nat.strongRecOn with
  | _ n ih =>
    by_cases h : n < 10
    · rw [numL_lt h]
      show 48 + n = 48 ↔ _
      omega
    · rw [numL_step (by omega)]
      have h1 := ih (n / 10) (by omega)
      have h2 := numL_ne (n / 10)
      cases e : numL (n / 10) with
      | nil => exact absurd e h2
      | cons a l =>
        rw [e] at h1
        show a = 48 ↔ _
        have h3 : a = 48 ↔ n / 10 = 0 := h1
        omega
def hdN (i : Int) : PySem.Str := ⟨#[(numL i.toNat).headD 0]⟩
theorem ix_hd {i : Int} (h : 0 ≤ i ∧ i < 65536) : idxD (.str (NS i)) (.int 0) = some (.str (hdN i)) := by
  have h1 := NS_len h
  have h2 : (NS i).length ≤ sizeLine := Nat.le_trans h1 (by decide)
  have h3 := NS_pos h.1
  rw [len_tl] at h3
  have h4 : ixOf (NS i).cps.toList.length 0 = some 0 := by unfold ixOf; rw [if_pos (Int.le_refl 0), if_pos (by have h3' : 0 < (NS i).cps.toList.length := h3; omega)]; rfl
  simp only [idxD, h2, if_true, h4, Option.bind_some]
  have e : (NS i).cps.toList = numL i.toNat := tl_NS h.1
  rw [e]
  unfold hdN
  cases hn : numL i.toNat with
  | nil => exact absurd hn (numL_ne _)
  | cons a l => rfl
theorem c_strE {a b : PySem.Str} (ha : PySem.PyData.strOk a = true) (hb : PySem.PyData.strOk b = true) : cmpD .eq (.str a) (.str b) = some (decide (a = b)) := by simp [cmpD, eqD, D.eqk, D.beq, ha, hb]
theorem c_strN {a b : PySem.Str} (ha : PySem.PyData.strOk a = true) (hb : PySem.PyData.strOk b = true) : cmpD .ne (.str a) (.str b) = some (!decide (a = b)) := by simp [cmpD, eqD, D.eqk, D.beq, ha, hb]
theorem hdN_dig {i : Int} : (numL i.toNat).headD 0 < 0x110000 := by
  have := numL_digits i.toNat
  cases hn : numL i.toNat with
  | nil => exact absurd hn (numL_ne _)
  | cons a l =>
    have := this a (by rw [hn]; exact List.mem_cons_self)
    show a < _
    omega
theorem c_hd {i : Int} (h : 0 ≤ i) : cmpD .eq (.str (hdN i)) (.str "0") = some (decide (i = 0)) := by
  rw [c_strE (ok_tl fun c hc => by
    have : c = (numL i.toNat).headD 0 := by simpa [hdN] using hc
    rw [this]; exact hdN_dig) (by decide +kernel)]
  congr 1
  rw [decide_eq_decide]
  have h1 := numL_head i.toNat
  have h2 : hdN i = "0" ↔ (numL i.toNat).headD 0 = 48 := by
    constructor
    · intro e
      have e2 := congrArg (fun x : PySem.Str => tl x) e
      have e3 : [(numL i.toNat).headD 0] = [48] := e2
      exact (List.cons.inj e3).1
    · intro e
      exact ext_tl (show [(numL i.toNat).headD 0] = [48] by rw [e])
  rw [h2, h1]
  omega
theorem c_NS0 {i : Int} (h : 0 ≤ i ∧ i < 65536) : cmpD .ne (.str (NS i)) (.str "0") = some (!decide (i = 0)) := by
  rw [c_strN (NS_ok h.1) (by decide +kernel)]
  congr 2
  rw [decide_eq_decide]
  constructor
  · intro e
    have h1 := NS_int h
    rw [e] at h1
    have h2 : PySem.intText? (NS 0) = some 0 := NS_int (by omega)
    have h3 : NS 0 = "0" := by decide +kernel
    rw [h3, h1] at h2
    exact Option.some.inj h2
  · rintro rfl
    decide +kernel
theorem c_NSe {i : Int} (h : 0 ≤ i) : cmpD .eq (.str (NS i)) (.str "") = some false := by
  rw [c_strE (NS_ok h) (by decide +kernel)]
  congr 1
  refine decide_eq_false fun e => ?_
  have h1 := NS_pos h
  rw [e] at h1
  exact absurd h1 (by decide +kernel)
theorem bi_lenS {x : PySem.Str} (h : x.length ≤ 100000) : biD .len [.str x] = some (.int x.length) := by
  have h2 : x.length ≤ sizeLine := Nat.le_trans h (by decide)
  simp [biD, h2]
theorem c_NS5 {i : Int} (h : 0 ≤ i ∧ i < 65536) : cmpD .gt (.int (NS i).length) (.int 5) = some false := by
  rw [c_gtI]
  congr 1
  refine decide_eq_false ?_
  have := NS_len h
  omega
theorem bi_intS {i : Int} (h : 0 ≤ i ∧ i < 65536) : biD .int [.str (NS i)] = some (.int i) := by
  have h1 := NS_len h
  have h2 : (NS i).length ≤ 640 := by omega
  simp [biD, h2, NS_int h]
theorem bi_str {i : Int} (h : 0 ≤ i ∧ i < 18446744073709551616) : biD .str [.int i] = some (.str (NS i)) := by
  have h2 : i.natAbs.log2 < 1920 := by
    rcases Nat.eq_zero_or_pos i.natAbs with h0 | h0
    · rw [h0]; decide
    · have h3 : i.natAbs < 2 ^ 64 := by omega
      have := (Nat.log2_lt (by omega)).mpr h3
      omega
  simp [biD, h2, NS]
theorem c_fig {x : PySem.Str} {i : Nat} (hi : i < x.cps.size) (h : ∀ c ∈ tl x, 48 ≤ c ∧ c ≤ 57) : cmpD .inn (.str (chN x i)) (.str "0123456789") = some true := by
  have hc : x.cps.getD i 0 ∈ tl x := by
    have e : x.cps.getD i 0 = x.cps[i] := by simp [Array.getD, hi]
    rw [e]
    exact Array.getElem_mem_toList hi
  have h1 := h _ hc
  have h2 : ∀ c : Nat, 48 ≤ c ∧ c ≤ 57 → c ∈ ("0123456789" : PySem.Str).cps.toList := by
    intro c hc
    have : c = 48 ∨ c = 49 ∨ c = 50 ∨ c = 51 ∨ c = 52 ∨ c = 53 ∨ c = 54 ∨ c = 55 ∨ c = 56 ∨ c = 57 := by omega
    rcases this with rfl | rfl | rfl | rfl | rfl | rfl | rfl | rfl | rfl | rfl <;> decide +kernel
  show (if (chN x i).cps.size = 1 then some (decide ((chN x i).cps.getD 0 0 ∈ ("0123456789" : PySem.Str).cps.toList)) else none) = some true
  have e1 : (chN x i).cps.size = 1 := rfl
  have e2 : (chN x i).cps.getD 0 0 = x.cps.getD i 0 := rfl
  rw [if_pos e1, e2, decide_eq_true (h2 _ h1)]
theorem all_true {L : List Bool} (h : ∀ (i : Nat) (v : Bool), L[i]? = some v → v = true) : L.all id = true := by
  rw [List.all_eq_true]
  intro x hx
  obtain ⟨i, hi⟩ := List.mem_iff_getElem?.mp hx
  exact h i x hi
/-! ### rows -/
def wordL : List PySem.Str := ["halt", "put", "add", "sub", "mul", "bad", "div", "get", "set", "jump", "when", "go", "tell", "hear", "right", "back"]
theorem w16 {P : Int → Prop} {k : Int} (h : 0 ≤ k ∧ k < 16) (h0 : ∀ j ∈ ([0, 1, 2, 3, 4, 5, 6, 7, 8, 9, 10, 11, 12, 13, 14, 15] : List Int), P j) : P k := by
  apply h0
  simp only [List.mem_cons, List.not_mem_nil, or_false]
  omega
theorem w_sp {k : Int} (h : 0 ≤ k ∧ k < 16) : ∀ c ∈ tl (geti wordL k), 97 ≤ c ∧ c ≤ 122 := w16 (P := fun k => ∀ c ∈ tl (geti wordL k), 97 ≤ c ∧ c ≤ 122) h (by decide +kernel)
theorem w_len {k : Int} (h : 0 ≤ k ∧ k < 16) : (geti wordL k).length ≤ 5 := w16 (P := fun k => (geti wordL k).length ≤ 5) h (by decide +kernel)
def WD : D := .tup [.str "halt", .str "put", .str "add", .str "sub", .str "mul", .str "bad", .str "div", .str "get", .str "set", .str "jump", .str "when", .str "go", .str "tell", .str "hear", .str "right", .str "back"]
theorem c_ninW {k : Int} (h : 0 ≤ k ∧ k < 16) : cmpD .nin (.str (geti wordL k)) WD = some false := w16 (P := fun k => cmpD .nin (.str (geti wordL k)) WD = some false) h (by decide +kernel)
theorem w_idx {k : Int} (h : 0 ≤ k ∧ k < 16) : bmP .indexT WD [.str (geti wordL k)] = some (.int k) := by
  have : geti wordL k ∈ wordL ∧ ((wordL.idxOf (geti wordL k) : Nat) : Int) = k := w16 (P := fun k => geti wordL k ∈ wordL ∧ ((wordL.idxOf (geti wordL k) : Nat) : Int) = k) h (by decide +kernel)
  unfold WD
  show (if geti wordL k ∈ wordL then some (D.int (wordL.idxOf (geti wordL k))) else none) = _
  rw [if_pos this.1, this.2]
/-- a row's text -/
def rowT (k a b c : Int) : PySem.Str := Txt.join " " [geti wordL k, NS a, NS b, NS c]
def cellT (n : Int) : PySem.Str := ("cell " : PySem.Str) ++ NS n
theorem tl_sp : tl (" " : PySem.Str) = [32] := by decide +kernel
theorem tl_nl : tl ("\n" : PySem.Str) = [10] := by decide +kernel
theorem tl_rowT (k a b c : Int) : tl (rowT k a b c) = tl (geti wordL k) ++ ([32] ++ (tl (NS a) ++ ([32] ++ (tl (NS b) ++ ([32] ++ tl (NS c)))))) := by
  unfold rowT
  rw [join_eq, tl_join, tl_sp]
  rfl
theorem cellT_eq (n : Int) : cellT n = Txt.join " " [("cell" : PySem.Str), NS n] := by
  refine ext_tl ?_
  rw [join_eq, tl_join, tl_sp]
  show tl (("cell " : PySem.Str) ++ NS n) = _
  rw [tl_append]
  have : tl ("cell " : PySem.Str) = tl ("cell" : PySem.Str) ++ [32] := by decide +kernel
  rw [this]
  simp [joinL]
theorem tl_cellT (n : Int) : tl (cellT n) = tl ("cell " : PySem.Str) ++ tl (NS n) := tl_append _ _
theorem sp_all : ((" " : PySem.Str).cps.all (· < 256)) = true := by decide +kernel
theorem nl_all : (("\n" : PySem.Str).cps.all (· < 256)) = true := by decide +kernel
theorem rowT_len {k a b c : Int} (hk : 0 ≤ k ∧ k < 16) (ha : 0 ≤ a ∧ a < 65536) (hb : 0 ≤ b ∧ b < 65536) (hc : 0 ≤ c ∧ c < 65536) : (rowT k a b c).length ≤ 23 := by
  have h1 := w_len hk
  have h2 := NS_len ha
  have h3 := NS_len hb
  have h4 := NS_len hc
  rw [len_tl] at *
  rw [tl_rowT]
  simp only [List.length_append, List.length_cons, List.length_nil]
  omega
theorem cellT_len {n : Int} (h : 0 ≤ n ∧ n < 65536) : (cellT n).length ≤ 10 := by
  have h1 := NS_len h
  have h2 : (tl ("cell " : PySem.Str)).length = 5 := by decide +kernel
  rw [len_tl] at *
  rw [tl_cellT, List.length_append]
  omega
theorem spl_ok {a b : PySem.Str} {L : List PySem.Str} (hb : (b.length == 0) = false) (ha : a.length ≤ 90000) (e : Txt.split a b = L) : bmP .split (.str a) [.str b] = some (.lst false (L.map .str)) := by
  have h2 : a.length + 2 ≤ sizeLine := Nat.le_trans (by omega) (show 90002 ≤ sizeLine by decide)
  subst e
  simp [bmP, splD, hb, h2]
theorem row_split {k a b c : Int} (hk : 0 ≤ k ∧ k < 16) (ha : 0 ≤ a ∧ a < 65536) (hb : 0 ≤ b ∧ b < 65536) (hc : 0 ≤ c ∧ c < 65536) : bmP .split (.str (rowT k a b c)) [.str " "] = some (.lst false [.str (geti wordL k), .str (NS a), .str (NS b), .str (NS c)]) := by
  have h := rowT_len hk ha hb hc
  refine spl_ok (L := [geti wordL k, NS a, NS b, NS c]) (by decide +kernel) (by omega) (split_join tl_sp sp_all (by simp) ?_)
  intro p hp hm
  simp only [List.mem_cons, List.not_mem_nil, or_false] at hp
  rcases hp with rfl | rfl | rfl | rfl
  · have := w_sp hk _ hm; omega
  · have := NS_dig ha.1 _ hm; omega
  · have := NS_dig hb.1 _ hm; omega
  · have := NS_dig hc.1 _ hm; omega
theorem cell_split {n : Int} (h : 0 ≤ n ∧ n < 65536) : bmP .split (.str (cellT n)) [.str " "] = some (.lst false [.str "cell", .str (NS n)]) := by
  have hl := cellT_len h
  refine spl_ok (L := ["cell", NS n]) (by decide +kernel) (by omega) ?_
  rw [cellT_eq]
  refine split_join tl_sp sp_all (by simp) ?_
  intro p hp hm
  simp only [List.mem_cons, List.not_mem_nil, or_false] at hp
  rcases hp with rfl | rfl
  · exact absurd hm (by decide +kernel)
  · have := NS_dig h.1 _ hm; omega
/-- a good row, its number -/
def RowIs (t : PySem.Str) (n : Int) : Prop := (∃ k a b c : Int, (0 ≤ k ∧ k < 16) ∧ (0 ≤ a ∧ a < 8) ∧ (0 ≤ b ∧ b < 8) ∧ (0 ≤ c ∧ c < 64) ∧ t = rowT k a b c ∧ n = k * 4096 + a * 512 + b * 64 + c) ∨ ((0 ≤ n ∧ n < 65536) ∧ t = cellT n)
theorem RowIs.n {t : PySem.Str} {n : Int} (h : RowIs t n) : 0 ≤ n ∧ n < 65536 := by
  rcases h with ⟨k, a, b, c, hk, ha, hb, hc, _, rfl⟩ | ⟨h, _⟩
  · omega
  · exact h
theorem RowIs.len {t : PySem.Str} {n : Int} (h : RowIs t n) : t.length ≤ 23 := by
  rcases h with ⟨k, a, b, c, hk, ha, hb, hc, rfl, _⟩ | ⟨h, rfl⟩
  · exact rowT_len hk (by omega) (by omega) (by omega)
  · have := cellT_len h; omega
theorem RowIs.nl {t : PySem.Str} {n : Int} (h : RowIs t n) : 10 ∉ tl t := by
  intro hm
  rcases h with ⟨k, a, b, c, hk, ha, hb, hc, rfl, _⟩ | ⟨h, rfl⟩
  · rw [tl_rowT] at hm
    simp only [List.mem_append, List.mem_cons, List.not_mem_nil, or_false] at hm
    rcases hm with hm | hm | hm | hm | hm | hm | hm
    · have := w_sp hk _ hm; omega
    · omega
    · have := NS_dig ha.1 _ hm; omega
    · omega
    · have := NS_dig hb.1 _ hm; omega
    · omega
    · have := NS_dig hc.1 _ hm; omega
  · rw [tl_cellT] at hm
    rcases List.mem_append.mp hm with hm | hm
    · exact absurd hm (by decide +kernel)
    · have := NS_dig h.1 _ hm; omega
theorem joinL_len (s : Nat) : ∀ (L : List (List Nat)) (m : Nat), (∀ p ∈ L, p.length ≤ m) → (joinL [s] L).length ≤ L.length * (m + 1)
  | [], m, _ => by simp [joinL]
  | [p], m, h => by
    have := h p (by simp)
    show p.length ≤ _
    simp only [List.length_cons, List.length_nil]
    omega
  | p :: q :: r, m, h => by
    have h1 := h p (by simp)
    have h2 := joinL_len s (q :: r) m (fun x hx => h x (List.mem_cons_of_mem _ hx))
    show (p ++ ([s] ++ joinL [s] (q :: r))).length ≤ _
    simp only [List.length_append, List.length_cons, List.length_nil] at *
    have : (r.length + 1 + 1) * (m + 1) = (r.length + 1) * (m + 1) + (m + 1) := by rw [Nat.add_mul, Nat.one_mul]
    omega
theorem strs_map : ∀ L : List PySem.Str, strsOf (L.map .str) = some L
  | [] => rfl
  | x :: l => by simp [strsOf, strs_map l]
theorem sum_le : ∀ (L : List PySem.Str) (m : Nat), (∀ p ∈ L, p.length ≤ m) → (L.map Str.length).sum ≤ L.length * m
  | [], m, _ => by simp
  | p :: r, m, h => by
    have h1 := h p (by simp)
    have h2 := sum_le r m (fun x hx => h x (List.mem_cons_of_mem _ hx))
    simp only [List.map_cons, List.sum_cons, List.length_cons, Nat.add_mul, Nat.one_mul]
    omega
theorem join_ok {z : Bool} {y : PySem.Str} {L : List PySem.Str} {m : Nat} (hy : y.length ≤ 1) (h : ∀ p ∈ L, p.length ≤ m) (hm : m ≤ 1000) (hl : L.length ≤ 1000) : bmP .join (.str y) [.lst z (L.map .str)] = some (.str (Txt.join y L)) := by
  have h1 := sum_le L m h
  have h2 : L.length * m ≤ 1000 * 1000 := Nat.mul_le_mul hl hm
  have h3 : L.length * y.length ≤ 1000 * 1 := Nat.mul_le_mul hl hy
  have h4 : (L.map Str.length).sum + L.length * y.length ≤ 16777216 := by omega
  simp only [bmP, joinD, strs_map, Option.bind_some, if_pos h4]
/-- rows in a text, one behind the other -/
theorem rows_split {L : List PySem.Str} (hne : L ≠ []) (hl : L.length ≤ 200) (h : ∀ t ∈ L, t.length ≤ 23 ∧ 10 ∉ tl t) : bmP .split (.str (Txt.join "\n" L)) [.str "\n"] = some (.lst false (L.map .str)) := by
  refine spl_ok (by decide +kernel) ?_ (split_join tl_nl nl_all hne fun p hp => (h p hp).2)
  rw [len_tl, join_eq, tl_join, tl_nl]
  have := joinL_len 10 (L.map tl) 23 (fun p hp => by
    obtain ⟨t, ht, rfl⟩ := List.mem_map.mp hp
    rw [← len_tl]; exact (h t ht).1)
  rw [List.length_map] at this
  omega
theorem b_addS {a b : PySem.Str} (h : a.length + b.length ≤ 100000) : binD .add (.str a) (.str b) = some (.str (a ++ b)) := by
  have h2 : a.length + b.length ≤ sizeLine := Nat.le_trans h (by decide)
  simp only [binD, if_pos h2]
theorem cell_add {n : Int} (h : 0 ≤ n ∧ n < 65536) : binD .add (.str "cell ") (.str (NS n)) = some (.str (cellT n)) := by
  have h1 := NS_len h
  have h2 : ("cell " : PySem.Str).length = 5 := by decide +kernel
  exact b_addS (by omega)
theorem row_join {k a b c : Int} (hk : 0 ≤ k ∧ k < 16) (ha : 0 ≤ a ∧ a < 65536) (hb : 0 ≤ b ∧ b < 65536) (hc : 0 ≤ c ∧ c < 65536) : bmP .join (.str " ") [.lst false [.str (geti wordL k), .str (NS a), .str (NS b), .str (NS c)]] = some (.str (rowT k a b c)) := by
  refine join_ok (L := [geti wordL k, NS a, NS b, NS c]) (m := 5) (by decide +kernel) ?_ (by decide) (Nat.le_of_ble_eq_true rfl)
  intro p hp
  simp only [List.mem_cons, List.not_mem_nil, or_false] at hp
  rcases hp with rfl | rfl | rfl | rfl
  · exact w_len hk
  · exact NS_len ha
  · exact NS_len hb
  · exact NS_len hc
end Hw

set_option maxHeartbeats 0
namespace K04
open PySem PySem.Spec PyProof.Rows L2 Pv
abbrev row : PySem.W.OpenLaw := PySem.Challenge.rw_asitruns_k04_whole_shown_and_read
def top (i : Nat) : Stmt := PySem.Challenge.pw_asitruns_k04_whole_shown_and_read.main.body.getD i (.Pass ⟨0, 0, 0, 0⟩)
def b_set_out : List Sx := [.ret (.tup [(.idx (.glo "WORDS") (.bin .fdiv (.var 0) (.int 4096))), (.bin .mod (.bin .fdiv (.var 0) (.int 512)) (.int 8)), (.bin .mod (.bin .fdiv (.var 0) (.int 64)) (.int 8)), (.bin .mod (.var 0) (.int 64))])]
def f_set_out : Fn := ⟨1, 1, [], b_set_out⟩
def d_set_out : He.DefD := ⟨("set_out", none), "set_out", "set_out", defArgs (top 7), defBody (top 7), defScope (top 7), [], []⟩
def x_set_out : FnX := ⟨("set_out", none), f_set_out, d_set_out, ["number"], ["number"], [], none⟩
def b_number_of : List Sx := [.asg (.tp [(.nm 1), (.nm 2), (.nm 3), (.nm 4)]) (.var 0),
  .ret (.bin .add (.bin .add (.bin .add (.bin .mul (.bm .indexT (.glo "WORDS") [(.var 1)]) (.int 4096)) (.bin .mul (.var 2) (.int 512))) (.bin .mul (.var 3) (.int 64))) (.var 4))]
def f_number_of : Fn := ⟨5, 1, [], b_number_of⟩
def d_number_of : He.DefD := ⟨("number_of", none), "number_of", "number_of", defArgs (top 8), defBody (top 8), defScope (top 8), [], []⟩
def x_number_of : FnX := ⟨("number_of", none), f_number_of, d_number_of, ["row", "word", "a", "b", "c"], ["row"], [], none⟩
def b_figures_told : List Sx := [.ite (.bop false (.cmp .eq (.var 0) (.str "")) (.bop false (.cmp .gt (.bi .len [(.var 0)]) (.int 5)) (.not (.bi .all [(.lc (.nm 2) [2] (.cmp .inn (.var 2) (.glo "FIGURES")) (.ex (.var 0)) 3 [])])))) [.ret .non] [],
  .ite (.bop false (.bop true (.cmp .eq (.idx (.var 0) (.int 0)) (.str "0")) (.cmp .ne (.var 0) (.str "0"))) (.cmp .gt (.bi .int [(.var 0)]) (.var 1))) [.ret .non] [],
  .ret (.bi .int [(.var 0)])]
def f_figures_told : Fn := ⟨4, 2, [], b_figures_told⟩
def d_figures_told : He.DefD := ⟨("figures_told", none), "figures_told", "figures_told", defArgs (top 9), defBody (top 9), defScope (top 9), [], []⟩
def x_figures_told : FnX := ⟨("figures_told", none), f_figures_told, d_figures_told, ["text", "most", "sign"], ["text", "most"], [], none⟩
def b_row_told : List Sx := [.asg (.nm 1) (.bm .split (.var 0) [(.str " ")]),
  .ite (.bop true (.cmp .eq (.bi .len [(.var 1)]) (.int 2)) (.cmp .eq (.idx (.var 1) (.int 0)) (.str "cell"))) [.ret (.call "figures_told" [(.idx (.var 1) (.int 1)), (.glo "MOST_NUMBER")])] [],
  .ite (.bop false (.cmp .ne (.bi .len [(.var 1)]) (.int 4)) (.cmp .nin (.idx (.var 1) (.int 0)) (.glo "WORDS"))) [.ret .non] [],
  .asg (.nm 2) (.call "figures_told" [(.idx (.var 1) (.int 1)), (.int 7)]),
  .asg (.nm 3) (.call "figures_told" [(.idx (.var 1) (.int 2)), (.int 7)]),
  .asg (.nm 4) (.call "figures_told" [(.idx (.var 1) (.int 3)), (.int 63)]),
  .ite (.bop false (.cmp .isN (.var 2) .non) (.bop false (.cmp .isN (.var 3) .non) (.cmp .isN (.var 4) .non))) [.ret .non] [],
  .ret (.call "number_of" [(.tup [(.idx (.var 1) (.int 0)), (.var 2), (.var 3), (.var 4)])])]
def f_row_told : Fn := ⟨5, 1, [], b_row_told⟩
def d_row_told : He.DefD := ⟨("row_told", none), "row_told", "row_told", defArgs (top 10), defBody (top 10), defScope (top 10), [], []⟩
def x_row_told : FnX := ⟨("row_told", none), f_row_told, d_row_told, ["row", "parts", "a", "b", "c"], ["row"], [], none⟩
def b_read : List Sx := [.asg (.nm 1) (.lst []),
  .for (.tp [(.nm 2), (.nm 3)]) (.enu (.bm .split (.var 0) [(.str "\n")])) 5 [.asg (.nm 4) (.call "row_told" [(.var 3)]),
  .ite (.cmp .isN (.var 4) .non) [.rais "" []] [],
  .expr (.bm .append (.var 1) [(.var 4)])],
  .ret (.bi .tuple [(.var 1)])]
def f_read : Fn := ⟨6, 1, [], b_read⟩
def d_read : He.DefD := ⟨("read", none), "read", "read", defArgs (top 11), defBody (top 11), defScope (top 11), [], []⟩
def x_read : FnX := ⟨("read", none), f_read, d_read, ["text", "found", "at", "row", "number"], ["text"], [], none⟩
def b_shown : List Sx := [.ret (.bm .join (.str "\n") [(.lc (.nm 2) [2] (.bm .join (.str " ") [(.lc (.nm 1) [1] (.bi .str [(.var 1)]) (.ex (.call "set_out" [(.var 2)])) 4 [])]) (.ex (.var 0)) 3 [])])]
def f_shown : Fn := ⟨5, 1, [], b_shown⟩
def d_shown : He.DefD := ⟨("shown", none), "shown", "shown", defArgs (top 12), defBody (top 12), defScope (top 12), [], []⟩
def x_shown : FnX := ⟨("shown", none), f_shown, d_shown, ["cells", "part", "number"], ["cells"], [], none⟩
def b_law_words : List Sx := [.asg (.nm 0) (.lst [(.str "halt"), (.str "put"), (.str "add"), (.str "sub"), (.str "mul"), (.str "bad"), (.str "div"), (.str "get")]),
  .ret (.bin .add (.var 0) (.lst [(.str "set"), (.str "jump"), (.str "when"), (.str "go"), (.str "tell"), (.str "hear"), (.str "right"), (.str "back")]))]
def f_law_words : Fn := ⟨1, 0, [], b_law_words⟩
def d_law_words : He.DefD := ⟨("_law_words", none), "_law_words", "_law_words", defArgs (top 14), defBody (top 14), defScope (top 14), [], []⟩
def x_law_words : FnX := ⟨("_law_words", none), f_law_words, d_law_words, ["some"], [], [], none⟩
def b_law_text : List Sx := [.ret (.bm .join (.str " ") [(.lst [(.idx (.call "_law_words" []) (.bin .fdiv (.var 0) (.int 4096))), (.bi .str [(.bin .mod (.bin .fdiv (.var 0) (.int 512)) (.int 8))]), (.bi .str [(.bin .mod (.bin .fdiv (.var 0) (.int 64)) (.int 8))]), (.bi .str [(.bin .mod (.var 0) (.int 64))])])])]
def f_law_text : Fn := ⟨1, 1, [], b_law_text⟩
def d_law_text : He.DefD := ⟨("_law_text", none), "_law_text", "_law_text", defArgs (top 15), defBody (top 15), defScope (top 15), [], []⟩
def x_law_text : FnX := ⟨("_law_text", none), f_law_text, d_law_text, ["number"], ["number"], [], none⟩
def b_law_cells : List Sx := [.asg (.nm 1) (.bin .add (.sli (.var 0) [] [(.int 63)]) (.lst [(.bi .len [(.var 0)])])),
  .asg (.nm 2) (.lst []),
  .for (.nm 3) (.rng [(.bin .mul (.int 8) (.bin .add (.int 1) (.bin .mod (.bin .fdiv (.idx (.var 1) (.int 0)) (.int 5)) (.int 16))))]) 5 [.asg (.nm 4) (.bin .fdiv (.idx (.var 1) (.bin .mod (.var 3) (.bi .len [(.var 1)]))) (.bin .add (.int 1) (.bin .fdiv (.var 3) (.bi .len [(.var 1)])))),
  .ite (.cmp .eq (.bin .mod (.idx (.var 1) (.int 0)) (.int 5)) (.int 1)) [.asg (.nm 4) (.bin .mod (.bin .mul (.bin .add (.bin .mod (.var 4) (.int 2147483587)) (.var 3)) (.int 48271)) (.int 2147483563)),
  .asg (.nm 4) (.bin .fdiv (.bin .mod (.bin .mul (.var 4) (.var 4)) (.int 2147483543)) (.int 7))] [],
  .expr (.bm .append (.var 2) [(.bin .mod (.var 4) (.int 65536))])],
  .ret (.bi .tuple [(.var 2)])]
def f_law_cells : Fn := ⟨6, 1, [], b_law_cells⟩
def d_law_cells : He.DefD := ⟨("_law_cells", none), "_law_cells", "_law_cells", defArgs (top 16), defBody (top 16), defScope (top 16), [], []⟩
def x_law_cells : FnX := ⟨("_law_cells", none), f_law_cells, d_law_cells, ["script", "some", "found", "k", "cell"], ["script"], [], none⟩
def b_law : List Sx := [.asg (.nm 1) (.call "_law_cells" [(.var 0)]),
  .asg (.nm 2) (.bm .join (.str "\n") [(.lc (.nm 3) [3] (.call "_law_text" [(.var 3)]) (.ex (.var 1)) 9 [])]),
  .asg (.nm 4) (.bi .tuple [(.bi .list [(.var 1)])]),
  .asg (.nm 5) (.call "shown" [(.var 4)]),
  .ite (.bop false (.not (.isi (.var 5) false [.str])) (.bop false (.cmp .ne (.var 5) (.var 2)) (.cmp .ne (.var 4) (.var 1)))) [.ret (.bl false)] [],
  .ite (.cmp .ne (.call "read" [(.var 5)]) (.var 1)) [.ret (.bl false)] [],
  .asg (.nm 6) (.lst []),
  .for (.tp [(.nm 7), (.nm 3)]) (.enu (.var 1)) 10 [.expr (.bm .append (.var 6) [(.idx (.lst [(.call "_law_text" [(.var 3)]), (.bin .add (.str "cell ") (.bi .str [(.var 3)]))]) (.bin .mod (.bin .add (.var 3) (.bin .mul (.var 7) (.idx (.var 1) (.int 0)))) (.int 2)))])],
  .asg (.nm 8) (.bin .add (.int 1) (.bin .mod (.idx (.var 1) (.neg (.int 1))) (.bi .len [(.var 1)]))),
  .ite (.bop false (.cmp .ne (.call "shown" [(.call "read" [(.bm .join (.str "\n") [(.var 6)])])]) (.var 2)) (.cmp .ne (.call "read" [(.bm .join (.str "\n") [(.sli (.var 6) [] [(.var 8)])])]) (.sli (.var 1) [] [(.var 8)]))) [.ret (.bl false)] [],
  .ret (.cmp .eq (.bi .tuple [(.lc (.nm 3) [3] (.call "number_of" [(.call "set_out" [(.var 3)])]) (.ex (.var 1)) 11 [])]) (.var 1))]
def f_law : Fn := ⟨12, 1, [], b_law⟩
def d_law : He.DefD := ⟨("law", none), "law", "law", defArgs (top 17), defBody (top 17), defScope (top 17), [], []⟩
def x_law : FnX := ⟨("law", none), f_law, d_law, ["script", "cells", "text", "number", "handed", "found", "mixed", "k", "few"], ["script"], [], none⟩
def fs : List FnX := [x_set_out, x_number_of, x_figures_told, x_row_told, x_read, x_shown, x_law_words, x_law_text, x_law_cells, x_law]
def cs : List (Str × D) := [("WORDS", (.tup [(.str "halt"), (.str "put"), (.str "add"), (.str "sub"), (.str "mul"), (.str "bad"), (.str "div"), (.str "get"), (.str "set"), (.str "jump"), (.str "when"), (.str "go"), (.str "tell"), (.str "hear"), (.str "right"), (.str "back")])), ("FIGURES", (.str "0123456789")), ("MOST_NUMBER", (.int 65535))]
abbrev tab : Tab := ⟨cs, [], [], [], [], []⟩
def fa : List He.Fa := faOf tab fs bltL
def fn : List He.DefD := fs.map (·.d)
abbrev R : PySem.W.OpenRow := PySem.W.OpenLaw.row row
abbrev hk : PySem.W.Hook := hookP 4 fa fn cs
def ob (s : PySem.W.SharedT) : AlP := obsPG 4 fa fn cs (HandSHeadRun.getT s)
theorem ob_eq (s : PySem.W.SharedT) : ob s = hk.obs s.abs := obsPG_eq (HandSHeadRun.getT_eq s)
def loose : List PySem.Str := [("GuestError" : PySem.Str), ("BadRow" : PySem.Str), ("WORDS" : PySem.Str), ("FIGURES" : PySem.Str), ("MOST_NUMBER" : PySem.Str), ("set_out" : PySem.Str), ("number_of" : PySem.Str), ("figures_told" : PySem.Str), ("row_told" : PySem.Str), ("read" : PySem.Str), ("shown" : PySem.Str), ("_law_words" : PySem.Str), ("_law_text" : PySem.Str), ("_law_cells" : PySem.Str)]
theorem chk : fs.all (FnX.chk tab) = true := by decide +kernel
theorem run (w : World) : HandSHeadRun.RunEq R (PySem.W.view R.prog [17]) hk ob 1500 loose w := by
  intro os
  kernel_rfl
theorem binds : ∀ e ∈ fs, e.bind := by
  intro e he
  simp only [fs, List.mem_cons, List.not_mem_nil, or_false] at he
  rcases he with rfl | rfl | rfl | rfl | rfl | rfl | rfl | rfl | rfl | rfl
  · exact ⟨fun _ kV doc pm an cdv ct us hl => match us, hl with | [_], _ => rfl, fun h => absurd rfl h, fun _ h => (nomatch h)⟩
  · exact ⟨fun _ kV doc pm an cdv ct us hl => match us, hl with | [_], _ => rfl, fun h => absurd rfl h, fun _ h => (nomatch h)⟩
  · exact ⟨fun _ kV doc pm an cdv ct us hl => match us, hl with | [_, _], _ => rfl, fun h => absurd rfl h, fun _ h => (nomatch h)⟩
  · exact ⟨fun _ kV doc pm an cdv ct us hl => match us, hl with | [_], _ => rfl, fun h => absurd rfl h, fun _ h => (nomatch h)⟩
  · exact ⟨fun _ kV doc pm an cdv ct us hl => match us, hl with | [_], _ => rfl, fun h => absurd rfl h, fun _ h => (nomatch h)⟩
  · exact ⟨fun _ kV doc pm an cdv ct us hl => match us, hl with | [_], _ => rfl, fun h => absurd rfl h, fun _ h => (nomatch h)⟩
  · exact ⟨fun _ kV doc pm an cdv ct us hl => match us, hl with | [], _ => rfl, fun h => absurd rfl h, fun _ h => (nomatch h)⟩
  · exact ⟨fun _ kV doc pm an cdv ct us hl => match us, hl with | [_], _ => rfl, fun h => absurd rfl h, fun _ h => (nomatch h)⟩
  · exact ⟨fun _ kV doc pm an cdv ct us hl => match us, hl with | [_], _ => rfl, fun h => absurd rfl h, fun _ h => (nomatch h)⟩
  · exact ⟨fun _ kV doc pm an cdv ct us hl => match us, hl with | [_], _ => rfl, fun h => absurd rfl h, fun _ h => (nomatch h)⟩
abbrev Pr : Prog := progOf tab fs
theorem g_set_out : Pr.get ("set_out", none) = some f_set_out := by kernel_rfl
theorem g_number_of : Pr.get ("number_of", none) = some f_number_of := by kernel_rfl
theorem g_figures_told : Pr.get ("figures_told", none) = some f_figures_told := by kernel_rfl
theorem g_row_told : Pr.get ("row_told", none) = some f_row_told := by kernel_rfl
theorem g_read : Pr.get ("read", none) = some f_read := by kernel_rfl
theorem g_shown : Pr.get ("shown", none) = some f_shown := by kernel_rfl
theorem g_law_words : Pr.get ("_law_words", none) = some f_law_words := by kernel_rfl
theorem g_law_text : Pr.get ("_law_text", none) = some f_law_text := by kernel_rfl
theorem g_law_cells : Pr.get ("_law_cells", none) = some f_law_cells := by kernel_rfl
theorem g_law : Pr.get ("law", none) = some f_law := by kernel_rfl
end K04

set_option maxHeartbeats 4000000
namespace K04
open Pv Hw
variable {W k : Nat}
theorem rows_nl {Ts : List PySem.Str} {Ns : List Int} (hR : ∀ i : Nat, i < Ts.length → RowIs (geti Ts (i : Int)) (geti Ns (i : Int))) : ∀ t ∈ Ts, t.length ≤ 23 ∧ 10 ∉ TL.tl t := by
  intro t ht
  obtain ⟨i, hi⟩ := List.mem_iff_getElem?.mp ht
  obtain ⟨h1, h2⟩ := List.getElem?_eq_some_iff.mp hi
  have h := hR i h1
  have e : geti Ts (i : Int) = t := by
    have := geti_eq (l := Ts) (i := (i : Int)) (by omega)
    rw [show (i : Int).toNat = i by omega, hi] at this
    exact (Option.some.inj this).symm
  rw [e] at h
  exact ⟨h.len, h.nl⟩
theorem figs {i most : Int} (h : 0 ≤ i ∧ i < 65536) (hm : i ≤ most) : callF Pr W (k + 1) ("figures_told", none) [(.str (NS i)), (.int most)] = .ok (.int i) [.str (NS i), .int most] := by
  refine Ok.eq ?_
  have hsz := NS_size h
  have hln := NS_len h
  have hps := NS_pos h.1
  refine call_ok (ρ := ⟨0, [.own (.str (NS i)), .own (.int most), .no, .no]⟩) g_figures_told rfl (mut_imm rfl (mut_imm rfl mut_nil)) rfl ?_
  refine ws_ite (we_bop (we_cmp (we_var rfl rfl (we_str ⟨_, _, false, two_v, (c_NSe h.1), ⟨_, rfl, fun _ => (we_bop (we_cmp (we_bi (wes_cons (we_var rfl rfl ⟨rfl, (wes_nil ⟨_, _, rfl, (bi_lenS (by first | omega | (split <;> omega) | ((try simp only [seti_len, List.length_replicate, List.length_append, List.length_cons, List.length_nil] at *); omega))), (we_int ⟨_, _, false, two_v, (c_NS5 h), ⟨_, rfl, fun _ => (we_not (we_bi (wes_cons (we_lcM (α := Bool) D.bl (fun _ v => v = true) (fun S i ρ => ∃ (s_2 : Slot), ρ = ⟨0, [gS S 0, gS S 1, s_2, gS S 3]⟩ ∧ okI s_2 ∧ (True)) (wi_s (we_var rfl rfl ⟨_, rfl, ⟨(own_cons rfl rfl (.inl rfl) own_nil), by simp only [Pv.Walk.len]; first | omega | (split <;> omega) | ((try simp only [seti_len, List.length_replicate, List.length_append, List.length_cons, List.length_nil] at *); omega), ⟨_, rfl, (.inl rfl), trivial⟩, (fun _ _ _ ⟨_, hq, _, _⟩ => rfl), ?_, ?_⟩⟩)))))), (fun h => nomatch h)⟩⟩)⟩)⟩))))), (fun h => nomatch h)⟩⟩))))
  · rintro i _ hi ⟨s_2', rfl, o_2', hI⟩
    dsimp only [gS_zero, gS_succ]
    simp only [Pv.Walk.len] at hi
    refine ⟨_, ⟨0, [_, _, _, _]⟩, (it_chs hi), rfl, ?_⟩
    refine (wa_nm (.inl rfl) rfl rfl (ρ2 := ⟨0, [_, _, _, _]⟩) rfl (we_cmp (we_var rfl rfl (we_glo rfl ⟨_, _, true, two_v, (c_fig hi (NS_dig h.1)), ⟨_, rfl, rfl, ⟨_, rfl, (.inr ⟨_, rfl, rfl⟩), trivial⟩⟩⟩))))
  · rintro L _ L_len L_all ⟨s_2', rfl, o_2', hI⟩
    dsimp only [gS_zero, gS_succ]
    simp only [Pv.Walk.len] at L_len
    refine ⟨⟨0, [_, _, _, _]⟩, rfl, ⟨rfl, (wes_nil ⟨_, _, rfl, bi_allM, ⟨_, _, rfl, rfl, ⟨_, _, rfl, rfl, fun c1 => ?_, fun c1 => ?_⟩⟩⟩)⟩⟩
    · try simp only [Bool.and_eq_true, Bool.or_eq_true, Bool.not_eq_true', Bool.not_eq_false', Bool.and_eq_false_iff, Bool.or_eq_false_iff, Bool.not_not, decide_eq_true_eq, decide_eq_false_iff_not, Bool.not_true, Bool.not_false, List.mem_cons, List.not_mem_nil, or_false, beq_iff_eq] at c1
      all_goals (exfalso; rw [all_true (fun i v e => L_all i v e)] at c1; simp at c1)
    · try simp only [Bool.and_eq_true, Bool.or_eq_true, Bool.not_eq_true', Bool.not_eq_false', Bool.and_eq_false_iff, Bool.or_eq_false_iff, Bool.not_not, decide_eq_true_eq, decide_eq_false_iff_not, Bool.not_true, Bool.not_false, List.mem_cons, List.not_mem_nil, or_false, beq_iff_eq] at c1
      refine ws_ite (we_or (we_and (we_cmp (we_idx (we_var rfl rfl (we_int ⟨_, _, _, _, two_v, rfl, (ix_hd h), part_v, (we_str ⟨_, _, _, two_v, (c_hd h.1), ⟨_, _, rfl, fun b1 => by
                  (try simp only [Bool.and_eq_true, Bool.or_eq_true, Bool.not_eq_true', Bool.not_eq_false', Bool.and_eq_false_iff, Bool.or_eq_false_iff, Bool.not_not, decide_eq_true_eq, decide_eq_false_iff_not, Bool.not_true, Bool.not_false, List.mem_cons, List.not_mem_nil, or_false, beq_iff_eq] at b1); exact (we_cmp (we_var rfl rfl (we_str ⟨_, _, _, two_v, (c_NS0 h), ⟨rfl, rfl⟩⟩))), ⟨_, _, rfl, fun b2 => by
                  (try simp only [Bool.and_eq_true, Bool.or_eq_true, Bool.not_eq_true', Bool.not_eq_false', Bool.and_eq_false_iff, Bool.or_eq_false_iff, Bool.not_not, decide_eq_true_eq, decide_eq_false_iff_not, Bool.not_true, Bool.not_false, List.mem_cons, List.not_mem_nil, or_false, beq_iff_eq] at b2); exact (we_cmp (we_bi (wes_cons (we_var rfl rfl ⟨rfl, (wes_nil ⟨_, _, rfl, (bi_intS h), (we_var rfl rfl ⟨_, _, _, two_v, c_gtI, ⟨rfl, rfl⟩⟩)⟩)⟩)))), ⟨_, _, rfl, rfl, fun c2 => ?_, fun c2 => ?_⟩⟩⟩⟩)⟩))))))
      · try simp only [Bool.and_eq_true, Bool.or_eq_true, Bool.not_eq_true', Bool.not_eq_false', Bool.and_eq_false_iff, Bool.or_eq_false_iff, Bool.not_not, decide_eq_true_eq, decide_eq_false_iff_not, Bool.not_true, Bool.not_false, List.mem_cons, List.not_mem_nil, or_false, beq_iff_eq] at c2
        all_goals (exfalso; omega)
      · try simp only [Bool.and_eq_true, Bool.or_eq_true, Bool.not_eq_true', Bool.not_eq_false', Bool.and_eq_false_iff, Bool.or_eq_false_iff, Bool.not_not, decide_eq_true_eq, decide_eq_false_iff_not, Bool.not_true, Bool.not_false, List.mem_cons, List.not_mem_nil, or_false, beq_iff_eq] at c2
        refine ws_ret (we_bi (wes_cons (we_var rfl rfl ⟨rfl, (wes_nil ⟨_, _, rfl, (bi_intS h), ⟨_, rfl, _, (fin_imm rfl (fin_imm rfl fin_nil)), ?_⟩⟩)⟩)))
        exact ⟨rfl, rfl⟩
theorem number_of_ {k1 a b c : Int} (hk : 0 ≤ k1 ∧ k1 < 16) (hz : (0 ≤ a ∧ a < 65536) ∧ (0 ≤ b ∧ b < 65536) ∧ 0 ≤ c ∧ c < 65536) : callF Pr W (k + 1) ("number_of", none) [(.tup [.str (geti wordL k1), .int a, .int b, .int c])] = .ok (.int (k1 * 4096 + a * 512 + b * 64 + c)) [.tup [.str (geti wordL k1), .int a, .int b, .int c]] := by
  refine Ok.eq ?_
  refine call_ok (ρ := ⟨0, [.own (.tup [.str (geti wordL k1), .int a, .int b, .int c]), .no, .no, .no, .no]⟩) g_number_of rfl (mut_imm (imT rfl) mut_nil) rfl ?_
  refine ws_asg (we_var rfl (imT rfl) (wt_tp rfl rfl rfl (wn_cons (.inl rfl) rfl rfl (ρ2 := ⟨0, [_, _, _, _, _]⟩) rfl (wn_cons (.inl rfl) rfl rfl (ρ2 := ⟨0, [_, _, _, _, _]⟩) rfl (wn_cons (.inl rfl) rfl rfl (ρ2 := ⟨0, [_, _, _, _, _]⟩) rfl (wn_cons (.inl rfl) rfl rfl (ρ2 := ⟨0, [_, _, _, _, _]⟩) rfl (wn_nil ?_)))))))
  refine ws_ret (we_bin (we_bin (we_bin (we_bin (we_bmP (we_glo rfl ⟨_, rfl, rfl, (wes_cons (we_var rfl rfl ⟨rfl, (wes_nil ⟨_, _, _, rfl, rfl, rfl, rfl, (w_idx hk), (we_int ⟨_, _, _, two_v, (b_mulI (by first | omega | (split <;> omega) | ((try simp only [seti_len, List.length_replicate, List.length_append, List.length_cons, List.length_nil] at *); omega)) (by first | omega | (split <;> omega) | ((try simp only [seti_len, List.length_replicate, List.length_append, List.length_cons, List.length_nil] at *); omega))), (we_bin (we_var rfl rfl (we_int ⟨_, _, _, two_v, (b_mulI (by first | omega | (split <;> omega) | ((try simp only [seti_len, List.length_replicate, List.length_append, List.length_cons, List.length_nil] at *); omega)) (by first | omega | (split <;> omega) | ((try simp only [seti_len, List.length_replicate, List.length_append, List.length_cons, List.length_nil] at *); omega))), ⟨_, _, _, two_v, b_addI, (we_bin (we_var rfl rfl (we_int ⟨_, _, _, two_v, (b_mulI (by first | omega | (split <;> omega) | ((try simp only [seti_len, List.length_replicate, List.length_append, List.length_cons, List.length_nil] at *); omega)) (by first | omega | (split <;> omega) | ((try simp only [seti_len, List.length_replicate, List.length_append, List.length_cons, List.length_nil] at *); omega))), ⟨_, _, _, two_v, b_addI, (we_var rfl rfl ⟨_, _, _, two_v, b_addI, ⟨_, rfl, _, (fin_imm (imT rfl) fin_nil), ?_⟩⟩)⟩⟩)))⟩⟩)))⟩)⟩)⟩))⟩))))))
  exact ⟨rfl, rfl⟩
theorem told_row {k1 a b c : Int} (hk : 0 ≤ k1 ∧ k1 < 16) (ha : 0 ≤ a ∧ a < 8) (hb : 0 ≤ b ∧ b < 8) (hc : 0 ≤ c ∧ c < 64) : callF Pr W (k + 2) ("row_told", none) [(.str (rowT k1 a b c))] = .ok (.int (k1 * 4096 + a * 512 + b * 64 + c)) [.str (rowT k1 a b c)] := by
  refine Ok.eq ?_
  refine call_ok (ρ := ⟨0, [.own (.str (rowT k1 a b c)), .no, .no, .no, .no]⟩) g_row_told rfl (mut_imm rfl mut_nil) rfl ?_
  refine ws_asg (we_bmP (we_var rfl rfl ⟨_, rfl, rfl, (wes_cons (we_str ⟨rfl, (wes_nil ⟨_, _, _, rfl, rfl, rfl, rfl, (row_split hk (by omega) (by omega) (by omega)), (wt_nm (.inl rfl) rfl rfl (ρ2 := ⟨0, [_, _, _, _, _]⟩) rfl ?_)⟩)⟩))⟩))
  refine ws_ite (we_bop (we_cmp (we_bi (wes_cons (we_varp rfl rfl ⟨rfl, (wes_nil ⟨_, _, rfl, rfl, (we_int ⟨_, _, false, two_v, rfl, ⟨_, rfl, (fun h => nomatch h), fun _ => ⟨_, false, rfl, rfl, (fun h => nomatch h), fun _ => ?_⟩⟩⟩)⟩)⟩)))))
  refine ws_ite (we_bop (we_cmp (we_bi (wes_cons (we_varp rfl rfl ⟨rfl, (wes_nil ⟨_, _, rfl, rfl, (we_int ⟨_, _, false, two_v, rfl, ⟨_, rfl, fun _ => (we_cmp (we_idx (we_varp rfl rfl (we_int ⟨_, _, _, _, ⟨rfl, rfl, rfl⟩, rfl, rfl, (part_p rfl), (we_glo rfl ⟨_, _, false, two_v, (c_ninW hk), ⟨_, false, rfl, rfl, (fun h => nomatch h), fun _ => ?_⟩⟩)⟩)))), (fun h => nomatch h)⟩⟩)⟩)⟩)))))
  refine ws_asg (we_callE (wes_cons (we_idx (we_varp rfl rfl (we_int ⟨_, _, _, _, ⟨rfl, rfl, rfl⟩, rfl, rfl, (part_p rfl), ⟨rfl, (wes_cons (we_int ⟨rfl, (wes_nil ⟨_, _, _, _, rfl, rfl, rfl, figs (by omega) (by omega), rfl, ⟨0, [_, _, _, _, _]⟩, rfl, (wt_nm (.inl rfl) rfl rfl (ρ2 := ⟨0, [_, _, _, _, _]⟩) rfl ?_)⟩)⟩))⟩⟩)))))
  refine ws_asg (we_callE (wes_cons (we_idx (we_varp rfl rfl (we_int ⟨_, _, _, _, ⟨rfl, rfl, rfl⟩, rfl, rfl, (part_p rfl), ⟨rfl, (wes_cons (we_int ⟨rfl, (wes_nil ⟨_, _, _, _, rfl, rfl, rfl, figs (by omega) (by omega), rfl, ⟨0, [_, _, _, _, _]⟩, rfl, (wt_nm (.inl rfl) rfl rfl (ρ2 := ⟨0, [_, _, _, _, _]⟩) rfl ?_)⟩)⟩))⟩⟩)))))
  refine ws_asg (we_callE (wes_cons (we_idx (we_varp rfl rfl (we_int ⟨_, _, _, _, ⟨rfl, rfl, rfl⟩, rfl, rfl, (part_p rfl), ⟨rfl, (wes_cons (we_int ⟨rfl, (wes_nil ⟨_, _, _, _, rfl, rfl, rfl, figs (by omega) (by omega), rfl, ⟨0, [_, _, _, _, _]⟩, rfl, (wt_nm (.inl rfl) rfl rfl (ρ2 := ⟨0, [_, _, _, _, _]⟩) rfl ?_)⟩)⟩))⟩⟩)))))
  refine ws_ite (we_bop (we_cmp (we_var rfl rfl (we_non ⟨_, _, false, two_v, rfl, ⟨_, rfl, fun _ => (we_bop (we_cmp (we_var rfl rfl (we_non ⟨_, _, false, two_v, rfl, ⟨_, rfl, fun _ => (we_cmp (we_var rfl rfl (we_non ⟨_, _, false, two_v, rfl, ⟨_, false, rfl, rfl, (fun h => nomatch h), fun _ => ?_⟩⟩))), (fun h => nomatch h)⟩⟩)))), (fun h => nomatch h)⟩⟩))))
  refine ws_ret (we_callE (wes_cons (we_tup (wes_cons (we_idx (we_varp rfl rfl (we_int ⟨_, _, _, _, ⟨rfl, rfl, rfl⟩, rfl, rfl, (part_p rfl), ⟨rfl, (wes_cons (we_var rfl rfl ⟨rfl, (wes_cons (we_var rfl rfl ⟨rfl, (wes_cons (we_var rfl rfl ⟨rfl, (wes_nil ⟨_, (wv rfl (wv rfl (wv rfl (wv rfl rfl)))), ⟨rfl, (wes_nil ⟨_, _, _, _, rfl, rfl, rfl, number_of_ hk (by omega), rfl, ⟨0, [_, _, _, _, _]⟩, rfl, ⟨_, rfl, _, (fin_imm rfl fin_nil), ?_⟩⟩)⟩⟩)⟩))⟩))⟩))⟩⟩)))) rfl)))
  exact ⟨rfl, rfl⟩
theorem told_cell {n : Int} (h : 0 ≤ n ∧ n < 65536) : callF Pr W (k + 2) ("row_told", none) [(.str (cellT n))] = .ok (.int n) [.str (cellT n)] := by
  refine Ok.eq ?_
  refine call_ok (ρ := ⟨0, [.own (.str (cellT n)), .no, .no, .no, .no]⟩) g_row_told rfl (mut_imm rfl mut_nil) rfl ?_
  refine ws_asg (we_bmP (we_var rfl rfl ⟨_, rfl, rfl, (wes_cons (we_str ⟨rfl, (wes_nil ⟨_, _, _, rfl, rfl, rfl, rfl, (cell_split h), (wt_nm (.inl rfl) rfl rfl (ρ2 := ⟨0, [_, _, _, _, _]⟩) rfl ?_)⟩)⟩))⟩))
  refine ws_ite (we_bop (we_cmp (we_bi (wes_cons (we_varp rfl rfl ⟨rfl, (wes_nil ⟨_, _, rfl, rfl, (we_int ⟨_, _, true, two_v, rfl, ⟨_, rfl, fun _ => (we_cmp (we_idx (we_varp rfl rfl (we_int ⟨_, _, _, _, ⟨rfl, rfl, rfl⟩, rfl, rfl, (part_p rfl), (we_str ⟨_, _, true, two_v, (by decide +kernel), ⟨_, true, rfl, rfl, fun _ => ?_, (fun h => nomatch h)⟩⟩)⟩)))), (fun h => nomatch h)⟩⟩)⟩)⟩)))))
  refine ws_ret (we_callE (wes_cons (we_idx (we_varp rfl rfl (we_int ⟨_, _, _, _, ⟨rfl, rfl, rfl⟩, rfl, rfl, (part_p rfl), ⟨rfl, (wes_cons (we_glo rfl ⟨rfl, (wes_nil ⟨_, _, _, _, rfl, rfl, rfl, figs h (by omega), rfl, ⟨0, [_, _, _, _, _]⟩, rfl, ⟨_, rfl, _, (fin_imm rfl fin_nil), ?_⟩⟩)⟩))⟩⟩)))))
  exact ⟨rfl, rfl⟩
theorem told_ok {t : PySem.Str} {n : Int} (h : RowIs t n) : callF Pr W (k + 2) ("row_told", none) [.str t] = .ok (.int n) [.str t] := by
  rcases h with ⟨k1, a, b, c, hk, ha, hb, hc, rfl, rfl⟩ | ⟨h, rfl⟩
  · exact told_row hk ha hb hc
  · exact told_cell h
theorem take_succ {l : List Int} {i : Nat} (h : i < l.length) : l.take i ++ [geti l (i : Int)] = l.take (i + 1) := by
  have e : geti l (i : Int) = l[i] := by
    have := geti_eq (l := l) (i := (i : Int)) (by omega)
    rw [show (i : Int).toNat = i by omega, List.getElem?_eq_getElem h] at this
    exact (Option.some.inj this).symm
  rw [e, List.take_succ_eq_append_getElem h]
theorem read_ {Ts : List PySem.Str} {Ns : List Int} (hl : Ts.length = Ns.length) (h0 : 0 < Ts.length ∧ Ts.length ≤ 200) (hR : ∀ i : Nat, i < Ts.length → RowIs (geti Ts (i : Int)) (geti Ns (i : Int))) : callF Pr W (k + 3) ("read", none) [(.str (PySem.Txt.join "\n" Ts))] = .ok (.tup (Ns.map .int)) [.str (PySem.Txt.join "\n" Ts)] := by
  refine Ok.eq ?_
  refine call_ok (ρ := ⟨0, [.own (.str (PySem.Txt.join "\n" Ts)), .no, .no, .no, .no, .no]⟩) g_read rfl (mut_imm rfl mut_nil) rfl ?_
  refine ws_asg (we_lst (wes_nil ⟨_, rfl, (wt_nm (.inl rfl) rfl rfl (ρ2 := ⟨0, [_, _, _, _, _, _]⟩) rfl ?_)⟩) rfl)
  refine ws_for (wi_enuV (we_bmP (we_var rfl rfl ⟨_, rfl, rfl, (wes_cons (we_str ⟨rfl, (wes_nil ⟨_, _, _, rfl, rfl, rfl, rfl, (rows_split (by intro e; rw [e] at h0; simp at h0) h0.2 (rows_nl hR)), ⟨_, _, rfl, sq_ll, rfl, ⟨0, [_, _, _, _, _, _]⟩, rfl, ⟨fun S i ρ => ∃ (C : List Int) (s_4 : Slot) (s_2 : Slot) (s_3 : Slot), ρ = ⟨0, [gS S 0, .own (.lst false (C.map .int)), s_2, s_3, s_4, gS S 5]⟩ ∧ okI s_4 ∧ okI s_2 ∧ okI s_3 ∧ (C = Ns.take i), fun S ρ => False, ⟨[], _, _, _, rfl, (.inl rfl), (.inl rfl), (.inl rfl), (by simp)⟩, (fun _ _ _ ⟨_, _, _, _, hq, _, _, _, _⟩ => (by subst hq; exact th_enu rfl sq_ll)), ?_, (fun _ h => h.elim), ?_⟩⟩⟩)⟩))⟩)))
  · rintro i _ hi ⟨C, s_4, s_2, s_3, rfl, o_4, o_2, o_3, rfl⟩
    dsimp only [gS_zero, gS_succ]
    simp only [Pv.Walk.len] at hi
    have hr := hR i (by omega)
    have htk : (Ns.take i).length ≤ Ns.length := by rw [List.length_take]; omega
    refine ⟨_, (it_enu (enc := D.str) rfl rfl hi rfl), ?_⟩
    refine (wa_tp rfl rfl (wn_cons o_2.s rfl rfl (ρ2 := ⟨0, [_, _, _, _, _, _]⟩) rfl (wn_cons o_3.s rfl rfl (ρ2 := ⟨0, [_, _, _, _, _, _]⟩) rfl (wn_nil ?_))))
    refine ws_asg (we_callE (wes_cons (we_var rfl rfl ⟨rfl, (wes_nil ⟨_, _, _, _, rfl, rfl, rfl, told_ok hr, rfl, ⟨0, [_, _, _, _, _, _]⟩, rfl, (wt_nm o_4.s rfl rfl (ρ2 := ⟨0, [_, _, _, _, _, _]⟩) rfl ?_)⟩)⟩)))
    refine ws_ite (we_cmp (we_var rfl rfl (we_non ⟨_, _, false, two_v, rfl, ⟨_, false, rfl, rfl, (fun h => nomatch h), fun _ => ?_⟩⟩)))
    refine ws_expr (we_bmD (we_varp rfl rfl ⟨_, _, _, rfl, rfl, rfl, (wes_cons (we_var rfl rfl ⟨rfl, (wes_nil ⟨_, _, _, _, rfl, rfl, rfl, (wv rfl rfl), bm_app (enc := D.int) (by first | omega | (split <;> omega) | ((try simp only [seti_len, List.length_replicate, List.length_append, List.length_cons, List.length_nil] at *); omega)), ⟨0, [_, _, _, _, _, _]⟩, rfl, ?_⟩)⟩))⟩))
    exact ws_nil ⟨_, _, _, _, rfl, (.inr ⟨_, rfl, rfl⟩), (.inr ⟨_, rfl, rfl⟩), (.inr ⟨_, rfl, rfl⟩), take_succ (by have : i < Ts.length := hi; omega)⟩
  · rintro _ ⟨C, s_4, s_2, s_3, rfl, o_4, o_2, o_3, rfl⟩
    dsimp only [gS_zero, gS_succ]
    refine ⟨⟨0, [_, _, _, _, _, _]⟩, rfl, ?_⟩
    refine ws_ret (we_bi (wes_cons (we_varp rfl rfl ⟨rfl, (wes_nil ⟨_, _, rfl, (bi_tupM (fun _ => rfl)), ⟨_, rfl, _, (fin_imm rfl fin_nil), ?_⟩⟩)⟩)))
    exact ⟨by simp only [Pv.Walk.len, List.length_map, hl, List.take_length], rfl⟩
theorem words  : callF Pr W (k + 1) ("_law_words", none) [] = .ok (.lst false (wordL.map .str)) [] := by
  refine Ok.eq ?_
  refine call_ok (ρ := ⟨0, [.no]⟩) g_law_words rfl mut_nil rfl ?_
  refine ws_asg (we_lst (wes_cons (we_str ⟨rfl, (wes_cons (we_str ⟨rfl, (wes_cons (we_str ⟨rfl, (wes_cons (we_str ⟨rfl, (wes_cons (we_str ⟨rfl, (wes_cons (we_str ⟨rfl, (wes_cons (we_str ⟨rfl, (wes_cons (we_str ⟨rfl, (wes_nil ⟨_, (wv rfl (wv rfl (wv rfl (wv rfl (wv rfl (wv rfl (wv rfl (wv rfl rfl)))))))), (wt_nm (.inl rfl) rfl rfl (ρ2 := ⟨0, [_]⟩) rfl ?_)⟩)⟩))⟩))⟩))⟩))⟩))⟩))⟩))⟩)) rfl)
  refine ws_ret (we_bin (we_varp rfl rfl (we_lst (wes_cons (we_str ⟨rfl, (wes_cons (we_str ⟨rfl, (wes_cons (we_str ⟨rfl, (wes_cons (we_str ⟨rfl, (wes_cons (we_str ⟨rfl, (wes_cons (we_str ⟨rfl, (wes_cons (we_str ⟨rfl, (wes_cons (we_str ⟨rfl, (wes_nil ⟨_, (wv rfl (wv rfl (wv rfl (wv rfl (wv rfl (wv rfl (wv rfl (wv rfl rfl)))))))), ⟨_, _, _, ⟨rfl, rfl, rfl⟩, rfl, ⟨_, rfl, _, fin_nil, ?_⟩⟩⟩)⟩))⟩))⟩))⟩))⟩))⟩))⟩))⟩)) rfl)))
  exact ⟨rfl, rfl⟩
/-- the text of a number's row -/
def rowN (n : Int) : PySem.Str := rowT (n / 4096) (n / 512 % 8) (n / 64 % 8) (n % 64)
theorem rowN_is {n : Int} (h : 0 ≤ n ∧ n < 65536) : RowIs (rowN n) n := .inl ⟨_, _, _, _, by omega, by omega, by omega, by omega, rfl, by omega⟩
theorem rowN_len {n : Int} (h : 0 ≤ n ∧ n < 65536) : (rowN n).length ≤ 23 := (rowN_is h).len
theorem wd_ix {n : Int} (h : 0 ≤ n ∧ n < 16) : idxD WD (.int n) = some (.str (geti wordL n)) := ix_tl (enc := D.str) (l := wordL) (by have : wordL.length = 16 := rfl; omega)
theorem text_ {n : Int} (h : 0 ≤ n ∧ n < 65536) : callF Pr W (k + 2) ("_law_text", none) [(.int n)] = .ok (.str (rowN n)) [.int n] := by
  refine Ok.eq ?_
  have hwl : wordL.length = 16 := rfl
  refine call_ok (ρ := ⟨0, [.own (.int n)]⟩) g_law_text rfl (mut_imm rfl mut_nil) rfl ?_
  refine ws_ret (we_bmP (we_str ⟨_, rfl, rfl, (wes_cons (we_lst (wes_cons (we_idx (we_callE (wes_nil ⟨_, _, _, _, rfl, rfl, rfl, words, rfl, ⟨0, [_]⟩, rfl, (we_bin (we_var rfl rfl (we_int ⟨_, _, _, two_v, (b_fdivI (by first | omega | (split <;> omega) | ((try simp only [seti_len, List.length_replicate, List.length_append, List.length_cons, List.length_nil] at *); omega))), ⟨_, _, _, _, two_v, rfl, ix_ll (by first | omega | (split <;> omega) | ((try simp only [seti_len, List.length_replicate, List.length_append, List.length_cons, List.length_nil] at *); omega)), part_v, ⟨rfl, (wes_cons (we_bi (wes_cons (we_bin (we_bin (we_var rfl rfl (we_int ⟨_, _, _, two_v, (b_fdivI (by first | omega | (split <;> omega) | ((try simp only [seti_len, List.length_replicate, List.length_append, List.length_cons, List.length_nil] at *); omega))), (we_int ⟨_, _, _, two_v, (b_modI (by first | omega | (split <;> omega) | ((try simp only [seti_len, List.length_replicate, List.length_append, List.length_cons, List.length_nil] at *); omega))), ⟨rfl, (wes_nil ⟨_, _, rfl, (bi_str (by first | omega | (split <;> omega) | ((try simp only [seti_len, List.length_replicate, List.length_append, List.length_cons, List.length_nil] at *); omega))), ⟨rfl, (wes_cons (we_bi (wes_cons (we_bin (we_bin (we_var rfl rfl (we_int ⟨_, _, _, two_v, (b_fdivI (by first | omega | (split <;> omega) | ((try simp only [seti_len, List.length_replicate, List.length_append, List.length_cons, List.length_nil] at *); omega))), (we_int ⟨_, _, _, two_v, (b_modI (by first | omega | (split <;> omega) | ((try simp only [seti_len, List.length_replicate, List.length_append, List.length_cons, List.length_nil] at *); omega))), ⟨rfl, (wes_nil ⟨_, _, rfl, (bi_str (by first | omega | (split <;> omega) | ((try simp only [seti_len, List.length_replicate, List.length_append, List.length_cons, List.length_nil] at *); omega))), ⟨rfl, (wes_cons (we_bi (wes_cons (we_bin (we_var rfl rfl (we_int ⟨_, _, _, two_v, (b_modI (by first | omega | (split <;> omega) | ((try simp only [seti_len, List.length_replicate, List.length_append, List.length_cons, List.length_nil] at *); omega))), ⟨rfl, (wes_nil ⟨_, _, rfl, (bi_str (by first | omega | (split <;> omega) | ((try simp only [seti_len, List.length_replicate, List.length_append, List.length_cons, List.length_nil] at *); omega))), ⟨rfl, (wes_nil ⟨_, (wv rfl (wv rfl (wv rfl (wv rfl rfl)))), ⟨rfl, (wes_nil ⟨_, _, _, rfl, rfl, rfl, rfl, (row_join (by omega) (by omega) (by omega) (by omega)), ⟨_, rfl, _, (fin_imm rfl fin_nil), ?_⟩⟩)⟩⟩)⟩⟩)⟩⟩))))))⟩⟩)⟩⟩)⟩)))))))⟩⟩)⟩⟩)⟩)))))))⟩⟩⟩)))⟩)))) rfl))⟩))
  exact ⟨rfl, rfl⟩
theorem set_out_ {n : Int} (h : 0 ≤ n ∧ n < 65536) : callF Pr W (k + 1) ("set_out", none) [(.int n)] = .ok (.tup [.str (geti wordL (n / 4096)), .int (n / 512 % 8), .int (n / 64 % 8), .int (n % 64)]) [.int n] := by
  refine Ok.eq ?_
  refine call_ok (ρ := ⟨0, [.own (.int n)]⟩) g_set_out rfl (mut_imm rfl mut_nil) rfl ?_
  refine ws_ret (we_tup (wes_cons (we_idx (we_glo rfl (we_bin (we_var rfl rfl (we_int ⟨_, _, _, two_v, (b_fdivI (by first | omega | (split <;> omega) | ((try simp only [seti_len, List.length_replicate, List.length_append, List.length_cons, List.length_nil] at *); omega))), ⟨_, _, _, _, two_v, rfl, (wd_ix (by omega)), part_v, ⟨rfl, (wes_cons (we_bin (we_bin (we_var rfl rfl (we_int ⟨_, _, _, two_v, (b_fdivI (by first | omega | (split <;> omega) | ((try simp only [seti_len, List.length_replicate, List.length_append, List.length_cons, List.length_nil] at *); omega))), (we_int ⟨_, _, _, two_v, (b_modI (by first | omega | (split <;> omega) | ((try simp only [seti_len, List.length_replicate, List.length_append, List.length_cons, List.length_nil] at *); omega))), ⟨rfl, (wes_cons (we_bin (we_bin (we_var rfl rfl (we_int ⟨_, _, _, two_v, (b_fdivI (by first | omega | (split <;> omega) | ((try simp only [seti_len, List.length_replicate, List.length_append, List.length_cons, List.length_nil] at *); omega))), (we_int ⟨_, _, _, two_v, (b_modI (by first | omega | (split <;> omega) | ((try simp only [seti_len, List.length_replicate, List.length_append, List.length_cons, List.length_nil] at *); omega))), ⟨rfl, (wes_cons (we_bin (we_var rfl rfl (we_int ⟨_, _, _, two_v, (b_modI (by first | omega | (split <;> omega) | ((try simp only [seti_len, List.length_replicate, List.length_append, List.length_cons, List.length_nil] at *); omega))), ⟨rfl, (wes_nil ⟨_, (wv rfl (wv rfl (wv rfl (wv rfl rfl)))), ⟨_, rfl, _, (fin_imm rfl fin_nil), ?_⟩⟩)⟩⟩))))⟩⟩)⟩)))))⟩⟩)⟩)))))⟩⟩⟩)))))) rfl)
  exact ⟨rfl, rfl⟩
abbrev N16 (l : List Int) : Prop := ∀ x ∈ l, 0 ≤ x ∧ x < 65536
theorem n16_app {l : List Int} {v : Int} (h : N16 l) (hv : 0 ≤ v ∧ v < 65536) : N16 (l ++ [v]) := fun x hx => by
  rcases List.mem_append.mp hx with hx | hx
  · exact h x hx
  · simp only [List.mem_cons, List.not_mem_nil, or_false] at hx; subst hx; exact hv
theorem list_ext {α : Type} {R : List α} {β : Type} [Inhabited α] {f : α → β} {L : List β} (hl : L.length = R.length) (h : ∀ (i : Nat) (v : β), L[i]? = some v → v = f (geti R (i : Int))) : L = R.map f := by
  apply List.ext_getElem?
  intro i
  by_cases hi : i < L.length
  · have e := List.getElem?_eq_getElem hi
    have h1 := h i _ e
    have h2 := geti_eq (l := R) (i := (i : Int)) (by omega)
    rw [show (i : Int).toNat = i by omega] at h2
    rw [e, h1, List.getElem?_map, h2]
    rfl
  · rw [List.getElem?_eq_none (by omega), List.getElem?_eq_none (by rw [List.length_map]; omega)]
theorem geti_map {α β : Type} [Inhabited α] [Inhabited β] {R : List α} {f : α → β} {i : Nat} (h : i < R.length) : geti (R.map f) (i : Int) = f (geti R (i : Int)) := by
  have h1 := geti_eq (l := R.map f) (i := (i : Int)) (by rw [List.length_map]; omega)
  have h2 := geti_eq (l := R) (i := (i : Int)) (by omega)
  rw [List.getElem?_map, h2] at h1
  exact (Option.some.inj h1).symm
theorem geti_take {α : Type} [Inhabited α] {R : List α} {i : Nat} {n : Int} (h : i < (takei R n).length) : geti (takei R n) (i : Int) = geti R (i : Int) := by
  simp only [takei, List.length_take] at h
  have h1 := geti_eq (l := takei R n) (i := (i : Int)) (by simp only [takei, List.length_take]; omega)
  have h2 := geti_eq (l := R) (i := (i : Int)) (by omega)
  rw [show (i : Int).toNat = i by omega] at h1 h2
  simp only [takei] at h1 ⊢
  rw [List.getElem?_take, if_pos (by omega), h2] at h1
  exact (Option.some.inj h1).symm
theorem eqk_T {l : List Int} : (D.tup (l.map .int)).eqk 60 = true := eqkM (enc := D.int) (n := 59) (fun _ => rfl) l
/-- a row's part: a text or a number -/
inductive Pt where
  | s (x : PySem.Str) | n (i : Int)
instance : Inhabited Pt := ⟨.n 0⟩
def eP : Pt → D
  | .s x => .str x
  | .n i => .int i
theorem eP_imm (x : Pt) : (eP x).imm = true := by cases x <;> rfl
def pT : Pt → PySem.Str
  | .s x => x
  | .n i => NS i
def okP : Pt → Prop
  | .s _ => True
  | .n i => 0 ≤ i ∧ i < 65536
theorem bi_strP {x : Pt} (h : okP x) : biD .str [eP x] = some (.str (pT x)) := by
  cases x with
  | s x => rfl
  | n i =>
    have h : 0 ≤ i ∧ i < 65536 := h
    exact bi_str (by omega)
def PLn (n : Int) : List Pt := [.s (geti wordL (n / 4096)), .n (n / 512 % 8), .n (n / 64 % 8), .n (n % 64)]
theorem okP_all {n : Int} (h : 0 ≤ n ∧ n < 65536) {i : Nat} (hi : i < (PLn n).length) : okP (geti (PLn n) (i : Int)) := by
  have hi : i < 4 := hi
  obtain rfl | rfl | rfl | rfl : i = 0 ∨ i = 1 ∨ i = 2 ∨ i = 3 := by omega
  · exact trivial
  · exact (show 0 ≤ n / 512 % 8 ∧ n / 512 % 8 < 65536 by omega)
  · exact (show 0 ≤ n / 64 % 8 ∧ n / 64 % 8 < 65536 by omega)
  · exact (show 0 ≤ n % 64 ∧ n % 64 < 65536 by omega)
theorem set_out_P {n : Int} (h : 0 ≤ n ∧ n < 65536) : callF Pr W (k + 1) ("set_out", none) [.int n] = .ok (.tup ((PLn n).map eP)) [.int n] := set_out_ h
theorem join_P {n : Int} (h : 0 ≤ n ∧ n < 65536) : bmP .join (.str " ") [.lst false (((PLn n).map pT).map .str)] = some (.str (rowN n)) := row_join (by omega) (by omega) (by omega) (by omega)
theorem joinL_all {s m : Nat} (hs : s < m) : ∀ (L : List (List Nat)), (∀ p ∈ L, ∀ c ∈ p, c < m) → ∀ c ∈ TL.joinL [s] L, c < m
  | [], _, c, h => by simp [TL.joinL] at h
  | [p], h, c, hc => h p (by simp) c hc
  | p :: q :: r, h, c, hc => by
    have hc : c ∈ p ++ ([s] ++ TL.joinL [s] (q :: r)) := hc
    rcases List.mem_append.mp hc with hc | hc
    · exact h p (by simp) c hc
    · rcases List.mem_append.mp hc with hc | hc
      · simp only [List.mem_cons, List.not_mem_nil, or_false] at hc; omega
      · exact joinL_all hs (q :: r) (fun x hx => h x (List.mem_cons_of_mem _ hx)) c hc
theorem rowN_ok {n : Int} (h : 0 ≤ n ∧ n < 65536) : ∀ c ∈ TL.tl (rowN n), c < 0x110000 := by
  intro c hc
  unfold rowN at hc
  rw [tl_rowT] at hc
  simp only [List.mem_append, List.mem_cons, List.not_mem_nil, or_false] at hc
  have hd : ∀ i : Int, 0 ≤ i → c ∈ TL.tl (NS i) → c < 0x110000 := fun i hi hm => by have := NS_dig hi c hm; omega
  rcases hc with hm | hm | hm | hm | hm | hm | hm
  · have := w_sp (show 0 ≤ n / 4096 ∧ n / 4096 < 16 by omega) _ hm; omega
  · omega
  · exact hd _ (by omega) hm
  · omega
  · exact hd _ (by omega) hm
  · omega
  · exact hd _ (by omega) hm
theorem text_eqk {C : List Int} (h : N16 C) : (D.str (PySem.Txt.join "
" (C.map rowN))).eqk 60 = true := by
  show PySem.PyData.strOk _ = true
  refine ok_tl ?_
  rw [TL.join_eq, TL.tl_join, tl_nl]
  refine joinL_all (by decide) _ ?_
  intro p hp c hc
  obtain ⟨t, ht, rfl⟩ := List.mem_map.mp hp
  obtain ⟨n, hn, rfl⟩ := List.mem_map.mp ht
  exact rowN_ok (h n hn) c hc
theorem geti_N {C : List Int} (h : N16 C) {i : Nat} (hi : i < C.length) : 0 ≤ geti C (i : Int) ∧ geti C (i : Int) < 65536 := geti_all h (by omega)
theorem cells_ (ns : List Int) (hn : ns.length ≤ 63) : Ok (callF Pr W (k + 1) ("_law_cells", none) [(.lst true (ns.map .int))]) (fun d l => ∃ C : List Int, d = .tup (C.map .int) ∧ l = [.lst true (ns.map .int)] ∧ 8 ≤ C.length ∧ C.length ≤ 128 ∧ N16 C) := by
  have ht : (takei ns 63).length ≤ 63 := by simp [takei]; omega
  refine call_ok (ρ := ⟨0, [.own (.lst true (ns.map .int)), .no, .no, .no, .no, .no]⟩) g_law_cells rfl (mut_imm rfl mut_nil) rfl ?_
  refine ws_asg (we_bin (we_sli (we_var rfl rfl (wp_nil (wp_one (we_int ⟨_, rfl, ⟨_, _, rfl, rfl, sl_toL (fun _ => rfl) (by first | omega | (split <;> omega) | ((try simp only [seti_len, List.length_replicate, List.length_append, List.length_cons, List.length_nil] at *); omega)), (we_lst (wes_cons (we_bi (wes_cons (we_var rfl rfl ⟨rfl, (wes_nil ⟨_, _, rfl, bi_lenL, ⟨rfl, (wes_nil ⟨_, (wv rfl rfl), ⟨_, _, _, two_v, (b_lstM (m := [_]) (fun _ => rfl) (by ((try simp only [List.length_cons, List.length_nil, List.length_append, takei, dropi, List.length_take, List.length_drop, List.length_replicate]); omega))), (wt_nm (.inl rfl) rfl rfl (ρ2 := ⟨0, [_, _, _, _, _, _]⟩) rfl ?_)⟩⟩)⟩⟩)⟩)))) rfl)⟩⟩))))))
  refine ws_asg (we_lst (wes_nil ⟨_, rfl, (wt_nm (.inl rfl) rfl rfl (ρ2 := ⟨0, [_, _, _, _, _, _]⟩) rfl ?_)⟩) rfl)
  refine ws_for (wi_rng1 (wes_cons (we_bin (we_int (we_bin (we_int (we_bin (we_bin (we_idx (we_varp rfl rfl (we_int ⟨_, _, _, _, ⟨rfl, rfl, rfl⟩, rfl, ix_ll (by first | omega | (split <;> omega) | ((try simp only [seti_len, List.length_replicate, List.length_append, List.length_cons, List.length_nil] at *); omega)), (part_p rfl), (we_int ⟨_, _, _, two_v, (b_fdivI (by first | omega | (split <;> omega) | ((try simp only [seti_len, List.length_replicate, List.length_append, List.length_cons, List.length_nil] at *); omega))), (we_int ⟨_, _, _, two_v, (b_modI (by first | omega | (split <;> omega) | ((try simp only [seti_len, List.length_replicate, List.length_append, List.length_cons, List.length_nil] at *); omega))), ⟨_, _, _, two_v, b_addI, ⟨_, _, _, two_v, (b_mulI (by first | omega | (split <;> omega) | ((try simp only [seti_len, List.length_replicate, List.length_append, List.length_cons, List.length_nil] at *); omega)) (by first | omega | (split <;> omega) | ((try simp only [seti_len, List.length_replicate, List.length_append, List.length_cons, List.length_nil] at *); omega))), ⟨rfl, (wes_nil ⟨_, rfl, by first | omega | (split <;> omega) | ((try simp only [seti_len, List.length_replicate, List.length_append, List.length_cons, List.length_nil] at *); omega), ⟨fun S i ρ => ∃ (C : List Int) (s_4 : Slot) (s_3 : Slot), ρ = ⟨0, [gS S 0, gS S 1, .own (.lst false (C.map .int)), s_3, s_4, gS S 5]⟩ ∧ okI s_4 ∧ okI s_3 ∧ ((C.length : Int) = i ∧ N16 C), fun S ρ => False, ⟨[], _, _, rfl, (.inl rfl), (.inl rfl), (by simp), (fun _ m => by cases m)⟩, (fun _ _ _ ⟨_, _, _, hq, _, _, _⟩ => rfl), ?_, (fun _ h => h.elim), ?_⟩⟩)⟩⟩⟩⟩)⟩)⟩)))))))))))
  · rintro i _ hi ⟨C, s_4, s_3, rfl, o_4, o_3, ⟨hCl, hC⟩⟩
    dsimp only [gS_zero, gS_succ]
    simp only [Pv.Walk.len] at hi
    have hq : 0 ≤ (0 + (i : Int) * 1) / (((takei ns 63).length + (0 + 1) : Nat) : Int) := Int.ediv_nonneg (by omega) (by omega)
    have hq2 := Int.ediv_le_self (a := 0 + (i : Int) * 1) (((takei ns 63).length + (0 + 1) : Nat) : Int) (by omega)
    refine ⟨_, rfl, ?_⟩
    refine (wa_nm o_3.s rfl rfl (ρ2 := ⟨0, [_, _, _, _, _, _]⟩) rfl ?_)
    refine ws_asg (we_intA (fun v => True) (we_bin (we_idx (we_varp rfl rfl (we_modA (we_var rfl rfl (we_bi (wes_cons (we_varp rfl rfl ⟨rfl, (wes_nil ⟨_, _, rfl, bi_lenL, ⟨_, _, rfl, rfl, by first | omega | (split <;> omega) | ((try simp only [seti_len, List.length_replicate, List.length_append, List.length_cons, List.length_nil] at *); omega), fun m_1 h_1 => ⟨_, _, _, _, ⟨rfl, rfl, rfl⟩, rfl, ix_ll (by first | omega | (split <;> omega) | ((try simp only [seti_len, List.length_replicate, List.length_append, List.length_cons, List.length_nil] at *); omega)), (part_p rfl), (we_bin (we_int (we_bin (we_var rfl rfl (we_bi (wes_cons (we_varp rfl rfl ⟨rfl, (wes_nil ⟨_, _, rfl, bi_lenL, ⟨_, _, _, two_v, (b_fdivI (by first | omega | (split <;> omega) | ((try simp only [seti_len, List.length_replicate, List.length_append, List.length_cons, List.length_nil] at *); omega))), ⟨_, _, _, two_v, b_addI, ⟨_, _, _, two_v, (b_fdivI (by first | omega | (split <;> omega) | ((try simp only [seti_len, List.length_replicate, List.length_append, List.length_cons, List.length_nil] at *); omega))), ⟨_, rfl, trivial, ?_⟩⟩⟩⟩⟩)⟩)))))))⟩⟩⟩)⟩)))))))))
    intro cell h_cell
    refine (wt_nm o_4.s rfl rfl (ρ2 := ⟨0, [_, _, _, _, _, _]⟩) rfl ?_)
    refine ws_join (fun S ρ => ∃ (ce : Int), ρ = ⟨0, [gS S 0, gS S 1, gS S 2, gS S 3, .own (.int ce), gS S 5]⟩ ∧ (True)) ?_ ?_
    · skip
      refine ws_ite (we_cmp (we_bin (we_idx (we_varp rfl rfl (we_int ⟨_, _, _, _, ⟨rfl, rfl, rfl⟩, rfl, ix_ll (by first | omega | (split <;> omega) | ((try simp only [seti_len, List.length_replicate, List.length_append, List.length_cons, List.length_nil] at *); omega)), (part_p rfl), (we_int ⟨_, _, _, two_v, (b_modI (by first | omega | (split <;> omega) | ((try simp only [seti_len, List.length_replicate, List.length_append, List.length_cons, List.length_nil] at *); omega))), (we_int ⟨_, _, _, two_v, c_eqI, ⟨_, _, rfl, rfl, fun c1 => ?_, fun c1 => ?_⟩⟩)⟩)⟩)))))
      · try simp only [Bool.and_eq_true, Bool.or_eq_true, Bool.not_eq_true', Bool.not_eq_false', Bool.and_eq_false_iff, Bool.or_eq_false_iff, Bool.not_not, decide_eq_true_eq, decide_eq_false_iff_not, Bool.not_true, Bool.not_false, List.mem_cons, List.not_mem_nil, or_false, beq_iff_eq] at c1
        refine ws_asg (we_intA (fun v => 0 ≤ v ∧ v < 2147483563) (we_bin (we_bin (we_bin (we_bin (we_var rfl rfl (we_int ⟨_, _, _, two_v, (b_modI (by first | omega | (split <;> omega) | ((try simp only [seti_len, List.length_replicate, List.length_append, List.length_cons, List.length_nil] at *); omega))), (we_var rfl rfl ⟨_, _, _, two_v, b_addI, (we_int ⟨_, _, _, two_v, (b_mulI (by first | omega | (split <;> omega) | ((try simp only [seti_len, List.length_replicate, List.length_append, List.length_cons, List.length_nil] at *); omega)) (by first | omega | (split <;> omega) | ((try simp only [seti_len, List.length_replicate, List.length_append, List.length_cons, List.length_nil] at *); omega))), (we_int ⟨_, _, _, two_v, (b_modI (by first | omega | (split <;> omega) | ((try simp only [seti_len, List.length_replicate, List.length_append, List.length_cons, List.length_nil] at *); omega))), ⟨_, rfl, by first | omega | (split <;> omega) | ((try simp only [seti_len, List.length_replicate, List.length_append, List.length_cons, List.length_nil] at *); omega), ?_⟩⟩)⟩)⟩)⟩)))))))
        intro cell1 h_cell1
        refine (wt_nm (.inr ⟨_, rfl⟩) rfl rfl (ρ2 := ⟨0, [_, _, _, _, _, _]⟩) rfl ?_)
        refine ws_asg (we_intA (fun v => True) (we_bin (we_bin (we_bin (we_var rfl rfl (we_var rfl rfl ⟨_, _, _, two_v, (b_mulI (by first | omega | (split <;> omega) | ((try simp only [seti_len, List.length_replicate, List.length_append, List.length_cons, List.length_nil] at *); omega)) (by first | omega | (split <;> omega) | ((try simp only [seti_len, List.length_replicate, List.length_append, List.length_cons, List.length_nil] at *); omega))), (we_int ⟨_, _, _, two_v, (b_modI (by first | omega | (split <;> omega) | ((try simp only [seti_len, List.length_replicate, List.length_append, List.length_cons, List.length_nil] at *); omega))), (we_int ⟨_, _, _, two_v, (b_fdivI (by first | omega | (split <;> omega) | ((try simp only [seti_len, List.length_replicate, List.length_append, List.length_cons, List.length_nil] at *); omega))), ⟨_, rfl, trivial, ?_⟩⟩)⟩)⟩))))))
        intro cell2 h_cell2
        refine (wt_nm (.inr ⟨_, rfl⟩) rfl rfl (ρ2 := ⟨0, [_, _, _, _, _, _]⟩) rfl ?_)
        exact ws_nil ⟨_, rfl, trivial⟩
      · try simp only [Bool.and_eq_true, Bool.or_eq_true, Bool.not_eq_true', Bool.not_eq_false', Bool.and_eq_false_iff, Bool.or_eq_false_iff, Bool.not_not, decide_eq_true_eq, decide_eq_false_iff_not, Bool.not_true, Bool.not_false, List.mem_cons, List.not_mem_nil, or_false, beq_iff_eq] at c1
        exact ws_nil ⟨_, rfl, trivial⟩
    · rintro _ ⟨ce, rfl, _⟩
      dsimp only [gS_zero, gS_succ]
      refine ws_expr (we_bmD (we_varp rfl rfl ⟨_, _, _, rfl, rfl, rfl, (wes_cons (we_bin (we_var rfl rfl (we_int ⟨_, _, _, two_v, (b_modI (by first | omega | (split <;> omega) | ((try simp only [seti_len, List.length_replicate, List.length_append, List.length_cons, List.length_nil] at *); omega))), ⟨rfl, (wes_nil ⟨_, _, _, _, rfl, rfl, rfl, (wv rfl rfl), bm_app (enc := D.int) (by first | omega | (split <;> omega) | ((try simp only [seti_len, List.length_replicate, List.length_append, List.length_cons, List.length_nil] at *); omega)), ⟨0, [_, _, _, _, _, _]⟩, rfl, ?_⟩)⟩⟩))))⟩))
      exact ws_nil ⟨_, _, _, rfl, (.inr ⟨_, rfl, rfl⟩), (.inr ⟨_, rfl, rfl⟩), (by simp only [List.length_append, List.length_cons, List.length_nil]; omega), n16_app hC (by omega)⟩
  · rintro _ ⟨C, s_4, s_3, rfl, o_4, o_3, ⟨hCl, hC⟩⟩
    dsimp only [gS_zero, gS_succ]
    simp only [Pv.Walk.len] at hCl
    refine ⟨⟨0, [_, _, _, _, _, _]⟩, rfl, ?_⟩
    refine ws_ret (we_bi (wes_cons (we_varp rfl rfl ⟨rfl, (wes_nil ⟨_, _, rfl, (bi_tupM (fun _ => rfl)), ⟨_, rfl, _, (fin_imm rfl fin_nil), ?_⟩⟩)⟩)))
    exact ⟨_, rfl, rfl, by omega, by omega, hC⟩
theorem shown_ {C : List Int} (hC : N16 C) (hn : C.length ≤ 128) : callF Pr W (k + 2) ("shown", none) [(.tup (C.map .int))] = .ok (.str (PySem.Txt.join "\n" (C.map rowN))) [.tup (C.map .int)] := by
  refine Ok.eq ?_
  refine call_ok (ρ := ⟨0, [.own (.tup (C.map .int)), .no, .no, .no, .no]⟩) g_shown rfl (mut_imm (imM (fun _ => rfl)) mut_nil) rfl ?_
  refine ws_ret (we_bmP (we_str ⟨_, rfl, rfl, (wes_cons (we_lcM (α := PySem.Str) D.str (fun i v => v = rowN (geti C (i : Int))) (fun S i ρ => ∃ (s_2 : Slot), ρ = ⟨0, [gS S 0, gS S 1, s_2, gS S 3, gS S 4]⟩ ∧ okI s_2 ∧ (True)) (wi_v (we_var rfl (imM (fun _ => rfl)) ⟨_, _, _, rfl, sq_tl, rfl, ⟨0, [_, _, _, _, _]⟩, rfl, ⟨(own_cons rfl rfl (.inl rfl) own_nil), by simp only [Pv.Walk.len]; first | omega | (split <;> omega) | ((try simp only [seti_len, List.length_replicate, List.length_append, List.length_cons, List.length_nil] at *); omega), ⟨_, rfl, (.inl rfl), trivial⟩, (fun _ _ _ ⟨_, hq, _, _⟩ => (by subst hq; exact th_seq rfl sq_tl)), ?_, ?_⟩⟩))))⟩))
  · rintro i _ hi ⟨s_2', rfl, o_2', hI⟩
    dsimp only [gS_zero, gS_succ]
    simp only [Pv.Walk.len] at hi
    have hN := geti_N hC hi
    have hPL : (PLn (geti C (i : Int))).length = 4 := rfl
    refine ⟨_, ⟨0, [_, _, _, _, _]⟩, (it_seq (enc := D.int) rfl rfl hi rfl), rfl, ?_⟩
    refine (wa_nm (.inl rfl) rfl rfl (ρ2 := ⟨0, [_, _, _, _, _]⟩) rfl (we_bmP (we_str ⟨_, rfl, rfl, (wes_cons (we_lcM (α := PySem.Str) D.str (fun j v => v = pT (geti (PLn (geti C (i : Int))) (j : Int))) (fun S i ρ => ∃ (s_1 : Slot), ρ = ⟨0, [gS S 0, s_1, gS S 2, gS S 3, gS S 4]⟩ ∧ okI s_1 ∧ (True)) (wi_v (we_callE (wes_cons (we_var rfl rfl ⟨rfl, (wes_nil ⟨_, _, _, _, rfl, rfl, rfl, set_out_P hN, rfl, ⟨0, [_, _, _, _, _]⟩, rfl, ⟨_, _, _, rfl, sq_tl, rfl, ⟨0, [_, _, _, _, _]⟩, rfl, ⟨(own_cons rfl rfl (.inl rfl) own_nil), by simp only [Pv.Walk.len]; first | omega | (split <;> omega) | ((try simp only [seti_len, List.length_replicate, List.length_append, List.length_cons, List.length_nil] at *); omega), ⟨_, rfl, (.inl rfl), trivial⟩, (fun _ _ _ ⟨_, hq, _, _⟩ => (by subst hq; exact th_seq rfl sq_tl)), ?_, ?_⟩⟩⟩)⟩))))))⟩)))
    · rintro i _ hi ⟨s_1', rfl, o_1', hI⟩
      dsimp only [gS_zero, gS_succ]
      simp only [Pv.Walk.len] at hi
      refine ⟨_, ⟨0, [_, _, _, _, _]⟩, (it_seq (enc := eP) rfl rfl hi (eP_imm _)), rfl, ?_⟩
      refine (wa_nm (.inl rfl) rfl rfl (ρ2 := ⟨0, [_, _, _, _, _]⟩) rfl (we_bi (wes_cons (we_var rfl (eP_imm _) ⟨rfl, (wes_nil ⟨_, _, rfl, (bi_strP (okP_all hN hi)), ⟨_, rfl, rfl, ⟨_, rfl, (.inr ⟨_, rfl, (eP_imm _)⟩), trivial⟩⟩⟩)⟩))))
    · rintro Sg _ Sg_len Sg_all ⟨s_1', rfl, o_1', hI⟩
      dsimp only [gS_zero, gS_succ]
      simp only [Pv.Walk.len] at Sg_len
      obtain rfl := list_ext (by simpa using Sg_len) Sg_all
      refine ⟨⟨0, [_, _, _, _, _]⟩, rfl, ⟨rfl, (wes_nil ⟨_, _, _, rfl, rfl, rfl, rfl, (join_P hN), ⟨_, rfl, rfl, ⟨_, rfl, (.inr ⟨_, rfl, rfl⟩), trivial⟩⟩⟩)⟩⟩
  · rintro Tx _ Tx_len Tx_all ⟨s_2', rfl, o_2', hI⟩
    dsimp only [gS_zero, gS_succ]
    simp only [Pv.Walk.len] at Tx_len
    obtain rfl : Tx = C.map rowN := list_ext (by simpa using Tx_len) Tx_all
    refine ⟨⟨0, [_, _, _, _, _]⟩, rfl, ⟨rfl, (wes_nil ⟨_, _, _, rfl, rfl, rfl, rfl, (join_ok (m := 23) (by decide +kernel) (by intro p hp; obtain ⟨x, hx, rfl⟩ := List.mem_map.mp hp; exact rowN_len (hC x hx)) (by decide) (by rw [List.length_map]; omega)), ⟨_, rfl, _, (fin_imm (imM (fun _ => rfl)) fin_nil), ?_⟩⟩)⟩⟩
    exact ⟨rfl, rfl⟩
theorem all_snoc {α : Type} [Inhabited α] {M : List α} {x : α} {P : Nat → α → Prop} (h : ∀ j : Nat, j < M.length → P j (geti M (j : Int))) (hx : P M.length x) : ∀ j : Nat, j < (M ++ [x]).length → P j (geti (M ++ [x]) (j : Int)) := by
  intro j hj
  simp only [List.length_append, List.length_cons, List.length_nil] at hj
  by_cases e : j < M.length
  · have : geti (M ++ [x]) (j : Int) = geti M (j : Int) := by
      simp only [geti, Int.toNat_natCast, List.getD_eq_getElem?_getD, List.getElem?_append_left e]
    rw [this]; exact h j e
  · obtain rfl : j = M.length := by omega
    have : geti (M ++ [x]) (M.length : Int) = x := by
      simp only [geti, Int.toNat_natCast, List.getD_eq_getElem?_getD, List.getElem?_append_right (Nat.le_refl _), Nat.sub_self]
      rfl
    rw [this]; exact hx
theorem pick2 {n z : Int} (h : 0 ≤ n ∧ n < 65536) (hz : 0 ≤ z ∧ z < 2) : RowIs (geti [rowN n, cellT n] z) n := by
  obtain rfl | rfl : z = 0 ∨ z = 1 := by omega
  · exact rowN_is h
  · exact .inr ⟨h, rfl⟩
theorem law_ok (ns : List Int) (hn : ns.length ≤ 63) : callF Pr W (k + 4) ("law", none) [(.lst true (ns.map .int))] = .ok (.bl true) [.lst true (ns.map .int)] := by
  refine Ok.eq ?_
  refine call_ok (ρ := ⟨0, [.own (.lst true (ns.map .int)), .no, .no, .no, .no, .no, .no, .no, .no, .no, .no, .no]⟩) g_law rfl (mut_imm rfl mut_nil) rfl ?_
  refine ws_asg (we_call (wes_cons (we_var rfl rfl ⟨rfl, (wes_nil ⟨_, _, _, rfl, rfl, rfl, cells_ ns hn, ?_⟩)⟩)))
  rintro _ _ ⟨C, rfl, rfl, hC8, hCn, hC⟩
  refine ⟨rfl, ⟨0, [_, _, _, _, _, _, _, _, _, _, _, _]⟩, rfl, (wt_nm (.inl rfl) rfl rfl (ρ2 := ⟨0, [_, _, _, _, _, _, _, _, _, _, _, _]⟩) rfl ?_)⟩
  refine ws_asg (we_bmP (we_str ⟨_, rfl, rfl, (wes_cons (we_lcM (α := PySem.Str) D.str (fun i v => v = rowN (geti C (i : Int))) (fun S i ρ => ∃ (s_3 : Slot), ρ = ⟨0, [gS S 0, gS S 1, gS S 2, s_3, gS S 4, gS S 5, gS S 6, gS S 7, gS S 8, gS S 9, gS S 10, gS S 11]⟩ ∧ okI s_3 ∧ (True)) (wi_v (we_var rfl (imM (fun _ => rfl)) ⟨_, _, _, rfl, sq_tl, rfl, ⟨0, [_, _, _, _, _, _, _, _, _, _, _, _]⟩, rfl, ⟨(own_cons rfl rfl (.inl rfl) own_nil), by simp only [Pv.Walk.len]; first | omega | (split <;> omega) | ((try simp only [seti_len, List.length_replicate, List.length_append, List.length_cons, List.length_nil] at *); omega), ⟨_, rfl, (.inl rfl), trivial⟩, (fun _ _ _ ⟨_, hq, _, _⟩ => (by subst hq; exact th_seq rfl sq_tl)), ?_, ?_⟩⟩))))⟩))
  · rintro i _ hi ⟨s_3', rfl, o_3', hI⟩
    dsimp only [gS_zero, gS_succ]
    simp only [Pv.Walk.len] at hi
    have hN := geti_N hC hi
    refine ⟨_, ⟨0, [_, _, _, _, _, _, _, _, _, _, _, _]⟩, (it_seq (enc := D.int) rfl rfl hi rfl), rfl, ?_⟩
    refine (wa_nm (.inl rfl) rfl rfl (ρ2 := ⟨0, [_, _, _, _, _, _, _, _, _, _, _, _]⟩) rfl (we_callE (wes_cons (we_var rfl rfl ⟨rfl, (wes_nil ⟨_, _, _, _, rfl, rfl, rfl, text_ (by omega), rfl, ⟨0, [_, _, _, _, _, _, _, _, _, _, _, _]⟩, rfl, ⟨_, rfl, rfl, ⟨_, rfl, (.inr ⟨_, rfl, rfl⟩), trivial⟩⟩⟩)⟩))))
  · rintro Tx _ Tx_len Tx_all ⟨s_3', rfl, o_3', hI⟩
    dsimp only [gS_zero, gS_succ]
    simp only [Pv.Walk.len] at Tx_len
    obtain rfl : Tx = C.map rowN := list_ext (by simpa using Tx_len) Tx_all
    refine ⟨⟨0, [_, _, _, _, _, _, _, _, _, _, _, _]⟩, rfl, ⟨rfl, (wes_nil ⟨_, _, _, rfl, rfl, rfl, rfl, (join_ok (m := 23) (by decide +kernel) (by intro p hp; obtain ⟨x, hx, rfl⟩ := List.mem_map.mp hp; exact rowN_len (hC x hx)) (by decide) (by rw [List.length_map]; omega)), (wt_nm (.inl rfl) rfl rfl (ρ2 := ⟨0, [_, _, _, _, _, _, _, _, _, _, _, _]⟩) rfl ?_)⟩)⟩⟩
    refine ws_asg (we_bi (wes_cons (we_bi (wes_cons (we_var rfl (imM (fun _ => rfl)) ⟨rfl, (wes_nil ⟨_, _, rfl, (bi_lstT (fun _ => rfl)), ⟨rfl, (wes_nil ⟨_, _, rfl, (bi_tupM (fun _ => rfl)), (wt_nm (.inl rfl) rfl rfl (ρ2 := ⟨0, [_, _, _, _, _, _, _, _, _, _, _, _]⟩) rfl ?_)⟩)⟩⟩)⟩)))))
    refine ws_asg (we_callE (wes_cons (we_var rfl (imM (fun _ => rfl)) ⟨rfl, (wes_nil ⟨_, _, _, _, rfl, rfl, rfl, shown_ hC (by omega), rfl, ⟨0, [_, _, _, _, _, _, _, _, _, _, _, _]⟩, rfl, (wt_nm (.inl rfl) rfl rfl (ρ2 := ⟨0, [_, _, _, _, _, _, _, _, _, _, _, _]⟩) rfl ?_)⟩)⟩)))
    refine ws_ite (we_bop (we_not (we_isi (we_var rfl rfl ⟨_, true, rfl, rfl, ⟨_, _, rfl, rfl, ⟨_, rfl, fun _ => (we_bop (we_cmp (we_var rfl rfl (we_var rfl rfl ⟨_, _, false, two_v, (c_neS (text_eqk hC)), ⟨_, rfl, fun _ => (we_cmp (we_var rfl (imM (fun _ => rfl)) (we_var rfl (imM (fun _ => rfl)) ⟨_, _, false, two_v, (c_neS eqk_T), ⟨_, false, rfl, rfl, (fun h => nomatch h), fun _ => ?_⟩⟩))), (fun h => nomatch h)⟩⟩)))), (fun h => nomatch h)⟩⟩⟩))))
    refine ws_ite (we_cmp (we_callE (wes_cons (we_var rfl rfl ⟨rfl, (wes_nil ⟨_, _, _, _, rfl, rfl, rfl, read_ (Ts := C.map rowN) (Ns := C) (by simp) (by rw [List.length_map]; omega) (by intro j hj; rw [List.length_map] at hj; rw [geti_map hj]; exact rowN_is (geti_N hC hj)), rfl, ⟨0, [_, _, _, _, _, _, _, _, _, _, _, _]⟩, rfl, (we_var rfl (imM (fun _ => rfl)) ⟨_, _, false, two_v, (c_neS eqk_T), ⟨_, false, rfl, rfl, (fun h => nomatch h), fun _ => ?_⟩⟩)⟩)⟩))))
    refine ws_asg (we_lst (wes_nil ⟨_, rfl, (wt_nm (.inl rfl) rfl rfl (ρ2 := ⟨0, [_, _, _, _, _, _, _, _, _, _, _, _]⟩) rfl ?_)⟩) rfl)
    refine ws_for (wi_enuT (we_var rfl (imM (fun _ => rfl)) ⟨_, _, rfl, sq_tl, rfl, ⟨0, [_, _, _, _, _, _, _, _, _, _, _, _]⟩, rfl, ⟨fun S i ρ => ∃ (M : List PySem.Str) (s_7 : Slot) (s_3 : Slot), ρ = ⟨0, [gS S 0, gS S 1, gS S 2, s_3, gS S 4, gS S 5, .own (.lst false (M.map .str)), s_7, gS S 8, gS S 9, gS S 10, gS S 11]⟩ ∧ okI s_7 ∧ okI s_3 ∧ (M.length = i ∧ ∀ j : Nat, j < M.length → RowIs (geti M (j : Int)) (geti C (j : Int))), fun S ρ => False, ⟨[], _, _, rfl, (.inl rfl), (.inl rfl), rfl, (fun j h => absurd h (Nat.not_lt_zero j))⟩, (fun _ _ _ ⟨_, _, _, hq, _, _, _⟩ => (by subst hq; exact th_enut rfl sq_tl)), ?_, (fun _ h => h.elim), ?_⟩⟩))
    · rintro i _ hi ⟨M, s_7, s_3, rfl, o_7, o_3, ⟨hMl, hM⟩⟩
      dsimp only [gS_zero, gS_succ]
      simp only [Pv.Walk.len] at hi
      have hN := geti_N hC hi
      have hN0 : 0 ≤ geti C 0 ∧ geti C 0 < 65536 := geti_N hC (i := 0) (by omega)
      refine ⟨_, (it_enut (enc := D.int) rfl rfl hi rfl), ?_⟩
      refine (wa_tp rfl rfl (wn_cons o_7.s rfl rfl (ρ2 := ⟨0, [_, _, _, _, _, _, _, _, _, _, _, _]⟩) rfl (wn_cons o_3.s rfl rfl (ρ2 := ⟨0, [_, _, _, _, _, _, _, _, _, _, _, _]⟩) rfl (wn_nil ?_))))
      refine ws_expr (we_bmD (we_varp rfl rfl ⟨_, _, _, rfl, rfl, rfl, (wes_cons (we_idx (we_lst (wes_cons (we_callE (wes_cons (we_var rfl rfl ⟨rfl, (wes_nil ⟨_, _, _, _, rfl, rfl, rfl, text_ (by omega), rfl, ⟨0, [_, _, _, _, _, _, _, _, _, _, _, _]⟩, rfl, ⟨rfl, (wes_cons (we_bin (we_str (we_bi (wes_cons (we_var rfl rfl ⟨rfl, (wes_nil ⟨_, _, rfl, (bi_str (by first | omega | (split <;> omega) | ((try simp only [seti_len, List.length_replicate, List.length_append, List.length_cons, List.length_nil] at *); omega))), ⟨_, _, _, two_v, (cell_add (by omega)), ⟨rfl, (wes_nil ⟨_, (wv rfl (wv rfl rfl)), (we_bin (we_bin (we_var rfl rfl (we_bin (we_var rfl rfl (we_idx (we_var rfl (imM (fun _ => rfl)) (we_int ⟨_, _, _, _, two_v, rfl, ix_tl (by first | omega | (split <;> omega) | ((try simp only [seti_len, List.length_replicate, List.length_append, List.length_cons, List.length_nil] at *); omega)), part_v, ⟨_, _, _, two_v, (b_mulI (by first | omega | (split <;> omega) | ((try simp only [seti_len, List.length_replicate, List.length_append, List.length_cons, List.length_nil] at *); omega)) (by first | omega | (split <;> omega) | ((try simp only [seti_len, List.length_replicate, List.length_append, List.length_cons, List.length_nil] at *); omega))), ⟨_, _, _, two_v, b_addI, (we_int ⟨_, _, _, two_v, (b_modI (by first | omega | (split <;> omega) | ((try simp only [seti_len, List.length_replicate, List.length_append, List.length_cons, List.length_nil] at *); omega))), ⟨_, _, _, _, two_v, rfl, ix_ll (enc := D.str) (l := [_, _]) (by simp only [List.length_cons, List.length_nil]; first | (first | omega | (split <;> omega) | ((try simp only [seti_len, List.length_replicate, List.length_append, List.length_cons, List.length_nil] at *); omega)) | (split <;> first | omega | (split <;> omega) | ((try simp only [seti_len, List.length_replicate, List.length_append, List.length_cons, List.length_nil] at *); omega))), part_v, ⟨rfl, (wes_nil ⟨_, _, _, _, rfl, rfl, rfl, (wv rfl rfl), bm_app (enc := D.str) (by first | omega | (split <;> omega) | ((try simp only [seti_len, List.length_replicate, List.length_append, List.length_cons, List.length_nil] at *); omega)), ⟨0, [_, _, _, _, _, _, _, _, _, _, _, _]⟩, rfl, ?_⟩)⟩⟩⟩)⟩⟩⟩))))))))⟩)⟩⟩⟩)⟩))))))⟩⟩)⟩)))) rfl)))⟩))
      exact ws_nil ⟨_, _, _, rfl, (.inr ⟨_, rfl, rfl⟩), (.inr ⟨_, rfl, rfl⟩), (by simp [hMl]), all_snoc (P := fun j x => RowIs x (geti C (j : Int))) hM (by rw [hMl]; exact pick2 hN (by omega))⟩
    · rintro _ ⟨M, s_7, s_3, rfl, o_7, o_3, ⟨hMl, hM⟩⟩
      dsimp only [gS_zero, gS_succ]
      simp only [Pv.Walk.len] at hMl
      have hMn : ∀ p ∈ M, p.length ≤ 23 := fun p hp => (rows_nl hM p hp).1
      refine ⟨⟨0, [_, _, _, _, _, _, _, _, _, _, _, _]⟩, rfl, ?_⟩
      refine ws_asg (we_bin (we_int (we_modA (we_idx (we_var rfl (imM (fun _ => rfl)) (we_neg (we_int ⟨_, rfl, ⟨_, _, _, _, two_v, rfl, ix_tlN (by first | omega | (split <;> omega) | ((try simp only [seti_len, List.length_replicate, List.length_append, List.length_cons, List.length_nil] at *); omega)), part_v, (we_bi (wes_cons (we_var rfl (imM (fun _ => rfl)) ⟨rfl, (wes_nil ⟨_, _, rfl, bi_lenT, ⟨_, _, rfl, rfl, by first | omega | (split <;> omega) | ((try simp only [seti_len, List.length_replicate, List.length_append, List.length_cons, List.length_nil] at *); omega), fun m_1 h_1 => ⟨_, _, _, two_v, b_addI, (wt_nm (.inl rfl) rfl rfl (ρ2 := ⟨0, [_, _, _, _, _, _, _, _, _, _, _, _]⟩) rfl ?_)⟩⟩⟩)⟩)))⟩⟩)))))))
      refine ws_ite (we_bop (we_cmp (we_callE (wes_cons (we_callE (wes_cons (we_bmP (we_str ⟨_, rfl, rfl, (wes_cons (we_varp rfl rfl ⟨rfl, (wes_nil ⟨_, _, _, rfl, rfl, rfl, rfl, (join_ok (L := M) (m := 23) (by decide +kernel) hMn (by decide) (by omega)), ⟨rfl, (wes_nil ⟨_, _, _, _, rfl, rfl, rfl, read_ (Ts := M) (Ns := C) (by omega) (by omega) hM, rfl, ⟨0, [_, _, _, _, _, _, _, _, _, _, _, _]⟩, rfl, ⟨rfl, (wes_nil ⟨_, _, _, _, rfl, rfl, rfl, shown_ hC (by omega), rfl, ⟨0, [_, _, _, _, _, _, _, _, _, _, _, _]⟩, rfl, (we_var rfl rfl ⟨_, _, false, two_v, (c_neS (text_eqk hC)), ⟨_, rfl, fun _ => (we_cmp (we_callE (wes_cons (we_bmP (we_str ⟨_, rfl, rfl, (wes_cons (we_sli (we_varp rfl rfl (wp_nil (wp_one (we_var rfl rfl ⟨_, rfl, ⟨_, _, rfl, rfl, sl_toL (fun _ => rfl) (by first | omega | (split <;> omega) | ((try simp only [seti_len, List.length_replicate, List.length_append, List.length_cons, List.length_nil] at *); omega)), ⟨rfl, (wes_nil ⟨_, _, _, rfl, rfl, rfl, rfl, (join_ok (L := takei M _) (m := 23) (by decide +kernel) (fun p hp => hMn p (List.mem_of_mem_take hp)) (by decide) (by simp only [takei, List.length_take]; omega)), ⟨rfl, (wes_nil ⟨_, _, _, _, rfl, rfl, rfl, read_ (Ts := takei M _) (Ns := takei C _) (by simp only [takei, List.length_take]; omega) (by simp only [takei, List.length_take]; omega) (by intro j hj; rw [geti_take hj, geti_take (by simp only [takei, List.length_take] at hj ⊢; omega)]; exact hM j (by simp only [takei, List.length_take] at hj; omega)), rfl, ⟨0, [_, _, _, _, _, _, _, _, _, _, _, _]⟩, rfl, (we_sli (we_var rfl (imM (fun _ => rfl)) (wp_nil (wp_one (we_var rfl rfl ⟨_, rfl, ⟨_, _, rfl, rfl, sl_to (fun _ => rfl) (by first | omega | (split <;> omega) | ((try simp only [seti_len, List.length_replicate, List.length_append, List.length_cons, List.length_nil] at *); omega)), ⟨_, _, false, two_v, (c_neS eqk_T), ⟨_, false, rfl, rfl, (fun h => nomatch h), fun _ => ?_⟩⟩⟩⟩)))))⟩)⟩⟩)⟩⟩⟩))))))⟩))))), (fun h => nomatch h)⟩⟩)⟩)⟩⟩)⟩⟩)⟩))⟩))))))))
      refine ws_ret (we_cmp (we_bi (wes_cons (we_lcM (α := Int) D.int (fun i v => v = geti C (i : Int)) (fun S i ρ => ∃ (s_3 : Slot), ρ = ⟨0, [gS S 0, gS S 1, gS S 2, s_3, gS S 4, gS S 5, gS S 6, gS S 7, gS S 8, gS S 9, gS S 10, gS S 11]⟩ ∧ okI s_3 ∧ (True)) (wi_v (we_var rfl (imM (fun _ => rfl)) ⟨_, _, _, rfl, sq_tl, rfl, ⟨0, [_, _, _, _, _, _, _, _, _, _, _, _]⟩, rfl, ⟨(own_cons rfl rfl o_3 own_nil), by simp only [Pv.Walk.len]; first | omega | (split <;> omega) | ((try simp only [seti_len, List.length_replicate, List.length_append, List.length_cons, List.length_nil] at *); omega), ⟨_, rfl, (.inl rfl), trivial⟩, (fun _ _ _ ⟨_, hq, _, _⟩ => (by subst hq; exact th_seq rfl sq_tl)), ?_, ?_⟩⟩))))))
      · rintro i _ hi ⟨s_3', rfl, o_3', hI⟩
        dsimp only [gS_zero, gS_succ]
        simp only [Pv.Walk.len] at hi
        have hN := geti_N hC hi
        refine ⟨_, ⟨0, [_, _, _, _, _, _, _, _, _, _, _, _]⟩, (it_seq (enc := D.int) rfl rfl hi rfl), rfl, ?_⟩
        refine (wa_nm (.inl rfl) rfl rfl (ρ2 := ⟨0, [_, _, _, _, _, _, _, _, _, _, _, _]⟩) rfl (we_callE (wes_cons (we_callE (wes_cons (we_var rfl rfl ⟨rfl, (wes_nil ⟨_, _, _, _, rfl, rfl, rfl, set_out_ (by omega), rfl, ⟨0, [_, _, _, _, _, _, _, _, _, _, _, _]⟩, rfl, ⟨rfl, (wes_nil ⟨_, _, _, _, rfl, rfl, rfl, number_of_ (by omega) (by omega), rfl, ⟨0, [_, _, _, _, _, _, _, _, _, _, _, _]⟩, rfl, ⟨_, rfl, (by omega), ⟨_, rfl, (.inr ⟨_, rfl, rfl⟩), trivial⟩⟩⟩)⟩⟩)⟩))))))
      · rintro Nz _ Nz_len Nz_all ⟨s_3', rfl, o_3', hI⟩
        dsimp only [gS_zero, gS_succ]
        simp only [Pv.Walk.len] at Nz_len
        obtain rfl : Nz = C := (list_ext (f := id) (by simpa using Nz_len) Nz_all).trans (List.map_id C)
        refine ⟨⟨0, [_, _, _, _, _, _, _, _, _, _, _, _]⟩, rfl, ⟨rfl, (wes_nil ⟨_, _, rfl, (bi_tupM (fun _ => rfl)), (we_var rfl (imM (fun _ => rfl)) ⟨_, _, true, two_v, (c_eqS eqk_T), ⟨_, rfl, _, (fin_imm rfl fin_nil), ?_⟩⟩)⟩)⟩⟩
        exact ⟨rfl, rfl⟩
theorem pure (ns : List Int) (hn : ns.length ≤ 63) : ∃ e, callF Pr 0 4 ("law", none) [.lst true (ns.map .int)] = .ok (.bl true) [e] := ⟨_, law_ok (W := 0) (k := 0) ns hn⟩
end K04

set_option maxHeartbeats 2000000
open PySem PySem.W PySem.Calls PyProof.Rows
theorem PySem.Challenge.cw_asitruns_k04_whole_shown_and_read_holds : PySem.Challenge.rw_asitruns_k04_whole_shown_and_read.Holds := by
  w_on; o_law
  refine HandSHeadRun.head_any (r := OpenLaw.row PySem.Challenge.rw_asitruns_k04_whole_shown_and_read) (q := view (OpenLaw.row PySem.Challenge.rw_asitruns_k04_whole_shown_and_read).prog [17]) (H := K04.hk) (ob := K04.ob) (M := 1500) (loose := K04.loose) (d := HandSHeadRun.topDef (OpenLaw.row PySem.Challenge.rw_asitruns_k04_whole_shown_and_read).prog 17) (kwd := []) K04.ob_eq
    (by kernel_rfl) (fun s => by kernel_rfl) K04.run (by kernel_rfl) (by kernel_rfl) (by kernel_rfl) (by rfl) (by first | assumption | decide +kernel) (by decide +kernel) ⟨rfl, rfl, rfl, rfl, rfl, by decide +kernel⟩ ?hw ?hc
  case hw => w_witness2
  case hc =>
    refine L2.walk_ofE (l := PySem.Challenge.rw_asitruns_k04_whole_shown_and_read) (n := 63) (k := 4) (x := "script") (CX := L2.CX0) rfl (by decide) (by kernel_rfl) ⟨rfl, by decide, by decide⟩ ?F (fun _ _ _ _ z => z)
    intro w mg fa h Y G hmg0
    obtain ⟨K, KX, c⟩ := Y
    have hmg : mg ("law" : PySem.Str) = some (.ref fa) := by
      have e : (HandSHeadRun.topDef (OpenLaw.row PySem.Challenge.rw_asitruns_k04_whole_shown_and_read).prog 17).name = ("law" : PySem.Str) := by kernel_rfl
      rw [← e]
      exact hmg0
    have M := Pv.modOk (tab := K04.tab) (fs := K04.fs) KX G c K04.chk K04.binds
    obtain ⟨fd, sp, hb, hsp, hF⟩ := Pv.lawF (P := (PySem.Challenge.rw_asitruns_k04_whole_shown_and_read).prog) (w := w) (W := 0) (k := 4) (m := 63) (x := "script") M K04.g_law (by kernel_rfl) hmg K04.pure
    exact ⟨K, fd, sp, KX, hb, fun H a ns hl _ hS => hsp H a ns hl hS, fun base _ _ => hF base⟩

