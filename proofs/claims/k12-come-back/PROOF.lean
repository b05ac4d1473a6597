import PyProof.Rows.All
import Wide.All
import OpenK.AllK
import Wide.FinOn
import HandS.ForMost
import HandS.IsInst
import HandS.WordsExc
import HandS.TryOnly
import HandS.Conv
import HandS.Iter
import HandS.Wide
import HandS.TupLe
import HandS.TupMul
import HandS.SortInts
import HandS.Text
import HandS.Zip
import HandS.SetFor
import HandS.RaiseMore
import KE.DataMinMax
import KE.KTupSum
import HandS.Strs
import KE.GoesEnum
import PySem.Challenge.RW_gatewarden_k12_whole_packets_come_back
set_option Elab.async false
set_option linter.all false
set_option maxRecDepth 100000
set_option autoImplicit false
/-! GW, part 1: a small language by slots, and what it means over plain data. -/
namespace GW
open PySem
abbrev D := PyData

/-- what a slot may hold: a value that never changes, an own list, an own dict -/
inductive O where
  | fz (d : D) | ls (ds : List D) | dc (kvs : List (D × D))
def O.toD : O → D
  | .fz d => d | .ls ds => .list ds | .dc kvs => .dict kvs
def noneB : O → Bool
  | .fz .none => true | _ => false
def O.own : O → Bool
  | .fz _ => false | _ => true
/-- a slot: nothing is known; hidden while its list is walked; a local's value; a parameter's, still the object that was handed in -/
inductive Sl where
  | un | hd | lo (o : O) | pa (o : O)
def Sl.get : Sl → Option O
  | .un => none | .hd => none | .lo o => some o | .pa o => some o
def Sl.put : Sl → O → Sl
  | .un, _ => .un | .hd, _ => .hd | .lo _, o => .lo o | .pa _, o => .pa o
abbrev Fm := List Sl
def rd (ρ : Fm) (i : Nat) : Option O := (ρ[i]?).bind Sl.get
/-- the content of slot i is another one (the same object) -/
def putO (ρ : Fm) (i : Nat) (o : O) : Fm := match ρ[i]? with
  | some s => ρ.set i (s.put o) | none => ρ
def unS (ρ : Fm) (i : Nat) : Fm := ρ.set i .un
def loS (ρ : Fm) (i : Nat) (o : O) : Fm := ρ.set i (.lo o)
def kill : List Nat → Fm → Fm
  | [], ρ => ρ
  | i :: r, ρ => kill r (unS ρ i)
/-- an error: the number of its class, its field -/
structure Er where
  c : Nat
  v : Option D

inductive Res (α : Type) where
  | ok (a : α) (ρ : Fm) | ex (e : Er) (ρ : Fm) | bad
def Res.bind {α β : Type} : Res α → (α → Fm → Res β) → Res β
  | .ok a ρ, f => f a ρ | .ex e ρ, _ => .ex e ρ | .bad, _ => .bad
def ofO {α : Type} (x : Option α) (ρ : Fm) : Res α := match x with
  | some a => .ok a ρ | none => .bad
/-- behind a call: the value, what became of the arguments' objects -/
inductive CR where
  | ok (o : O) (ps : List (Option O)) | ex (e : Er) (ps : List (Option O)) | bad
/-- behind a statement -/
inductive SR where
  | nx (ρ : Fm) | rt (o : O) (ρ : Fm) | bk (ρ : Fm) | ct (ρ : Fm) | ex (e : Er) (ρ : Fm) | bad
def SR.seq : SR → (Fm → SR) → SR
  | .nx ρ, f => f ρ | .rt o ρ, _ => .rt o ρ | .bk ρ, _ => .bk ρ | .ct ρ, _ => .ct ρ | .ex e ρ, _ => .ex e ρ | .bad, _ => .bad
def Res.st {α : Type} : Res α → (α → Fm → SR) → SR
  | .ok a ρ, f => f a ρ | .ex e ρ, _ => .ex e ρ | .bad, _ => .bad

/-! ### operators -/
inductive BOp where
  | add | sub | mul | fdiv | mod | band
inductive COp where
  | eq | ne | lt | le | gt | ge | isin | notin
inductive Ty where
  | tInt | tBool | tStr | tTup | tList
inductive Bi where
  | len | list | tuple | sum | all | any | int | abs | min | max | repr | sorted | sset | lset
def items : O → Option (List D)
  | .ls ds => some ds | .fz (.list ds) => some ds | .fz (.tuple ds) => some ds | _ => none
def litems : O → Option (List D)
  | .ls ds => some ds | .fz (.list ds) => some ds | _ => none
def intsF : List D → Option (List Int)
  | [] => some []
  | .int i :: r => (intsF r).map (i :: ·)
  | _ => none
def boolsF : List D → Option (List Bool)
  | [] => some []
  | .bool i :: r => (boolsF r).map (i :: ·)
  | _ => none
def wee (i : Int) : Bool := decide (-(2 ^ 64) < i ∧ i < 2 ^ 64)
def fits (n : Nat) : Bool := decide (n ≤ 16777216)
/-- a ordered before b: the order of intsF -/
def leI (a b : Int) : Bool := decide (a ≤ b)
/-- a before b, two rows of ints -/
def ltL : List Int → List Int → Bool
  | _, [] => false
  | [], _ :: _ => true
  | a :: x, b :: y => if a = b then ltL x y else decide (a < b)
/-- a text, k times -/
def repS (z : Str) (k : Int) : Str := if k < 1 then Str.empty else if (k == 1 || z.length == 0) = true then z else ⟨(List.replicate k.toNat z.cps).foldl (· ++ ·) #[]⟩
/-- the signs of a text -/
def sg1 (c : Nat) : D := .str ⟨#[c]⟩
def signs (z : Str) : List D := z.cps.toList.map sg1
/-- one sign in a text -/
def sinF (x : D) (z : Str) : Option Bool := match x with
  | .str a => (match a.cps.toList with | [c] => some (decide (c ∈ z.cps.toList)) | _ => none)
  | _ => none
def binF : BOp → O → O → Option O
  | .add, .fz (.int a), .fz (.int b) => some (.fz (.int (a + b)))
  | .add, .fz (.str a), .fz (.str b) => if fits (a.length + b.length) then some (.fz (.str (a ++ b))) else none
  | .add, .fz (.tuple a), .fz (.tuple b) => if fits (a.length + b.length) then some (.fz (.tuple (a ++ b))) else none
  | .add, a, b => match litems a, litems b with
    | some x, some y => if fits (x.length + y.length) then some (.ls (x ++ y)) else none
    | _, _ => none
  | .sub, .fz (.int a), .fz (.int b) => some (.fz (.int (a - b)))
  | .mul, .fz (.int a), .fz (.int b) => if wee a || wee b then some (.fz (.int (a * b))) else none
  | .mul, .fz (.tuple xs), .fz (.int k) => if decide (0 ≤ k ∧ k ≤ 1000000) && !xs.isEmpty && decide (xs.length * k.toNat ≤ 1000000) then some (.fz (.tuple (List.replicate k.toNat xs).flatten)) else none
  | .mul, .fz (.str z), .fz (.int k) => if decide (-(2 ^ 63) ≤ k ∧ k < 2 ^ 63) && fits (z.length * k.toNat) then some (.fz (.str (repS z k))) else none
  | .mul, .ls xs, .fz (.int k) => if decide (-(2 ^ 63) ≤ k ∧ k < 2 ^ 63) && fits (xs.length * k.toNat) then some (.ls (List.replicate k.toNat xs).flatten) else none
  | .fdiv, .fz (.int a), .fz (.int b) => if decide (0 < b ∧ b < 18446744073709551616) then some (.fz (.int (a / b))) else none
  | .mod, .fz (.int a), .fz (.int b) => if decide (0 < b) then some (.fz (.int (a % b))) else none
  | .band, .fz (.int a), .fz (.int b) => some (.fz (.int (Builtin.bitAnd a b)))
  | _, _, _ => none
/-- == -/
def eqF : D → D → Option Bool
  | .str a, .str b => some (decide (a = b))
  | a, b => if SeqAt.shaped a && SeqAt.shaped b then some (PyData.eqv a b) else none
/-- in, over items -/
def inF (x : D) (ds : List D) : Option Bool :=
  if SeqAt.shaped x && ds.all SeqAt.shaped then some (ds.any fun y => PyData.eqv y x) else none
def cmpF : COp → O → O → Option Bool
  | .eq, a, b => eqF a.toD b.toD
  | .ne, a, b => (eqF a.toD b.toD).map (!·)
  | .lt, .fz (.int a), .fz (.int b) => some (decide (a < b))
  | .le, .fz (.int a), .fz (.int b) => some (decide (a ≤ b))
  | .gt, .fz (.int a), .fz (.int b) => some (decide (b < a))
  | .ge, .fz (.int a), .fz (.int b) => some (decide (b ≤ a))
  | .lt, .fz (.tuple a), .fz (.tuple b) => (intsF a).bind fun x => (intsF b).map fun y => ltL x y
  | .le, .fz (.tuple a), .fz (.tuple b) => (intsF a).bind fun x => (intsF b).map fun y => !ltL y x
  | .gt, .fz (.tuple a), .fz (.tuple b) => (intsF a).bind fun x => (intsF b).map fun y => ltL y x
  | .ge, .fz (.tuple a), .fz (.tuple b) => (intsF a).bind fun x => (intsF b).map fun y => !ltL x y
  | .isin, .fz x, b => (match b with | .fz (.str z) => sinF x z | b => (items b).bind (inF x))
  | .notin, .fz x, b => (match b with | .fz (.str z) => sinF x z | b => (items b).bind (inF x)).map (!·)
  | _, _, _ => none
def truF : O → Option Bool
  | .fz .none => some false
  | .fz (.bool b) => some b
  | .fz (.int i) => some (i != 0)
  | .fz (.list ds) => some (!ds.isEmpty)
  | .fz (.tuple ds) => some (!ds.isEmpty)
  | .ls ds => some (!ds.isEmpty)
  | _ => none
def isiF : Ty → O → Option Bool
  | t, .fz .none => some false
  | .tInt, .fz (.bool _) => some true
  | t, .fz (.bool _) => some (match t with | .tBool => true | _ => false)
  | t, .fz (.int _) => some (match t with | .tInt => true | _ => false)
  | t, .fz (.str _) => some (match t with | .tStr => true | _ => false)
  | t, .fz (.tuple _) => some (match t with | .tTup => true | _ => false)
  | t, .fz (.list _) => some (match t with | .tList => true | _ => false)
  | t, .ls _ => some (match t with | .tList => true | _ => false)
  | _, _ => none
def ixF (o i : O) : Option D := match i with
  | .fz (.int k) => (match o with | .fz (.str z) => if fits z.length then (L2.atI z.cps.toList k).map sg1 else none | o => (items o).bind fun ds => L2.atI ds k)
  | _ => none
def cutL (xs : List D) (lo hi : Option Int) : List D := (xs.drop (HT.sIx xs.length 0 lo)).take (HT.sIx xs.length xs.length hi - HT.sIx xs.length 0 lo)
def cutF (o : O) (lo hi : Option Int) : Option O := match o with
  | .ls ds => some (.ls (cutL ds lo hi))
  | .fz (.list ds) => some (.ls (cutL ds lo hi))
  | .fz (.tuple ds) => some (.fz (.tuple (cutL ds lo hi)))
  | .fz (.str z) => if fits z.length then some (.fz (.str (L2.cutS z lo hi))) else none
  | _ => none
/-- sorted, of intsF; each once -/
def insI (a : Int) : List Int → List Int
  | [] => [a]
  | b :: r => if a ≤ b then a :: b :: r else b :: insI a r
def sortI : List Int → List Int
  | [] => []
  | a :: r => insI a (sortI r)
/-- sorted, of pairs of ints -/
def pairsF : List D → Option (List (Int × Int))
  | [] => some []
  | .tuple [.int a, .int b] :: r => (pairsF r).map ((a, b) :: ·)
  | _ => none
def pairD (p : Int × Int) : D := .tuple [.int p.1, .int p.2]
def leP (p q : Int × Int) : Bool := if p.1 = q.1 then decide (p.2 ≤ q.2) else decide (p.1 < q.1)
def insP (a : Int × Int) : List (Int × Int) → List (Int × Int)
  | [] => [a]
  | b :: r => if leP a b then a :: b :: r else b :: insP a r
def sortP : List (Int × Int) → List (Int × Int)
  | [] => []
  | a :: r => insP a (sortP r)
/-- sorted(set(..)), of ints -/
def insU (a : Int) : List Int → List Int
  | [] => [a]
  | b :: r => if a < b then a :: b :: r else if a = b then b :: r else b :: insU a r
def uniI : List Int → List Int
  | [] => []
  | a :: r => insU a (uniI r)
def ssF (o : O) : Option O := ((litems o).bind intsF).bind fun ns => if ns.length + 1 < 4096 then some (.ls ((uniI ns).map PyData.int)) else none
/-- .index(x), the items texts -/
def strsF : List D → Option (List Str)
  | [] => some []
  | .str i :: r => (strsF r).map (i :: ·)
  | _ => none
def idxF (a b : O) : Option O := match b with
  | .fz (.str z) => ((litems a).bind strsF).bind fun ys => if decide (z ∈ ys) then some (.fz (.int (ys.idxOf z : Nat))) else none
  | _ => none
/-- the place of a text in a row of texts -/
def idxS (ys : List Str) : O → Option O
  | .fz (.str z) => if decide (z ∈ ys) then some (.fz (.int (ys.idxOf z : Nat))) else none
  | _ => none
/-- a row of texts, each once -/
def putS (l : List Str) (z : Str) : List Str := if l.any (· == z) then l else l ++ [z]
def dedS (ns : List Str) : List Str := ns.foldl putS []
/-- len(set(..)), of texts -/
def lsetF (o : O) : Option O := ((litems o).bind strsF).bind fun ns => if ns.length + 1 < 4096 then some (.fz (.int ((dedS ns).length : Nat))) else none
/-- x[::-1] of a tuple -/
def revF : O → Option O
  | .fz (.tuple ds) => some (.fz (.tuple ds.reverse))
  | _ => none
/-- what repr can show -/
def shw (d : D) : Bool := d.showable && !d.hasDict && decide (d.depth ≤ 64) && decide (d.shown.length ≤ 16777216)
def biF : Bi → List O → Option O
  | .len, [.fz (.str z)] => if fits z.length then some (.fz (.int z.length)) else none
  | .len, [o] => (items o).map fun ds => .fz (.int ds.length)
  | .list, [o] => (items o).map .ls
  | .tuple, [o] => (items o).map fun ds => .fz (.tuple ds)
  | .sum, [o] => ((items o).bind intsF).map fun ns => .fz (.int ns.sum)
  | .all, [o] => ((litems o).bind boolsF).map fun bs => .fz (.bool (bs.all id))
  | .any, [o] => ((litems o).bind boolsF).map fun bs => .fz (.bool (bs.any id))
  | .int, [.fz (.int i)] => some (.fz (.int i))
  | .int, [.fz (.bool b)] => some (.fz (.int (if b then 1 else 0)))
  | .abs, [.fz (.int i)] => some (.fz (.int (if i < 0 then -i else i)))
  | .min, [.fz (.int a), .fz (.int b)] => some (.fz (.int (if b < a then b else a)))
  | .max, [.fz (.int a), .fz (.int b)] => some (.fz (.int (if b > a then b else a)))
  | .min, [.fz (.tuple a), .fz (.tuple b)] => (intsF a).bind fun x => (intsF b).map fun y => .fz (.tuple (if ltL y x then b else a))
  | .max, [.fz (.tuple a), .fz (.tuple b)] => (intsF a).bind fun x => (intsF b).map fun y => .fz (.tuple (if ltL x y then b else a))
  | .repr, [o] => if shw o.toD then some (.fz (.str o.toD.shown)) else none
  | .sorted, [o] => match (litems o).bind intsF with
    | some ns => some (.ls ((sortI ns).map PyData.int))
    | none => ((litems o).bind pairsF).map fun ps => .ls ((sortP ps).map pairD)
  | _, _ => none

/-! ### the language -/
mutual
inductive Tg where
  | nm (i : Nat) | tp (ts : Tgs)
inductive Tgs where
  | nil | cons (t : Tg) (ts : Tgs)
end
mutual
inductive IE where
  | loc (i : Nat) | con (d : D) | glo (x : Str) (d : D)
  | tup (es : IEs) | lst (es : IEs)
  | bin (op : BOp) (a b : IE) | neg (a : IE) | not (a : IE)
  | cmp (op : COp) (a b : IE) | cmp2 (p q : COp) (a b c : IE)
  | isN (a : IE) | notN (a : IE)
  | and (a b : IE) | or (a b : IE)
  | ife (c a b : IE)
  | sub (a b : IE) | slc (a : IE) (lo hi : IEo)
  | call (f : Nat) (args : IEs)
  | bi (b : Bi) (args : IEs)
  | isi (a : IE) (t : Ty)
  | lrg1 (a : IE) | lrg2 (a b : IE)
  | lc (elt : IE) (tg : Tg) (it : II) (cnd : IEo) (vs : List Nat)
  | dget (ps : IPs) (e f : IE)
  | sset (a : IE)
  | lset (a : IE)
  | rev (a : IE)
  | idx (a b : IE)
  | fidx (f : Nat) (ys : List Str) (e : IE)
inductive IPs where
  | nil | cons (k v : IE) (r : IPs)
inductive IEs where
  | nil | cons (e : IE) (es : IEs)
inductive IEo where
  | no | so (e : IE)
inductive II where
  | val (e : IE) | txt (e : IE) | lok (i : Nat) | rng1 (a : IE) | rng2 (a b : IE) | rng3 (a b c : IE) | zip (a b : IE)
end
mutual
inductive IS where
  | asg (i : Nat) (e : IE) | asgT (t : Tg) (e : IE)
  | aug (i : Nat) (op : BOp) (e : IE)
  | seti (x : Nat) (k e : IE)
  | app (x : Nat) (e : IE)
  | ext (x : Nat) (e : IE)
  | exp (e : IE) | ret (e : IE) | retn
  | iff (c : IE) (a b : ISs)
  | fr (t : Tg) (it : II) (b : ISs) (ks : List Nat)
  | wh (c : IE) (b : ISs) (ks : List Nat)
  | brk | cnt | pas | nev
inductive ISs where
  | nil | cons (s : IS) (ss : ISs) | kil (ks : List Nat) (ss : ISs)
end

/-! ### what it means -/
mutual
def asgF : Tg → D → Fm → Option Fm
  | .nm i, d, ρ => some (loS ρ i (.fz d))
  | .tp ts, .tuple ds, ρ => asgsF ts ds ρ
  | .tp _, _, _ => none
def asgsF : Tgs → List D → Fm → Option Fm
  | .nil, [], ρ => some ρ
  | .cons t ts, d :: ds, ρ => (asgF t d ρ).bind (asgsF ts ds)
  | _, _, _ => none
end
/-- an argument: a slot's name, looked at late; or a value -/
inductive AV where
  | sl (i : Nat) | o (x : O)
def AV.val : AV → Fm → Option O
  | .sl i, ρ => rd ρ i
  | .o x, _ => some x
def prep (e : IE) (r : Fm → Res O) (ρ : Fm) : Res AV := match e with
  | .loc i => if (rd ρ i).isSome then .ok (.sl i) ρ else .bad
  | _ => (r ρ).bind fun x ρ' => .ok (.o x) ρ'
/-- a test -/
def tst (e : IE) (r : Fm → Res O) (ρ : Fm) : Res Bool := match e with
  | .loc i => ofO ((rd ρ i).bind truF) ρ
  | _ => (r ρ).bind fun x ρ' => ofO (truF x) ρ'
/-- a slot read for good: an own thing there never changes from here on -/
def evLoc (i : Nat) (ρ : Fm) : Res O := match rd ρ i with
  | some (.fz d) => .ok (.fz d) ρ
  | some (.ls ds) => .ok (.fz (.list ds)) (putO ρ i (.fz (.list ds)))
  | _ => .bad
/-- a value that is put into another thing never changes -/
def frz (r : Res O) : Res D := r.bind fun o ρ => match o with
  | .fz d => .ok d ρ | .ls ds => .ok (.list ds) ρ | .dc _ => .bad
/-- the arguments are lent -/
def lend : List AV → Fm → Option (List O × Fm)
  | [], ρ => some ([], ρ)
  | .o x :: r, ρ => (lend r ρ).map fun p => (x :: p.1, p.2)
  | .sl i :: r, ρ => match rd ρ i with
    | some (.fz d) => (lend r ρ).map fun p => (.fz d :: p.1, p.2)
    | some x => (lend r (unS ρ i)).map fun p => (x :: p.1, p.2)
    | none => none
/-- .. and given back: ρ0 the frame ahead of lending -/
def back (ρ0 : Fm) : List AV → List (Option O) → Fm → Fm
  | .sl i :: r, p :: ps, ρ => match ρ0[i]?, rd ρ0 i, p with
    | _, some (.fz _), _ => back ρ0 r ps ρ
    | some s, _, some x => back ρ0 r ps (ρ.set i (s.put x))
    | _, _, _ => back ρ0 r ps ρ
  | .o _ :: r, _ :: ps, ρ => back ρ0 r ps ρ
  | _, _, ρ => ρ
def called (avs : List AV) (ρ0 ρ : Fm) : CR → Res O
  | .ok o ps => .ok o (back ρ0 avs ps ρ)
  | .ex e ps => .ex e (back ρ0 avs ps ρ)
  | .bad => .bad
/-- the items of a comprehension, one after another -/
def lcLoop (step : D → Fm → Res (Option D)) : List D → List D → Fm → Res (List D)
  | [], acc, ρ => .ok acc ρ
  | d :: ds, acc, ρ => (step d ρ).bind fun o ρ' => match o with
    | some x => if acc.length < 16777216 then lcLoop step ds (acc ++ [x]) ρ' else .bad
    | none => lcLoop step ds acc ρ'
/-- the slots of a block's own names, hidden and shown again -/
def shown (ρ0 : Fm) : List Nat → Fm → Fm
  | [], ρ => ρ
  | i :: r, ρ => shown ρ0 r (match ρ0[i]? with | some s => ρ.set i s | none => ρ)
def noEx {α : Type} : Res α → Res α
  | .ex _ _ => .bad | r => r
@[irreducible] def rngOk (i : Int) : Bool := decide (-(2 ^ 62) ≤ i ∧ i < 2 ^ 62)
def rngD (lo : Int) (n : Nat) : List D := (List.range n).map fun k => .int (lo + (k : Nat))
def rngC (lo c : Int) (n : Nat) : List D := (List.range n).map fun k => .int (lo + (k : Nat) * c)
def rg3Ok (i j c : Int) : Bool := decide (c ≠ 0) && decide (c.natAbs < 1073741824) && Builtin.Range.small i j c && decide (Builtin.Range.rangeSize i j c = ((Builtin.Range.rangeSize i j c).toNat : Int))
def lrgOk (a b : Int) : Bool := rngOk a && rngOk b && fits (b - a).toNat
def vals : List AV → Fm → Option (List O)
  | [], _ => some []
  | a :: r, ρ => (a.val ρ).bind fun x => (vals r ρ).map (x :: ·)
/-- a value that must be a bool -/
def asB {β : Type} (r : Res O) (f : Bool → Fm → Res β) : Res β := r.bind fun o ρ => match o with
  | .fz (.bool c) => f c ρ | _ => .bad
/-- a list that is walked by its slot's name is hidden while it is walked -/
def hide : II → Fm → Fm
  | .lok i, ρ => ρ.set i .hd
  | _, ρ => ρ
def unhide (ρ0 : Fm) : II → Fm → Fm
  | .lok i, ρ => match ρ[i]?, ρ0[i]? with
    | some .hd, some s => ρ.set i s
    | _, _ => ρ
  | _, ρ => ρ
/-- two rows, side by side -/
def zipD : List D → List D → List D
  | a :: r, b :: t => .tuple [a, b] :: zipD r t
  | _, _ => []
/-- {k: v, ..}.get(k, d), the keys ints -/
def isI : D → Bool
  | .int _ => true | _ => false
def dgF (ps : List (D × D)) (k : Int) : Option D := ps.foldl (fun r p => match p.1 with | .int i => if k = i then some p.2 else r | _ => r) none
variable (Φ : Nat → List O → CR)
mutual
def ev : IE → Fm → Res O
  | .loc i, ρ => evLoc i ρ
  | .con d, ρ => .ok (.fz d) ρ
  | .glo _ d, ρ => .ok (.fz d) ρ
  | .tup es, ρ => (evDs es ρ).bind fun ds ρ' => .ok (.fz (.tuple ds)) ρ'
  | .lst es, ρ => (evDs es ρ).bind fun ds ρ' => .ok (.ls ds) ρ'
  | .bin op a b, ρ => (prep a (ev a) ρ).bind fun x ρ1 => (prep b (ev b) ρ1).bind fun y ρ2 =>
      ofO ((x.val ρ2).bind fun p => (y.val ρ2).bind fun q => binF op p q) ρ2
  | .neg a, ρ => (ev a ρ).bind fun o ρ1 => match o with
    | .fz (.int i) => .ok (.fz (.int (-i))) ρ1 | _ => .bad
  | .not a, ρ => (tst a (ev a) ρ).bind fun b ρ1 => .ok (.fz (.bool (!b))) ρ1
  | .cmp op a b, ρ => (prep a (ev a) ρ).bind fun x ρ1 => (prep b (ev b) ρ1).bind fun y ρ2 =>
      ofO ((x.val ρ2).bind fun p => (y.val ρ2).bind fun q => (cmpF op p q).map fun k => .fz (.bool k)) ρ2
  | .cmp2 p q a b c, ρ => (prep a (ev a) ρ).bind fun x ρ1 => (prep b (ev b) ρ1).bind fun y ρ2 =>
      (ofO ((x.val ρ2).bind fun u => (y.val ρ2).bind fun v => cmpF p u v) ρ2).bind fun k ρ3 =>
        if k then (prep c (ev c) ρ3).bind fun z ρ4 => ofO ((y.val ρ4).bind fun v => (z.val ρ4).bind fun w => (cmpF q v w).map fun k => .fz (.bool k)) ρ4
        else .ok (.fz (.bool false)) ρ3
  | .isN a, ρ => (prep a (ev a) ρ).bind fun x ρ1 => ofO ((x.val ρ1).map fun o => .fz (.bool (noneB o))) ρ1
  | .notN a, ρ => (prep a (ev a) ρ).bind fun x ρ1 => ofO ((x.val ρ1).map fun o => .fz (.bool (!noneB o))) ρ1
  | .and a b, ρ => asB (ev a ρ) fun c ρ1 => if c then asB (ev b ρ1) fun d ρ2 => .ok (.fz (.bool d)) ρ2 else .ok (.fz (.bool false)) ρ1
  | .or a b, ρ => asB (ev a ρ) fun c ρ1 => if c then .ok (.fz (.bool true)) ρ1 else asB (ev b ρ1) fun d ρ2 => .ok (.fz (.bool d)) ρ2
  | .ife c a b, ρ => (tst c (ev c) ρ).bind fun k ρ1 => if k then ev a ρ1 else ev b ρ1
  | .sub a b, ρ => (prep a (ev a) ρ).bind fun x ρ1 => (prep b (ev b) ρ1).bind fun y ρ2 =>
      ofO ((x.val ρ2).bind fun p => (y.val ρ2).bind fun q => (ixF p q).map .fz) ρ2
  | .slc a lo hi, ρ => (prep a (ev a) ρ).bind fun x ρ1 => (evO lo ρ1).bind fun l ρ2 => (evO hi ρ2).bind fun h ρ3 =>
      ofO ((x.val ρ3).bind fun p => cutF p l h) ρ3
  | .call f args, ρ => (evAs args ρ).bind fun avs ρ1 => match lend avs ρ1 with
    | some (os, ρ2) => called avs ρ1 ρ2 (Φ f os)
    | none => .bad
  | .bi b args, ρ => (evAs args ρ).bind fun avs ρ1 => ofO ((vals avs ρ1).bind fun os => biF b os) ρ1
  | .isi a t, ρ => (prep a (ev a) ρ).bind fun x ρ1 => ofO ((x.val ρ1).bind fun o => (isiF t o).map fun k => .fz (.bool k)) ρ1
  | .lrg1 a, ρ => (ev a ρ).bind fun o ρ1 => match o with
    | .fz (.int n) => if lrgOk 0 n then .ok (.ls (rngD 0 n.toNat)) ρ1 else .bad | _ => .bad
  | .lrg2 a b, ρ => (ev a ρ).bind fun o ρ1 => (ev b ρ1).bind fun p ρ2 => match o, p with
    | .fz (.int i), .fz (.int j) => if lrgOk i j then .ok (.ls (rngD i (j - i).toNat)) ρ2 else .bad
    | _, _ => .bad
  | .lc elt tg it cnd vs, ρ => (evI it ρ).bind fun ds ρ1 =>
      (noEx (lcLoop (fun d ρ => (ofO (asgF tg d ρ) ρ).bind fun ρ' _ => (evC cnd ρ').bind fun k ρ2 => if k then (frz (ev elt ρ2)).bind fun x ρ3 => .ok (some x) (kill vs ρ3) else .ok none (kill vs ρ2)) ds [] (kill vs (hide it ρ1)))).bind
        fun xs ρ2 => .ok (.ls xs) (unhide ρ1 it (shown (hide it ρ1) vs ρ2))
  | .sset a, ρ => (prep a (ev a) ρ).bind fun x ρ1 => ofO ((x.val ρ1).bind ssF) ρ1
  | .lset a, ρ => (prep a (ev a) ρ).bind fun x ρ1 => ofO ((x.val ρ1).bind lsetF) ρ1
  | .rev a, ρ => (prep a (ev a) ρ).bind fun x ρ1 => ofO ((x.val ρ1).bind revF) ρ1
  | .idx a b, ρ => (prep a (ev a) ρ).bind fun x ρ1 => (ofO ((x.val ρ1).bind litems) ρ1).bind fun _ ρ1 => (prep b (ev b) ρ1).bind fun y ρ2 =>
      ofO ((x.val ρ2).bind fun p => (y.val ρ2).bind fun q => idxF p q) ρ2
  | .fidx f ys e, ρ => match Φ f [] with
    | .ok _ _ => (prep e (ev e) ρ).bind fun y ρ1 => ofO ((y.val ρ1).bind (idxS ys)) ρ1
    | _ => .bad
  | .dget ps e f, ρ => (evPs ps ρ).bind fun kvs ρ1 => if (kvs.all fun p => isI p.1) && decide (kvs.length ≤ 15) then (frz (ev e ρ1)).bind fun k ρ2 => (frz (ev f ρ2)).bind fun d ρ3 => match k with
      | .int i => .ok (.fz ((dgF kvs i).getD d)) ρ3
      | _ => .bad
    else .bad
def evPs : IPs → Fm → Res (List (D × D))
  | .nil, ρ => .ok [] ρ
  | .cons k v r, ρ => (frz (ev k ρ)).bind fun x ρ1 => (frz (ev v ρ1)).bind fun y ρ2 => (evPs r ρ2).bind fun t ρ3 => .ok ((x, y) :: t) ρ3
def evDs : IEs → Fm → Res (List D)
  | .nil, ρ => .ok [] ρ
  | .cons e es, ρ => (frz (ev e ρ)).bind fun d ρ1 => (evDs es ρ1).bind fun ds ρ2 => .ok (d :: ds) ρ2
def evAs : IEs → Fm → Res (List AV)
  | .nil, ρ => .ok [] ρ
  | .cons e es, ρ => (prep e (ev e) ρ).bind fun a ρ1 => (evAs es ρ1).bind fun r ρ2 => .ok (a :: r) ρ2
def evO : IEo → Fm → Res (Option Int)
  | .no, ρ => .ok none ρ
  | .so e, ρ => (ev e ρ).bind fun o ρ1 => match o with
    | .fz (.int i) => .ok (some i) ρ1 | _ => .bad
def evC : IEo → Fm → Res Bool
  | .no, ρ => .ok true ρ
  | .so e, ρ => tst e (ev e) ρ
def evI : II → Fm → Res (List D)
  | .val e, ρ => (ev e ρ).bind fun o ρ1 => ofO (items o) ρ1
  | .txt e, ρ => (ev e ρ).bind fun o ρ1 => match o with
    | .fz (.str z) => .ok (signs z) ρ1 | _ => .bad
  | .lok i, ρ => ofO ((rd ρ i).bind items) ρ
  | .rng1 a, ρ => (ev a ρ).bind fun o ρ1 => match o with
    | .fz (.int n) => if rngOk n then .ok (rngD 0 n.toNat) ρ1 else .bad | _ => .bad
  | .rng2 a b, ρ => (ev a ρ).bind fun o ρ1 => (ev b ρ1).bind fun p ρ2 => match o, p with
    | .fz (.int i), .fz (.int j) => if rngOk i && rngOk j then .ok (rngD i (j - i).toNat) ρ2 else .bad
    | _, _ => .bad
  | .rng3 a b c, ρ => (ev a ρ).bind fun o ρ1 => (ev b ρ1).bind fun p ρ2 => (ev c ρ2).bind fun q ρ3 => match o, p, q with
    | .fz (.int i), .fz (.int j), .fz (.int c) => if rg3Ok i j c then .ok (rngC i c (Builtin.Range.rangeSize i j c).toNat) ρ3 else .bad
    | _, _, _ => .bad
  | .zip a b, ρ => (frz (ev a ρ)).bind fun x ρ1 => (frz (ev b ρ1)).bind fun y ρ2 => match items (.fz x), items (.fz y) with
    | some xs, some ys => .ok (zipD xs ys) ρ2
    | _, _ => .bad
end
/-! ### statements -/
/-- a while: the first number is the turns that may be taken -/
def whF (c : Fm → Res Bool) (b : Fm → SR) (ks : List Nat) : Nat → Fm → SR
  | 0, _ => .bad
  | n + 1, ρ => (c ρ).st fun k ρ1 => if k then (match b ρ1 with
      | .nx ρ2 => whF c b ks n (kill ks ρ2) | .ct ρ2 => whF c b ks n (kill ks ρ2) | .bk ρ2 => .nx (kill ks ρ2) | r => r)
    else .nx ρ1
def frF (t : D → Fm → Option Fm) (b : Fm → SR) (ks : List Nat) : List D → Fm → SR
  | [], ρ => .nx ρ
  | d :: ds, ρ => match t d ρ with
    | none => .bad
    | some ρ1 => (match b ρ1 with
      | .nx ρ2 => frF t b ks ds (kill ks ρ2) | .ct ρ2 => frF t b ks ds (kill ks ρ2) | .bk ρ2 => .nx (kill ks ρ2) | r => r)
def SR.map (f : Fm → Fm) : SR → SR
  | .nx ρ => .nx (f ρ) | .rt o ρ => .rt o (f ρ) | .bk ρ => .bk (f ρ) | .ct ρ => .ct (f ρ) | .ex e ρ => .ex e (f ρ) | .bad => .bad
def wfuel : Nat := 1000000000000000000000000000000
/-- x[k] = d of an own thing -/
def setF (o k : O) (d : D) : Option O := match o, k with
  | .ls ds, .fz (.int i) => (L2.ixN ds.length i).map fun j => .ls (ds.set j d)
  | _, _ => none
def appF (o : O) (d : D) : Option O := match o with
  | .ls ds => if ds.length < 16777216 then some (.ls (ds ++ [d])) else none
  | _ => none
def extF (o p : O) : Option O := match o, p with
  | .ls ds, .ls es => if fits (ds.length + es.length) then some (.ls (ds ++ es)) else none
  | _, _ => none
def retLoc (i : Nat) (ρ : Fm) : SR := match ρ[i]? with
  | some (.lo (.ls ds)) => .rt (.ls ds) (unS ρ i)
  | _ => (evLoc i ρ).st .rt
def augF : BOp → O → O → Option O
  | .add, .fz (.int a), .fz (.int b) => some (.fz (.int (a + b)))
  | .sub, .fz (.int a), .fz (.int b) => some (.fz (.int (a - b)))
  | .mul, .fz (.int a), .fz (.int b) => if wee a || wee b then some (.fz (.int (a * b))) else none
  | _, _, _ => none
mutual
def exS : IS → Fm → SR
  | .asg i e, ρ => (ev Φ e ρ).st fun o ρ1 => .nx (loS ρ1 i o)
  | .asgT t e, ρ => (frz (ev Φ e ρ)).st fun d ρ1 => (ofO (asgF t d ρ1) ρ1).st fun ρ2 _ => .nx ρ2
  | .aug i op e, ρ => (ofO (rd ρ i) ρ).st fun _ ρ => (ev Φ e ρ).st fun y ρ1 => (ofO ((rd ρ1 i).bind fun x => augF op x y) ρ1).st fun o ρ2 => .nx (loS ρ2 i o)
  | .seti x k e, ρ => (frz (ev Φ e ρ)).st fun d ρ1 => (ofO (rd ρ1 x) ρ1).st fun _ ρ1 => (ev Φ k ρ1).st fun i ρ2 => (ofO ((rd ρ2 x).bind fun o => setF o i d) ρ2).st fun o ρ3 => .nx (putO ρ3 x o)
  | .app x e, ρ => (ofO ((rd ρ x).bind litems) ρ).st fun _ ρ => (frz (ev Φ e ρ)).st fun d ρ1 => (ofO ((rd ρ1 x).bind fun o => appF o d) ρ1).st fun o ρ2 => .nx (putO ρ2 x o)
  | .ext x e, ρ => match e with
    | .loc _ => .bad
    | e => (ofO ((rd ρ x).bind litems) ρ).st fun _ ρ => (ev Φ e ρ).st fun p ρ1 => (ofO ((rd ρ1 x).bind fun o => extF o p) ρ1).st fun o ρ2 => .nx (putO ρ2 x o)
  | .exp e, ρ => (ev Φ e ρ).st fun _ ρ1 => .nx ρ1
  | .ret e, ρ => match e with
    | .loc i => retLoc i ρ
    | e => (ev Φ e ρ).st .rt
  | .retn, ρ => .rt (.fz .none) ρ
  | .iff c a b, ρ => (tst c (ev Φ c) ρ).st fun k ρ1 => if k then exSs a ρ1 else exSs b ρ1
  | .fr t it b ks, ρ => (evI Φ it ρ).st fun ds ρ1 => (frF (asgF t) (exSs b) ks ds (hide it ρ1)).map (unhide ρ1 it)
  | .wh c b ks, ρ => whF (tst c (ev Φ c)) (exSs b) ks wfuel ρ
  | .brk, ρ => .bk ρ
  | .cnt, ρ => .ct ρ
  | .pas, ρ => .nx ρ
  | .nev, _ => .bad
def exSs : ISs → Fm → SR
  | .nil, ρ => .nx ρ
  | .cons s ss, ρ => (exS s ρ).seq (exSs ss)
  | .kil ks ss, ρ => exSs ss (kill ks ρ)
end
/-- a def that tells a row of texts -/
def consS : IEs → Option (List Str)
  | .nil => some []
  | .cons (.con (.str s)) r => (consS r).map (s :: ·)
  | _ => none
def strBody : ISs → Option (List Str)
  | .cons (.ret (.tup es)) .nil => consS es
  | _ => none
/-! ### a program -/
structure Df where
  name : Str
  N : List Str
  np : Nat
  body : ISs
/-- what became of the own things that were handed in -/
def fins : List O → Fm → List (Option O)
  | .fz _ :: os, _ :: ρ => none :: fins os ρ
  | _ :: os, .pa x :: ρ => some x :: fins os ρ
  | _ :: os, _ :: ρ => none :: fins os ρ
  | _, _ => []
def ends (os : List O) : SR → CR
  | .nx ρ => .ok (.fz .none) (fins os ρ) | .rt o ρ => .ok o (fins os ρ) | .ex e ρ => .ex e (fins os ρ) | _ => .bad
def frame0 (n : Nat) (os : List O) : Fm := os.map .pa ++ List.replicate (n - os.length) .un
def callN (T : List Df) : Nat → Nat → List O → CR
  | 0, _, _ => .bad
  | n + 1, f, os => match T[f]? with
    | none => .bad
    | some d => if os.length = d.np then ends os (exSs (callN T n) d.body (frame0 d.N.length os)) else .bad
end GW

/-! GW, part 2: how plain data lies in the tracked heap; freezing. -/
namespace GW
open PySem PySem.Spec PyProof.Rows L2  -- gw

abbrev St := L2.St
/-! ### what stays for good -/
def Still : HO → Prop
  | .tup _ => True | .frz _ _ => True | _ => False
def Stl (H H' : Hp) : Prop := ∀ a u, H a = some u → Still u → H' a = some u
theorem Stl.refl {H : Hp} : Stl H H := fun _ _ h _ => h
theorem Stl.trans {H H1 H2 : Hp} (a : Stl H H1) (b : Stl H1 H2) : Stl H H2 := fun c u h s => b c u (a c u h s) s
/-- a list that never changes -/
def FqL (K : PySem.W.Frag) (H : Hp) (a : Addr) (xs : List V) : Prop :=
  (∃ o, H a = some (.frz o (.lst xs))) ∨
    ∃ (o : Obj) (its : Array Value) (n : Nat), K.lookup a = some o ∧ o.cls = .type "list" ∧ o.dict = none ∧ o.data = .seq its n ∧ its.size ≤ sizeLine ∧ Vals xs its.toList  -- gw
theorem FqL.sq {K : PySem.W.Frag} {H : Hp} {a : Addr} {xs : List V} : FqL K H a xs → SqL K H a xs
  | .inl h => .inl (.inr h)
  | .inr h => .inr h
theorem FqL.keep {K : PySem.W.Frag} {H H' : Hp} {a : Addr} {xs : List V} (k : Stl H H') : FqL K H a xs → FqL K H' a xs
  | .inl ⟨o, h⟩ => .inl ⟨o, k _ _ h trivial⟩
  | .inr h => .inr h
theorem sqT_keep {K : PySem.W.Frag} {H H' : Hp} {a : Addr} {xs : List V} (k : Stl H H') : SqT K H a xs → SqT K H' a xs
  | .inl (.inl h) => .inl (.inl (k _ _ h trivial))
  | .inl (.inr ⟨o, h⟩) => .inl (.inr ⟨o, k _ _ h trivial⟩)
  | .inr h => .inr h
mutual
inductive Rp (K : PySem.W.Frag) (H : Hp) : V → D → Prop
  | non : Rp K H .non .none
  | bl (b : Bool) : Rp K H (.bl b) (.bool b)
  | int (i : Int) : Rp K H (.int i) (.int i)
  | str (x : Str) : Rp K H (.str x) (.str x)
  | lst {a : Addr} {xs : List V} {ds : List D} : FqL K H a xs → RpA K H xs ds → Rp K H (.ref a) (.list ds)
  | tup {a : Addr} {xs : List V} {ds : List D} : SqT K H a xs → RpA K H xs ds → Rp K H (.ref a) (.tuple ds)
inductive RpA (K : PySem.W.Frag) (H : Hp) : List V → List D → Prop
  | nil : RpA K H [] []
  | cons {v : V} {vs : List V} {d : D} {ds : List D} : Rp K H v d → RpA K H vs ds → RpA K H (v :: vs) (d :: ds)
end
section
variable {K : PySem.W.Frag} {H H' : Hp}
mutual
theorem Rp.keep (k : Stl H H') : ∀ {v : V} {d : D}, Rp K H v d → Rp K H' v d
  | _, _, .non => .non
  | _, _, .bl b => .bl b
  | _, _, .int i => .int i
  | _, _, .str x => .str x
  | _, _, .lst h r => .lst (h.keep k) (RpA.keep k r)
  | _, _, .tup h r => .tup (sqT_keep k h) (RpA.keep k r)
theorem RpA.keep (k : Stl H H') : ∀ {vs : List V} {ds : List D}, RpA K H vs ds → RpA K H' vs ds
  | _, _, .nil => .nil
  | _, _, .cons h r => .cons (Rp.keep k h) (RpA.keep k r)
end
theorem RpA.length : ∀ {vs : List V} {ds : List D}, RpA K H vs ds → vs.length = ds.length
  | _, _, .nil => rfl
  | _, _, .cons _ r => by rw [List.length_cons, List.length_cons, RpA.length r]
theorem RpA.get : ∀ {vs : List V} {ds : List D} {i : Nat} {d : D}, RpA K H vs ds → ds[i]? = some d → ∃ v, vs[i]? = some v ∧ Rp K H v d
  | _, _, _, _, .nil, e => by simp at e  -- gw
  | _, _, 0, _, .cons h _, e => by simp at e; subst e; exact ⟨_, rfl, h⟩
  | _, _, i + 1, d, .cons _ r, e => by
    obtain ⟨v, e1, h⟩ := RpA.get (i := i) (d := d) r (by simpa using e)
    exact ⟨v, by simpa using e1, h⟩
theorem RpA.append : ∀ {vs ws : List V} {ds es : List D}, RpA K H vs ds → RpA K H ws es → RpA K H (vs ++ ws) (ds ++ es)
  | _, _, _, _, .nil, r => r
  | _, _, _, _, .cons h q, r => .cons h (RpA.append q r)
theorem RpA.set {v : V} {d : D} (h : Rp K H v d) : ∀ {vs : List V} {ds : List D} (i : Nat), RpA K H vs ds → RpA K H (vs.set i v) (ds.set i d)
  | _, _, _, .nil => .nil
  | _, _, 0, .cons _ r => .cons h r
  | _, _, i + 1, .cons q r => .cons q (RpA.set h i r)
theorem RpA.drop : ∀ {vs : List V} {ds : List D} (i : Nat), RpA K H vs ds → RpA K H (vs.drop i) (ds.drop i)
  | _, _, 0, r => r
  | _, _, _ + 1, .nil => .nil
  | _, _, i + 1, .cons _ r => RpA.drop i r
theorem RpA.take : ∀ {vs : List V} {ds : List D} (i : Nat), RpA K H vs ds → RpA K H (vs.take i) (ds.take i)
  | _, _, 0, _ => .nil
  | _, _, _ + 1, .nil => .nil
  | _, _, i + 1, .cons h r => .cons h (RpA.take i r)
mutual
/-- the library's own reading of data -/
theorem Rp.dp : ∀ {v : V} {d : D}, Rp K H v d → Dp K H v d
  | _, _, .non => .non
  | _, _, .bl b => .bl b
  | _, _, .int i => .int i
  | _, _, .str x => .str x
  | _, _, .lst h r => .lst h.sq (RpA.dp r)
  | _, _, .tup h r => .tup h (RpA.dp r)
theorem RpA.dp : ∀ {vs : List V} {ds : List D}, RpA K H vs ds → DpAll K H vs ds
  | _, _, .nil => .nil
  | _, _, .cons h r => .cons (Rp.dp h) (RpA.dp r)
end
end

/-! ### own things -/
def Ow (K : PySem.W.Frag) (H : Hp) (v : V) : O → Prop
  | .fz d => Rp K H v d
  | .ls ds => ∃ a vs, v = .ref a ∧ H a = some (.lst vs) ∧ RpA K H vs ds
  | .dc _ => False
/-- the address that a value owns -/
def Ft (v : V) (o : O) (a : Addr) : Prop := o.own = true ∧ v = .ref a
theorem Ft.there {K : PySem.W.Frag} {H : Hp} {v : V} {o : O} {a : Addr} (f : Ft v o a) (w : Ow K H v o) : ∃ u, H a = some u ∧ ¬ Still u := by
  obtain ⟨f1, rfl⟩ := f
  cases o with
  | fz d => cases f1
  | ls ds =>
    obtain ⟨b, vs, e, h, _⟩ := w
    cases e
    exact ⟨_, h, id⟩
  | dc _ => exact w.elim
/-- from H to H': what never changes stays; all but P stays -/
structure Kp (P : Addr → Prop) (H H' : Hp) : Prop where
  still : Stl H H'
  rest : ∀ a u, H a = some u → ¬ P a → H' a = some u
  there : ∀ a u, H a = some u → ∃ u', H' a = some u'
theorem Kp.refl {P : Addr → Prop} {H : Hp} : Kp P H H := ⟨.refl, fun _ _ h _ => h, fun _ u h => ⟨u, h⟩⟩
theorem Kp.free {P : Addr → Prop} {H H' : Hp} (k : Kp P H H') {a : Addr} (h : H' a = none) : H a = none := by
  cases e : H a with
  | none => rfl
  | some u =>
    obtain ⟨u', e'⟩ := k.there a u e
    rw [h] at e'; cases e'
theorem Kp.trans {P P1 : Addr → Prop} {H H1 H2 : Hp} (a : Kp P H H1) (b : Kp P1 H1 H2) (s : ∀ c, P1 c → P c ∨ H c = none) : Kp P H H2 :=
  ⟨a.still.trans b.still, fun c u h n => b.rest c u (a.rest c u h n) fun q => (s c q).elim n fun z => (by rw [h] at z; cases z),
    fun c u h => let ⟨u1, h1⟩ := a.there c u h; b.there c u1 h1⟩
theorem Kp.mono {P P1 : Addr → Prop} {H H' : Hp} (k : Kp P H H') (s : ∀ c, P c → P1 c) : Kp P1 H H' := ⟨k.still, fun a u h n => k.rest a u h fun q => n (s a q), k.there⟩
theorem Kp.new {P : Addr → Prop} {H : Hp} {p : Addr} {u : HO} (n : H p = none) : Kp P H (upd H p u) := by
  have ne : ∀ a v, H a = some v → a ≠ p := fun a v h e => by rw [e, n] at h; cases h
  exact ⟨fun a v h _ => (upd_ne (ne a v h)).trans h, fun a v h _ => (upd_ne (ne a v h)).trans h, fun a v h => ⟨v, (upd_ne (ne a v h)).trans h⟩⟩
/-- an own thing is changed (or frozen) -/
theorem Kp.write {P : Addr → Prop} {H : Hp} {p : Addr} {u w : HO} (h : H p = some u) (n : ¬ Still u) (q : P p) : Kp P H (upd H p w) := by
  refine ⟨fun a v e s => ?_, fun a v e z => ?_, fun a v e => ?_⟩
  · have : a ≠ p := fun z => by rw [z, h] at e; cases e; exact n s
    exact (upd_ne this).trans e
  · have : a ≠ p := fun y => z (y ▸ q)
    exact (upd_ne this).trans e
  · by_cases z : a = p
    · subst z; exact ⟨w, upd_same⟩
    · exact ⟨v, (upd_ne z).trans e⟩
theorem Ow.keep {K : PySem.W.Frag} {P : Addr → Prop} {H H' : Hp} {v : V} {o : O} (w : Ow K H v o) (k : Kp P H H') (n : ∀ a, Ft v o a → ¬ P a) : Ow K H' v o := by
  cases o with
  | fz d => exact Rp.keep k.still w
  | ls ds =>
    obtain ⟨a, vs, rfl, h, r⟩ := w
    exact ⟨a, vs, rfl, k.rest a _ h (n a ⟨rfl, rfl⟩), r.keep k.still⟩
  | dc _ => exact w.elim

/-! ### frames -/
def OwnAt (σ : St) (ρ : Fm) (i : Nat) (a : Addr) : Prop := ∃ o, rd ρ i = some o ∧ o.own = true ∧ σ[i]? = some (some (.ref a))
def Own (σ : St) (ρ : Fm) (a : Addr) : Prop := ∃ i, OwnAt σ ρ i a
/-- the values that were handed in; the values of hidden slots -/
structure Ar where
  vs : List V
  hs : Nat → Option V
structure FrOk (K : PySem.W.Frag) (args : Ar) (H : Hp) (σ : St) (ρ : Fm) : Prop where
  len : σ.length = ρ.length
  at_ : ∀ (i : Nat) (o : O), rd ρ i = some o → ∃ v, σ[i]? = some (some v) ∧ Ow K H v o
  pa_ : ∀ (i : Nat) (o : O), ρ[i]? = some (Sl.pa o) → ∃ v, σ[i]? = some (some v) ∧ args.vs[i]? = some v
  hd_ : ∀ (i : Nat), ρ[i]? = some Sl.hd → ∃ v, σ[i]? = some (some v) ∧ args.hs i = some v
  inj : ∀ (i j : Nat) (a : Addr), OwnAt σ ρ i a → OwnAt σ ρ j a → i = j
theorem Own.there {K : PySem.W.Frag} {args : Ar} {H : Hp} {σ : St} {ρ : Fm} {a : Addr} (f : FrOk K args H σ ρ) (h : Own σ ρ a) : ∃ u, H a = some u ∧ ¬ Still u := by
  obtain ⟨i, o, e, q, s⟩ := h
  obtain ⟨v, s', w⟩ := f.at_ i o e
  rw [s] at s'
  cases s'
  exact Ft.there ⟨q, rfl⟩ w
theorem rd_some {ρ : Fm} {i : Nat} {o : O} (h : rd ρ i = some o) : ρ[i]? = some (.lo o) ∨ ρ[i]? = some (.pa o) := by
  unfold rd at h
  cases e : ρ[i]? with
  | none => rw [e] at h; cases h  -- gw
  | some s =>
    rw [e] at h
    cases s with
    | un => cases h
    | hd => cases h
    | lo x => cases h; exact .inl rfl
    | pa x => cases h; exact .inr rfl
theorem rd_lt {ρ : Fm} {i : Nat} {o : O} (h : rd ρ i = some o) : i < ρ.length := by
  rcases rd_some h with e | e <;> exact (List.getElem?_eq_some_iff.mp e).1
theorem rd_set {ρ : Fm} {i j : Nat} {s : Sl} : rd (ρ.set i s) j = if i = j ∧ i < ρ.length then s.get else rd ρ j := by
  unfold rd
  rw [List.getElem?_set]
  by_cases e : i = j
  · subst e
    by_cases l : i < ρ.length
    · rw [if_pos rfl, if_pos l, if_pos ⟨rfl, l⟩]; rfl
    · rw [if_pos rfl, if_neg l, if_neg (fun z => l z.2), List.getElem?_eq_none (Nat.le_of_not_lt l)]
  · rw [if_neg e, if_neg (fun z => e z.1)]
theorem FrOk.keep {K : PySem.W.Frag} {args : Ar} {P : Addr → Prop} {H H' : Hp} {σ : St} {ρ : Fm} (f : FrOk K args H σ ρ) (k : Kp P H H') (n : ∀ a, Own σ ρ a → ¬ P a) : FrOk K args H' σ ρ :=
  ⟨f.len, fun i o e =>
    let ⟨v, s, w⟩ := f.at_ i o e
    ⟨v, s, w.keep k fun a q => n a ⟨i, o, e, q.1, by rw [s, q.2]⟩⟩, f.pa_, f.hd_, f.inj⟩
/-- from one state of the frame to the next one, F the addresses of what is in the hand -/
structure Got (K : PySem.W.Frag) (args : Ar) (σ : St) (ρ : Fm) (H : Hp) (σ' : St) (ρ' : Fm) (H' : Hp) (F : Addr → Prop) : Prop where
  kp : Kp (Own σ ρ) H H'
  fr : FrOk K args H' σ' ρ'
  dis : ∀ a, F a → ¬ Own σ' ρ' a
  fre : ∀ a, Own σ' ρ' a ∨ F a → Own σ ρ a ∨ H a = none
section
variable {K : PySem.W.Frag} {args : Ar} {σ σ1 σ2 : St} {ρ ρ1 ρ2 : Fm} {H H1 H2 : Hp} {F F1 F2 : Addr → Prop}
theorem Got.refl (f : FrOk K args H σ ρ) : Got K args σ ρ H σ ρ H (fun _ => False) := ⟨.refl, f, fun _ h => h.elim, fun _ h => h.elim .inl fun z => z.elim⟩
theorem Got.trans (a : Got K args σ ρ H σ1 ρ1 H1 F) (b : Got K args σ1 ρ1 H1 σ2 ρ2 H2 F1) : Got K args σ ρ H σ2 ρ2 H2 F1 :=
  ⟨a.kp.trans b.kp fun c h => a.fre c (.inl h), b.fr, b.dis, fun c h => (b.fre c h).elim (fun z => a.fre c (.inl z)) fun z => .inr (a.kp.free z)⟩
/-- .. what was in the hand stays there -/
theorem Got.trans2 (a : Got K args σ ρ H σ1 ρ1 H1 F) (b : Got K args σ1 ρ1 H1 σ2 ρ2 H2 F1) (t : ∀ c, F c → H1 c ≠ none) : Got K args σ ρ H σ2 ρ2 H2 (fun c => F c ∨ F1 c) :=
  ⟨a.kp.trans b.kp fun c h => a.fre c (.inl h), b.fr, fun c h q => h.elim (fun h => (b.fre c (.inl q)).elim (a.dis c h) (t c h)) fun h => b.dis c h q,
    fun c h => h.elim (fun h => (b.fre c (.inl h)).elim (fun z => a.fre c (.inl z)) fun z => .inr (a.kp.free z)) fun h => h.elim (fun h => a.fre c (.inr h)) fun h =>
      (b.fre c (.inr h)).elim (fun z => a.fre c (.inl z)) fun z => .inr (a.kp.free z)⟩
theorem Got.drop (a : Got K args σ ρ H σ1 ρ1 H1 F) (s : ∀ c, F1 c → F c) : Got K args σ ρ H σ1 ρ1 H1 F1 :=
  ⟨a.kp, a.fr, fun c h => a.dis c (s c h), fun c h => a.fre c (h.elim .inl fun z => .inr (s c z))⟩
/-- a new thing is laid -/
theorem Got.new {p : Addr} {u : HO} (a : Got K args σ ρ H σ1 ρ1 H1 F) (n : H1 p = none) : Got K args σ ρ H σ1 ρ1 (upd H1 p u) (fun c => c = p) := by
  have no : ¬ Own σ1 ρ1 p := fun q => by
    obtain ⟨u, e, _⟩ := q.there a.fr
    rw [n] at e; cases e
  refine ⟨a.kp.trans (P1 := Own σ ρ) (Kp.new n) fun c h => .inl h, a.fr.keep (P := fun _ => False) (Kp.new n) fun _ _ z => z, fun c h => h ▸ no, fun c h => ?_⟩
  rcases h with h | h
  · exact a.fre c (.inl h)
  · exact .inr (h ▸ a.kp.free n)
end

/-! ### freezing -/
theorem Inv.frzd {X : Cx} {pins : List (Addr × Obj)} {σ : St} {H : Hp} {s : Shared} {a : Addr} {xs : List V} (I : Inv X pins σ H s) (h : H a = some (.lst xs)) :
    ∃ o, Inv X pins σ (upd H a (.frz o (.lst xs))) s := by
  obtain ⟨z, its, n, r, e⟩ := I.hok a _ h
  have na : ∀ b, H b = none → upd H a (.frz { cls := .type "list", data := .seq its.toArray n } (.lst xs)) b = none := fun b q => by
    have : b ≠ a := fun y => by rw [y, h] at q; cases q
    rw [upd_ne this]; exact q
  have other : ∀ b u, H b = some u → u ≠ .lst xs → upd H a (.frz { cls := .type "list", data := .seq its.toArray n } (.lst xs)) b = some u := fun b u q y => by
    have : b ≠ a := fun w => by rw [w, h] at q; cases q; exact y rfl
    rw [upd_ne this]; exact q
  refine ⟨{ cls := .type "list", data := .seq its.toArray n }, I.ok, I.os, I.bare, ⟨I.base.keep, I.base.slot, fun b o q n' x => na b (I.base.free b o q n' x), I.base.there, fun b ys q => other b _ (I.base.tups b ys q) (fun w => nomatch w),
    fun b o u q => other b _ (I.base.frzs b o u q) (fun w => nomatch w), fun b ps q => ?_⟩, I.loc, I.cell, na _ I.free, fun x c q => na c (I.freeC x c q), fun p hp => ?_, fun b u q => ?_, I.len⟩
  · obtain ⟨more, q2⟩ := I.base.tbls b ps q
    exact ⟨more, other b _ q2 (fun w => nomatch w)⟩
  · obtain ⟨h1, h2, h3⟩ := I.pin p hp
    exact ⟨h1, na _ h2, h3⟩
  · by_cases hb : b = a
    · subst hb
      rw [upd_same] at q
      cases q
      exact ⟨e, z, its, n, r, e⟩
    · rw [upd_ne hb] at q
      exact (I.hok b u q).stay (fun c v _ w => w) (fun c w => other c _ w (fun y => nomatch y)) fun c ys w => other c _ w (fun y => nomatch y)
/-- a wish that may be met behind a freezing -/
def Fzd (Q : VK) : VK := fun v H => Q v H ∨ ∃ a xs, H a = some (.lst xs) ∧ ∀ o, Q v (upd H a (.frz o (.lst xs)))
theorem EP.fzd {X : Cx} {pins : List (Addr × Obj)} {σ : St} {Q : VK} {u : Value} {s : Shared} (h : EP X pins σ (Fzd Q) u s) : EP X pins σ Q u s := by
  obtain ⟨v, H', I, r, q⟩ := h
  rcases q with q | ⟨a, xs, e, q⟩
  · exact ⟨v, H', I, r, q⟩
  · obtain ⟨o, J⟩ := Inv.frzd I e
    exact ⟨v, _, J, r, q o⟩

/-! ### the widest readings -/
def WE (X : Cx) (e : Expr) : TE := fun σ H Q => ∀ (pins : List (Addr × Obj)) (s : Shared), Inv X pins σ H s → wpAny (model X.prog X.w) X.A (eval e X.env) (EP X pins σ Q) X.xe s
def WT (X : Cx) (e : Expr) : TT := fun σ H Q => ∀ (pins : List (Addr × Obj)) (s : Shared), Inv X pins σ H s → wpAny (model X.prog X.w) X.A (isTrue e X.env (eval e X.env)) (TP X pins σ Q) X.xe s
def WW (X : Cx) (e : Expr) : TT := fun σ H Q => ∀ (whole : Sem Value) (pins : List (Addr × Obj)) (s : Shared), Inv X pins σ H s → wpAny (model X.prog X.w) X.A (isTrue e X.env whole) (TP X pins σ Q) X.xe s
def WA (X : Cx) (es : List Expr) : TA := fun σ H Q => ∀ (pos : Pos) (pins : List (Addr × Obj)) (s : Shared), Inv X pins σ H s → wpAny (model X.prog X.w) X.A (spliced (backTo pos (starEach es X.env))) (AP X pins σ Q) X.xe s
def WS (X : Cx) (st : Stmt) : TS := fun D σ H => ∀ (pins : List (Addr × Obj)) (s : Shared), Inv X pins σ H s → wpAny (model X.prog X.w) X.A (exec st X.env) (SP X pins D) X.xe s
def WSs (X : Cx) (st : List Stmt) : TS := fun D σ H => ∀ (pins : List (Addr × Obj)) (s : Shared), Inv X pins σ H s → wpAny (model X.prog X.w) X.A (execs st X.env) (SP X pins D) X.xe s
def WI (X : Cx) (tg iter : Expr) : TI := fun σ H R => ∀ (pins : List (Addr × Obj)) (s : Shared), Inv X pins σ H s →
  wpAny (model X.prog X.w) X.A (eval iter X.env) (fun v s1 => wpAny (model X.prog X.w) X.A (pyIter v) (PIE X pins σ tg R) X.xe s1) X.xe s  -- gw
def WG (X : Cx) (tg : Expr) : TG := fun v σ H Q => ∀ (pins : List (Addr × Obj)) (s : Shared) (u : Value), Inv X pins σ H s → RelV v u →
  wpAny (model X.prog X.w) X.A (assign tg X.env u) (fun _ s' => ∃ σ' H', Inv X pins σ' H' s' ∧ Q σ' H') X.xe s
section
variable {X : Cx} {e : Expr} {es : List Expr} {st : Stmt} {sts : List Stmt} {σ : St} {H : Hp} {D : Ends} {tg iter : Expr}
theorem WE.pe : PE X e (WE X e) := ⟨fun pins s σ H Q I h => h pins s I⟩
theorem WT.pt : PT X e (WT X e) := ⟨fun pins s σ H Q I h => h pins s I⟩
theorem WW.pw : PW X e (WW X e) := ⟨fun w pins s σ H Q I h => h w pins s I⟩
theorem WA.pa : PA X es (WA X es) := ⟨fun pos pins s σ H Q I h => h pos pins s I⟩
theorem WS.ps : PS X st (WS X st) := ⟨fun pins s σ H D I h => h pins s I⟩
theorem WSs.pss : PSs X sts (WSs X sts) := ⟨fun pins s σ H D I h => h pins s I⟩
theorem WI.pi : PI X tg iter (WI X tg iter) := ⟨fun pins s σ H R I h => h pins s I⟩
theorem WG.pg : PG X tg (WG X tg) := ⟨fun pins s σ H v u Q I r h => h pins s u I r⟩
theorem WE.of {t : TE} {Q : VK} (h : PE X e t) (q : t σ H Q) : WE X e σ H Q := fun pins s I => h.run pins s σ H Q I q
theorem WT.of {t : TT} {Q : Bool → Hp → Prop} (h : PT X e t) (q : t σ H Q) : WT X e σ H Q := fun pins s I => h.run pins s σ H Q I q
theorem WW.of {t : TT} {Q : Bool → Hp → Prop} (h : PW X e t) (q : t σ H Q) : WW X e σ H Q := fun w pins s I => h.run w pins s σ H Q I q
theorem WA.of {t : TA} {Q : List V → Hp → Prop} (h : PA X es t) (q : t σ H Q) : WA X es σ H Q := fun pos pins s I => h.run pos pins s σ H Q I q
theorem WS.of {t : TS} (h : PS X st t) (q : t D σ H) : WS X st D σ H := fun pins s I => h.run pins s σ H D I q
theorem WSs.of {t : TS} (h : PSs X sts t) (q : t D σ H) : WSs X sts D σ H := fun pins s I => h.run pins s σ H D I q
theorem WI.of {t : TI} {R : It → Hp → Prop} (h : PI X tg iter t) (q : t σ H R) : WI X tg iter σ H R := fun pins s I => h.run pins s σ H R I q
theorem WG.of {t : TG} {v : V} {Q : St → Hp → Prop} (h : PG X tg t) (q : t v σ H Q) : WG X tg v σ H Q := fun pins s u I r => h.run pins s σ H v u Q I r q
theorem WE.fz {Q : VK} (h : WE X e σ H (Fzd Q)) : WE X e σ H Q := fun pins s I => thn (h pins s I) fun _ _ => EP.fzd
theorem WE.imp {Q Q' : VK} (h : WE X e σ H Q) (k : ∀ v H', Q v H' → Q' v H') : WE X e σ H Q' := fun pins s I => thn (h pins s I) fun _ _ ⟨v, H', J, r, q⟩ => ⟨v, H', J, r, k v H' q⟩
theorem WT.imp {Q Q' : Bool → Hp → Prop} (h : WT X e σ H Q) (k : ∀ v H', Q v H' → Q' v H') : WT X e σ H Q' := fun pins s I => thn (h pins s I) fun _ _ ⟨H', J, q⟩ => ⟨H', J, k _ H' q⟩
end
end GW

/-! GW, part 2a: the order of tuples of ints. -/
namespace GW
open PySem PySem.Spec PyProof.Rows L2  -- gw
theorem lexAt_shift (e r : Nat → Bool) (z : Bool) : ∀ (k i : Nat), Ob.lexAt e r z (i + 1) k = Ob.lexAt (fun j => e (j + 1)) (fun j => r (j + 1)) z i k
  | 0, _ => rfl
  | k + 1, i => by rw [Ob.lexAt_succ, Ob.lexAt_succ, lexAt_shift e r z k (i + 1)]
theorem lexAt_cons (f : Int → Int → Bool) (g : Nat → Nat → Bool) (hg : ∀ n m, g (n + 1) (m + 1) = g n m) (a b : Int) (x y : List Int) :
    Ob.lexAt (fun j => decide ((a :: x).getD j 0 = (b :: y).getD j 0)) (fun j => f ((a :: x).getD j 0) ((b :: y).getD j 0)) (g (a :: x).length (b :: y).length) 0 (min (a :: x).length (b :: y).length) =
      if a = b then Ob.lexAt (fun j => decide (x.getD j 0 = y.getD j 0)) (fun j => f (x.getD j 0) (y.getD j 0)) (g x.length y.length) 0 (min x.length y.length) else f a b := by
  rw [List.length_cons, List.length_cons, hg, Nat.succ_min_succ, Ob.lexAt_succ, lexAt_shift]
  by_cases h : a = b
  · rw [if_pos h]
    show (if decide (a = b) = true then _ else _) = _
    rw [if_pos (decide_eq_true h)]; rfl
  · rw [if_neg h]
    show (if decide (a = b) = true then _ else _) = _
    rw [if_neg (fun z => h (of_decide_eq_true z))]; rfl
theorem lex_lt : ∀ (ns ms : List Int), Ob.lexAt (fun j => decide (ns.getD j 0 = ms.getD j 0)) (fun j => decide (ns.getD j 0 < ms.getD j 0)) (decide (ns.length < ms.length)) 0 (min ns.length ms.length) = ltL ns ms
  | [], [] => rfl
  | [], _ :: _ => by rw [show min ([] : List Int).length _ = 0 from Nat.zero_min _, Ob.lexAt_zero]; simp [ltL]
  | a :: x, [] => by rw [show min _ ([] : List Int).length = 0 from Nat.min_zero _, Ob.lexAt_zero]; simp [ltL]
  | a :: x, b :: y => by
    rw [lexAt_cons (fun u v => decide (u < v)) (fun n m => decide (n < m)) (fun n m => by simp), lex_lt x y, ltL]
theorem lex_gt : ∀ (ns ms : List Int), Ob.lexAt (fun j => decide (ns.getD j 0 = ms.getD j 0)) (fun j => decide (ms.getD j 0 < ns.getD j 0)) (decide (ns.length > ms.length)) 0 (min ns.length ms.length) = ltL ms ns
  | [], [] => rfl
  | [], _ :: _ => by rw [show min ([] : List Int).length _ = 0 from Nat.zero_min _, Ob.lexAt_zero]; simp [ltL]
  | a :: x, [] => by rw [show min _ ([] : List Int).length = 0 from Nat.min_zero _, Ob.lexAt_zero]; simp [ltL]
  | a :: x, b :: y => by
    rw [lexAt_cons (fun u v => decide (v < u)) (fun n m => decide (n > m)) (fun n m => by simp), lex_gt x y, ltL]
    by_cases h : a = b
    · rw [if_pos h, if_pos h.symm]
    · rw [if_neg h, if_neg fun z => h z.symm]
theorem lex_le : ∀ (ns ms : List Int), Ob.lexAt (fun j => decide (ns.getD j 0 = ms.getD j 0)) (fun j => decide (ns.getD j 0 ≤ ms.getD j 0)) (decide (ns.length ≤ ms.length)) 0 (min ns.length ms.length) = !ltL ms ns
  | [], [] => rfl
  | [], _ :: _ => by rw [show min ([] : List Int).length _ = 0 from Nat.zero_min _, Ob.lexAt_zero]; simp [ltL]
  | a :: x, [] => by rw [show min _ ([] : List Int).length = 0 from Nat.min_zero _, Ob.lexAt_zero]; simp [ltL]
  | a :: x, b :: y => by
    rw [lexAt_cons (fun u v => decide (u ≤ v)) (fun n m => decide (n ≤ m)) (fun n m => by simp), lex_le x y, ltL]
    by_cases h : a = b
    · rw [if_pos h, if_pos h.symm]
    · rw [if_neg h, if_neg fun z => h z.symm]
      by_cases h2 : b < a
      · rw [decide_eq_true h2, decide_eq_false (by omega)]; rfl
      · rw [decide_eq_false h2, decide_eq_true (by omega)]; rfl
theorem lex_ge : ∀ (ns ms : List Int), Ob.lexAt (fun j => decide (ns.getD j 0 = ms.getD j 0)) (fun j => decide (ms.getD j 0 ≤ ns.getD j 0)) (decide (ns.length ≥ ms.length)) 0 (min ns.length ms.length) = !ltL ns ms
  | [], [] => rfl
  | [], _ :: _ => by rw [show min ([] : List Int).length _ = 0 from Nat.zero_min _, Ob.lexAt_zero]; simp [ltL]
  | a :: x, [] => by rw [show min _ ([] : List Int).length = 0 from Nat.min_zero _, Ob.lexAt_zero]; simp [ltL]
  | a :: x, b :: y => by
    rw [lexAt_cons (fun u v => decide (v ≤ u)) (fun n m => decide (n ≥ m)) (fun n m => by simp), lex_ge x y, ltL]
    by_cases h : a = b
    · rw [if_pos h, if_pos h]
    · rw [if_neg h, if_neg h]
      by_cases h2 : a < b
      · rw [decide_eq_true h2, decide_eq_false (by omega)]; rfl
      · rw [decide_eq_false h2, decide_eq_true (by omega)]; rfl
section
variable {A : Around} {s : Shared} {a b : Addr} {ia ib : Array Value} {ns ms : List Int}
theorem tup_at (pa : IntsAre ia.toList ns) : ∀ j (h1 : j < ia.size), ∃ t, ia[j] = .int (ns.getD j 0) t := fun j h1 => by
  exact PyProof.Rows.IntsAre.int_at pa _ _ (by simp [h1])
theorem tup_eq (i1 : IntsAre ia.toList ns) (i2 : IntsAre ib.toList ms) : ∀ j (h1 : j < ia.size) (h2 : j < ib.size), SeqAt.EqAt A s ia[j] ib[j] (decide (ns.getD j 0 = ms.getD j 0)) := fun j h1 h2 => by
  obtain ⟨t, et⟩ := tup_at i1 j h1
  obtain ⟨t', et'⟩ := tup_at i2 j h2
  rw [et, et']
  have z : (ns.getD j 0 == ms.getD j 0) = decide (ns.getD j 0 = ms.getD j 0) := by  -- gw
    by_cases q : ns.getD j 0 = ms.getD j 0  -- gw
    · rw [decide_eq_true q]; exact beq_iff_eq.mpr q  -- gw
    · rw [decide_eq_false q]; exact beq_eq_false_iff_ne.mpr q  -- gw
  rw [← z]
  exact SeqAt.EqAt.int_int _ _ _ _
theorem tup_lt (pa : s.heap.IsTuple a ia) (pb : s.heap.IsTuple b ib) (i1 : IntsAre ia.toList ns) (i2 : IntsAre ib.toList ms) (hu : A.units < cLine) : Ob.RcOp .Lt A s (.ref a) (.ref b) (ltL ns ms) := by
  have R := Ob.RcOp.tuples_lt (A := A) (r := fun j => decide (ns.getD j 0 < ms.getD j 0)) pa pb hu (tup_eq i1 i2) fun j h1 h2 _ => by
    obtain ⟨t, et⟩ := tup_at i1 j h1
    obtain ⟨t', et'⟩ := tup_at i2 j h2
    rw [et, et']
    exact Ob.RcOp.lt_int _ _ _ _
  have e1 : ia.size = ns.length := by have := i1.length; simpa using this
  have e2 : ib.size = ms.length := by have := i2.length; simpa using this
  rw [e1, e2, lex_lt] at R
  exact R
theorem tup_gt (pa : s.heap.IsTuple a ia) (pb : s.heap.IsTuple b ib) (i1 : IntsAre ia.toList ns) (i2 : IntsAre ib.toList ms) (hu : A.units < cLine) : Ob.RcOp .Gt A s (.ref a) (.ref b) (ltL ms ns) := by
  have R := Ob.RcOp.tuples_gt (A := A) (r := fun j => decide (ms.getD j 0 < ns.getD j 0)) pa pb hu (tup_eq i1 i2) fun j h1 h2 _ => by
    obtain ⟨t, et⟩ := tup_at i1 j h1
    obtain ⟨t', et'⟩ := tup_at i2 j h2
    rw [et, et']
    exact Ob.RcOp.gt_int _ _ _ _
  have e1 : ia.size = ns.length := by have := i1.length; simpa using this
  have e2 : ib.size = ms.length := by have := i2.length; simpa using this
  rw [e1, e2, lex_gt] at R
  exact R
theorem tup_le (pa : s.heap.IsTuple a ia) (pb : s.heap.IsTuple b ib) (i1 : IntsAre ia.toList ns) (i2 : IntsAre ib.toList ms) (hu : A.units < cLine) : Ob.RcOp .LtE A s (.ref a) (.ref b) (!ltL ms ns) := by
  have R := Ob.RcOp.tuples_le (A := A) (r := fun j => decide (ns.getD j 0 ≤ ms.getD j 0)) pa pb hu (tup_eq i1 i2) fun j h1 h2 _ => by
    obtain ⟨t, et⟩ := tup_at i1 j h1
    obtain ⟨t', et'⟩ := tup_at i2 j h2
    rw [et, et']
    exact Ob.RcOp.le_int _ _ _ _
  have e1 : ia.size = ns.length := by have := i1.length; simpa using this
  have e2 : ib.size = ms.length := by have := i2.length; simpa using this
  rw [e1, e2, lex_le] at R
  exact R
theorem tup_ge (pa : s.heap.IsTuple a ia) (pb : s.heap.IsTuple b ib) (i1 : IntsAre ia.toList ns) (i2 : IntsAre ib.toList ms) (hu : A.units < cLine) : Ob.RcOp .GtE A s (.ref a) (.ref b) (!ltL ns ms) := by
  have R := Ob.RcOp.tuples_ge (A := A) (r := fun j => decide (ms.getD j 0 ≤ ns.getD j 0)) pa pb hu (tup_eq i1 i2) fun j h1 h2 _ => by
    obtain ⟨t, et⟩ := tup_at i1 j h1
    obtain ⟨t', et'⟩ := tup_at i2 j h2
    rw [et, et']
    exact Ob.RcOp.ge_int _ _ _ _
  have e1 : ia.size = ns.length := by have := i1.length; simpa using this
  have e2 : ib.size = ms.length := by have := i2.length; simpa using this
  rw [e1, e2, lex_ge] at R
  exact R
end
/-! ### min and max of two tuples -/
section
variable {prog : Program} {w : World} {A : Around} {E : Value → Shared → Prop} {s : Shared} {a b : Addr} {ia ib : Array Value} {ns ms : List Int}
theorem two_at {x y v : Value} {i : Nat} (h : (#[x, y] : Array Value)[i]? = some v) : (i = 0 ∧ v = x) ∨ (i = 1 ∧ v = y) := by
  match i with
  | 0 => exact .inl ⟨rfl, (Option.some.inj (by simpa using h)).symm⟩
  | 1 => exact .inr ⟨rfl, (Option.some.inj (by simpa using h)).symm⟩
  | i + 2 => simp at h
theorem min_twoT {Q : Value → Shared → Prop} (hh : A.handled = none) (pa : s.heap.IsTuple a ia) (pb : s.heap.IsTuple b ib) (i1 : IntsAre ia.toList ns) (i2 : IntsAre ib.toList ms) (hu : A.units + 1 < cLine)
    (h : ∀ h' tk, (∀ c o, s.heap.get? c = some o → h'.get? c = some o) → Q (.ref (if ltL ms ns then b else a)) { s with heap := h', toks := tk }) :
    wpAny (model prog w) A (call (.builtin "min") [.ref a, .ref b]) Q E s := by
  have hname : (toString "min" ++ toString ".loop" : String) = "min.loop" := by decide  -- gw
  refine call_function_tree F.kind_min F.plain_min F.entry_min (F.args_min2 _ _) ?_  -- gw
  show wpAny _ A.in1 (Builtin.Builtins.bindParams "min" ["key", "default"] 0 ⟨[], []⟩ >>= _) _ _ s  -- gw
  refine wpAny_bind (wpAny_of_eq (show Builtin.Builtins.bindParams "min" ["key", "default"] 0 ⟨[], []⟩ = pure [none, none] from rfl) ?_)  -- gw
  show wpAny _ A.in1 (newTuple [.ref a, .ref b] >>= _) _ _ s
  refine wpAny_bind (wpAny_newObj_type ?_)  -- gw
  have keep0 : ∀ c o, s.heap.get? c = some o → (s.heap.push { cls := .type "tuple", data := .seq #[.ref a, .ref b] }).get? c = some o := fun c o e => Heap.get?_push_of_some _ e
  have hT : (s.heap.push { cls := .type "tuple", data := .seq #[.ref a, .ref b] }).IsTuple s.heap.objs.size #[.ref a, .ref b] := ⟨_, Heap.get?_push_size _ rfl, rfl, 0, rfl⟩
  refine wpAny_bind (PySem.W.iter_tupleW (A := A.in1) (s := { s with heap := s.heap.push { cls := .type "tuple", data := .seq #[.ref a, .ref b] } }) hh hT fun s₂ e2 W st0 hfp hw hkeep => ?_)
  refine wpAny_bind (wpAny_newObj_type ?_)  -- gw
  have hSf : s₂.heap.objs.size ∉ _ := fun hm => Nat.lt_irrefl _ (hfp _ hm)
  rw [hname]
  have kall : ∀ c o, s.heap.get? c = some o → s₂.heap.get? c = some o := fun c o e => hkeep c o (keep0 c o e)
  refine wpAny_pure ⟨plainId_quiet F.plain_min_loop _, codeAny_min_loop_firstH W s.heap (fun c o e => hw c o (keep0 c o e)) (fun i j => if i = 1 ∧ j = 0 then ltL ms ns else if i = 0 ∧ j = 1 then ltL ns ms else if i = 0 then ltL ns ns else ltL ms ms) ?_ s₂.heap.objs.size hSf (fresh_in kall) _ (Nat.zero_lt_succ 1) (fun c o e => Heap.get?_push_of_some _ (kall c o e)) (W.frame 0 s₂ _ s₂.toks st0 (Nat.le_refl _) fun c _ o e => Heap.get?_push_of_some _ e) (Heap.get?_push_size _ rfl) fun v s' hP hm => ?_⟩
  · intro i j vi vj s' Q E hk hi hj hq
    have pa' : s'.heap.IsTuple a ia := by obtain ⟨o, e, r⟩ := pa; exact ⟨o, hk _ _ e, r⟩
    have pb' : s'.heap.IsTuple b ib := by obtain ⟨o, e, r⟩ := pb; exact ⟨o, hk _ _ e, r⟩
    have hu' : A.in1.units < cLine := hu
    rcases two_at hi with ⟨rfl, rfl⟩ | ⟨rfl, rfl⟩ <;> rcases two_at hj with ⟨rfl, rfl⟩ | ⟨rfl, rfl⟩
    · exact tup_lt pa' pa' i1 i1 hu' prog w E Q (by simpa using hq)
    · exact tup_lt pa' pb' i1 i2 hu' prog w E Q (by simpa using hq)
    · exact tup_lt pb' pa' i2 i1 hu' prog w E Q (by simpa using hq)
    · exact tup_lt pb' pb' i2 i2 hu' prog w E Q (by simpa using hq)
  · have hm2 : Moved [_] (fun a b => b = a) s₂ s' := Moved.drop_new (tk := s₂.toks) hm (Nat.le_refl _)
    obtain ⟨h', tk, rfl, hk⟩ := PySem.W.moved_old e2 rfl hm2
    have hv : v = .ref (if ltL ms ns then b else a) := by
      rcases two_at hP with ⟨h0, rfl⟩ | ⟨h0, rfl⟩
      · by_cases q : ltL ms ns = true
        · simp [argBest, q] at h0
        · rw [if_neg q]
      · by_cases q : ltL ms ns = true
        · rw [if_pos q]
        · simp [argBest, q] at h0
    rw [hv]
    exact h h' tk fun c o e => hk c o (keep0 c o e)
theorem max_twoT {Q : Value → Shared → Prop} (hh : A.handled = none) (pa : s.heap.IsTuple a ia) (pb : s.heap.IsTuple b ib) (i1 : IntsAre ia.toList ns) (i2 : IntsAre ib.toList ms) (hu : A.units + 1 < cLine)
    (h : ∀ h' tk, (∀ c o, s.heap.get? c = some o → h'.get? c = some o) → Q (.ref (if ltL ns ms then b else a)) { s with heap := h', toks := tk }) :
    wpAny (model prog w) A (call (.builtin "max") [.ref a, .ref b]) Q E s := by
  have hname : (toString "max" ++ toString ".loop" : String) = "max.loop" := by decide  -- gw
  refine call_function_tree F.kind_max F.plain_max F.entry_max (F.args_max2 _ _) ?_  -- gw
  show wpAny _ A.in1 (Builtin.Builtins.bindParams "max" ["key", "default"] 0 ⟨[], []⟩ >>= _) _ _ s  -- gw
  refine wpAny_bind (wpAny_of_eq (show Builtin.Builtins.bindParams "max" ["key", "default"] 0 ⟨[], []⟩ = pure [none, none] from rfl) ?_)  -- gw
  show wpAny _ A.in1 (newTuple [.ref a, .ref b] >>= _) _ _ s
  refine wpAny_bind (wpAny_newObj_type ?_)  -- gw
  have keep0 : ∀ c o, s.heap.get? c = some o → (s.heap.push { cls := .type "tuple", data := .seq #[.ref a, .ref b] }).get? c = some o := fun c o e => Heap.get?_push_of_some _ e
  have hT : (s.heap.push { cls := .type "tuple", data := .seq #[.ref a, .ref b] }).IsTuple s.heap.objs.size #[.ref a, .ref b] := ⟨_, Heap.get?_push_size _ rfl, rfl, 0, rfl⟩
  refine wpAny_bind (PySem.W.iter_tupleW (A := A.in1) (s := { s with heap := s.heap.push { cls := .type "tuple", data := .seq #[.ref a, .ref b] } }) hh hT fun s₂ e2 W st0 hfp hw hkeep => ?_)
  refine wpAny_bind (wpAny_newObj_type ?_)  -- gw
  have hSf : s₂.heap.objs.size ∉ _ := fun hm => Nat.lt_irrefl _ (hfp _ hm)
  rw [hname]
  have kall : ∀ c o, s.heap.get? c = some o → s₂.heap.get? c = some o := fun c o e => hkeep c o (keep0 c o e)
  refine wpAny_pure ⟨plainId_quiet F.plain_max_loop _, codeAny_max_loop_firstH W s.heap (fun c o e => hw c o (keep0 c o e)) (fun i j => if i = 1 ∧ j = 0 then ltL ns ms else if i = 0 ∧ j = 1 then ltL ms ns else if i = 0 then ltL ns ns else ltL ms ms) ?_ s₂.heap.objs.size hSf (fresh_in kall) _ (Nat.zero_lt_succ 1) (fun c o e => Heap.get?_push_of_some _ (kall c o e)) (W.frame 0 s₂ _ s₂.toks st0 (Nat.le_refl _) fun c _ o e => Heap.get?_push_of_some _ e) (Heap.get?_push_size _ rfl) fun v s' hP hm => ?_⟩
  · intro i j vi vj s' Q E hk hi hj hq
    have pa' : s'.heap.IsTuple a ia := by obtain ⟨o, e, r⟩ := pa; exact ⟨o, hk _ _ e, r⟩
    have pb' : s'.heap.IsTuple b ib := by obtain ⟨o, e, r⟩ := pb; exact ⟨o, hk _ _ e, r⟩
    have hu' : A.in1.units < cLine := hu
    rcases two_at hi with ⟨rfl, rfl⟩ | ⟨rfl, rfl⟩ <;> rcases two_at hj with ⟨rfl, rfl⟩ | ⟨rfl, rfl⟩
    · exact tup_gt pa' pa' i1 i1 hu' prog w E Q (by simpa using hq)
    · exact tup_gt pa' pb' i1 i2 hu' prog w E Q (by simpa using hq)
    · exact tup_gt pb' pa' i2 i1 hu' prog w E Q (by simpa using hq)
    · exact tup_gt pb' pb' i2 i2 hu' prog w E Q (by simpa using hq)
  · have hm2 : Moved [_] (fun a b => b = a) s₂ s' := Moved.drop_new (tk := s₂.toks) hm (Nat.le_refl _)
    obtain ⟨h', tk, rfl, hk⟩ := PySem.W.moved_old e2 rfl hm2
    have hv : v = .ref (if ltL ns ms then b else a) := by
      rcases two_at hP with ⟨h0, rfl⟩ | ⟨h0, rfl⟩
      · by_cases q : ltL ns ms = true
        · simp [argBest, q] at h0
        · rw [if_neg q]
      · by_cases q : ltL ns ms = true
        · rw [if_pos q]
        · simp [argBest, q] at h0
    rw [hv]
    exact h h' tk fun c o e => hk c o (keep0 c o e)
end
end GW

/-! GW, part 3: the operators' rules over plain data. -/
namespace GW
open PySem PySem.Spec PyProof.Rows L2  -- gw
/-- a result that leaves all that stood: what is own is new -/
def Yld (K : PySem.W.Frag) (H : Hp) (o : O) (Q : VK) : Prop := ∀ v H', Kp (fun _ => False) H H' → Ow K H' v o → (∀ a, Ft v o a → H a = none) → Q v H'
section
variable {K : PySem.W.Frag} {H : Hp} {Q : VK}
theorem Yld.now {d : D} {v : V} (y : Yld K H (.fz d) Q) (r : Rp K H v d) : Q v H := y v H .refl r fun _ f => nomatch f.1
theorem Yld.newL {ds : List D} {vs : List V} (y : Yld K H (.ls ds) Q) (r : RpA K H vs ds) {p : Addr} (n : H p = none) : Q (.ref p) (upd H p (.lst vs)) :=
  y _ _ (Kp.new n) ⟨p, vs, rfl, upd_same, r.keep (Kp.new (P := fun _ => False) n).still⟩ fun a f => by obtain ⟨_, e⟩ := f; cases e; exact n
theorem Yld.newT {ds : List D} {vs : List V} (y : Yld K H (.fz (.tuple ds)) Q) (r : RpA K H vs ds) {p : Addr} (n : H p = none) : Q (.ref p) (upd H p (.tup vs)) :=
  y _ _ (Kp.new n) (Rp.tup (.inl (.inl upd_same)) (r.keep (Kp.new (P := fun _ => False) n).still)) fun a f => nomatch f.1
theorem Got.yld {args : Ar} {σ σ1 : St} {ρ ρ1 : Fm} {H0 H' : Hp} {F : Addr → Prop} {v : V} {o : O} (g : Got K args σ ρ H0 σ1 ρ1 H F) (k : Kp (fun _ => False) H H') (n : ∀ a, Ft v o a → H a = none) :
    Got K args σ ρ H0 σ1 ρ1 H' (Ft v o) := by
  refine ⟨g.kp.trans k fun c z => z.elim, g.fr.keep k fun _ _ z => z, fun a f q => ?_, fun a h => ?_⟩
  · obtain ⟨u, e, _⟩ := q.there g.fr
    rw [n a f] at e; cases e
  · rcases h with h | h
    · exact g.fre a (.inl h)
    · exact .inr (g.kp.free (n a h))

/-! ### reading -/
theorem items_of {v : V} {o : O} {ds : List D} (w : Ow K H v o) (e : items o = some ds) : ∃ a vs, v = .ref a ∧ (SqL K H a vs ∨ SqT K H a vs) ∧ RpA K H vs ds := by
  cases o with
  | ls es =>
    cases e
    obtain ⟨a, vs, rfl, h, r⟩ := w
    exact ⟨a, vs, rfl, .inl (SqL.of h), r⟩
  | dc _ => exact w.elim
  | fz d =>
    cases d with
    | list es =>
      cases e
      cases w with
      | lst h r => exact ⟨_, _, rfl, .inl h.sq, r⟩
    | tuple es =>
      cases e
      cases w with
      | tup h r => exact ⟨_, _, rfl, .inr h, r⟩
    | _ => cases e
theorem litems_of {v : V} {o : O} {ds : List D} (w : Ow K H v o) (e : litems o = some ds) : ∃ a vs, v = .ref a ∧ SqL K H a vs ∧ RpA K H vs ds := by
  cases o with
  | ls es =>
    cases e
    obtain ⟨a, vs, rfl, h, r⟩ := w
    exact ⟨a, vs, rfl, SqL.of h, r⟩
  | dc _ => exact w.elim
  | fz d =>
    cases d with
    | list es =>
      cases e
      cases w with
      | lst h r => exact ⟨_, _, rfl, h.sq, r⟩
    | _ => cases e
theorem tuple_of {v : V} {ds : List D} (w : Ow K H v (.fz (.tuple ds))) : ∃ a vs, v = .ref a ∧ SqT K H a vs ∧ RpA K H vs ds := by
  cases w with
  | tup h r => exact ⟨_, _, rfl, h, r⟩
theorem int_of {v : V} {i : Int} (w : Ow K H v (.fz (.int i))) : v = .int i := by cases w; rfl
theorem bool_of {v : V} {i : Bool} (w : Ow K H v (.fz (.bool i))) : v = .bl i := by cases w; rfl
theorem str_of {v : V} {i : Str} (w : Ow K H v (.fz (.str i))) : v = .str i := by cases w; rfl
theorem ow_dp {v : V} {o : O} (w : Ow K H v o) : Dp K H v o.toD := by
  cases o with
  | fz d => exact Rp.dp w
  | ls ds =>
    obtain ⟨a, vs, rfl, h, r⟩ := w
    exact .lst (SqL.of h) r.dp
  | dc _ => exact w.elim
theorem ints_of : ∀ {ds : List D} {ns : List Int} {vs : List V}, intsF ds = some ns → RpA K H vs ds → vs = ns.map V.int
  | [], _, _, e, .nil => by cases e; rfl
  | .int i :: r, ns, _, e, .cons h t => by
    cases h
    unfold intsF at e
    cases q : intsF r with
    | none => rw [q] at e; cases e  -- gw
    | some ms =>
      rw [q] at e
      cases e
      rw [ints_of q t, List.map_cons]
theorem bools_of : ∀ {ds : List D} {ns : List Bool} {vs : List V}, boolsF ds = some ns → RpA K H vs ds → vs = ns.map V.bl
  | [], _, _, e, .nil => by cases e; rfl
  | .bool i :: r, ns, _, e, .cons h t => by
    cases h
    unfold boolsF at e
    cases q : boolsF r with
    | none => rw [q] at e; cases e  -- gw
    | some ms =>
      rw [q] at e
      cases e
      rw [bools_of q t, List.map_cons]
theorem rpa_ints (ns : List Int) : RpA K H (ns.map V.int) (ns.map PyData.int) := by
  induction ns with
  | nil => exact .nil
  | cons n r ih => exact .cons (.int n) ih
end

/-! ### binary operators -/
section
variable {X : Cx}
theorem cat_tup0 {prog : Program} {w : World} {A : Around} {E : Value → Shared → Prop} {s : Shared} {t b : Addr} {vs ws : Array Value} {Q : Value → Shared → Prop} (ht : IsTup s.heap t vs) (hb : IsTup s.heap b ws) (hv : vs.isEmpty = true)
    (h1 : Q (.ref b) s) : wpAny (model prog w) A (binaryOp .Add (.ref t) (.ref b)) Q E s := by
  obtain ⟨⟨c1, d1, x1, y1⟩, ho, hc, n, hd⟩ := id ht; obtain ⟨⟨c2, d2, x2, y2⟩, ho2, hc2, n2, hd2⟩ := id hb
  simp only at hc hd hc2 hd2; subst hc hd hc2 hd2
  exact concat_meets ⟨_, ho, rfl⟩ ⟨_, ho2, rfl⟩ noFill_tuple_add seq_tuple_add PySem.F.slot_tuple_add PySem.F.entry_tuple_add (PySem.F.args_tuple_add_2 _ _) (tuple_addW0 t b vs ws n n2 d1 d2 y1 y2 hv) ⟨ho, ho2, h1⟩
def opOf : BOp → Operator
  | .add => .Add | .sub => .Sub | .mul => .Mult | .fdiv => .FloorDiv | .mod => .Mod | .band => .BitAnd
def rBin (K : PySem.W.Frag) (op : BOp) : R2 := fun x y H Q => ∃ a b o, Ow K H x a ∧ Ow K H y b ∧ binF op a b = some o ∧ Yld K H o Q
theorem fits_of {n : Nat} (h : fits n = true) : n ≤ sizeLine := by rw [sizeLine_eq]; exact of_decide_eq_true h
theorem bin_tup : OpR X (binaryOp .Add) (fun x y H Q => ∃ a b, Ow X.K H x (.fz (.tuple a)) ∧ Ow X.K H y (.fz (.tuple b)) ∧ a.length + b.length ≤ sizeLine ∧ Yld X.K H (.fz (.tuple (a ++ b))) Q) := by
  intro pins s σ H x y v u Q I rx ry ⟨a, b, wa, wb, hz, yl⟩
  obtain ⟨p, vs, rfl, h1, r1⟩ := tuple_of wa
  obtain ⟨q, ws, rfl, h2, r2⟩ := tuple_of wb
  cases a with
  | nil =>
    cases r1
    cases rx; cases ry
    obtain ⟨i1, t1, z1, _⟩ := I.tuple h1
    obtain ⟨i2, t2, z2, _⟩ := I.tuple h2
    cases t1
    exact cat_tup0 z1 z2 rfl ⟨.ref q, H, I, rfl, yl.now wb⟩
  | cons a as =>
    refine op_catT pins s σ H _ _ v u Q I rx ry ⟨p, q, vs, ws, rfl, rfl, h1, h2, ?_, ?_, ?_, ?_⟩
    · cases r1; exact fun z => nomatch z
    · rw [r1.length, r2.length]; exact hz
    · intro z
      subst z
      cases r2
      exact yl.now (by rw [List.append_nil]; exact wa)
    · exact fun _ t n => yl.newT (r1.append r2) n
theorem bin_lst : OpR X (binaryOp .Add) (fun x y H Q => ∃ a b ds es, Ow X.K H x a ∧ Ow X.K H y b ∧ litems a = some ds ∧ litems b = some es ∧ ds.length + es.length ≤ sizeLine ∧ Yld X.K H (.ls (ds ++ es)) Q) := by
  intro pins s σ H x y v u Q I rx ry ⟨a, b, ds, es, wa, wb, e1, e2, hz, yl⟩
  obtain ⟨p, vs, rfl, h1, r1⟩ := litems_of wa e1
  obtain ⟨q, ws, rfl, h2, r2⟩ := litems_of wb e2
  cases rx; cases ry
  obtain ⟨i1, t1, z1, _⟩ := I.list h1
  obtain ⟨i2, t2, z2, _⟩ := I.list h2
  have l1 := t1.length; have l2 := t2.length; have m1 := r1.length; have m2 := r2.length
  obtain ⟨⟨c1, d1, x1, y1⟩, n1, ho, hc, hd, hx⟩ := z1; obtain ⟨⟨c2, d2, x2, y2⟩, n2, ho2, hc2, hd2, hx2⟩ := z2
  simp only at hc hd hx hc2 hd2 hx2; subst hc hd hx hc2 hd2 hx2
  have sz : i1.toArray.size + i2.toArray.size ≤ sizeLine := by rw [List.size_toArray, List.size_toArray, ← l1, ← l2, m1, m2]; exact hz
  refine concat_meets ⟨_, ho, rfl⟩ ⟨_, ho2, rfl⟩ noFill_list_add seq_list_add PySem.F.slot_list_add PySem.F.entry_list_add (PySem.F.args_list_add_2 _ _) (list_addW p q i1.toArray i2.toArray n1 n2 none none y1 y2 sz) ⟨ho, ho2, ?_⟩
  have n := I.hok.fresh (a := s.heap.objs.size) (Nat.le_refl _)
  refine ⟨.ref s.heap.objs.size, _, I.laid (t' := s.toks) (o := .lst (vs ++ ws)) (fun b ob q => Heap.get?_push_of_some _ q) (Nat.le_refl _) ?_, rfl, yl.newL (r1.append r2) n⟩
  refine ⟨by rw [List.length_append, m1, m2]; exact hz, i1 ++ i2, 0, t1.append t2, ?_⟩
  show (s.heap.push _).get? s.heap.objs.size = _
  rw [Heap.get?_push_size _ rfl, List.append_toArray]
theorem rep_rp {K : PySem.W.Frag} {H : Hp} {vs : List V} {ds : List D} (r : RpA K H vs ds) : ∀ k : Nat, RpA K H (List.replicate k vs).flatten (List.replicate k ds).flatten
  | 0 => .nil
  | k + 1 => by
    rw [List.replicate_succ, List.replicate_succ, List.flatten_cons, List.flatten_cons]  -- gw
    exact r.append (rep_rp r k)
/-- sum of a tuple -/
theorem sum_tup {prog : Program} {w : World} {A : Around} {E : Value → Shared → Prop} {s : Shared} {t : Addr} {its : List Value} {ns : List Int} {Q : Value → Shared → Prop} (hh : A.handled = none) (ht : s.heap.IsTuple t its.toArray) (hi : IntsAre its ns)
    (h : ∀ h' tk t', (∀ b o, s.heap.get? b = some o → h'.get? b = some o) → Q (.int ns.sum t') { s with heap := h', toks := tk }) : wpAny (model prog w) A (call (.builtin "sum") [.ref t]) Q E s := by
  obtain ⟨xs, e⟩ := hi.allInts.items  -- gw
  have hn : numsOf (intItems xs).toList = ns := by rw [← e]; exact hi.numsOf  -- gw
  rw [nums_intItems] at hn
  rw [e] at ht
  refine PySem.W.ktm_sumG hh ht fun h' tk t' hk => ?_
  have := h h' tk t' hk
  rwa [preSum_eq, List.take_of_length_le (by simp), hn]
theorem mul_no (l : Addr) (items : Array Value) (n : Nat) (dd : Option Addr) (sl : Array (Option Value)) (u : Tok) (c1 : items.isEmpty = false) :
    Meets (Builtin.«tuple.__mul__» ⟨[.ref l, .int 0 u], []⟩) (fun _ R s => s.heap.get? l = some { cls := .type "tuple", dict := dd, data := .seq items n, slots := sl } ∧
      R (.ok (.ret (Value.ref s.heap.objs.size))) { s with heap := s.heap.push { cls := Value.type "tuple", data := Data.seq #[] }, toks := s.toks }) :=
  .of_wp fun prog w A R s h => by  -- gw
    obtain ⟨hp, g, d, tk, os⟩ := s  -- gw
    obtain ⟨hl, h⟩ := h
    have f1 := AutoSeq1.idx_int
    wp_walk using wpAny_loadPart' hl  -- gw
    exact ⟨_, rfl, h⟩
theorem mul_one (l : Addr) (items : Array Value) (n : Nat) (dd : Option Addr) (sl : Array (Option Value)) (u : Tok) :
    Meets (Builtin.«tuple.__mul__» ⟨[.ref l, .int 1 u], []⟩) (fun _ R s => s.heap.get? l = some { cls := .type "tuple", dict := dd, data := .seq items n, slots := sl } ∧
      R (.ok (.ret (Value.ref l))) s) :=
  .of_wp fun prog w A R s h => by  -- gw
    obtain ⟨hp, g, d, tk, os⟩ := s  -- gw
    obtain ⟨hl, h⟩ := h
    have f1 := AutoSeq1.idx_int
    wp_walk using wpAny_loadPart' hl  -- gw
    exact ⟨_, rfl, h⟩
/-- a tuple, many times: at most a million items come out -/
theorem rep_many {pins : List (Addr × Obj)} {s : Shared} {σ : St} {H : Hp} {p : Addr} {k : Int} {v u : Value} {vs : List V} {Q : VK} (I : L2.Inv X pins σ H s) (rx : RelV (.ref p) v) (ry : RelV (.int k) u) (ht : SqT X.K H p vs) (ne : vs ≠ []) (hk : 0 ≤ k ∧ k ≤ 1000000)
    (hz : vs.length * k.toNat ≤ 1000000) (q1 : k = 1 → Q (.ref p) H) (q : ∀ t, H t = none → Q (.ref t) (upd H t (.tup (List.replicate k.toNat vs).flatten))) : wpAny (model X.prog X.w) X.A (binaryOp .Mult v u) (EP X pins σ Q) X.xe s := by
  cases rx
  obtain ⟨tok, rfl⟩ := ry
  obtain ⟨us, rv, tp, _⟩ := I.tuple ht
  obtain ⟨ob, ho, hc, c, hd⟩ := id tp
  obtain ⟨cls, dd, data, slots⟩ := ob
  simp only at hc hd
  subst hc hd
  have hl : us.length = vs.length := rv.length.symm
  have full : us.toArray.isEmpty = false := by
    cases us with
    | nil => exact absurd (List.eq_nil_of_length_eq_zero hl.symm) ne
    | cons _ _ => rfl
  by_cases k1 : k = 1
  · subst k1
    refine wpAny_binaryOp_repeat_ref (T := "tuple") (U := "int") (by decide) ⟨_, ho, rfl⟩ (fun s' => typeIs_int s' 1 tok) noFill_tuple_mul PySem.F.fills_int_mul PySem.F.slot_int_rmul repeat_tuple PySem.F.slot_int_index.lookup (call_meets PySem.F.slot_int_rmul (typeIs_int s 1 tok) PySem.F.entry_int_rmul (PySem.F.args_int_rmul_2 _ _) (int_rmul_tuple 1 tok p us.toArray c dd slots) ⟨ho, rfl, ⟨_, ho, rfl⟩, ?_⟩)
    refine call_meets PySem.F.slot_tuple_mul ⟨_, ho, rfl⟩ PySem.F.entry_tuple_mul (PySem.F.args_tuple_mul_2 _ _) (mul_one p us.toArray c dd slots tok) ⟨ho, ?_⟩
    exact ⟨.ref p, H, I, rfl, q1 rfl⟩
  by_cases k0 : k = 0
  · subst k0
    refine wpAny_binaryOp_repeat_ref (T := "tuple") (U := "int") (by decide) ⟨_, ho, rfl⟩ (fun s' => typeIs_int s' 0 tok) noFill_tuple_mul PySem.F.fills_int_mul PySem.F.slot_int_rmul repeat_tuple PySem.F.slot_int_index.lookup (call_meets PySem.F.slot_int_rmul (typeIs_int s 0 tok) PySem.F.entry_int_rmul (PySem.F.args_int_rmul_2 _ _) (int_rmul_tuple 0 tok p us.toArray c dd slots) ⟨ho, rfl, ⟨_, ho, rfl⟩, ?_⟩)
    refine call_meets PySem.F.slot_tuple_mul ⟨_, ho, rfl⟩ PySem.F.entry_tuple_mul (PySem.F.args_tuple_mul_2 _ _) (mul_no p us.toArray c dd slots tok full) ⟨ho, ?_⟩
    exact ⟨.ref s.heap.objs.size, _, I.laid (t' := s.toks) (o := .tup []) (fun _ _ e => Heap.get?_push_of_some _ e) (Nat.le_refl _) ⟨Nat.zero_le _, [], .nil, ⟨_, Heap.get?_push_size _ rfl, rfl, 0, rfl⟩⟩, rfl, q _ (I.hok.fresh (Nat.le_refl _))⟩
  have nk : ((k.toNat : Nat) : Int) = k := Int.toNat_of_nonneg (by omega)
  have few : ((us.toArray.size : Nat) : Int) * k ≤ 1000000 := by
    rw [List.size_toArray, hl, ← nk, ← Int.natCast_mul]
    generalize vs.length * k.toNat = m at hz ⊢
    omega
  have out : (List.replicate k.toNat us).flatten.length ≤ sizeLine := by
    rw [PyProof.Rows.lm_len_rep_flat, hl, sizeLine_eq, Nat.mul_comm]
    omega
  have a0 : (decide (k < -(2 ^ 63)) || decide (k ≥ 2 ^ 63)) = false := by rw [decide_eq_false (by omega), decide_eq_false (by omega)]; rfl
  have a1 : (us.toArray.isEmpty || k == 1) = false := by rw [full, Bool.false_or]; exact beq_eq_false_iff_ne.mpr (by omega)
  have a2 : (decide (k ≤ 0) || us.toArray.isEmpty) = false := by rw [full, decide_eq_false (by omega)]; rfl
  have a4 : Builtin.Tuple.tupleTooMany (((us.toArray.size : Nat) : Int) * k) = false := by
    unfold Builtin.Tuple.tupleTooMany  -- gw
    rw [sizeLine_eq]; exact decide_eq_false (by omega)
  have step := tuple_mulW p us.toArray c dd slots k tok a0 a1 a2 (by omega) a4 (by rw [size_rep, List.size_toArray]; exact out)
  refine wpAny_binaryOp_repeat_ref (T := "tuple") (U := "int") (by decide) ⟨_, ho, rfl⟩ (fun s' => typeIs_int s' k tok) noFill_tuple_mul PySem.F.fills_int_mul PySem.F.slot_int_rmul repeat_tuple PySem.F.slot_int_index.lookup (call_meets PySem.F.slot_int_rmul (typeIs_int s k tok) PySem.F.entry_int_rmul (PySem.F.args_int_rmul_2 _ _) (int_rmul_tuple k tok p us.toArray c dd slots) ⟨ho, rfl, ⟨_, ho, rfl⟩, ?_⟩)
  refine call_meets PySem.F.slot_tuple_mul ⟨_, ho, rfl⟩ PySem.F.entry_tuple_mul (PySem.F.args_tuple_mul_2 _ _) step ⟨ho, ?_⟩
  rw [size_rep]
  have many : Vals (List.replicate k.toNat vs).flatten (List.replicate k.toNat us).flatten := by
    generalize k.toNat = m
    induction m with
    | zero => exact .nil
    | succ m ih => rw [List.replicate_succ, List.replicate_succ, List.flatten_cons, List.flatten_cons]; exact Vals.append rv ih
  refine ⟨.ref s.heap.objs.size, _, I.laid (t' := s.toks) (o := .tup (List.replicate k.toNat vs).flatten) (fun _ _ e => Heap.get?_push_of_some _ e) (Nat.le_refl _) ⟨by rw [many.length]; exact out, _, many, ⟨_, Heap.get?_push_size _ rfl, rfl, 0, rfl⟩⟩, rfl, q _ (I.hok.fresh (Nat.le_refl _))⟩
theorem mul_txt {pins : List (Addr × Obj)} {s : Shared} {σ : St} {H : Hp} {Q : VK} {z : Str} {k : Int} {v u : Value} (I : L2.Inv X pins σ H s) (rx : RelV (.str z) v) (ry : RelV (.int k) u) (h : -(2 ^ 63) ≤ k ∧ k < 2 ^ 63) (hf : z.length * k.toNat ≤ 16777216) (q : Q (.str (repS z k)) H) :
    wpAny (model X.prog X.w) X.A (binaryOp .Mult v u) (EP X pins σ Q) X.xe s := by
  obtain ⟨t, rfl⟩ := rx
  obtain ⟨t', rfl⟩ := ry
  have small : ∀ {m : Nat}, m ≤ 16777216 → Builtin.Str.tooLong m = false := fun {m} hm => decide_eq_false (by rw [sizeLine_eq]; omega)
  refine PySem.P.mul_str (by rw [decide_eq_false (by omega), decide_eq_false (by omega)]; rfl) (fun h1 h2 => ?_) (fun _ _ => small hf) ?_
  · have e1 : (z.length : Int) * k ≤ 16777216 := by
      have : ((z.length * k.toNat : Nat) : Int) ≤ 16777216 := by omega
      rw [Int.natCast_mul, Int.toNat_of_nonneg (by omega)] at this
      exact this
    have : (z.length : Int) ≤ (2 ^ 63 - 1) / k := (Int.le_ediv_iff_mul_le (by omega)).mpr (by omega)
    omega
  · unfold repS at q
    split
    · rename_i z1
      rw [if_pos z1] at q
      exact ⟨by decide, .str _, H, I.tok _, ⟨_, rfl⟩, q⟩
    · rename_i z1
      rw [if_neg z1] at q
      split
      · rename_i z2
        rw [if_pos z2] at q
        exact ⟨.str _, H, I, ⟨_, rfl⟩, q⟩
      · rename_i z2
        rw [if_neg z2] at q
        exact ⟨fits_reps (small hf), .str _, H, I.tok _, ⟨_, rfl⟩, q⟩
theorem op_bin (op : BOp) : OpR X (binaryOp (opOf op)) (rBin X.K op) := by
  intro pins s σ H x y v u Q I rx ry ⟨a, b, o, wa, wb, e, yl⟩
  unfold binF at e
  split at e
  · cases e; rw [int_of wa] at rx; rw [int_of wb] at ry
    exact op_add pins s σ H _ _ v u Q I rx ry ⟨_, _, rfl, rfl, yl.now (.int _)⟩
  · split at e
    · cases e; rw [str_of wa] at rx; rw [str_of wb] at ry
      exact op_add_str pins s σ H _ _ v u Q I rx ry ⟨_, _, rfl, rfl, fits_of (by assumption), yl.now (.str _)⟩
    · cases e
  · split at e
    · cases e
      exact bin_tup pins s σ H _ _ v u Q I rx ry ⟨_, _, wa, wb, fits_of (by assumption), yl⟩
    · cases e
  · split at e
    · split at e
      · cases e
        exact bin_lst pins s σ H _ _ v u Q I rx ry ⟨_, _, _, _, wa, wb, by assumption, by assumption, fits_of (by assumption), yl⟩
      · cases e
    · cases e
  · cases e; rw [int_of wa] at rx; rw [int_of wb] at ry
    exact op_sub pins s σ H _ _ v u Q I rx ry ⟨_, _, rfl, rfl, yl.now (.int _)⟩
  · split at e
    · rename_i hw
      cases e; rw [int_of wa] at rx; rw [int_of wb] at ry
      refine op_mul pins s σ H _ _ v u Q I rx ry ⟨_, _, rfl, rfl, ?_, yl.now (.int _)⟩
      rw [Bool.or_eq_true] at hw
      exact hw.imp (fun z => of_decide_eq_true z) fun z => of_decide_eq_true z
    · cases e
  · split at e
    · rename_i hw
      rw [Bool.and_eq_true, Bool.and_eq_true] at hw
      have h1 := of_decide_eq_true hw.1.1
      have h3 := of_decide_eq_true hw.2
      cases e; rw [int_of wb] at ry
      obtain ⟨p, vs, rfl, hp, r⟩ := tuple_of wa
      refine rep_many I rx ry hp (fun z => ?_) h1 (by rw [r.length]; exact h3) (fun z => ?_) fun q hq => yl.newT (rep_rp r _) hq
      · have := r.length
        rw [z] at this
        have h2 := hw.1.2
        rw [List.eq_nil_of_length_eq_zero this.symm] at h2
        exact Bool.noConfusion h2
      · subst z
        have wa' := wa
        refine yl.now ?_
        show Rp X.K H (.ref p) (.tuple (List.replicate 1 _).flatten)
        rw [List.replicate_one, List.flatten_cons, List.flatten_nil, List.append_nil]
        exact .tup hp r
    · cases e
  · split at e
    · rename_i hw
      rw [Bool.and_eq_true] at hw
      cases e; rw [int_of wb] at ry; rw [str_of wa] at rx
      exact mul_txt I rx ry (of_decide_eq_true hw.1) (of_decide_eq_true hw.2) (yl.now (.str _))
    · cases e
  · split at e
    · rename_i hw
      rw [Bool.and_eq_true] at hw
      have h1 := of_decide_eq_true hw.1
      cases e; rw [int_of wb] at ry
      obtain ⟨p, vs, rfl, hp, r⟩ := wa
      refine op_rep pins s σ H _ _ v u Q I rx ry ⟨p, _, vs, rfl, rfl, hp, h1.1, h1.2, by rw [r.length]; exact fits_of hw.2, fun q hq => yl.newL (rep_rp r _) hq⟩
    · cases e
  · split at e
    · cases e; rw [int_of wa] at rx; rw [int_of wb] at ry
      exact op_fdivW pins s σ H _ _ v u Q I rx ry ⟨_, _, rfl, rfl, (by rename_i hw; have hw := (of_decide_eq_true hw : (0:Int) < _ ∧ _ < (18446744073709551616:Int)); exact wide_div (b := 64) hw.1 (by omega) (by decide) (by decide)), yl.now (.int _)⟩
    · cases e
  · split at e
    · cases e; rw [int_of wa] at rx; rw [int_of wb] at ry
      exact op_mod pins s σ H _ _ v u Q I rx ry ⟨_, _, rfl, rfl, of_decide_eq_true (by assumption), yl.now (.int _)⟩
    · cases e
  · cases e; rw [int_of wa] at rx; rw [int_of wb] at ry
    exact op_and pins s σ H _ _ v u Q I rx ry ⟨_, _, rfl, rfl, yl.now (.int _)⟩
  · cases e

/-! ### comparisons -/
def cOf : COp → CmpOp
  | .eq => .Eq | .ne => .NotEq | .lt => .Lt | .le => .LtE | .gt => .Gt | .ge => .GtE | .isin => .In | .notin => .NotIn
def rCmp (K : PySem.W.Frag) (op : COp) : R2 := fun x y H Q => ∃ a b k, Ow K H x a ∧ Ow K H y b ∧ cmpF op a b = some k ∧ Q (.bl k) H
theorem eq_cases {a b : D} {k : Bool} (e : eqF a b = some k) : (∃ x y, a = .str x ∧ b = .str y ∧ k = decide (x = y)) ∨ (SeqAt.shaped a = true ∧ SeqAt.shaped b = true ∧ k = PyData.eqv a b) := by
  unfold eqF at e
  split at e
  · cases e; exact .inl ⟨_, _, rfl, rfl, rfl⟩
  · split at e
    · rename_i h
      cases e
      rw [Bool.and_eq_true] at h
      exact .inr ⟨h.1, h.2, rfl⟩
    · cases e
theorem dstr {K : PySem.W.Frag} {H : Hp} {v : V} {a : O} {x : Str} (w : Ow K H v a) (e : a.toD = .str x) : v = .str x := by
  have q := ow_dp w
  rw [e] at q
  cases q; rfl
theorem room_sh {A : Around} {x : D} {ds : List D} (hx : SeqAt.shaped x = true) (hu : A.units + 100 < cLine) : A.units + 1 + min (PyData.depthAll ds) x.depth < cLine := by
  have h1 := SeqAt.depth_of_shaped hx
  have h2 : min (PyData.depthAll ds) x.depth ≤ x.depth := Nat.min_le_right _ _
  omega
theorem canAll : ∀ {ds : List D}, ds.all SeqAt.shaped = true → PyData.canLayAll0 ds = true
  | [], _ => rfl
  | d :: ds, h => by
    rw [List.all_cons, Bool.and_eq_true] at h  -- gw
    unfold PyData.canLayAll0
    rw [SeqAt.canLay_of_shaped h.1, canAll h.2]; rfl
theorem in_cases {x : D} {ds : List D} {k : Bool} (e : inF x ds = some k) : SeqAt.shaped x = true ∧ ds.all SeqAt.shaped = true ∧ k = ds.any fun y => PyData.eqv y x := by
  unfold inF at e
  split at e
  · rename_i h
    cases e
    rw [Bool.and_eq_true] at h
    exact ⟨h.1, h.2, rfl⟩
  · cases e
theorem in_both (hu : X.A.units + 100 < cLine) {pins : List (Addr × Obj)} {s : Shared} {σ : St} {H : Hp} {x y : V} {v u : Value} {d : D} {b : O} {ds : List D} {k : Bool} (I : L2.Inv X pins σ H s) (rx : RelV x v) (ry : RelV y u)
    (wx : Ow X.K H x (.fz d)) (wy : Ow X.K H y b) (e1 : items b = some ds) (e2 : inF d ds = some k) {Q : Value → Shared → Prop} {E : Value → Shared → Prop} :
    (Q (.bool k) s → wpAny (model X.prog X.w) X.A (compareOp .In v u) Q E s) ∧ (Q (.bool (!k)) s → wpAny (model X.prog X.w) X.A (compareOp .NotIn v u) Q E s) := by
  obtain ⟨h1, h2, rfl⟩ := in_cases e2
  obtain ⟨as, q1⟩ := Dp.reads I _ x v (Rp.dp wx) rx
  have lists : ∀ {ds : List D}, b.toD = .list ds → ds.all SeqAt.shaped = true → (Q (.bool (ds.any fun y => PyData.eqv y d)) s → wpAny (model X.prog X.w) X.A (compareOp .In v u) Q E s) ∧ (Q (.bool (!ds.any fun y => PyData.eqv y d)) s → wpAny (model X.prog X.w) X.A (compareOp .NotIn v u) Q E s) := fun {ds} e h2 => by
    obtain ⟨bs, q2⟩ := Dp.reads I _ y u (ow_dp wy) ry
    rw [e] at q2
    exact ⟨SeqAt.in_list_reads q2 q1 (canAll h2) (SeqAt.canLay_of_shaped h1) (room_sh h1 hu), SeqAt.notIn_list_reads q2 q1 (canAll h2) (SeqAt.canLay_of_shaped h1) (room_sh h1 hu)⟩
  cases b with
  | ls es => cases e1; exact lists rfl h2
  | dc _ => exact wy.elim
  | fz z =>
    cases z with
    | list es => cases e1; exact lists rfl h2
    | tuple es =>
      cases e1
      obtain ⟨bs, q2⟩ := Dp.reads I _ y u (Rp.dp wy) ry
      exact ⟨SeqAt.in_tuple_reads q2 q1 (canAll h2) (SeqAt.canLay_of_shaped h1) (room_sh h1 hu), SeqAt.notIn_tuple_reads q2 q1 (canAll h2) (SeqAt.canLay_of_shaped h1) (room_sh h1 hu)⟩
    | _ => cases e1
theorem sin_cases {x : D} {z : Str} {k : Bool} (e : sinF x z = some k) : ∃ c, x = .str ⟨#[c]⟩ ∧ k = decide (c ∈ z.cps.toList) := by
  unfold sinF at e
  split at e
  · rename_i a
    split at e
    · rename_i c hc
      cases e
      obtain ⟨cps⟩ := a
      exact ⟨c, by rw [show cps = #[c] from Array.toList_inj.mp hc], rfl⟩
    · cases e
  · cases e
theorem op_cmp (hu : X.A.units + 100 < cLine) (op : COp) : OpR X (compareOp (cOf op)) (rCmp X.K op) := by
  intro pins s σ H x y v u Q I rx ry ⟨a, b, k, wa, wb, e, q⟩
  unfold cmpF at e
  split at e
  · rcases eq_cases e with ⟨i, j, e1, e2, rfl⟩ | ⟨h1, h2, rfl⟩
    · rw [dstr wa e1] at rx; rw [dstr wb e2] at ry
      refine op_eq pins s σ H _ _ v u Q I rx ry ⟨rfl, ?_⟩
      rw [show decide (V.str i = V.str j) = decide (i = j) by rw [Bool.eq_iff_iff, decide_eq_true_iff, decide_eq_true_iff]; exact ⟨V.str.inj, congrArg _⟩]; exact q
    · exact op_eqD (by omega) pins s σ H _ _ v u Q I rx ry ⟨_, _, ow_dp wa, ow_dp wb, h1, h2, q⟩
  · cases z : eqF a.toD b.toD with
    | none => rw [z] at e; cases e
    | some k' =>
      rw [z] at e
      cases e
      rcases eq_cases z with ⟨i, j, e1, e2, rfl⟩ | ⟨h1, h2, rfl⟩
      · rw [dstr wa e1] at rx; rw [dstr wb e2] at ry
        refine op_ne pins s σ H _ _ v u Q I rx ry ⟨rfl, ?_⟩
        rw [show decide (V.str i = V.str j) = decide (i = j) by rw [Bool.eq_iff_iff, decide_eq_true_iff, decide_eq_true_iff]; exact ⟨V.str.inj, congrArg _⟩]; exact q
      · exact op_neD (by omega) pins s σ H _ _ v u Q I rx ry ⟨_, _, ow_dp wa, ow_dp wb, h1, h2, q⟩
  · cases e; rw [int_of wa] at rx; rw [int_of wb] at ry
    exact op_lt pins s σ H _ _ v u Q I rx ry ⟨_, _, rfl, rfl, q⟩
  · cases e; rw [int_of wa] at rx; rw [int_of wb] at ry
    exact op_le pins s σ H _ _ v u Q I rx ry ⟨_, _, rfl, rfl, q⟩
  · cases e; rw [int_of wa] at rx; rw [int_of wb] at ry
    exact op_gt pins s σ H _ _ v u Q I rx ry ⟨_, _, rfl, rfl, q⟩
  · cases e; rw [int_of wa] at rx; rw [int_of wb] at ry
    exact op_ge pins s σ H _ _ v u Q I rx ry ⟨_, _, rfl, rfl, q⟩
  · obtain ⟨ns, e1, e⟩ := Option.bind_eq_some_iff.mp e
    obtain ⟨ms, e2, rfl⟩ := Option.map_eq_some_iff.mp e
    obtain ⟨p, vs, rfl, hp, r⟩ := tuple_of wa
    obtain ⟨p2, vs2, rfl, hp2, r2⟩ := tuple_of wb
    rw [ints_of e1 r] at hp
    rw [ints_of e2 r2] at hp2
    cases rx
    cases ry
    obtain ⟨its, v1, t1, _⟩ := I.tuple hp
    obtain ⟨its2, v2, t2, _⟩ := I.tuple hp2
    have z : wpAny (model X.prog X.w) X.A (compareOp .Lt (.ref p) (.ref p2)) (EP X pins σ Q) X.xe s := (tup_lt t1 t2 (by simpa using v1.ints) (by simpa using v2.ints) (by omega)) X.prog X.w X.xe (EP X pins σ Q) ⟨.bl _, H, I, rfl, q⟩
    exact z
  · obtain ⟨ns, e1, e⟩ := Option.bind_eq_some_iff.mp e
    obtain ⟨ms, e2, rfl⟩ := Option.map_eq_some_iff.mp e
    obtain ⟨p, vs, rfl, hp, r⟩ := tuple_of wa
    obtain ⟨p2, vs2, rfl, hp2, r2⟩ := tuple_of wb
    rw [ints_of e1 r] at hp
    rw [ints_of e2 r2] at hp2
    cases rx
    cases ry
    obtain ⟨its, v1, t1, _⟩ := I.tuple hp
    obtain ⟨its2, v2, t2, _⟩ := I.tuple hp2
    have z : wpAny (model X.prog X.w) X.A (compareOp .LtE (.ref p) (.ref p2)) (EP X pins σ Q) X.xe s := (tup_le t1 t2 (by simpa using v1.ints) (by simpa using v2.ints) (by omega)) X.prog X.w X.xe (EP X pins σ Q) ⟨.bl _, H, I, rfl, q⟩
    exact z
  · obtain ⟨ns, e1, e⟩ := Option.bind_eq_some_iff.mp e
    obtain ⟨ms, e2, rfl⟩ := Option.map_eq_some_iff.mp e
    obtain ⟨p, vs, rfl, hp, r⟩ := tuple_of wa
    obtain ⟨p2, vs2, rfl, hp2, r2⟩ := tuple_of wb
    rw [ints_of e1 r] at hp
    rw [ints_of e2 r2] at hp2
    cases rx
    cases ry
    obtain ⟨its, v1, t1, _⟩ := I.tuple hp
    obtain ⟨its2, v2, t2, _⟩ := I.tuple hp2
    have z : wpAny (model X.prog X.w) X.A (compareOp .Gt (.ref p) (.ref p2)) (EP X pins σ Q) X.xe s := (tup_gt t1 t2 (by simpa using v1.ints) (by simpa using v2.ints) (by omega)) X.prog X.w X.xe (EP X pins σ Q) ⟨.bl _, H, I, rfl, q⟩
    exact z
  · obtain ⟨ns, e1, e⟩ := Option.bind_eq_some_iff.mp e
    obtain ⟨ms, e2, rfl⟩ := Option.map_eq_some_iff.mp e
    obtain ⟨p, vs, rfl, hp, r⟩ := tuple_of wa
    obtain ⟨p2, vs2, rfl, hp2, r2⟩ := tuple_of wb
    rw [ints_of e1 r] at hp
    rw [ints_of e2 r2] at hp2
    cases rx
    cases ry
    obtain ⟨its, v1, t1, _⟩ := I.tuple hp
    obtain ⟨its2, v2, t2, _⟩ := I.tuple hp2
    have z : wpAny (model X.prog X.w) X.A (compareOp .GtE (.ref p) (.ref p2)) (EP X pins σ Q) X.xe s := (tup_ge t1 t2 (by simpa using v1.ints) (by simpa using v2.ints) (by omega)) X.prog X.w X.xe (EP X pins σ Q) ⟨.bl _, H, I, rfl, q⟩
    exact z
  · split at e
    · obtain ⟨c, rfl, rfl⟩ := sin_cases e
      rw [str_of wa] at rx; rw [str_of wb] at ry
      exact op_in_sign pins s σ H _ _ v u Q I rx ry ⟨c, _, rfl, rfl, q⟩
    · obtain ⟨ds, e1, e2⟩ := Option.bind_eq_some_iff.mp e
      exact (in_both hu I rx ry wa wb e1 e2).1 ⟨.bl _, H, I, rfl, q⟩
  · obtain ⟨k', e0, rfl⟩ := Option.map_eq_some_iff.mp e
    split at e0
    · obtain ⟨c, rfl, rfl⟩ := sin_cases e0
      rw [str_of wa] at rx; rw [str_of wb] at ry
      exact op_notIn_sign pins s σ H _ _ v u Q I rx ry ⟨c, _, rfl, rfl, q⟩
    · obtain ⟨ds, e1, e2⟩ := Option.bind_eq_some_iff.mp e0
      exact (in_both hu I rx ry wa wb e1 e2).2 ⟨.bl _, H, I, rfl, q⟩
  · cases e

/-! ### truth, isinstance, places, slices -/
theorem tru_of {K : PySem.W.Frag} {H : Hp} {v : V} {o : O} {k : Bool} (w : Ow K H v o) (e : truF o = some k) : TruV K v H k := by
  cases o with
  | ls ds =>
    cases e
    obtain ⟨a, vs, rfl, h, r⟩ := w
    exact .inl ⟨vs, SqL.of h, by cases r <;> rfl⟩
  | dc _ => exact w.elim
  | fz d =>
    cases d with
    | none => cases e; cases w; rfl
    | bool b => cases e; cases w; rfl
    | int i => cases e; cases w; rfl
    | list ds =>
      cases e
      cases w with
      | lst h r => exact .inl ⟨_, h.sq, by cases r <;> rfl⟩
    | tuple ds =>
      cases e
      cases w with
      | tup h r => exact .inr (.inl ⟨_, h, by cases r <;> rfl⟩)
    | _ => cases e
/-- the type of a value -/
def tyS : O → String
  | .fz .none => "NoneType" | .fz (.bool _) => "bool" | .fz (.int _) => "int" | .fz (.str _) => "str" | .fz (.list _) => "list" | .fz (.tuple _) => "tuple" | .fz (.dict _) => "dict" | .ls _ => "list" | .dc _ => "dict"
theorem fql_ty {K : PySem.W.Frag} {H : Hp} {a : Addr} {xs : List V} : FqL K H a xs → TyX K H (.ref a) (.type "list")
  | .inl ⟨_, h⟩ => .base (.frz h)
  | .inr ⟨_, _, _, h, c, _⟩ => .kList h c
theorem sqt_ty {K : PySem.W.Frag} {H : Hp} {a : Addr} {xs : List V} : SqT K H a xs → TyX K H (.ref a) (.type "tuple")
  | .inl (.inl h) => .base (.tup h)
  | .inl (.inr ⟨_, h⟩) => .fTuple h
  | .inr ⟨_, _, _, h, c, _⟩ => .kTuple h c
theorem ty_of {K : PySem.W.Frag} {H : Hp} {v : V} {o : O} (w : Ow K H v o) : TyX K H v (.type (tyS o)) := by
  cases o with
  | ls ds => obtain ⟨a, vs, rfl, h, r⟩ := w; exact .base (.lst h)
  | dc _ => exact w.elim
  | fz d =>
    cases d with
    | none => cases w; exact .base .non
    | bool b => cases w; exact .base (.bl b)
    | int i => cases w; exact .base (.int i)
    | str x => cases w; exact .base (.str x)
    | list ds => cases w with | lst h r => exact fql_ty h
    | tuple ds => cases w with | tup h r => exact sqt_ty h
    | dict _ => cases w
def tyN : Ty → String
  | .tInt => "int" | .tBool => "bool" | .tStr => "str" | .tTup => "tuple" | .tList => "list"
theorem kit_all : ∀ t : Ty, kitB "NoneType" (tyN t) = some false ∧ kitB "bool" (tyN t) = some (match t with | .tInt => true | .tBool => true | _ => false) ∧ kitB "int" (tyN t) = some (match t with | .tInt => true | _ => false) ∧
    kitB "str" (tyN t) = some (match t with | .tStr => true | _ => false) ∧ kitB "tuple" (tyN t) = some (match t with | .tTup => true | _ => false) ∧ kitB "list" (tyN t) = some (match t with | .tList => true | _ => false) := by
  intro t
  cases t <;> decide +kernel
theorem isi_kit {K : PySem.W.Frag} {t : Ty} {o : O} {k : Bool} (e : isiF t o = some k) : PySem.W.kitOne K (.type (tyS o)) (.type (tyN t)) = some k := by
  obtain ⟨q1, q2, q3, q4, q5, q6⟩ := kit_all t
  cases o with
  | ls ds => cases t <;> cases e <;> exact kit_ty q6
  | dc _ => cases t <;> cases e
  | fz d =>
    cases d with
    | none => cases t <;> cases e <;> exact kit_ty q1
    | bool b => cases t <;> cases e <;> exact kit_ty q2
    | int i => cases t <;> cases e <;> exact kit_ty q3
    | str x => cases t <;> cases e <;> exact kit_ty q4
    | list ds => cases t <;> cases e <;> exact kit_ty q6
    | tuple ds => cases t <;> cases e <;> exact kit_ty q5
    | dict _ => cases t <;> cases e
def rIxD (K : PySem.W.Frag) : R2 := fun x y H Q => ∃ a b d, Ow K H x a ∧ Ow K H y b ∧ ixF a b = some d ∧ ∀ v, Rp K H v d → Q v H
theorem atI_rp {K : PySem.W.Frag} {H : Hp} {vs : List V} {ds : List D} {i : Int} {d : D} (r : RpA K H vs ds) (e : atI ds i = some d) : ∃ v, atI vs i = some v ∧ Rp K H v d := by
  unfold atI at e ⊢
  rw [r.length]
  obtain ⟨j, e1, e2⟩ := Option.bind_eq_some_iff.mp e
  obtain ⟨v, e3, q⟩ := r.get e2
  exact ⟨v, by rw [e1]; exact e3, q⟩
theorem ix_d : IxR X (rIxD X.K) := by
  intro value slice pins s σ H x y v u Q I rx ry ⟨a, b, d, wa, wb, e, q⟩ hs
  unfold ixF at e
  split at e
  · split at e
    · split at e
      · obtain ⟨c, e2, rfl⟩ := Option.map_eq_some_iff.mp e
        rw [int_of wb] at ry; rw [str_of wa] at rx
        exact ix_str value slice pins s σ H _ _ v u Q I rx ry ⟨_, _, c, rfl, rfl, fits_of (by assumption), e2, q _ (.str _)⟩ hs
      · cases e
    obtain ⟨ds, e1, e2⟩ := Option.bind_eq_some_iff.mp e
    obtain ⟨p, vs, rfl, h, r⟩ := items_of wa e1
    obtain ⟨z, e3, w⟩ := atI_rp r e2
    rw [int_of wb] at ry
    rcases h with h | h
    · exact ix_list value slice pins s σ H _ _ v u Q I rx ry ⟨p, vs, _, z, rfl, rfl, h, e3, q z w⟩ hs
    · exact ix_tup value slice pins s σ H _ _ v u Q I rx ry ⟨p, vs, _, z, rfl, rfl, h, e3, q z w⟩ hs
  · cases e
theorem cut_rp {K : PySem.W.Frag} {H : Hp} {vs : List V} {ds : List D} (lo hi : Option Int) (r : RpA K H vs ds) : RpA K H (cutV vs lo hi) (cutL ds lo hi) := by
  unfold cutV cutL
  rw [r.length]
  exact (r.drop _).take _
/-- a slice of a whole tuple is the tuple -/
theorem getItem_whole {prog : Program} {w : World} {A : Around} {E : Value → Shared → Prop} {s : Shared} {t sl : Addr} {its : Array Value} {vl vu : Value} {lo hi : Option Int} {Q : Value → Shared → Prop} (ht : IsTup s.heap t its) (hs : s.heap.IsSliceOf sl vl vu .none)
    (pl : IsPart vl lo) (pu : IsPart vu hi) (hw : HT.sIx its.size 0 lo = 0 ∧ HT.sIx its.size its.size hi = its.size) (h : Q (.ref t) s) : wpAny (model prog w) A (getItem (.ref t) (.ref sl)) Q E s := by
  obtain ⟨os, hos, hcs, hds⟩ := id hs; have hTs : s.TypeIs (.ref sl) "slice" := ⟨os, hos, hcs⟩
  unfold getItem
  try with_reducible refine wpAny_holding ?_  -- gw
  first | refine wpAny_bind (wpAny_pure ?_) | skip  -- gw
  refine wpAny_bind (wpAny_sequenceKey ht.typeIs (by decide) (wpAny_bind (wpAny_callSpecial?_slot (name := Str.ofString "__getitem__") ht.typeIs PyProof.Rows.slot_tuple_getitem (wpAny_call_entry PyProof.Rows.slot_tuple_getitem ht.typeIs entry_tuple_getitem ?_ (args_tuple_getitem _ _)))))
  show wpAny _ _ (Builtin.Tuple.tupleItemsOf (.ref t) >>= _) _ _ s  -- gw
  refine wpAny_bind (tupleItemsOf_ ht (wpAny_bind (wpAny_typeOf hTs ?_)))
  rw [if_pos (by decide)]
  refine wpAny_bind (HT.sliceApplied_gen hs pl pu ?_)
  rw [hw.1, hw.2]
  show wpAny _ _ (if ((((0 : Nat) : Int) == 0 && (1 : Int) == 1 && (its.size - 0) == its.size) = true) then _ else _) _ _ s
  rw [if_pos (by simp)]
  obtain ⟨o, ho, hc, n, hd⟩ := ht  -- gw
  unfold Builtin.Tuple.tupleIsExact
  refine wpAny_bind (wpAny_bind (wpAny_typeOf ⟨o, ho, hc⟩ (wpAny_pure ?_)))
  rw [if_pos (by decide)]
  exact wpAny_bind (wpAny_rule (wpAny_pure ⟨_, rfl, wpAny_pure h⟩))
def rCut (K : PySem.W.Frag) : V → Option Int → Option Int → Hp → VK → Prop := fun x lo hi H Q => ∃ a o, Ow K H x a ∧ cutF a lo hi = some o ∧ Yld K H o Q
theorem sl_d : SlR X (rCut X.K) := by
  intro pins s σ H x v vl vu lo hi sl Q I rx hs pl pu ⟨a, o, w, e, y⟩
  have lists : ∀ {ds : List D} {p : Addr} {vs : List V}, x = .ref p → SqL X.K H p vs → RpA X.K H vs ds → o = .ls (cutL ds lo hi) → ∃ T id, typeLookup (.type T) "__getitem__" = pure (some (.builtin id)) ∧ s.TypeIs v T ∧ wpAny (model X.prog X.w) X.A (getItem v (.ref sl)) (EP X pins σ Q) X.xe s := fun {ds p vs} ex h r eo =>
    sl_list pins s σ H x v vl vu lo hi sl Q I rx hs pl pu ⟨p, vs, ex, h, fun q n => by subst eo; exact y.newL (cut_rp lo hi r) n⟩
  cases a with
  | ls ds => cases e; obtain ⟨p, vs, ex, h, r⟩ := w; exact lists ex (SqL.of h) r rfl
  | dc _ => exact w.elim
  | fz d =>
    cases d with
    | list ds =>
      cases e
      obtain ⟨p, vs, ex, h, r⟩ := litems_of w rfl
      exact lists ex h r rfl
    | tuple ds =>
      cases e
      obtain ⟨p, vs, rfl, h, r⟩ := tuple_of w
      by_cases hw : HT.sIx vs.length 0 lo = 0 ∧ HT.sIx vs.length vs.length hi = vs.length
      · cases rx
        obtain ⟨its, rv, ht, hz⟩ := I.tuple h
        have hlen : its.toArray.size = vs.length := by rw [List.size_toArray]; exact rv.length.symm
        refine ⟨"tuple", _, PyProof.Rows.slot_tuple_getitem.lookup, ht.typeIs, getItem_whole ht hs pl pu (by rw [hlen]; exact hw) ⟨.ref p, H, I, rfl, ?_⟩⟩
        have q := y.now (v := .ref p) (.tup h (cut_rp lo hi r |> fun z => by
          have e1 : cutV vs lo hi = vs := by unfold cutV; rw [hw.1, hw.2]; simp
          rw [e1] at z; exact z))
        exact q
      · exact sl_tup pins s σ H _ v vl vu lo hi sl Q I rx hs pl pu ⟨p, vs, rfl, h, hw, fun q n => y.newT (cut_rp lo hi r) n⟩
    | str z =>
      have e : (if fits z.length = true then some (O.fz (.str (cutS z lo hi))) else none) = some o := e
      split at e
      · cases e
        rw [str_of w] at rx
        exact sl_str pins s σ H _ v vl vu lo hi sl Q I rx hs pl pu ⟨z, rfl, fits_of (by assumption), y.now (.str _)⟩
      · cases e
    | _ => cases e

/-! ### repr, sorted -/
theorem repr_one (hg : X.A.guards = some []) (hu : X.A.units + 100 < cLine) {pins : List (Addr × Obj)} {s : Shared} {σ : St} {H : Hp} {x : V} {u : Value} {o : O} {Q : VK} (I : L2.Inv X pins σ H s) (ru : RelV x u) (w : Ow X.K H x o)
    (h1 : o.toD.showable = true) (h2 : o.toD.hasDict = false) (h3 : o.toD.depth ≤ 64) (h4 : o.toD.shown.length ≤ sizeLine) (q : Q (.str o.toD.shown) H) : wpAny (model X.prog X.w) X.A (call (.builtin "repr") [u]) (EP X pins σ Q) X.xe s := by
  obtain ⟨as, rd⟩ := Dp.reads I _ x u (ow_dp w) ru
  have fin : ∀ (h' : Heap) (u : Tok) (tk : Nat), (∀ b o, s.heap.get? b = some o → h'.get? b = some o) → EP X pins σ Q (.str o.toD.shown u) { s with heap := h', toks := tk } := fun h' u tk hk => ⟨.str o.toD.shown, H, I.kept hk, ⟨_, rfl⟩, q⟩
  have ref : ∀ a, u = .ref a → wpAny (model X.prog X.w) X.A (call (.builtin "repr") [u]) (EP X pins σ Q) X.xe s := fun a e => by
    subst e
    exact repr_of_reads' rd h1 (PyData.noDict_hsm h2) hg (by omega) (fun _ _ z => z) fin h4
  cases o with
  | dc _ => exact w.elim
  | ls ds =>
    obtain ⟨a, vs, rfl, _, _⟩ := w
    exact ref a ru
  | fz d =>
    have w : Rp X.K H x d := w
    cases w with
    | non => cases ru; exact P.repr_of_none (fin s.heap s.toks (s.toks + 1) fun _ _ z => z)
    | bl b =>
      cases ru
      refine P.repr_of_bool ?_
      have := fin s.heap s.toks (s.toks + 1) fun _ _ z => z
      cases b <;> exact this
    | int i =>
      obtain ⟨t, rfl⟩ := ru
      exact P.repr_of_int (by simpa [O.toD, PyData.showable] using h1) (fin s.heap s.toks (s.toks + 1) fun _ _ z => z)
    | str y =>
      obtain ⟨t, rfl⟩ := ru
      exact P.repr_of_str (fin s.heap s.toks (s.toks + 1) fun _ _ z => z) h4
    | lst _ _ => exact ref _ ru
    | tup _ _ => exact ref _ ru
theorem insI_perm (a : Int) : ∀ l : List Int, (insI a l).Perm (a :: l)
  | [] => .refl _
  | b :: r => by
    unfold insI
    split
    · exact .refl _
    · exact ((insI_perm a r).cons b).trans (.swap a b r)
theorem sortI_perm : ∀ l : List Int, (sortI l).Perm l
  | [] => .refl _
  | a :: r => (insI_perm a (sortI r)).trans ((sortI_perm r).cons a)
theorem insI_pw (a : Int) : ∀ {l : List Int}, l.Pairwise (· ≤ ·) → (insI a l).Pairwise (· ≤ ·)
  | [], _ => List.pairwise_singleton _ _
  | b :: r, h => by
    obtain ⟨h1, h2⟩ := List.pairwise_cons.mp h  -- gw
    unfold insI
    split
    · rename_i hab
      refine List.pairwise_cons.mpr ⟨fun c hc => ?_, h⟩
      rcases List.mem_cons.mp hc with rfl | hc  -- gw
      · exact hab
      · exact Int.le_trans hab (h1 c hc)
    · rename_i hab
      refine List.pairwise_cons.mpr ⟨fun c hc => ?_, insI_pw a h2⟩
      rcases List.mem_cons.mp ((insI_perm a r).mem_iff.mp hc) with rfl | hc
      · omega
      · exact h1 c hc
theorem sortI_pw : ∀ l : List Int, (sortI l).Pairwise (· ≤ ·)
  | [] => .nil
  | a :: r => insI_pw a (sortI_pw r)
theorem sort_uniq : ∀ {l m : List Int}, l.Perm m → l.Pairwise (· ≤ ·) → m.Pairwise (· ≤ ·) → l = m
  | [], m, p, _, _ => (p.symm.eq_nil).symm
  | a :: l, [], p, _, _ => absurd p.length_eq (by simp)
  | a :: l, b :: m, p, h1, h2 => by
    obtain ⟨q1, q2⟩ := List.pairwise_cons.mp h1
    obtain ⟨q3, q4⟩ := List.pairwise_cons.mp h2
    have e : a = b := by
      have u1 : a ≤ b := by
        rcases List.mem_cons.mp (p.mem_iff.mpr (List.mem_cons_self (a := b) (l := m))) with z | z
        · omega
        · exact q1 b z
      have u2 : b ≤ a := by
        rcases List.mem_cons.mp (p.mem_iff.mp (List.mem_cons_self (a := a) (l := l))) with z | z
        · omega
        · exact q3 a z
      omega
    subst e
    rw [sort_uniq p.cons_inv q2 q4]
/-! ### sorted of pairs -/
theorem leP_iff {p q : Int × Int} : leP p q = true ↔ p.1 < q.1 ∨ (p.1 = q.1 ∧ p.2 ≤ q.2) := by
  unfold leP
  split
  · rw [decide_eq_true_eq]; omega
  · rw [decide_eq_true_eq]; omega
theorem insP_perm (a : Int × Int) : ∀ l : List (Int × Int), (insP a l).Perm (a :: l)
  | [] => .refl _
  | b :: r => by
    unfold insP
    split
    · exact .refl _
    · exact ((insP_perm a r).cons b).trans (.swap a b r)
theorem sortP_perm : ∀ l : List (Int × Int), (sortP l).Perm l
  | [] => .refl _
  | a :: r => (insP_perm a (sortP r)).trans ((sortP_perm r).cons a)
theorem insP_pw (a : Int × Int) : ∀ {l : List (Int × Int)}, l.Pairwise (fun p q => leP p q = true) → (insP a l).Pairwise (fun p q => leP p q = true)
  | [], _ => List.pairwise_singleton _ _
  | b :: r, h => by
    obtain ⟨h1, h2⟩ := List.pairwise_cons.mp h  -- gw
    unfold insP
    split
    · rename_i hab
      refine List.pairwise_cons.mpr ⟨fun c hc => ?_, h⟩
      rcases List.mem_cons.mp hc with rfl | hc  -- gw
      · exact hab
      · have u := leP_iff.mp hab
        have v := leP_iff.mp (h1 c hc)
        exact leP_iff.mpr (by omega)
    · rename_i hab
      refine List.pairwise_cons.mpr ⟨fun c hc => ?_, insP_pw a h2⟩
      rcases List.mem_cons.mp ((insP_perm a r).mem_iff.mp hc) with rfl | hc
      · have u : ¬ _ := fun z => hab (leP_iff.mpr z)
        exact leP_iff.mpr (by omega)
      · exact h1 c hc
theorem sortP_pw : ∀ l : List (Int × Int), (sortP l).Pairwise (fun p q => leP p q = true)
  | [] => .nil
  | a :: r => insP_pw a (sortP_pw r)
theorem sortP_uniq : ∀ {l m : List (Int × Int)}, l.Perm m → l.Pairwise (fun p q => leP p q = true) → m.Pairwise (fun p q => leP p q = true) → l = m
  | [], m, p, _, _ => (p.symm.eq_nil).symm
  | a :: l, [], p, _, _ => absurd p.length_eq (by simp)
  | a :: l, b :: m, p, h1, h2 => by
    obtain ⟨q1, q2⟩ := List.pairwise_cons.mp h1
    obtain ⟨q3, q4⟩ := List.pairwise_cons.mp h2
    have rf : ∀ c : Int × Int, leP c c = true := fun c => leP_iff.mpr (by omega)
    have e : a = b := by
      have u1 : leP a b = true := by
        rcases List.mem_cons.mp (p.mem_iff.mpr (List.mem_cons_self (a := b) (l := m))) with z | z
        · rw [z]; exact rf a
        · exact q1 b z
      have u2 : leP b a = true := by
        rcases List.mem_cons.mp (p.mem_iff.mp (List.mem_cons_self (a := a) (l := l))) with z | z
        · rw [z]; exact rf b
        · exact q3 a z
      have v1 := leP_iff.mp u1
      have v2 := leP_iff.mp u2
      exact Prod.ext (by omega) (by omega)
    subst e
    rw [sortP_uniq p.cons_inv q2 q4]
theorem pairs_is : ∀ {ds : List D} {ps : List (Int × Int)}, pairsF ds = some ps → ds = ps.map pairD
  | [], _, e => by cases e; rfl
  | d :: r, ps, e => by
    unfold pairsF at e
    split at e
    · rename_i h; cases h
    · rename_i h
      cases h
      obtain ⟨qs, q, rfl⟩ := Option.map_eq_some_iff.mp e
      rw [pairs_is q]; rfl
    · cases e
/-- the pair that stands at a value -/
def kvP (h : Heap) : Value → Int × Int
  | .ref a => match h.get? a with  -- gw
    | some o => match o.data with
      | .seq xs _ => match xs.toList with
        | [.int i _, .int j _] => (i, j)
        | _ => (0, 0)
      | _ => (0, 0)
    | none => (0, 0)
  | _ => (0, 0)
def rSrtP (K : PySem.W.Frag) : List V → Hp → VK → Prop := fun vs H Q => ∃ (a : Addr) (xs : List V) (ps : List (Int × Int)), vs = [V.ref a] ∧ SqL K H a xs ∧ RpA K H xs (ps.map pairD) ∧ ∀ ys p, RpA K H ys ((sortP ps).map pairD) → H p = none → Q (.ref p) (upd H p (.lst ys))
theorem pairs_at {pins : List (Addr × Obj)} {σ : St} {H : Hp} {s : Shared} (I : L2.Inv X pins σ H s) : ∀ {xs : List V} {ps : List (Int × Int)} {its : List Value}, RpA X.K H xs (ps.map pairD) → Vals xs its →
    its.map (kvP s.heap) = ps ∧ (∀ v ∈ its, Srt.IsPair s.heap v (kvP s.heap v).1 (kvP s.heap v).2 ∧ Rp X.K H (backV v) (pairD (kvP s.heap v)) ∧ ∃ a, v = .ref a)
  | [], [], _, _, .nil => ⟨rfl, fun v z => nomatch z⟩
  | x :: xs, p :: ps, _, .cons h r, .cons rv t => by
    obtain ⟨e1, e2⟩ := pairs_at I r t
    rename_i v its
    have hr := h
    cases h with
    | tup ht r2 =>
      rename_i a ws
      have hv : v = Value.ref a := rv
      subst hv
      obtain ⟨its2, w2, ⟨o, ho, hc, n, hd⟩, _⟩ := I.tuple ht
      cases r2 with
      | cons q1 r3 =>
        cases r3 with
        | cons q2 r4 =>
          cases r4
          cases q1
          cases q2
          obtain ⟨u1, u2, rfl, ri, rj⟩ := vals2 w2
          obtain ⟨t1, rfl⟩ := ri
          obtain ⟨t2, rfl⟩ := rj
          have ek : kvP s.heap (.ref a) = p := by
            unfold kvP
            simp only [ho, hd]
          refine ⟨by rw [List.map_cons, e1, ek], fun v hv => ?_⟩
          rcases List.mem_cons.mp hv with rfl | hv  -- gw
          · rw [ek]
            exact ⟨⟨a, o, t1, t2, n, rfl, ho, hc, hd⟩, hr, a, rfl⟩
          · exact e2 v hv
theorem cr_srtP : CallR X (.builtin "sorted") (rSrtP X.K) := by
  intro pins s σ H vs us Q I r h  -- gw
  obtain ⟨a, xs, ps, rfl, hs, hr, q⟩ := h
  obtain ⟨its, rv, hl, hz⟩ := I.list hs  -- gw
  rw [Vals.ref1 r]
  obtain ⟨e1, e2⟩ := pairs_at I hr rv
  refine SrtO.sorted_pairsO (k := kvP s.heap) hl.isList (by rw [← rv.length]; exact hz) (fun v hv => (e2 v hv).1) fun h' d out h1 h2 kp hd hn => ?_
  have hm : ∀ u ∈ out, u ∈ its := fun u hu => h2.perm.mem_iff.mp hu
  obtain ⟨n, hn⟩ := hn
  have hrp : RpA X.K H (out.map backV) ((out.map (kvP s.heap)).map pairD) := by
    have : ∀ l : List Value, (∀ u ∈ l, u ∈ its) → RpA X.K H (l.map backV) ((l.map (kvP s.heap)).map pairD) := by
      intro l
      induction l with
      | nil => intro _; exact .nil
      | cons u l ih => exact fun z => .cons (e2 u (z u List.mem_cons_self)).2.1 (ih fun w hw => z w (List.mem_cons_of_mem _ hw))
    exact this out hm
  have es : out.map (kvP s.heap) = sortP ps := by
    refine sortP_uniq ((h2.perm.map _).trans ?_) (List.pairwise_map.mpr (h1.imp fun {x y} z => ?_)) (sortP_pw ps)
    · rw [e1]; exact (sortP_perm ps).symm
    · have := SrtO.lexB_no.mp z
      exact leP_iff.mpr (by omega)
  rw [es] at hrp
  refine ⟨.ref d, upd H d (.lst (out.map backV)), I.laid (t' := s.toks) kp hd ⟨?_, out, n, vals_back fun u hu => (e2 u (hm u hu)).2.2, hn⟩, rfl, q _ d hrp (I.hok.fresh hd)⟩
  rw [List.length_map, h2.len, ← rv.length]
  exact hz
/-! ### built-ins -/
def rBi (K : PySem.W.Frag) (b : Bi) : List V → Hp → VK → Prop := fun xs H Q => ∃ os o, Paired (Ow K H) xs os ∧ biF b os = some o ∧ Yld K H o Q
def biFn : Bi → Value
  | .len => .builtin "len" | .list => .type "list" | .tuple => .type "tuple" | .sum => .builtin "sum" | .all => .builtin "all" | .any => .builtin "any" | .int => .type "int" | .abs => .builtin "abs"
  | .min => .builtin "min" | .max => .builtin "max" | .repr => .builtin "repr" | .sorted => .builtin "sorted" | _ => .none
theorem bi_call (hc : X.calm = true) (hg : X.A.guards = some []) (hu : X.A.units + 100 < cLine) (b : Bi) : CallR X (biFn b) (rBi X.K b) := by
  intro pins s σ H xs us Q I rs ⟨os, o, ws, e, y⟩
  unfold biF at e
  split at e
  all_goals first | (cases e; done) | skip
  · cases ws with | cons w t => cases t with | nil =>
    split at e
    · cases e
      rw [str_of w] at rs
      exact call_len_str pins s σ H _ us Q I rs ⟨_, rfl, fits_of (by assumption), y.now (.int _)⟩
    · cases e
  · cases ws with | cons w t => cases t with | nil =>
    obtain ⟨ds, e1, rfl⟩ := Option.map_eq_some_iff.mp e
    obtain ⟨p, vs, rfl, h, r⟩ := items_of w e1
    exact call_len_seq pins s σ H _ us Q I rs ⟨p, vs, rfl, h, by rw [r.length]; exact y.now (.int _)⟩
  · cases ws with | cons w t => cases t with | nil =>
    obtain ⟨ds, e1, rfl⟩ := Option.map_eq_some_iff.mp e
    obtain ⟨p, vs, rfl, h, r⟩ := items_of w e1
    exact call_list_of pins s σ H _ us Q I rs ⟨p, vs, rfl, h, fun l n => y.newL r n⟩
  · cases ws with | cons w t => cases t with | nil =>
    obtain ⟨ds, e1, rfl⟩ := Option.map_eq_some_iff.mp e
    obtain ⟨p, vs, rfl, h, r⟩ := items_of w e1
    exact call_tuple_of pins s σ H _ us Q I rs ⟨p, vs, rfl, h.imp (fun h => ⟨h, fun l n => y.newT r n⟩) fun h => ⟨h, y.now (.tup h r)⟩⟩
  · cases ws with | cons w t => cases t with | nil =>
    obtain ⟨ns, e1, rfl⟩ := Option.map_eq_some_iff.mp e
    obtain ⟨ds, e2, e3⟩ := Option.bind_eq_some_iff.mp e1
    obtain ⟨p, vs, rfl, h, r⟩ := items_of w e2
    rw [ints_of e3 r] at h
    rcases h with h | h
    · exact cr_sum hc pins s σ H _ us Q I rs ⟨p, ns, rfl, h, y.now (.int _)⟩
    · obtain ⟨its, rv, tp, _⟩ := I.tuple h
      rw [Vals.ref1 rs]
      exact sum_tup (I.ok.hd hc) (show s.heap.IsTuple p its.toArray from tp) rv.ints fun h' tk t' hk => ⟨.int _, H, I.kept hk, ⟨_, rfl⟩, y.now (.int _)⟩
  · cases ws with | cons w t => cases t with | nil =>
    obtain ⟨ns, e1, rfl⟩ := Option.map_eq_some_iff.mp e
    obtain ⟨ds, e2, e3⟩ := Option.bind_eq_some_iff.mp e1
    obtain ⟨p, vs, rfl, h, r⟩ := litems_of w e2
    rw [bools_of e3 r] at h
    exact cr_all hc pins s σ H _ us Q I rs ⟨p, ns, rfl, h, y.now (.bl _)⟩
  · cases ws with | cons w t => cases t with | nil =>
    obtain ⟨ns, e1, rfl⟩ := Option.map_eq_some_iff.mp e
    obtain ⟨ds, e2, e3⟩ := Option.bind_eq_some_iff.mp e1
    obtain ⟨p, vs, rfl, h, r⟩ := litems_of w e2
    rw [bools_of e3 r] at h
    exact cr_any hc pins s σ H _ us Q I rs ⟨p, ns, rfl, h, y.now (.bl _)⟩
  · cases e; cases ws with | cons w t => cases t with | nil =>
    rw [int_of w] at rs
    exact call_int1 pins s σ H _ us Q I rs (.inl ⟨_, rfl, y.now (.int _)⟩)
  · cases e; cases ws with | cons w t => cases t with | nil =>
    rw [bool_of w] at rs
    exact call_int1 pins s σ H _ us Q I rs (.inr ⟨_, rfl, y.now (.int _)⟩)
  · cases e; cases ws with | cons w t => cases t with | nil =>
    rw [int_of w] at rs
    exact call_abs pins s σ H _ us Q I rs ⟨_, rfl, y.now (.int _)⟩
  · cases e; cases ws with | cons w t => cases t with | cons w2 t => cases t with | nil =>
    rw [int_of w, int_of w2] at rs
    exact call_min2 hc pins s σ H _ us Q I rs ⟨_, _, rfl, y.now (.int _)⟩
  · cases e; cases ws with | cons w t => cases t with | cons w2 t => cases t with | nil =>
    rw [int_of w, int_of w2] at rs
    exact call_max2 hc pins s σ H _ us Q I rs ⟨_, _, rfl, y.now (.int _)⟩
  · obtain ⟨ns, e1, e⟩ := Option.bind_eq_some_iff.mp e
    obtain ⟨ms, e2, rfl⟩ := Option.map_eq_some_iff.mp e
    cases ws with | cons w t => cases t with | cons w2 t => cases t with | nil =>
    obtain ⟨p, vs, rfl, hp, r⟩ := tuple_of w
    obtain ⟨p2, vs2, rfl, hp2, r2⟩ := tuple_of w2
    have hp0 := hp
    have hp20 := hp2
    rw [ints_of e1 r] at hp
    rw [ints_of e2 r2] at hp2
    obtain ⟨its, v1, t1, _⟩ := I.tuple hp
    obtain ⟨its2, v2, t2, _⟩ := I.tuple hp2
    obtain ⟨u, u2, rfl, ru, ru2⟩ := vals2 rs
    cases ru
    cases ru2
    refine min_twoT (I.ok.hd hc) t1 t2 (by simpa using v1.ints) (by simpa using v2.ints) (by omega) fun h' tk hk => ⟨.ref _, H, I.kept hk, rfl, ?_⟩
    by_cases z : ltL ms ns = true
    · rw [if_pos z] at y ⊢; exact y.now (.tup hp20 r2)
    · rw [if_neg z] at y ⊢; exact y.now (.tup hp0 r)
  · obtain ⟨ns, e1, e⟩ := Option.bind_eq_some_iff.mp e
    obtain ⟨ms, e2, rfl⟩ := Option.map_eq_some_iff.mp e
    cases ws with | cons w t => cases t with | cons w2 t => cases t with | nil =>
    obtain ⟨p, vs, rfl, hp, r⟩ := tuple_of w
    obtain ⟨p2, vs2, rfl, hp2, r2⟩ := tuple_of w2
    have hp0 := hp
    have hp20 := hp2
    rw [ints_of e1 r] at hp
    rw [ints_of e2 r2] at hp2
    obtain ⟨its, v1, t1, _⟩ := I.tuple hp
    obtain ⟨its2, v2, t2, _⟩ := I.tuple hp2
    obtain ⟨u, u2, rfl, ru, ru2⟩ := vals2 rs
    cases ru
    cases ru2
    refine max_twoT (I.ok.hd hc) t1 t2 (by simpa using v1.ints) (by simpa using v2.ints) (by omega) fun h' tk hk => ⟨.ref _, H, I.kept hk, rfl, ?_⟩
    by_cases z : ltL ns ms = true
    · rw [if_pos z] at y ⊢; exact y.now (.tup hp20 r2)
    · rw [if_neg z] at y ⊢; exact y.now (.tup hp0 r)
  · cases ws with | cons w t => cases t with | nil =>
    split at e
    · rename_i hw
      cases e
      rw [shw, Bool.and_eq_true, Bool.and_eq_true, Bool.and_eq_true] at hw
      obtain ⟨⟨⟨h1, h2⟩, h3⟩, h4⟩ := hw
      have h3 := of_decide_eq_true h3
      have h4 := of_decide_eq_true h4
      rw [Bool.not_eq_true'] at h2
      obtain ⟨u, rfl, ru⟩ := vals1 rs
      exact repr_one hg hu I ru w h1 h2 h3 (by rw [sizeLine_eq]; exact h4) (y.now (.str _))
    · cases e
  · cases ws with | cons w t => cases t with | nil =>
    split at e
    · rename_i ns e1
      cases e
      obtain ⟨ds, e2, e3⟩ := Option.bind_eq_some_iff.mp e1
      obtain ⟨p, vs, rfl, h, r⟩ := litems_of w e2
      rw [ints_of e3 r] at h
      refine cr_sortedI pins s σ H _ us Q I rs ⟨p, ns, rfl, h, fun ns' q pm pw hn => ?_⟩
      rw [sort_uniq (pm.trans (sortI_perm ns).symm) pw (sortI_pw ns)]
      exact y.newL (rpa_ints _) hn
    · obtain ⟨ps, e1, rfl⟩ := Option.map_eq_some_iff.mp e
      obtain ⟨ds, e2, e3⟩ := Option.bind_eq_some_iff.mp e1
      obtain ⟨p, vs, rfl, h, r⟩ := litems_of w e2
      rw [pairs_is e3] at r
      exact cr_srtP pins s σ H _ us Q I rs ⟨p, vs, ps, rfl, h, r, fun ys p ry hn => y.newL ry hn⟩
end
end GW

/-! GW, part 4: arguments, lending and giving back, what is left behind a step. -/
namespace GW
open PySem PySem.Spec PyProof.Rows L2  -- gw
section
variable {K : PySem.W.Frag} {args : Ar} {σ σ1 : St} {ρ ρ1 ρ2 : Fm} {H H1 H' : Hp} {v : V} {o : O}
/-! ### freezing in a frame -/
theorem FrOk.set (f : FrOk K args H σ ρ) (i : Nat) (s : Sl) (h : ∀ o, s.get = some o → ∃ v, σ[i]? = some (some v) ∧ Ow K H v o ∧ ∀ a, Ft v o a → ∀ j, OwnAt σ ρ j a → j = i)
    (hp : ∀ o, s = Sl.pa o → ∃ v, σ[i]? = some (some v) ∧ args.vs[i]? = some v) (hh : s = Sl.hd → ∃ v, σ[i]? = some (some v) ∧ args.hs i = some v) : FrOk K args H σ (ρ.set i s) := by
  have at1 : ∀ j a, OwnAt σ (ρ.set i s) j a → (j = i ∧ ∃ v o, s.get = some o ∧ σ[i]? = some (some v) ∧ Ft v o a) ∨ (j ≠ i ∧ OwnAt σ ρ j a) := fun j a ⟨o, e, q, z⟩ => by
    rw [rd_set] at e
    split at e
    · rename_i hh
      obtain ⟨rfl, _⟩ := hh
      exact .inl ⟨rfl, _, o, e, z, q, rfl⟩
    · rename_i hh
      by_cases e2 : i = j
      · subst e2
        have := rd_lt e
        exact absurd ⟨rfl, this⟩ hh
      · exact .inr ⟨fun w => e2 w.symm, o, e, q, z⟩
  refine ⟨by rw [List.length_set]; exact f.len, fun j o e => ?_, fun j o e => ?_, fun j e => ?_, fun j k a h1 h2 => ?_⟩
  · rw [rd_set] at e
    split at e
    · rename_i hh
      obtain ⟨rfl, _⟩ := hh
      obtain ⟨v, z, w, _⟩ := h o e
      exact ⟨v, z, w⟩
    · exact f.at_ j o e
  · rw [List.getElem?_set] at e
    split at e
    · rename_i hh
      subst hh
      split at e
      · cases e; exact hp o rfl
      · cases e
    · exact f.pa_ j o e
  · rw [List.getElem?_set] at e
    split at e
    · rename_i h2
      subst h2
      split at e
      · cases e; exact hh rfl
      · cases e
    · exact f.hd_ j e
  · rcases at1 j a h1 with ⟨rfl, v, o, e, z, q⟩ | ⟨n1, w1⟩
    · rcases at1 k a h2 with ⟨rfl, _⟩ | ⟨n2, w2⟩
      · rfl
      · obtain ⟨v', z', _, u⟩ := h o e
        rw [z] at z'
        cases z'
        exact (u a q k w2).symm
    · rcases at1 k a h2 with ⟨rfl, v, o, e, z, q⟩ | ⟨n2, w2⟩
      · obtain ⟨v', z', _, u⟩ := h o e
        rw [z] at z'
        cases z'
        exact u a q j w1
      · exact f.inj j k a w1 w2
theorem Own.set {i : Nat} {s : Sl} {a : Addr} (h : Own σ (ρ.set i s) a) : (∃ o v, s.get = some o ∧ σ[i]? = some (some v) ∧ Ft v o a) ∨ Own σ ρ a := by
  obtain ⟨j, o, e, q, z⟩ := h
  rw [rd_set] at e
  split at e
  · rename_i hh
    obtain ⟨rfl, _⟩ := hh
    exact .inl ⟨o, _, e, z, q, rfl⟩
  · exact .inr ⟨j, o, e, q, z⟩
theorem FrOk.un (f : FrOk K args H σ ρ) (i : Nat) : FrOk K args H σ (unS ρ i) := f.set i .un (fun o e => nomatch e) (fun o e => nomatch e) fun e => nomatch e
theorem Own.un {i : Nat} {a : Addr} (h : Own σ (unS ρ i) a) : Own σ ρ a := h.set.elim (fun ⟨o, v, e, _⟩ => nomatch e) id
theorem FrOk.kill : ∀ (ks : List Nat) {ρ : Fm}, FrOk K args H σ ρ → FrOk K args H σ (kill ks ρ)
  | [], _, f => f
  | i :: r, _, f => FrOk.kill r (f.un i)
theorem Own.kill : ∀ (ks : List Nat) {ρ : Fm} {a : Addr}, Own σ (kill ks ρ) a → Own σ ρ a
  | [], _, _, h => h
  | i :: r, _, _, h => (Own.kill r h).un
theorem Got.kill {ks : List Nat} {F : Addr → Prop} {ρ0 : Fm} {σ0 : St} {H0 : Hp} (g : Got K args σ0 ρ0 H0 σ ρ H F) : Got K args σ0 ρ0 H0 σ (kill ks ρ) H F :=
  ⟨g.kp, g.fr.kill ks, fun a f q => g.dis a f (q.kill ks), fun a h => g.fre a (h.imp (fun q => q.kill ks) id)⟩
theorem Got.un {i : Nat} {F : Addr → Prop} {ρ0 : Fm} {σ0 : St} {H0 : Hp} (g : Got K args σ0 ρ0 H0 σ ρ H F) : Got K args σ0 ρ0 H0 σ (unS ρ i) H F :=
  ⟨g.kp, g.fr.un i, fun a f q => g.dis a f q.un, fun a h => g.fre a (h.imp Own.un id)⟩
/-- what is in the hand is frozen -/
theorem Got.frz {F : Addr → Prop} {ρ0 : Fm} {σ0 : St} {H0 : Hp} {a : Addr} {u w : HO} (g : Got K args σ0 ρ0 H0 σ ρ H F) (h : H a = some u) (ns : ¬ Still u) (q : F a) : Got K args σ0 ρ0 H0 σ ρ (upd H a w) (fun _ => False) := by
  refine ⟨?_, g.fr.keep (P := fun b => b = a) (Kp.write h ns rfl) fun b o e => g.dis a q (e ▸ o), fun _ z => z.elim, fun b z => g.fre b (z.elim .inl fun y => y.elim)⟩
  refine g.kp.trans (P1 := fun b => b = a) (Kp.write h ns rfl) fun b e => ?_
  subst e
  exact g.fre b (.inr q)
theorem rp_frz {ds : List D} {a : Addr} {vs : List V} {ob : Obj} (h : H a = some (.lst vs)) (r : RpA K H vs ds) : Rp K (upd H a (.frz ob (.lst vs))) (.ref a) (.list ds) :=
  .lst (.inl ⟨ob, upd_same⟩) (r.keep (Kp.write (P := fun b => b = a) h id rfl).still)
theorem rd_put {i j : Nat} {x : O} : rd (putO ρ i x) j = if i = j ∧ (rd ρ i).isSome = true then some x else rd ρ j := by
  unfold putO
  cases e : ρ[i]? with
  | none =>
    rw [if_neg]
    rintro ⟨_, z⟩
    unfold rd at z
    rw [e] at z
    cases z
  | some s =>
    show rd (ρ.set i (s.put x)) j = _
    have hi : i < ρ.length := (List.getElem?_eq_some_iff.mp e).1
    have er : rd ρ i = s.get := by unfold rd; rw [e]; rfl
    rw [rd_set, er]
    by_cases hij : i = j
    · subst hij
      rw [if_pos ⟨rfl, hi⟩]
      cases s with
      | un => rw [if_neg (fun z => nomatch z.2)]; unfold rd; rw [e]; rfl
      | hd => rw [if_neg (fun z => nomatch z.2)]; unfold rd; rw [e]; rfl
      | lo y => rw [if_pos ⟨rfl, rfl⟩]; rfl
      | pa y => rw [if_pos ⟨rfl, rfl⟩]; rfl
    · rw [if_neg (fun z => hij z.1), if_neg (fun z => hij z.1)]
theorem Sl.put_get {s : Sl} {x y : O} (h : (s.put x).get = some y) : y = x := by cases s <;> cases h <;> rfl
theorem Sl.put_pa {s : Sl} {x y : O} (h : s.put x = Sl.pa y) : y = x ∧ ∃ z, s = Sl.pa z := by
  cases s with
  | un => cases h
  | hd => cases h
  | lo z => cases h
  | pa z => cases h; exact ⟨rfl, z, rfl⟩
theorem Sl.put_hd {s : Sl} {x : O} (h : s.put x = Sl.hd) : s = Sl.hd := by cases s <;> first | rfl | cases h
/-- the content of slot i is changed, its object stays (or is frozen) -/
theorem frOk_put {i : Nat} {x y : O} {v : V} {P : Addr → Prop} (f : FrOk K args H σ ρ) (e : rd ρ i = some x) (ev : σ[i]? = some (some v)) (k : Kp P H H') (hP : ∀ a, P a → Ft v x a) (w : Ow K H' v y) (hF : ∀ a, Ft v y a → Ft v x a) :
    FrOk K args H' σ (putO ρ i y) := by
  have own1 : ∀ j a, j ≠ i → OwnAt σ ρ j a → ¬ P a := fun j a n q z => n (f.inj j i a q ⟨x, e, (hP a z).1, by rw [ev, (hP a z).2]⟩)
  refine ⟨?_, fun j o q => ?_, fun j o q => ?_, fun j q => ?_, fun j l a h1 h2 => ?_⟩
  · unfold putO
    split
    · rw [List.length_set]; exact f.len
    · exact f.len
  · rw [rd_put] at q
    split at q
    · rename_i hh
      obtain ⟨rfl, _⟩ := hh
      cases q
      exact ⟨v, ev, w⟩
    · rename_i hh
      obtain ⟨u, eu, wu⟩ := f.at_ j o q
      refine ⟨u, eu, wu.keep k fun a fa => own1 j a (fun z => hh ⟨z.symm, by rw [e]; rfl⟩) ⟨o, q, fa.1, by rw [eu, fa.2]⟩⟩
  · cases e1 : ρ[i]? with
    | none => rw [show putO ρ i y = ρ by unfold putO; rw [e1]] at q; exact f.pa_ j o q
    | some s =>
      rw [show putO ρ i y = ρ.set i (s.put y) by unfold putO; rw [e1], List.getElem?_set] at q
      by_cases hh : i = j
      · subst hh
        rw [if_pos rfl, if_pos (List.getElem?_eq_some_iff.mp e1).1] at q
        obtain ⟨_, z, hz⟩ := Sl.put_pa (Option.some.inj q)
        rw [hz] at e1
        exact f.pa_ i z e1
      · rw [if_neg hh] at q
        exact f.pa_ j o q
  · cases e1 : ρ[i]? with
    | none => rw [show putO ρ i y = ρ by unfold putO; rw [e1]] at q; exact f.hd_ j q
    | some s =>
      rw [show putO ρ i y = ρ.set i (s.put y) by unfold putO; rw [e1], List.getElem?_set] at q
      by_cases hh : i = j
      · subst hh
        rw [if_pos rfl, if_pos (List.getElem?_eq_some_iff.mp e1).1] at q
        rw [Sl.put_hd (Option.some.inj q)] at e1
        exact f.hd_ i e1
      · rw [if_neg hh] at q
        exact f.hd_ j q
  · have red : ∀ j, OwnAt σ (putO ρ i y) j a → OwnAt σ ρ j a := fun j ⟨o, q, q1, q2⟩ => by
      rw [rd_put] at q
      split at q
      · rename_i hh
        obtain ⟨rfl, _⟩ := hh
        cases q
        rw [ev] at q2
        cases q2
        exact ⟨x, e, (hF a ⟨q1, rfl⟩).1, ev⟩
      · exact ⟨o, q, q1, q2⟩
    exact f.inj j l a (red j h1) (red l h2)
theorem own_put {i : Nat} {x y : O} {v : V} {a : Addr} (e : rd ρ i = some x) (ev : σ[i]? = some (some v)) (hF : ∀ a, Ft v y a → Ft v x a) (h : Own σ (putO ρ i y) a) : Own σ ρ a := by
  obtain ⟨j, o, q, q1, q2⟩ := h
  rw [rd_put] at q
  split at q
  · rename_i hh
    obtain ⟨rfl, _⟩ := hh
    cases q
    rw [ev] at q2
    cases q2
    exact ⟨i, x, e, (hF a ⟨q1, rfl⟩).1, ev⟩
  · exact ⟨j, o, q, q1, q2⟩
/-- from a frame to the frame with slot i's content changed -/
theorem Got.put {ρ0 : Fm} {σ0 : St} {H0 : Hp} {F : Addr → Prop} {i : Nat} {x y : O} {v : V} {P : Addr → Prop} (g : Got K args σ0 ρ0 H0 σ ρ H F) (e : rd ρ i = some x) (ev : σ[i]? = some (some v)) (k : Kp P H H') (hP : ∀ a, P a → Ft v x a) (w : Ow K H' v y)
    (hF : ∀ a, Ft v y a → Ft v x a) : Got K args σ0 ρ0 H0 σ (putO ρ i y) H' (fun _ => False) :=
  ⟨g.kp.trans k fun c z => g.fre c (.inl ⟨i, x, e, (hP c z).1, by rw [ev, (hP c z).2]⟩), frOk_put g.fr e ev k hP w hF, fun _ z => z.elim, fun a h => g.fre a (h.elim (fun q => .inl (own_put e ev hF q)) fun z => z.elim)⟩

/-! ### arguments -/
def Fav (v : V) : AV → Addr → Prop
  | .sl _, _ => False
  | .o x, a => Ft v x a
def AvOk (K : PySem.W.Frag) (H : Hp) (σ : St) (v : V) : AV → Prop
  | .sl i => σ[i]? = some (some v)
  | .o x => Ow K H v x
theorem AvOk.keep {P : Addr → Prop} {av : AV} (w : AvOk K H σ v av) (k : Kp P H H') (n : ∀ a, Fav v av a → ¬ P a) : AvOk K H' σ v av := by
  cases av with
  | sl i => exact w
  | o x => exact Ow.keep w k n
theorem AvOk.val {av : AV} (f : FrOk K args H σ ρ) (w : AvOk K H σ v av) (e : av.val ρ = some o) : Ow K H v o := by
  cases av with
  | sl i =>
    obtain ⟨u, eu, wu⟩ := f.at_ i o e
    rw [show σ[i]? = some (some v) from w] at eu
    cases eu
    exact wu
  | o x => cases e; exact w
theorem Fav.there {av : AV} {a : Addr} (h : Fav v av a) (w : AvOk K H σ v av) : H a ≠ none := by
  cases av with
  | sl i => exact h.elim
  | o x =>
    obtain ⟨u, e, _⟩ := Ft.there h w
    rw [e]; exact fun z => nomatch z
def FavL (vs : List V) (avs : List AV) (a : Addr) : Prop := ∃ (i : Nat) (v : V) (av : AV), vs[i]? = some v ∧ avs[i]? = some av ∧ Fav v av a
structure AvsOk (K : PySem.W.Frag) (H : Hp) (σ : St) (vs : List V) (avs : List AV) : Prop where
  all : Paired (AvOk K H σ) vs avs
  inj : ∀ (i j : Nat) (v w : V) (av aw : AV) (a : Addr), vs[i]? = some v → avs[i]? = some av → vs[j]? = some w → avs[j]? = some aw → Fav v av a → Fav w aw a → i = j
theorem FavL.nil {a : Addr} : ¬ FavL [] [] a := fun ⟨i, v, av, h, _⟩ => by simp at h
theorem favL_cons {vs : List V} {avs : List AV} {av : AV} {a : Addr} : FavL (v :: vs) (av :: avs) a ↔ Fav v av a ∨ FavL vs avs a := by
  constructor
  · rintro ⟨i, u, b, h1, h2, h3⟩
    cases i with
    | zero => simp at h1 h2; subst h1 h2; exact .inl h3
    | succ i => exact .inr ⟨i, u, b, by simpa using h1, by simpa using h2, h3⟩
  · rintro (h | ⟨i, u, b, h1, h2, h3⟩)
    · exact ⟨0, v, av, rfl, rfl, h⟩
    · exact ⟨i + 1, u, b, by simpa using h1, by simpa using h2, h3⟩
theorem AvsOk.cons {vs : List V} {avs : List AV} {av : AV} (h : AvOk K H σ v av) (r : AvsOk K H σ vs avs) (d : ∀ a, Fav v av a → ¬ FavL vs avs a) : AvsOk K H σ (v :: vs) (av :: avs) := by
  refine ⟨.cons h r.all, fun i j u w b c a h1 h2 h3 h4 h5 h6 => ?_⟩
  cases i with
  | zero =>
    simp at h1 h2; subst h1 h2
    cases j with
    | zero => rfl
    | succ j => exact absurd ⟨j, w, c, by simpa using h3, by simpa using h4, h6⟩ (d a h5)
  | succ i =>
    cases j with
    | zero =>
      simp at h3 h4; subst h3 h4
      exact absurd ⟨i, u, b, by simpa using h1, by simpa using h2, h5⟩ (d a h6)
    | succ j => rw [r.inj i j u w b c a (by simpa using h1) (by simpa using h2) (by simpa using h3) (by simpa using h4) h5 h6]
theorem AvsOk.tail {vs : List V} {avs : List AV} {av : AV} (r : AvsOk K H σ (v :: vs) (av :: avs)) : AvOk K H σ v av ∧ AvsOk K H σ vs avs ∧ ∀ a, Fav v av a → ¬ FavL vs avs a := by
  have q := r.all
  cases q with
  | cons h t =>
    refine ⟨h, ⟨t, fun i j u w b c a h1 h2 h3 h4 h5 h6 => ?_⟩, fun a h1 ⟨i, u, b, h2, h3, h4⟩ => ?_⟩
    · have := r.inj (i + 1) (j + 1) u w b c a (by simpa using h1) (by simpa using h2) (by simpa using h3) (by simpa using h4) h5 h6
      omega
    · have := r.inj 0 (i + 1) v u av b a rfl rfl (by simpa using h2) (by simpa using h3) h1 h4
      omega

/-! ### lending -/
def AtFt (vs : List V) (os : List O) (i : Nat) (a : Addr) : Prop := ∃ v o, vs[i]? = some v ∧ os[i]? = some o ∧ Ft v o a
def FtL (vs : List V) (os : List O) (a : Addr) : Prop := ∃ i, AtFt vs os i a
structure ArgOk (K : PySem.W.Frag) (H : Hp) (vs : List V) (os : List O) : Prop where
  all : Paired (Ow K H) vs os
  inj : ∀ (i j : Nat) (a : Addr), AtFt vs os i a → AtFt vs os j a → i = j
theorem ftL_cons {vs : List V} {os : List O} {a : Addr} : FtL (v :: vs) (o :: os) a ↔ Ft v o a ∨ FtL vs os a := by
  constructor
  · rintro ⟨i, u, b, h1, h2, h3⟩
    cases i with
    | zero => simp at h1 h2; subst h1 h2; exact .inl h3
    | succ i => exact .inr ⟨i, u, b, by simpa using h1, by simpa using h2, h3⟩
  · rintro (h | ⟨i, u, b, h1, h2, h3⟩)
    · exact ⟨0, v, o, rfl, rfl, h⟩
    · exact ⟨i + 1, u, b, by simpa using h1, by simpa using h2, h3⟩
theorem ArgOk.nil : ArgOk K H [] [] := ⟨.nil, fun i j a ⟨_, _, h, _⟩ => by simp at h⟩
theorem ArgOk.cons {vs : List V} {os : List O} (h : Ow K H v o) (r : ArgOk K H vs os) (d : ∀ a, Ft v o a → ¬ FtL vs os a) : ArgOk K H (v :: vs) (o :: os) := by
  refine ⟨.cons h r.all, fun i j a ⟨u, b, h1, h2, h5⟩ ⟨w, c, h3, h4, h6⟩ => ?_⟩
  cases i with
  | zero =>
    simp at h1 h2; subst h1 h2
    cases j with
    | zero => rfl
    | succ j => exact absurd ⟨j, w, c, by simpa using h3, by simpa using h4, h6⟩ (d a h5)
  | succ i =>
    cases j with
    | zero =>
      simp at h3 h4; subst h3 h4
      exact absurd ⟨i, u, b, by simpa using h1, by simpa using h2, h5⟩ (d a h6)
    | succ j => rw [r.inj i j a ⟨u, b, by simpa using h1, by simpa using h2, h5⟩ ⟨w, c, by simpa using h3, by simpa using h4, h6⟩]
theorem ArgOk.tail {vs : List V} {os : List O} (r : ArgOk K H (v :: vs) (o :: os)) : Ow K H v o ∧ ArgOk K H vs os ∧ ∀ a, Ft v o a → ¬ FtL vs os a := by
  have q := r.all
  cases q with
  | cons h t =>
    refine ⟨h, ⟨t, fun i j a ⟨u, b, h1, h2, h5⟩ ⟨w, c, h3, h4, h6⟩ => ?_⟩, fun a h1 ⟨i, u, b, h2, h3, h4⟩ => ?_⟩
    · have := r.inj (i + 1) (j + 1) a ⟨u, b, by simpa using h1, by simpa using h2, h5⟩ ⟨w, c, by simpa using h3, by simpa using h4, h6⟩
      omega
    · have := r.inj 0 (i + 1) a ⟨v, o, rfl, rfl, h1⟩ ⟨u, b, by simpa using h2, by simpa using h3, h4⟩
      omega
/-- what is lent, by the slots ahead (ρ0) -/
def Lent (ρ0 : Fm) (σ : St) : List AV → List V → List O → Prop
  | .sl i :: r, v :: vs, o :: os => rd ρ0 i = some o ∧ σ[i]? = some (some v) ∧ Lent ρ0 σ r vs os
  | .o _ :: r, _ :: vs, _ :: os => Lent ρ0 σ r vs os
  | [], [], [] => True
  | _, _, _ => False
theorem lend_ok {ρ0 : Fm} : ∀ {avs : List AV} {vs : List V} {ρ ρ2 : Fm} {os : List O}, FrOk K args H σ ρ → AvsOk K H σ vs avs → (∀ a, FavL vs avs a → ¬ Own σ ρ a) → (∀ i o, rd ρ i = some o → rd ρ0 i = some o) → lend avs ρ = some (os, ρ2) →
    ArgOk K H vs os ∧ FrOk K args H σ ρ2 ∧ (∀ a, FtL vs os a → ¬ Own σ ρ2 a) ∧ (∀ a, Own σ ρ2 a → Own σ ρ a) ∧ (∀ a, FtL vs os a → Own σ ρ a ∨ FavL vs avs a) ∧ Lent ρ0 σ avs vs os ∧ (∀ i o, rd ρ2 i = some o → rd ρ i = some o)
  | [], vs, ρ, ρ2, os, f, w, _, _, e => by
    cases w.all
    cases e
    exact ⟨.nil, f, fun a ⟨i, _, _, h, _⟩ => by simp at h, fun _ h => h, fun a ⟨i, _, _, h, _⟩ => by simp at h, trivial, fun _ _ h => h⟩
  | .o x :: r, vs, ρ, ρ2, os, f, w, d, hr, e => by
    cases vs with
    | nil => cases w.all
    | cons v vs =>
      obtain ⟨w1, w2, w3⟩ := w.tail
      obtain ⟨⟨os', ρ'⟩, e1, e2⟩ := Option.map_eq_some_iff.mp e
      cases e2
      obtain ⟨a1, a2, a3, a4, a5, a6, a7⟩ := lend_ok f w2 (fun a h => d a (favL_cons.mpr (.inr h))) hr e1
      have dx : ∀ a, Ft v x a → ¬ Own σ ρ a := fun a h => d a (favL_cons.mpr (.inl h))
      refine ⟨.cons w1 a1 fun a h q => (a5 a q).elim (dx a h) (w3 a h), a2, fun a h => (ftL_cons.mp h).elim (fun q z => dx a q (a4 a z)) (a3 a), a4, fun a h => (ftL_cons.mp h).elim (fun q => .inr (favL_cons.mpr (.inl q))) fun q => (a5 a q).imp id fun z => favL_cons.mpr (.inr z), a6, a7⟩
  | .sl i :: r, vs, ρ, ρ2, os, f, w, d, hr, e => by
    cases vs with
    | nil => cases w.all
    | cons v vs =>
      obtain ⟨w1, w2, w3⟩ := w.tail
      have wi : σ[i]? = some (some v) := w1
      cases q : rd ρ i with
      | none => unfold lend at e; rw [q] at e; cases e
      | some x =>
        obtain ⟨u, eu, wu⟩ := f.at_ i x q
        rw [wi] at eu
        cases eu
        have done : ∀ {ρ1 : Fm} {os' : List O}, FrOk K args H σ ρ1 → (∀ a, Own σ ρ1 a → Own σ ρ a) → (∀ a, Ft v x a → ¬ Own σ ρ1 a) → (∀ i o, rd ρ1 i = some o → rd ρ i = some o) → lend r ρ1 = some (os', ρ2) → os = x :: os' → _ := fun {ρ1 os'} f1 h1 h2 h3 e1 e2 =>
          lend_ok f1 w2 (fun a h z => d a (favL_cons.mpr (.inr h)) (h1 a z)) (fun i o z => hr i o (h3 i o z)) e1
        have fin : ∀ {ρ1 : Fm} {os' : List O}, FrOk K args H σ ρ1 → (∀ a, Own σ ρ1 a → Own σ ρ a) → (∀ a, Ft v x a → ¬ Own σ ρ1 a) → (∀ i o, rd ρ1 i = some o → rd ρ i = some o) → lend r ρ1 = some (os', ρ2) → os = x :: os' →
            ArgOk K H (v :: vs) os ∧ FrOk K args H σ ρ2 ∧ (∀ a, FtL (v :: vs) os a → ¬ Own σ ρ2 a) ∧ (∀ a, Own σ ρ2 a → Own σ ρ a) ∧ (∀ a, FtL (v :: vs) os a → Own σ ρ a ∨ FavL (v :: vs) (.sl i :: r) a) ∧ Lent ρ0 σ (.sl i :: r) (v :: vs) os ∧ (∀ i o, rd ρ2 i = some o → rd ρ i = some o) := fun {ρ1 os'} f1 h1 h2 h3 e1 e2 => by
          obtain ⟨a1, a2, a3, a4, a5, a6, a7⟩ := done f1 h1 h2 h3 e1 e2
          subst e2
          have ow : ∀ a, Ft v x a → Own σ ρ a := fun a h => ⟨i, x, q, h.1, by rw [wi, h.2]⟩
          refine ⟨.cons wu a1 fun a h z => (a5 a z).elim (h2 a h) fun y => d a (favL_cons.mpr (.inr y)) (ow a h), a2, fun a h => (ftL_cons.mp h).elim (fun z y => h2 a z (a4 a y)) (a3 a), fun a h => h1 a (a4 a h),
            fun a h => (ftL_cons.mp h).elim (fun z => .inl (ow a z)) fun z => (a5 a z).imp (h1 a) fun y => favL_cons.mpr (.inr y), ⟨hr i x q, wi, a6⟩, fun j y z => h3 j y (a7 j y z)⟩
        unfold lend at e
        rw [q] at e
        cases x with
        | fz dd =>
          obtain ⟨⟨os', ρ'⟩, e1, e2⟩ := Option.map_eq_some_iff.mp e
          cases e2
          exact fin f (fun _ h => h) (fun a h => nomatch h.1) (fun _ _ h => h) e1 rfl
        | ls ds =>
          obtain ⟨⟨os', ρ'⟩, e1, e2⟩ := Option.map_eq_some_iff.mp e
          cases e2
          refine fin (f.un i) (fun _ h => h.un) (fun a h z => ?_) (fun j y z => ?_) e1 rfl
          · obtain ⟨j, o2, b1, b2, b3⟩ := id z
            unfold unS at b1
            rw [rd_set] at b1
            split at b1
            · cases b1
            · rename_i hh
              have := f.inj j i a ⟨o2, b1, b2, b3⟩ ⟨_, q, rfl, by rw [wi, h.2]⟩
              subst this
              exact hh ⟨rfl, rd_lt q⟩
          · unfold unS at z
            rw [rd_set] at z
            split at z
            · cases z
            · exact z
        | dc _ => exact wu.elim

/-! ### giving back -/
def FtP (vs : List V) (ps : List (Option O)) (a : Addr) : Prop := ∃ (i : Nat) (v : V) (o : O), vs[i]? = some v ∧ ps[i]? = some (some o) ∧ Ft v o a
def PsOk (K : PySem.W.Frag) (H : Hp) (vs : List V) (os : List O) (ps : List (Option O)) : Prop := ∀ (i : Nat) (x : O), ps[i]? = some (some x) → ∃ v o, vs[i]? = some v ∧ os[i]? = some o ∧ o.own = true ∧ Ow K H v x
theorem PsOk.tail {vs : List V} {os : List O} {ps : List (Option O)} {p : Option O} (w : PsOk K H (v :: vs) (o :: os) (p :: ps)) : PsOk K H vs os ps := fun i x h => by
  obtain ⟨u, b, h1, h2, h3⟩ := w (i + 1) x (by simpa using h)
  exact ⟨u, b, by simpa using h1, by simpa using h2, h3⟩
theorem ftP_tail {vs : List V} {ps : List (Option O)} {p : Option O} {a : Addr} (h : FtP vs ps a) : FtP (v :: vs) (p :: ps) a := by
  obtain ⟨i, u, o, h1, h2, h3⟩ := h
  exact ⟨i + 1, u, o, by simpa using h1, by simpa using h2, h3⟩
theorem back_ok {ρ0 : Fm} (f0 : FrOk K args H σ ρ0) : ∀ {avs : List AV} {vs : List V} {os : List O} {ps : List (Option O)} {ρ : Fm}, FrOk K args H' σ ρ → Lent ρ0 σ avs vs os →
    ArgOk K H vs os → (∀ a, FtL vs os a → ¬ Own σ ρ a) → PsOk K H' vs os ps → FrOk K args H' σ (back ρ0 avs ps ρ) ∧ ∀ a, Own σ (back ρ0 avs ps ρ) a → Own σ ρ a ∨ FtP vs ps a
  | [], vs, os, ps, ρ, f, l, _, _, _ => by cases ps <;> exact ⟨f, fun a h => .inl h⟩
  | av :: r, vs, os, [], ρ, f, l, _, _, _ => by cases av <;> exact ⟨f, fun a h => .inl h⟩
  | .o x :: r, [], os, p :: ps, ρ, f, l, ok, d, w => by cases os <;> exact l.elim
  | .o x :: r, v :: vs, [], p :: ps, ρ, f, l, ok, d, w => l.elim
  | .o x :: r, v :: vs, o :: os, p :: ps, ρ, f, l, ok, d, w => by
    obtain ⟨z1, z2⟩ := back_ok f0 (avs := r) f l ok.tail.2.1 (fun a h => d a (ftL_cons.mpr (.inr h))) w.tail
    exact ⟨z1, fun a h => (z2 a h).imp id ftP_tail⟩
  | .sl i :: r, [], os, p :: ps, ρ, f, l, ok, d, w => by cases os <;> exact l.elim
  | .sl i :: r, v :: vs, [], p :: ps, ρ, f, l, ok, d, w => l.elim
  | .sl i :: r, v :: vs, o :: os, p :: ps, ρ, f, l, ok, d, w => by
    obtain ⟨l1, l2, l3⟩ := l
    obtain ⟨ok1, ok2, ok3⟩ := ok.tail
    have skip : FrOk K args H' σ (back ρ0 r ps ρ) ∧ ∀ a, Own σ (back ρ0 r ps ρ) a → Own σ ρ a ∨ FtP (v :: vs) (p :: ps) a := by
      obtain ⟨z1, z2⟩ := back_ok f0 (avs := r) f l3 ok2 (fun a h => d a (ftL_cons.mpr (.inr h))) w.tail
      exact ⟨z1, fun a h => (z2 a h).imp id ftP_tail⟩
    unfold back
    split
    · exact skip
    · rename_i s x hs hnf
      rcases w 0 x rfl with ⟨v', o', h1, h2, h3, h4⟩
      simp at h1 h2
      subst h1 h2
      have same : ∀ a, Ft v x a → Ft v o a := fun a q => ⟨h3, q.2⟩
      have f1 : FrOk K args H' σ (ρ.set i (s.put x)) := by
        refine f.set i (s.put x) (fun y e => ?_) (fun y e => ?_) fun e => f0.hd_ i (by rw [hs, Sl.put_hd e])
        · rw [Sl.put_get e]
          exact ⟨v, l2, h4, fun a q j z => absurd ⟨j, z⟩ (d a (ftL_cons.mpr (.inl (same a q))))⟩
        · obtain ⟨_, z, rfl⟩ := Sl.put_pa e
          exact f0.pa_ i z hs
      obtain ⟨z1, z2⟩ := back_ok f0 (avs := r) f1 l3 ok2 (fun a h q => by
        rcases q.set with ⟨y, u, e, eu, q⟩ | q
        · rw [Sl.put_get e] at q
          rw [l2] at eu
          cases eu
          exact ok3 a (same a q) h
        · exact d a (ftL_cons.mpr (.inr h)) q) w.tail
      refine ⟨z1, fun a h => ?_⟩
      rcases z2 a h with q | q
      · rcases q.set with ⟨y, u, e, eu, q⟩ | q
        · rw [Sl.put_get e] at q
          rw [l2] at eu
          cases eu
          exact .inr ⟨0, v, x, rfl, rfl, q⟩
        · exact .inl q
      · exact .inr (ftP_tail q)
    · exact skip
end
end GW

/-! GW, part 5: an IR term stands for an expression (chk); its meaning is what the expression does. -/
namespace GW
open PySem PySem.Spec PyProof.Rows L2  -- gw

/-! ### chk -/
mutual
def eqD : D → D → Bool
  | .none, .none => true | .bool a, .bool b => a == b | .int a, .int b => a == b | .str a, .str b => a == b
  | .list a, .list b => eqDs a b | .tuple a, .tuple b => eqDs a b | _, _ => false
def eqDs : List D → List D → Bool
  | [], [] => true | a :: r, b :: t => eqD a b && eqDs r t | _, _ => false
end
mutual
theorem eqD_ok : ∀ {a b : D}, eqD a b = true → a = b
  | .none, .none, _ => rfl
  | .bool a, .bool b, h => by rw [eq_of_beq h]
  | .int a, .int b, h => by rw [eq_of_beq h]
  | .str a, .str b, h => by rw [eq_of_beq h]
  | .list a, .list b, h => by rw [eqDs_ok h]
  | .tuple a, .tuple b, h => by rw [eqDs_ok h]
theorem eqDs_ok : ∀ {a b : List D}, eqDs a b = true → a = b
  | [], [], _ => rfl
  | a :: r, b :: t, h => by
    unfold eqDs at h
    rw [Bool.and_eq_true] at h
    rw [eqD_ok h.1, eqDs_ok h.2]
end
def visB (sc : Scope) (x : Str) : Bool := match sc.names.lookup x with
  | some .local => true | some .cell => true | some .free => true | _ => false
def glB (sc : Scope) (x : Str) : Bool := match sc.names.lookup x with
  | some .globalImplicit => true | _ => false
def nmB (x : Str) : Bool := !(x == ("__debug__" : Str)) && !(x == ("__classdict__" : Str))
def nm2 (x : Str) : Bool := !(x == ("__debug__" : Str)) && !(x == ("__name__" : Str))
def conB : D → Const → Bool
  | .none, .none => true | .bool a, .bool b => a == b | .int a, .int b => a == b | .str a, .str b => a == b | _, _ => false
/-- no star, no slice, no written set: what may stand as an argument, an index, a thing to be walked -/
def plainE : Expr → Bool
  | .Starred _ _ => false | .Slice _ _ _ _ => false | .Set _ _ _ => false | _ => true
def isComp : Expr → Bool
  | .ListComp _ _ _ _ => true | .SetComp _ _ _ _ => true | .DictComp _ _ _ _ _ => true | _ => false
/-- no super(): what a method's name may follow -/
def noSup : Expr → Bool
  | .Call (.Name x _) [] [] _ => !(x == ("super" : Str))
  | _ => true
def bname : Bi → Str
  | .len => "len" | .list => "list" | .tuple => "tuple" | .sum => "sum" | .all => "all" | .any => "any" | .int => "int" | .abs => "abs"
  | .min => "min" | .max => "max" | .repr => "repr" | .sorted => "sorted" | .sset => "sorted" | .lset => "len"
def biOk : Bi → Bool
  | .sset => false | .lset => false | _ => true
def bnames : List Str := ["len", "list", "tuple", "sum", "all", "any", "int", "abs", "min", "max", "repr", "sorted", "set", "zip", "isinstance", "range", "str", "bool"]
/-- the operands behind the first one -/
def tailB (op : PySem.BoolOp) (y : Expr) (r : List Expr) (pos : Pos) : Expr := match r with
  | [] => y | _ => .BoolOp op (y :: r) pos
/-- what may be tested -/
def tstB : Expr → Bool
  | .IfExp _ _ _ _ => false | .NamedExpr _ _ _ => false | _ => true
def plainIxB : Expr → Bool
  | .Slice _ _ _ _ => false | _ => true
mutual
/-- the slots that a target stores -/
def slT : Tg → List Nat
  | .nm i => [i] | .tp ts => slTs ts
def slTs : Tgs → List Nat
  | .nil => [] | .cons t ts => slT t ++ slTs ts
end
/-- a zip wants a tuple of targets -/
def zipB : II → Expr → Bool
  | .zip _ _, .Tuple _ _ _ => true
  | .zip _ _, _ => false
  | _, _ => true
def nIEs : IEs → Nat
  | .nil => 0 | .cons _ es => nIEs es + 1
section
variable (N : List Str) (T : List Df) (G : List (Str × D))
def locB (sc : Scope) (x : Str) : Bool := match sc.names.lookup x with
  | some .local => true | some .cell => true | _ => false
mutual
/-- a target; the names that it stores are the scope's own -/
def chkT : Scope → Tg → Expr → Bool
  | sc, .nm i, .Name x _ => decide (N[i]? = some x) && locB sc x
  | sc, .tp ts, .Tuple es _ _ => chkTs sc ts es
  | _, _, _ => false
def chkTs : Scope → Tgs → List Expr → Bool
  | _, .nil, [] => true
  | sc, .cons t ts, e :: es => plainE e && chkT sc t e && chkTs sc ts es
  | _, _, _ => false
end
mutual
def chkE : Scope → IE → Expr → Bool
  | sc, .loc i, .Name x _ => decide (N[i]? = some x) && visB sc x && nmB x
  | _, .con d, .Constant c _ _ => conB d c
  | sc, .glo x d, .Name y _ => (x == y) && glB sc x && nm2 x && G.any fun p => p.1 == x && eqD p.2 d
  | sc, .tup es, .Tuple xs _ _ => chkEs sc es xs && decide (xs.length ≤ 10000)
  | sc, .lst es, .List xs _ => chkEs sc es xs && decide (xs.length ≤ 10000)
  | sc, .bin op a b, .BinOp x p y _ => decide (p = opOf op) && chkE sc a x && chkE sc b y
  | sc, .neg a, .UnaryOp .USub x _ => chkE sc a x
  | sc, .not a, .UnaryOp .Not x _ => tstB x && chkE sc a x
  | sc, .cmp op a b, .Compare x [p] [y] _ => decide (p = cOf op) && plainE y && chkE sc a x && chkE sc b y
  | sc, .cmp2 p q a b c, .Compare x [r, s] [y, z] _ => decide (r = cOf p) && decide (s = cOf q) && plainE z && chkE sc a x && chkE sc b y && chkE sc c z
  | sc, .isN a, .Compare x [.Is] [.Constant .none _ _] _ => chkE sc a x
  | sc, .notN a, .Compare x [.IsNot] [.Constant .none _ _] _ => chkE sc a x
  | sc, .and a b, .BoolOp .And (x :: y :: r) pos => tstB x && tstB y && chkE sc a x && chkE sc b (tailB .And y r pos)
  | sc, .or a b, .BoolOp .Or (x :: y :: r) pos => tstB x && tstB y && chkE sc a x && chkE sc b (tailB .Or y r pos)
  | sc, .ife c a b, .IfExp z x y _ => tstB z && chkE sc c z && chkE sc a x && chkE sc b y
  | sc, .slc a lo hi, .Subscript x (.Slice l h none _) _ => chkE sc a x && chkO sc lo l && chkO sc hi h
  | sc, .sub a b, .Subscript x y _ => plainIxB y && chkE sc a x && chkE sc b y
  | sc, .call f as, .Call (.Name x _) es [] _ => glB sc x && !(x == ("__debug__" : Str)) && (match T[f]? with | some d => (d.name == x) && decide (d.np = es.length) | none => false) && chkEs sc as es
  | sc, .bi b as, .Call (.Name x _) es [] _ => glB sc x && (x == bname b) && biOk b && decide (es.length ≠ 0) && chkEs sc as es
  | sc, .isi a t, .Call (.Name f _) [x, .Name y _] [] _ => glB sc f && (f == ("isinstance" : Str)) && plainE x && chkE sc a x && glB sc y && (y == Str.ofString (tyN t))
  | sc, .lrg1 a, .Call (.Name f _) [z] [] _ => glB sc f && (f == ("list" : Str)) && (match z with
    | .Call (.Name x _) [y] [] _ => glB sc x && (x == ("range" : Str)) && plainE y && chkE sc a y
    | _ => false)
  | sc, .lrg2 a b, .Call (.Name f _) [z] [] _ => glB sc f && (f == ("list" : Str)) && (match z with
    | .Call (.Name x _) [y, u] [] _ => glB sc x && (x == ("range" : Str)) && plainE y && plainE u && chkE sc a y && chkE sc b u
    | _ => false)
  | sc, .lc elt tg it cnd vs, .ListComp x [⟨t, i, ifs, 0⟩] scope _ =>
      chkI sc it i && zipB it t && plainE i && blkC N sc scope (vs.filterMap fun i => (N[i]?).map fun x => (x, i)) && decide (vs.all fun i => (N[i]?).isSome) && chkT N scope tg t && ((slT tg).all fun i => decide (i ∈ vs)) && chkE (relS scope sc) elt x && chkC (relS scope sc) cnd ifs
  | sc, .sset a, .Call (.Name x _) [.Call (.Name y _) [z] [] _] [] _ => glB sc x && (x == ("sorted" : Str)) && glB sc y && (y == ("set" : Str)) && plainE z && chkE sc a z
  | sc, .lset a, .Call (.Name x _) [.Call (.Name y _) [z] [] _] [] _ => glB sc x && (x == ("len" : Str)) && glB sc y && (y == ("set" : Str)) && plainE z && chkE sc a z
  | sc, .rev a, .Subscript x (.Slice none none (some (.UnaryOp .USub (.Constant (.int 1) _ _) _)) _) _ => chkE sc a x
  | sc, .idx a b, .Call (.Attribute x m apos) [y] [] cpos => (m == ("index" : Str)) && (apos.endLine == cpos.line) && noSup x && plainE y && chkE sc a x && chkE sc b y
  | sc, .fidx f ys e, .Call (.Attribute (.Call (.Name x _) [] [] _) m apos) [y] [] cpos => (m == ("index" : Str)) && (apos.endLine == cpos.line) && plainE y && glB sc x && !(x == ("__debug__" : Str)) && !(x == ("super" : Str)) && (match T[f]? with | some d => (d.name == x) && decide (d.np = 0) && decide (strBody d.body = some ys) | none => false) && chkE sc e y
  | sc, .dget ps e f, .Call (.Attribute (.Dict ks vs _) m apos) [x, y] [] cpos => (m == ("get" : Str)) && (apos.endLine == cpos.line) && plainE x && plainE y && chkP sc ps ks vs && decide (ks ≠ []) && decide (ks.length ≤ 15) && chkE sc e x && chkE sc f y
  | _, _, _ => false
def chkP : Scope → IPs → List (Option Expr) → List Expr → Bool
  | _, .nil, [], [] => true
  | sc, .cons k v r, some x :: xs, y :: ys => chkE sc k x && chkE sc v y && chkP sc r xs ys
  | _, _, _, _ => false
def chkEs : Scope → IEs → List Expr → Bool
  | _, .nil, [] => true
  | sc, .cons e es, x :: xs => plainE x && chkE sc e x && chkEs sc es xs
  | _, _, _ => false
def chkO : Scope → IEo → Option Expr → Bool
  | _, .no, none => true
  | sc, .so e, some x => chkE sc e x
  | _, _, _ => false
def chkC : Scope → IEo → List Expr → Bool
  | _, .no, [] => true
  | sc, .so e, [x] => tstB x && chkE sc e x
  | _, _, _ => false
def chkI : Scope → II → Expr → Bool
  | sc, .val e, x => chkE sc e x
  | sc, .txt e, x => chkE sc e x
  | sc, .lok i, .Name x _ => decide (N[i]? = some x) && visB sc x && nmB x
  | sc, .rng1 a, .Call (.Name x _) [y] [] _ => glB sc x && (x == ("range" : Str)) && plainE y && chkE sc a y
  | sc, .rng2 a b, .Call (.Name x _) [y, z] [] _ => glB sc x && (x == ("range" : Str)) && plainE y && plainE z && chkE sc a y && chkE sc b z
  | sc, .rng3 a b c, .Call (.Name x _) [y, z, u] [] _ => glB sc x && (x == ("range" : Str)) && plainE y && plainE z && plainE u && chkE sc a y && chkE sc b z && chkE sc c u
  | sc, .zip a b, .Call (.Name x _) [y, z] [] _ => glB sc x && (x == ("zip" : Str)) && plainE y && plainE z && chkE sc a y && chkE sc b z
  | _, _, _ => false
end
end

/-! ### what plain expressions are -/
section
variable {e : Expr} {es : List Expr} {env : Env}
theorem star_plain (h : plainE e = true) : starEach (e :: es) env = (false, eval e env) :: starEach es env := by cases e <;> first | rfl | cases h
theorem ix_plain (h : plainIxB e = true) : PlainIx e := by intro o i; cases e <;> first | rfl | cases h
theorem marks_plain (op : CmpOp) (h : plainE e = true) : behindInMarks op e = false := by cases e <;> first | rfl | cases h
theorem folded_plain (h : plainE e = true) : ∀ x, foldedSetIterable e env x = pure x := by intro x; cases e <;> first | rfl | cases h
theorem last_plain {p q : CmpOp} {a : Expr} (h : plainE e = true) : lastMarks [p, q] [a, e] = false := by
  show behindInMarks q e = false
  exact marks_plain q h
end

/-! ### what is wanted -/
/-- how an error lies -/
abbrev XRT := Er → Value → Option Addr → Hp → Prop
def PostG {α : Type} (K : PySem.W.Frag) (args : Ar) (XR : XRT) (W : WX) (σ : St) (ρ : Fm) (H : Hp) (r : Res α) (k : α → Fm → Prop) : Prop := match r with
  | .ok a ρ' => k a ρ'
  | .ex e ρ' => ∀ c d H', Got K args σ ρ H σ ρ' H' (fun _ => False) → XR e c d H' → W c d σ H'
  | .bad => False
section
variable {α β : Type} {K : PySem.W.Frag} {args : Ar} {XR : XRT} {W : WX} {σ : St} {ρ ρ0 : Fm} {H H0 : Hp}
theorem PostG.bind {r : Res α} {f : α → Fm → Res β} {k : β → Fm → Prop} {k1 : α → Fm → Prop} (P : PostG K args XR W σ ρ H (r.bind f) k) (h : ∀ a ρ1, r = .ok a ρ1 → PostG K args XR W σ ρ H (f a ρ1) k → k1 a ρ1) : PostG K args XR W σ ρ H r k1 := by
  cases r with
  | ok a ρ1 => exact h a ρ1 rfl P
  | ex e ρ1 => exact P
  | bad => exact P
/-- .. from a later state -/
theorem PostG.bind' {r : Res α} {f : α → Fm → Res β} {k : β → Fm → Prop} {k1 : α → Fm → Prop} {F : Addr → Prop} (g : Got K args σ ρ0 H0 σ ρ H F) (P : PostG K args XR W σ ρ0 H0 (r.bind f) k)
    (h : ∀ a ρ1, r = .ok a ρ1 → PostG K args XR W σ ρ0 H0 (f a ρ1) k → k1 a ρ1) : PostG K args XR W σ ρ H r k1 := by
  cases r with
  | ok a ρ1 => exact h a ρ1 rfl P
  | ex e ρ1 => exact fun c d H' g' x => P c d H' (g.trans g') x
  | bad => exact P
theorem PostG.later {r : Res α} {k k1 : α → Fm → Prop} {F : Addr → Prop} (g : Got K args σ ρ0 H0 σ ρ H F) (P : PostG K args XR W σ ρ0 H0 r k) (h : ∀ a ρ1, k a ρ1 → k1 a ρ1) : PostG K args XR W σ ρ H r k1 := by
  cases r with
  | ok a ρ1 => exact h a ρ1 P
  | ex e ρ1 => exact fun c d H' g' x => P c d H' (g.trans g') x
  | bad => exact P
theorem PostG.imp {r : Res α} {k k1 : α → Fm → Prop} (P : PostG K args XR W σ ρ H r k) (h : ∀ a ρ1, r = .ok a ρ1 → k a ρ1 → k1 a ρ1) : PostG K args XR W σ ρ H r k1 := by
  cases r with
  | ok a ρ1 => exact h a ρ1 rfl P
  | ex e ρ1 => exact P
  | bad => exact P
theorem PostG.ofO {x : Option α} {ρ1 : Fm} {k : α → Fm → Prop} (P : PostG K args XR W σ ρ H (GW.ofO x ρ1) k) : ∃ a, x = some a ∧ k a ρ1 := by
  cases x with
  | none => exact P.elim
  | some a => exact ⟨a, rfl, P⟩
end
/-! ### defs of the program, as they are called -/
structure FnG (XR : XRT) (P : Program) (w : World) (K : PySem.W.Frag) (mg : Str → Option Value) (base : Heap) (k : Nat) (f : Addr) (fd : FuncData) (ps : List Str) (sp : Sp) : Prop where
  len : ∀ vs H Q E, sp vs H Q E → vs.length = ps.length  -- gw
  run : ∀ (A : Around) (outer : List Env) (s : Shared) (H : Hp) (args : Args) (us : List Value) (vs : List V) (Q : VK) (E : XK), Room k A → A.guards = some [] → Env0 P w K mg base A outer s H → BindsTo s fd args (ps.zip us) → Vals vs us → sp vs H Q E →
    codeAny (model P w) A (.call (.ref f) args) (L2.CR (L2.CX P w) outer P w H s Q E) s
def PostC (K : PySem.W.Frag) (XR : XRT) (vs : List V) (os : List O) (H : Hp) (Q : VK) (E : XK) : CR → Prop
  | .ok o ps => ∀ v H', Kp (FtL vs os) H H' → PsOk K H' vs os ps → Ow K H' v o → (∀ a, Ft v o a → ¬ FtP vs ps a) → (∀ a, Ft v o a → FtL vs os a ∨ H a = none) → Q v H'
  | .ex e ps => ∀ c d H', Kp (FtL vs os) H H' → PsOk K H' vs os ps → XR e c d H' → E c d H'
  | .bad => False
def spF (K : PySem.W.Frag) (XR : XRT) (T : List Df) (n f : Nat) : Sp := fun vs H Q E => ∃ os d, T[f]? = some d ∧ vs.length = d.np ∧ ArgOk K H vs os ∧ PostC K XR vs os H Q E (callN T n f os)
/-- a def that tells a row of texts: the object that it makes has no dict -/
def spX (ys : List Str) : Sp := fun vs H Q _ => vs = [] ∧ ∀ (H1 : Hp) (p : Addr) (o : Obj), Kp (fun _ => False) H H1 → H1 p = none → o.dict = none → o.cls = .type "tuple" → Q (.ref p) (upd H1 p (.frz o (.tup (ys.map V.str))))
structure GOk (T : List Df) (G : List (Str × D)) (XR : XRT) (n : Nat) (P : Program) (w : World) (K : PySem.W.Frag) (mg : Str → Option Value) (base : Heap) : Prop where
  glob : ∀ x d, (x, d) ∈ G → ∃ u v, mg x = some u ∧ RelV v u ∧ ∀ H, Rp K H v d
  blt : ∀ x ∈ bnames, mg x = none
  fns : ∀ f d, T[f]? = some d → ∃ fa fd, mg d.name = some (.ref fa) ∧ PySem.W.keepIn K (.ref fa) = true ∧ (d.N.take d.np).length = d.np ∧ Binds K fd (d.N.take d.np) [] ∧ FnG XR P w K mg base n fa fd (d.N.take d.np) (spF K XR T n f)
  txs : ∀ (f : Nat) (d : Df) (ys : List Str), T[f]? = some d → d.np = 0 → strBody d.body = some ys → 0 < n → ∃ fa fd, mg d.name = some (.ref fa) ∧ PySem.W.keepIn K (.ref fa) = true ∧ Binds K fd [] [] ∧ FnG XR P w K mg base n fa fd [] (spX ys)
structure XOk (T : List Df) (G : List (Str × D)) (XR : XRT) (n : Nat) (N : List Str) (sc : Scope) (W : WX) (X : Cx) : Prop where
  g : GOk T G XR n X.prog X.w X.K X.mg X.base
  hN : X.N = N
  nd : N.Nodup
  sc : X.env.scope = sc
  calm : X.calm = true
  tk : Takes X W
  rm : Room n X.A
  gd : X.A.guards = some []
theorem XOk.units {T : List Df} {G : List (Str × D)} {XR : XRT} {n : Nat} {N : List Str} {sc : Scope} {W : WX} {X : Cx} (xo : XOk T G XR n N sc W X) : X.A.units + 100 < cLine := by
  have := xo.rm.un
  omega
end GW

/-! GW, part 6: expressions. -/
namespace GW
open PySem PySem.Spec PyProof.Rows L2  -- gw
section
variable (T : List Df) (n : Nat) (XR : XRT)
def SE (X : Cx) (W : WX) (ie : IE) (e : Expr) : Prop := ∀ (args : Ar) (σ : St) (ρ : Fm) (H : Hp) (Q : VK), FrOk X.K args H σ ρ →
  PostG X.K args XR W σ ρ H (ev (callN T n) ie ρ) (fun o ρ' => ∀ v H', Got X.K args σ ρ H σ ρ' H' (Ft v o) → Ow X.K H' v o → Q v H') → WE X e σ H Q
def SP (X : Cx) (W : WX) (ie : IE) (e : Expr) : Prop := ∀ (args : Ar) (σ : St) (ρ : Fm) (H : Hp) (Q : VK), FrOk X.K args H σ ρ →
  PostG X.K args XR W σ ρ H (prep ie (ev (callN T n) ie) ρ) (fun av ρ' => ∀ v H', Got X.K args σ ρ H σ ρ' H' (Fav v av) → AvOk X.K H' σ v av → Q v H') → WE X e σ H Q
def SF (X : Cx) (W : WX) (ie : IE) (e : Expr) : Prop := ∀ (args : Ar) (σ : St) (ρ : Fm) (H : Hp) (Q : VK), FrOk X.K args H σ ρ →
  PostG X.K args XR W σ ρ H (frz (ev (callN T n) ie ρ)) (fun d ρ' => ∀ v H', Got X.K args σ ρ H σ ρ' H' (fun _ => False) → Rp X.K H' v d → Q v H') → WE X e σ H Q
def STt (X : Cx) (W : WX) (ie : IE) (e : Expr) : Prop := ∀ (args : Ar) (σ : St) (ρ : Fm) (H : Hp) (Q : Bool → Hp → Prop), FrOk X.K args H σ ρ →
  PostG X.K args XR W σ ρ H (tst ie (ev (callN T n) ie) ρ) (fun b ρ' => ∀ H', Got X.K args σ ρ H σ ρ' H' (fun _ => False) → Q b H') → WT X e σ H Q
def SW (X : Cx) (W : WX) (ie : IE) (e : Expr) : Prop := ∀ (args : Ar) (σ : St) (ρ : Fm) (H : Hp) (Q : Bool → Hp → Prop), FrOk X.K args H σ ρ →
  PostG X.K args XR W σ ρ H (tst ie (ev (callN T n) ie) ρ) (fun b ρ' => ∀ H', Got X.K args σ ρ H σ ρ' H' (fun _ => False) → Q b H') → WW X e σ H Q
def SD (X : Cx) (W : WX) (ies : IEs) (es : List Expr) : Prop := ∀ (args : Ar) (σ : St) (ρ : Fm) (H : Hp) (Q : List V → Hp → Prop), FrOk X.K args H σ ρ →
  PostG X.K args XR W σ ρ H (evDs (callN T n) ies ρ) (fun ds ρ' => ∀ vs H', Got X.K args σ ρ H σ ρ' H' (fun _ => False) → RpA X.K H' vs ds → vs.length = es.length → Q vs H') → WA X es σ H Q
def SA (X : Cx) (W : WX) (ies : IEs) (es : List Expr) : Prop := ∀ (args : Ar) (σ : St) (ρ : Fm) (H : Hp) (Q : List V → Hp → Prop), FrOk X.K args H σ ρ →
  PostG X.K args XR W σ ρ H (evAs (callN T n) ies ρ) (fun avs ρ' => ∀ vs H', Got X.K args σ ρ H σ ρ' H' (FavL vs avs) → AvsOk X.K H' σ vs avs → vs.length = es.length → Q vs H') → WA X es σ H Q
def WOp (X : Cx) : Option Expr → TO
  | none => tNoPart
  | some e => tPart (WE X e)
theorem WOp.po {X : Cx} : ∀ {e : Option Expr}, PO X e (WOp X e)
  | none => po_none
  | some _ => po_some WE.pe
def SO (X : Cx) (W : WX) (ie : IEo) (e : Option Expr) : Prop := ∀ (args : Ar) (σ : St) (ρ : Fm) (H : Hp) (Q : Option Int → Hp → Prop), FrOk X.K args H σ ρ →
  PostG X.K args XR W σ ρ H (evO (callN T n) ie ρ) (fun i ρ' => ∀ H', Got X.K args σ ρ H σ ρ' H' (fun _ => False) → Q i H') → WOp X e σ H Q
section
variable {T n XR} {X : Cx} {W : WX} {ia ib ie : IE} {ea eb e : Expr}

theorem prep_ne {r : Fm → Res O} {ρ : Fm} (h : ∀ i, ie ≠ .loc i) : prep ie r ρ = (r ρ).bind fun x ρ' => .ok (.o x) ρ' := by cases ie <;> first | rfl | exact absurd rfl (h _)
theorem tst_ne {r : Fm → Res O} {ρ : Fm} (h : ∀ i, ie ≠ .loc i) : tst ie r ρ = (r ρ).bind fun x ρ' => ofO (truF x) ρ' := by cases ie <;> first | rfl | exact absurd rfl (h _)
theorem ow_none {K : PySem.W.Frag} {H : Hp} {x : V} {o : O} (w : Ow K H x o) : decide (x = V.non) = noneB o := by
  cases o with
  | ls ds => obtain ⟨a, vs, rfl, _⟩ := w; rfl
  | dc _ => exact w.elim
  | fz d => cases d <;> cases w <;> rfl

/-! ### from SE -/
theorem SE.sf (h : SE T n XR X W ie e) : SF T n XR X W ie e := by
  intro args σ ρ H Q f P
  refine WE.fz (h args σ ρ H _ f (PostG.bind P fun o ρ1 he P1 => fun v H' g w => ?_))
  cases o with
  | fz d => exact .inl (P1 v H' (g.drop fun _ z => z.elim) w)
  | ls ds =>
    obtain ⟨a, vs, rfl, hv, r⟩ := w
    exact .inr ⟨a, vs, hv, fun ob => P1 _ _ (g.frz hv id ⟨rfl, rfl⟩) (rp_frz hv r)⟩
  | dc _ => exact w.elim
theorem SE.sp (h : SE T n XR X W ie e) (hl : ∀ i, ie = .loc i → ∃ x pos, e = .Name x pos ∧ X.N[i]? = some x ∧ visB X.env.scope x = true ∧ nmB x = true) : SP T n XR X W ie e := by
  intro args σ ρ H Q f P
  have other : (∀ i, ie ≠ .loc i) → WE X e σ H Q := fun nl => by
    have P' : PostG X.K args XR W σ ρ H ((ev (callN T n) ie ρ).bind fun x ρ' => .ok (AV.o x) ρ') (fun av ρ' => ∀ v H', Got X.K args σ ρ H σ ρ' H' (Fav v av) → AvOk X.K H' σ v av → Q v H') := by
      cases ie <;> first | exact P | exact absurd rfl (nl _)
    exact h args σ ρ H _ f (PostG.bind P' fun o ρ1 he P1 => fun v H' g w => P1 v H' g w)
  cases ie with
  | loc i =>
    obtain ⟨x, pos, rfl, hN, hv, hn⟩ := hl i rfl
    have vis : Vis X.env.scope x := by
      unfold visB at hv
      split at hv
      · exact .inl (by assumption)
      · exact .inr (.inl (by assumption))
      · exact .inr (.inr (by assumption))
      · cases hv
    unfold nmB at hn
    rw [Bool.and_eq_true] at hn
    have P1 : PostG X.K args XR W σ ρ H (if (rd ρ i).isSome then Res.ok (AV.sl i) ρ else .bad) (fun av ρ' => ∀ v H', Got X.K args σ ρ H σ ρ' H' (Fav v av) → AvOk X.K H' σ v av → Q v H') := P
    cases q : rd ρ i with
    | none => rw [q] at P1; exact P1.elim
    | some o =>
      rw [q] at P1
      obtain ⟨v, ev, w⟩ := f.at_ i o q
      exact WE.of (pe_var hN vis (by simpa using hn.1) (by simpa using hn.2)) ⟨v, ev, P1 v H ((Got.refl f).drop fun _ z => z.elim) ev⟩
  | _ => exact other fun i z => nomatch z
theorem truF_bool {o : O} {k : Bool} (e : o = .fz (.bool k)) : truF o = some k := by subst e; rfl
/-- a test of an expression that is asked for its truth -/
theorem SE.plainT (h : SP T n XR X W ie e) (he : ∀ whole, isTrue e X.env whole = (do let v ← whole; standAt e.pos; holding [v] (truthy v))) : STt T n XR X W ie e := by
  intro args σ ρ H Q f P
  refine WT.of (pt_truth WE.pe he) (h args σ ρ H _ f ?_)
  have P' : PostG X.K args XR W σ ρ H ((prep ie (ev (callN T n) ie) ρ).bind fun av ρ' => ofO ((av.val ρ').bind truF) ρ') (fun b ρ' => ∀ H', Got X.K args σ ρ H σ ρ' H' (fun _ => False) → Q b H') := by
    by_cases hl : ∃ i, ie = .loc i
    · obtain ⟨i, rfl⟩ := hl
      have P : PostG X.K args XR W σ ρ H (ofO ((rd ρ i).bind truF) ρ) (fun b ρ' => ∀ H', Got X.K args σ ρ H σ ρ' H' (fun _ => False) → Q b H') := P
      show PostG X.K args XR W σ ρ H ((if (rd ρ i).isSome then Res.ok (AV.sl i) ρ else .bad).bind fun av ρ' => ofO ((av.val ρ').bind truF) ρ') _
      cases q : rd ρ i with
      | none => rw [q] at P; exact P.elim
      | some o => exact P
    · have nl : ∀ i, ie ≠ .loc i := fun i z => hl ⟨i, z⟩
      rw [tst_ne nl] at P
      rw [prep_ne nl]
      cases h : ev (callN T n) ie ρ with
      | ok a ρ1 => rw [h] at P; exact P
      | ex a ρ1 => rw [h] at P; exact P
      | bad => rw [h] at P; exact P
  refine PostG.bind P' fun av ρ1 he P1 => fun v H' g w => ?_
  obtain ⟨k, e1, P2⟩ := PostG.ofO P1
  obtain ⟨o, e2, e3⟩ := Option.bind_eq_some_iff.mp e1
  have wo := w.val g.fr e2
  exact ⟨k, tru_of wo e3, P2 H' (g.drop fun _ z => z.elim)⟩
/-- two operands -/
theorem duo {α : Type} (ha : SP T n XR X W ia ea) (hb : SP T n XR X W ib eb) {args : Ar} {σ : St} {ρ : Fm} {H : Hp} (f : FrOk X.K args H σ ρ) {g : O → O → Option α} {β : Type} {c : Option α → Fm → Res β} {kb : β → Fm → Prop}
    (P : PostG X.K args XR W σ ρ H ((prep ia (ev (callN T n) ia) ρ).bind fun x ρ1 => (prep ib (ev (callN T n) ib) ρ1).bind fun y ρ2 => c ((x.val ρ2).bind fun p => (y.val ρ2).bind fun q => g p q) ρ2) kb)
    (hc : ∀ ρ2, PostG X.K args XR W σ ρ H (c none ρ2) kb → False)
    {R : V → V → Hp → Prop} (h : ∀ (x y : V) (H2 : Hp) (ρ2 : Fm) (av aw : AV) (p q : O), Got X.K args σ ρ H σ ρ2 H2 (fun a => Fav x av a ∨ Fav y aw a) → AvOk X.K H2 σ x av → AvOk X.K H2 σ y aw → av.val ρ2 = some p → aw.val ρ2 = some q → Ow X.K H2 x p → Ow X.K H2 y q → PostG X.K args XR W σ ρ H (c (g p q) ρ2) kb → R x y H2) :
    WE X ea σ H fun x H1 => WE X eb σ H1 fun y H2 => R x y H2 := by
  refine ha args σ ρ H _ f (PostG.bind P fun av ρ1 he P1 => fun x H1 g1 w1 => ?_)
  refine hb args σ ρ1 H1 _ g1.fr (PostG.bind' g1 P1 fun aw ρ2 he2 P2 => fun y H2 g2 w2 => ?_)
  have g3 := g1.trans2 g2 fun c z => Fav.there z w1
  have w1' := w1.keep g2.kp fun a z q => g1.dis a z q
  cases e1 : av.val ρ2 with
  | none => rw [e1] at P2; exact (hc ρ2 P2).elim
  | some p =>
    cases e2 : aw.val ρ2 with
    | none => rw [e1, e2] at P2; exact (hc ρ2 P2).elim
    | some q =>
      rw [e1, e2] at P2
      exact h x y H2 ρ2 av aw p q g3 w1' w2 e1 e2 (w1'.val g2.fr e1) (w2.val g2.fr e2) P2
end
end
end GW

/-! GW, part 7: all expressions. -/
namespace GW
open PySem PySem.Spec PyProof.Rows L2  -- gw
section
variable {T : List Df} {n : Nat} {XR : XRT} {X : Cx} {W : WX} {ia ib ie : IE} {ea eb e : Expr}
theorem bind_assoc {α β γ : Type} (r : Res α) (f : α → Fm → Res β) (g : β → Fm → Res γ) : (r.bind f).bind g = r.bind fun a ρ => (f a ρ).bind g := by cases r <;> rfl
theorem asB_tst {β : Type} {K : PySem.W.Frag} {args : Ar} {σ : St} {ρ ρ0 : Fm} {H0 : Hp} {f : Bool → Fm → Res β} {k : β → Fm → Prop} (P : PostG K args XR W σ ρ0 H0 (asB (ev (callN T n) ie ρ) f) k) :
    PostG K args XR W σ ρ0 H0 ((tst ie (ev (callN T n) ie) ρ).bind f) k := by
  by_cases hl : ∃ i, ie = .loc i
  · obtain ⟨i, rfl⟩ := hl
    have P : PostG K args XR W σ ρ0 H0 (asB (evLoc i ρ) f) k := P
    show PostG K args XR W σ ρ0 H0 ((ofO ((rd ρ i).bind truF) ρ).bind f) k
    unfold evLoc at P
    cases q : rd ρ i with
    | none => rw [q] at P; exact P.elim
    | some o =>
      rw [q] at P
      cases o with
      | fz d => cases d <;> first | exact P | exact P.elim
      | ls ds => exact P.elim
      | dc _ => exact P.elim
  · rw [tst_ne fun i z => hl ⟨i, z⟩]
    unfold asB at P
    cases h : ev (callN T n) ie ρ with
    | ok o ρ1 =>
      rw [h] at P
      cases o with
      | fz d => cases d <;> first | exact P | exact P.elim
      | ls ds => exact P.elim
      | dc _ => exact P.elim
    | ex a ρ1 => rw [h] at P; exact P
    | bad => rw [h] at P; exact P
theorem tst_bool {K : PySem.W.Frag} {args : Ar} {σ : St} {ρ0 : Fm} {H0 : Hp} {b : Bool} {ρ : Fm} {k : Bool → Fm → Prop} (P : PostG K args XR W σ ρ0 H0 ((Res.ok (O.fz (.bool b)) ρ).bind fun x ρ' => ofO (truF x) ρ') k) : k b ρ := P

/-! ### the two forms of a test -/
theorem SW.st (h : SW T n XR X W ie e) : STt T n XR X W ie e := fun args σ ρ H Q f P => fun pins s I => h args σ ρ H Q f P _ pins s I
theorem tst_prep {β : Type} {K : PySem.W.Frag} {args : Ar} {σ : St} {ρ ρ0 : Fm} {H0 : Hp} {r : Fm → Res O} {f : Bool → Fm → Res β} {k : β → Fm → Prop} (P : PostG K args XR W σ ρ0 H0 ((tst ie r ρ).bind f) k) :
    PostG K args XR W σ ρ0 H0 ((prep ie r ρ).bind fun av ρ' => (ofO ((av.val ρ').bind truF) ρ').bind f) k := by
  by_cases hl : ∃ i, ie = .loc i
  · obtain ⟨i, rfl⟩ := hl
    have P : PostG K args XR W σ ρ0 H0 ((ofO ((rd ρ i).bind truF) ρ).bind f) k := P
    show PostG K args XR W σ ρ0 H0 ((if (rd ρ i).isSome then Res.ok (AV.sl i) ρ else .bad).bind fun av ρ' => (ofO ((av.val ρ').bind truF) ρ').bind f) k
    cases q : rd ρ i with
    | none => rw [q] at P; exact P.elim
    | some o =>
      show PostG K args XR W σ ρ0 H0 ((ofO ((rd ρ i).bind truF) ρ).bind f) k
      exact P
  · rw [tst_ne fun i z => hl ⟨i, z⟩] at P
    rw [prep_ne fun i z => hl ⟨i, z⟩]
    cases h : r ρ with
    | ok o ρ1 => rw [h] at P; exact P
    | ex a ρ1 => rw [h] at P; exact P
    | bad => rw [h] at P; exact P
theorem noF {K : PySem.W.Frag} {args : Ar} {σ σ1 : St} {ρ ρ1 : Fm} {H H1 : Hp} {F : Addr → Prop} {v : V} {d : D} (g : Got K args σ ρ H σ1 ρ1 H1 F) : Got K args σ ρ H σ1 ρ1 H1 (Ft v (.fz d)) := g.drop fun a z => nomatch z.1
theorem noF0 {K : PySem.W.Frag} {args : Ar} {σ σ1 : St} {ρ ρ1 : Fm} {H H1 : Hp} {F : Addr → Prop} (g : Got K args σ ρ H σ1 ρ1 H1 F) : Got K args σ ρ H σ1 ρ1 H1 (fun _ => False) := g.drop fun a z => z.elim
/-- not -/
theorem st_not {pos : Pos} (h : STt T n XR X W ia ea) : STt T n XR X W (.not ia) (.UnaryOp .Not ea pos) := by
  intro args σ ρ H Q f P
  have P' : PostG X.K args XR W σ ρ H ((tst ia (ev (callN T n) ia) ρ).bind fun b ρ1 => (Res.ok (O.fz (.bool (!b))) ρ1).bind fun x ρ' => ofO (truF x) ρ') (fun b ρ' => ∀ H', Got X.K args σ ρ H σ ρ' H' (fun _ => False) → Q b H') := by
    rw [← bind_assoc]; exact P
  exact WT.of (pt_not WT.pt) (h args σ ρ H _ f (PostG.bind P' fun b ρ1 he P1 => tst_bool P1))
def rNotT (K : PySem.W.Frag) : V → Hp → VK → Prop := fun x H Q => ∃ k, TruV K x H k ∧ Q (.bl (!k)) H
theorem un_notT : UnR X (unaryOp .Not) (rNotT X.K) := by
  intro pins s σ H x v Q I rx ⟨k, e, q⟩
  exact not_of (thn (tru_ok pins s σ H x v (fun b H' => Q (.bl (!b)) H') I rx ⟨k, e, q⟩) fun c s' ⟨H1, I1, q1⟩ => ⟨.bl (!c), H1, I1, rfl, q1⟩)
theorem se_not {pos : Pos} (h : SP T n XR X W ia ea) : SE T n XR X W (.not ia) (.UnaryOp .Not ea pos) := by
  intro args σ ρ H Q f P
  have P' := tst_prep (ie := ia) P
  refine WE.of (pe_un un_notT WE.pe) (h args σ ρ H _ f (PostG.bind P' fun av ρ1 he P1 => fun v H1 g w => ?_))
  cases e : (av.val ρ1).bind truF with
  | none => rw [e] at P1; exact P1.elim
  | some k =>
    rw [e] at P1
    obtain ⟨o, e2, e3⟩ := Option.bind_eq_some_iff.mp e
    exact ⟨k, tru_of (w.val g.fr e2) e3, P1 _ H1 (noF g) (.bl _)⟩
/-- operators -/
theorem se_bin {op : BOp} {pos : Pos} (ha : SP T n XR X W ia ea) (hb : SP T n XR X W ib eb) : SE T n XR X W (.bin op ia ib) (.BinOp ea (opOf op) eb pos) := by
  intro args σ ρ H Q f P
  refine WE.of (pe_op (op_bin op) WE.pe WE.pe) (duo ha hb f (c := fun x ρ2 => ofO x ρ2) P (fun _ z => z) fun x y H2 ρ2 av aw p q g _ _ _ _ wx wy P2 => ?_)
  obtain ⟨o, e, k⟩ := PostG.ofO P2
  exact ⟨p, q, o, wx, wy, e, fun v H' kp w fr => k v H' (g.yld kp fr) w⟩
theorem se_cmp {op : COp} {pos : Pos} (hu : X.A.units + 100 < cLine) (hm : plainE eb = true) (ha : SP T n XR X W ia ea) (hb : SP T n XR X W ib eb) : SE T n XR X W (.cmp op ia ib) (.Compare ea [cOf op] [eb] pos) := by
  intro args σ ρ H Q f P
  refine WE.of (pe_cmpR (op_cmp hu op) WE.pe WE.pe (marks_plain _ hm)) (duo ha hb f (g := fun p q => (cmpF op p q).map fun k => O.fz (.bool k)) (c := fun x ρ2 => ofO x ρ2) P (fun _ z => z) fun x y H2 ρ2 av aw p q g _ _ _ _ wx wy P2 => ?_)
  obtain ⟨o, e, k⟩ := PostG.ofO P2
  obtain ⟨b, e2, rfl⟩ := Option.map_eq_some_iff.mp e
  exact ⟨p, q, b, wx, wy, e2, k _ H2 (noF g) (.bl _)⟩
theorem tst_ev {K : PySem.W.Frag} {args : Ar} {σ : St} {ρ ρ0 : Fm} {H0 : Hp} {k : Bool → Fm → Prop} (h : ∀ i, ie ≠ .loc i) (P : PostG K args XR W σ ρ0 H0 (tst ie (ev (callN T n) ie) ρ) k) :
    PostG K args XR W σ ρ0 H0 (ev (callN T n) ie ρ) (fun o ρ1 => PostG K args XR W σ ρ0 H0 (ofO (truF o) ρ1) k) := by
  rw [tst_ne h] at P
  exact PostG.bind P fun _ _ _ P1 => P1
theorem st_cmp {op : COp} {pos : Pos} (hu : X.A.units + 100 < cLine) (hm : plainE eb = true) (ha : SP T n XR X W ia ea) (hb : SP T n XR X W ib eb) : STt T n XR X W (.cmp op ia ib) (.Compare ea [cOf op] [eb] pos) := by
  intro args σ ρ H Q f P
  refine WT.of (pt_cmpR (op_cmp hu op) WE.pe WE.pe (marks_plain _ hm)) (duo ha hb f (g := fun p q => (cmpF op p q).map fun k => O.fz (.bool k)) (c := fun x ρ2 => ofO x ρ2) (tst_ev (by intro i z; cases z) P) (fun _ z => z) fun x y H2 ρ2 av aw p q g _ _ _ _ wx wy P2 => ?_)
  obtain ⟨o, e, k⟩ := PostG.ofO P2
  obtain ⟨b, e2, rfl⟩ := Option.map_eq_some_iff.mp e
  exact ⟨p, q, b, wx, wy, e2, b, rfl, k H2 (noF0 g)⟩
/-- a < b < c -/
theorem cmp2_core {p q : COp} {ic : IE} {ec : Expr} (ha : SP T n XR X W ia ea) (hb : SP T n XR X W ib eb) (hc : SP T n XR X W ic ec) {args : Ar} {σ : St} {ρ : Fm} {H : Hp} (f : FrOk X.K args H σ ρ) {kb : O → Fm → Prop} {Q : VK}
    (P : PostG X.K args XR W σ ρ H (ev (callN T n) (.cmp2 p q ia ib ic) ρ) kb) (h : ∀ b ρ' H', Got X.K args σ ρ H σ ρ' H' (fun _ => False) → kb (.fz (.bool b)) ρ' → Q (.bl b) H') :
    tChain (rCmp X.K p) (rCmp X.K q) (WE X ea) (WE X eb) (WE X ec) σ H Q := by
  refine ha args σ ρ H _ f (PostG.bind P fun av ρ1 he P1 => fun x H1 g1 w1 => ?_)
  refine hb args σ ρ1 H1 _ g1.fr (PostG.bind' g1 P1 fun aw ρ2 he2 P2 => fun y H2 g2 w2 => ?_)
  have g3 := g1.trans2 g2 fun c z => Fav.there z w1
  have w1' := w1.keep g2.kp fun a z q => g1.dis a z q
  cases e1 : av.val ρ2 with
  | none => rw [e1] at P2; exact P2.elim
  | some u =>
    cases e2 : aw.val ρ2 with
    | none => rw [e1, e2] at P2; exact P2.elim
    | some v =>
      rw [e1, e2] at P2
      simp only [Option.bind_some] at P2
      cases e3 : cmpF p u v with
      | none => rw [e3] at P2; exact P2.elim
      | some k =>
        rw [e3] at P2
        refine ⟨u, v, k, w1'.val g2.fr e1, w2.val g2.fr e2, e3, k, rfl, ?_⟩
        cases k with
        | false =>
          rw [if_neg Bool.false_ne_true]  -- gw
          exact h _ _ _ (noF0 g3) P2
        | true =>
          rw [if_pos rfl]
          have P3 : PostG X.K args XR W σ ρ H ((prep ic (ev (callN T n) ic) ρ2).bind fun z ρ4 => ofO ((aw.val ρ4).bind fun v => (z.val ρ4).bind fun w => (cmpF q v w).map fun k => O.fz (.bool k)) ρ4) kb := P2
          refine hc args σ ρ2 H2 _ g3.fr (PostG.bind' g3 P3 fun aq ρ3 he3 P4 => fun z H3 g4 w4 => ?_)
          have g5 := g3.trans2 g4 fun c z => z.elim (fun z => Fav.there z w1') fun z => Fav.there z w2
          have w2' := w2.keep g4.kp fun a z q => g3.dis a (.inr z) q
          obtain ⟨o, e, k⟩ := PostG.ofO P4
          obtain ⟨v', e5, e⟩ := Option.bind_eq_some_iff.mp e
          obtain ⟨w', e6, e⟩ := Option.bind_eq_some_iff.mp e
          obtain ⟨b, e7, rfl⟩ := Option.map_eq_some_iff.mp e
          exact ⟨v', w', b, w2'.val g4.fr e5, w4.val g4.fr e6, e7, h b _ _ (noF0 g5) k⟩
theorem se_cmp2 {p q : COp} {ic : IE} {ec : Expr} {pos : Pos} (hu : X.A.units + 100 < cLine) (hm : plainE ec = true) (ha : SP T n XR X W ia ea) (hb : SP T n XR X W ib eb) (hc : SP T n XR X W ic ec) :
    SE T n XR X W (.cmp2 p q ia ib ic) (.Compare ea [cOf p, cOf q] [eb, ec] pos) := fun args σ ρ H Q f P =>
  WE.of (pe_chain (op_cmp hu p) (op_cmp hu q) WE.pe WE.pe WE.pe (last_plain hm)) (cmp2_core ha hb hc f P fun b ρ' H' g k => k _ H' (noF g) (.bl b))
theorem st_cmp2 {p q : COp} {ic : IE} {ec : Expr} {pos : Pos} (hu : X.A.units + 100 < cLine) (hm : plainE ec = true) (ha : SP T n XR X W ia ea) (hb : SP T n XR X W ib eb) (hc : SP T n XR X W ic ec) :
    STt T n XR X W (.cmp2 p q ia ib ic) (.Compare ea [cOf p, cOf q] [eb, ec] pos) := fun args σ ρ H Q f P =>
  WT.of (pt_chain (op_cmp hu p) (op_cmp hu q) WE.pe WE.pe WE.pe (last_plain hm)) (cmp2_core ha hb hc f (tst_ev (by intro i z; cases z) P) fun b ρ' H' g k => ⟨b, rfl, k H' g⟩)
/-- is None -/
theorem isN_core (ha : SP T n XR X W ia ea) {args : Ar} {σ : St} {ρ : Fm} {H : Hp} (f : FrOk X.K args H σ ρ) {kb : O → Fm → Prop} {g : O → Bool} {Q : VK}
    (P : PostG X.K args XR W σ ρ H ((prep ia (ev (callN T n) ia) ρ).bind fun x ρ1 => ofO ((x.val ρ1).map fun o => O.fz (.bool (g o))) ρ1) kb)
    (h : ∀ o ρ' H' v, Got X.K args σ ρ H σ ρ' H' (fun _ => False) → Ow X.K H' v o → kb (.fz (.bool (g o))) ρ' → Q v H') : WE X ea σ H Q := by
  refine ha args σ ρ H _ f (PostG.bind P fun av ρ1 he P1 => fun x H1 g1 w1 => ?_)
  obtain ⟨o, e, k⟩ := PostG.ofO P1
  obtain ⟨o', e2, rfl⟩ := Option.map_eq_some_iff.mp e
  exact h o' ρ1 H1 x (noF0 g1) (w1.val g1.fr e2) k
theorem se_isN {j : Nat} {pos p2 : Pos} (ha : SP T n XR X W ia ea) : SE T n XR X W (.isN ia) (.Compare ea [.Is] [.Constant .none j p2] pos) := fun args σ ρ H Q f P =>
  WE.of (pe_cmpR op_isN WE.pe pe_non (nomark _)) (isN_core ha f P fun o ρ' H' v g w k => ⟨rfl, by rw [ow_none w]; exact k _ H' (noF g) (.bl _)⟩)
theorem st_isN {j : Nat} {pos p2 : Pos} (ha : SP T n XR X W ia ea) : STt T n XR X W (.isN ia) (.Compare ea [.Is] [.Constant .none j p2] pos) := fun args σ ρ H Q f P =>
  WT.of (pt_cmpR op_isN WE.pe pe_non (nomark _)) (isN_core ha f (tst_ev (by intro i z; cases z) P) fun o ρ' H' v g w k => ⟨rfl, _, rfl, by rw [ow_none w]; exact k H' g⟩)
theorem se_notN {j : Nat} {pos p2 : Pos} (ha : SP T n XR X W ia ea) : SE T n XR X W (.notN ia) (.Compare ea [.IsNot] [.Constant .none j p2] pos) := fun args σ ρ H Q f P =>
  WE.of (pe_cmpR op_notN WE.pe pe_non (nomark _)) (isN_core ha f P fun o ρ' H' v g w k => ⟨rfl, by rw [ow_none w]; exact k _ H' (noF g) (.bl _)⟩)
theorem st_notN {j : Nat} {pos p2 : Pos} (ha : SP T n XR X W ia ea) : STt T n XR X W (.notN ia) (.Compare ea [.IsNot] [.Constant .none j p2] pos) := fun args σ ρ H Q f P =>
  WT.of (pt_cmpR op_notN WE.pe pe_non (nomark _)) (isN_core ha f (tst_ev (by intro i z; cases z) P) fun o ρ' H' v g w k => ⟨rfl, _, rfl, by rw [ow_none w]; exact k H' g⟩)

/-! ### and, or -/
theorem asB_ev {β : Type} {K : PySem.W.Frag} {args : Ar} {σ : St} {ρ0 : Fm} {H0 : Hp} {f : Bool → Fm → Res β} {k : β → Fm → Prop} {r : Res O} {kb : O → Fm → Prop} (P : PostG K args XR W σ ρ0 H0 (asB r f) k)
    (h : ∀ b ρ1, PostG K args XR W σ ρ0 H0 (f b ρ1) k → kb (.fz (.bool b)) ρ1) : PostG K args XR W σ ρ0 H0 r kb := PostG.bind P fun o ρ1 he P1 => by
  cases o with
  | fz d => cases d <;> first | exact h _ _ P1 | exact P1.elim
  | ls ds => exact P1.elim
  | dc _ => exact P1.elim
theorem se_and {pos : Pos} {y : Expr} {r : List Expr} (ha : SE T n XR X W ia ea) (hb : SE T n XR X W ib (tailB .And y r pos)) : SE T n XR X W (.and ia ib) (.BoolOp .And (ea :: y :: r) pos) := by
  intro args σ ρ H Q f P
  have pb : PE X (.BoolOp .And (y :: r) pos) (WE X (tailB .And y r pos)) := by
    cases r with
    | nil => exact pe_one WE.pe
    | cons _ _ => exact WE.pe
  refine WE.of (pe_and WE.pe pb) (ha args σ ρ H _ f (asB_ev P fun b ρ1 P1 => fun v H1 g w => ⟨b, bool_of w, ?_⟩))
  cases b with
  | false => exact P1 _ H1 (noF g) (.bl false)
  | true =>
    rw [if_pos rfl]
    exact hb args σ ρ1 H1 _ g.fr (asB_ev (P1.later (k1 := fun o ρ' => ∀ v H', Got X.K args σ ρ1 H1 σ ρ' H' (Ft v o) → Ow X.K H' v o → Q v H') g fun o ρ2 k => fun v H' g2 w2 => k v H' (g.trans g2) w2) fun d ρ2 k => fun v H2 g2 w2 => k v H2 g2 w2)
theorem se_or {pos : Pos} {y : Expr} {r : List Expr} (ha : SE T n XR X W ia ea) (hb : SE T n XR X W ib (tailB .Or y r pos)) : SE T n XR X W (.or ia ib) (.BoolOp .Or (ea :: y :: r) pos) := by
  intro args σ ρ H Q f P
  have pb : PE X (.BoolOp .Or (y :: r) pos) (WE X (tailB .Or y r pos)) := by
    cases r with
    | nil => exact pe_one WE.pe
    | cons _ _ => exact WE.pe
  refine WE.of (pe_or WE.pe pb) (ha args σ ρ H _ f (asB_ev P fun b ρ1 P1 => fun v H1 g w => ⟨b, bool_of w, ?_⟩))
  cases b with
  | true => exact P1 _ H1 (noF g) (.bl true)
  | false =>
    rw [if_neg Bool.false_ne_true]  -- gw
    exact hb args σ ρ1 H1 _ g.fr (asB_ev (P1.later (k1 := fun o ρ' => ∀ v H', Got X.K args σ ρ1 H1 σ ρ' H' (Ft v o) → Ow X.K H' v o → Q v H') g fun o ρ2 k => fun v H' g2 w2 => k v H' (g.trans g2) w2) fun d ρ2 k => fun v H2 g2 w2 => k v H2 g2 w2)
theorem sw_and {pos : Pos} {y : Expr} {r : List Expr} (ha : STt T n XR X W ia ea) (hb : r = [] → STt T n XR X W ib y) (hb2 : r ≠ [] → SW T n XR X W ib (.BoolOp .And (y :: r) pos)) : SW T n XR X W (.and ia ib) (.BoolOp .And (ea :: y :: r) pos) := by
  intro args σ ρ H Q f P
  have P1 := tst_ev (by intro i z; cases z) P
  refine WW.of (pw_and WT.pt WW.pw) (ha args σ ρ H _ f (PostG.bind (asB_tst P1) fun b ρ1 _ P2 => fun H1 g => ?_))
  cases b with
  | false => exact P2 H1 g
  | true =>
    have P3 : PostG X.K args XR W σ ρ1 H1 (tst ib (ev (callN T n) ib) ρ1) (fun b ρ' => ∀ H', Got X.K args σ ρ1 H1 σ ρ' H' (fun _ => False) → Q b H') :=
      PostG.bind (asB_tst (P2.later g fun o ρ2 k => k)) fun b ρ2 _ P4 => fun H' g2 => P4 H' (g.trans g2)
    rw [if_pos rfl]
    cases r with
    | nil => exact WW.of (pw_and1 WT.pt) (hb rfl args σ ρ1 H1 _ g.fr P3)
    | cons _ _ => exact hb2 (fun z => nomatch z) args σ ρ1 H1 _ g.fr P3
theorem sw_or {pos : Pos} {y : Expr} {r : List Expr} (ha : STt T n XR X W ia ea) (hb : r = [] → STt T n XR X W ib y) (hb2 : r ≠ [] → SW T n XR X W ib (.BoolOp .Or (y :: r) pos)) : SW T n XR X W (.or ia ib) (.BoolOp .Or (ea :: y :: r) pos) := by
  intro args σ ρ H Q f P
  have P1 := tst_ev (by intro i z; cases z) P
  refine WW.of (pw_or WT.pt WW.pw) (ha args σ ρ H _ f (PostG.bind (asB_tst P1) fun b ρ1 _ P2 => fun H1 g => ?_))
  cases b with
  | true => exact P2 H1 g
  | false =>
    have P3 : PostG X.K args XR W σ ρ1 H1 (tst ib (ev (callN T n) ib) ρ1) (fun b ρ' => ∀ H', Got X.K args σ ρ1 H1 σ ρ' H' (fun _ => False) → Q b H') :=
      PostG.bind (asB_tst (P2.later g fun o ρ2 k => k)) fun b ρ2 _ P4 => fun H' g2 => P4 H' (g.trans g2)
    rw [if_neg Bool.false_ne_true]  -- gw
    cases r with
    | nil => exact WW.of (pw_or1 WT.pt) (hb rfl args σ ρ1 H1 _ g.fr P3)
    | cons _ _ => exact hb2 (fun z => nomatch z) args σ ρ1 H1 _ g.fr P3
/-- a if c else b -/
theorem se_ife {ic : IE} {ec : Expr} {pos : Pos} (hc : STt T n XR X W ic ec) (ha : SE T n XR X W ia ea) (hb : SE T n XR X W ib eb) : SE T n XR X W (.ife ic ia ib) (.IfExp ec ea eb pos) := by
  intro args σ ρ H Q f P
  refine WE.of (pe_ifExp WT.pt WE.pe WE.pe) (hc args σ ρ H _ f (PostG.bind P fun b ρ1 _ P1 => fun H1 g => ?_))
  cases b with
  | true =>
    rw [if_pos rfl]
    exact ha args σ ρ1 H1 _ g.fr (P1.later g fun o ρ2 k => fun v H' g2 w2 => k v H' (g.trans g2) w2)
  | false =>
    rw [if_neg Bool.false_ne_true]  -- gw
    exact hb args σ ρ1 H1 _ g.fr (P1.later g fun o ρ2 k => fun v H' g2 w2 => k v H' (g.trans g2) w2)
end
end GW

/-! GW, part 8: names, displays, places, calls. -/
namespace GW
open PySem PySem.Spec PyProof.Rows L2  -- gw
section
variable {T : List Df} {G : List (Str × D)} {n : Nat} {XR : XRT} {N : List Str} {X : Cx} {W : WX} {ia ib ie : IE} {ea eb e : Expr} {sc : Scope}
theorem vis_of {x : Str} (h : visB sc x = true) : Vis sc x := by
  unfold visB at h
  split at h
  · exact .inl (by assumption)
  · exact .inr (.inl (by assumption))
  · exact .inr (.inr (by assumption))
  · cases h
theorem gl_of {x : Str} (hs : X.env.scope = sc) (h : glB sc x = true) : Gl X x := by
  unfold glB at h
  split at h
  · show X.env.scope.names.lookup x = _
    rw [hs]; assumption
  · cases h
theorem nm_of {x : Str} (h : nmB x = true) : (x == ("__debug__" : Str)) = false ∧ (x == ("__classdict__" : Str)) = false := by
  unfold nmB at h
  rw [Bool.and_eq_true] at h
  exact ⟨by simpa using h.1, by simpa using h.2⟩
/-- a name -/
theorem se_loc {i : Nat} {x : Str} {pos : Pos} (hN : X.N[i]? = some x) (hv : Vis X.env.scope x) (hn : nmB x = true) : SE T n XR X W (.loc i) (.Name x pos) := by
  intro args σ ρ H Q f P
  have P : PostG X.K args XR W σ ρ H (evLoc i ρ) (fun o ρ' => ∀ v H', Got X.K args σ ρ H σ ρ' H' (Ft v o) → Ow X.K H' v o → Q v H') := P
  unfold evLoc at P
  cases q : rd ρ i with
  | none => rw [q] at P; exact P.elim
  | some o =>
    rw [q] at P
    obtain ⟨v, ev, w⟩ := f.at_ i o q
    refine WE.fz (WE.of (pe_var hN hv (nm_of hn).1 (nm_of hn).2) ⟨v, ev, ?_⟩)
    cases o with
    | fz d => exact .inl (P v H (noF (Got.refl f)) w)
    | ls ds =>
      obtain ⟨a, vs, rfl, h, r⟩ := id w
      refine .inr ⟨a, vs, h, fun ob => ?_⟩
      have rp := rp_frz (ob := ob) h r
      exact P _ _ (noF ((Got.refl f).put (P := fun b => b = a) q ev (Kp.write h id rfl) (fun b e => ⟨rfl, by rw [e]⟩) (y := .fz (.list ds)) rp fun b z => nomatch z.1)) rp
    | dc _ => exact w.elim
theorem se_con {d : D} {c : Const} {j : Nat} {pos : Pos} (h : conB d c = true) : SE T n XR X W (.con d) (.Constant c j pos) := by
  intro args σ ρ H Q f P
  have P : ∀ v H', Got X.K args σ ρ H σ ρ H' (Ft v (.fz d)) → Ow X.K H' v (.fz d) → Q v H' := P
  cases d <;> cases c <;> first | (cases h; done) | skip
  · exact WE.of pe_non (P _ H (noF (Got.refl f)) .non)
  · rw [eq_of_beq h] at P; exact WE.of pe_bl (P _ H (noF (Got.refl f)) (.bl _))
  · rw [eq_of_beq h] at P; exact WE.of pe_int (P _ H (noF (Got.refl f)) (.int _))
  · rw [eq_of_beq h] at P; exact WE.of pe_str (P _ H (noF (Got.refl f)) (.str _))
theorem se_glo {x : Str} {d : D} {pos : Pos} (xo : XOk T G XR n N sc W X) (h : (glB sc x && nm2 x && G.any fun p => p.1 == x && eqD p.2 d) = true) : SE T n XR X W (.glo x d) (.Name x pos) := by
  intro args σ ρ H Q f P
  rw [Bool.and_eq_true, Bool.and_eq_true] at h
  obtain ⟨⟨h1, h2⟩, h3⟩ := h
  obtain ⟨⟨y, e⟩, hm, he⟩ := List.any_eq_true.mp h3
  rw [Bool.and_eq_true] at he
  obtain ⟨rfl, rfl⟩ : y = x ∧ e = d := ⟨eq_of_beq he.1, eqD_ok he.2⟩
  obtain ⟨u, v, hg, r, rp⟩ := xo.g.glob y e hm
  unfold nm2 at h2
  rw [Bool.and_eq_true] at h2
  exact WE.of (pe_glob (gl_of xo.sc h1) hg r (by simpa using h2.1)) (P v H (noF (Got.refl f)) (rp H))
/-- displays -/
theorem sd_nil : SD T n XR X W .nil [] := fun args σ ρ H Q f P => WA.of pa_nil (P [] H (Got.refl f) .nil rfl)
theorem sd_cons {es : IEs} {xs : List Expr} (hp : plainE e = true) (h : SF T n XR X W ie e) (hs : SD T n XR X W es xs) : SD T n XR X W (.cons ie es) (e :: xs) := by
  intro args σ ρ H Q f P
  refine WA.of (pa_cons WE.pe WA.pa (star_plain hp)) (h args σ ρ H _ f (PostG.bind P fun d ρ1 _ P1 => fun v H1 g w => ?_))
  refine hs args σ ρ1 H1 _ g.fr (PostG.bind' g P1 fun ds ρ2 _ P2 => fun vs H2 g2 w2 l2 => ?_)
  exact P2 _ H2 (g.trans g2) (.cons (w.keep g2.kp.still) w2) (by rw [List.length_cons, List.length_cons, l2])
theorem sa_nil : SA T n XR X W .nil [] := fun args σ ρ H Q f P => WA.of pa_nil (P [] H ((Got.refl f).drop fun _ z => (FavL.nil z).elim) ⟨.nil, fun i j v w av aw a h => by simp at h⟩ rfl)
theorem sa_cons {es : IEs} {xs : List Expr} (hp : plainE e = true) (h : SP T n XR X W ie e) (hs : SA T n XR X W es xs) : SA T n XR X W (.cons ie es) (e :: xs) := by
  intro args σ ρ H Q f P
  refine WA.of (pa_cons WE.pe WA.pa (star_plain hp)) (h args σ ρ H _ f (PostG.bind P fun av ρ1 _ P1 => fun v H1 g w => ?_))
  refine hs args σ ρ1 H1 _ g.fr (PostG.bind' g P1 fun avs ρ2 _ P2 => fun vs H2 g2 w2 l2 => ?_)
  have g3 := g.trans2 g2 fun c z => Fav.there z w
  refine P2 _ H2 (g3.drop fun a z => favL_cons.mp z) (.cons (w.keep g2.kp fun a z q => g.dis a z q) w2 fun a z q => ?_) (by rw [List.length_cons, List.length_cons, l2])
  rcases g2.fre a (.inr q) with y | y
  · exact g.dis a z y
  · exact Fav.there z w y
theorem se_tup {es : IEs} {xs : List Expr} {k : Nat} {pos : Pos} (hl : xs.length ≤ 10000) (h : SD T n XR X W es xs) : SE T n XR X W (.tup es) (.Tuple xs k pos) := by
  intro args σ ρ H Q f P
  refine WE.of (pe_tup WA.pa) (h args σ ρ H _ f (PostG.bind P fun ds ρ1 _ P1 => fun vs H1 g w l => ⟨by rw [l, sizeLine_eq]; omega, fun p hp => ?_⟩))
  exact P1 _ _ (noF (g.new hp)) (.tup (.inl (.inl upd_same)) (w.keep (Kp.new (P := fun _ => False) hp).still))
theorem se_lst {es : IEs} {xs : List Expr} {pos : Pos} (hl : xs.length ≤ 10000) (h : SD T n XR X W es xs) : SE T n XR X W (.lst es) (.List xs pos) := by
  intro args σ ρ H Q f P
  refine WE.of (pe_lst WA.pa) (h args σ ρ H _ f (PostG.bind P fun ds ρ1 _ P1 => fun vs H1 g w l => ⟨by rw [l, sizeLine_eq]; omega, fun p hp => ?_⟩))
  exact P1 _ _ ((g.new hp).drop fun c z => by cases z.2; rfl) ⟨p, vs, rfl, upd_same, w.keep (Kp.new (P := fun _ => False) hp).still⟩
theorem se_neg {pos : Pos} (h : SE T n XR X W ia ea) : SE T n XR X W (.neg ia) (.UnaryOp .USub ea pos) := by
  intro args σ ρ H Q f P
  refine WE.of (pe_un un_neg WE.pe) (h args σ ρ H _ f (PostG.bind P fun o ρ1 _ P1 => fun v H1 g w => ?_))
  cases o with
  | fz d =>
    cases d <;> first | exact P1.elim | skip
    exact ⟨_, int_of w, P1 _ H1 (noF g) (.int _)⟩
  | ls ds => exact P1.elim
  | dc _ => exact P1.elim
/-- places -/
theorem se_sub {pos : Pos} (hp : plainIxB eb = true) (ha : SP T n XR X W ia ea) (hb : SP T n XR X W ib eb) : SE T n XR X W (.sub ia ib) (.Subscript ea eb pos) := by
  intro args σ ρ H Q f P
  refine WE.of (pe_ix ix_d WE.pe WE.pe (ix_plain hp)) (duo ha hb f (g := fun p q => (ixF p q).map O.fz) (c := fun x ρ2 => ofO x ρ2) P (fun _ z => z) fun x y H2 ρ2 av aw p q g _ _ _ _ wx wy P2 => ?_)
  obtain ⟨o, e, k⟩ := PostG.ofO P2
  obtain ⟨d, e2, rfl⟩ := Option.map_eq_some_iff.mp e
  exact ⟨p, q, d, wx, wy, e2, fun v w => k v H2 (noF g) w⟩
theorem so_no : SO T n XR X W .no none := fun args σ ρ H Q f P => P H (Got.refl f)
theorem so_so (h : SE T n XR X W ie e) : SO T n XR X W (.so ie) (some e) := by
  intro args σ ρ H Q f P
  refine h args σ ρ H _ f (PostG.bind P fun o ρ1 _ P1 => fun v H1 g w => ?_)
  cases o with
  | fz d =>
    cases d <;> first | exact P1.elim | skip
    exact ⟨_, int_of w, P1 H1 (noF0 g)⟩
  | ls ds => exact P1.elim
  | dc _ => exact P1.elim
theorem se_slc {lo hi : IEo} {l h : Option Expr} {p2 pos : Pos} (ha : SP T n XR X W ia ea) (hl : SO T n XR X W lo l) (hh : SO T n XR X W hi h) : SE T n XR X W (.slc ia lo hi) (.Subscript ea (.Slice l h none p2) pos) := by
  intro args σ ρ H Q f P
  refine WE.of (pe_slice sl_d WE.pe WOp.po WOp.po) (ha args σ ρ H _ f (PostG.bind P fun av ρ1 _ P1 => fun x H1 g1 w1 => ?_))
  refine hl args σ ρ1 H1 _ g1.fr (PostG.bind' g1 P1 fun i ρ2 _ P2 => fun H2 g2 => ?_)
  have g3 := g1.trans2 g2 fun c z => Fav.there z w1
  have w2 := w1.keep g2.kp fun a z q => g1.dis a z q
  refine hh args σ ρ2 H2 _ g3.fr (PostG.bind' g3 P2 fun j ρ3 _ P3 => fun H3 g4 => ?_)
  have g5 := g3.trans2 g4 fun c z => z.elim (fun z => Fav.there z w1 |> fun u => fun e => u (g2.kp.free e)) fun z => z.elim
  have w3 := w2.keep g4.kp fun a z q => g3.dis a (.inl z) q
  obtain ⟨o, e, k⟩ := PostG.ofO P3
  obtain ⟨p, e1, e2⟩ := Option.bind_eq_some_iff.mp e
  exact ⟨p, o, w3.val g4.fr e1, e2, fun v H' kp w fr => k v H' (g5.yld kp fr) w⟩
/-- built-ins -/
theorem vals_ow {K : PySem.W.Frag} {args : Ar} {σ : St} {ρ : Fm} {H : Hp} (f : FrOk K args H σ ρ) : ∀ {avs : List AV} {vs : List V} {os : List O}, Paired (AvOk K H σ) vs avs → vals avs ρ = some os → Paired (Ow K H) vs os
  | [], _, _, .nil, e => by cases e; exact .nil
  | a :: r, _, _, .cons h t, e => by
    obtain ⟨x, e1, e⟩ := Option.bind_eq_some_iff.mp e
    obtain ⟨os, e2, rfl⟩ := Option.map_eq_some_iff.mp e
    exact .cons (h.val f e1) (vals_ow f t e2)
theorem bi_boot : ∀ b : Bi, biOk b = true → bootBuiltins (bname b) = some (biFn b) ∧ bname b ∈ bnames ∧ bname b ≠ "__name__" ∧ (bname b == ("__debug__" : Str)) = false := by
  intro b
  cases b <;> decide +kernel
theorem se_bi {b : Bi} {es : IEs} {x : Str} {y : Expr} {xs : List Expr} {p pos : Pos} (xo : XOk T G XR n N sc W X) (hg : glB sc x = true) (hx : x = bname b) (hb : biOk b = true) (hp : plainE y = true) (hps : ∀ z ∈ xs, plainE z = true) (h : SA T n XR X W es (y :: xs)) :
    SE T n XR X W (.bi b es) (.Call (.Name x p) (y :: xs) [] pos) := by
  intro args σ ρ H Q f P
  subst hx
  obtain ⟨b1, b2, b3, b4⟩ := bi_boot b hb
  have nost : ∀ (l : List Expr), (∀ z ∈ l, plainE z = true) → (backTo pos (starEach l X.env)).any (·.1) = false := fun l => by
    induction l with
    | nil => intro _; rfl
    | cons z l ih =>
      intro hz
      rw [star_plain (hz z List.mem_cons_self)]
      show (false || (backTo pos (starEach l X.env)).any (·.1)) = false
      rw [ih fun w hw => hz w (List.mem_cons_of_mem _ hw)]; rfl
  have call : PE X (.Call (.Name (bname b) p) (y :: xs) [] pos) (tCB (rBi X.K b) (WA X (y :: xs))) := by
    have cr := bi_call xo.calm xo.gd xo.units b
    have gl := gl_of xo.sc hg
    have mg := xo.g.blt _ b2
    cases b with
    | list => exact pe_callTy cr gl mg b1 WA.pa b3 b4 (star_plain hp) (nost xs hps)
    | tuple => exact pe_callTy cr gl mg b1 WA.pa b3 b4 (star_plain hp) (nost xs hps)
    | int => exact pe_callTy cr gl mg b1 WA.pa b3 b4 (star_plain hp) (nost xs hps)
    | sset => cases hb
    | lset => cases hb
    | _ => exact pe_callB cr gl mg b1 WA.pa b3 b4 (star_plain hp) (nost xs hps)
  refine WE.of call (h args σ ρ H _ f (PostG.bind P fun avs ρ1 _ P1 => fun vs H1 g w _ => ?_))
  obtain ⟨o, e, k⟩ := PostG.ofO P1
  obtain ⟨os, e1, e2⟩ := Option.bind_eq_some_iff.mp e
  exact ⟨os, o, vals_ow g.fr w.all e1, e2, fun v H' kp w fr => k v H' (g.yld kp fr) w⟩
theorem ty_boot : ∀ t : Ty, bootBuiltins (Str.ofString (tyN t)) = some (.type (tyN t)) ∧ Str.ofString (tyN t) ∈ ("str" : Str) :: ("bool" : Str) :: bnames ∧ Str.ofString (tyN t) ≠ "__name__" ∧ (Str.ofString (tyN t) == ("__debug__" : Str)) = false := by
  intro t
  cases t <;> decide +kernel
theorem isi_boot : bootBuiltins ("isinstance" : Str) = some (.builtin "isinstance") ∧ ("isinstance" : Str) ∈ bnames ∧ ("isinstance" : Str) ≠ "__name__" ∧ (("isinstance" : Str) == ("__debug__" : Str)) = false ∧ ("str" : Str) ∈ bnames ∧ ("bool" : Str) ∈ bnames := by decide +kernel
theorem se_isi {t : Ty} {f y : Str} {p p2 pos : Pos} (xo : XOk T G XR n N sc W X) (hg : glB sc f = true) (hf : f = "isinstance") (hp : plainE ea = true) (hg2 : glB sc y = true) (hy : y = Str.ofString (tyN t)) (h : SP T n XR X W ia ea) :
    SE T n XR X W (.isi ia t) (.Call (.Name f p) [ea, .Name y p2] [] pos) := by
  intro args σ ρ H Q fr P
  subst hf hy
  obtain ⟨b1, b2, b3, b4, c1, c2⟩ := isi_boot
  obtain ⟨t1, t2, t3, t4⟩ := ty_boot t
  have t2' : Str.ofString (tyN t) ∈ bnames := by
    rcases List.mem_cons.mp t2 with z | z
    · rw [z]; exact c1
    · rcases List.mem_cons.mp z with z | z  -- gw
      · rw [z]; exact c2
      · exact z
  have pt : PE X (.Name (Str.ofString (tyN t)) p2) (tC (.ty (tyN t))) := pe_bltn (gl_of xo.sc hg2) (xo.g.blt _ t2') t1 rfl t3 t4
  refine WE.of (pe_callB call_isi (gl_of xo.sc hg) (xo.g.blt _ b2) b1 (pa_cons WE.pe (pa_cons pt pa_nil) (star_plain hp)) b3 b4 (star_plain hp)) (h args σ ρ H _ fr (PostG.bind P fun av ρ1 _ P1 => fun x H1 g w => ?_))
  obtain ⟨o, e, k⟩ := PostG.ofO P1
  obtain ⟨o', e1, e⟩ := Option.bind_eq_some_iff.mp e
  obtain ⟨b, e2, rfl⟩ := Option.map_eq_some_iff.mp e
  exact ⟨x, .ty (tyN t), .type (tyS o'), .type (tyN t), b, rfl, .ty _, ty_of (w.val g.fr e1), isi_kit e2, k _ H1 (noF g) (.bl b)⟩
/-! ### calls of the program's own -/
theorem run_g {k : Nat} {f : Addr} {fd : FuncData} {ps : List Str} {sp : Sp} {pins : List (Addr × Obj)} {σ : St} {H : Hp} {s : Shared} {Q : VK} {us : List Value} {vs : List V} (F : FnG XR X.prog X.w X.K X.mg X.base k f fd ps sp) (hr : Room k X.A) (gd : X.A.guards = some []) (hb : Binds X.K fd ps [])
    (tk : Takes X W) (I : L2.Inv X pins σ H s) (r : Vals vs us) (h : sp vs H Q fun c d H' => W c d σ H') : wpAny (model X.prog X.w) X.A (call (.ref f) us) (EP X pins σ Q) X.xe s := by
  have hl : us.length = ps.length := by rw [← r.length]; exact F.len _ _ _ _ h  -- gw
  have bb : BindsTo s fd ⟨us, []⟩ (ps.zip us) := by
    have z := hb s us I.kIn (by rw [List.append_nil]; exact hl)
    rw [List.append_nil] at z; exact z
  refine wpAny_call (codeAny_mono (F.run X.A X.stack s H ⟨us, []⟩ us vs Q _ hr gd I.env0 bb r h) fun q s' hq => ?_)
  cases q with
  | error e => exact passAt tk σ pins H s e s' I hq
  | ok fl => cases fl with
    | ret u => exact I.after hq
    | next => exact hq.elim
    | brk => exact hq.elim
    | cont => exact hq.elim
theorem call_core {f : Nat} {d : Df} (hf : T[f]? = some d) {args : Ar} {σ : St} {ρ ρ1 : Fm} {H H1 : Hp} {Q : VK} {vs : List V} {avs : List AV} (hlen : vs.length = d.np) (g : Got X.K args σ ρ H σ ρ1 H1 (FavL vs avs)) (w : AvsOk X.K H1 σ vs avs)
    (P1 : PostG X.K args XR W σ ρ H (match lend avs ρ1 with | some (os, ρ2) => called avs ρ1 ρ2 (callN T n f os) | none => .bad) (fun o ρ' => ∀ v H', Got X.K args σ ρ H σ ρ' H' (Ft v o) → Ow X.K H' v o → Q v H')) :
    spF X.K XR T n f vs H1 Q fun c d H' => W c d σ H' := by
  cases q : lend avs ρ1 with
  | none => rw [q] at P1; exact P1.elim
  | some pr =>
    obtain ⟨os, ρ2⟩ := pr
    rw [q] at P1
    have P1 : PostG X.K args XR W σ ρ H (called avs ρ1 ρ2 (callN T n f os)) (fun o ρ' => ∀ v H', Got X.K args σ ρ H σ ρ' H' (Ft v o) → Ow X.K H' v o → Q v H') := P1
    obtain ⟨a1, a2, a3, a4, a5, a6, a7⟩ := lend_ok g.fr w (fun a z => g.dis a z) (fun _ _ z => z) q
    refine ⟨os, d, hf, hlen, a1, ?_⟩
    -- from the lent frame to the one behind the call
    have sub : ∀ a, FtL vs os a → Own σ ρ a ∨ H a = none := fun a z => (a5 a z).elim (fun y => g.fre a (.inl y)) fun y => g.fre a (.inr y)
    have after : ∀ (ps : List (Option O)) (H' : Hp), Kp (FtL vs os) H1 H' → PsOk X.K H' vs os ps → FrOk X.K args H' σ (back ρ1 avs ps ρ2) ∧ Kp (Own σ ρ) H H' ∧ ∀ a, Own σ (back ρ1 avs ps ρ2) a → (Own σ ρ2 a ∨ FtP vs ps a) ∧ (Own σ ρ a ∨ H a = none) := fun ps H' kp pk => by
      obtain ⟨z1, z2⟩ := back_ok (H := H1) (K := X.K) g.fr (a2.keep kp fun a y q => a3 a q y) a6 a1 (fun a y => a3 a y) pk
      refine ⟨z1, g.kp.trans kp sub, fun a y => ⟨z2 a y, ?_⟩⟩
      rcases z2 a y with y | ⟨i, v, o, y1, y2, y3⟩
      · exact g.fre a (.inl (a4 a y))
      · obtain ⟨v', o', b1, b2, b3, b4⟩ := pk i o y2
        rw [y1] at b1
        cases b1
        exact sub a ⟨i, v, o', y1, b2, b3, y3.2⟩
    cases hc : callN T n f os with
    | bad => rw [hc] at P1; exact P1.elim
    | ok o ps =>
      rw [hc] at P1
      intro v H' kp pk wo dj fr2
      obtain ⟨z1, z2, z3⟩ := after ps H' kp pk
      refine P1 v H' ⟨z2, z1, fun a y q => ?_, fun a y => y.elim (fun y => (z3 a y).2) fun y => (fr2 a y).elim (sub a) fun e => .inr (g.kp.free e)⟩ wo
      rcases (z3 a q).1 with q | q
      · rcases fr2 a y with e | e
        · exact a3 a e q
        · obtain ⟨u, e', _⟩ := q.there a2
          rw [e] at e'; cases e'
      · exact dj a y q
    | ex e ps =>
      rw [hc] at P1
      intro c dd H' kp pk hx
      obtain ⟨z1, z2, z3⟩ := after ps H' kp pk
      exact P1 c dd H' ⟨z2, z1, fun _ z => z.elim, fun a y => y.elim (fun y => (z3 a y).2) fun z => z.elim⟩ hx
theorem se_call {f : Nat} {es : IEs} {x : Str} {xs : List Expr} {p pos : Pos} {d : Df} (xo : XOk T G XR n N sc W X) (hg : glB sc x = true) (hdb : (x == ("__debug__" : Str)) = false) (hf : T[f]? = some d) (hx : d.name = x) (hnp : d.np = xs.length) (hps : ∀ z ∈ xs, plainE z = true) (h : SA T n XR X W es xs)
    (hn : xs = [] → es = .nil) : SE T n XR X W (.call f es) (.Call (.Name x p) xs [] pos) := by
  intro args σ ρ H Q fr P
  obtain ⟨fa, fd, hm, hk, hl, hb, F⟩ := xo.g.fns f d hf
  rw [hx] at hm
  have nost : ∀ (l : List Expr), (∀ z ∈ l, plainE z = true) → (backTo pos (starEach l X.env)).any (·.1) = false := fun l => by
    induction l with
    | nil => intro _; rfl
    | cons z l ih =>
      intro hz
      rw [star_plain (hz z List.mem_cons_self)]
      show (false || (backTo pos (starEach l X.env)).any (·.1)) = false
      rw [ih fun w hw => hz w (List.mem_cons_of_mem _ hw)]; rfl
  intro pins s I
  refine wpAny_Call_Name_kw (ld_glob I (gl_of xo.sc hg) hm ?_ hdb)
  cases xs with
  | nil =>
    rw [hn rfl] at P
    exact PySem.W.callWith_K0 (first := []) I.kIn hk (run_g (us := []) (vs := []) F xo.rm xo.gd hb xo.tk I .nil (call_core hf (by rw [hnp]; rfl) ((Got.refl fr).drop fun _ z => (FavL.nil z).elim) ⟨.nil, fun i j v w av aw a h => by simp at h⟩ P))
  | cons y ys =>
    have body := h args σ ρ H (fun vs H1 => spF X.K XR T n f vs H1 Q fun c d H' => W c d σ H') fr (PostG.bind P fun avs ρ1 _ P1 => fun vs H1 g w hlen => call_core hf (by rw [hlen, hnp]) g w P1)
    exact PySem.W.callWith_K (h₀ := X.base) I.ok.mod.kin hk (thn (body pos pins s I) fun us s1 ⟨vs, H1, I1, r, q⟩ => ⟨I1.kIn, run_g F xo.rm xo.gd hb xo.tk I1 r q⟩) (star_plain (hps y List.mem_cons_self)) (nost ys fun z hz => hps z (List.mem_cons_of_mem _ hz))
end
end GW

/-! GW, part 9: targets, what is walked, comprehensions. -/
namespace GW
open PySem PySem.Spec PyProof.Rows L2  -- gw
/-! ### targets -/
mutual
def gOf (K : PySem.W.Frag) : Tg → TG
  | .nm i => gName i
  | .tp ts => gTup K (nTgs ts) (gsOf K ts)
def gsOf (K : PySem.W.Frag) : Tgs → TGs
  | .nil => gNil
  | .cons t ts => gCons (gOf K t) (gsOf K ts)
def nTgs : Tgs → Nat
  | .nil => 0
  | .cons _ ts => nTgs ts + 1
end
section
variable {T : List Df} {G : List (Str × D)} {n : Nat} {XR : XRT} {N : List Str} {X : Cx} {W : WX} {ia ib ie : IE} {ea eb e : Expr} {sc : Scope} {env : Env} {es : List Expr}
/-- the names that may be stored -/
def TgOk (X : Cx) (sc : Scope) : Prop := ∀ x, locB sc x = true → Loc X.env.scope x ∧ (X.fn x = true ∨ X.env.scope.names.lookup x = some .local)
theorem asg_plain (h : plainE e = true) : assignEach (e :: es) env = (false, assign e env) :: assignEach es env := by cases e <;> first | rfl | cases h
theorem asg_len {N : List Str} {sc : Scope} {env : Env} : ∀ {ts : Tgs} {es : List Expr}, chkTs N sc ts es = true → (assignEach es env).length = nTgs ts ∧ (assignEach es env).findIdx? (·.1) = none
  | .nil, [], _ => ⟨rfl, rfl⟩
  | .cons t ts, e :: es, h => by
    unfold chkTs at h
    rw [Bool.and_eq_true, Bool.and_eq_true] at h
    obtain ⟨h1, h2⟩ := asg_len (env := env) h.2
    rw [asg_plain h.1.1]
    refine ⟨by rw [List.length_cons, h1]; rfl, ?_⟩
    rw [List.findIdx?_cons]
    simp only [Bool.false_eq_true, if_false, h2, Option.map_none]
mutual
theorem pg_of (hN : X.N = N) (nd : N.Nodup) (hc : X.calm = true) (tk : TgOk X sc) : ∀ {t : Tg} {e : Expr}, chkT N sc t e = true → PG X e (gOf X.K t)
  | .nm i, e, h => by
    cases e <;> first | (cases h; done) | skip
    unfold chkT at h
    rw [Bool.and_eq_true] at h
    obtain ⟨h1, h2⟩ := tk _ h.2
    exact pg_name (hN ▸ nd) (by rw [hN]; exact of_decide_eq_true h.1) h1 h2
  | .tp ts, e, h => by
    cases e <;> first | (cases h; done) | skip
    have h : chkTs N sc ts _ = true := h
    obtain ⟨h1, h2⟩ := asg_len (env := X.env) h
    exact pg_tup hc (pgs_of hN nd hc tk h) h1 h2
theorem pgs_of (hN : X.N = N) (nd : N.Nodup) (hc : X.calm = true) (tk : TgOk X sc) : ∀ {t : Tgs} {e : List Expr}, chkTs N sc t e = true → PGs X e (gsOf X.K t)
  | .nil, [], _ => pgs_nil
  | .cons t ts, e :: es, h => by
    unfold chkTs at h
    rw [Bool.and_eq_true, Bool.and_eq_true] at h
    exact pgs_cons (pg_of hN nd hc tk h.1.2) (pgs_of hN nd hc tk h.2) (by rw [asg_plain h.1.1]; rfl)
end
section
variable {K : PySem.W.Frag} {args args' : Ar} {σ : St} {H : Hp}
theorem FrOk.store {ρ : Fm} (f : FrOk K args H σ ρ) {i : Nat} {v : V} {o : O} (w : Ow K H v o) (n : ∀ a, Ft v o a → ¬ Own σ ρ a) : FrOk K args H (σ.set i (some v)) (loS ρ i o) := by
  have hi : ∀ {j : Nat} {x : O}, rd (loS ρ i o) j = some x → (j = i ∧ i < σ.length ∧ x = o) ∨ (j ≠ i ∧ rd ρ j = some x) := fun {j x} e => by
    unfold loS at e
    rw [rd_set] at e
    split at e
    · rename_i hh
      cases e
      exact .inl ⟨hh.1.symm, by rw [f.len]; exact hh.2, rfl⟩
    · rename_i hh
      by_cases hij : j = i
      · subst hij; exact absurd ⟨rfl, rd_lt e⟩ hh
      · exact .inr ⟨hij, e⟩
  have own1 : ∀ {j : Nat} {a : Addr}, OwnAt (σ.set i (some v)) (loS ρ i o) j a → (j = i ∧ Ft v o a) ∨ (j ≠ i ∧ OwnAt σ ρ j a) := fun {j a} ⟨x, e, q, z⟩ => by
    rcases hi e with ⟨rfl, h, rfl⟩ | ⟨h, e'⟩
    · rw [List.getElem?_set_self h] at z
      cases z
      exact .inl ⟨rfl, q, rfl⟩
    · rw [List.getElem?_set_ne (Ne.symm h)] at z
      exact .inr ⟨h, x, e', q, z⟩
  refine ⟨by unfold loS; rw [List.length_set, List.length_set]; exact f.len, fun j x e => ?_, fun j x e => ?_, fun j e => ?_, fun j k a h1 h2 => ?_⟩
  · rcases hi e with ⟨rfl, h, rfl⟩ | ⟨h, e'⟩
    · exact ⟨v, List.getElem?_set_self h, w⟩
    · rw [List.getElem?_set_ne (Ne.symm h)]
      exact f.at_ j x e'
  · unfold loS at e
    rw [List.getElem?_set] at e
    split at e
    · split at e <;> cases e
    · rename_i hh
      rw [List.getElem?_set_ne hh]
      exact f.pa_ j x e
  · unfold loS at e
    rw [List.getElem?_set] at e
    split at e
    · split at e <;> cases e
    · rename_i hh
      rw [List.getElem?_set_ne hh]
      exact f.hd_ j e
  · rcases own1 h1 with ⟨rfl, q⟩ | ⟨m1, w1⟩
    · rcases own1 h2 with ⟨rfl, _⟩ | ⟨m2, w2⟩
      · rfl
      · exact absurd ⟨k, w2⟩ (n a q)
    · rcases own1 h2 with ⟨rfl, q⟩ | ⟨m2, w2⟩
      · exact absurd ⟨j, w1⟩ (n a q)
      · exact f.inj j k a w1 w2
theorem Own.store {ρ : Fm} {i : Nat} {v : V} {o : O} {a : Addr} (hl : σ.length = ρ.length) (h : Own (σ.set i (some v)) (loS ρ i o) a) : Ft v o a ∨ Own σ ρ a := by
  obtain ⟨j, x, e, q, z⟩ := h
  unfold loS at e
  rw [rd_set] at e
  split at e
  · rename_i hh
    obtain ⟨rfl, hh⟩ := hh
    cases e
    rw [List.getElem?_set_self (by rw [hl]; exact hh)] at z
    cases z
    exact .inl ⟨q, rfl⟩
  · rename_i hh
    by_cases hij : i = j
    · subst hij; exact absurd ⟨rfl, rd_lt e⟩ hh
    · rw [List.getElem?_set_ne hij] at z
      exact .inr ⟨j, x, e, q, z⟩
mutual
/-- a target stores a value that never changes -/
theorem tg_run : ∀ {t : Tg} {d : D} {σ : St} {ρ ρ' : Fm} {v : V} {Q : St → Hp → Prop}, FrOk K args H σ ρ → Rp K H v d → asgF t d ρ = some ρ' →
    (∀ σ', FrOk K args H σ' ρ' → (∀ a, Own σ' ρ' a → Own σ ρ a) → (∀ j, j ∉ slT t → σ'[j]? = σ[j]?) → σ'.length = σ.length → Q σ' H) → gOf K t v σ H Q
  | .nm i, d, σ, ρ, ρ', v, Q, f, w, e, q => by
    cases e
    exact q _ (f.store (o := .fz d) w fun a z => nomatch z.1) (fun a z => (z.store f.len).elim (fun z => nomatch z.1) id) (fun j hj => by rw [List.getElem?_set_ne (fun z => hj (by unfold slT; rw [z]; exact List.mem_singleton_self j))]) (List.length_set ..)
  | .tp ts, d, σ, ρ, ρ', v, Q, f, w, e, q => by
    cases d with
    | tuple ds =>
      cases w with
      | tup h r =>
        have hl := tgs_len (e : asgsF ts ds ρ = some ρ')
        refine ⟨_, _, rfl, h, by rw [r.length, hl], tgs_run f r e fun σ' f' o' s' l' => q σ' f' o' (fun j hj => s' j hj) l'⟩
    | _ => cases e
theorem tgs_run : ∀ {t : Tgs} {ds : List D} {σ : St} {ρ ρ' : Fm} {vs : List V} {Q : St → Hp → Prop}, FrOk K args H σ ρ → RpA K H vs ds → asgsF t ds ρ = some ρ' →
    (∀ σ', FrOk K args H σ' ρ' → (∀ a, Own σ' ρ' a → Own σ ρ a) → (∀ j, j ∉ slTs t → σ'[j]? = σ[j]?) → σ'.length = σ.length → Q σ' H) → gsOf K t vs σ H Q
  | .nil, [], σ, ρ, ρ', vs, Q, f, w, e, q => by
    cases e
    cases w
    exact ⟨rfl, q σ f (fun _ z => z) (fun _ _ => rfl) rfl⟩
  | .cons t ts, d :: ds, σ, ρ, ρ', vs, Q, f, w, e, q => by
    cases w with
    | cons w1 w2 =>
      obtain ⟨ρ1, e1, e2⟩ := Option.bind_eq_some_iff.mp (show (asgF t d ρ).bind (asgsF ts ds) = some ρ' from e)
      refine ⟨_, _, rfl, tg_run f w1 e1 fun σ1 f1 o1 s1 l1 => tgs_run f1 w2 e2 fun σ' f' o' s' l' => q σ' f' (fun a z => o1 a (o' a z)) (fun j hj => ?_) (l'.trans l1)⟩
      have hj : j ∉ slT t ++ slTs ts := hj
      rw [List.mem_append] at hj
      rw [s' j fun z => hj (.inr z), s1 j fun z => hj (.inl z)]
theorem tgs_len : ∀ {t : Tgs} {ds : List D} {ρ ρ' : Fm}, asgsF t ds ρ = some ρ' → ds.length = nTgs t
  | .nil, [], _, _, _ => rfl
  | .cons t ts, d :: ds, ρ, ρ', e => by
    obtain ⟨ρ1, _, e2⟩ := Option.bind_eq_some_iff.mp (show (asgF t d ρ).bind (asgsF ts ds) = some ρ' from e)
    rw [List.length_cons, tgs_len e2]; rfl
  | .nil, _ :: _, _, _, e => nomatch e
  | .cons _ _, [], _, _, e => nomatch e
end
end

/-! ### what is walked -/
def Lean (H1 H : Hp) (U : Addr → Prop) : Prop := ∀ a u, H1 a = some u → Still u ∨ U a → H a = some u
structure Src (K : PySem.W.Frag) (J : It) (ds : List D) (H1 : Hp) (U : Addr → Prop) : Prop where
  go : ∀ (i : Nat) (d : D) (H : Hp), ds[i]? = some d → Lean H1 H U → J.go i H ∧ ∀ x H', J.yld i H x H' → Kp (fun _ => False) H H' ∧ Rp K H' x d
  stop : ∀ H, Lean H1 H U → J.stop ds.length H
theorem lean_stl {H1 H : Hp} {U : Addr → Prop} (l : Lean H1 H U) : Stl H1 H := fun a u h s => l a u h (.inl s)
theorem src_seq {K : PySem.W.Frag} {H1 : Hp} {U : Addr → Prop} {a : Addr} {vs : List V} {ds : List D} (h : ∀ H, Lean H1 H U → SqL K H a vs) (r : RpA K H1 vs ds) : Src K (Itl K a) ds H1 U := by
  refine ⟨fun i d H e l => ?_, fun H l => ⟨vs, h H l, by rw [r.length]; exact Nat.le_refl _⟩⟩
  obtain ⟨v, e1, w⟩ := r.get e
  refine ⟨⟨vs, v, h H l, e1⟩, fun x H' y => ?_⟩
  obtain ⟨rfl, y⟩ := y
  have := y vs (h _ l)
  rw [e1] at this
  cases this
  exact ⟨.refl, w.keep (lean_stl l)⟩
theorem src_tup {K : PySem.W.Frag} {H1 : Hp} {U : Addr → Prop} {a : Addr} {vs : List V} {ds : List D} (h : SqT K H1 a vs) (r : RpA K H1 vs ds) : Src K (Itt K a) ds H1 U := by
  refine ⟨fun i d H e l => ?_, fun H l => ⟨vs, sqT_keep (lean_stl l) h, by rw [r.length]; exact Nat.le_refl _⟩⟩
  obtain ⟨v, e1, w⟩ := r.get e
  have h' := sqT_keep (lean_stl l) h
  refine ⟨⟨vs, v, h', e1⟩, fun x H' y => ?_⟩
  obtain ⟨rfl, y⟩ := y
  have := y vs h'
  rw [e1] at this
  cases this
  exact ⟨.refl, w.keep (lean_stl l)⟩
theorem rngD_length (lo : Int) (m : Nat) : (rngD lo m).length = m := by unfold rngD; rw [List.length_map, List.length_range]
theorem rngD_get {lo : Int} {m i : Nat} {d : D} (h : (rngD lo m)[i]? = some d) : i < m ∧ d = .int (lo + (i : Nat)) := by
  have hi : i < m := by
    have := (List.getElem?_eq_some_iff.mp h).1
    rw [rngD_length] at this; exact this
  unfold rngD at h
  rw [List.getElem?_map, List.getElem?_range hi] at h
  cases h
  exact ⟨hi, rfl⟩
theorem src_rng {K : PySem.W.Frag} {H1 : Hp} {U : Addr → Prop} {lo : Int} {m : Nat} : Src K (Itr lo m) (rngD lo m) H1 U := by
  refine ⟨fun i d H e l => ?_, fun H l => by rw [rngD_length]; exact Nat.le_refl _⟩
  obtain ⟨hi, rfl⟩ := rngD_get e
  refine ⟨hi, fun x H' y => ?_⟩
  obtain ⟨rfl, rfl⟩ := y
  exact ⟨.refl, .int _⟩
/-- a list or a tuple, whichever it is -/
def iSeq (K : PySem.W.Frag) (tl : TE) : TI := fun σ H R => tl σ H fun x H1 => (∃ a, x = .ref a ∧ (∃ xs, SqL K H1 a xs) ∧ R (Itl K a) H1) ∨ ∃ a, x = .ref a ∧ (∃ xs, SqT K H1 a xs) ∧ R (Itt K a) H1
theorem pi_seq {tg l : Expr} {tl : TE} (hl : PE X l tl) : PI X tg l (iSeq X.K tl) := by
  refine ⟨fun pins s σ H R I h => thn (hl.run pins s σ H _ I h) fun v s1 ⟨x, H1, I1, r1, q1⟩ => ?_⟩
  have fresh : ∀ b ∈ [s1.heap.objs.size], FpOk X pins H1 b := fun b hb => by
    cases List.mem_singleton.mp hb
    exact I1.fpOk (Nat.le_refl _) (I1.hok.fresh (Nat.le_refl _))  -- gw
  have kept : ∀ (ob : Obj), L2.Inv X pins σ H1 { s1 with heap := s1.heap.push ob } := fun ob => I1.kept (t' := s1.toks) fun b o e => Heap.get?_push_of_some _ e
  rcases q1 with ⟨a, rfl, ⟨xs, hq⟩, q⟩ | ⟨a, rfl, ⟨xs, hq⟩, q⟩
  · cases r1
    obtain ⟨its, rv, p, hz⟩ := I1.list hq  -- gw
    exact wpAny_pyIter_list p.isList ⟨s1.heap.objs.size, [s1.heap.objs.size], _, _, H1, rfl, kept _, turn_list a _, ⟨_, Heap.get?_push_size _ rfl, rfl, rfl⟩, fresh, q⟩
  · cases r1
    obtain ⟨its, rv, p, hz⟩ := I1.tuple hq  -- gw
    exact wpAny_pyIter_tuple (show s1.heap.IsTuple a its.toArray from p) ⟨s1.heap.objs.size, [s1.heap.objs.size], _, _, H1, rfl, kept _, turn_tuple a _, ⟨_, Heap.get?_push_size _ rfl, rfl, rfl⟩, fresh, q⟩
def hideA (it : II) (σ : St) (args : Ar) : Ar := match it with
  | .lok i => { args with hs := fun j => if j = i then (σ[i]?).join else args.hs j }
  | _ => args
def SI (T : List Df) (n : Nat) (XR : XRT) (X : Cx) (W : WX) (it : II) (tg e : Expr) : Prop := ∀ (args : Ar) (σ : St) (ρ : Fm) (H : Hp) (R : It → Hp → Prop), FrOk X.K args H σ ρ →
  PostG X.K args XR W σ ρ H (evI (callN T n) it ρ) (fun ds ρ' => ∀ J H' U F, Got X.K args σ ρ H σ ρ' H' F → FrOk X.K (hideA it σ args) H' σ (hide it ρ') → (∀ a, U a → ¬ Own σ (hide it ρ') a) → Src X.K J ds H' U → R J H') → WI X tg e σ H R
theorem si_val {tg : Expr} (h : SE T n XR X W ie e) : SI T n XR X W (.val ie) tg e := by
  intro args σ ρ H R f P
  refine WI.of (pi_seq WE.pe) (h args σ ρ H _ f (PostG.bind P fun o ρ1 _ P1 => fun v H1 g w => ?_))
  obtain ⟨ds, e1, k⟩ := PostG.ofO P1
  cases o with
  | ls es =>
    cases e1
    obtain ⟨a, vs, rfl, hv, r⟩ := w
    exact .inl ⟨a, rfl, ⟨vs, SqL.of hv⟩, k _ H1 (fun b => b = a) _ g g.fr (fun b z => g.dis b ⟨rfl, by rw [z]⟩) (src_seq (fun H l => SqL.of (l a _ hv (.inr rfl))) r)⟩
  | dc _ => exact w.elim
  | fz d =>
    cases d with
    | list es =>
      cases e1
      cases w with
      | lst hv r => exact .inl ⟨_, rfl, ⟨_, hv.sq⟩, k _ H1 (fun _ => False) _ g g.fr (fun b z => z.elim) (src_seq (fun H l => (hv.keep (lean_stl l)).sq) r)⟩
    | tuple es =>
      cases e1
      cases w with
      | tup hv r => exact .inr ⟨_, rfl, ⟨_, hv⟩, k _ H1 (fun _ => False) _ g g.fr (fun b z => z.elim) (src_tup hv r)⟩
    | _ => cases e1
theorem hide_ok {K : PySem.W.Frag} {args : Ar} {σ : St} {ρ : Fm} {H : Hp} {i : Nat} {v : V} (f : FrOk K args H σ ρ) (e : σ[i]? = some (some v)) : FrOk K (hideA (.lok i) σ args) H σ (hide (.lok i) ρ) := by
  have f1 : FrOk K (hideA (.lok i) σ args) H σ (unS ρ i) := by
    have f2 := f.un i
    refine ⟨f2.len, f2.at_, f2.pa_, fun j hj => ?_, f2.inj⟩
    have hne : j ≠ i := fun z => by
      subst z
      unfold unS at hj
      rw [List.getElem?_set] at hj
      split at hj
      · split at hj <;> cases hj
      · rename_i hh; exact hh rfl
    obtain ⟨w, h1, h2⟩ := f2.hd_ j hj
    exact ⟨w, h1, by show (if j = i then _ else args.hs j) = _; rw [if_neg hne]; exact h2⟩
  have := f1.set i .hd (fun o z => nomatch z) (fun o z => nomatch z) fun _ => ⟨v, e, by show (if i = i then (σ[i]?).join else _) = _; rw [if_pos rfl, e]; rfl⟩
  unfold unS at this
  rw [List.set_set] at this
  exact this
theorem src_txt {K : PySem.W.Frag} {H1 : Hp} {U : Addr → Prop} (z : Str) : Src K (Its z) (signs z) H1 U := by
  refine ⟨fun i d H e l => ?_, fun H l => by show z.cps.size ≤ (signs z).length; unfold signs; rw [List.length_map, Array.length_toList]; exact Nat.le_refl _⟩
  obtain ⟨c, hc, rfl⟩ := by unfold signs at e; rw [List.getElem?_map] at e; exact Option.map_eq_some_iff.mp e
  rw [Array.getElem?_toList] at hc
  refine ⟨(Array.getElem?_eq_some_iff.mp hc).1, fun x H' y => ?_⟩
  obtain ⟨rfl, c', hc', rfl⟩ := y
  rw [hc] at hc'
  cases hc'
  exact ⟨.refl, .str _⟩
theorem si_txt {tg : Expr} (h : SE T n XR X W ie e) : SI T n XR X W (.txt ie) tg e := by
  intro args σ ρ H R f P
  refine WI.of (pi_str WE.pe) (h args σ ρ H _ f (PostG.bind P fun o ρ1 _ P1 => fun v H1 g w => ?_))
  cases o with
  | fz d =>
    cases d <;> first | exact P1.elim | skip
    have w := str_of w
    subst w
    exact ⟨_, rfl, P1 _ H1 (fun _ => False) _ (noF0 g) g.fr (fun b z => z.elim) (src_txt _)⟩
  | ls ds => exact P1.elim
  | dc _ => exact P1.elim
theorem si_lok {i : Nat} {x : Str} {pos : Pos} {tg : Expr} (hN : X.N[i]? = some x) (hv : Vis X.env.scope x) (hn : nmB x = true) : SI T n XR X W (.lok i) tg (.Name x pos) := by
  intro args σ ρ H R f P
  obtain ⟨ds, e1, k⟩ := PostG.ofO P
  obtain ⟨o, e2, e3⟩ := Option.bind_eq_some_iff.mp e1
  obtain ⟨v, ev, w⟩ := f.at_ i o e2
  have nv : ∀ a, Ft v o a → ¬ Own σ (hide (.lok i) ρ) a := fun a z ⟨j, o', b1, b2, b3⟩ => by
    unfold hide at b1
    rw [rd_set] at b1
    split at b1
    · cases b1
    · rename_i hh
      have := f.inj j i a ⟨o', b1, b2, b3⟩ ⟨o, e2, z.1, by rw [ev, z.2]⟩
      subst this
      exact hh ⟨rfl, rd_lt e2⟩
  refine WI.of (pi_seq (pe_var hN hv (nm_of hn).1 (nm_of hn).2)) ⟨v, ev, ?_⟩
  have fin : ∀ J, Src X.K J ds H (Ft v o) → R J H := fun J s => k J H (Ft v o) (fun _ => False) (Got.refl f) (hide_ok f ev) nv s
  cases o with
  | ls es =>
    cases e3
    obtain ⟨a, vs, rfl, hv, r⟩ := w
    exact .inl ⟨a, rfl, ⟨vs, SqL.of hv⟩, fin _ (src_seq (fun H l => SqL.of (l a _ hv (.inr ⟨rfl, rfl⟩))) r)⟩
  | dc _ => exact w.elim
  | fz d =>
    cases d with
    | list es =>
      cases e3
      cases w with
      | lst hv r => exact .inl ⟨_, rfl, ⟨_, hv.sq⟩, fin _ (src_seq (fun H l => (hv.keep (lean_stl l)).sq) r)⟩
    | tuple es =>
      cases e3
      cases w with
      | tup hv r => exact .inr ⟨_, rfl, ⟨_, hv⟩, fin _ (src_tup hv r)⟩
    | _ => cases e3
theorem rng_name : ("range" : Str) ∈ bnames := by decide +kernel
theorem rng_ok {i : Int} (h : rngOk i = true) : -(2 ^ 62) ≤ i ∧ i < 2 ^ 62 := by
  unfold rngOk at h
  exact of_decide_eq_true h
theorem si_rng1 {x : Str} {p pos : Pos} {tg : Expr} (xo : XOk T G XR n N sc W X) (hg : glB sc x = true) (hx : x = "range") (hp : plainE ea = true) (h : SE T n XR X W ia ea) : SI T n XR X W (.rng1 ia) tg (.Call (.Name x p) [ea] [] pos) := by
  intro args σ ρ H R f P
  subst hx
  refine WI.of (pi_range1 (gl_of xo.sc hg) (xo.g.blt _ rng_name) (pa_cons WE.pe pa_nil (star_plain hp)) (by rw [star_plain hp]; rfl)) (h args σ ρ H _ f (PostG.bind P fun o ρ1 _ P1 => fun v H1 g w => ?_))
  cases o with
  | fz d =>
    cases d <;> first | exact P1.elim | skip
    rename_i m _
    have P1 : PostG X.K args XR W σ ρ H (if rngOk m then Res.ok (rngD 0 m.toNat) ρ1 else .bad) _ := P1
    split at P1
    · rename_i hr
      obtain ⟨r1, r2⟩ := rng_ok hr
      exact ⟨m, by rw [int_of w], r1, r2, P1 _ H1 (fun _ => False) _ g g.fr (fun b z => z.elim) src_rng⟩
    · exact P1.elim
  | ls ds => exact P1.elim
  | dc _ => exact P1.elim
theorem si_rng2 {x : Str} {p pos : Pos} {tg : Expr} (xo : XOk T G XR n N sc W X) (hg : glB sc x = true) (hx : x = "range") (hp : plainE ea = true) (hp2 : plainE eb = true) (h : SE T n XR X W ia ea) (h2 : SE T n XR X W ib eb) : SI T n XR X W (.rng2 ia ib) tg (.Call (.Name x p) [ea, eb] [] pos) := by
  intro args σ ρ H R f P
  subst hx
  refine WI.of (pi_range2 (gl_of xo.sc hg) (xo.g.blt _ rng_name) (pa_cons WE.pe (pa_cons WE.pe pa_nil (star_plain hp2)) (star_plain hp)) (by rw [star_plain hp, star_plain hp2]; rfl) (by rw [star_plain hp2]; rfl)) (h args σ ρ H _ f (PostG.bind P fun o ρ1 _ P1 => fun v H1 g w => ?_))
  refine h2 args σ ρ1 H1 _ g.fr (PostG.bind' g P1 fun o2 ρ2 _ P2 => fun v2 H2 g2 w2 => ?_)
  cases o with
  | fz d =>
    cases d <;> first | exact P2.elim | skip
    cases o2 with
    | fz d2 =>
      cases d2 <;> first | exact P2.elim | skip
      rename_i i _ j _
      have P2 : PostG X.K args XR W σ ρ H (if (rngOk i && rngOk j) = true then Res.ok (rngD i (j - i).toNat) ρ2 else .bad) _ := P2
      split at P2
      · rename_i hr
        rw [Bool.and_eq_true] at hr
        obtain ⟨r1, r2⟩ := rng_ok hr.1
        obtain ⟨r3, r4⟩ := rng_ok hr.2
        have g3 := g.trans g2
        exact ⟨i, j, by rw [int_of (w : Ow X.K H1 v (.fz (.int i))), int_of (w2 : Ow X.K H2 v2 (.fz (.int j)))], ⟨r1, r2, r3, r4⟩, P2 _ H2 (fun _ => False) _ g3 g3.fr (fun b z => z.elim) src_rng⟩
      · exact P2.elim
    | ls ds => exact P2.elim
    | dc _ => exact P2.elim
  | ls ds => exact P2.elim
  | dc _ => exact P2.elim
theorem rngC_length (lo c : Int) (m : Nat) : (rngC lo c m).length = m := by unfold rngC; rw [List.length_map, List.length_range]
theorem src_rngC {K : PySem.W.Frag} {H1 : Hp} {U : Addr → Prop} {lo c : Int} {m : Nat} : Src K (Itc lo c m) (rngC lo c m) H1 U := by
  refine ⟨fun i d H e l => ?_, fun H l => by rw [rngC_length]; exact Nat.le_refl _⟩
  have hi : i < m := by
    have := (List.getElem?_eq_some_iff.mp e).1
    rw [rngC_length] at this; exact this
  unfold rngC at e
  rw [List.getElem?_map, List.getElem?_range hi] at e
  cases e
  refine ⟨hi, fun x H' y => ?_⟩
  obtain ⟨rfl, rfl⟩ := y
  exact ⟨.refl, .int _⟩
theorem si_rng3 {ic : IE} {ec : Expr} {x : Str} {p pos : Pos} {tg : Expr} (xo : XOk T G XR n N sc W X) (hg : glB sc x = true) (hx : x = "range") (hp : plainE ea = true) (hp2 : plainE eb = true) (hp3 : plainE ec = true) (h : SE T n XR X W ia ea) (h2 : SE T n XR X W ib eb) (h3 : SE T n XR X W ic ec) :
    SI T n XR X W (.rng3 ia ib ic) tg (.Call (.Name x p) [ea, eb, ec] [] pos) := by
  intro args σ ρ H R f P
  subst hx
  refine WI.of (pi_range3 (gl_of xo.sc hg) (xo.g.blt _ rng_name) (pa_cons WE.pe (pa_cons WE.pe (pa_cons WE.pe pa_nil (star_plain hp3)) (star_plain hp2)) (star_plain hp)) (star_plain hp) (by rw [star_plain hp2, star_plain hp3]; rfl)) (h args σ ρ H _ f (PostG.bind P fun o ρ1 _ P1 => fun v H1 g w => ?_))
  refine h2 args σ ρ1 H1 _ g.fr (PostG.bind' g P1 fun o2 ρ2 _ P2 => fun v2 H2 g2 w2 => ?_)
  have gg := g.trans g2
  refine h3 args σ ρ2 H2 _ gg.fr (PostG.bind' gg P2 fun o3 ρ3 _ P3 => fun v3 H3 g3 w3 => ?_)
  have key : ∃ i j c, o = .fz (.int i) ∧ o2 = .fz (.int j) ∧ o3 = .fz (.int c) := by
    revert P3
    split
    · exact fun _ => ⟨_, _, _, rfl, rfl, rfl⟩
    · exact fun z => z.elim
  obtain ⟨i, j, c, rfl, rfl, rfl⟩ := key
  have P3 : PostG X.K args XR W σ ρ H (if rg3Ok i j c then Res.ok (rngC i c (Builtin.Range.rangeSize i j c).toNat) ρ3 else .bad) _ := P3
  split at P3
  · rename_i hr
    unfold rg3Ok at hr
    simp only [Bool.and_eq_true, decide_eq_true_eq] at hr
    have g4 := gg.trans g3
    exact ⟨i, j, c, _, by rw [int_of (w : Ow X.K H1 v (.fz (.int i))), int_of (w2 : Ow X.K H2 v2 (.fz (.int j))), int_of (w3 : Ow X.K H3 v3 (.fz (.int c)))], ⟨hr.1.1.1, hr.1.1.2, hr.1.2, hr.2⟩, P3 _ H3 (fun _ => False) _ g4 g4.fr (fun b z => z.elim) src_rngC⟩
  · exact P3.elim
/-! ### list(range(..)) -/
theorem list_name : ("list" : Str) ∈ bnames := by decide +kernel
theorem rgV_rp {K : PySem.W.Frag} {H : Hp} {a b : Int} : RpA K H (rgV a b) (rngD a (b - a).toNat) := by
  unfold rgV rngD
  generalize List.range (b - a).toNat = l
  induction l with
  | nil => exact .nil
  | cons k l ih => exact .cons (.int _) ih
theorem lrg_ok {a b : Int} (h : lrgOk a b = true) : RgOk a b := by
  unfold lrgOk at h
  simp only [Bool.and_eq_true] at h  -- gw
  obtain ⟨⟨h1, h2⟩, h3⟩ := h
  obtain ⟨r1, r2⟩ := rng_ok h1
  obtain ⟨r3, r4⟩ := rng_ok h2
  exact ⟨r1, r2, r3, r4, of_decide_eq_true h3⟩
theorem se_lrg1 {f x : Str} {p p2 p3 pos : Pos} (xo : XOk T G XR n N sc W X) (hf : glB sc f = true) (hf2 : f = "list") (hg : glB sc x = true) (hx : x = "range") (hp : plainE ea = true) (h : SE T n XR X W ia ea) :
    SE T n XR X W (.lrg1 ia) (.Call (.Name f p2) [.Call (.Name x p) [ea] [] p3] [] pos) := by
  intro args σ ρ H Q fr P
  subst hf2 hx
  refine WE.of (pe_listRg xo.calm (gl_of xo.sc hf) (xo.g.blt _ list_name) (prg_1 (gl_of xo.sc hg) (xo.g.blt _ rng_name) WE.pe (star_plain hp))) (h args σ ρ H _ fr (PostG.bind P fun o ρ1 _ P1 => fun v H1 g w => ?_))
  cases o with
  | fz d =>
    cases d <;> first | exact P1.elim | skip
    rename_i m _
    have P1 : PostG X.K args XR W σ ρ H (if lrgOk 0 m then Res.ok (O.ls (rngD 0 m.toNat)) ρ1 else .bad) _ := P1
    split at P1
    · rename_i hr
      refine ⟨m, int_of w, lrg_ok hr, fun q hq => P1 _ _ ((g.new hq).drop fun c z => by cases z.2; rfl) ⟨q, _, rfl, upd_same, ?_⟩⟩
      have := rgV_rp (K := X.K) (H := upd H1 q (.lst (rgV 0 m))) (a := 0) (b := m)
      rwa [Int.sub_zero] at this
    · exact P1.elim
  | ls ds => exact P1.elim
  | dc _ => exact P1.elim
theorem se_lrg2 {f x : Str} {p p2 p3 pos : Pos} (xo : XOk T G XR n N sc W X) (hf : glB sc f = true) (hf2 : f = "list") (hg : glB sc x = true) (hx : x = "range") (hp : plainE ea = true) (hp2 : plainE eb = true) (h : SE T n XR X W ia ea) (h2 : SE T n XR X W ib eb) :
    SE T n XR X W (.lrg2 ia ib) (.Call (.Name f p2) [.Call (.Name x p) [ea, eb] [] p3] [] pos) := by
  intro args σ ρ H Q fr P
  subst hf2 hx
  refine WE.of (pe_listRg xo.calm (gl_of xo.sc hf) (xo.g.blt _ list_name) (prg_2 (gl_of xo.sc hg) (xo.g.blt _ rng_name) WE.pe WE.pe (star_plain hp) (star_plain hp2) (by rw [star_plain hp2]; rfl))) (h args σ ρ H _ fr (PostG.bind P fun o ρ1 _ P1 => fun v H1 g w => ?_))
  refine h2 args σ ρ1 H1 _ g.fr (PostG.bind' g P1 fun o2 ρ2 _ P2 => fun v2 H2 g2 w2 => ?_)
  have key : ∃ i j, o = .fz (.int i) ∧ o2 = .fz (.int j) := by
    revert P2
    split
    · exact fun _ => ⟨_, _, rfl, rfl⟩
    · exact fun z => z.elim
  obtain ⟨i, j, rfl, rfl⟩ := key
  have P2 : PostG X.K args XR W σ ρ H (if lrgOk i j then Res.ok (O.ls (rngD i (j - i).toNat)) ρ2 else .bad) _ := P2
  split at P2
  · rename_i hr
    have g3 := g.trans g2
    exact ⟨i, j, int_of (w : Ow X.K H1 v (.fz (.int i))), int_of (w2 : Ow X.K H2 v2 (.fz (.int j))), lrg_ok hr, fun q hq => P2 _ _ ((g3.new hq).drop fun c z => by cases z.2; rfl) ⟨q, _, rfl, upd_same, rgV_rp⟩⟩
  · exact P2.elim
end
end GW

/-! GW, part 10: comprehensions; every expression. -/
namespace GW
open PySem PySem.Spec PyProof.Rows L2  -- gw
section
variable {K : PySem.W.Frag} {args args' : Ar} {σ1 σ' σ3 σL : St} {ρ1 ρ' ρ3 ρL : Fm} {H1 H' : Hp}
/-- slots that were hidden are shown again -/
theorem FrOk.restore' (S : Nat → Prop) (f1 : FrOk K args H1 σ1 ρ1) (f' : FrOk K args' H' σ' ρ') (hlen : σ3.length = ρ3.length) (h1 : ∀ j, S j → ρ3[j]? = ρ1[j]? ∧ σ3[j]? = σ1[j]?) (h2 : ∀ j, ¬ S j → ρ3[j]? = ρ'[j]? ∧ σ3[j]? = σ'[j]?)
    (ha : args'.vs = args.vs) (hs : ∀ j, ¬ S j → ρ'[j]? = some Sl.hd → args'.hs j = args.hs j) (kp : Kp (Own σL ρL) H1 H') (hP : ∀ j a, S j → OwnAt σ1 ρ1 j a → ¬ Own σL ρL a) (hF : ∀ a, Own σ' ρ' a → Own σL ρL a ∨ H1 a = none) :
    FrOk K args H' σ3 ρ3 ∧ ∀ a, Own σ3 ρ3 a → (∃ j, S j ∧ OwnAt σ1 ρ1 j a) ∨ Own σ' ρ' a := by
  have r1 : ∀ j, S j → rd ρ3 j = rd ρ1 j := fun j s => by unfold rd; rw [(h1 j s).1]
  have r2 : ∀ j, ¬ S j → rd ρ3 j = rd ρ' j := fun j s => by unfold rd; rw [(h2 j s).1]
  have o1 : ∀ j a, S j → OwnAt σ3 ρ3 j a → OwnAt σ1 ρ1 j a := fun j a s ⟨o, e, q, z⟩ => ⟨o, by rw [← r1 j s]; exact e, q, by rw [← (h1 j s).2]; exact z⟩
  have o2 : ∀ j a, ¬ S j → OwnAt σ3 ρ3 j a → OwnAt σ' ρ' j a := fun j a s ⟨o, e, q, z⟩ => ⟨o, by rw [← r2 j s]; exact e, q, by rw [← (h2 j s).2]; exact z⟩
  have cross : ∀ j k a, S j → ¬ S k → OwnAt σ3 ρ3 j a → OwnAt σ3 ρ3 k a → False := fun j k a sj sk w1 w2 => by
    have q1 := o1 j a sj w1
    rcases hF a ⟨k, o2 k a sk w2⟩ with z | z
    · exact hP j a sj q1 z
    · obtain ⟨u, e, _⟩ := Own.there f1 ⟨j, q1⟩
      rw [z] at e; cases e
  refine ⟨⟨hlen, fun j o e => ?_, fun j o e => ?_, fun j e => ?_, fun j k a w1 w2 => ?_⟩, fun a ⟨j, w⟩ => ?_⟩
  · by_cases s : S j
    · rw [r1 j s] at e
      obtain ⟨v, ev, w⟩ := f1.at_ j o e
      exact ⟨v, by rw [(h1 j s).2]; exact ev, w.keep kp fun a q => hP j a s ⟨o, e, q.1, by rw [ev, q.2]⟩⟩
    · rw [r2 j s] at e
      obtain ⟨v, ev, w⟩ := f'.at_ j o e
      exact ⟨v, by rw [(h2 j s).2]; exact ev, w⟩
  · by_cases s : S j
    · rw [(h1 j s).1] at e
      rw [(h1 j s).2]
      exact f1.pa_ j o e
    · rw [(h2 j s).1] at e
      rw [(h2 j s).2, ← ha]
      exact f'.pa_ j o e
  · by_cases s : S j
    · rw [(h1 j s).1] at e
      rw [(h1 j s).2]
      exact f1.hd_ j e
    · rw [(h2 j s).1] at e
      rw [(h2 j s).2, ← hs j s e]
      exact f'.hd_ j e
  · by_cases sj : S j
    · by_cases sk : S k
      · exact f1.inj j k a (o1 j a sj w1) (o1 k a sk w2)
      · exact (cross j k a sj sk w1 w2).elim
    · by_cases sk : S k
      · exact (cross k j a sk sj w2 w1).elim
      · exact f'.inj j k a (o2 j a sj w1) (o2 k a sk w2)
  · by_cases s : S j
    · exact .inl ⟨j, s, o1 j a s w⟩
    · exact .inr ⟨j, o2 j a s w⟩
theorem FrOk.restore (S : Nat → Prop) (f1 : FrOk K args H1 σ1 ρ1) (f' : FrOk K args' H' σ' ρ') (hlen : σ3.length = ρ3.length) (h1 : ∀ j, S j → ρ3[j]? = ρ1[j]? ∧ σ3[j]? = σ1[j]?) (h2 : ∀ j, ¬ S j → ρ3[j]? = ρ'[j]? ∧ σ3[j]? = σ'[j]?)
    (ha : args'.vs = args.vs) (hs : ∀ j, ¬ S j → ρ'[j]? = some Sl.hd → args'.hs j = args.hs j) (kp : Kp (Own σL ρL) H1 H') (hP : ∀ j a, S j → OwnAt σ1 ρ1 j a → ¬ Own σL ρL a) (hF : ∀ a, Own σ' ρ' a → Own σL ρL a ∨ H1 a = none) :
    FrOk K args H' σ3 ρ3 ∧ ∀ a, Own σ3 ρ3 a → Own σ1 ρ1 a ∨ Own σ' ρ' a :=
  (FrOk.restore' S f1 f' hlen h1 h2 ha hs kp hP hF).imp id fun h a w => (h a w).imp (fun ⟨j, _, q⟩ => ⟨j, q⟩) id
end
/-! ### wipe, kill, shown -/
theorem wipe_get {σ : St} : ∀ {vs : List Nat} {j : Nat}, (wipe σ vs)[j]? = if j ∈ vs then (if j < σ.length then some none else none) else σ[j]?
  | [], j => by simp [wipe]
  | v :: vs, j => by
    show ((wipe σ vs).set v none)[j]? = _
    rw [List.getElem?_set, wipe_length]
    by_cases h : v = j
    · subst h
      rw [if_pos rfl, if_pos List.mem_cons_self]
    · rw [if_neg h, wipe_get]
      by_cases m : j ∈ vs
      · rw [if_pos m, if_pos (List.mem_cons_of_mem _ m)]
      · rw [if_neg m, if_neg (fun z => (List.mem_cons.mp z).elim (fun w => h w.symm) m)]
theorem kill_length : ∀ (ks : List Nat) (ρ : Fm), (kill ks ρ).length = ρ.length
  | [], _ => rfl
  | i :: r, ρ => by
    show (kill r (unS ρ i)).length = _
    rw [kill_length r]; unfold unS; rw [List.length_set]
theorem kill_get : ∀ {ks : List Nat} {ρ : Fm} {j : Nat}, (kill ks ρ)[j]? = if j ∈ ks then (if j < ρ.length then some Sl.un else none) else ρ[j]?
  | [], ρ, j => by simp [kill]
  | i :: r, ρ, j => by
    show (kill r (unS ρ i))[j]? = _
    rw [kill_get]
    unfold unS
    rw [List.length_set]
    by_cases m : j ∈ r
    · rw [if_pos m, if_pos (List.mem_cons_of_mem _ m)]
    · rw [if_neg m, List.getElem?_set]
      by_cases h : i = j
      · subst h
        rw [if_pos rfl, if_pos List.mem_cons_self]
      · rw [if_neg h, if_neg (fun z => (List.mem_cons.mp z).elim (fun w => h w.symm) m)]
theorem shown_length (ρ0 : Fm) : ∀ (ks : List Nat) (ρ : Fm), (shown ρ0 ks ρ).length = ρ.length
  | [], _ => rfl
  | i :: r, ρ => by
    unfold shown
    rw [shown_length ρ0 r]
    split
    · rw [List.length_set]
    · rfl
theorem shown_get {ρ0 : Fm} : ∀ {ks : List Nat} {ρ : Fm} {j : Nat}, ρ.length = ρ0.length → (shown ρ0 ks ρ)[j]? = if j ∈ ks then ρ0[j]? else ρ[j]?
  | [], ρ, j, _ => by simp [shown]
  | i :: r, ρ, j, hl => by
    unfold shown
    have hl2 : (match ρ0[i]? with | some s => ρ.set i s | none => ρ).length = ρ0.length := by
      split
      · rw [List.length_set]; exact hl
      · exact hl
    refine (shown_get hl2).trans ?_
    clear hl2
    by_cases m : j ∈ r
    · rw [if_pos m, if_pos (List.mem_cons_of_mem _ m)]
    · rw [if_neg m]
      by_cases h : i = j
      · subst h
        rw [if_pos List.mem_cons_self]
        cases e : ρ0[i]? with
        | none =>
          have := List.getElem?_eq_none_iff.mp e
          show ρ[i]? = none
          exact List.getElem?_eq_none_iff.mpr (by omega)  -- gw
        | some s =>
          have := (List.getElem?_eq_some_iff.mp e).1
          show (ρ.set i s)[i]? = some s
          rw [List.getElem?_set_self (by omega)]
      · rw [if_neg (fun z => (List.mem_cons.mp z).elim (fun w => h w.symm) m)]
        cases e : ρ0[i]? with
        | none => rfl
        | some s =>
          show (ρ.set i s)[j]? = ρ[j]?
          rw [List.getElem?_set_ne h]
section
variable {K : PySem.W.Frag} {args : Ar} {σ : St} {ρ : Fm} {H : Hp}
theorem rd_kill {ks : List Nat} {j : Nat} {o : O} (h : rd (kill ks ρ) j = some o) : j ∉ ks ∧ rd ρ j = some o := by
  unfold rd at h ⊢
  rw [kill_get] at h
  by_cases m : j ∈ ks
  · rw [if_pos m] at h
    split at h <;> cases h
  · rw [if_neg m] at h
    exact ⟨m, h⟩
/-- a frame over other slots that agree but for the hidden ones -/
theorem frOk_over {σ' : St} {ks : List Nat} (f : FrOk K args H σ ρ) (hl : σ'.length = σ.length) (h : ∀ j, j ∉ ks → σ'[j]? = σ[j]?) : FrOk K args H σ' (kill ks ρ) ∧ ∀ a, Own σ' (kill ks ρ) a → Own σ ρ a := by
  have back : ∀ i a, OwnAt σ' (kill ks ρ) i a → OwnAt σ ρ i a := fun i a ⟨o, e, q, z⟩ => by
    obtain ⟨m, e'⟩ := rd_kill e
    exact ⟨o, e', q, by rw [← h i m]; exact z⟩
  refine ⟨⟨by rw [hl, kill_length]; exact f.len, fun i o e => ?_, fun i o e => ?_, fun i e => ?_, fun i j a w1 w2 => f.inj i j a (back i a w1) (back j a w2)⟩, fun a ⟨i, w⟩ => ⟨i, back i a w⟩⟩
  · obtain ⟨m, e'⟩ := rd_kill e
    rw [h i m]
    exact f.at_ i o e'
  · rw [kill_get] at e
    by_cases m : i ∈ ks
    · rw [if_pos m] at e
      split at e <;> cases e
    · rw [if_neg m] at e
      rw [h i m]
      exact f.pa_ i o e
  · rw [kill_get] at e
    by_cases m : i ∈ ks
    · rw [if_pos m] at e
      split at e <;> cases e
    · rw [if_neg m] at e
      rw [h i m]
      exact f.hd_ i e
end
theorem wipe_len2 {σ : St} {ks : List Nat} {σ2 : St} (h : wipe σ2 ks = wipe σ ks) : σ2.length = σ.length := by
  have := congrArg List.length h  -- gw
  rwa [wipe_length, wipe_length] at this
theorem wipe_eq {σ σ2 : St} {ks : List Nat} (hl : σ2.length = σ.length) (h : ∀ j, j ∉ ks → σ2[j]? = (wipe σ ks)[j]?) : wipe σ2 ks = wipe σ ks := by
  apply List.ext_getElem?
  intro j
  rw [wipe_get, wipe_get]
  by_cases m : j ∈ ks
  · rw [if_pos m, if_pos m, hl]
  · rw [if_neg m, if_neg m, h j m, wipe_get, if_neg m]
theorem got_over {K : PySem.W.Frag} {args : Ar} {σ0 σ σ' : St} {ρ0 ρ : Fm} {H0 H : Hp} {F : Addr → Prop} {ks : List Nat} (g : Got K args σ0 ρ0 H0 σ ρ H F) (hl : σ'.length = σ.length) (h : ∀ j, j ∉ ks → σ'[j]? = σ[j]?) : Got K args σ0 ρ0 H0 σ' (kill ks ρ) H F := by
  obtain ⟨f1, o1⟩ := frOk_over g.fr hl h
  exact ⟨g.kp, f1, fun a f q => g.dis a f (o1 a q), fun a z => g.fre a (z.imp (o1 a) id)⟩
theorem Got.ext {K : PySem.W.Frag} {args : Ar} {σ0 σ : St} {ρ0 ρ : Fm} {H0 H H' : Hp} {F : Addr → Prop} (g : Got K args σ0 ρ0 H0 σ ρ H F) (k : Kp (fun _ => False) H H') : Got K args σ0 ρ0 H0 σ ρ H' F :=
  ⟨g.kp.trans k fun _ z => z.elim, g.fr.keep k fun _ _ z => z, g.dis, g.fre⟩
/-- a hidden list's slot shows it again -/
theorem unhide_ok {K : PySem.W.Frag} {args : Ar} {it : II} {σ1 σ' : St} {ρ1 ρ' : Fm} {H1 H' : Hp} (f1 : FrOk K args H1 σ1 ρ1) (f' : FrOk K (hideA it σ1 args) H' σ' ρ') (kp : Kp (Own σ1 (hide it ρ1)) H1 H') (hF : ∀ a, Own σ' ρ' a → Own σ1 (hide it ρ1) a ∨ H1 a = none) :
    FrOk K args H' σ' (unhide ρ1 it ρ') ∧ ∀ a, Own σ' (unhide ρ1 it ρ') a → (Own σ1 ρ1 a ∧ ¬ Own σ1 (hide it ρ1) a) ∨ Own σ' ρ' a := by
  cases it with
  | lok i =>
    have noS : ρ'[i]? ≠ some Sl.hd → FrOk K args H' σ' ρ' := fun h => ⟨f'.len, f'.at_, f'.pa_, fun j e => by
      have hne : j ≠ i := fun z => h (z ▸ e)
      obtain ⟨v, e1, e2⟩ := f'.hd_ j e
      have e2 : (if j = i then (σ1[i]?).join else args.hs j) = some v := e2
      rw [if_neg hne] at e2
      exact ⟨v, e1, e2⟩, f'.inj⟩
    by_cases hd : ρ'[i]? = some Sl.hd
    · cases e : ρ1[i]? with
      | none =>
        have hl := f1.len
        have hl' := f'.len
        obtain ⟨v, e1, e2⟩ := f'.hd_ i hd
        have e2 : (if i = i then (σ1[i]?).join else args.hs i) = some v := e2
        rw [if_pos rfl] at e2
        have : i < σ1.length := by
          cases q : σ1[i]? with
          | none => rw [q] at e2; cases e2
          | some y => exact (List.getElem?_eq_some_iff.mp q).1
        have := List.getElem?_eq_none_iff.mp e
        omega
      | some s =>
        have eo : unhide ρ1 (.lok i) ρ' = ρ'.set i s := by
          show (match ρ'[i]?, ρ1[i]? with | some .hd, some s => ρ'.set i s | _, _ => ρ') = _
          rw [hd, e]
        rw [eo]
        obtain ⟨v, e1, e2⟩ := f'.hd_ i hd
        have e2 : (if i = i then (σ1[i]?).join else args.hs i) = some v := e2
        rw [if_pos rfl] at e2
        have e3 : σ1[i]? = some (some v) := by
          cases q : σ1[i]? with
          | none => rw [q] at e2; cases e2
          | some y => rw [q] at e2; exact congrArg some e2
        have hi : i < ρ'.length := (List.getElem?_eq_some_iff.mp hd).1
        have noL : ∀ j a, j = i → OwnAt σ1 ρ1 j a → ¬ Own σ1 (hide (.lok i) ρ1) a := fun j a hj q z => by
          subst hj
          obtain ⟨k, o, b1, b2, b3⟩ := z
          unfold hide at b1
          rw [rd_set] at b1
          split at b1
          · cases b1
          · rename_i hh
            have := f1.inj k j a ⟨o, b1, b2, b3⟩ q
            subst this
            exact hh ⟨rfl, rd_lt b1⟩
        refine (FrOk.restore' (σL := σ1) (ρL := hide (.lok i) ρ1) (fun j => j = i) f1 f' (by rw [List.length_set]; exact f'.len) (fun j hj => ?_) (fun j hj => ⟨List.getElem?_set_ne (fun z => hj z.symm), rfl⟩) rfl (fun j hj _ => ?_) kp noL hF).imp id fun h a w => (h a w).imp (fun ⟨j, sj, q⟩ => ⟨⟨j, q⟩, noL j a sj q⟩) id
        · subst hj
          exact ⟨by rw [List.getElem?_set_self hi, e], by rw [e1, e3]⟩
        · show (if j = i then _ else args.hs j) = _
          rw [if_neg hj]
    · have eo : unhide ρ1 (.lok i) ρ' = ρ' := by
        show (match ρ'[i]?, ρ1[i]? with | some .hd, some s => ρ'.set i s | _, _ => ρ') = _
        split
        · rename_i q _; exact absurd q hd
        · rfl
      rw [eo]
      exact ⟨noS hd, fun a z => .inr z⟩
  | val _ => exact ⟨f', fun a z => .inr z⟩
  | txt _ => exact ⟨f', fun a z => .inr z⟩
  | rng1 _ => exact ⟨f', fun a z => .inr z⟩
  | rng2 _ _ => exact ⟨f', fun a z => .inr z⟩
  | rng3 _ _ _ => exact ⟨f', fun a z => .inr z⟩
  | zip _ _ => exact ⟨f', fun a z => .inr z⟩
/-- the new list in the hand is written -/
theorem Got.wr {K : PySem.W.Frag} {args : Ar} {σ0 σ : St} {ρ0 ρ : Fm} {H0 H : Hp} {a : Addr} {u w : HO} (g : Got K args σ0 ρ0 H0 σ ρ H (fun c => c = a)) (h : H a = some u) (ns : ¬ Still u) : Got K args σ0 ρ0 H0 σ ρ (upd H a w) (fun c => c = a) := by
  refine ⟨?_, g.fr.keep (P := fun b => b = a) (Kp.write h ns rfl) fun b o e => g.dis a rfl (e ▸ o), g.dis, g.fre⟩
  refine g.kp.trans (P1 := fun b => b = a) (Kp.write h ns rfl) fun b e => ?_
  subst e
  exact g.fre b (.inr rfl)
section
variable {T : List Df} {G : List (Str × D)} {n : Nat} {XR : XRT} {N : List Str} {X : Cx} {W : WX} {ia ib ie : IE} {ea eb e : Expr} {sc : Scope}
/-- the tests of a clause -/
def SC (T : List Df) (n : Nat) (XR : XRT) (X : Cx) (W : WX) (ic : IEo) (ifs : List Expr) : Prop := ∀ (args : Ar) (σ : St) (ρ : Fm) (H : Hp) (Q : Bool → Hp → Prop), FrOk X.K args H σ ρ →
  PostG X.K args XR W σ ρ H (evC (callN T n) ic ρ) (fun b ρ' => ∀ H', Got X.K args σ ρ H σ ρ' H' (fun _ => False) → Q b H') →
  ∀ (pins : List (Addr × Obj)) (s : Shared), L2.Inv X pins σ H s → wpAny (model X.prog X.w) X.A (forIn ifs true fun c r => if r = true then do let ok ← isTrue c X.env (eval c X.env); pure (ForInStep.yield ok) else pure (ForInStep.yield r)) (TP X pins σ Q) X.xe s
theorem sc_no : SC T n XR X W .no [] := fun args σ ρ H Q f P pins s I => pts_nil.run pins s σ H Q I (P H (Got.refl f))
theorem sc_so (h : STt T n XR X W ie e) : SC T n XR X W (.so ie) [e] := fun args σ ρ H Q f P pins s I => (pts_one WT.pt).run pins s σ H Q I (h args σ ρ H Q f P)
theorem own_map {vs : List Nat} (h : vs.all (fun i => (N[i]?).isSome) = true) : (vs.filterMap fun i => (N[i]?).map fun x => (x, i)).map (·.2) = vs := by
  induction vs with
  | nil => rfl
  | cons v vs ih =>
    rw [List.all_cons, Bool.and_eq_true] at h  -- gw
    obtain ⟨x, e⟩ := Option.isSome_iff_exists.mp h.1
    rw [List.filterMap_cons, e]
    show v :: _ = _
    rw [ih h.2]
def teB (X : Cx) (scope : Scope) (x : Expr) : TE := fun σ' H' Q' => ∀ (s : Shared) (H0 : Hp) (C : Addr) (cl : List (Str × Addr)) (fp : List Addr), WE (X.blk s H0 scope (compEnvC scope cl C X.env) fp) x σ' H' Q'
def ttB (X : Cx) (scope : Scope) (ifs : List Expr) : TT := fun σ' H' Q' => ∀ (s : Shared) (H0 : Hp) (C : Addr) (cl : List (Str × Addr)) (fp : List Addr) (pins : List (Addr × Obj)) (s1 : Shared), L2.Inv (X.blk s H0 scope (compEnvC scope cl C X.env) fp) pins σ' H' s1 →
    wpAny (model X.prog X.w) X.A (forIn ifs true fun c r => if r = true then do let ok ← isTrue c (compEnvC scope cl C X.env) (eval c (compEnvC scope cl C X.env)); pure (ForInStep.yield ok) else pure (ForInStep.yield r)) (TP (X.blk s H0 scope (compEnvC scope cl C X.env) fp) pins σ' Q') (fun _ _ => False) s1
theorem blk_ok {scope : Scope} (xo : XOk T G XR n N sc W X) (s : Shared) (H : Hp) (C : Addr) (cl : List (Str × Addr)) (fp : List Addr) : XOk T G XR n N (relS scope sc) (fun _ _ _ _ => False) (X.blk s H scope (compEnvC scope cl C X.env) fp) :=
  ⟨xo.g, xo.hN, xo.nd, by rw [← xo.sc]; rfl, xo.calm, takes0, xo.rm, xo.gd⟩
theorem blk_tg {scope : Scope} (s : Shared) (H : Hp) (C : Addr) (cl : List (Str × Addr)) (fp : List Addr) : TgOk (X.blk s H scope (compEnvC scope cl C X.env) fp) scope := fun y hy => by
  unfold locB at hy
  split at hy
  · rename_i e
    have := lookup_relS_keep (sc := X.env.scope) (by decide) e
    exact ⟨.inl this, .inr this⟩
  · rename_i e
    have := lookup_relS_keep (sc := X.env.scope) (by decide) e
    refine ⟨.inr this, .inl ?_⟩
    show (scope.names.lookup y == some .cell) = true
    rw [e]; rfl
  · cases hy
theorem lc_core {elt : IE} {tg : Tg} {it : II} {cnd : IEo} {vs : List Nat} {x t i : Expr} {ifs : List Expr} {scope : Scope} {args : Ar} {σ : St} {ρ : Fm} {H : Hp} {Q : VK} (xo : XOk T G XR n N sc W X)
    (hi : SI T n XR X W it t i) (hsl : ∀ j ∈ slT tg, j ∈ vs)
    (he : ∀ (Y : Cx), XOk T G XR n N (relS scope sc) (fun _ _ _ _ => False) Y → Y.K = X.K → SF T n XR Y (fun _ _ _ _ => False) elt x)
    (hc : ∀ (Y : Cx), XOk T G XR n N (relS scope sc) (fun _ _ _ _ => False) Y → Y.K = X.K → SC T n XR Y (fun _ _ _ _ => False) cnd ifs)
    (f : FrOk X.K args H σ ρ) (P : PostG X.K args XR W σ ρ H (ev (callN T n) (.lc elt tg it cnd vs) ρ) (fun o ρ' => ∀ v H', Got X.K args σ ρ H σ ρ' H' (Ft v o) → Ow X.K H' v o → Q v H')) :
    tLc (WI X t i) (gOf X.K tg) (ttB X scope ifs) (teB X scope x) vs σ H Q := by
  refine hi args σ ρ H _ f (PostG.bind P fun ds ρ1 _ P1 => fun J H1 U F g fh hU src => fun Dl hD => ?_)
  obtain ⟨fL, oL⟩ := frOk_over (σ' := wipe σ vs) (ks := vs) fh (wipe_length σ vs) fun j m => by rw [wipe_get, if_neg m]
  obtain ⟨step, hstep⟩ : ∃ step : D → Fm → Res (Option D), step = fun d ρ => (ofO (asgF tg d ρ) ρ).bind fun ρ' _ => (evC (callN T n) cnd ρ').bind fun k ρ2 => if k then (frz (ev (callN T n) elt ρ2)).bind fun x ρ3 => .ok (some x) (kill vs ρ3) else .ok none (kill vs ρ2) := ⟨_, rfl⟩
  have P2 : PostG X.K args XR W σ ρ H ((noEx (lcLoop step ds [] (kill vs (hide it ρ1)))).bind fun xs ρ2 => .ok (.ls xs) (unhide ρ1 it (shown (hide it ρ1) vs ρ2))) (fun o ρ' => ∀ v H', Got X.K args σ ρ H σ ρ' H' (Ft v o) → Ow X.K H' v o → Q v H') := by
    rw [hstep]; exact P1
  cases hl : lcLoop step ds [] (kill vs (hide it ρ1)) with
  | bad => rw [hl] at P2; exact P2.elim
  | ex a b => rw [hl] at P2; exact P2.elim
  | ok xs ρe =>
    rw [hl] at P2
    have P2 : ∀ v H', Got X.K args σ ρ H σ (unhide ρ1 it (shown (hide it ρ1) vs ρe)) H' (Ft v (.ls xs)) → Ow X.K H' v (.ls xs) → Q v H' := P2
    have hline : ∀ {m : Nat}, m < 16777216 → m < sizeLine := fun h => by rw [sizeLine_eq]; exact h
    have noD : ¬ Own (wipe σ vs) (kill vs (hide it ρ1)) Dl := fun q => by
      obtain ⟨u, e, _⟩ := q.there fL
      rw [hD] at e; cases e
    refine ⟨fun i m H2 => m = ds.length - i ∧ i ≤ ds.length ∧ ∃ ρi acc vacc, Got X.K (hideA it σ args) (wipe σ vs) (kill vs (hide it ρ1)) H1 (wipe σ vs) ρi H2 (fun c => c = Dl) ∧ H2 Dl = some (.lst vacc) ∧ RpA X.K H2 vacc acc ∧ lcLoop step (ds.drop i) acc ρi = .ok xs ρe,
      ⟨ds.length, by rw [Nat.sub_zero], Nat.zero_le _, _, [], [], ?_, upd_same, .nil, hl⟩, ?_⟩
    · exact (Got.refl fL).new hD
    rintro i m H2 ⟨rfl, hle, ρi, acc, vacc, gi, hDl, racc, hlp⟩
    have lean : Lean H1 H2 U := fun a u e h => by
      rcases h with h | h
      · exact gi.kp.still a u e h
      · exact gi.kp.rest a u e fun z => hU a h (oL a z)
    by_cases hlt : i < ds.length
    · refine .inr ?_
      have ed : ds[i]? = some ds[i] := List.getElem?_eq_getElem hlt
      obtain ⟨go, yld⟩ := src.go i ds[i] H2 ed lean
      rw [List.drop_eq_getElem_cons hlt] at hlp
      have hlp : (step ds[i] ρi).bind (fun o ρ' => match o with | some x => if acc.length < 16777216 then lcLoop step (ds.drop (i + 1)) (acc ++ [x]) ρ' else .bad | none => lcLoop step (ds.drop (i + 1)) acc ρ') = .ok xs ρe := hlp
      refine ⟨go, fun H' => (ds.length - (i + 1) = ds.length - (i + 1)) ∧ i + 1 ≤ ds.length ∧ ∃ ρi acc vacc, Got X.K (hideA it σ args) (wipe σ vs) (kill vs (hide it ρ1)) H1 (wipe σ vs) ρi H' (fun c => c = Dl) ∧ H' Dl = some (.lst vacc) ∧ RpA X.K H' vacc acc ∧ lcLoop step (ds.drop (i + 1)) acc ρi = .ok xs ρe,
        fun H' h' => ⟨ds.length - (i + 1), by omega, h'⟩, fun xv H3 y => ?_⟩
      obtain ⟨k3, w3⟩ := yld xv H3 y
      have g3 := gi.ext k3
      have hD3 : H3 Dl = some (.lst vacc) := k3.rest _ _ hDl id
      cases ea : asgF tg ds[i] ρi with
      | none => rw [hstep] at hlp; simp only [ea] at hlp; cases hlp
      | some ρa =>
        refine tg_run g3.fr w3 ea fun σ2 f2 o2 s2 l2 => ⟨wipe_eq (by rw [l2, wipe_length]) fun j mj => s2 j fun z => mj (hsl j z), ?_⟩
        have gA : Got X.K (hideA it σ args) (wipe σ vs) (kill vs (hide it ρ1)) H1 σ2 ρa H3 (fun c => c = Dl) :=
          (g3.trans2 (F1 := fun _ => False) ⟨.refl, f2, fun _ z => z.elim, fun a z => z.elim (fun z => .inl (o2 a z)) fun z => z.elim⟩ fun c z => by rw [z, hD3]; exact fun w => nomatch w).drop fun c z => .inl z
        cases ec : evC (callN T n) cnd ρa with
        | bad => rw [hstep] at hlp; simp only [ea, ofO, Res.bind, ec] at hlp; cases hlp
        | ex e1 e2 => rw [hstep] at hlp; simp only [ea, ofO, Res.bind, ec] at hlp; cases hlp
        | ok k ρ2 =>
          intro s H0 C cl fp pins s1 I1
          refine hc (X.blk s H0 scope (compEnvC scope cl C X.env) fp) (blk_ok xo s H0 C cl fp) rfl (hideA it σ args) σ2 ρa H3 _ f2 ?_ pins s1 I1
          rw [ec]
          intro H4 g4
          have gB := (gA.trans2 g4 fun c z => by rw [z, hD3]; exact fun w => nomatch w).drop (F1 := fun c => c = Dl) fun c z => .inl z
          have hD4 : H4 Dl = some (.lst vacc) := g4.kp.rest _ _ hD3 fun z => gA.dis Dl rfl z
          cases k with
          | false =>
            rw [if_neg Bool.false_ne_true]  -- gw
            refine ⟨rfl, hlt, kill vs ρ2, acc, vacc, got_over gB (by rw [l2]) fun j mj => (s2 j fun z => mj (hsl j z)).symm, hD4, (racc.keep k3.still).keep g4.kp.still, ?_⟩
            rw [hstep] at hlp ⊢
            simp only [ea, ofO, Res.bind, ec] at hlp
            exact hlp
          | true =>
            rw [if_pos rfl]
            intro s' H0' C' cl' fp'
            cases ee : frz (ev (callN T n) elt ρ2) with
            | bad => rw [hstep] at hlp; simp only [ea, ofO, Res.bind, ec, ee] at hlp; cases hlp
            | ex e1 e2 => rw [hstep] at hlp; simp only [ea, ofO, Res.bind, ec, ee] at hlp; cases hlp
            | ok xd ρ3 =>
              have hl2 : acc.length < 16777216 ∧ lcLoop step (ds.drop (i + 1)) (acc ++ [xd]) (kill vs ρ3) = .ok xs ρe := by
                have q := hlp
                rw [hstep] at q
                simp only [ea, ofO, Res.bind, ec, ee, if_true] at q
                split at q
                · rename_i hlen
                  exact ⟨hlen, by rw [hstep]; exact q⟩
                · cases q
              refine he (X.blk s' H0' scope (compEnvC scope cl' C' X.env) fp') (blk_ok xo s' H0' C' cl' fp') rfl (hideA it σ args) σ2 ρ2 H4 _ g4.fr ?_
              rw [ee]
              intro yv H5 g5 w5
              have gC := (gB.trans2 g5 fun c z => by rw [z, hD4]; exact fun w => nomatch w).drop (F1 := fun c => c = Dl) fun c z => .inl z
              have hD5 : H5 Dl = some (.lst vacc) := g5.kp.rest _ _ hD4 fun z => gB.dis Dl rfl z
              have r5 := ((racc.keep k3.still).keep g4.kp.still).keep g5.kp.still
              have kw : Kp (fun b => b = Dl) H5 (upd H5 Dl (.lst (vacc ++ [yv]))) := Kp.write hD5 id rfl
              refine ⟨vacc, hD5, by rw [r5.length]; exact hline hl2.1, rfl, hlt, kill vs ρ3, acc ++ [xd], vacc ++ [yv], (got_over gC (by rw [l2]) fun j mj => (s2 j fun z => mj (hsl j z)).symm).wr hD5 id, upd_same, (r5.keep kw.still).append (.cons (w5.keep kw.still) .nil), hl2.2⟩
    · have ei : i = ds.length := by omega
      subst ei
      refine .inl ⟨src.stop H2 lean, ?_⟩
      rw [List.drop_length] at hlp
      cases hlp
      have hlen1 : ρe.length = (hide it ρ1).length := by rw [← gi.fr.len, wipe_length, fh.len]
      obtain ⟨f5, o5⟩ := FrOk.restore (σ3 := σ) (ρ3 := shown (hide it ρ1) vs ρe) (σL := wipe σ vs) (ρL := kill vs (hide it ρ1)) (fun j => j ∈ vs) fh gi.fr (by rw [shown_length, hlen1, fh.len]) (fun j hj => ⟨by rw [shown_get hlen1, if_pos hj], rfl⟩)
        (fun j hj => ⟨by rw [shown_get hlen1, if_neg hj], by rw [wipe_get, if_neg hj]⟩) rfl (fun _ _ _ => rfl) gi.kp (fun j a hj q ⟨k, o, b1, b2, b3⟩ => by
          obtain ⟨mk, b1'⟩ := rd_kill b1
          rw [wipe_get, if_neg mk] at b3
          exact mk (fh.inj k j a ⟨o, b1', b2, b3⟩ q ▸ hj)) fun a z => gi.fre a (.inl z)
      have kp5 : Kp (Own σ (hide it ρ1)) H1 H2 := gi.kp.mono oL
      have fre5 : ∀ a, Own σ (shown (hide it ρ1) vs ρe) a → Own σ (hide it ρ1) a ∨ H1 a = none := fun a z => (o5 a z).elim .inl fun z => (gi.fre a (.inl z)).imp (oL a) id
      obtain ⟨f6, o6⟩ := unhide_ok g.fr f5 kp5 fre5
      have hidden : ∀ a, Own σ (hide it ρ1) a → Own σ ρ1 a := fun a z => by
        cases it with
        | lok i => exact z.set.elim (fun ⟨o, v, e, _⟩ => nomatch e) id
        | _ => exact z
      have own6 : ∀ a, Own σ (unhide ρ1 it (shown (hide it ρ1) vs ρe)) a → Own σ ρ1 a ∨ H1 a = none := fun a z => (o6 a z).elim (fun z => .inl z.1) fun z => (fre5 a z).imp (hidden a) id
      have noD6 : ¬ Own σ (unhide ρ1 it (shown (hide it ρ1) vs ρe)) Dl := fun z => by
        rcases o6 Dl z with y | y
        · obtain ⟨u, e, _⟩ := y.1.there g.fr
          rw [hD] at e; cases e
        · rcases o5 Dl y with y | y
          · obtain ⟨u, e, _⟩ := y.there fh
            rw [hD] at e; cases e
          · exact gi.dis Dl rfl y
      refine P2 (.ref Dl) H2 ⟨g.kp.trans (kp5.mono hidden) fun c z => g.fre c (.inl z), f6, fun a z => by cases z.2; exact noD6, fun a z => ?_⟩ ⟨Dl, vacc, rfl, hDl, racc⟩
      rcases z with z | z
      · rcases own6 a z with y | y
        · exact g.fre a (.inl y)
        · exact .inr (g.kp.free y)
      · cases z.2
        exact .inr (g.kp.free hD)
theorem se_lc {elt : IE} {tg : Tg} {it : II} {cnd : IEo} {vs : List Nat} {x t i : Expr} {ifs : List Expr} {scope : Scope} {pos : Pos} (xo : XOk T G XR n N sc W X)
    (hi : SI T n XR X W it t i) (hip : plainE i = true) (hb : blkC N sc scope (vs.filterMap fun i => (N[i]?).map fun x => (x, i)) = true) (hv : vs.all (fun i => (N[i]?).isSome) = true) (ht : chkT N scope tg t = true) (hsl : ∀ j ∈ slT tg, j ∈ vs)
    (he : ∀ (Y : Cx), XOk T G XR n N (relS scope sc) (fun _ _ _ _ => False) Y → Y.K = X.K → SF T n XR Y (fun _ _ _ _ => False) elt x)
    (hc : ∀ (Y : Cx), XOk T G XR n N (relS scope sc) (fun _ _ _ _ => False) Y → Y.K = X.K → SC T n XR Y (fun _ _ _ _ => False) cnd ifs) :
    SE T n XR X W (.lc elt tg it cnd vs) (.ListComp x [⟨t, i, ifs, 0⟩] scope pos) := by
  intro args σ ρ H Q f P
  have hom := own_map (N := N) hv
  have pe : PE X (.ListComp x [⟨t, i, ifs, 0⟩] scope pos) (tLc (WI X t i) (gOf X.K tg) (ttB X scope ifs) (teB X scope x) vs) := by
    have := pe_lc (X := X) (own := vs.filterMap fun i => (N[i]?).map fun x => (x, i)) (scope := scope) (pos := pos) (g := gOf X.K tg) (tt := ttB X scope ifs) (te := teB X scope x) (elt := x) (ifs := ifs) xo.calm (by rw [xo.hN]; exact xo.nd) (WI.pi (tg := t) (iter := i)) (by rw [xo.hN, xo.sc]; exact blkOk_by hb)
      (fun s H C cl fp => pg_of (X := X.blk s H scope (compEnvC scope cl C X.env) fp) (blk_ok xo s H C cl fp).hN xo.nd xo.calm (blk_tg s H C cl fp) ht)
      (fun s H C cl fp => ⟨fun pins s1 σ' H' Q' I h => h s H C cl fp pins s1 I⟩) (fun s H C cl fp => ⟨fun pins s1 σ' H' Q' I h => h s H C cl fp pins s1 I⟩) (folded_plain hip)
    rw [hom] at this
    exact this
  exact WE.of pe (lc_core (vs := vs) xo hi hsl he hc f P)
/-- y = a comprehension on the name's own line -/
theorem ws_setLc {elt : IE} {tg : Tg} {it : II} {cnd : IEo} {vs : List Nat} {x t i : Expr} {ifs : List Expr} {scope : Scope} {pos py spos : Pos} {j : Nat} {y : Str} {args : Ar} {σ : St} {ρ : Fm} {H : Hp} {D : Ends} (xo : XOk T G XR n N sc W X)
    (hi : SI T n XR X W it t i) (hip : plainE i = true) (hb : blkC N sc scope (vs.filterMap fun i => (N[i]?).map fun x => (x, i)) = true) (hv : vs.all (fun i => (N[i]?).isSome) = true) (ht : chkT N scope tg t = true) (hsl : ∀ j ∈ slT tg, j ∈ vs)
    (he : ∀ (Y : Cx), XOk T G XR n N (relS scope sc) (fun _ _ _ _ => False) Y → Y.K = X.K → SF T n XR Y (fun _ _ _ _ => False) elt x)
    (hc : ∀ (Y : Cx), XOk T G XR n N (relS scope sc) (fun _ _ _ _ => False) Y → Y.K = X.K → SC T n XR Y (fun _ _ _ _ => False) cnd ifs)
    (hk : X.env.scope.kind = .function) (hN : X.N[j]? = some y) (hy : X.env.scope.names.lookup y = some .local) (hl : (py.line == pos.line) = true) (ha : (scope.names.any fun (n, k) => n == y && (k == .local || k == .cell)) = false)
    (f : FrOk X.K args H σ ρ) (P : PostG X.K args XR W σ ρ H (ev (callN T n) (.lc elt tg it cnd vs) ρ) (fun o ρ' => ∀ v H', Got X.K args σ ρ H σ ρ' H' (Ft v o) → Ow X.K H' v o → D.nx (σ.set j (some v)) H')) :
    WS X (.Assign [.Name y py] (.ListComp x [⟨t, i, ifs, 0⟩] scope pos) spos) D σ H := by
  have hom := own_map (N := N) hv
  have ps : PS X (.Assign [.Name y py] (.ListComp x [⟨t, i, ifs, 0⟩] scope pos) spos) (tAsg (tLc (WI X t i) (gOf X.K tg) (ttB X scope ifs) (teB X scope x) vs) (gName j)) := by
    have := ps_setLc (X := X) (own := vs.filterMap fun i => (N[i]?).map fun x => (x, i)) (scope := scope) (pos := pos) (spos := spos) (py := py) (g := gOf X.K tg) (tt := ttB X scope ifs) (te := teB X scope x) (elt := x) (ifs := ifs) xo.calm (by rw [xo.hN]; exact xo.nd) hN hy (sw_true hk hy hl ha) (WI.pi (tg := t) (iter := i)) (by rw [xo.hN, xo.sc]; exact blkOk_by hb)
      (fun s H C cl fp => pg_of (X := X.blk s H scope (compEnvC scope cl C X.env) fp) (blk_ok xo s H C cl fp).hN xo.nd xo.calm (blk_tg s H C cl fp) ht)
      (fun s H C cl fp => ⟨fun pins s1 σ' H' Q' I h => h s H C cl fp pins s1 I⟩) (fun s H C cl fp => ⟨fun pins s1 σ' H' Q' I h => h s H C cl fp pins s1 I⟩) (folded_plain hip)
    rw [hom] at this
    exact this
  exact WS.of ps (lc_core (vs := vs) xo hi hsl he hc f P)
end
end GW

/-! GW, part 10z: zip of a tuple or a list with a tuple or a list. -/
namespace GW
open PySem PySem.Spec PyProof.Rows L2  -- gw
/-- true: a tuple; false: a list -/
def SqB (c : Bool) (K : PySem.W.Frag) (H : Hp) (a : Addr) (xs : List V) : Prop := match c with
  | true => SqT K H a xs
  | false => SqL K H a xs
def SeB (c : Bool) (h : Heap) (a : Addr) (its : Array Value) : Prop := match c with
  | true => h.IsTuple a its
  | false => h.IsList a its
def ItB (c : Bool) (h : Heap) (i a : Addr) (k : Nat) : Prop := match c with
  | true => h.IsTupleIter i a k
  | false => h.IsListIter i a k
def obB (c : Bool) (a : Addr) : Obj := match c with
  | true => { cls := .type "tuple_iterator", data := .fields #[.ref a, .int 0 0] }
  | false => { cls := .type "list_iterator", data := .fields #[.ref a, .int 0 0] }
theorem begB (c : Bool) (a : Addr) (its : Array Value) : Begins (.ref a) (obB c a) fun h => SeB c h a its := by
  cases c
  · exact begins_list a its
  · exact begins_tuple a its
theorem drwB {prog : Program} {w : World} {A : Around} (c : Bool) (hh : A.handled = none) {i a : Addr} (ne : a ≠ i) (its : Array Value) : Draws prog w A i [i, a] its.size (fun k v => its[k]? = some v) (fun k h => ItB c h i a k ∧ SeB c h a its) := by
  cases c
  · exact .list hh i a ne its
  · exact .tuple hh i a ne its
theorem ItB.at_ {c : Bool} {h h' : Heap} {i a : Addr} {k : Nat} (st : ItB c h i a k) (e : ∀ o, h.get? i = some o → h'.get? i = some o) : ItB c h' i a k := by
  cases c
  · exact Heap.IsListIter.at (h := h) st e
  · exact Heap.IsTupleIter.at (h := h) st e
theorem ItB.ob {c : Bool} {h : Heap} {i a : Addr} {k : Nat} (st : ItB c h i a k) : ∃ o, h.get? i = some o ∧ ∀ v, o.data ≠ .cell v := by
  cases c <;> obtain ⟨o, e, _, d⟩ := st <;> exact ⟨o, e, fun v q => by rw [d] at q; cases q⟩
theorem itB0 {c : Bool} {h : Heap} {i a : Addr} (e : h.get? i = some (obB c a)) : ItB c h i a 0 := by
  cases c
  · exact ⟨_, e, rfl, rfl⟩
  · exact ⟨_, e, rfl, rfl⟩
section
variable {X : Cx} {pins : List (Addr × Obj)} {σ : L2.St} {H : Hp} {s : Shared}  -- gw
theorem sqB_inv {c : Bool} {a : Addr} {xs : List V} (I : Inv X pins σ H s) (h : SqB c X.K H a xs) : ∃ its : List Value, Vals xs its ∧ SeB c s.heap a its.toArray := by
  cases c
  · obtain ⟨its, r, p, _⟩ := I.list h
    exact ⟨its, r, p.isList⟩
  · obtain ⟨its, r, p, _⟩ := I.tuple h
    exact ⟨its, r, p⟩
theorem sqB_inj {c : Bool} {a : Addr} {xs ys : List V} (I : Inv X pins σ H s) (h : SqB c X.K H a xs) (h' : SqB c X.K H a ys) : xs = ys := by
  cases c
  · exact I.list_inj h h'
  · exact I.tuple_inj h h'
end
theorem SeB.lt {c : Bool} {h : Heap} {a : Addr} {its : Array Value} (p : SeB c h a its) : a < h.objs.size := by
  cases c <;> obtain ⟨o, e, _⟩ := p <;> exact Heap.lt_size e
/-- both as they stand, turn by turn; the items in new pairs -/
def ItG (K : PySem.W.Frag) (c d : Bool) (a b : Addr) : It where
  go i H := ∃ xs ys x y, (SqB c K H a xs ∧ xs[i]? = some x) ∧ SqB d K H b ys ∧ ys[i]? = some y
  yld i H v H' := ∃ T x y, (H T = none ∧ v = .ref T ∧ H' = upd H T (.tup [x, y])) ∧ (∀ xs, SqB c K H a xs → xs[i]? = some x) ∧ ∀ ys, SqB d K H b ys → ys[i]? = some y
  stop i H := ∃ xs ys : List V, (SqB c K H a xs ∧ i ≤ xs.length) ∧ (SqB d K H b ys ∧ i ≤ ys.length) ∧ (i = xs.length ∨ i = ys.length)
theorem turnG {P : Program} {w : World} {K : PySem.W.Frag} {elts : List Expr} {kk : Nat} {tpos : Pos} {c d : Bool} {a b z TI TO i1 i2 : Addr} (S : ZipSep2 z TI TO i1 i2 [i1, a] [i2, b]) (n1 : a ≠ i1) (n2 : b ≠ i2) :
    Turn P w K (.Tuple elts kk tpos) (ItG K c d a b) [z, TI, TO, i1, i2] z (fun i h => IsZip h z TI TO .none ∧ IsTupOf2 h TI (.ref i1) (.ref i2) ∧ (∃ x y, IsTupOf2 h TO x y) ∧ ItB c h i1 a i ∧ ItB d h i2 b i) where
  mem := List.mem_cons_self
  obj := fun i h st c hc => by
    obtain ⟨hz, hI, ⟨x, y, hO⟩, t1, t2⟩ := st
    simp only [List.mem_cons, List.not_mem_nil, or_false] at hc
    rcases hc with rfl | rfl | rfl | rfl | rfl
    · exact ⟨_, hz, fun v q => nomatch q⟩
    · exact ⟨_, hI, fun v q => nomatch q⟩
    · exact ⟨_, hO, fun v q => nomatch q⟩
    · exact t1.ob
    · exact t2.ob
  keep := fun i h h' st k => by
    obtain ⟨hz, hI, ⟨x, y, hO⟩, t1, t2⟩ := st
    exact ⟨k _ (by simp) _ hz, k _ (by simp) _ hI, ⟨x, y, k _ (by simp) _ hO⟩, t1.at_ (k _ (by simp)), t2.at_ (k _ (by simp))⟩
  item := by
    intro X eP ew eK hc i pins s σ H E I hf st hg
    subst eP ew eK
    obtain ⟨hz, hI, ⟨x0, y0, hO⟩, t1, t2⟩ := st
    obtain ⟨xs, ys, x, y, ⟨sx, ex⟩, sy, ey⟩ := hg
    obtain ⟨us, ru, pu⟩ := sqB_inv I sx
    obtain ⟨vs, rv, pv⟩ := sqB_inv I sy
    obtain ⟨u, eu, wu⟩ := ru.get ex
    obtain ⟨v, ev, wv⟩ := rv.get ey
    have hh : X.A.in1.handled = none := I.ok.hd hc
    have lu : i < us.toArray.size := by have := (List.getElem?_eq_some_iff.mp eu).1; simpa using this
    have lv : i < vs.toArray.size := by have := (List.getElem?_eq_some_iff.mp ev).1; simpa using this
    refine wpAny_pyNext_zipD2_item S (drwB c hh n1 us.toArray) (drwB d hh n2 vs.toArray) hz hI hO ⟨t1, pu⟩ ⟨t2, pv⟩ lu lv fun x1 x2 h' tk e1 e2 z' O' s1 s2 hT hsz hk => ?_
    have e1 : us[i]? = some x1 := by simpa using e1
    have e2 : vs[i]? = some x2 := by simpa using e2
    rw [eu] at e1
    rw [ev] at e2
    cases e1
    cases e2
    refine ⟨_, rfl, wpAny_letOwnedTupleGo_zip (s := { s with heap := h', toks := tk }) z' fun h2 z2 sb => ?_⟩
    have lz : z < s.heap.objs.size := Heap.lt_size hz
    have keepO : ∀ q o, q ∉ [z, TI, TO, i1, i2] → s.heap.get? q = some o → h2.get? q = some o := fun q o hq e => by
      simp only [List.mem_cons, List.not_mem_nil, or_false, not_or] at hq
      exact (sb.2 q hq.1).trans (hk q o hq.1 hq.2.2.1 hq.2.2.2.1 hq.2.2.2.2 e)
    have hT2 : h2.get? s.heap.objs.size = some { cls := .type "tuple", data := .seq #[u, v] } := (sb.2 _ (Nat.ne_of_gt lz)).trans hT
    have new : ObjOk X.prog X.w (upd H s.heap.objs.size (.tup [x, y])) h2 s.heap.objs.size (.tup [x, y]) := ⟨(by decide : 2 ≤ sizeLine), [u, v], .cons wu (.cons wv .nil), ⟨_, hT2, rfl, _, rfl⟩⟩
    have I2 := I.turnedNew (t' := tk) (ch := [z, TI, TO, i1, i2]) keepO hf (Nat.le_refl _) new
    refine ⟨.ref s.heap.objs.size, _, I2, rfl, ⟨_, x, y, ⟨I.hok.fresh (Nat.le_refl _), rfl, rfl⟩, fun l q => by rw [sqB_inj I q sx]; exact ex, fun l q => by rw [sqB_inj I q sy]; exact ey⟩, ⟨z2, (sb.2 _ S.TIz).trans (hk _ _ S.TIz S.TITO S.TIi1 S.TIi2 hI), ⟨u, v, (sb.2 _ S.TOz).trans O'⟩, s1.1.at_ fun o q => (sb.2 _ S.zi1.symm).trans q, s2.1.at_ fun o q => (sb.2 _ S.zi2.symm).trans q⟩, fun q hq => ?_⟩
    have lt : q < s.heap.objs.size := by
      simp only [List.mem_cons, List.not_mem_nil, or_false] at hq
      rcases hq with rfl | rfl | rfl | rfl | rfl
      · exact lz
      · exact Heap.lt_size hI
      · exact Heap.lt_size hO
      · exact Heap.lt_size t1.ob.choose_spec.1
      · exact Heap.lt_size t2.ob.choose_spec.1
    rw [upd_ne (Nat.ne_of_lt lt)]
    exact (hf q hq).1
  done := by
    intro X eP ew eK hc i pins s σ H E I hf st hg
    subst eP ew eK
    obtain ⟨hz, hI, ⟨x0, y0, hO⟩, t1, t2⟩ := st
    obtain ⟨xs, ys, ⟨sx, lx⟩, ⟨sy, ly⟩, he⟩ := hg
    obtain ⟨us, ru, pu⟩ := sqB_inv I sx
    obtain ⟨vs, rv, pv⟩ := sqB_inv I sy
    have l1 := ru.length
    have l2 := rv.length
    have hh : X.A.in1.handled = none := I.ok.hd hc
    refine wpAny_pyNext_zipD2_end S (drwB c hh n1 us.toArray) (drwB d hh n2 vs.toArray) hz hI hO ⟨t1, pu⟩ ⟨t2, pv⟩ (by simp; omega) (by simp; omega) (by simp; omega) fun h' tk hk => ⟨rfl, I.turnedL (t' := tk) (ch := [z, TI, TO, i1, i2]) (fun q o hq e => ?_) hf⟩
    simp only [List.mem_cons, List.not_mem_nil, or_false, not_or] at hq
    exact hk q o hq.1 hq.2.2.1 hq.2.2.2.1 hq.2.2.2.2 e
  self := fun A i s Q E st h => wpAny_pyIter_zip st.1 h  -- gw
def iZipG (K : PySem.W.Frag) (ta : TA) : TI := fun σ H R => ta σ H fun vs H1 => ∃ a b xs ys c d, vs = [.ref a, .ref b] ∧ SqB c K H1 a xs ∧ SqB d K H1 b ys ∧ R (ItG K c d a b) H1
theorem pi_zipG {X : Cx} {e e2 : Expr} {ta : TA} {p pos tpos : Pos} {elts : List Expr} {kk : Nat} (hg : Gl X "zip") (hm : X.mg "zip" = none) (ha : PA X [e, e2] ta)
    (hs : starEach [e, e2] X.env = (false, eval e X.env) :: starEach [e2] X.env) (hpl : (backTo pos (starEach [e2] X.env)).any (·.1) = false) :
    PI X (.Tuple elts kk tpos) (.Call (.Name "zip" p) [e, e2] [] pos) (iZipG X.K ta) where
  run := fun pins s σ H R I h => by
    refine Call_ (ld_blt I hg hm boot_zip (callWith_type1 (thn (ha.run pos pins s σ H _ I h) fun us s1 ⟨vs, H1, I1, r1, q1⟩ => ?_) hs hpl))
    obtain ⟨a, b, xs, ys, c, d, rfl, sx, sy, q⟩ := q1
    obtain ⟨ua, ub, rfl, ra, rb⟩ : ∃ ua ub, us = [ua, ub] ∧ RelV (.ref a) ua ∧ RelV (.ref b) ub := by
      cases r1 with
      | cons ra t => cases t with
        | cons rb t => cases t; exact ⟨_, _, rfl, ra, rb⟩
    cases ra
    cases rb
    obtain ⟨us, ru, pu⟩ := sqB_inv I1 sx
    obtain ⟨vs, rv, pv⟩ := sqB_inv I1 sy
    have la := pu.lt
    have lb := pv.lt
    refine zip_begins2 (begB c a us.toArray) (begB d b vs.toArray) pu pv fun h' hz hI hO g1 g2 hsz hk => wpAny_pyIter_zip hz ?_
    have I2 : Inv X pins σ H1 { s1 with heap := h' } := I1.kept (t' := s1.toks) hk  -- gw
    refine ⟨_, _, _, _, H1, rfl, I2, turnG (zip_sep2 (fp1 := [a]) (fp2 := [b]) (fun q hq => by rw [List.mem_singleton.mp hq]; exact la) fun q hq => by rw [List.mem_singleton.mp hq]; exact lb) (Nat.ne_of_lt la) (Nat.ne_of_lt (Nat.lt_succ_of_lt lb)), ⟨hz, hI, ⟨_, _, hO⟩, itB0 g1, itB0 g2⟩, fun q hq => ?_, q⟩
    have le : s1.heap.objs.size ≤ q := by
      simp only [List.mem_cons, List.not_mem_nil, or_false] at hq
      rcases hq with rfl | rfl | rfl | rfl | rfl <;> first | exact Nat.le_add_right _ _ | exact Nat.le_refl _
    exact I1.fpOk le (I1.hok.fresh le)
end GW

/-! GW, part 10a: {k: v, ..}.get(k, d); zip. -/
namespace GW
open PySem PySem.Spec PyProof.Rows L2  -- gw
section
variable {T : List Df} {G : List (Str × D)} {n : Nat} {XR : XRT} {N : List Str} {X : Cx} {W : WX} {ia ib ie : IE} {ea eb e : Expr} {sc : Scope}
def RpP (K : PySem.W.Frag) (H : Hp) : List (V × V) → List (D × D) → Prop := Paired fun p q => Rp K H p.1 q.1 ∧ Rp K H p.2 q.2
theorem RpP.keep {K : PySem.W.Frag} {H H' : Hp} (k : Stl H H') : ∀ {ps : List (V × V)} {qs : List (D × D)}, RpP K H ps qs → RpP K H' ps qs
  | _, _, .nil => .nil
  | _, _, .cons h r => .cons ⟨h.1.keep k, h.2.keep k⟩ (RpP.keep k r)
/-- what the pairs are asked -/
def trsOf (X : Cx) : List (Option Expr) → List Expr → List (TE × TE)
  | some k :: ks, v :: vs => (WE X k, WE X v) :: trsOf X ks vs
  | _, _ => []
def SPs (T : List Df) (n : Nat) (XR : XRT) (X : Cx) (W : WX) (ps : IPs) (ks : List (Option Expr)) (vs : List Expr) : Prop := ∀ (args : Ar) (σ : St) (ρ : Fm) (H : Hp) (Q : List (V × V) → Hp → Prop), FrOk X.K args H σ ρ →
  PostG X.K args XR W σ ρ H (evPs (callN T n) ps ρ) (fun ds ρ' => ∀ us H', Got X.K args σ ρ H σ ρ' H' (fun _ => False) → RpP X.K H' us ds → Q us H') → tPairs (trsOf X ks vs) σ H Q
theorem sps_nil : SPs T n XR X W .nil [] [] := fun args σ ρ H Q f P => P [] H (Got.refl f) .nil
theorem sps_cons {ik iv : IE} {r : IPs} {k v : Expr} {ks : List (Option Expr)} {vs : List Expr} (hk : SF T n XR X W ik k) (hv : SF T n XR X W iv v) (hr : SPs T n XR X W r ks vs) : SPs T n XR X W (.cons ik iv r) (some k :: ks) (v :: vs) := by
  intro args σ ρ H Q f P
  refine hk args σ ρ H _ f (PostG.bind P fun d ρ1 _ P1 => fun x H1 g w => ?_)
  refine hv args σ ρ1 H1 _ g.fr (PostG.bind' g P1 fun d2 ρ2 _ P2 => fun y H2 g2 w2 => ?_)
  have g12 := g.trans g2
  refine hr args σ ρ2 H2 _ g12.fr (PostG.bind' g12 P2 fun ds ρ3 _ P3 => fun us H3 g3 w3 => ?_)
  exact P3 _ H3 (g12.trans g3) (.cons ⟨w.keep (g2.kp.still.trans g3.kp.still), w2.keep g3.kp.still⟩ w3)
theorem pps_of : ∀ {ps : IPs} {ks : List (Option Expr)} {vs : List Expr} {pos : Pos}, chkP N T G sc ps ks vs = true → PPs X pos ks vs (trsOf X ks vs) ∧ ks.all (·.isSome) = true ∧ ks.length = vs.length
  | .nil, [], [], _, _ => ⟨pps_nil, rfl, rfl⟩
  | .nil, [], _ :: _, _, h => by simp only [chkP] at h; cases h
  | .nil, _ :: _, _, _, h => by simp only [chkP] at h; cases h
  | .cons k v r, [], vs, _, h => by simp only [chkP] at h; cases h
  | .cons k v r, none :: ks, vs, _, h => by simp only [chkP] at h; cases h
  | .cons k v r, some x :: ks, [], _, h => by simp only [chkP] at h; cases h
  | .cons k v r, some x :: ks, y :: vs, pos, h => by
    simp only [chkP, Bool.and_eq_true] at h
    obtain ⟨h1, h2, h3⟩ := pps_of (pos := pos) h.2
    exact ⟨pps_cons WE.pe WE.pe h1, by simpa using h2, by simpa using h3⟩
/-- the pairs as they stand in a dict -/
theorem keys_of {K : PySem.W.Frag} {H : Hp} : ∀ {us : List (V × V)} {ds : List (D × D)}, RpP K H us ds → (ds.all fun p => isI p.1) = true → ∃ kvs : List (Key × V), us = kvs.map (fun kv => (kV kv.1, kv.2)) ∧ kvs.length = ds.length ∧
    ∀ (i : Int) (rv : Option V) (rd : Option D), (∀ d, rd = some d → ∃ v, rv = some v ∧ Rp K H v d) → (rd = none → rv = none) →
      (∀ d, (ds.foldl (fun r p => match p.1 with | .int j => if i = j then some p.2 else r | _ => r) rd) = some d → ∃ v, kvs.foldl (fun r (kv : Key × V) => if (Sum.inl i : Key) = kv.1 then some kv.2 else r) rv = some v ∧ Rp K H v d) ∧
      ((ds.foldl (fun r p => match p.1 with | .int j => if i = j then some p.2 else r | _ => r) rd) = none → kvs.foldl (fun r (kv : Key × V) => if (Sum.inl i : Key) = kv.1 then some kv.2 else r) rv = none)
  | [], [], .nil, _ => ⟨[], rfl, rfl, fun i rv rd h1 h2 => ⟨h1, h2⟩⟩
  | (k, v) :: us, (d, e) :: ds, .cons hd r, h => by
    rw [List.all_cons, Bool.and_eq_true] at h  -- gw
    obtain ⟨kvs, e1, e2, e3⟩ := keys_of r h.2
    cases d <;> first | (exact absurd h.1 Bool.false_ne_true) | skip
    rename_i j
    obtain ⟨w1, w2⟩ := hd
    cases w1
    refine ⟨(.inl j, v) :: kvs, by rw [e1]; rfl, by rw [List.length_cons, List.length_cons, e2], fun i rv rd h1 h2 => ?_⟩
    rw [List.foldl_cons, List.foldl_cons]  -- gw
    by_cases q : i = j
    · subst q
      have := e3 i (some v) (some e) (fun d z => by cases z; exact ⟨v, rfl, w2⟩) (fun z => nomatch z)
      simpa using this
    · have := e3 i rv rd h1 h2
      simpa [q] using this
theorem merge_val : ∀ {more kvs : List (Key × V)} {j : Key}, valV (mergeK kvs more) j = more.foldl (fun r (kv : Key × V) => if j = kv.1 then some kv.2 else r) (valV kvs j)
  | [], _, _ => rfl
  | kv :: more, kvs, j => by
    show valV (mergeK (putK kvs kv.1 kv.2) more) j = _
    rw [merge_val, List.foldl_cons, valV_put]
theorem get_name : (("get" : Str) == ("get" : Str)) = true := by decide +kernel
theorem se_dget {ps : IPs} {ks : List (Option Expr)} {vs : List Expr} {p2 apos cpos : Pos} {x y : Expr} (xo : XOk T G XR n N sc W X) (hP : chkP N T G sc ps ks vs = true) (hps : SPs T n XR X W ps ks vs) (hne : ks ≠ []) (h15 : ks.length ≤ 15) (hline : (apos.endLine == cpos.line) = true)
    (hx : plainE x = true) (hy : plainE y = true) (h1 : SF T n XR X W ia x) (h2 : SF T n XR X W ib y) : SE T n XR X W (.dget ps ia ib) (.Call (.Attribute (.Dict ks vs p2) "get" apos) [x, y] [] cpos) := by
  intro args σ ρ H Q f P
  obtain ⟨q1, q2, q3⟩ := pps_of (X := X) (pos := p2) hP
  have tr : backTo cpos (starEach [x, y] X.env) = [(false, eval x X.env), (false, eval y X.env)] := by rw [star_plain hx, star_plain hy]; rfl
  have m : M2 X (.Dict ks vs p2) "get" apos x y cpos := ⟨rfl, by rw [tr]; rfl, hline, tr⟩
  have hu := xo.units
  refine WE.of (pe_dget2 (by omega) (pe_disp q1 q2 q3 hne h15) WE.pe WE.pe m) (fun p hp => ?_)
  have g0 : Got X.K args σ ρ H σ ρ (upd H p (.dK [])) (fun c => c = p) := (Got.refl f).new hp
  refine hps args σ ρ _ _ g0.fr (PostG.bind' g0 P fun ds ρ1 _ P1 => fun us H1 g1 w1 => ?_)
  have hp1 : H1 p = some (.dK []) := g1.kp.rest p _ upd_same (g0.dis p rfl)
  have g01 := g0.trans2 g1 fun c z => by rw [z, upd_same]; exact fun z => nomatch z
  split at P1
  · rename_i hk
    rw [Bool.and_eq_true, decide_eq_true_eq] at hk
    obtain ⟨kvs, e1, e2, e3⟩ := keys_of w1 hk.1
    refine ⟨hp1, kvs, e1, by omega, p, rfl, .inl ⟨_, .inl upd_same⟩, ?_⟩
    have g2 := (g01.drop (F1 := fun c => c = p) fun c z => .inl z).wr (w := .dK (mergeK [] kvs)) hp1 id
    refine h1 args σ ρ1 _ _ g2.fr (PostG.bind' g2 P1 fun k ρ2 _ P2 => fun yv H2 g3 w3 => ?_)
    have g23 := g2.trans2 g3 fun c z => by rw [z, upd_same]; exact fun z => nomatch z
    have hp2 := g3.kp.rest p _ upd_same (g2.dis p rfl)
    refine h2 args σ ρ2 H2 _ g23.fr (PostG.bind' g23 P2 fun d ρ3 _ P3 => fun zv H3 g4 w4 => ?_)
    have hp3 := g4.kp.rest p _ hp2 (g23.dis p (.inl rfl))
    have g234 := g23.trans g4
    cases k <;> first | exact P3.elim | skip
    rename_i i _
    cases w3
    refine ⟨_, .inl ⟨_, .inl i, .inl hp3, rfl, rfl⟩, ?_⟩
    have h3 := e3 i none none (fun d z => nomatch z) (fun _ => rfl)
    have hv : valV (mergeK [] kvs) (.inl i) = kvs.foldl (fun r (kv : Key × V) => if (Sum.inl i : Key) = kv.1 then some kv.2 else r) none := merge_val
    rw [hv]
    have P3 : ∀ v H', Got X.K args σ ρ H σ ρ3 H' (Ft v (.fz ((dgF ds i).getD d))) → Ow X.K H' v (.fz ((dgF ds i).getD d)) → Q v H' := P3
    refine P3 _ H3 (noF g234) ?_
    unfold dgF
    cases z : ds.foldl (fun r p => match p.1 with | .int j => if i = j then some p.2 else r | _ => r) none with
    | none => rw [h3.2 z]; exact w4
    | some u =>
      obtain ⟨v, z1, z2⟩ := h3.1 u z
      rw [z1]
      exact z2.keep ((Kp.write (P := fun b => b = p) (w := .dK (mergeK [] kvs)) hp1 id rfl).still.trans (g3.kp.still.trans g4.kp.still))
  · exact P1.elim
theorem zip_name : ("zip" : Str) ∈ bnames := by decide +kernel
theorem zip_rp {K : PySem.W.Frag} {H : Hp} : ∀ {xs : List V} {ds : List D} {ys : List V} {es : List D} {i : Nat} {d : D}, RpA K H xs ds → RpA K H ys es → (zipD ds es)[i]? = some d → ∃ x y a b, xs[i]? = some x ∧ ys[i]? = some y ∧ d = .tuple [a, b] ∧ Rp K H x a ∧ Rp K H y b
  | _, _, _, _, _, _, .nil, _, h => by simp [zipD] at h
  | _, _, _, _, _, _, .cons _ _, .nil, h => by simp [zipD] at h
  | _, _, _, _, 0, _, .cons h1 _, .cons h2 _, h => by
    simp [zipD] at h
    exact ⟨_, _, _, _, rfl, rfl, h.symm, h1, h2⟩
  | _, _, _, _, i + 1, _, .cons _ r1, .cons _ r2, h => by
    obtain ⟨x, y, a, b, h1, h2, h3⟩ := zip_rp (i := i) r1 r2 (by simpa [zipD] using h)
    exact ⟨x, y, a, b, by simpa using h1, by simpa using h2, h3⟩
theorem zip_len : ∀ {ds es : List D}, (zipD ds es).length = min ds.length es.length
  | [], es => by simp [zipD]
  | a :: ds, [] => by simp [zipD]
  | a :: ds, b :: es => by rw [zipD, List.length_cons, zip_len, List.length_cons, List.length_cons, Nat.succ_min_succ]
def FqB (c : Bool) (K : PySem.W.Frag) (H : Hp) (a : Addr) (xs : List V) : Prop := match c with
  | true => SqT K H a xs
  | false => FqL K H a xs
theorem FqB.sq {c : Bool} {K : PySem.W.Frag} {H : Hp} {a : Addr} {xs : List V} (h : FqB c K H a xs) : SqB c K H a xs := by
  cases c
  · exact FqL.sq h
  · exact h
theorem FqB.keep {c : Bool} {K : PySem.W.Frag} {H H' : Hp} {a : Addr} {xs : List V} (k : Stl H H') (h : FqB c K H a xs) : FqB c K H' a xs := by
  cases c
  · exact FqL.keep k h
  · exact sqT_keep k h
theorem rp_items {K : PySem.W.Frag} {H : Hp} {v : V} {d : D} {ds : List D} (w : Rp K H v d) (h : items (.fz d) = some ds) : ∃ c a xs, v = .ref a ∧ FqB c K H a xs ∧ RpA K H xs ds := by
  cases w with
  | lst q r => obtain rfl := Option.some.inj h; exact ⟨false, _, _, rfl, q, r⟩
  | tup q r => obtain rfl := Option.some.inj h; exact ⟨true, _, _, rfl, q, r⟩
  | _ => cases h
theorem src_zip {K : PySem.W.Frag} {H1 : Hp} {c d : Bool} {a b : Addr} {xs ys : List V} {ds es : List D} (h : FqB c K H1 a xs) (h2 : FqB d K H1 b ys) (r : RpA K H1 xs ds) (r2 : RpA K H1 ys es) : Src K (ItG K c d a b) (zipD ds es) H1 (fun _ => False) := by
  refine ⟨fun i u H e l => ?_, fun H l => ⟨xs, ys, ⟨(h.keep (lean_stl l)).sq, ?_⟩, ⟨(h2.keep (lean_stl l)).sq, ?_⟩, ?_⟩⟩
  · obtain ⟨x, y, p, q, e1, e2, rfl, w1, w2⟩ := zip_rp r r2 e
    have k1 := (h.keep (lean_stl l)).sq
    have k2 := (h2.keep (lean_stl l)).sq
    refine ⟨⟨xs, ys, x, y, ⟨k1, e1⟩, k2, e2⟩, fun z H' q => ?_⟩
    obtain ⟨t, x', y', ⟨hp, rfl, rfl⟩, q1, q2⟩ := q
    have z1 := q1 xs k1
    have z2 := q2 ys k2
    rw [e1] at z1
    rw [e2] at z2
    cases z1
    cases z2
    have kp : Kp (fun _ => False) H (upd H t (.tup [x, y])) := Kp.new hp
    exact ⟨kp, .tup (.inl (.inl upd_same)) (.cons (w1.keep ((lean_stl l).trans kp.still)) (.cons (w2.keep ((lean_stl l).trans kp.still)) .nil))⟩
  · rw [zip_len, r.length]; omega
  · rw [zip_len, r2.length]; omega
  · rw [zip_len, r.length, r2.length]; omega
theorem si_zip {x : Str} {p pos tpos : Pos} {elts : List Expr} {kk : Nat} (xo : XOk T G XR n N sc W X) (hg : glB sc x = true) (hx : x = "zip") (hp : plainE ea = true) (hp2 : plainE eb = true) (h : SF T n XR X W ia ea) (h2 : SF T n XR X W ib eb) : SI T n XR X W (.zip ia ib) (.Tuple elts kk tpos) (.Call (.Name x p) [ea, eb] [] pos) := by
  intro args σ ρ H R f P
  subst hx
  refine WI.of (pi_zipG (gl_of xo.sc hg) (xo.g.blt _ zip_name) (pa_cons WE.pe (pa_cons WE.pe pa_nil (star_plain hp2)) (star_plain hp)) (by rw [star_plain hp, star_plain hp2]) (by rw [star_plain hp2]; rfl)) (h args σ ρ H _ f (PostG.bind P fun o ρ1 _ P1 => fun v H1 g w => ?_))
  refine h2 args σ ρ1 H1 _ g.fr (PostG.bind' g P1 fun o2 ρ2 _ P2 => fun v2 H2 g2 w2 => ?_)
  cases hx : items (.fz o) with
  | none => rw [hx] at P2; exact P2.elim
  | some ds =>
    cases hy : items (.fz o2) with
    | none => rw [hx, hy] at P2; exact P2.elim
    | some es =>
      rw [hx, hy] at P2
      obtain ⟨c, a, xs, rfl, ha, ra⟩ := rp_items (w.keep g2.kp.still) hx
      obtain ⟨d, b, ys, rfl, hb, rb⟩ := rp_items w2 hy
      have g3 := g.trans g2
      exact ⟨_, _, _, _, _, _, rfl, ha.sq, hb.sq, P2 _ H2 (fun _ => False) _ g3 g3.fr (fun b z => z.elim) (src_zip ha hb ra rb)⟩
end
end GW

/-! GW, part 10b: set(list of ints), sorted(that); sorted of pairs. -/
namespace GW
open PySem PySem.Spec PyProof.Rows L2  -- gw
/-- a new set -/
abbrev sob (w : World) : Obj := { cls := .type "set", dict := none, data := .set #[] 0 (.fresh 0 0 (!w.params.followText "set-order")) }
section
variable {P : Program} {w : World} {A : Around} {E : Value → Shared → Prop} {s : Shared}  -- gw
set_option maxHeartbeats 4000000 in  -- gw
/-- set(xs), xs a list: what its walk makes of the new set -/
theorem set_gen {l : Addr} {xs : Array Value} (Z : Heap → Prop) {Q : Value → Shared → Prop} (hh : A.handled = none) (hl : s.heap.IsList l xs)
    (loop : ∀ {A' : Around} {I : Addr} {fp wr : List Addr} {G : Array GenState → Array GenState → Prop} {St : Nat → Shared → Prop} {s1 : Shared} {R : Result → Shared → Prop}, WalksS P w A'.in1 I fp wr G xs.size (fun i v => xs[i]? = some v) St → s.heap.objs.size ∉ fp → St 0 s1 → s1.heap.get? s.heap.objs.size = some (sob w) →
      (∀ s', Moved (s.heap.objs.size :: wr) G s1 s' → Z s'.heap → R (.ok (.ret .none)) s') → codeAny (model P w) A' (.builtin "set.update.loop" ⟨[.ref s.heap.objs.size, .ref I], []⟩) R s1)
    (h : ∀ (h2 : Heap) (tk : Nat), Z h2 → (∀ b o, s.heap.get? b = some o → h2.get? b = some o) → Q (.ref s.heap.objs.size) { s with heap := h2, toks := tk }) :
    wpAny (model P w) A (call (.type "set") [.ref l]) Q E s := by  -- gw
  obtain ⟨_, _, hm⟩ := F.called_set.mro
  have f1 := F.called_set.made; have f2 := F.called_set.sub; have f3 := F.called_set.notType; have f4 := F.called_set.canCreate; have f5 := F.typeCall_set_1 (.ref l)
  refine wpAny_call (codeAny_of_tree (wpAny_pure ⟨Code.quiet_builtin _ (by decide +kernel), codeAny_builtin F.entry_type_call ?_⟩))
  rw [Around.under_plain (weight_type_call_type "set" [.ref l] []) rfl]  -- gw
  repeat (any_goals (first | assumption | wp_step))  -- gw
  refine codeAny_mono (code_set_led1 (.ref l) (E := E) (Q₁ := fun v t => v = .ref s.heap.objs.size ∧ t = { s with heap := s.heap.push (sob w) }) ⟨rfl, rfl⟩) fun r t ht => ?_
  cases r with
  | error e => exact ht
  | ok fl => cases fl <;> first | exact ht.elim | skip
             rename_i v
             obtain ⟨rfl, rfl⟩ := ht
             have g1 : (s.heap.push (sob w)).get? s.heap.objs.size = some (sob w) := Heap.get?_push_size _ rfl
             have g2 : Shared.TypeIs { s with heap := s.heap.push (sob w) } (.ref s.heap.objs.size) "set" := ⟨_, g1, rfl⟩
             have f6 := F.called_set.init.lookup; have f7 := F.called_set.init.bind (.ref s.heap.objs.size)
             repeat (any_goals (first | assumption | wp_step))  -- gw
             refine codeAny_mono (codeAny_call_builtin (R := wants (fun v t => v = .none ∧ ∃ h2 tk, t = { s with heap := h2, toks := tk } ∧ Z h2 ∧ (∀ b o, s.heap.get? b = some o → h2.get? b = some o)) E) F.called_set.init.plain F.entry_set_init (check_set_init_1 g2 ?_)) fun r t ht => ?_
             · obtain ⟨⟨oc, od, odt, osl⟩, ho, hc, nl, hd⟩ := hl
               simp only at hc hd
               subst hc; subst hd
               have lt : l < s.heap.objs.size := Heap.lt_size ho
               have ho2 : (s.heap.push (sob w)).get? l = some { cls := .type "list", dict := od, data := .seq xs nl, slots := osl } := Heap.get?_push_of_some _ ho
               have hl2 : (s.heap.push (sob w)).IsList l xs := ⟨_, ho2, rfl, nl, rfl⟩
               have f8 := F.sub_list_set; have f9 := F.sub_list_frozenset
               have f10 : (Value.type "list" == Value.type "dict") = false := by decide
               unfold Builtin.«set.__init__» noKeywords Builtin.Frozenset.updateFrom  -- gw
               generalize hPI : pyIter = PI
               wp_walk
               subst hPI
               refine wpAny_pyIter_list hl2 (wpAny_bind (wpAny_runValue ?_))
               have n1 : l ≠ (s.heap.push (sob w)).objs.size := by rw [Heap.size_push]; exact Nat.ne_of_lt (Nat.lt_succ_of_lt lt)
               have n2 : s.heap.objs.size ∉ [(s.heap.push (sob w)).objs.size, l] := by
                 rw [Heap.size_push]; simp only [List.mem_cons, List.not_mem_nil, or_false, not_or]
                 exact ⟨Nat.ne_of_lt (Nat.lt_succ_self _), Nat.ne_of_gt lt⟩
               refine loop (Walks.list (by simp [hh]) _ l n1 xs).toS n2 ⟨⟨_, Heap.get?_push_size _ rfl, rfl, rfl⟩, hl2.push _⟩ (Heap.get?_push_of_some _ g1) fun t mv hS => ?_
               obtain ⟨h2, gs, dr, tk, os⟩ := t
               obtain rfl : gs = s.gens := mv.gens
               obtain rfl : dr = s.drawn := mv.drawn
               obtain rfl : os = s.os := mv.os
               refine wpAny_pure (wpAny_pure ⟨rfl, h2, tk, rfl, hS, fun b o e => ?_⟩)
               have lb := Heap.lt_size e
               refine mv.heap b o (fun z => ?_) (Heap.get?_push_of_some _ (Heap.get?_push_of_some _ e))
               rw [Heap.size_push] at z
               simp only [List.mem_cons, List.not_mem_nil, or_false] at z
               rcases z with z | z
               · exact absurd z (Nat.ne_of_lt lb)
               · exact absurd z (Nat.ne_of_lt (Nat.lt_succ_of_lt lb))
             · cases r with
               | error e => exact ht
               | ok fl =>
                 cases fl <;> first | exact ht.elim | skip
                 obtain ⟨rfl, h2, tk, rfl, hS, k⟩ := ht
                 repeat (any_goals (first | assumption | wp_step))  -- gw
                 exact h _ _ hS k
/-- .. xs a list of ints -/
theorem set_lst {l : Addr} {xs : Array Value} (ns : List Int) {Q : Value → Shared → Prop} (hh : A.handled = none) (hl : s.heap.IsList l xs) (hx : IntsAre xs.toList ns) (hb : ns.length + 1 < scanBound)
    (h : ∀ (h2 : Heap) (tk c : Nat), SetR w h2 s.heap.objs.size (fun j => decide (j ∈ ns)) c → c ≤ ns.length → (∀ b o, s.heap.get? b = some o → h2.get? b = some o) → Q (.ref s.heap.objs.size) { s with heap := h2, toks := tk }) :
    wpAny (model P w) A (call (.type "set") [.ref l]) Q E s := by  -- gw
  have hsz : xs.size = ns.length := (Array.length_toList (xs := xs)).symm.trans (IntsAre.length hx)
  refine set_gen (fun h2 => ∃ c, SetR w h2 s.heap.objs.size (fun j => decide (j ∈ ns)) c ∧ c ≤ ns.length) hh hl (fun W hf h0 hs hR => ?_) fun h2 tk ⟨c, hS, hc⟩ k => h h2 tk c hS hc k
  refine set_update_ints W s.heap.objs.size hf ns hsz hb (fun i v hv => ?_) (xs.size - 0) 0 _ (by omega) (Nat.zero_le _) h0 ⟨0, Nat.le_refl 0, setR_new_at hs⟩ fun t c mv hc' hS => hR t mv ⟨c, hS, by omega⟩
  have hi : i < ns.length := by rw [← hsz]; exact (Array.getElem?_eq_some_iff.mp hv).1
  obtain ⟨tk, e⟩ := IntsAre.int_at hx i v (by rw [Array.getElem?_toList]; exact hv)
  exact ⟨ns[i], tk, List.getElem?_eq_getElem hi, by rw [e, List.getD_eq_getElem?_getD, List.getElem?_eq_getElem hi]; rfl⟩
set_option maxHeartbeats 1000000 in  -- gw
/-- sorted(a set), any number of members -/
theorem srt_set {a : Addr} {S : Int → Bool} {n : Nat} {Q : Value → Shared → Prop} (R : SetR w s.heap a S n) (hh : A.handled = none)
    (hQ : ∀ t p (out : Array Value) (c : Nat) (ns : List Int), (∀ b o, s.heap.get? b = some o → t.heap.get? b = some o) → t.gens = s.gens → t.os = s.os → s.heap.objs.size ≤ p →
      t.heap.get? p = some (seqObj "list" out c) → IntsAre out.toList ns → ns.Pairwise (· < ·) → (∀ k, k ∈ ns ↔ S k = true) → ns.length = n → Q (.ref p) t) :
    wpAny (model P w) A (call (.builtin "sorted") [.ref a]) Q E s := by  -- gw
  obtain ⟨o, es, ep, tb, ho, hex, hd, g, nd, hm, hb, hf, hn, hr, hl⟩ := R
  refine Calls.call_function_entry kind_sorted plain_sorted entry_sorted (args_sorted1 _) ?_  -- gw
  unfold Builtin.«sorted»
  refine wpAny_bind (m := checkCount "sorted" 1 1 _) (wpAny_pure (wpAny_bind (collect_set (A := A.in1) hh ⟨o, ho, hex.1, hd⟩ hf hb hr hl fun t vs k1 hz g1 o1 pm => ?_)))
  have vl : vs.length = n := by rw [pm.length_eq, List.length_map, Array.length_toList]; exact hn
  have hI := L2.ints_of vs fun v hv => by
    obtain ⟨e, he, rfl⟩ := List.mem_map.mp (pm.mem_iff.mp hv)
    obtain ⟨k, tk, h1, _⟩ := g e he  -- gw
    exact ⟨k, tk, h1⟩
  have pk : (vs.map Builtin.Re.reRawOf).Perm (es.toList.map keyOf) := by  -- gw
    have q := pm.map Builtin.Re.reRawOf  -- gw
    rwa [List.map_map] at q
  have hsz : vs.length ≤ sizeLine := by
    rw [vl, ← hn, sizeLine_eq]
    unfold scanBound at hb
    omega
  refine wpAny_bind (wpAny_newList ?_ hsz)
  have oL : (t.heap.push (seqObj "list" vs.toArray 0)).get? t.heap.objs.size = some (seqObj "list" vs.toArray 0) := Heap.get?_push_size _ rfl
  refine wpAny_bind (wpAny_holding (wpAny_call_entry slot_list_sort ⟨_, oL, rfl⟩ entry_list_sort (SrtO.list_sort_ord SrtO.swo_int oL hsz (fun h2 => SrtO.ints_sortable hI h2) fun out h1 h2 => ⟨_, rfl, ?_⟩) (args_list_sort _)))
  obtain ⟨a1, a2, a3⟩ := SrtO.ints_out hI h1 h2
  obtain ⟨c, hc⟩ := sortedHeap_at (vs := vs) (out := out.toArray) oL
  have pn := a2.trans pk
  refine wpAny_pure ⟨_, rfl, hQ _ t.heap.objs.size out.toArray c (out.map SrtO.iv) (fun b u e => ?_) g1 o1 hz hc a1 (lt_of_le_nodup _ a3 (pn.nodup_iff.mpr nd)) (fun k => by rw [pn.mem_iff, ← hm k]) ?_⟩
  · have q := k1 b u e
    have lb := Heap.lt_size q
    exact (sortedHeap_old (Nat.ne_of_lt lb) (by rw [size_push']; exact Nat.lt_succ_of_lt lb)).trans (Heap.get?_push_of_some _ q)
  · rw [pn.length_eq, List.length_map, Array.length_toList]; exact hn  -- gw
end
section
variable {X : Cx}
def rSetLI (K : PySem.W.Frag) (w : World) : List V → Hp → VK → Prop := fun vs H Q => ∃ (a : Addr) (ns : List Int), vs = [V.ref a] ∧ SqL K H a (ns.map V.int) ∧ ns.length + 1 < scanBound ∧ ∀ p c, H p = none → Q (.ref p) (upd H p (SetO w p (fun j => decide (j ∈ ns)) c))
theorem cr_setLI (hc : X.calm = true) : CallR X (.type "set") (rSetLI X.K X.w) := by
  intro pins s σ H vs us Q I r h  -- gw
  obtain ⟨a, ns, rfl, hs, hb, q⟩ := h
  obtain ⟨its, rv, hl, hz⟩ := I.list hs  -- gw
  rw [Vals.ref1 r]
  refine set_lst ns (I.ok.hd hc) hl.isList (by simpa using rv.ints) hb fun h2 tk c hS _ k => ?_
  exact ⟨.ref _, upd H s.heap.objs.size (SetO X.w s.heap.objs.size (fun j => decide (j ∈ ns)) c), I.laid (t' := tk) k (Nat.le_refl _) (setO_new hS), rfl, q _ c (I.hok.fresh (Nat.le_refl _))⟩
def rSrtSet (w : World) : List V → Hp → VK → Prop := fun vs H Q => ∃ (a : Addr) (S : Int → Bool) (n : Nat), vs = [V.ref a] ∧ H a = some (SetO w a S n) ∧
  ∀ (ns : List Int) (p : Addr), ns.Pairwise (· < ·) → (∀ k : Int, k ∈ ns ↔ S k = true) → H p = none → Q (.ref p) (upd H p (.lst (ns.map V.int)))
theorem cr_srtSet (hc : X.calm = true) : CallR X (.builtin "sorted") (rSrtSet X.w) := by
  intro pins s σ H vs us Q I r h  -- gw
  obtain ⟨a, S, n, rfl, ha, q⟩ := h
  have R := setO_get I ha
  have hnb : n < scanBound := by
    obtain ⟨_, es, _, _, _, _, _, _, _, _, hb, _, hn, _⟩ := R
    rw [← hn]; exact hb
  rw [Vals.ref1 r]
  refine srt_set R (I.ok.hd hc) fun t p out c ns k g o hp hg hi hs hm hl => ?_
  have hlen : (ns.map V.int).length ≤ sizeLine := by
    rw [List.length_map, hl, sizeLine_eq]
    unfold scanBound at hnb
    omega
  have hn : H p = none := I.hok.fresh hp  -- gw
  have J : Inv X pins σ (upd H p (.lst (ns.map V.int))) { s with heap := t.heap, gens := t.gens, drawn := t.drawn, toks := t.toks } :=
    I.call (ch := []) (Un.laid k hp hn) (I.hok.laid k hp ⟨hlen, out.toList, c, vals_of_ints hi, hg⟩) (by rw [g]; exact I.bare) (fun _ z => nomatch z)  -- gw
  have e : t = { s with heap := t.heap, gens := t.gens, drawn := t.drawn, toks := t.toks } := by
    cases t; cases s; cases o; rfl
  rw [e]
  exact ⟨.ref p, _, J, rfl, q ns p hs hm hn⟩
end
section
variable {T : List Df} {G : List (Str × D)} {n : Nat} {XR : XRT} {N : List Str} {X : Cx} {W : WX} {ia ib ie : IE} {ea eb e : Expr} {sc : Scope}
theorem insU_mem (a : Int) : ∀ (l : List Int) (k : Int), k ∈ insU a l ↔ k = a ∨ k ∈ l
  | [], k => by simp [insU]
  | b :: r, k => by
    unfold insU
    split
    · simp
    · split
      · rename_i h
        subst h
        simp
      · rw [List.mem_cons, insU_mem a r k, List.mem_cons]
        constructor
        · rintro (h | h | h)
          · exact .inr (.inl h)
          · exact .inl h
          · exact .inr (.inr h)
        · rintro (h | h | h)
          · exact .inr (.inl h)
          · exact .inl h
          · exact .inr (.inr h)
theorem uniI_mem : ∀ (l : List Int) (k : Int), k ∈ uniI l ↔ k ∈ l
  | [], k => Iff.rfl
  | a :: r, k => by rw [uniI, insU_mem, uniI_mem r, List.mem_cons]
theorem insU_pw (a : Int) : ∀ {l : List Int}, l.Pairwise (· < ·) → (insU a l).Pairwise (· < ·)
  | [], _ => List.pairwise_singleton _ _
  | b :: r, h => by
    obtain ⟨h1, h2⟩ := List.pairwise_cons.mp h  -- gw
    unfold insU
    split
    · rename_i hab
      refine List.pairwise_cons.mpr ⟨fun c hc => ?_, h⟩
      rcases List.mem_cons.mp hc with rfl | hc  -- gw
      · exact hab
      · exact Int.lt_trans hab (h1 c hc)
    · split
      · exact h
      · refine List.pairwise_cons.mpr ⟨fun c hc => ?_, insU_pw a h2⟩
        rcases (insU_mem a r c).mp hc with rfl | hc
        · omega
        · exact h1 c hc
theorem uniI_pw : ∀ l : List Int, (uniI l).Pairwise (· < ·)
  | [] => .nil
  | a :: r => insU_pw a (uniI_pw r)
theorem lt_uniq : ∀ {l m : List Int}, (∀ k, k ∈ l ↔ k ∈ m) → l.Pairwise (· < ·) → m.Pairwise (· < ·) → l = m
  | [], [], _, _, _ => rfl
  | [], b :: m, p, _, _ => absurd ((p b).mpr List.mem_cons_self) (List.not_mem_nil)
  | a :: l, [], p, _, _ => absurd ((p a).mp List.mem_cons_self) (List.not_mem_nil)
  | a :: l, b :: m, p, h1, h2 => by
    obtain ⟨q1, q2⟩ := List.pairwise_cons.mp h1
    obtain ⟨q3, q4⟩ := List.pairwise_cons.mp h2
    have e : a = b := by
      have u1 := (p a).mp List.mem_cons_self
      have u2 := (p b).mpr List.mem_cons_self
      rcases List.mem_cons.mp u1 with z | z
      · exact z
      · rcases List.mem_cons.mp u2 with y | y
        · exact y.symm
        · have := q3 a z
          have := q1 b y
          omega
    subst e
    rw [lt_uniq (fun k => ?_) q2 q4]
    constructor
    · intro h
      rcases List.mem_cons.mp ((p k).mp (List.mem_cons_of_mem _ h)) with z | z
      · have := q1 k h; omega
      · exact z
    · intro h
      rcases List.mem_cons.mp ((p k).mpr (List.mem_cons_of_mem _ h)) with z | z
      · have := q3 k h; omega
      · exact z
theorem sset_boot : bootBuiltins ("set" : Str) = some (.type "set") ∧ ("set" : Str) ∈ bnames ∧ ("set" : Str) ≠ "__name__" ∧ (("set" : Str) == ("__debug__" : Str)) = false ∧ bootBuiltins ("sorted" : Str) = some (.builtin "sorted") ∧ ("sorted" : Str) ∈ bnames ∧ ("sorted" : Str) ≠ "__name__" ∧ (("sorted" : Str) == ("__debug__" : Str)) = false := by decide +kernel
theorem se_sset {x y : Str} {p p2 pos pos2 : Pos} (xo : XOk T G XR n N sc W X) (hg : glB sc x = true) (hx : x = "sorted") (hg2 : glB sc y = true) (hy : y = "set") (hp : plainE ea = true) (h : SP T n XR X W ia ea) :
    SE T n XR X W (.sset ia) (.Call (.Name x p) [.Call (.Name y p2) [ea] [] pos2] [] pos) := by
  intro args σ ρ H Q f P
  subst hx hy
  obtain ⟨b1, b2, b3, b4, c1, c2, c3, c4⟩ := sset_boot
  have p1 : PE X (.Call (.Name "set" p2) [ea] [] pos2) _ := pe_callTy (cr_setLI xo.calm) (gl_of xo.sc hg2) (xo.g.blt _ b2) b1 (pa_cons WE.pe pa_nil (star_plain hp)) b3 b4 (star_plain hp) rfl
  refine WE.of (pe_callB (cr_srtSet xo.calm) (gl_of xo.sc hg) (xo.g.blt _ c2) c1 (pa_cons p1 pa_nil rfl) c3 c4 rfl rfl) (h args σ ρ H _ f (PostG.bind P fun av ρ1 _ P1 => fun v H1 g w => ?_))
  obtain ⟨o, e, k⟩ := PostG.ofO P1
  obtain ⟨o1, e1, e⟩ := Option.bind_eq_some_iff.mp e
  obtain ⟨ns, e2, e⟩ := Option.bind_eq_some_iff.mp e
  obtain ⟨ds, e3, e4⟩ := Option.bind_eq_some_iff.mp e2
  split at e
  · rename_i hl
    cases e
    obtain ⟨a, vs, rfl, hq, r⟩ := litems_of (w.val g.fr e1) e3
    rw [ints_of e4 r] at hq
    refine ⟨a, ns, rfl, hq, hl, fun q c hn => ?_⟩
    refine ⟨q, _, c, rfl, upd_same, fun ms p3 pw hm hn2 => ?_⟩
    have em : ms = uniI ns := lt_uniq (fun k => by rw [hm k, uniI_mem, decide_eq_true_eq]) pw (uniI_pw ns)
    subst em
    have y : Yld X.K H1 (.ls ((uniI ns).map PyData.int)) Q := fun v H' kp w fr => k v H' (g.yld kp fr) w
    have hne : p3 ≠ q := fun z => by rw [z, upd_same] at hn2; cases hn2
    have k1 : Kp (fun _ => False) H1 (upd H1 q (SetO X.w q (fun j => decide (j ∈ ns)) c)) := Kp.new hn
    have k2 : Kp (fun _ => False) (upd H1 q (SetO X.w q (fun j => decide (j ∈ ns)) c)) (upd (upd H1 q (SetO X.w q (fun j => decide (j ∈ ns)) c)) p3 (.lst ((uniI ns).map V.int))) := Kp.new hn2
    refine y _ _ (k1.trans k2 fun c z => z.elim) ⟨p3, _, rfl, upd_same, rpa_ints _⟩ fun a f => ?_
    obtain ⟨_, e⟩ := f
    cases e
    exact k1.free hn2
  · cases e
theorem sup_base {x : Expr} {m : Str} {env : Env} (h : noSup x = true) : attributeBase x m env (eval x env) = eval x env := by
  unfold attributeBase
  split
  · rename_i id _ _
    have h : (!(id == ("super" : Str))) = true := h
    have : (id != ("super" : Str)) = true := h
    simp only [this, Bool.true_or, if_true]
  · rfl
theorem strs_of {K : PySem.W.Frag} {H : Hp} : ∀ {ds : List D} {ns : List Str} {vs : List V}, strsF ds = some ns → RpA K H vs ds → vs = ns.map V.str
  | [], _, _, e, .nil => by cases e; rfl
  | .str i :: r, ns, _, e, .cons h t => by
    cases h
    unfold strsF at e
    cases q : strsF r with
    | none => rw [q] at e; cases e  -- gw
    | some ms =>
      rw [q] at e
      cases e
      rw [strs_of q t, List.map_cons]
theorem idx_first : ∀ {ys : List Str} {z : Str}, z ∈ ys → ys[ys.idxOf z]? = some z ∧ ∀ m, m < ys.idxOf z → ∀ z', ys[m]? = some z' → (z' == z) = false
  | [], _, h => absurd h List.not_mem_nil  -- gw
  | y :: ys, z, h => by
    rw [List.idxOf_cons]
    by_cases q : y = z
    · subst q
      simp
    · have hb : (y == z) = false := by simpa using q
      rw [hb, cond_false]
      have hm : z ∈ ys := (List.mem_cons.mp h).elim (fun e => absurd e.symm q) id
      obtain ⟨h1, h2⟩ := idx_first hm
      refine ⟨by simpa using h1, fun m hm z' e => ?_⟩
      cases m with
      | zero =>
        have : y = z' := by simpa using e
        subst this
        exact hb
      | succ m => exact h2 m (by omega) z' (by simpa using e)
theorem se_idx {m : Str} {apos cpos : Pos} (xo : XOk T G XR n N sc W X) (hm : m = "index") (hl : (apos.endLine == cpos.line) = true) (hs : noSup ea = true) (hp : plainE eb = true) (ha : SP T n XR X W ia ea) (hb : SP T n XR X W ib eb) :
    SE T n XR X W (.idx ia ib) (.Call (.Attribute ea m apos) [eb] [] cpos) := by
  intro args σ ρ H Q f P
  subst hm
  refine WE.of (pe_bm PySem.F.plainAttrs_list PySem.F.slot_list_index PySem.F.type_list_index mt_index WE.pe (pa_cons WE.pe pa_nil (star_plain hp)) (sup_base hs) (by rw [star_plain hp]; rfl) hl (star_plain hp) rfl) (ha args σ ρ H _ f (PostG.bind P fun av ρ1 _ P1 => fun x H1 g1 w1 => ?_))
  cases hv : (av.val ρ1).bind litems with
  | none => rw [hv] at P1; exact P1.elim
  | some es =>
    rw [hv] at P1
    have P1 : PostG X.K args XR W σ ρ H ((prep ib (ev (callN T n) ib) ρ1).bind fun y ρ2 => ofO ((av.val ρ2).bind fun p => (y.val ρ2).bind fun q => idxF p q) ρ2) _ := P1
    obtain ⟨o0, e1, e2⟩ := Option.bind_eq_some_iff.mp hv
    obtain ⟨a0, vs0, rfl, hq0, _⟩ := litems_of (w1.val g1.fr e1) e2
    refine ⟨.inl ⟨rfl, vs0, hq0⟩, ?_⟩
    refine hb args σ ρ1 H1 _ g1.fr (PostG.bind' g1 P1 fun aw ρ2 he2 P2 => fun y H2 g2 w2 => ?_)
    have g3 := g1.trans2 g2 fun c z => Fav.there z w1
    have w1' := w1.keep g2.kp fun a z q => g1.dis a z q
    obtain ⟨o, e, k⟩ := PostG.ofO P2
    obtain ⟨p, e3, e⟩ := Option.bind_eq_some_iff.mp e
    obtain ⟨q, e4, e⟩ := Option.bind_eq_some_iff.mp e
    have v1 := w1'.val g3.fr e3
    have v2 := w2.val g3.fr e4
    unfold idxF at e
    split at e
    · rename_i z
      have ey := str_of v2
      subst ey
      obtain ⟨ys, e5, e⟩ := Option.bind_eq_some_iff.mp e
      obtain ⟨ds, e6, e7⟩ := Option.bind_eq_some_iff.mp e5
      obtain ⟨a, vs, e8, hq, r⟩ := litems_of v1 e6
      cases e8
      split at e
      · rename_i hz
        cases e
        have hz := of_decide_eq_true hz
        obtain ⟨f1, f2⟩ := idx_first hz
        rw [strs_of e7 r] at hq
        refine ⟨a0, ys.map V.str, .str z, ys.idxOf z, .str z, rfl, rfl, hq, rfl, ?_, by rw [List.getElem?_map, f1]; rfl, ?_, fun m z' hm hz' => ?_, k _ H2 (noF g3) (.int _)⟩
        · rw [List.all_map]; exact List.all_eq_true.mpr fun _ _ => rfl
        · show (z == z) = true
          exact beq_self_eq_true z
        · rw [List.getElem?_map] at hz'
          obtain ⟨y, ey, rfl⟩ := Option.map_eq_some_iff.mp hz'
          exact f2 m hm y ey
      · cases e
    · cases e
/-! ### a row of texts that a def tells, and the place of one in it -/
def tyX (x : V) (H : Hp) : Prop := ∃ a o xs, x = .ref a ∧ H a = some (.frz o (.tup xs)) ∧ o.cls = .type "tuple" ∧ o.dict = none
theorem tyX_is {pins : List (Addr × Obj)} {σ : St} {H : Hp} {s : Shared} {x : V} {v : Value} (I : L2.Inv X pins σ H s) (r : RelV x v) (ty : tyX x H) : s.TypeIs v "tuple" ∧ ∀ a, v = .ref a → ∃ ob, s.heap.get? a = some ob ∧ ob.dict = none := by
  obtain ⟨a, o, xs, rfl, h, hc, hd⟩ := ty
  obtain rfl : v = Value.ref a := r
  have e := (I.hok a _ h).1
  exact ⟨⟨o, e, hc⟩, fun b hb => by cases hb; exact ⟨o, e, hd⟩⟩
theorem pe_bmX {o e : Expr} {name : Str} {apos cpos : Pos} {id : String} {r : V → List V → Hp → VK → Prop} {to te : TE} (pa : PlainAttrs "tuple") (slot : Slot "tuple" name id) (hty : typeOf (.builtin id) = pure (.type "method_descriptor")) (hm : MtR X id r) (ho : PE X o to) (he : PE X e te) (hp : plainE e = true)
    (hbase : attributeBase o name X.env (eval o X.env) = eval o X.env) (hline : (apos.endLine == cpos.line) = true) :
    PE X (.Call (.Attribute o name apos) [e] [] cpos) (fun σ H Q => to σ H fun x H1 => tyX x H1 ∧ te σ H1 fun y H2 => r x [y] H2 Q) := by
  have hs : starEach [e] X.env = (false, eval e X.env) :: starEach [] X.env := star_plain hp
  refine ⟨fun pins s σ H Q I h => ?_⟩  -- gw
  refine wpAny_Call_method_late hbase (by rw [hs]; rfl) hline rfl (thn (ho.run pins s σ H _ I h) fun v s1 ⟨x, H1, I1, r1, ty, q1⟩ => ?_)
  obtain ⟨h1, h2⟩ := tyX_is I1 r1 ty
  refine ⟨"tuple", id, pa, slot, hty, h1, h2, ?_⟩
  have ha : PA X [e] (tCons te tNil) := pa_cons he pa_nil hs
  have q1 : tCons te tNil σ H1 (fun vs H2 => r x vs H2 Q) := q1
  have hA := ha.run cpos pins s1 σ H1 _ I1 q1  -- gw
  rw [hs] at hA ⊢
  refine Calls.callWith_builtin rfl (Calls.evalArgs_plain ?_)
  exact thn hA fun us s2 ⟨vs, H2, I2, r2, q2⟩ => hm pins s2 σ H2 x vs v us Q I2 r1 r2 q2  -- gw
theorem se_fidx {f : Nat} {ys : List Str} {x m : Str} {p p2 apos cpos : Pos} {d : Df} (xo : XOk T G XR n N sc W X) (hm : m = "index") (hl : (apos.endLine == cpos.line) = true) (hp : plainE ea = true) (hg : glB sc x = true) (hdb : (x == ("__debug__" : Str)) = false) (hsu : (x == ("super" : Str)) = false) (hf : T[f]? = some d) (hx : d.name = x) (hnp : d.np = 0) (hys : strBody d.body = some ys) (ha : SP T n XR X W ia ea) :
    SE T n XR X W (.fidx f ys ia) (.Call (.Attribute (.Call (.Name x p) [] [] p2) m apos) [ea] [] cpos) := by
  intro args σ ρ H Q fr P
  subst hm
  have hn : 0 < n := by
    cases n with
    | zero => exact (show False from P).elim
    | succ n => omega
  obtain ⟨fa, fd, hmg, hk, hb, F⟩ := xo.g.txs f d ys hf hnp hys hn
  rw [hx] at hmg
  have ho : PE X (.Call (.Name x p) [] [] p2) (fun σ H Q => ∀ (H1 : Hp) (pr : Addr) (o : Obj), Kp (fun _ => False) H H1 → H1 pr = none → o.dict = none → o.cls = .type "tuple" → Q (.ref pr) (upd H1 pr (.frz o (.tup (ys.map V.str))))) := by
    refine ⟨fun pins s σ H Q I h => ?_⟩  -- gw
    refine wpAny_Call_Name_kw (ld_glob I (gl_of xo.sc hg) hmg ?_ hdb)
    exact PySem.W.callWith_K0 (first := []) I.kIn hk (run_g (us := []) (vs := []) F xo.rm xo.gd hb xo.tk I .nil ⟨rfl, h⟩)
  refine WE.of (pe_bmX PySem.F.plainAttrs_tuple PySem.F.slot_tuple_index PySem.F.type_tuple_index mt_tup_index ho WE.pe hp (sup_base (x := .Call (.Name x p) [] [] p2) (by show (!(x == ("super" : Str))) = true; rw [hsu]; rfl)) hl) ?_
  intro H1 pr o kp hnone hdict hcls
  have P : PostG X.K args XR W σ ρ H (match callN T n f [] with | .ok _ _ => (prep ia (ev (callN T n) ia) ρ).bind fun y ρ1 => ofO ((y.val ρ1).bind (idxS ys)) ρ1 | _ => .bad) _ := P
  cases hc : callN T n f [] with
  | bad => rw [hc] at P; exact P.elim
  | ex _ _ => rw [hc] at P; exact P.elim
  | ok v ps =>
    rw [hc] at P
    have P : PostG X.K args XR W σ ρ H ((prep ia (ev (callN T n) ia) ρ).bind fun y ρ1 => ofO ((y.val ρ1).bind (idxS ys)) ρ1) _ := P
    have g1 : Got X.K args σ ρ H σ ρ H1 (fun _ => False) := ((Got.refl fr).yld (v := .non) (o := .fz .none) kp fun a z => nomatch z.1).drop fun c z => z.elim
    have g0 : Got X.K args σ ρ H σ ρ (upd H1 pr (.frz o (.tup (ys.map V.str)))) (fun c => c = pr) := g1.new hnone
    refine ⟨⟨pr, o, _, rfl, upd_same, hcls, hdict⟩, ?_⟩
    refine ha args σ ρ _ _ g0.fr (PostG.bind' g0 P fun aw ρ2 he2 P2 => fun y H2 g2 w2 => ?_)
    have g3 := g0.trans2 g2 fun c z => by rw [z, upd_same]; exact fun z => nomatch z
    obtain ⟨r, e, k⟩ := PostG.ofO P2
    obtain ⟨q, e4, e⟩ := Option.bind_eq_some_iff.mp e
    have v2 := w2.val g3.fr e4
    unfold idxS at e
    split at e
    · rename_i z
      have ey := str_of v2
      subst ey
      split at e
      · rename_i hz
        cases e
        have hz := of_decide_eq_true hz
        obtain ⟨f1, f2⟩ := idx_first hz
        have hq : SqT X.K H2 pr (ys.map V.str) := .inl (.inr ⟨o, g2.kp.still _ _ upd_same trivial⟩)
        refine ⟨pr, ys, z, ys.idxOf z, rfl, rfl, hq, f1, fun m hm hz' => ?_, k _ H2 (noF g3) (.int _)⟩
        have := f2 m hm z hz'
        rw [beq_self_eq_true] at this
        cases this
      · cases e
    · cases e
end
end GW

/-! GW, part 10c: len(set(list of texts)); a tuple turned round. -/
namespace GW
open PySem PySem.Spec PyProof.Rows L2  -- gw
/-! ### a set of texts -/
theorem putS_len (l : List Str) (v : Str) : (putS l v).length = if l.any (· == v) then l.length else l.length + 1 := by
  unfold putS; split <;> simp
theorem putS_any (l : List Str) (v k : Str) : (putS l v).any (· == k) = (l.any (· == k) || decide (k = v)) := by
  have e1 : (v == k) = decide (k = v) := by
    rw [Bool.eq_iff_iff, beq_iff_eq, decide_eq_true_eq]; exact eq_comm
  unfold putS
  cases q : l.any (· == v) with
  | false =>
    rw [if_neg Bool.false_ne_true, List.any_append, ← e1]
    simp
  | true =>
    rw [if_pos rfl]
    by_cases z : k = v
    · rw [z, q]; rfl
    · rw [decide_eq_false z, Bool.or_false]
theorem ded_len : ∀ (ns acc : List Str), (ns.foldl putS acc).length ≤ acc.length + ns.length
  | [], acc => Nat.le_refl _
  | z :: ns, acc => by
    have h1 := ded_len ns (putS acc z)
    have h2 : (putS acc z).length ≤ acc.length + 1 := by rw [putS_len]; split <;> omega
    rw [List.foldl_cons, List.length_cons]; omega
/-- a set that holds these texts, each once -/
abbrev HoldsS (P : Program) (w : World) (a : Addr) (l : List Str) (h : Heap) : Prop := h.SetOf (PySem.strKind P w) a (fun k => l.any (· == k)) l.length
section
variable {P : Program} {w : World} {A : Around} {E : Value → Shared → Prop} {s : Shared} {R : Result → Shared → Prop} {I S : Addr} {fp wr : List Addr} {G : Array GenState → Array GenState → Prop} {n : Nat} {Pv : Nat → Value → Prop} {St : Nat → Shared → Prop}
theorem HoldsS.at {a : Addr} {l : List Str} {h h' : Heap} (x : HoldsS P w a l h) (k : ∀ o, h.get? a = some o → h'.get? a = some o) : HoldsS P w a l h' :=
  let ⟨o, es, ep, t, ho, r⟩ := x
  ⟨o, es, ep, t, k o ho, r⟩
/-- a turn of the loop -/
theorem upd_turn (h : wpAny (model P w) A.in1 (pyNext (.ref I)) (fun x s' => match x with
    | none => R (.ok (.ret .none)) s'
    | some v => wpAny (model P w) A.in1 (setAdd S v) (fun _ s2 => codeAny (model P w) A (.builtin "set.update.loop" ⟨[.ref S, .ref I], []⟩) R s2) (fun e s2 => R (.error e) s2) s') (fun e s' => R (.error e) s') s) :
    codeAny (model P w) A (.builtin "set.update.loop" ⟨[.ref S, .ref I], []⟩) R s := by  -- gw
  refine codeAny_builtin F.entry_set_update_loop ?_; rw [Around.under_plainId F.plain_set_update_loop _]; refine wpAny_bind (thn h fun x s' q => ?_)
  cases x with
  | none => exact wpAny_pure q
  | some v => exact wpAny_bind (wpAny_holding (thn q fun _ s2 q2 => wpAny_pure ⟨plainId_quiet F.plain_set_update_loop _, q2⟩))
/-- the rest of the texts is put in -/
theorem upd_strs (W : WalksS P w A.in1 I fp wr G n Pv St) (hf : S ∉ fp) (hb : n + 1 < scanBound) : ∀ (rest acc : List Str) (i : Nat) (s : Shared), i + rest.length = n → acc.length ≤ i → (∀ (j : Nat) (z : Str), rest[j]? = some z → ∀ v, Pv (i + j) v → ∃ t, v = .str z t) → St i s →
      HoldsS P w S acc s.heap → (∀ s', Moved (S :: wr) G s s' → HoldsS P w S (rest.foldl putS acc) s'.heap → R (.ok (.ret .none)) s') → codeAny (model P w) A (.builtin "set.update.loop" ⟨[.ref S, .ref I], []⟩) R s
  | [], acc, i, s, hi, hl, hv, st, hS, k => by
    obtain rfl : i = n := by simpa using hi
    exact upd_turn (W.done s _ _ st fun s' m => k s' (m.mono fun b hb => List.mem_cons_of_mem _ hb) (hS.at fun o e => m.heap S o (fun z => hf (W.sub _ z)) e))
  | z :: rest, acc, i, s, hi, hl, hv, st, hS, k => by
    rw [List.length_cons] at hi
    refine upd_turn (W.item i s _ _ (by omega) st fun v s1 pv st1 m1 => ?_)
    obtain ⟨t, rfl⟩ := hv 0 z rfl v pv
    have hS1 := hS.at fun o e => m1.heap S o (fun z => hf (W.sub _ z)) e
    have out : ∀ b, b ∈ fp → b ≠ S := fun b hb e => hf (e ▸ hb)
    refine wpAny_holding (wpAny_bind ((PySem.strKind P w).pyHash (k := z) (strKind_is _ _ _ _) ?_))
    refine wpAny_setAddHashed_of (knd := PySem.strKind P w) (s := { s1 with toks := s1.toks + 1 }) (strKind_is _ _ _ _) rfl hS1 (by omega) fun h2 sb hS2 => ?_
    have hS3 : HoldsS P w S (putS acc z) h2 := SetOf_congr hS2 (fun k => (putS_any acc z k).symm) (putS_len acc z).symm
    have ml : (putS acc z).length ≤ i + 1 := by rw [putS_len]; split <;> omega
    exact upd_strs W hf hb rest (putS acc z) (i + 1) _ (by omega) ml (fun j y hy v hp => hv (j + 1) y (by simpa using hy) v (by rw [show i + (j + 1) = i + 1 + j by omega]; exact hp)) (W.frame _ s1 _ _ st1 (Nat.le_succ _) fun b hb o e => (sb.2 b (out b hb)).trans e) hS3 fun s2 m2 hS4 => k s2 (Moved.trans W.gtrans ((m1.mono fun b hb => List.mem_cons_of_mem _ hb).then_heap (Nat.le_succ _) fun b o hb e => (sb.2 b fun q => hb (q ▸ List.mem_cons_self)).trans e) m2) hS4
theorem set_strs {l : Addr} {xs : Array Value} {ns : List Str} {Q : Value → Shared → Prop} (hh : A.handled = none) (hl : s.heap.IsList l xs) (hx : Vals (ns.map V.str) xs.toList) (hb : ns.length + 1 < scanBound)
    (h : ∀ (h2 : Heap) (tk : Nat), HoldsS P w s.heap.objs.size (dedS ns) h2 → (∀ b o, s.heap.get? b = some o → h2.get? b = some o) → Q (.ref s.heap.objs.size) { s with heap := h2, toks := tk }) :
    wpAny (model P w) A (call (.type "set") [.ref l]) Q E s := by  -- gw
  have hsz : xs.size = ns.length := by
    have := hx.length
    rw [List.length_map, Array.length_toList] at this
    exact this.symm
  refine set_gen (HoldsS P w s.heap.objs.size (dedS ns)) hh hl (fun W hf h0 hs hR => ?_) h
  refine upd_strs W hf (by omega) ns [] 0 _ (by omega) (Nat.le_refl _) (fun j z hz v hv => ?_) h0 ?_ hR
  · have hv : xs[0 + j]? = some v := hv
    rw [Nat.zero_add, ← Array.getElem?_toList] at hv
    obtain ⟨u, e, r⟩ := hx.get (show (ns.map V.str)[j]? = some (V.str z) by rw [List.getElem?_map, hz]; rfl)
    rw [hv] at e
    cases e
    exact r
  · exact SetOf_congr ((setObjOf_fresh (knd := PySem.strKind P w) _).setOf hs (by unfold scanBound; omega)) (fun _ => rfl) rfl
end
section
variable {X : Cx}
def tLsetS (K : PySem.W.Frag) (ta : TE) : TE := fun σ H Q => ta σ H fun x H1 => ∃ (l : Addr) (ns : List Str), x = V.ref l ∧ SqL K H1 l (ns.map V.str) ∧ ns.length + 1 < 4096 ∧ Q (.int (dedS ns).length) H1
theorem pe_lsetS {a : Expr} {ta : TE} {p p2 q pos : Pos} (hc : X.calm = true) (hg : Gl X "len") (hm : X.mg "len" = none) (hg2 : Gl X "set") (hm2 : X.mg "set" = none) (ha : PE X a ta)
    (na : starEach [a] X.env = (false, eval a X.env) :: starEach [] X.env) : PE X (.Call (.Name "len" p) [.Call (.Name "set" p2) [a] [] q] [] pos) (tLsetS X.K ta) := by
  refine ⟨fun pins s σ H Q I h => ?_⟩  -- gw
  refine Call_ (ld_blt I hg hm PySem.boot_len ?_)  -- gw
  refine callWith_builtin1 (args_cons ?_ rfl) rfl rfl
  refine Call_ (ld_blt I hg2 hm2 boot_set ?_)  -- gw
  refine callWith_type1 (args_cons (thn (ha.run pins s σ H _ I h) fun v s1 ⟨x, H1, I1, r1, q1⟩ => args_nil ?_) na) na rfl
  obtain ⟨l, ns, rfl, hq, h1, q1⟩ := q1
  cases r1
  obtain ⟨its, r, pl, hz⟩ := I1.list hq  -- gw
  refine set_strs (I1.ok.hd hc) pl.isList (ns := ns) (by simpa using r) (by unfold scanBound; omega) fun h' tk hS hk => args_nil ?_
  obtain ⟨o, es, ep, t, ho, hex, hd, _, _, _, hf, hn⟩ := hS  -- gw
  have I2 : Inv X pins σ H1 { s1 with heap := h', toks := tk } := I1.kept hk  -- gw
  have hle : (dedS ns).length ≤ 0 + ns.length := ded_len ns []
  refine call_len_set ho hex hd hf (by rw [hn] <;> omega) ⟨.int (dedS ns).length, H1, I2.tok _, ⟨_, by rw [hn]⟩, q1⟩
end
section
variable {T : List Df} {G : List (Str × D)} {n : Nat} {XR : XRT} {N : List Str} {X : Cx} {W : WX} {ia ib ie : IE} {ea eb e : Expr} {sc : Scope}
theorem se_lset {x y : Str} {p p2 pos pos2 : Pos} (xo : XOk T G XR n N sc W X) (hg : glB sc x = true) (hx : x = "len") (hg2 : glB sc y = true) (hy : y = "set") (hp : plainE ea = true) (h : SP T n XR X W ia ea) :
    SE T n XR X W (.lset ia) (.Call (.Name x p) [.Call (.Name y p2) [ea] [] pos2] [] pos) := by
  intro args σ ρ H Q f P
  subst hx hy
  refine WE.of (pe_lsetS xo.calm (gl_of xo.sc hg) (xo.g.blt _ (by decide)) (gl_of xo.sc hg2) (xo.g.blt _ (by decide)) WE.pe (star_plain hp)) (h args σ ρ H _ f (PostG.bind P fun av ρ1 _ P1 => fun v H1 g w => ?_))
  obtain ⟨o, e, k⟩ := PostG.ofO P1
  obtain ⟨o1, e1, e⟩ := Option.bind_eq_some_iff.mp e
  obtain ⟨ns, e2, e⟩ := Option.bind_eq_some_iff.mp e
  obtain ⟨ds, e3, e4⟩ := Option.bind_eq_some_iff.mp e2
  split at e
  · rename_i hl
    cases e
    obtain ⟨a, vs, rfl, hq, r⟩ := litems_of (w.val g.fr e1) e3
    rw [strs_of e4 r] at hq
    exact ⟨a, ns, rfl, hq, hl, k _ H1 (noF g) (.int _)⟩
  · cases e
end
/-! ### a tuple turned round -/
section
variable {prog : Program} {w : World} {A : Around} {E : Value → Shared → Prop} {s : Shared}  -- gw
theorem sliceApplied_rev {sl : Addr} {vs : Value} {n : Nat} {Q : Int × Int × Nat → Shared → Prop} (hs : s.heap.IsSliceOf sl .none .none vs) (pl : IsPart vs (some (-1))) (h : Q ((n : Int) - 1, -1, n) s) :
    wpAny (model prog w) A (Builtin.Slice.sliceApplied (.ref sl) (pure (n : Int))) Q E s := by  -- gw
  obtain ⟨os, hos, hcs, hds⟩ := id hs  -- gw
  unfold Builtin.Slice.sliceApplied Builtin.Slice.sliceFields  -- gw
  refine wpAny_bind (wpAny_bind (wpAny_field hos hds (x := .none) rfl (wpAny_bind (wpAny_field hos hds (x := .none) rfl (wpAny_bind (wpAny_field hos hds (x := vs) rfl (wpAny_pure ?_)))))))
  refine wpAny_bind (HT.slicePart_ pl ?_)
  show wpAny _ _ (if ((-1 : Int) == 0) = true then _ else _) _ _ s
  rw [if_neg (by decide)]
  refine wpAny_bind (slicePart_none (wpAny_bind (slicePart_none (wpAny_bind (wpAny_pure ?_)))))
  have e : Builtin.Slice.slicePlaces ((n : Int) - 1) (-1) (-1) = n := by
    unfold Builtin.Slice.slicePlaces  -- gw
    rw [if_neg (by decide)]
    split
    · have : ((n : Int) - 1 - -1 - 1) / -(-1) = (n : Int) - 1 := by
        rw [show (-(-1) : Int) = 1 from rfl, Int.ediv_one]; omega
      rw [this]; omega
    · omega
  show wpAny _ _ (pure ((n : Int) - 1, (-1 : Int), Builtin.Slice.slicePlaces ((n : Int) - 1) (-1) (-1))) _ _ s
  rw [e]
  exact wpAny_pure h
theorem fmap_some {α β : Type} {f : α → Option β} {g : α → β} : ∀ {l : List α}, (∀ m ∈ l, f m = some (g m)) → l.filterMap f = l.map g
  | [], _ => rfl
  | a :: r, h => by rw [List.filterMap_cons_some (h a List.mem_cons_self), fmap_some fun m hm => h m (List.mem_cons_of_mem _ hm), List.map_cons]
theorem pick_rev (xs : Array Value) : ((List.range xs.size).filterMap fun (m : Nat) => xs[(((xs.size : Nat) : Int) - 1 + (m : Int) * -1).toNat]?).toArray = xs.toList.reverse.toArray := by
  congr 1
  have e : ∀ m ∈ List.range xs.size, (xs[(((xs.size : Nat) : Int) - 1 + (m : Int) * -1).toNat]?) = some (xs.toList.reverse.getD m .none) := fun m hm => by
    have hm := List.mem_range.mp hm
    have : (((xs.size : Nat) : Int) - 1 + (m : Int) * -1).toNat = xs.size - 1 - m := by omega
    rw [this, List.getD_eq_getElem?_getD, List.getElem?_reverse (by simpa using hm), Array.length_toList, ← Array.getElem?_toList, List.getElem?_eq_getElem (by rw [Array.length_toList]; omega)]
    rfl
  rw [fmap_some e]
  refine List.ext_getElem ?_ fun i h1 h2 => ?_
  · simp
  · have h2' : i < xs.toList.reverse.length := h2
    simp only [List.getElem_map, List.getElem_range, List.getD_eq_getElem?_getD]
    rw [List.getElem?_eq_getElem h2']
    rfl
theorem getItem_tup_rev {t sl : Addr} {items : Array Value} {vs : Value} {Q : Value → Shared → Prop} (ht : IsTup s.heap t items) (hs : s.heap.IsSliceOf sl .none .none vs) (pl : IsPart vs (some (-1)))
    (h : Q (.ref s.heap.objs.size) { s with heap := s.heap.push { cls := .type "tuple", data := .seq items.toList.reverse.toArray } }) (hsz : items.size ≤ sizeLine) : wpAny (model prog w) A (getItem (.ref t) (.ref sl)) Q E s := by
  have fit : sizeOk (.seq items.toList.reverse.toArray) := by show items.toList.reverse.toArray.size ≤ sizeLine; simpa using hsz
  have ty : s.TypeIs (.ref sl) "slice" := let ⟨os, a, b, _⟩ := id hs; ⟨os, a, b⟩
  have body : wpAny (model prog w) A.in1 (Builtin.«tuple.__getitem__» ⟨[.ref t, .ref sl], []⟩) (fun fin s' => ∃ v, fin = .done (.ret v) ∧ Q v s') E s := by
    show wpAny _ _ (Builtin.Tuple.tupleItemsOf (.ref t) >>= _) _ _ s  -- gw
    refine wpAny_bind (tupleItemsOf_ ht (wpAny_bind (wpAny_typeOf ty ?_)))
    rw [if_pos (by decide)]
    refine wpAny_bind (sliceApplied_rev hs pl ?_)
    show wpAny _ _ (if (((items.size : Nat) : Int) - 1 == 0 && (-1 : Int) == 1 && items.size == items.size) = true then _ else _) _ _ s
    rw [if_neg (by simp), pick_rev]
    exact wpAny_bind (m := Builtin.Tuple.tupleExact _) (wpAny_newObj_type (wpAny_pure ⟨_, rfl, h⟩) fit)
  unfold getItem
  refine wpAny_holding (wpAny_bind (wpAny_sequenceKey ht.typeIs (by decide) ?_))
  exact wpAny_bind (wpAny_callSpecial?_slot (name := Str.ofString "__getitem__") ht.typeIs slot_tuple_getitem (wpAny_call_entry slot_tuple_getitem ht.typeIs entry_tuple_getitem (thn body fun f s' ⟨v, e, q⟩ => ⟨v, e, wpAny_pure q⟩) (args_tuple_getitem _ _)))
end
section
variable {X : Cx}
def tRevT (K : PySem.W.Frag) (te : TE) : TE := fun σ H Q => te σ H fun x H1 => ∃ (a : Addr) (xs : List V), x = .ref a ∧ SqT K H1 a xs ∧ ∀ p, H1 p = none → Q (.ref p) (upd H1 p (.tup xs.reverse))
theorem pe_revT {e : Expr} {te : TE} {k : Nat} {p1 p3 p2 pos : Pos} (he : PE X e te) : PE X (.Subscript e (.Slice none none (some (.UnaryOp .USub (.Constant (.int 1) k p1) p3)) p2) pos) (tRevT X.K te) := by
  refine ⟨fun pins s σ H Q I h => ?_⟩  -- gw
  refine Subscript_ (thn (he.run pins s σ H _ I h) fun v s1 ⟨x, H1, I1, r1, q1⟩ => ?_)  -- gw
  obtain ⟨a, xs, rfl, hx, q⟩ := q1
  have hp : PO X (some (.UnaryOp .USub (.Constant (.int 1) k p1) p3)) _ := po_some (pe_un un_neg pe_int)
  refine wpAny_Slice ?_
  rw [evalPart_none]
  refine wpAny_pure (wpAny_pure ?_)  -- gw
  refine thn (hp.run pins s1 σ H1 (fun o H2 => o = some (-1) ∧ H2 = H1) I1 ⟨1, rfl, _, rfl, rfl, rfl⟩) fun vs s2 ⟨o, H2, I2, pl, e1, e2⟩ => ?_
  subst e1 e2
  have I4 : Inv X pins σ H2 { s2 with heap := s2.heap.push { cls := .type "slice", data := .fields #[.none, .none, vs] } } := I2.kept (t' := s2.toks) fun b ob q => Heap.get?_push_of_some _ q
  cases r1
  obtain ⟨its, r, ht, hz⟩ := I4.tuple hx
  refine tail_any (ops := [.ref a, .ref s2.heap.objs.size]) ht.typeIs slot_tuple_getitem.lookup ?_ (by with_unfolding_all rfl)
  have hlen : its.toArray.size = xs.length := by rw [List.size_toArray]; exact r.length.symm  -- gw
  refine getItem_tup_rev ht (Heap.IsSliceOf.new ..) pl ?_ (by rw [hlen]; exact hz)
  refine ⟨.ref (s2.heap.push { cls := .type "slice", data := .fields #[.none, .none, vs] }).objs.size, _, I4.laid (o := .tup xs.reverse) (fun b ob q => Heap.get?_push_of_some _ q) (Nat.le_refl _) ?_, rfl, q _ (I4.hok.fresh (Nat.le_refl _))⟩
  exact ⟨by rw [List.length_reverse]; exact hz, _, r.reverse, IsTup.new _ _⟩
end
theorem rpa_rev {K : PySem.W.Frag} {H : Hp} : ∀ {vs : List V} {ds : List D}, RpA K H vs ds → RpA K H vs.reverse ds.reverse
  | _, _, .nil => .nil
  | _, _, .cons h r => by
    rw [List.reverse_cons, List.reverse_cons]  -- gw
    exact (rpa_rev r).append (.cons h .nil)
section
variable {T : List Df} {G : List (Str × D)} {n : Nat} {XR : XRT} {N : List Str} {X : Cx} {W : WX} {ia ib ie : IE} {ea eb e : Expr} {sc : Scope}
theorem se_rev {k : Nat} {p1 p3 p2 pos : Pos} (ha : SP T n XR X W ia ea) : SE T n XR X W (.rev ia) (.Subscript ea (.Slice none none (some (.UnaryOp .USub (.Constant (.int 1) k p1) p3)) p2) pos) := by
  intro args σ ρ H Q f P
  refine WE.of (pe_revT WE.pe) (ha args σ ρ H _ f (PostG.bind P fun av ρ1 _ P1 => fun x H1 g w => ?_))
  obtain ⟨o, e, k⟩ := PostG.ofO P1
  obtain ⟨o1, e1, e⟩ := Option.bind_eq_some_iff.mp e
  have w1 := w.val g.fr e1
  unfold revF at e
  split at e
  · cases e
    obtain ⟨a, vs, rfl, h, r⟩ := tuple_of w1
    have y : Yld X.K H1 (.fz (.tuple _)) Q := fun v H' kp w fr => k v H' (g.yld kp fr) w
    exact ⟨a, vs, rfl, h, fun q n => y.newT (rpa_rev r) n⟩
  · cases e
end
end GW

/-! GW, part 11: every expression. -/
namespace GW
open PySem PySem.Spec PyProof.Rows L2  -- gw
section
variable {T : List Df} {G : List (Str × D)} {n : Nat} {XR : XRT} {N : List Str} {X : Cx} {W : WX} {ia ib ie : IE} {ea eb e : Expr} {sc : Scope}
theorem chk_loc (xo : XOk T G XR n N sc W X) (h : chkE N T G sc ie e = true) : ∀ i, ie = .loc i → ∃ x pos, e = .Name x pos ∧ X.N[i]? = some x ∧ visB X.env.scope x = true ∧ nmB x = true := by
  rintro i rfl
  cases e <;> first | (simp only [chkE] at h; cases h; done) | skip
  simp only [chkE, Bool.and_eq_true, decide_eq_true_eq] at h
  exact ⟨_, _, rfl, by rw [xo.hN]; exact h.1.1, by rw [xo.sc]; exact h.1.2, h.2⟩
def boB : Expr → Bool
  | .BoolOp _ _ _ => true | _ => false
def AllE (T : List Df) (G : List (Str × D)) (n : Nat) (XR : XRT) (N : List Str) (ie : IE) : Prop := ∀ (sc : Scope) (X : Cx) (W : WX) (e : Expr), XOk T G XR n N sc W X → chkE N T G sc ie e = true →
  SE T n XR X W ie e ∧ (tstB e = true → STt T n XR X W ie e) ∧ (boB e = true → SW T n XR X W ie e)
def AllEs (T : List Df) (G : List (Str × D)) (n : Nat) (XR : XRT) (N : List Str) (ie : IEs) : Prop := ∀ (sc : Scope) (X : Cx) (W : WX) (e : List Expr), XOk T G XR n N sc W X → chkEs N T G sc ie e = true →
  SD T n XR X W ie e ∧ SA T n XR X W ie e ∧ (∀ z ∈ e, plainE z = true) ∧ (e = [] → ie = .nil)
def AllO (T : List Df) (G : List (Str × D)) (n : Nat) (XR : XRT) (N : List Str) (ie : IEo) : Prop := ∀ (sc : Scope) (X : Cx) (W : WX), XOk T G XR n N sc W X →
  (∀ (e : Option Expr), chkO N T G sc ie e = true → SO T n XR X W ie e) ∧ ∀ (e : List Expr), chkC N T G sc ie e = true → SC T n XR X W ie e
def AllI (T : List Df) (G : List (Str × D)) (n : Nat) (XR : XRT) (N : List Str) (ie : II) : Prop := ∀ (sc : Scope) (X : Cx) (W : WX) (e : Expr), XOk T G XR n N sc W X → chkI N T G sc ie e = true →
  ∀ t, zipB ie t = true → SI T n XR X W ie t e
theorem AllE.sp (h : AllE T G n XR N ie) (xo : XOk T G XR n N sc W X) (c : chkE N T G sc ie e = true) : SP T n XR X W ie e := (h sc X W e xo c).1.sp (chk_loc xo c)
/-- an expression that is asked for its truth -/
theorem AllE.plain (h : SE T n XR X W ie e) (xo : XOk T G XR n N sc W X) (c : chkE N T G sc ie e = true) (hb : boB e = false) (he : tstB e = true → ∀ whole, isTrue e X.env whole = (do let v ← whole; standAt e.pos; holding [v] (truthy v))) :
    SE T n XR X W ie e ∧ (tstB e = true → STt T n XR X W ie e) ∧ (boB e = true → SW T n XR X W ie e) :=
  ⟨h, fun t => SE.plainT (h.sp (chk_loc xo c)) (he t), fun z => by rw [hb] at z; cases z⟩
end
section
variable {T : List Df} {G : List (Str × D)} {n : Nat} {XR : XRT} {N : List Str}
theorem tail_bo {op : PySem.BoolOp} {y : Expr} {r : List Expr} {pos : Pos} (h : r ≠ []) : tailB op y r pos = .BoolOp op (y :: r) pos := by cases r <;> first | rfl | exact absurd rfl h
mutual
theorem all_e : ∀ (ie : IE), AllE T G n XR N ie
  | .loc i => fun sc X W e xo h => by
    obtain ⟨x, pos, rfl, h1, h2, h3⟩ := chk_loc xo h i rfl
    exact AllE.plain (se_loc h1 (vis_of h2) h3) xo h rfl fun _ _ => rfl
  | .con d => fun sc X W e xo h => by
    cases e <;> first | (simp only [chkE] at h; cases h; done) | skip
    have h' := h
    simp only [chkE, Bool.and_eq_true, decide_eq_true_eq] at h'
    exact AllE.plain (se_con h') xo h rfl fun _ _ => rfl
  | .glo x d => fun sc X W e xo h => by
    cases e <;> first | (simp only [chkE] at h; cases h; done) | skip
    have h' := h
    simp only [chkE, Bool.and_eq_true, decide_eq_true_eq] at h'
    have hx := h'
    obtain rfl := eq_of_beq hx.1.1.1
    refine AllE.plain (se_glo xo ?_) xo h rfl fun _ _ => rfl
    simp only [Bool.and_eq_true]
    exact ⟨⟨hx.1.1.2, hx.1.2⟩, hx.2⟩
  | .tup es => fun sc X W e xo h => by
    cases e <;> first | (simp only [chkE] at h; cases h; done) | skip
    have h' := h
    simp only [chkE, Bool.and_eq_true, decide_eq_true_eq] at h'
    exact AllE.plain (se_tup h'.2 (all_es es _ _ _ _ xo h'.1).1) xo h rfl fun _ _ => rfl
  | .lst es => fun sc X W e xo h => by
    cases e <;> first | (simp only [chkE] at h; cases h; done) | skip
    have h' := h
    simp only [chkE, Bool.and_eq_true, decide_eq_true_eq] at h'
    exact AllE.plain (se_lst h'.2 (all_es es _ _ _ _ xo h'.1).1) xo h rfl fun _ _ => rfl
  | .bin op a b => fun sc X W e xo h => by
    cases e <;> first | (simp only [chkE] at h; cases h; done) | skip
    have h' := h
    simp only [chkE, Bool.and_eq_true, decide_eq_true_eq] at h'
    obtain ⟨⟨rfl, h1⟩, h2⟩ := h'
    exact AllE.plain (se_bin ((all_e a).sp xo h1) ((all_e b).sp xo h2)) xo h rfl fun _ _ => rfl
  | .neg a => fun sc X W e xo h => by
    have h' := h
    unfold chkE at h'
    split at h' <;> first | (exact absurd h' Bool.false_ne_true) | (rename_i hq; cases hq; done) | (rename_i hq; cases hq)
    exact AllE.plain (se_neg (all_e a _ _ _ _ xo h').1) xo h rfl fun _ _ => rfl
  | .not a => fun sc X W e xo h => by
    have h' := h
    unfold chkE at h'
    split at h' <;> first | (exact absurd h' Bool.false_ne_true) | (rename_i hq; cases hq; done) | (rename_i hq; cases hq)
    rw [Bool.and_eq_true] at h'
    exact ⟨se_not ((all_e a).sp xo h'.2), fun _ => st_not ((all_e a _ _ _ _ xo h'.2).2.1 h'.1), fun z => nomatch z⟩
  | .cmp op a b => fun sc X W e xo h => by
    have h' := h
    unfold chkE at h'
    split at h' <;> first | (exact absurd h' Bool.false_ne_true) | (rename_i hq; cases hq; done) | (rename_i hq; cases hq)
    simp only [Bool.and_eq_true, decide_eq_true_eq] at h'  -- gw
    obtain ⟨⟨⟨rfl, h1⟩, h2⟩, h3⟩ := h'
    exact ⟨se_cmp xo.units h1 ((all_e a).sp xo h2) ((all_e b).sp xo h3), fun _ => st_cmp xo.units h1 ((all_e a).sp xo h2) ((all_e b).sp xo h3), fun z => nomatch z⟩
  | .cmp2 p q a b c => fun sc X W e xo h => by
    have h' := h
    unfold chkE at h'
    split at h' <;> first | (exact absurd h' Bool.false_ne_true) | (rename_i hq; cases hq; done) | (rename_i hq; cases hq)
    simp only [Bool.and_eq_true, decide_eq_true_eq] at h'  -- gw
    obtain ⟨⟨⟨⟨⟨rfl, rfl⟩, h1⟩, h2⟩, h3⟩, h4⟩ := h'
    exact ⟨se_cmp2 xo.units h1 ((all_e a).sp xo h2) ((all_e b).sp xo h3) ((all_e c).sp xo h4), fun _ => st_cmp2 xo.units h1 ((all_e a).sp xo h2) ((all_e b).sp xo h3) ((all_e c).sp xo h4), fun z => nomatch z⟩
  | .isN a => fun sc X W e xo h => by
    have h' := h
    unfold chkE at h'
    split at h' <;> first | (exact absurd h' Bool.false_ne_true) | (rename_i hq; cases hq; done) | (rename_i hq; cases hq)
    exact ⟨se_isN ((all_e a).sp xo h'), fun _ => st_isN ((all_e a).sp xo h'), fun z => nomatch z⟩
  | .notN a => fun sc X W e xo h => by
    have h' := h
    unfold chkE at h'
    split at h' <;> first | (exact absurd h' Bool.false_ne_true) | (rename_i hq; cases hq; done) | (rename_i hq; cases hq)
    exact ⟨se_notN ((all_e a).sp xo h'), fun _ => st_notN ((all_e a).sp xo h'), fun z => nomatch z⟩
  | .and a b => fun sc X W e xo h => by
    have h' := h
    unfold chkE at h'
    split at h' <;> first | (exact absurd h' Bool.false_ne_true) | (rename_i hq; cases hq; done) | (rename_i hq; cases hq)
    simp only [Bool.and_eq_true] at h'  -- gw
    obtain ⟨⟨⟨h1, h2⟩, h3⟩, h4⟩ := h'
    have A := all_e a _ _ _ _ xo h3
    have B := all_e b _ _ _ _ xo h4
    rename_i y r _
    have S := sw_and (y := y) (r := r) (A.2.1 h1) (fun z => by subst z; exact B.2.1 h2) (fun z => by rw [tail_bo z] at B; exact B.2.2 rfl)
    exact ⟨se_and A.1 B.1, fun _ => S.st, fun _ => S⟩
  | .or a b => fun sc X W e xo h => by
    have h' := h
    unfold chkE at h'
    split at h' <;> first | (exact absurd h' Bool.false_ne_true) | (rename_i hq; cases hq; done) | (rename_i hq; cases hq)
    simp only [Bool.and_eq_true] at h'  -- gw
    obtain ⟨⟨⟨h1, h2⟩, h3⟩, h4⟩ := h'
    have A := all_e a _ _ _ _ xo h3
    have B := all_e b _ _ _ _ xo h4
    rename_i y r _
    have S := sw_or (y := y) (r := r) (A.2.1 h1) (fun z => by subst z; exact B.2.1 h2) (fun z => by rw [tail_bo z] at B; exact B.2.2 rfl)
    exact ⟨se_or A.1 B.1, fun _ => S.st, fun _ => S⟩
  | .ife c a b => fun sc X W e xo h => by
    have h' := h
    unfold chkE at h'
    split at h' <;> first | (exact absurd h' Bool.false_ne_true) | (rename_i hq; cases hq; done) | (rename_i hq; cases hq)
    simp only [Bool.and_eq_true] at h'  -- gw
    obtain ⟨⟨⟨h1, h2⟩, h3⟩, h4⟩ := h'
    exact ⟨se_ife ((all_e c _ _ _ _ xo h2).2.1 h1) (all_e a _ _ _ _ xo h3).1 (all_e b _ _ _ _ xo h4).1, fun z => Bool.noConfusion z, fun z => Bool.noConfusion z⟩
  | .slc a lo hi => fun sc X W e xo h => by
    have h' := h
    unfold chkE at h'
    split at h' <;> first | (exact absurd h' Bool.false_ne_true) | (rename_i hq; cases hq; done) | (rename_i hq; cases hq)
    simp only [Bool.and_eq_true] at h'  -- gw
    obtain ⟨⟨h1, h2⟩, h3⟩ := h'
    exact AllE.plain (se_slc ((all_e a).sp xo h1) ((all_o lo _ _ _ xo).1 _ h2) ((all_o hi _ _ _ xo).1 _ h3)) xo h rfl fun _ _ => rfl
  | .sub a b => fun sc X W e xo h => by
    have h' := h
    unfold chkE at h'
    split at h' <;> first | (exact absurd h' Bool.false_ne_true) | (rename_i hq; cases hq; done) | (rename_i hq; cases hq)
    simp only [Bool.and_eq_true] at h'  -- gw
    obtain ⟨⟨h1, h2⟩, h3⟩ := h'
    exact AllE.plain (se_sub h1 ((all_e a).sp xo h2) ((all_e b).sp xo h3)) xo h rfl fun _ _ => rfl
  | .call f as => fun sc X W e xo h => by
    have h' := h
    unfold chkE at h'
    split at h' <;> first | (exact absurd h' Bool.false_ne_true) | (rename_i hq; cases hq; done) | (rename_i hq; cases hq)
    simp only [Bool.and_eq_true, Bool.not_eq_true'] at h'
    obtain ⟨⟨⟨h1, h2⟩, h3⟩, h4⟩ := h'
    obtain ⟨A1, A2, A3, A4⟩ := all_es as _ _ _ _ xo h4
    split at h3
    · rename_i d hd
      simp only [Bool.and_eq_true, decide_eq_true_eq] at h3  -- gw
      exact AllE.plain (se_call xo h1 h2 hd (eq_of_beq h3.1) h3.2 A3 A2 A4) xo h rfl fun _ _ => rfl
    · cases h3
  | .bi b as => fun sc X W e xo h => by
    have h' := h
    unfold chkE at h'
    split at h' <;> first | (exact absurd h' Bool.false_ne_true) | (rename_i hq; cases hq; done) | (rename_i hq; cases hq)
    simp only [Bool.and_eq_true, decide_eq_true_eq] at h'  -- gw
    obtain ⟨⟨⟨⟨h1, h2⟩, h3⟩, h5⟩, h4⟩ := h'
    obtain ⟨A1, A2, A3, A4⟩ := all_es as _ _ _ _ xo h4
    rename_i l _
    cases l with
    | nil => exact absurd rfl h5
    | cons y xs => exact AllE.plain (se_bi xo h1 (eq_of_beq h2) h3 (A3 y List.mem_cons_self) (fun z hz => A3 z (List.mem_cons_of_mem _ hz)) A2) xo h rfl fun _ _ => rfl
  | .isi a t => fun sc X W e xo h => by
    have h' := h
    unfold chkE at h'
    split at h' <;> first | (exact absurd h' Bool.false_ne_true) | (rename_i hq; cases hq; done) | (rename_i hq; cases hq)
    simp only [Bool.and_eq_true] at h'  -- gw
    obtain ⟨⟨⟨⟨⟨h1, h2⟩, h3⟩, h4⟩, h5⟩, h6⟩ := h'
    exact AllE.plain (se_isi xo h1 (eq_of_beq h2) h3 h5 (eq_of_beq h6) ((all_e a).sp xo h4)) xo h rfl fun _ _ => rfl
  | .lrg1 a => fun sc X W e xo h => by
    have h' := h
    unfold chkE at h'
    split at h' <;> first | (exact absurd h' Bool.false_ne_true) | (rename_i hq; cases hq; done) | (rename_i hq; cases hq)
    simp only [Bool.and_eq_true] at h'  -- gw
    obtain ⟨⟨h1, h2⟩, h3⟩ := h'
    split at h3
    · simp only [Bool.and_eq_true] at h3
      obtain ⟨⟨⟨h4, h5⟩, h6⟩, h7⟩ := h3
      exact AllE.plain (se_lrg1 xo h1 (eq_of_beq h2) h4 (eq_of_beq h5) h6 (all_e a _ _ _ _ xo h7).1) xo h rfl fun _ _ => rfl
    · cases h3
  | .lrg2 a b => fun sc X W e xo h => by
    have h' := h
    unfold chkE at h'
    split at h' <;> first | (exact absurd h' Bool.false_ne_true) | (rename_i hq; cases hq; done) | (rename_i hq; cases hq)
    simp only [Bool.and_eq_true] at h'  -- gw
    obtain ⟨⟨h1, h2⟩, h3⟩ := h'
    split at h3
    · simp only [Bool.and_eq_true] at h3
      obtain ⟨⟨⟨⟨⟨h4, h5⟩, h6⟩, h7⟩, h8⟩, h9⟩ := h3
      exact AllE.plain (se_lrg2 xo h1 (eq_of_beq h2) h4 (eq_of_beq h5) h6 h7 (all_e a _ _ _ _ xo h8).1 (all_e b _ _ _ _ xo h9).1) xo h rfl fun _ _ => rfl
    · cases h3
  | .lc elt tg it cnd vs => fun sc X W e xo h => by
    have h' := h
    unfold chkE at h'
    split at h' <;> first | (exact absurd h' Bool.false_ne_true) | (rename_i hq; cases hq; done) | (rename_i hq; cases hq)
    simp only [Bool.and_eq_true, decide_eq_true_eq] at h'  -- gw
    obtain ⟨⟨⟨⟨⟨⟨⟨⟨h1, h0⟩, h2⟩, h3⟩, h4⟩, h5⟩, h6⟩, h7⟩, h8⟩ := h'
    refine AllE.plain (se_lc xo (all_i it _ _ _ _ xo h1 _ h0) h2 h3 h4 h5 (fun j hj => of_decide_eq_true (List.all_eq_true.mp h6 j hj)) (fun Y yo hk => (all_e elt _ _ _ _ yo h7).1.sf) (fun Y yo hk => (all_o cnd _ _ _ yo).2 _ h8)) xo h rfl fun _ _ => rfl
  | .dget ps a b => fun sc X W e xo h => by
    have h' := h
    unfold chkE at h'
    split at h' <;> first | (exact absurd h' Bool.false_ne_true) | (rename_i hq; cases hq; done) | (rename_i hq; cases hq)
    simp only [Bool.and_eq_true, decide_eq_true_eq] at h'  -- gw
    obtain ⟨⟨⟨⟨⟨⟨⟨⟨h1, h2⟩, h3⟩, h4⟩, h5⟩, h6⟩, h7⟩, h8⟩, h9⟩ := h'
    obtain rfl := eq_of_beq h1
    exact AllE.plain (se_dget xo h5 (all_ps ps _ _ _ _ _ xo h5) h6 h7 h2 h3 h4 (all_e a _ _ _ _ xo h8).1.sf (all_e b _ _ _ _ xo h9).1.sf) xo h rfl fun _ _ => rfl
  | .sset a => fun sc X W e xo h => by
    have h' := h
    unfold chkE at h'
    split at h' <;> first | (exact absurd h' Bool.false_ne_true) | (rename_i hq; cases hq; done) | (rename_i hq; cases hq)
    simp only [Bool.and_eq_true] at h'  -- gw
    obtain ⟨⟨⟨⟨⟨h1, h2⟩, h3⟩, h4⟩, h5⟩, h6⟩ := h'
    exact AllE.plain (se_sset xo h1 (eq_of_beq h2) h3 (eq_of_beq h4) h5 ((all_e a).sp xo h6)) xo h rfl fun _ _ => rfl
  | .lset a => fun sc X W e xo h => by
    have h' := h
    unfold chkE at h'
    split at h' <;> first | (exact absurd h' Bool.false_ne_true) | (rename_i hq; cases hq; done) | (rename_i hq; cases hq)
    simp only [Bool.and_eq_true] at h'  -- gw
    obtain ⟨⟨⟨⟨⟨h1, h2⟩, h3⟩, h4⟩, h5⟩, h6⟩ := h'
    exact AllE.plain (se_lset xo h1 (eq_of_beq h2) h3 (eq_of_beq h4) h5 ((all_e a).sp xo h6)) xo h rfl fun _ _ => rfl
  | .rev a => fun sc X W e xo h => by
    have h' := h
    unfold chkE at h'
    split at h' <;> first | (exact absurd h' Bool.false_ne_true) | (rename_i hq; cases hq; done) | (rename_i hq; cases hq)
    exact AllE.plain (se_rev ((all_e a).sp xo h')) xo h rfl fun _ _ => rfl
  | .idx a b => fun sc X W e xo h => by
    have h' := h
    unfold chkE at h'
    split at h' <;> first | (exact absurd h' Bool.false_ne_true) | (rename_i hq; cases hq; done) | (rename_i hq; cases hq)
    simp only [Bool.and_eq_true] at h'  -- gw
    obtain ⟨⟨⟨⟨⟨h1, h2⟩, h3⟩, h4⟩, h5⟩, h6⟩ := h'
    exact AllE.plain (se_idx xo (eq_of_beq h1) h2 h3 h4 ((all_e a).sp xo h5) ((all_e b).sp xo h6)) xo h rfl fun _ _ => rfl
  | .fidx f ys a => fun sc X W e xo h => by
    have h' := h
    unfold chkE at h'
    split at h' <;> first | (exact absurd h' Bool.false_ne_true) | (rename_i hq; cases hq; done) | (rename_i hq; cases hq)
    simp only [Bool.and_eq_true, Bool.not_eq_true'] at h'
    obtain ⟨⟨⟨⟨⟨⟨⟨h1, h2⟩, h3⟩, h4⟩, h5⟩, h6⟩, h7⟩, h8⟩ := h'
    split at h7
    · rename_i d hd
      simp only [Bool.and_eq_true, decide_eq_true_eq] at h7
      exact AllE.plain (se_fidx xo (eq_of_beq h1) h2 h3 h4 h5 h6 hd (eq_of_beq h7.1.1) h7.1.2 h7.2 ((all_e a).sp xo h8)) xo h rfl fun _ _ => rfl
    · cases h7
theorem all_ps : ∀ (ps : IPs) (sc : Scope) (X : Cx) (W : WX) (ks : List (Option Expr)) (vs : List Expr), XOk T G XR n N sc W X → chkP N T G sc ps ks vs = true → SPs T n XR X W ps ks vs
  | .nil => fun sc X W ks vs xo h => by
    cases ks with
    | nil =>
      cases vs with
      | nil => exact sps_nil
      | cons _ _ => simp only [chkP] at h; cases h
    | cons _ _ => simp only [chkP] at h; cases h
  | .cons k v r => fun sc X W ks vs xo h => by
    cases ks with
    | nil => simp only [chkP] at h; cases h
    | cons a ks =>
      cases a with
      | none => simp only [chkP] at h; cases h
      | some x =>
        cases vs with
        | nil => simp only [chkP] at h; cases h
        | cons y vs =>
          simp only [chkP, Bool.and_eq_true] at h
          exact sps_cons (all_e k _ _ _ _ xo h.1.1).1.sf (all_e v _ _ _ _ xo h.1.2).1.sf (all_ps r _ _ _ _ _ xo h.2)
theorem all_es : ∀ (ie : IEs), AllEs T G n XR N ie
  | .nil => fun sc X W e xo h => by
    cases e with
    | nil => exact ⟨sd_nil, sa_nil, fun z hz => (nomatch hz), fun _ => rfl⟩
    | cons _ _ => simp only [chkEs] at h; cases h
  | .cons e0 es => fun sc X W e xo h => by
    cases e with
    | nil => simp only [chkEs] at h; cases h
    | cons x xs =>
      simp only [chkEs, Bool.and_eq_true] at h
      obtain ⟨⟨h1, h2⟩, h3⟩ := h
      obtain ⟨A1, A2, A3, A4⟩ := all_es es _ _ _ _ xo h3
      have A := all_e e0 _ _ _ _ xo h2
      exact ⟨sd_cons h1 A.1.sf A1, sa_cons h1 ((all_e e0).sp xo h2) A2, fun z hz => (List.mem_cons.mp hz).elim (fun w => w ▸ h1) (A3 z), fun z => nomatch z⟩
theorem all_o : ∀ (ie : IEo), AllO T G n XR N ie
  | .no => fun sc X W xo => ⟨fun e h => by
      cases e with
      | none => exact so_no
      | some _ => (simp only [chkO] at h; cases h), fun e h => by
      cases e with
      | nil => exact sc_no
      | cons _ _ => simp only [chkC] at h; cases h⟩
  | .so a => fun sc X W xo => ⟨fun e h => by
      cases e with
      | none => (simp only [chkO] at h; cases h)
      | some x => exact so_so (all_e a _ _ _ _ xo (by simp only [chkO] at h; exact h)).1, fun e h => by
      cases e with
      | nil => simp only [chkC] at h; cases h
      | cons x r =>
        cases r with
        | cons _ _ => simp only [chkC] at h; cases h
        | nil =>
          simp only [chkC, Bool.and_eq_true] at h
          exact sc_so ((all_e a _ _ _ _ xo h.2).2.1 h.1)⟩
theorem all_i : ∀ (ie : II), AllI T G n XR N ie
  | .val a => fun sc X W e xo h t _ => by
    simp only [chkI] at h
    exact si_val (all_e a _ _ _ _ xo h).1
  | .txt a => fun sc X W e xo h t _ => by
    simp only [chkI] at h
    exact si_txt (all_e a _ _ _ _ xo h).1
  | .lok i => fun sc X W e xo h t _ => by
    unfold chkI at h
    split at h <;> first | (exact absurd h Bool.false_ne_true) | (rename_i hq; cases hq; done) | (rename_i hq; cases hq)
    simp only [Bool.and_eq_true, decide_eq_true_eq] at h  -- gw
    exact si_lok (by rw [xo.hN]; exact h.1.1) (vis_of (by rw [xo.sc]; exact h.1.2)) h.2
  | .rng1 a => fun sc X W e xo h t _ => by
    unfold chkI at h
    split at h <;> first | (exact absurd h Bool.false_ne_true) | (rename_i hq; cases hq; done) | (rename_i hq; cases hq)
    simp only [Bool.and_eq_true] at h  -- gw
    obtain ⟨⟨⟨h1, h2⟩, h3⟩, h4⟩ := h  -- gw
    exact si_rng1 xo h1 (eq_of_beq h2) h3 (all_e a _ _ _ _ xo h4).1
  | .rng2 a b => fun sc X W e xo h t _ => by
    unfold chkI at h
    split at h <;> first | (exact absurd h Bool.false_ne_true) | (rename_i hq; cases hq; done) | (rename_i hq; cases hq)
    simp only [Bool.and_eq_true] at h  -- gw
    obtain ⟨⟨⟨⟨⟨h1, h2⟩, h3⟩, h4⟩, h5⟩, h6⟩ := h
    exact si_rng2 xo h1 (eq_of_beq h2) h3 h4 (all_e a _ _ _ _ xo h5).1 (all_e b _ _ _ _ xo h6).1
  | .rng3 a b c => fun sc X W e xo h t _ => by
    unfold chkI at h
    split at h <;> first | (exact absurd h Bool.false_ne_true) | (rename_i hq; cases hq; done) | (rename_i hq; cases hq)
    simp only [Bool.and_eq_true] at h  -- gw
    obtain ⟨⟨⟨⟨⟨⟨⟨h1, h2⟩, h3⟩, h4⟩, h5⟩, h6⟩, h7⟩, h8⟩ := h  -- gw
    exact si_rng3 xo h1 (eq_of_beq h2) h3 h4 h5 (all_e a _ _ _ _ xo h6).1 (all_e b _ _ _ _ xo h7).1 (all_e c _ _ _ _ xo h8).1
  | .zip a b => fun sc X W e xo h t ht => by
    unfold chkI at h
    split at h <;> first | (exact absurd h Bool.false_ne_true) | (rename_i hq; cases hq; done) | (rename_i hq; cases hq)
    simp only [Bool.and_eq_true] at h  -- gw
    obtain ⟨⟨⟨⟨⟨h1, h2⟩, h3⟩, h4⟩, h5⟩, h6⟩ := h
    cases t <;> first | exact absurd ht Bool.false_ne_true | skip
    exact si_zip xo h1 (eq_of_beq h2) h3 h4 (all_e a _ _ _ _ xo h5).1.sf (all_e b _ _ _ _ xo h6).1.sf
end
end
end GW

/-! GW, part 12: statements. -/
namespace GW
open PySem PySem.Spec PyProof.Rows L2  -- gw
/-! ### chk -/
def noDisp : Expr → Bool
  | .Tuple _ _ _ => false | .List _ _ => false | .ListComp _ _ _ _ => false | .SetComp _ _ _ _ => false | .DictComp _ _ _ _ _ => false | _ => true
def augOk : BOp → Bool
  | .add => true | .sub => true | .mul => true | _ => false
section
variable (N : List Str) (T : List Df) (G : List (Str × D))
def lhsB (sc : Scope) (x : Str) (p : Pos) : Expr → Bool
  | .ListComp _ _ s2 p2 => decide (sc.names.lookup x = some .cell) || (decide (sc.names.lookup x = some .local) && (p.line == p2.line) && !(s2.names.any fun (m, k) => m == x && (k == .local || k == .cell)))
  | .SetComp _ _ _ _ => false | .DictComp _ _ _ _ _ => false | _ => true
mutual
def chkS : Scope → IS → Stmt → Bool
  | sc, .asg i e, .Assign [.Name x p] v _ => decide (N[i]? = some x) && locB sc x && chkE N T G sc e v && lhsB sc x p v
  | sc, .asgT (.tp ts) e, .Assign [.Tuple es k p] v _ => noDisp v && chkT N sc (.tp ts) (.Tuple es k p) && chkE N T G sc e v
  | sc, .aug i op e, .AugAssign (.Name x _) o v _ => decide (N[i]? = some x) && locB sc x && decide (o = opOf op) && augOk op && chkE N T G sc e v
  | sc, .seti i k e, .Assign [.Subscript (.Name x _) kx _] v _ => decide (N[i]? = some x) && visB sc x && nmB x && !isComp v && plainIxB kx && chkE N T G sc k kx && chkE N T G sc e v
  | sc, .ext i e, .Expr (.Call (.Attribute (.Name x _) m p2) [v] [] p3) _ => decide (N[i]? = some x) && visB sc x && nmB x && (m == ("extend" : Str)) && plainE v && (p2.endLine == p3.line) && chkE N T G sc e v
  | sc, .app i e, .Expr (.Call (.Attribute (.Name x _) m p2) [v] [] p3) _ => decide (N[i]? = some x) && visB sc x && nmB x && (m == ("append" : Str)) && plainE v && (p2.endLine == p3.line) && chkE N T G sc e v
  | sc, .exp e, .Expr v _ => !isComp v && chkE N T G sc e v
  | sc, .ret e, .Return (some v) _ => chkE N T G sc e v
  | sc, .retn, .Return none _ => true
  | sc, .iff c a b, .If x y z _ => tstB x && chkE N T G sc c x && chkSs sc a y && chkSs sc b z
  | sc, .fr t it b ks, .For tg i body [] _ => chkI N T G sc it i && zipB it tg && plainE i && chkT N sc t tg && chkSs sc b body
  | sc, .wh c b ks, .While x body [] _ => tstB x && chkE N T G sc c x && chkSs sc b body
  | _, .brk, .Break _ => true
  | _, .cnt, .Continue _ => true
  | _, .nev, .Raise _ _ _ => true
  | _, .pas, .Pass _ => true
  | _, .pas, .Expr (.Constant (.str _) _ _) _ => true
  | _, _, _ => false
def chkSs : Scope → ISs → List Stmt → Bool
  | _, .nil, [] => true
  | sc, .cons s ss, x :: xs => chkS sc s x && chkSs sc ss xs
  | sc, .kil _ ss, xs => chkSs sc ss xs
  | _, _, _ => false
end
end
/-! ### what is wanted -/
def PostS (K : PySem.W.Frag) (args : Ar) (XR : XRT) (W : WX) (σ : St) (ρ : Fm) (H : Hp) (D : Ends) : SR → Prop
  | .nx ρ' => ∀ σ' H', Got K args σ ρ H σ' ρ' H' (fun _ => False) → D.nx σ' H'
  | .rt o ρ' => ∀ v σ' H', Got K args σ ρ H σ' ρ' H' (Ft v o) → Ow K H' v o → D.rt v H'
  | .bk ρ' => ∀ σ' H', Got K args σ ρ H σ' ρ' H' (fun _ => False) → D.bk σ' H'
  | .ct ρ' => ∀ σ' H', Got K args σ ρ H σ' ρ' H' (fun _ => False) → D.ct σ' H'
  | .ex e ρ' => ∀ c d σ' H', Got K args σ ρ H σ' ρ' H' (fun _ => False) → XR e c d H' → W c d σ' H'
  | .bad => False
section
variable {α : Type} {K : PySem.W.Frag} {args : Ar} {XR : XRT} {W : WX} {σ σ0 : St} {ρ ρ0 : Fm} {H H0 : Hp} {D : Ends} {F : Addr → Prop}
theorem PostS.later {r : SR} (g : Got K args σ0 ρ0 H0 σ ρ H F) (P : PostS K args XR W σ0 ρ0 H0 D r) : PostS K args XR W σ ρ H D r := by
  cases r with
  | nx ρ' => exact fun σ' H' g' => P σ' H' (g.trans g')
  | rt o ρ' => exact fun v σ' H' g' w => P v σ' H' (g.trans g') w
  | bk ρ' => exact fun σ' H' g' => P σ' H' (g.trans g')
  | ct ρ' => exact fun σ' H' g' => P σ' H' (g.trans g')
  | ex e ρ' => exact fun c d σ' H' g' x => P c d σ' H' (g.trans g') x
  | bad => exact P
theorem PostS.st {r : Res α} {f : α → Fm → SR} {k : α → Fm → Prop} (P : PostS K args XR W σ ρ H D (r.st f)) (h : ∀ a ρ1, r = .ok a ρ1 → PostS K args XR W σ ρ H D (f a ρ1) → k a ρ1) : PostG K args XR W σ ρ H r k := by
  cases r with
  | ok a ρ1 => exact h a ρ1 rfl P
  | ex e ρ1 => exact fun c d H' g x => P c d σ H' g x
  | bad => exact P
theorem PostS.st' {r : Res α} {f : α → Fm → SR} {k : α → Fm → Prop} (g : Got K args σ0 ρ0 H0 σ ρ H F) (P : PostS K args XR W σ0 ρ0 H0 D (r.st f)) (h : ∀ a ρ1, r = .ok a ρ1 → PostS K args XR W σ0 ρ0 H0 D (f a ρ1) → k a ρ1) : PostG K args XR W σ ρ H r k := by
  cases r with
  | ok a ρ1 => exact h a ρ1 rfl P
  | ex e ρ1 => exact fun c d H' g' x => P c d σ H' (g.trans g') x
  | bad => exact P
theorem PostS.o {x : Option α} {ρ1 : Fm} {f : α → Fm → SR} (P : PostS K args XR W σ ρ H D ((ofO x ρ1).st f)) : ∃ a, x = some a ∧ PostS K args XR W σ ρ H D (f a ρ1) := by
  cases x with
  | none => exact P.elim
  | some a => exact ⟨a, rfl, P⟩
/-- a slot is stored -/
theorem Got.store {σ1 : St} {ρ1 : Fm} {H1 : Hp} {i : Nat} {v : V} {o : O} (g : Got K args σ ρ H σ1 ρ1 H1 (Ft v o)) (w : Ow K H1 v o) : Got K args σ ρ H (σ1.set i (some v)) (loS ρ1 i o) H1 (fun _ => False) :=
  ⟨g.kp, g.fr.store w g.dis, fun _ z => z.elim, fun a z => z.elim (fun z => (z.store g.fr.len).elim (fun z => g.fre a (.inr z)) fun z => g.fre a (.inl z)) fun z => z.elim⟩
end
structure SOk (T : List Df) (G : List (Str × D)) (XR : XRT) (n : Nat) (N : List Str) (sc : Scope) (W : WX) (X : Cx) : Prop where
  xo : XOk T G XR n N sc W X
  fk : X.env.scope.kind = .function
  tg : TgOk X sc
  pas : PassesOwn (model X.prog X.w) X.A X.env X.xe
def SS (T : List Df) (n : Nat) (XR : XRT) (X : Cx) (W : WX) (is : IS) (st : Stmt) : Prop := ∀ (args : Ar) (σ : St) (ρ : Fm) (H : Hp) (D : Ends), FrOk X.K args H σ ρ → PostS X.K args XR W σ ρ H D (exS (callN T n) is ρ) → WS X st D σ H
def SSs (T : List Df) (n : Nat) (XR : XRT) (X : Cx) (W : WX) (is : ISs) (st : List Stmt) : Prop := ∀ (args : Ar) (σ : St) (ρ : Fm) (H : Hp) (D : Ends), FrOk X.K args H σ ρ → PostS X.K args XR W σ ρ H D (exSs (callN T n) is ρ) → WSs X st D σ H
section
variable {T : List Df} {G : List (Str × D)} {n : Nat} {XR : XRT} {N : List Str} {X : Cx} {W : WX} {ia ib ie : IE} {ea eb e : Expr} {sc : Scope}
theorem sw_false {e : Expr} {t : Option Expr} {l : Nat} {env : Env} (h : isComp e = false) : swapsWith e t l env = pure false := by cases e <;> first | rfl | cases h
theorem sw_cell {x : Expr} {gs : List Comprehension} {scope : Scope} {pos p : Pos} {y : Str} {l : Nat} {env : Env} (hy : env.scope.names.lookup y = some .cell) : swapsWith (.ListComp x gs scope pos) (some (.Name y p)) l env = pure false := by
  have e : (env.kindOf y == some .local) = false := by
    show (env.scope.names.lookup y == some .local) = false
    rw [hy]; rfl
  simp only [swapsWith, e, Bool.and_false, Bool.false_and]
theorem sws_false {e t : Expr} {l : Nat} {env : Env} (h : isComp e = false) : swapsWithSole [t] e l env = pure false := sw_false h
theorem inv_lc {x : Expr} {gs : List Comprehension} {scope : Scope} {pos : Pos} (h : chkE N T G sc ie (.ListComp x gs scope pos) = true) : ∃ elt tg it cnd vs t i ifs, ie = .lc elt tg it cnd vs ∧ gs = [⟨t, i, ifs, 0⟩] ∧ (chkI N T G sc it i = true ∧ zipB it t = true) ∧ plainE i = true ∧
    blkC N sc scope (vs.filterMap fun i => (N[i]?).map fun x => (x, i)) = true ∧ vs.all (fun i => (N[i]?).isSome) = true ∧ chkT N scope tg t = true ∧ (∀ j ∈ slT tg, j ∈ vs) ∧ chkE N T G (relS scope sc) elt x = true ∧ chkC N T G (relS scope sc) cnd ifs = true := by
  unfold chkE at h
  split at h <;> first | (exact absurd h Bool.false_ne_true) | (rename_i hq; cases hq; done) | (rename_i hq; cases hq)
  simp only [Bool.and_eq_true, decide_eq_true_eq] at h  -- gw
  obtain ⟨⟨⟨⟨⟨⟨⟨⟨h1, h0⟩, h2⟩, h3⟩, h4⟩, h5⟩, h6⟩, h7⟩, h8⟩ := h
  exact ⟨_, _, _, _, _, _, _, _, rfl, rfl, ⟨h1, h0⟩, h2, h3, h4, h5, fun j hj => of_decide_eq_true (List.all_eq_true.mp h6 j hj), h7, h8⟩
theorem ss_asg {i : Nat} {x : Str} {p pos : Pos} (so : SOk T G XR n N sc W X) (h : chkS N T G sc (.asg i ie) (.Assign [.Name x p] e pos) = true) : SS T n XR X W (.asg i ie) (.Assign [.Name x p] e pos) := by
  intro args σ ρ H D f P
  have xo := so.xo
  simp only [chkS, Bool.and_eq_true, decide_eq_true_eq] at h
  obtain ⟨⟨⟨h1, h2⟩, h3⟩, h4⟩ := h  -- gw
  obtain ⟨q1, q2⟩ := so.tg x h2
  have P1 : PostG X.K args XR W σ ρ H (ev (callN T n) ie ρ) (fun o ρ' => ∀ v H', Got X.K args σ ρ H σ ρ' H' (Ft v o) → Ow X.K H' v o → D.nx (σ.set i (some v)) H') :=
    PostS.st P fun o ρ1 _ P1 => fun v H1 g w => P1 _ H1 (g.store w)
  by_cases hc : isComp e = false
  · exact WS.of (ps_set (xo.hN ▸ xo.nd) (by rw [xo.hN]; exact h1) q1 WE.pe (sw_false hc) q2) ((all_e ie _ _ _ _ xo h3).1 args σ ρ H _ f P1)
  · cases e <;> first | exact absurd rfl hc | (simp only [lhsB] at h4; cases h4; done) | skip
    simp only [lhsB, Bool.or_eq_true, Bool.and_eq_true, Bool.not_eq_true', decide_eq_true_eq] at h4
    rcases h4 with h4 | h4
    · exact WS.of (ps_set (xo.hN ▸ xo.nd) (by rw [xo.hN]; exact h1) q1 WE.pe (sw_cell (by rw [xo.sc]; exact h4)) q2) ((all_e ie _ _ _ _ xo h3).1 args σ ρ H _ f P1)
    obtain ⟨elt, tg, it, cnd, vs, t, i', ifs, rfl, rfl, k1, k2, k3, k4, k5, k6, k7, k8⟩ := inv_lc h3
    exact ws_setLc xo (all_i it _ _ _ _ xo k1.1 _ k1.2) k2 k3 k4 k5 k6 (fun Y yo hk => (all_e elt _ _ _ _ yo k7).1.sf) (fun Y yo hk => (all_o cnd _ _ _ yo).2 _ k8) so.fk (by rw [xo.hN]; exact h1) (by rw [xo.sc]; exact h4.1.1) h4.1.2 h4.2 f P1
theorem ss_asgT {ts : Tgs} {es : List Expr} {k : Nat} {p pos : Pos} (so : SOk T G XR n N sc W X) (h : chkS N T G sc (.asgT (.tp ts) ie) (.Assign [.Tuple es k p] e pos) = true) : SS T n XR X W (.asgT (.tp ts) ie) (.Assign [.Tuple es k p] e pos) := by
  intro args σ ρ H D f P
  have xo := so.xo
  simp only [chkS, Bool.and_eq_true] at h
  obtain ⟨⟨h1, h2⟩, h3⟩ := h
  have hc : isComp e = false := by cases e <;> first | rfl | cases h1
  refine WS.of (ps_asg WE.pe (pg_of xo.hN xo.nd xo.calm so.tg h2) (sws_false hc) (by cases e <;> first | rfl | cases h1) rfl) ((all_e ie _ _ _ _ xo h3).1.sf args σ ρ H _ f (PostS.st P fun d ρ1 _ P1 => fun v H1 g w => ?_))
  obtain ⟨ρ2, e2, P2⟩ := PostS.o P1
  exact tg_run g.fr w e2 fun σ' f' o' s' l' => P2 σ' H1 ⟨g.kp, f', fun _ z => z.elim, fun a z => z.elim (fun z => g.fre a (.inl (o' a z))) fun z => z.elim⟩
theorem ow_int {K : PySem.W.Frag} {H : Hp} {i : Int} : Ow K H (.int i) (.fz (.int i)) := .int i
theorem ss_aug {i : Nat} {x : Str} {p pos : Pos} {op : BOp} {o : Operator} (so : SOk T G XR n N sc W X) (h : chkS N T G sc (.aug i op ie) (.AugAssign (.Name x p) o e pos) = true) : SS T n XR X W (.aug i op ie) (.AugAssign (.Name x p) o e pos) := by
  intro args σ ρ H D f P
  have xo := so.xo
  simp only [chkS, Bool.and_eq_true, decide_eq_true_eq] at h
  obtain ⟨⟨⟨⟨h1, h2⟩, rfl⟩, h3⟩, h4⟩ := h
  obtain ⟨q1, q2⟩ := so.tg x h2
  obtain ⟨o0, e0, P0⟩ := PostS.o P
  obtain ⟨v0, ev0, w0⟩ := f.at_ i o0 e0
  have run : WE X e σ H fun y H1 => ∃ a b c : Int, v0 = .int a ∧ y = .int b ∧ (∃ r, augF op (.fz (.int a)) (.fz (.int b)) = some (.fz (.int r)) ∧ (op = .mul → CMul a b) ∧ D.nx (σ.set i (some (.int r))) H1) := by
    refine (all_e ie _ _ _ _ xo h4).1 args σ ρ H _ f (PostS.st P0 fun y ρ1 _ P1 => fun v H1 g w => ?_)
    obtain ⟨r, e1, P2⟩ := PostS.o P1
    obtain ⟨x1, e2, e3⟩ := Option.bind_eq_some_iff.mp e1
    obtain ⟨v1, ev1, w1⟩ := g.fr.at_ i x1 e2
    rw [ev0] at ev1
    cases ev1
    have key : ∃ a b r', x1 = .fz (.int a) ∧ y = .fz (.int b) ∧ r = .fz (.int r') ∧ (op = .mul → CMul a b) := by
      unfold augF at e3
      split at e3
      · cases e3; exact ⟨_, _, _, rfl, rfl, rfl, fun z => nomatch z⟩
      · cases e3; exact ⟨_, _, _, rfl, rfl, rfl, fun z => nomatch z⟩
      · split at e3
        · rename_i hw
          cases e3
          refine ⟨_, _, _, rfl, rfl, rfl, fun _ => ?_⟩
          rw [Bool.or_eq_true] at hw
          exact hw.imp (fun z => of_decide_eq_true z) fun z => of_decide_eq_true z
        · cases e3
      · cases e3
    obtain ⟨a, b, r', rfl, rfl, rfl, hm⟩ := key
    refine ⟨a, b, 0, int_of w1, int_of w, r', e3, hm, P2 _ H1 ((g.drop fun a z => nomatch z.1).store (v := .int r') (o := .fz (.int r')) (.int r'))⟩
  cases op <;> first | cases h3 | skip
  · exact WS.of (ps_aug (xo.hN ▸ xo.nd) (by rw [xo.hN]; exact h1) q1 WE.pe ip_add q2) ⟨v0, ev0, run.imp fun y H1 ⟨a, b, c, m1, m2, r, q3, _, q4⟩ => ⟨a, b, m1, m2, by cases q3; exact q4⟩⟩
  · exact WS.of (ps_aug (xo.hN ▸ xo.nd) (by rw [xo.hN]; exact h1) q1 WE.pe ip_sub q2) ⟨v0, ev0, run.imp fun y H1 ⟨a, b, c, m1, m2, r, q3, _, q4⟩ => ⟨a, b, m1, m2, by cases q3; exact q4⟩⟩
  · refine WS.of (ps_aug (xo.hN ▸ xo.nd) (by rw [xo.hN]; exact h1) q1 WE.pe (show PIp X .Mult (rI CMul fun i j => .int (i * j)) from iop_mul) q2) ⟨v0, ev0, run.imp fun y H1 ⟨a, b, c, m1, m2, r, q3, hm, q4⟩ => ⟨a, b, m1, m2, hm rfl, ?_⟩⟩
    unfold augF at q3
    simp only at q3
    split at q3
    · cases q3; exact q4
    · cases q3
theorem asg_sub {o i : Expr} {pos : Pos} {env : Env} (h : plainIxB i = true) : ∀ v, assign (.Subscript o i pos) env v = (do
      let ov ← holding [v] (eval o env)  -- gw
      let iv ← holding [v, ov] (eval i env)  -- gw
      standAt pos
      holding [v, ov, iv] (setItem ov iv v)  -- gw
      release [v, ov, iv] []) := by intro v; cases i <;> first | rfl | cases h
theorem ss_seti {i : Nat} {x : Str} {p p2 pos : Pos} {kx : Expr} {ik : IE} (so : SOk T G XR n N sc W X) (h : chkS N T G sc (.seti i ik ie) (.Assign [.Subscript (.Name x p) kx p2] e pos) = true) : SS T n XR X W (.seti i ik ie) (.Assign [.Subscript (.Name x p) kx p2] e pos) := by
  intro args σ ρ H D f P
  have xo := so.xo
  simp only [chkS, Bool.and_eq_true, decide_eq_true_eq, Bool.not_eq_true'] at h
  obtain ⟨⟨⟨⟨⟨⟨h1, h2⟩, h3⟩, h4⟩, h5⟩, h6⟩, h7⟩ := h  -- gw
  have pv : PE X (.Name x p) (tVar i) := pe_var (by rw [xo.hN]; exact h1) (vis_of (by rw [xo.sc]; exact h2)) (nm_of h3).1 (nm_of h3).2
  refine WS.of (ps_asg WE.pe (pg_sub pv WE.pe set_list (asg_sub h5)) (sws_false h4) (by cases e <;> rfl) rfl) ((all_e ie _ _ _ _ xo h7).1.sf args σ ρ H _ f (PostS.st P fun d ρ1 _ P1 => fun v H1 g w => ?_))
  obtain ⟨o0, e0, P2⟩ := PostS.o P1
  obtain ⟨v0, ev0, w0⟩ := g.fr.at_ i o0 e0
  refine ⟨v0, ev0, (all_e ik _ _ _ _ xo h6).1 args σ ρ1 H1 _ g.fr (PostS.st' g P2 fun ko ρ2 _ P3 => fun kv H2 g2 w2 => ?_)⟩
  obtain ⟨r, e3, P4⟩ := PostS.o P3
  obtain ⟨o1, e4, e5⟩ := Option.bind_eq_some_iff.mp e3
  obtain ⟨v1, ev1, w1⟩ := g2.fr.at_ i o1 e4
  rw [ev0] at ev1
  cases ev1
  cases o1 with
  | fz _ => simp only [setF] at e5; cases e5
  | dc _ => exact w1.elim
  | ls ds =>
    cases ko with
    | ls _ => simp only [setF] at e5; cases e5
    | dc _ => exact w2.elim
    | fz kd =>
      cases kd <;> first | (simp only [setF] at e5; cases e5; done) | skip
      rename_i j _
      simp only [setF] at e5
      obtain ⟨q, e6, rfl⟩ := Option.map_eq_some_iff.mp e5
      obtain ⟨a, vs, rfl, hv, rr⟩ := id w1
      have g3 := g.trans g2
      have kw : Kp (fun b => b = a) H2 (upd H2 a (.lst (vs.set q v))) := Kp.write hv id rfl
      refine ⟨a, vs, j, q, rfl, int_of w2, hv, by rw [rr.length]; exact e6, P4 σ _ ?_⟩
      exact (noF0 g3).put (P := fun b => b = a) e4 ev0 kw (fun b e => ⟨rfl, by rw [e]⟩) (y := .ls (ds.set q d)) ⟨a, _, rfl, upd_same, (rr.keep kw.still).set ((w.keep g2.kp.still).keep kw.still) q⟩ fun b z => ⟨rfl, z.2⟩
theorem ss_app {i : Nat} {x m : Str} {p p2 p3 pos : Pos} (so : SOk T G XR n N sc W X) (h : chkS N T G sc (.app i ie) (.Expr (.Call (.Attribute (.Name x p) m p2) [e] [] p3) pos) = true) : SS T n XR X W (.app i ie) (.Expr (.Call (.Attribute (.Name x p) m p2) [e] [] p3) pos) := by
  intro args σ ρ H D f P
  have xo := so.xo
  simp only [chkS, Bool.and_eq_true, decide_eq_true_eq] at h
  obtain ⟨⟨⟨⟨⟨⟨h1, h2⟩, h3⟩, h4⟩, h5⟩, h6⟩, h7⟩ := h  -- gw
  obtain rfl := eq_of_beq h4
  have pv : PE X (.Name x p) (tVar i) := pe_var (by rw [xo.hN]; exact h1) (vis_of (by rw [xo.sc]; exact h2)) (nm_of h3).1 (nm_of h3).2
  have pe : PE X (.Call (.Attribute (.Name x p) ("append" : Str) p2) [e] [] p3) _ := pe_bm PySem.F.plainAttrs_list PySem.F.slot_list_append PySem.F.type_list_append mt_append pv (pa_cons WE.pe pa_nil (star_plain h5)) rfl (by rw [star_plain h5]; rfl) h6 (star_plain h5) rfl
  obtain ⟨es, e0, P0⟩ := PostS.o P
  obtain ⟨o0, e1, e2⟩ := Option.bind_eq_some_iff.mp e0
  obtain ⟨v0, ev0, w0⟩ := f.at_ i o0 e1
  obtain ⟨a0, vs0, rfl, hq0, _⟩ := litems_of w0 e2
  refine WS.of (ps_expr pe rfl) ⟨.ref a0, ev0, .inl ⟨rfl, vs0, hq0⟩, ?_⟩
  refine (all_e ie _ _ _ _ xo h7).1.sf args σ ρ H _ f (PostS.st P0 fun d ρ1 _ P1 => fun v H1 g w => ?_)
  obtain ⟨r, e3, P2⟩ := PostS.o P1
  obtain ⟨o1, e4, e5⟩ := Option.bind_eq_some_iff.mp e3
  obtain ⟨v1, ev1, w1⟩ := g.fr.at_ i o1 e4
  rw [ev0] at ev1
  cases ev1
  cases o1 with
  | fz _ => simp only [appF] at e5; cases e5
  | dc _ => exact w1.elim
  | ls ds =>
    simp only [appF] at e5
    split at e5
    · rename_i hlen
      cases e5
      obtain ⟨a, vs, q, hv, rr⟩ := id w1
      cases q
      have kw : Kp (fun b => b = a0) H1 (upd H1 a0 (.lst (vs ++ [v]))) := Kp.write hv id rfl
      refine ⟨a0, vs, v, rfl, rfl, hv, by rw [rr.length, sizeLine_eq]; exact hlen, P2 σ _ ?_⟩
      exact (g.put (P := fun b => b = a0) e4 ev0 kw (fun b e => ⟨rfl, by rw [e]⟩) (y := .ls (ds ++ [d])) ⟨a0, _, rfl, upd_same, (rr.keep kw.still).append (.cons (w.keep kw.still) .nil)⟩ fun b z => ⟨rfl, z.2⟩)
    · cases e5
theorem ss_ext {i : Nat} {x m : Str} {p p2 p3 pos : Pos} (so : SOk T G XR n N sc W X) (h : chkS N T G sc (.ext i ie) (.Expr (.Call (.Attribute (.Name x p) m p2) [e] [] p3) pos) = true) : SS T n XR X W (.ext i ie) (.Expr (.Call (.Attribute (.Name x p) m p2) [e] [] p3) pos) := by
  intro args σ ρ H D f P
  have xo := so.xo
  simp only [chkS, Bool.and_eq_true, decide_eq_true_eq] at h
  obtain ⟨⟨⟨⟨⟨⟨h1, h2⟩, h3⟩, h4⟩, h5⟩, h6⟩, h7⟩ := h  -- gw
  obtain rfl := eq_of_beq h4
  have pv : PE X (.Name x p) (tVar i) := pe_var (by rw [xo.hN]; exact h1) (vis_of (by rw [xo.sc]; exact h2)) (nm_of h3).1 (nm_of h3).2
  have pe : PE X (.Call (.Attribute (.Name x p) ("extend" : Str) p2) [e] [] p3) _ := pe_bm PySem.F.plainAttrs_list PySem.F.slot_list_extend PySem.F.type_list_extend mt_extend pv (pa_cons WE.pe pa_nil (star_plain h5)) rfl (by rw [star_plain h5]; rfl) h6 (star_plain h5) rfl
  have P : PostS X.K args XR W σ ρ H D ((ofO ((rd ρ i).bind litems) ρ).st fun _ ρ => (ev (callN T n) ie ρ).st fun p ρ1 => (ofO ((rd ρ1 i).bind fun o => extF o p) ρ1).st fun o ρ2 => .nx (putO ρ2 i o)) := by
    cases ie <;> first | exact P | exact P.elim
  obtain ⟨es, e0, P0⟩ := PostS.o P
  obtain ⟨o0, e1, e2⟩ := Option.bind_eq_some_iff.mp e0
  obtain ⟨v0, ev0, w0⟩ := f.at_ i o0 e1
  obtain ⟨a0, vs0, rfl, hq0, _⟩ := litems_of w0 e2
  refine WS.of (ps_expr pe rfl) ⟨.ref a0, ev0, .inl ⟨rfl, vs0, hq0⟩, ?_⟩
  refine (all_e ie _ _ _ _ xo h7).1 args σ ρ H _ f (PostS.st P0 fun d ρ1 _ P1 => fun v H1 g w => ?_)
  obtain ⟨r, e3, P2⟩ := PostS.o P1
  obtain ⟨o1, e4, e5⟩ := Option.bind_eq_some_iff.mp e3
  obtain ⟨v1, ev1, w1⟩ := g.fr.at_ i o1 e4
  rw [ev0] at ev1
  cases ev1
  unfold extF at e5
  split at e5
  · rename_i ds zs
    split at e5
    · rename_i hlen
      cases e5
      obtain ⟨a, vs, q, hv, rr⟩ := id w1
      cases q
      obtain ⟨b, us, rfl, hb, rb⟩ := w
      have kw : Kp (fun b => b = a0) H1 (upd H1 a0 (.lst (vs ++ us))) := Kp.write hv id rfl
      refine ⟨a0, b, vs, us, rfl, rfl, hv, hb, by rw [rr.length, rb.length]; exact fits_of hlen, P2 σ _ ?_⟩
      exact ((g.drop (F1 := fun _ => False) fun c z => z.elim).put (P := fun b => b = a0) e4 ev0 kw (fun b e => ⟨rfl, by rw [e]⟩) (y := .ls (_ ++ _)) ⟨a0, _, rfl, upd_same, (rr.keep kw.still).append (rb.keep kw.still)⟩ fun b z => ⟨rfl, z.2⟩)
    · cases e5
  · cases e5
theorem ss_ret {pos : Pos} (so : SOk T G XR n N sc W X) (h : chkE N T G sc ie e = true) : SS T n XR X W (.ret ie) (.Return (some e) pos) := by
  intro args σ ρ H D f P
  have xo := so.xo
  have gen : PostS X.K args XR W σ ρ H D ((ev (callN T n) ie ρ).st .rt) → WS X (.Return (some e) pos) D σ H := fun P =>
    WS.of (ps_ret WE.pe) ((all_e ie _ _ _ _ xo h).1 args σ ρ H _ f (PostS.st P fun o ρ1 _ P1 => fun v H1 g w => P1 v σ H1 g w))
  by_cases hl : ∃ i, ie = .loc i
  · obtain ⟨i, rfl⟩ := hl
    have P : PostS X.K args XR W σ ρ H D (retLoc i ρ) := P
    unfold retLoc at P
    split at P
    · rename_i ds hr
      obtain ⟨x, p, rfl, c1, c2, c3⟩ := chk_loc xo h i rfl
      have e1 : rd ρ i = some (.ls ds) := by unfold rd; rw [hr]; rfl
      obtain ⟨v, ev0, w⟩ := f.at_ i _ e1
      refine WS.of (ps_ret (pe_var c1 (vis_of c2) (nm_of c3).1 (nm_of c3).2)) ⟨v, ev0, P v σ H ?_ w⟩
      refine ⟨.refl, f.un i, fun a z => ?_, fun a z => .inl (z.elim Own.un fun z => ⟨i, _, e1, z.1, by rw [ev0, z.2]⟩)⟩
      rintro ⟨j, o', b1, b2, b3⟩
      unfold unS at b1
      rw [rd_set] at b1
      split at b1
      · cases b1
      · rename_i hh
        have := f.inj j i a ⟨o', b1, b2, b3⟩ ⟨_, e1, z.1, by rw [ev0, z.2]⟩
        subst this
        exact hh ⟨rfl, rd_lt e1⟩
    · exact gen P
  · exact gen (by cases ie <;> first | exact P | exact absurd ⟨_, rfl⟩ hl)
/-- the frames of a block's turn -/
theorem gotB {K : PySem.W.Frag} {args : Ar} {σ σ1 σ2 : St} {ρ ρ1 ρ2 : Fm} {H H1 : Hp} (g : Got K args σ ρ H σ1 ρ1 H1 (fun _ => False)) (f : FrOk K args H1 σ2 ρ2) (o : ∀ a, Own σ2 ρ2 a → Own σ1 ρ1 a) : Got K args σ ρ H σ2 ρ2 H1 (fun _ => False) :=
  ⟨g.kp, f, fun _ z => z.elim, fun a z => z.elim (fun z => g.fre a (.inl (o a z))) fun z => z.elim⟩
theorem ss_iff {c : Expr} {ic : IE} {a b : ISs} {x y : List Stmt} {pos : Pos} (so : SOk T G XR n N sc W X) (ht : tstB c = true) (h : chkE N T G sc ic c = true) (ha : SSs T n XR X W a x) (hb : SSs T n XR X W b y) : SS T n XR X W (.iff ic a b) (.If c x y pos) := by
  intro args σ ρ H D f P
  refine WS.of (ps_if WT.pt WSs.pss WSs.pss) ((all_e ic _ _ _ _ so.xo h).2.1 ht args σ ρ H _ f (PostS.st P fun k ρ1 _ P1 => fun H1 g => ?_))
  cases k with
  | true => rw [if_pos rfl]; exact ha args σ ρ1 H1 D g.fr (P1.later g)
  | false => rw [if_neg Bool.false_ne_true]; exact hb args σ ρ1 H1 D g.fr (P1.later g)
/-- behind a for: the hidden list is shown again -/
theorem got_unhide {K : PySem.W.Frag} {args : Ar} {it : II} {σ σ1 σ' : St} {ρ ρ1 ρ' : Fm} {H H1 H' : Hp} {F F1 : Addr → Prop} (g : Got K args σ ρ H σ1 ρ1 H1 F1) (g' : Got K (hideA it σ1 args) σ1 (hide it ρ1) H1 σ' ρ' H' F) : Got K args σ ρ H σ' (unhide ρ1 it ρ') H' F := by
  have hidden : ∀ a, Own σ1 (hide it ρ1) a → Own σ1 ρ1 a := fun a z => by
    cases it with
    | lok i => exact z.set.elim (fun ⟨o, v, e, _⟩ => nomatch e) id
    | _ => exact z
  obtain ⟨f6, o6⟩ := unhide_ok g.fr g'.fr g'.kp fun a z => g'.fre a (.inl z)
  have own6 : ∀ a, Own σ' (unhide ρ1 it ρ') a ∨ F a → Own σ1 ρ1 a ∨ H1 a = none := fun a z => z.elim (fun z => (o6 a z).elim (fun z => .inl z.1) fun z => (g'.fre a (.inl z)).imp (hidden a) id) fun z => (g'.fre a (.inr z)).imp (hidden a) id
  refine ⟨g.kp.trans (g'.kp.mono hidden) fun c z => g.fre c (.inl z), f6, fun a fa z => ?_, fun a z => ?_⟩
  · rcases o6 a z with y | y
    · rcases g'.fre a (.inr fa) with q | q
      · exact y.2 q
      · obtain ⟨u, e, _⟩ := y.1.there g.fr
        rw [q] at e; cases e
    · exact g'.dis a fa y
  · rcases own6 a z with y | y
    · exact g.fre a (.inl y)
    · exact .inr (g.kp.free y)
theorem ss_fr {t : Tg} {it : II} {b : ISs} {ks : List Nat} {tg i : Expr} {body : List Stmt} {pos : Pos} (so : SOk T G XR n N sc W X) (h : chkI N T G sc it i = true) (hz : zipB it tg = true) (hp : plainE i = true) (ht : chkT N sc t tg = true) (hb : SSs T n XR X W b body) :
    SS T n XR X W (.fr t it b ks) (.For tg i body [] pos) := by
  intro args σ ρ H D f P
  have xo := so.xo
  refine WS.of (ps_for so.pas xo.calm WI.pi (pg_of xo.hN xo.nd xo.calm so.tg ht) WSs.pss (folded_plain hp)) (all_i it _ _ _ _ xo h tg hz args σ ρ H _ f (PostS.st P fun ds ρ1 _ P1 => fun J H1 U F g fh hU src => ?_))
  refine ⟨fun i m σi Hi => m = ds.length - i ∧ i ≤ ds.length ∧ ∃ ρi, Got X.K (hideA it σ args) σ (hide it ρ1) H1 σi ρi Hi (fun _ => False) ∧ PostS X.K args XR W σ ρ H D ((frF (asgF t) (exSs (callN T n) b) ks (ds.drop i) ρi).map (unhide ρ1 it)),
    ⟨ds.length, by rw [Nat.sub_zero], Nat.zero_le _, _, Got.refl fh, P1⟩, ?_⟩
  rintro i m σi Hi ⟨rfl, hle, ρi, gi, P2⟩
  have lean : Lean H1 Hi U := fun a u e h => by
    rcases h with h | h
    · exact gi.kp.still a u e h
    · exact gi.kp.rest a u e (hU a h)
  by_cases hlt : i < ds.length
  · refine .inr ?_
    have ed : ds[i]? = some ds[i] := List.getElem?_eq_getElem hlt
    obtain ⟨go, yld⟩ := src.go i ds[i] Hi ed lean
    rw [List.drop_eq_getElem_cons hlt] at P2
    refine ⟨go, fun σ' H' => (ds.length - (i + 1) = ds.length - (i + 1)) ∧ i + 1 ≤ ds.length ∧ ∃ ρi, Got X.K (hideA it σ args) σ (hide it ρ1) H1 σ' ρi H' (fun _ => False) ∧ PostS X.K args XR W σ ρ H D ((frF (asgF t) (exSs (callN T n) b) ks (ds.drop (i + 1)) ρi).map (unhide ρ1 it)),
      fun σ' H' h' => ⟨ds.length - (i + 1), by omega, h'⟩, fun xv H3 y => ?_⟩
    obtain ⟨k3, w3⟩ := yld xv H3 y
    have g3 := gi.ext k3
    unfold frF at P2
    cases ea : asgF t ds[i] ρi with
    | none => simp only [ea] at P2; exact P2.elim
    | some ρa =>
      simp only [ea] at P2
      refine tg_run g3.fr w3 ea fun σ2 f2 o2 s2 l2 => ?_
      have gA := gotB g3 f2 o2
      refine hb _ σ2 ρa H3 _ f2 ?_
      cases eb : exSs (callN T n) b ρa with
      | bad => rw [eb] at P2; exact P2.elim
      | nx ρ4 => rw [eb] at P2; exact fun σ' H' g' => ⟨rfl, hlt, _, (gA.trans g').kill, P2⟩
      | ct ρ4 => rw [eb] at P2; exact fun σ' H' g' => ⟨rfl, hlt, _, (gA.trans g').kill, P2⟩
      | bk ρ4 => rw [eb] at P2; exact fun σ' H' g' => P2 σ' H' (got_unhide g (gA.trans g').kill)
      | rt o ρ4 => rw [eb] at P2; exact fun v σ' H' g' w => P2 v σ' H' (got_unhide g (gA.trans g')) w
      | ex e ρ4 => rw [eb] at P2; exact fun c d σ' H' g' w => P2 c d σ' H' (got_unhide g (gA.trans g')) w
  · have ei : i = ds.length := by omega
    subst ei
    rw [List.drop_length] at P2
    exact .inl ⟨src.stop Hi lean, P2 σi Hi (got_unhide g gi)⟩
theorem ss_wh {c : Expr} {ic : IE} {b : ISs} {ks : List Nat} {body : List Stmt} {pos : Pos} (so : SOk T G XR n N sc W X) (ht : tstB c = true) (h : chkE N T G sc ic c = true) (hb : SSs T n XR X W b body) : SS T n XR X W (.wh ic b ks) (.While c body [] pos) := by
  intro args σ ρ H D f P
  have xo := so.xo
  refine WS.of (ps_while so.pas WT.pt WSs.pss) ⟨fun m σi Hi => ∃ ρi, Got X.K args σ ρ H σi ρi Hi (fun _ => False) ∧ PostS X.K args XR W σ ρ H D (whF (tst ic (ev (callN T n) ic)) (exSs (callN T n) b) ks m ρi), ⟨wfuel, ρ, Got.refl f, P⟩, ?_⟩
  rintro m σi Hi ⟨ρi, gi, P2⟩
  cases m with
  | zero => exact P2.elim
  | succ m =>
    refine (all_e ic _ _ _ _ xo h).2.1 ht args σi ρi Hi _ gi.fr (PostS.st' gi P2 fun k ρ2 _ P3 => fun H2 g2 => ?_)
    have gA := gi.trans g2
    cases k with
    | false => rw [if_neg Bool.false_ne_true] at P3 ⊢; exact P3 σi H2 gA
    | true =>
      rw [if_pos rfl] at P3 ⊢
      refine ⟨fun σ' H' => ∃ ρi, Got X.K args σ ρ H σ' ρi H' (fun _ => False) ∧ PostS X.K args XR W σ ρ H D (whF (tst ic (ev (callN T n) ic)) (exSs (callN T n) b) ks m ρi), fun σ' H' h' => ⟨m, Nat.lt_succ_self m, h'⟩, ?_⟩
      refine hb _ σi ρ2 H2 _ gA.fr ?_
      cases eb : exSs (callN T n) b ρ2 with
      | bad => rw [eb] at P3; exact P3.elim
      | nx ρ4 => rw [eb] at P3; exact fun σ' H' g' => ⟨_, (gA.trans g').kill, P3⟩
      | ct ρ4 => rw [eb] at P3; exact fun σ' H' g' => ⟨_, (gA.trans g').kill, P3⟩
      | bk ρ4 => rw [eb] at P3; exact fun σ' H' g' => P3 σ' H' (gA.trans g').kill
      | rt o ρ4 => rw [eb] at P3; exact fun v σ' H' g' w => P3 v σ' H' (gA.trans g') w
      | ex e ρ4 => rw [eb] at P3; exact fun c d σ' H' g' w => P3 c d σ' H' (gA.trans g') w
end
section
variable {T : List Df} {G : List (Str × D)} {n : Nat} {XR : XRT} {N : List Str} {X : Cx} {W : WX}
mutual
theorem all_s : ∀ (is : IS) (sc : Scope) (st : Stmt), SOk T G XR n N sc W X → chkS N T G sc is st = true → SS T n XR X W is st
  | .asg i e, sc, st, so, h => by
    have h' := h
    unfold chkS at h'
    split at h' <;> first | (exact absurd h' Bool.false_ne_true) | (rename_i hq; cases hq; done) | (rename_i hq; cases hq)
    exact ss_asg so h
  | .asgT t e, sc, st, so, h => by
    have h' := h
    unfold chkS at h'
    split at h' <;> first | (exact absurd h' Bool.false_ne_true) | (rename_i hq; cases hq; done) | (rename_i hq; cases hq)
    exact ss_asgT so h
  | .aug i op e, sc, st, so, h => by
    have h' := h
    unfold chkS at h'
    split at h' <;> first | (exact absurd h' Bool.false_ne_true) | (rename_i hq; cases hq; done) | (rename_i hq; cases hq)
    exact ss_aug so h
  | .seti x k e, sc, st, so, h => by
    have h' := h
    unfold chkS at h'
    split at h' <;> first | (exact absurd h' Bool.false_ne_true) | (rename_i hq; cases hq; done) | (rename_i hq; cases hq)
    exact ss_seti so h
  | .ext x e, sc, st, so, h => by
    have h' := h
    unfold chkS at h'
    split at h' <;> first | (exact absurd h' Bool.false_ne_true) | (rename_i hq; cases hq; done) | (rename_i hq; cases hq)
    exact ss_ext so h
  | .app x e, sc, st, so, h => by
    have h' := h
    unfold chkS at h'
    split at h' <;> first | (exact absurd h' Bool.false_ne_true) | (rename_i hq; cases hq; done) | (rename_i hq; cases hq)
    exact ss_app so h
  | .exp e, sc, st, so, h => by
    have h' := h
    unfold chkS at h'
    split at h' <;> first | (exact absurd h' Bool.false_ne_true) | (rename_i hq; cases hq; done) | (rename_i hq; cases hq)
    rw [Bool.and_eq_true, Bool.not_eq_true'] at h'
    intro args σ ρ H D f P
    exact WS.of (ps_expr WE.pe (sw_false h'.1)) ((all_e e _ _ _ _ so.xo h'.2).1 args σ ρ H _ f (PostS.st P fun o ρ1 _ P1 => fun v H1 g w => P1 σ H1 (noF0 g)))
  | .ret e, sc, st, so, h => by
    have h' := h
    unfold chkS at h'
    split at h' <;> first | (exact absurd h' Bool.false_ne_true) | (rename_i hq; cases hq; done) | (rename_i hq; cases hq)
    exact ss_ret so h'
  | .retn, sc, st, so, h => by
    have h' := h
    unfold chkS at h'
    split at h' <;> first | (exact absurd h' Bool.false_ne_true) | (rename_i hq; cases hq; done) | (rename_i hq; cases hq)
    intro args σ ρ H D f P
    exact WS.of ps_retN (P .non σ H (noF (Got.refl f)) .non)
  | .iff c a b, sc, st, so, h => by
    have h' := h
    unfold chkS at h'
    split at h' <;> first | (exact absurd h' Bool.false_ne_true) | (rename_i hq; cases hq; done) | (rename_i hq; cases hq)
    simp only [Bool.and_eq_true] at h'  -- gw
    exact ss_iff so h'.1.1.1 h'.1.1.2 (all_ss a _ _ so h'.1.2) (all_ss b _ _ so h'.2)
  | .fr t it b ks, sc, st, so, h => by
    have h' := h
    unfold chkS at h'
    split at h' <;> first | (exact absurd h' Bool.false_ne_true) | (rename_i hq; cases hq; done) | (rename_i hq; cases hq)
    simp only [Bool.and_eq_true] at h'  -- gw
    exact ss_fr so h'.1.1.1.1 h'.1.1.1.2 h'.1.1.2 h'.1.2 (all_ss b _ _ so h'.2)
  | .wh c b ks, sc, st, so, h => by
    have h' := h
    unfold chkS at h'
    split at h' <;> first | (exact absurd h' Bool.false_ne_true) | (rename_i hq; cases hq; done) | (rename_i hq; cases hq)
    simp only [Bool.and_eq_true] at h'  -- gw
    exact ss_wh so h'.1.1 h'.1.2 (all_ss b _ _ so h'.2)
  | .brk, sc, st, so, h => by
    have h' := h
    unfold chkS at h'
    split at h' <;> first | (exact absurd h' Bool.false_ne_true) | (rename_i hq; cases hq; done) | skip
    intro args σ ρ H D f P
    exact WS.of ps_break (P σ H (Got.refl f))
  | .cnt, sc, st, so, h => by
    have h' := h
    unfold chkS at h'
    split at h' <;> first | (exact absurd h' Bool.false_ne_true) | (rename_i hq; cases hq; done) | skip
    intro args σ ρ H D f P
    exact WS.of ps_continue (P σ H (Got.refl f))
  | .nev, sc, st, so, h => fun args σ ρ H D f P => P.elim
  | .pas, sc, st, so, h => by
    have h' := h
    unfold chkS at h'
    split at h' <;> first | (exact absurd h' Bool.false_ne_true) | (rename_i hq; cases hq; done) | skip
    · intro args σ ρ H D f P
      exact WS.of ps_pass (P σ H (Got.refl f))
    · intro args σ ρ H D f P
      exact WS.of ps_doc (P σ H (Got.refl f))
theorem all_ss : ∀ (is : ISs) (sc : Scope) (st : List Stmt), SOk T G XR n N sc W X → chkSs N T G sc is st = true → SSs T n XR X W is st
  | .nil, sc, st, so, h => by
    cases st with
    | cons _ _ => simp only [chkSs] at h; cases h
    | nil => exact fun args σ ρ H D f P => WSs.of pss_nil (P σ H (Got.refl f))
  | .cons s ss, sc, st, so, h => by
    cases st with
    | nil => simp only [chkSs] at h; cases h
    | cons x xs =>
      simp only [chkSs, Bool.and_eq_true] at h
      intro args σ ρ H D f P
      refine WSs.of (pss_cons WS.ps WSs.pss) (all_s s _ _ so h.1 args σ ρ H _ f ?_)
      have P : PostS X.K args XR W σ ρ H D ((exS (callN T n) s ρ).seq (exSs (callN T n) ss)) := P
      cases e : exS (callN T n) s ρ with
      | nx ρ1 => rw [e] at P; exact fun σ' H' g => all_ss ss _ _ so h.2 args σ' ρ1 H' D g.fr (P.later g)
      | rt _ _ => rw [e] at P; exact P
      | bk _ => rw [e] at P; exact P
      | ct _ => rw [e] at P; exact P
      | ex _ _ => rw [e] at P; exact P
      | bad => rw [e] at P; exact P
  | .kil ks ss, sc, st, so, h => by
    simp only [chkSs] at h
    exact fun args σ ρ H D f P => all_ss ss _ _ so h args σ (kill ks ρ) H D (f.kill ks) (PostS.later (Got.refl f).kill P)
end
end
end GW

/-! GW, part 13: the program's functions; a law over it. -/
namespace GW
open PySem PySem.Spec PyProof.Rows L2  -- gw
/-! ### the frame at a function's entry -/
section
variable {K : PySem.W.Frag} {H H' : Hp} {vs : List V} {os : List O} {N : List Str}
theorem paired_get {R : V → O → Prop} : ∀ {vs : List V} {os : List O} {i : Nat} {o : O}, Paired R vs os → os[i]? = some o → ∃ v, vs[i]? = some v ∧ R v o
  | _, _, _, _, .nil, h => by simp at h
  | _, _, 0, _, .cons r _, h => ⟨_, rfl, by simp at h; exact h ▸ r⟩
  | _, _, i + 1, _, .cons _ t, h => by
    obtain ⟨v, e, r⟩ := paired_get t (i := i) (by simpa using h)
    exact ⟨v, by simpa using e, r⟩
theorem frame0_get {n i : Nat} : (frame0 n os)[i]? = if i < os.length then (os[i]?).map Sl.pa else if i < os.length + (n - os.length) then some .un else none := by
  unfold frame0
  split
  · rename_i h
    rw [List.getElem?_append_left (by simpa using h), List.getElem?_map]
  · rename_i h
    rw [List.getElem?_append_right (by simpa using h), List.getElem?_replicate, List.length_map]
    by_cases h2 : i < os.length + (n - os.length)
    · rw [if_pos h2, if_pos (by omega)]
    · rw [if_neg h2, if_neg (by omega)]
theorem start_get {i : Nat} {v : V} (h : vs[i]? = some v) : (start N vs)[i]? = some (some v) := by
  unfold L2.start
  have hi := (List.getElem?_eq_some_iff.mp h).1
  rw [List.getElem?_append_left (by simpa using hi), List.getElem?_map, h]; rfl
theorem rd_frame0 {n i : Nat} {o : O} (h : rd (frame0 n os) i = some o) : os[i]? = some o := by
  unfold rd at h
  rw [frame0_get] at h
  split at h
  · cases e : os[i]? with
    | none => rw [e] at h; cases h  -- gw
    | some x => rw [e] at h; cases h; rfl
  · split at h <;> cases h
theorem own_start {n : Nat} {a : Addr} {i : Nat} (A : ArgOk K H vs os) (h : OwnAt (start N vs) (frame0 n os) i a) : AtFt vs os i a := by
  obtain ⟨o, e, q, z⟩ := h
  have e1 := rd_frame0 e
  obtain ⟨v, e2, _⟩ := paired_get A.all e1
  rw [start_get e2] at z
  cases z
  exact ⟨_, _, e2, e1, q, rfl⟩
theorem frame_ok (A : ArgOk K H vs os) : FrOk K ⟨vs, fun _ => none⟩ H (start N vs) (frame0 N.length os) := by
  have hl := A.all.length
  refine ⟨?_, fun i o e => ?_, fun i o e => ?_, fun i e => ?_, fun i j a h1 h2 => A.inj i j a (own_start A h1) (own_start A h2)⟩
  · unfold L2.start frame0
    simp only [List.length_append, List.length_map, List.length_replicate, hl]
  · obtain ⟨v, e2, w⟩ := paired_get A.all (rd_frame0 e)
    exact ⟨v, start_get e2, w⟩
  · have e1 : rd (frame0 N.length os) i = some o := by unfold rd; rw [e]; rfl
    obtain ⟨v, e2, w⟩ := paired_get A.all (rd_frame0 e1)
    exact ⟨v, start_get e2, e2⟩
  · rw [frame0_get] at e
    split at e
    · cases q : os[i]? with
      | none => rw [q] at e; cases e  -- gw
      | some x => rw [q] at e; cases e
    · split at e <;> cases e
theorem fins_get : ∀ {os : List O} {ρ : Fm} {i : Nat} {x : O}, (fins os ρ)[i]? = some (some x) → ∃ o, os[i]? = some o ∧ o.own = true ∧ ρ[i]? = some (.pa x)
  | [], ρ, i, x, h => by unfold fins at h; simp at h
  | o :: os, [], i, x, h => by cases o <;> (unfold fins at h; simp at h)
  | o :: os, s :: ρ, 0, x, h => by
    cases o with
    | fz _ => unfold fins at h; simp at h
    | ls _ => cases s <;> (unfold fins at h; simp at h) <;> exact ⟨_, rfl, rfl, by simp [h]⟩
    | dc _ => cases s <;> (unfold fins at h; simp at h) <;> exact ⟨_, rfl, rfl, by simp [h]⟩
  | o :: os, s :: ρ, i + 1, x, h => by
    have h' : (fins os ρ)[i]? = some (some x) := by
      cases o with
      | fz _ => unfold fins at h; simpa using h
      | ls _ => cases s <;> (unfold fins at h; simpa using h)
      | dc _ => cases s <;> (unfold fins at h; simpa using h)
    obtain ⟨o', e1, e2, e3⟩ := fins_get h'
    exact ⟨o', by simpa using e1, e2, by simpa using e3⟩
section
variable {args : Ar} {σ' : St} {ρ' : Fm} {F : Addr → Prop}
theorem fins_ok (ha : args.vs = vs) (f : FrOk K args H' σ' ρ') : PsOk K H' vs os (fins os ρ') := fun i x h => by
  obtain ⟨o, e1, e2, e3⟩ := fins_get h
  obtain ⟨v, ev, ea⟩ := f.pa_ i x e3
  obtain ⟨v2, ev2, w⟩ := f.at_ i x (by unfold rd; rw [e3]; rfl)
  rw [ev] at ev2
  cases ev2
  exact ⟨v, o, by rw [← ha]; exact ea, e1, e2, w⟩
theorem fins_own (ha : args.vs = vs) (f : FrOk K args H' σ' ρ') {a : Addr} (h : FtP vs (fins os ρ') a) : Own σ' ρ' a := by
  obtain ⟨i, v, x, e0, e1, e2⟩ := h
  obtain ⟨o, _, _, e3⟩ := fins_get e1
  obtain ⟨v', ev, ea⟩ := f.pa_ i x e3
  rw [ha, e0] at ea
  cases ea
  exact ⟨i, x, by unfold rd; rw [e3]; rfl, e2.1, by rw [ev, e2.2]⟩
end
theorem postS_of {XR : XRT} {Q : VK} {E : XK} {r : SR} (A : ArgOk K H vs os) (P : PostC K XR vs os H Q E (ends os r)) :
    PostS K ⟨vs, fun _ => none⟩ XR (fun c d _ H' => E c d H') (start N vs) (frame0 N.length os) H { nx := fun _ H' => Q .non H', rt := Q } r := by
  have sub : ∀ a, Own (start N vs) (frame0 N.length os) a → FtL vs os a := fun a ⟨i, q⟩ => ⟨i, own_start A q⟩
  cases r with
  | nx ρ' => exact fun σ' H' g => P .non H' (g.kp.mono sub) (fins_ok rfl g.fr) .non (fun a z => nomatch z.1) (fun a z => nomatch z.1)
  | rt o ρ' => exact fun v σ' H' g w => P v H' (g.kp.mono sub) (fins_ok rfl g.fr) w (fun a z q => g.dis a z (fins_own rfl g.fr q)) fun a z => (g.fre a (.inr z)).imp (sub a) id
  | ex e ρ' => exact fun c d σ' H' g x => P c d H' (g.kp.mono sub) (fins_ok rfl g.fr) x
  | bk _ => exact P.elim
  | ct _ => exact P.elim
  | bad => exact P.elim
end
/-! ### a def -/
structure DefOk (T : List Df) (G : List (Str × D)) (d : Df) (st : Stmt) : Prop where
  sc : FnScope d.N (d.N.take d.np) (defScope st)
  np : (d.N.take d.np).length = d.np
  body : chkSs d.N T G (defScope st) d.body (defBody st) = true
theorem fn_g {T : List Df} {G : List (Str × D)} {XR : XRT} {P : Program} {w : World} {K : PySem.W.Frag} {mg : Str → Option Value} {base : Heap} {n fi : Nat} {d : Df} {st : Stmt} {f : Addr} {fd : FuncData} (g : GOk T G XR n P w K mg base) (hd : T[fi]? = some d) (ok : DefOk T G d st) (F : Fun K d.name d.name st f fd) :
    FnG XR P w K mg base (n + 1) f fd (d.N.take d.np) (spF K XR T (n + 1) fi) := by
  obtain ⟨oc, od, kV, doc, pm, an, cdv, ct, osl, rfl, lk, hcd⟩ := F.ex  -- gw
  have S := ok.sc
  have hlen : ∀ vs H Q E, spF K XR T (n + 1) fi vs H Q E → vs.length = (d.N.take d.np).length := fun vs H Q E ⟨os, d', h1, h2, _⟩ => by
    rw [hd] at h1
    cases h1
    rw [ok.np]; exact h2
  refine ⟨hlen, ?_⟩
  intro A outer s H args us vs Q E hr gd e0 hb rv hsp
  have hl := hlen _ _ _ _ hsp
  have inK : K.In s.heap := e0.mod.kin.keeps fun b o e => (e0.bs b o e).1
  have noLim : s.heap.NoLimit := e0.mod.nolimit.keeps fun b o e => (e0.bs b o e).1
  refine codeAny_call_function hr.depth (inK _ _ lk) rfl S.co S.gen rfl (PySem.W.codeRec_of inK hcd) (hb _ _ _ _ ?_)
  refine wpAny_newFunctionEnv_cells S.kind (fun ⟨y, v⟩ hy => (S.par y (List.of_mem_zip hy).1).imp id fun q => ⟨q, PySem.W.cellsFrom_some _ _ _ (.inl q)⟩) fun env he s1 x => ?_
  subst he
  refine ⟨noLim.keeps x.toInCall.keep, codeAny_func ?_⟩
  obtain ⟨os, d', h1, h2, hA, hP⟩ := hsp
  rw [hd] at h1
  cases h1
  have hos : os.length = d.np := by rw [← hA.all.length]; exact h2
  have eC : callN T (n + 1) fi os = ends os (exSs (callN T n) d.body (frame0 d.N.length os)) := by
    show (match T[fi]? with | none => _ | some d => _) = _
    rw [hd]
    show (if os.length = d.np then _ else _) = _
    rw [if_pos hos]
  rw [eC] at hP
  have I : Inv (cxOf (L2.CX P w) P w K mg base d.N d.name (defScope st) f cdv A outer s H E) [] (start d.N vs) H s1 := inv_start S hr.hd e0 hl rv x
  have so : SOk T G XR n d.N (defScope st) (fun c e _ H' => E c e H') (cxOf (L2.CX P w) P w K mg base d.N d.name (defScope st) f cdv A outer s H E) :=
    ⟨⟨g, rfl, S.nd, rfl, rfl, takes_of rfl rfl rfl rfl, hr.deeper _, gd⟩, S.kind, fun y hy => ⟨(by
      unfold locB at hy
      split at hy
      · exact .inl (by assumption)
      · exact .inr (by assumption)
      · cases hy), .inl rfl⟩, passes_of rfl⟩
  refine wpAny_mono (all_ss d.body _ _ so ok.body _ _ _ _ _ (frame_ok hA) (postS_of hA hP) [] s1 I) (fun fl s' hs => ?_) fun e s' hs => hs
  cases fl with
  | ret u =>
    obtain ⟨v, σ', H', J, r, q⟩ := hs
    exact ⟨v, H', J.os, J.bare, J.base, J.hok, r, q⟩
  | next =>
    obtain ⟨σ', H', J, q⟩ := hs
    exact ⟨V.non, H', J.os, J.bare, J.base, J.hok, rfl, q⟩
  | brk => obtain ⟨_, _, _, q⟩ := hs; exact q.elim
  | cont => obtain ⟨_, _, _, q⟩ := hs; exact q.elim

/-! ### a def that tells a row of texts -/
section
variable {X : Cx} {es : List Expr} {t : TA} {pos : Pos}
def tTupF (t : TA) : TE := fun σ H Q => t σ H fun xs H1 => xs.length ≤ sizeLine ∧ ∀ p (o : Obj), H1 p = none → o.dict = none → o.cls = .type "tuple" → Q (.ref p) (upd H1 p (.frz o (.tup xs)))
theorem pe_tupF {x1} (h : PA X es t) : PE X (.Tuple es x1 pos) (tTupF t) := by
  refine ⟨fun pins s σ H Q I hq => ?_⟩  -- gw
  refine wpAny_Tuple_spliced (thn (h.run pos pins s σ H _ I hq) fun us s1 ⟨xs, H1, I1, r, z, q⟩ => ⟨by rw [← r.length]; exact z, ?_⟩)  -- gw
  have hf : H1 s1.heap.objs.size = none := I1.hok.fresh (Nat.le_refl _)  -- gw
  refine ⟨.ref s1.heap.objs.size, upd H1 s1.heap.objs.size (.frz { cls := .type "tuple", data := .seq us.toArray } (.tup xs)), I1.laid (t' := s1.toks) (fun b u e => Heap.get?_push_of_some _ e) (Nat.le_refl _) ?_, rfl, q _ _ hf rfl rfl⟩
  exact ⟨Heap.get?_push_size _ rfl, z, us, r, ⟨_, Heap.get?_push_size _ rfl, rfl, _, rfl⟩⟩
end
theorem cons_evDs {Φ : Nat → List O → CR} : ∀ (es : IEs) (ys : List Str) (ρ : Fm), consS es = some ys → evDs Φ es ρ = .ok (ys.map .str) ρ
  | .nil, ys, ρ, h => by
    unfold consS at h
    cases h
    rfl
  | .cons e r, ys, ρ, h => by
    unfold consS at h
    split at h
    · rename_i q; cases q
    · rename_i s r' q
      cases q
      obtain ⟨zs, h1, rfl⟩ := Option.map_eq_some_iff.mp h
      have := cons_evDs (Φ := Φ) r zs ρ h1
      unfold evDs
      show Res.bind (evDs Φ r ρ) _ = _
      rw [this]
      rfl
    · cases h
theorem strBody_of {b : ISs} {ys : List Str} (h : strBody b = some ys) : ∃ es, b = .cons (.ret (.tup es)) .nil ∧ consS es = some ys := by
  unfold strBody at h
  split at h
  · exact ⟨_, rfl, h⟩
  · cases h
theorem strs_only {K : PySem.W.Frag} {H : Hp} : ∀ {vs : List V} {ys : List Str}, RpA K H vs (ys.map .str) → vs = ys.map V.str
  | _, [], h => by cases h; rfl
  | _, y :: ys, h => by
    cases h with
    | cons a b => rw [str_of a, strs_only b]; rfl
theorem row_of {T : List Df} {G : List (Str × D)} {N : List Str} {sc : Scope} {es : IEs} {b : List Stmt} (h : chkSs N T G sc (.cons (.ret (.tup es)) .nil) b = true) : ∃ xs k p p2, b = [.Return (some (.Tuple xs k p)) p2] ∧ chkEs N T G sc es xs = true ∧ xs.length ≤ 10000 := by
  cases b with
  | nil => simp only [chkSs] at h; cases h
  | cons x r =>
    simp only [chkSs, Bool.and_eq_true] at h
    cases r with
    | cons _ _ => simp only [chkSs] at h; cases h.2
    | nil =>
      have h1 := h.1
      cases x <;> first | (simp only [chkS] at h1; cases h1; done) | skip
      rename_i v p2
      cases v with
      | none => simp only [chkS] at h1; cases h1
      | some v =>
        simp only [chkS] at h1
        cases v <;> first | (simp only [chkE] at h1; cases h1; done) | skip
        simp only [chkE, Bool.and_eq_true, decide_eq_true_eq] at h1
        exact ⟨_, _, _, _, rfl, h1.1, h1.2⟩
theorem fn_x {T : List Df} {G : List (Str × D)} {XR : XRT} {P : Program} {w : World} {K : PySem.W.Frag} {mg : Str → Option Value} {base : Heap} {n fi : Nat} {d : Df} {st : Stmt} {f : Addr} {fd : FuncData} {ys : List Str} (g : GOk T G XR n P w K mg base) (hd : T[fi]? = some d) (ok : DefOk T G d st) (F : Fun K d.name d.name st f fd) (hnp : d.np = 0) (hys : strBody d.body = some ys) :
    FnG XR P w K mg base (n + 1) f fd [] (spX ys) := by
  obtain ⟨oc, od, kV, doc, pm, an, cdv, ct, osl, rfl, lk, hcd⟩ := F.ex  -- gw
  have S := ok.sc
  rw [hnp, List.take_zero] at S
  obtain ⟨es, hb, hes⟩ := strBody_of hys
  have hbody := ok.body
  rw [hb] at hbody
  obtain ⟨xs, k, p1, p2, hst, hxs, hlen⟩ := row_of hbody
  refine ⟨fun vs H Q E h => by rw [h.1]; rfl, ?_⟩
  intro A outer s H args us vs Q E hr gd e0 hb rv hsp
  obtain ⟨rfl, hq⟩ := hsp
  have inK : K.In s.heap := e0.mod.kin.keeps fun b o e => (e0.bs b o e).1
  have noLim : s.heap.NoLimit := e0.mod.nolimit.keeps fun b o e => (e0.bs b o e).1
  refine codeAny_call_function hr.depth (inK _ _ lk) rfl S.co S.gen rfl (PySem.W.codeRec_of inK hcd) (hb _ _ _ _ ?_)
  refine wpAny_newFunctionEnv_cells S.kind (fun ⟨y, v⟩ hy => (S.par y (List.of_mem_zip hy).1).imp id fun q => ⟨q, PySem.W.cellsFrom_some _ _ _ (.inl q)⟩) fun env he s1 x => ?_
  subst he
  refine ⟨noLim.keeps x.toInCall.keep, codeAny_func ?_⟩
  have I : Inv (cxOf (L2.CX P w) P w K mg base d.N d.name (defScope st) f cdv A outer s H E) [] (start d.N []) H s1 := inv_start S hr.hd e0 rfl rv x
  have xo : XOk T G XR n d.N (defScope st) (fun c e _ H' => E c e H') (cxOf (L2.CX P w) P w K mg base d.N d.name (defScope st) f cdv A outer s H E) :=
    ⟨g, rfl, S.nd, rfl, rfl, takes_of rfl rfl rfl rfl, hr.deeper _, gd⟩
  have hA : ArgOk K H [] [] := ⟨.nil, fun i j a h => by obtain ⟨_, _, h1, _⟩ := h; simp at h1⟩
  have hfr : FrOk K ⟨[], fun _ => none⟩ H (start d.N []) (frame0 d.N.length []) := frame_ok hA
  have hw : WSs (cxOf (L2.CX P w) P w K mg base d.N d.name (defScope st) f cdv A outer s H E) (defBody st) { nx := fun _ H' => Q .non H', rt := Q } (start d.N []) H := by
    rw [hst]
    refine WSs.of (pss_cons (ps_ret (pe_tupF WA.pa)) pss_nil) ?_
    refine (all_es es _ _ _ _ xo hxs).1 ⟨[], fun _ => none⟩ _ (frame0 d.N.length []) H _ hfr ?_
    rw [cons_evDs es ys _ hes]
    show ∀ vs H', _ → _ → _ → _
    intro vs H1 g1 r hl
    refine ⟨by rw [hl, sizeLine_eq]; omega, fun p o hp ho hc => ?_⟩
    rw [strs_only r]
    exact hq H1 p o (g1.kp.mono fun a ⟨i, q⟩ => by obtain ⟨_, _, h1, _⟩ := own_start hA q; simp at h1) hp ho hc
  refine wpAny_mono (hw [] s1 I) (fun fl s' hs => ?_) fun e s' hs => hs
  cases fl with
  | ret u =>
    obtain ⟨v, σ', H', J, r, q⟩ := hs
    exact ⟨v, H', J.os, J.bare, J.base, J.hok, r, q⟩
  | next =>
    obtain ⟨σ', H', J, q⟩ := hs
    exact ⟨V.non, H', J.os, J.bare, J.base, J.hok, rfl, q⟩
  | brk => obtain ⟨_, _, _, q⟩ := hs; exact q.elim
  | cont => obtain ⟨_, _, _, q⟩ := hs; exact q.elim
/-! ### all defs -/
structure Facts (T : List Df) (G : List (Str × D)) (K : PySem.W.Frag) (mg : Str → Option Value) : Prop where
  glob : ∀ x d, (x, d) ∈ G → ∃ u v, mg x = some u ∧ L2.RelV v u ∧ ∀ H, Rp K H v d
  blt : ∀ x ∈ bnames, mg x = none
  fns : ∀ (f : Nat) (d : Df), T[f]? = some d → ∃ fa fd st, mg d.name = some (.ref fa) ∧ Fun K d.name d.name st fa fd ∧ DefOk T G d st ∧ Binds K fd (d.N.take d.np) []
theorem gok {T : List Df} {G : List (Str × D)} {XR : XRT} {P : Program} {w : World} {K : PySem.W.Frag} {mg : Str → Option Value} {base : Heap} (B : Facts T G K mg) : ∀ n, GOk T G XR n P w K mg base
  | 0 => ⟨B.glob, B.blt, fun f d h => by
    obtain ⟨fa, fd, st, h1, F, ok, hb⟩ := B.fns f d h
    refine ⟨fa, fd, h1, F.kp, ok.np, hb, fun vs H Q E ⟨os, d', e1, e2, _⟩ => ?_, fun A outer s H args us vs Q E _ _ _ _ _ ⟨os, d', e1, e2, _, P⟩ => ?_⟩
    · rw [h] at e1; cases e1
      rw [ok.np]; exact e2
    · exact (show False from P).elim, fun f d ys h hnp hys hz => absurd hz (Nat.lt_irrefl 0)⟩
  | n + 1 => ⟨B.glob, B.blt, fun f d h => by
    obtain ⟨fa, fd, st, h1, F, ok, hb⟩ := B.fns f d h
    exact ⟨fa, fd, h1, F.kp, ok.np, hb, fn_g (gok B n) h ok F⟩, fun f d ys h hnp hys _ => by
    obtain ⟨fa, fd, st, h1, F, ok, hb⟩ := B.fns f d h
    rw [hnp, List.take_zero] at hb
    exact ⟨fa, fd, h1, F.kp, hb, fn_x (gok B n) h ok F hnp hys⟩⟩
end GW

/-! GW, part 14: the law's call, the head. -/
namespace GW
open PySem PySem.Spec PyProof.Rows L2  -- gw
abbrev scr (ns : List Int) : O := .fz (.list (ns.map PyData.int))
section
variable {T : List Df} {G : List (Str × D)} {P : Program} {w : World} {K : PySem.W.Frag} {mg mb : Str → Option Value} {n fi : Nat} {fa a : Addr} {d : Df} {s₁ : Shared} {vs : List Value} {ns : List Int}
/-- what an open law wants of a call's end -/
def LawEnd (s₁ : Shared) (r : Result) (s' : Shared) : Prop := r = .ok (.ret (.bool true)) ∧ OldK s₁.heap s'.heap ∧ s'.os = s₁.os ∧ AllBare s'.gens
theorem law_at {H : Hp} (B : Facts T G K mg) (hd : T[fi]? = some d) (hnp : d.np = 1) (hmg : mg d.name = some (.ref fa)) (KX : K.In s₁.heap) (hns : s₁.heap.Ns mainGlobals mg) (hbn : s₁.heap.Ns builtinsNs mb)
    (hbb : ∀ x : Str, x ≠ "__name__" → mb x = bootBuiltins x) (hlim : s₁.heap.NoLimit) (hg : s₁.gens = #[]) (ha : s₁.heap.get? a = some { cls := .type "list", data := .seq vs.toArray }) (hr : Room n callerA)
    (hlaw : ∃ ps, callN T n fi [scr ns] = .ok (.fz (.bool true)) ps) (only : ∀ b u, H b = some u → b = a ∧ K.lookup a = none ∧ ∃ o xs, u = .frz o (.lst xs)) (hS : Rp K H (.ref a) (.list (ns.map PyData.int))) (hok : HOk P w H s₁.heap) :
    codeAny (model P w) callerA (.call (.ref fa) ⟨[.ref a], []⟩) (LawEnd s₁) s₁ := by
  have dictFree : ∀ {b : Addr} {o : Obj} {es : Array DictEntry} {ep : Nat}, s₁.heap.get? b = some o → o.data = .dict es ep → H b = none := fun {b o es ep} e dd => by
    cases q : H b with
    | none => rfl
    | some u =>
      obtain ⟨rfl, _⟩ := only b u q
      rw [ha] at e
      cases e
      have dd : Data.seq vs.toArray _ = Data.dict es ep := dd
      cases dd
  have under : ∀ {b : Addr} {m : Str → Option Value}, s₁.heap.Ns b m → (hidT s₁.heap H).Ns b m := fun ⟨o, es, ep, e, dd, r⟩ => ⟨o, es, ep, hidT_get e (dictFree e dd), dd, r⟩
  have inB : K.In (hidT s₁.heap H) := fun b o e => hidT_get (KX b o e) (by
    cases q : H b with
    | none => rfl
    | some u =>
      obtain ⟨rfl, q2, _⟩ := only b u q
      rw [q2] at e; cases e)
  have mod : Mod K mg (hidT s₁.heap H) := ⟨inB, under hns, ⟨mb, under hbn, hbb⟩, hlim.imp fun mc q => ⟨under q.1, q.2⟩⟩
  have e0 : Env0 P w K mg (hidT s₁.heap H) callerA [] s₁ H := ⟨rfl, mod, fun b o e => of_hidT e, Nat.le_of_eq (hidT_size _ _), trivial, fun b hb => (nomatch hb), hok, .of_eq hg⟩
  obtain ⟨fa', fd, h1, _, h3, h4, FG⟩ := (gok (XR := fun _ _ _ _ => False) (P := P) (w := w) (base := hidT s₁.heap H) B n).fns fi d hd
  rw [hmg] at h1
  cases h1
  obtain ⟨ps, hlaw⟩ := hlaw
  have sp : spF K (fun _ _ _ _ => False) T n fi [.ref a] H (fun v _ => v = .bl true) fun _ _ _ => False := by
    refine ⟨[scr ns], d, hd, hnp.symm, ⟨.cons hS .nil, fun i j b ⟨v, o, _, q2, q3⟩ => ?_⟩, ?_⟩
    · cases i with
      | zero => cases q2; cases q3.1
      | succ i => simp at q2
    · rw [hlaw]
      exact fun v H' _ _ wv _ _ => bool_of wv
  refine codeAny_mono (FG.run callerA [] s₁ H ⟨[.ref a], []⟩ [.ref a] [.ref a] _ _ hr rfl e0 (h4 s₁ [.ref a] KX (by rw [h3, hnp]; rfl)) (.cons rfl .nil) sp) fun r s' h => ?_
  match r, h with
  | .error e, h =>
    obtain ⟨_, _, _, _, _, _, _, _, _, _, _, _, z⟩ := h  -- gw
    exact z.elim
  | .ok .next, h => exact h.elim
  | .ok .brk, h => exact h.elim
  | .ok .cont, h => exact h.elim
  | .ok (.ret u), h =>
    obtain ⟨v, H', os, bare, un, hok', rv, qv⟩ := h
    obtain rfl : v = .bl true := qv
    obtain rfl : u = Value.bool true := rv
    refine ⟨rfl, OldK.of_keep fun b o e => ?_, os, bare⟩  -- gw
    cases q : H b with
    | none => exact un.keep b o e q (fun z => nomatch z) (by simp)
    | some u =>
      obtain ⟨_, _, ob, xs, rfl⟩ := only b u q
      have now := (hok b _ q).1
      rw [e] at now
      cases now
      exact (hok' b _ (un.frzs b _ _ q)).1
theorem rpa_ns {H : Hp} (ns : List Int) : RpA K H (ns.map V.int) (ns.map PyData.int) := rpa_ints ns
theorem law_g (B : Facts T G K mg) (hd : T[fi]? = some d) (hnp : d.np = 1) (hmg : mg d.name = some (.ref fa)) (KX : K.In s₁.heap) (hns : s₁.heap.Ns mainGlobals mg) (hbn : s₁.heap.Ns builtinsNs mb)
    (hbb : ∀ x : Str, x ≠ "__name__" → mb x = bootBuiltins x) (hlim : s₁.heap.NoLimit) (hg : s₁.gens = #[]) (ha : s₁.heap.get? a = some { cls := .type "list", data := .seq vs.toArray }) (hi : IntsAre vs ns) (hl : ns.length ≤ sizeLine) (hr : Room n callerA)
    (hlaw : ∃ ps, callN T n fi [scr ns] = .ok (.fz (.bool true)) ps) : codeAny (model P w) callerA (.call (.ref fa) ⟨[.ref a], []⟩) (LawEnd s₁) s₁ := by
  have rv := vals_ints hi
  cases hk : K.lookup a with
  | some o =>
    have e := KX a o hk
    rw [ha] at e
    cases e
    refine law_at (H := fun _ => none) B hd hnp hmg KX hns hbn hbb hlim hg ha hr hlaw (fun b u z => nomatch z) (.lst (.inr ⟨_, vs.toArray, _, hk, rfl, rfl, rfl, by rw [List.size_toArray, hi.length]; exact hl, by simpa using rv⟩) (rpa_ns ns)) fun b u z => nomatch z
  | none =>
    let u0 : HO := .frz { cls := .type "list", data := .seq vs.toArray } (.lst (ns.map V.int))
    have only : ∀ b u, (if b = a then some u0 else none) = some u → b = a ∧ u = u0 := fun b u z => by
      by_cases hb : b = a
      · rw [if_pos hb] at z; cases z; exact ⟨hb, rfl⟩
      · rw [if_neg hb] at z; cases z
    refine law_at (H := fun b => if b = a then some u0 else none) B hd hnp hmg KX hns hbn hbb hlim hg ha hr hlaw (fun b u z => ?_) (.lst (.inl ⟨_, if_pos rfl⟩) (rpa_ns ns)) fun b u z => ?_
    · obtain ⟨h1, rfl⟩ := only b u z
      exact ⟨h1, hk, _, _, rfl⟩
    · obtain ⟨rfl, rfl⟩ := only b u z
      exact ⟨ha, by rw [List.length_map]; exact hl, vs, _, rv, ha⟩  -- gw
end
/-- the goal that k_head leaves -/
theorem walk_g {l : PySem.W.OpenLaw} {q : Program} {loose : List Str} {XP : (Str → Option Value) → Heap → Prop} {YP : World → Heap → Prop} {dr : DefRec} {K : Params → PySem.W.Frag} {T : List Df} {G : List (Str × D)} {n fi : Nat} {d : Df}
    (hn : l.most = some 63) (hdf : dr.params.defaults = []) (hr : Room n callerA) (hd : T[fi]? = some d) (hnp : d.np = 1) (hnm : dr.name = d.name) (hY : ∀ (w : World) (h : Heap), YP w h → (K w.params).In h)
    (F : ∀ (w : World) (mg : Str → Option Value) (h : Heap), (K w.params).In h → h.Ns mainGlobals mg → Facts T G (K w.params) mg)
    (hlaw : ∀ ns : List Int, ns.length ≤ 63 → ∃ ps, callN T n fi [scr ns] = .ok (.fz (.bool true)) ps) :
    PySem.W.WalkO q loose XP YP l.row.toRowW dr [] (fun f vs => PySem.call f vs) := by
  refine Att.attach_call hn hdf fun w s₀ s₁ mg mb fa o pm cd doc a vs ns Gr Y ho _ hcd hmg hobj hints hlen hg => ?_
  have KX := hY w _ Y
  rw [hnm] at hmg
  exact law_g (F w mg _ KX Gr.T.g) hd hnp hmg KX Gr.T.g Gr.T.b Gr.T.builtins Gr.T.nolimit hg hobj hints (Nat.le_trans hlen (by rw [sizeLine_eq]; decide)) hr (hlaw ns hlen)
end GW

/-! GW, part 15: what the top has written. -/
namespace GW
open PySem PySem.Spec PyProof.Rows L2  -- gw
/-- the value that is known of a value -/
def vOf : Value → V
  | .none => .non | .bool b => .bl b | .int i _ => .int i | .str x _ => .str x | .ref a => .ref a | _ => .non
mutual
/-- a value of the module stands for data -/
def chkK (K : PySem.W.Frag) : D → Value → Bool
  | .none, .none => true
  | .bool a, .bool b => a == b
  | .int a, .int b _ => a == b
  | .str a, .str b _ => a == b
  | .tuple ds, .ref a => (match K.lookup a with
    | some ⟨.type "tuple", _, .seq its _, _⟩ => decide (its.size ≤ 10000) && chkKs K ds its.toList
    | _ => false)
  | .list ds, .ref a => (match K.lookup a with
    | some ⟨.type "list", none, .seq its _, _⟩ => decide (its.size ≤ 10000) && chkKs K ds its.toList
    | _ => false)
  | _, _ => false
def chkKs (K : PySem.W.Frag) : List D → List Value → Bool
  | [], [] => true
  | d :: ds, v :: vs => chkK K d v && chkKs K ds vs
  | _, _ => false
end
theorem sizeL {n : Nat} (h : n ≤ 10000) : n ≤ sizeLine := by rw [sizeLine_eq]; omega
mutual
theorem chkK_ok {K : PySem.W.Frag} : ∀ {d : D} {u : Value}, chkK K d u = true → L2.RelV (vOf u) u ∧ ∀ H, Rp K H (vOf u) d
  | .none, u, h => by
    cases u <;> first | (simp only [chkK] at h; cases h; done) | skip
    exact ⟨rfl, fun H => .non⟩
  | .bool a, u, h => by
    cases u <;> first | (simp only [chkK] at h; cases h; done) | skip
    simp only [chkK] at h
    obtain rfl := eq_of_beq h
    exact ⟨rfl, fun H => .bl a⟩
  | .int a, u, h => by
    cases u <;> first | (simp only [chkK] at h; cases h; done) | skip
    simp only [chkK] at h
    obtain rfl := eq_of_beq h
    exact ⟨⟨_, rfl⟩, fun H => .int a⟩
  | .str a, u, h => by
    cases u <;> first | (simp only [chkK] at h; cases h; done) | skip
    simp only [chkK] at h
    obtain rfl := eq_of_beq h
    exact ⟨⟨_, rfl⟩, fun H => .str a⟩
  | .tuple ds, u, h => by
    cases u <;> first | (simp only [chkK] at h; cases h; done) | skip
    rename_i a
    simp only [chkK] at h
    split at h
    · rename_i dd its n sl e
      simp only [Bool.and_eq_true, decide_eq_true_eq] at h  -- gw
      obtain ⟨h1, h2⟩ := chkKs_ok h.2
      exact ⟨rfl, fun H => .tup (.inr ⟨_, its, n, e, rfl, rfl, sizeL h.1, h1⟩) (h2 H)⟩
    · cases h
  | .list ds, u, h => by
    cases u <;> first | (simp only [chkK] at h; cases h; done) | skip
    rename_i a
    simp only [chkK] at h
    split at h
    · rename_i its n sl e
      simp only [Bool.and_eq_true, decide_eq_true_eq] at h  -- gw
      obtain ⟨h1, h2⟩ := chkKs_ok h.2
      exact ⟨rfl, fun H => .lst (.inr ⟨_, its, n, e, rfl, rfl, rfl, sizeL h.1, h1⟩) (h2 H)⟩
    · cases h
  | .dict _, u, h => by cases u <;> (simp only [chkK] at h; cases h)
theorem chkKs_ok {K : PySem.W.Frag} : ∀ {ds : List D} {us : List Value}, chkKs K ds us = true → Vals (us.map vOf) us ∧ ∀ H, RpA K H (us.map vOf) ds
  | [], us, h => by
    cases us with
    | nil => exact ⟨.nil, fun H => .nil⟩
    | cons _ _ => simp only [chkKs] at h; cases h
  | d :: ds, us, h => by
    cases us with
    | nil => simp only [chkKs] at h; cases h
    | cons u us =>
      simp only [chkKs, Bool.and_eq_true] at h
      obtain ⟨h1, h2⟩ := chkK_ok h.1
      obtain ⟨h3, h4⟩ := chkKs_ok h.2
      exact ⟨.cons h1 h3, fun H => .cons (h2 H) (h4 H)⟩
end
/-- the defs as they stand behind the top -/
inductive FnsK (K : PySem.W.Frag) : List Df → List Stmt → Prop where
  | nil : FnsK K [] []
  | cons {d : Df} {st : Stmt} {ds : List Df} {sts : List Stmt} {f : Addr} {oc : Value} {od an : Option Addr} {osl : Array (Option Value)} {kV doc pm cdv ct : Value} (a : PySem.W.nsIn K mainGlobals d.name = some (some (.ref f)))
      (l : K.lookup f = some ⟨oc, od, .func (PySem.W.fnOf d.name d.name (defArgs st) (defBody st) (defScope st) .none kV doc pm an cdv ct), osl⟩) (c : PySem.W.codeIn K cdv d.name = true) (k : PySem.W.keepIn K (.ref f) = true) (r : FnsK K ds sts) : FnsK K (d :: ds) (st :: sts)
theorem FnsK.get {K : PySem.W.Frag} {h : Heap} {mg : Str → Option Value} (X : K.In h) (G : h.Ns mainGlobals mg) : ∀ {ds : List Df} {sts : List Stmt} {i : Nat} {d : Df}, FnsK K ds sts → ds[i]? = some d → ∃ st fa fd, sts[i]? = some st ∧ mg d.name = some (.ref fa) ∧ Fun K d.name d.name st fa fd
  | _, _, _, _, .nil, e => by simp at e  -- gw
  | _, _, 0, _, .cons a l c k r, e => by
    simp at e; subst e
    exact ⟨_, _, _, rfl, PySem.W.mg_of X G a, fun_mk l c k⟩
  | _, _, i + 1, _, .cons a l c k r, e => by
    obtain ⟨st, fa, fd, h1, h2, h3⟩ := FnsK.get X G r (i := i) (by simpa using e)
    exact ⟨st, fa, fd, by simpa using h1, h2, h3⟩
/-- the globals -/
inductive GlK (K : PySem.W.Frag) : List (Str × D) → Prop where
  | nil : GlK K []
  | cons {x : Str} {d : D} {G : List (Str × D)} {u : Value} (a : PySem.W.nsIn K mainGlobals x = some (some u)) (c : chkK K d u = true) (r : GlK K G) : GlK K ((x, d) :: G)
theorem GlK.get {K : PySem.W.Frag} {x : Str} {d : D} : ∀ {G : List (Str × D)}, GlK K G → (x, d) ∈ G → ∃ u, PySem.W.nsIn K mainGlobals x = some (some u) ∧ chkK K d u = true
  | _, .nil, h => nomatch h
  | _, .cons a c r, h => by
    rcases List.mem_cons.mp h with e | e  -- gw
    · cases e; exact ⟨_, a, c⟩
    · exact GlK.get r e
/-- how a def's arguments bind -/
def DefB (d : Df) (st : Stmt) : Prop := ∀ (kV doc pm : Value) (an : Option Addr) (cdv ct : Value) (us : List Value), us.length = (d.N.take d.np).length → bindArgs (PySem.W.fnOf d.name d.name (defArgs st) (defBody st) (defScope st) .none kV doc pm an cdv ct) ⟨us, []⟩ = pure ((d.N.take d.np).zip us)
inductive DefsOk (T : List Df) (G : List (Str × D)) : List Df → List Stmt → Prop where
  | nil : DefsOk T G [] []
  | cons {d : Df} {st : Stmt} {ds : List Df} {sts : List Stmt} (o : DefOk T G d st) (b : DefB d st) (r : DefsOk T G ds sts) : DefsOk T G (d :: ds) (st :: sts)
theorem DefsOk.get {T : List Df} {G : List (Str × D)} {d : Df} {st : Stmt} : ∀ {ds : List Df} {sts : List Stmt} {i : Nat}, DefsOk T G ds sts → ds[i]? = some d → sts[i]? = some st → DefOk T G d st ∧ DefB d st
  | _, _, _, .nil, e, _ => by simp at e
  | _, _, 0, .cons o b r, e, e2 => by
    simp at e e2; subst e e2
    exact ⟨o, b⟩
  | _, _, i + 1, .cons o b r, e, e2 => DefsOk.get r (i := i) (by simpa using e) (by simpa using e2)
theorem facts_of {T : List Df} {G : List (Str × D)} {K : PySem.W.Frag} {h : Heap} {mg : Str → Option Value} {sts : List Stmt} (ok : DefsOk T G T sts) (X : K.In h) (N : h.Ns mainGlobals mg) (fk : FnsK K T sts) (gk : GlK K G) (bk : bnames.all (fun x => match PySem.W.nsIn K mainGlobals x with | some none => true | _ => false) = true) : Facts T G K mg := by
  refine ⟨fun x d hm => ?_, fun x hx => ?_, fun f d hd => ?_⟩
  · obtain ⟨u, h1, h2⟩ := gk.get hm
    obtain ⟨h3, h4⟩ := chkK_ok h2
    exact ⟨u, vOf u, PySem.W.mg_of X N h1, h3, h4⟩
  · have := List.all_eq_true.mp bk x hx
    refine PySem.W.mg_none_of X N ?_
    split at this
    · assumption
    · cases this
  · obtain ⟨st, fa, fd, h1, h2, F⟩ := fk.get X N hd
    obtain ⟨o, b⟩ := ok.get hd h1
    exact ⟨fa, fd, st, h2, F, o, F.binds b⟩
end GW

/-! GW, part 16: what is asked of a result. -/
namespace GW
open PySem
def Res.sat {α : Type} (r : Res α) (Q : α → Fm → Prop) : Prop := match r with
  | .ok a ρ => Q a ρ | _ => False
def SR.sat (r : SR) (N : Fm → Prop) (R : O → Fm → Prop) (B C : Fm → Prop) : Prop := match r with
  | .nx ρ => N ρ | .rt o ρ => R o ρ | .bk ρ => B ρ | .ct ρ => C ρ | _ => False
def CR.sat (r : CR) (Q : O → List (Option O) → Prop) : Prop := match r with
  | .ok o ps => Q o ps | _ => False
section
variable {α β : Type} {N N' : Fm → Prop} {R R' : O → Fm → Prop} {B C B' C' : Fm → Prop}
theorem Res.sat_bind {r : Res α} {f : α → Fm → Res β} {Q : β → Fm → Prop} : (r.bind f).sat Q = r.sat fun a ρ => (f a ρ).sat Q := by cases r <;> rfl
theorem Res.sat_st {r : Res α} {f : α → Fm → SR} : (r.st f).sat N R B C = r.sat fun a ρ => (f a ρ).sat N R B C := by cases r <;> rfl
theorem Res.sat_ok {a : α} {ρ : Fm} {Q : α → Fm → Prop} : (Res.ok a ρ).sat Q = Q a ρ := rfl
theorem SR.sat_seq {r : SR} {f : Fm → SR} : (r.seq f).sat N R B C = r.sat (fun ρ => (f ρ).sat N R B C) R B C := by cases r <;> rfl
theorem SR.sat_nx {ρ : Fm} : (SR.nx ρ).sat N R B C = N ρ := rfl
theorem SR.sat_rt {o : O} {ρ : Fm} : (SR.rt o ρ).sat N R B C = R o ρ := rfl
theorem SR.sat_bk {ρ : Fm} : (SR.bk ρ).sat N R B C = B ρ := rfl
theorem SR.sat_ct {ρ : Fm} : (SR.ct ρ).sat N R B C = C ρ := rfl
theorem SR.sat_map {r : SR} {f : Fm → Fm} : (r.map f).sat N R B C = r.sat (fun ρ => N (f ρ)) (fun o ρ => R o (f ρ)) (fun ρ => B (f ρ)) (fun ρ => C (f ρ)) := by cases r <;> rfl
theorem Res.sat_imp {r : Res α} {Q Q' : α → Fm → Prop} (h : r.sat Q) (k : ∀ a ρ, Q a ρ → Q' a ρ) : r.sat Q' := by cases r <;> first | exact k _ _ h | exact h
theorem SR.sat_imp {r : SR} (h : r.sat N R B C) (hN : ∀ ρ, N ρ → N' ρ) (hR : ∀ o ρ, R o ρ → R' o ρ) (hB : ∀ ρ, B ρ → B' ρ) (hC : ∀ ρ, C ρ → C' ρ) : r.sat N' R' B' C' := by
  cases r <;> first | exact hN _ h | exact hR _ _ h | exact hB _ h | exact hC _ h | exact h
theorem CR.sat_imp {r : CR} {Q Q' : O → List (Option O) → Prop} (h : r.sat Q) (k : ∀ a ρ, Q a ρ → Q' a ρ) : r.sat Q' := by cases r <;> first | exact k _ _ h | exact h
theorem CR.sat_ok {r : CR} {Q : O → List (Option O) → Prop} (h : r.sat Q) : ∃ o ps, r = .ok o ps ∧ Q o ps := by cases r <;> first | exact ⟨_, _, rfl, h⟩ | exact h.elim
/-- a for -/
theorem frF_sat {t : D → Fm → Option Fm} {b : Fm → SR} {ks : List Nat} (I : List D → Fm → Prop) (hs : ∀ d ds ρ, I (d :: ds) ρ → ∃ ρ1, t d ρ = some ρ1 ∧ (b ρ1).sat (fun ρ2 => I ds (kill ks ρ2)) R (fun ρ2 => N (kill ks ρ2)) (fun ρ2 => I ds (kill ks ρ2)))
    (hN : ∀ ρ, I [] ρ → N ρ) : ∀ {ds : List D} {ρ : Fm}, I ds ρ → (frF t b ks ds ρ).sat N R B C
  | [], ρ, h => hN ρ h
  | d :: ds, ρ, h => by
    obtain ⟨ρ1, e, s⟩ := hs d ds ρ h
    unfold frF
    rw [e]
    simp only
    cases eb : b ρ1 with
    | nx ρ2 => rw [eb] at s; exact frF_sat I hs hN s
    | ct ρ2 => rw [eb] at s; exact frF_sat I hs hN s
    | bk ρ2 => rw [eb] at s; exact s
    | rt o ρ2 => rw [eb] at s; exact s
    | ex e ρ2 => rw [eb] at s; exact s
    | bad => rw [eb] at s; exact s
/-- a while, by a measure -/
theorem whF_sat {c : Fm → Res Bool} {b : Fm → SR} {ks : List Nat} (I : Nat → Fm → Prop) (hs : ∀ m ρ, I m ρ → (c ρ).sat fun k ρ1 => if k then (b ρ1).sat (fun ρ2 => ∃ m', m' < m ∧ I m' (kill ks ρ2)) R (fun ρ2 => N (kill ks ρ2)) (fun ρ2 => ∃ m', m' < m ∧ I m' (kill ks ρ2)) else N ρ1) :
    ∀ {n m : Nat} {ρ : Fm}, m < n → I m ρ → (whF c b ks n ρ).sat N R B C
  | 0, m, ρ, h, _ => absurd h (Nat.not_lt_zero m)
  | n + 1, m, ρ, h, i => by
    have s := hs m ρ i
    unfold whF
    rw [Res.sat_st]
    refine Res.sat_imp s fun k ρ1 q => ?_
    cases k with
    | false => exact q
    | true =>
      rw [if_pos rfl] at q ⊢
      cases eb : b ρ1 with
      | nx ρ2 => rw [eb] at q; obtain ⟨m', h1, h2⟩ := q; exact whF_sat I hs (by omega) h2
      | ct ρ2 => rw [eb] at q; obtain ⟨m', h1, h2⟩ := q; exact whF_sat I hs (by omega) h2
      | bk ρ2 => rw [eb] at q; exact q
      | rt o ρ2 => rw [eb] at q; exact q
      | ex e ρ2 => rw [eb] at q; exact q
      | bad => rw [eb] at q; exact q
end
theorem callN_eq {T : List Df} {n f : Nat} {d : Df} {os : List O} (hd : T[f]? = some d) (hl : os.length = d.np) : callN T (n + 1) f os = ends os (exSs (callN T n) d.body (frame0 d.N.length os)) := by
  show (match T[f]? with | none => _ | some d => _) = _
  rw [hd]
  show (if os.length = d.np then _ else _) = _
  rw [if_pos hl]
theorem exSs_cons {Φ : Nat → List O → CR} {s : IS} {ss : ISs} {ρ : Fm} : exSs Φ (.cons s ss) ρ = (exS Φ s ρ).seq (exSs Φ ss) := by rw [exSs]
theorem sat_cons {Φ : Nat → List O → CR} {s : IS} {ss : ISs} {ρ : Fm} {N : Fm → Prop} {R : O → Fm → Prop} {B C : Fm → Prop} : (exSs Φ (.cons s ss) ρ).sat N R B C = (exS Φ s ρ).sat (fun ρ => (exSs Φ ss ρ).sat N R B C) R B C := by rw [exSs_cons, SR.sat_seq]
theorem sat_nil {Φ : Nat → List O → CR} {ρ : Fm} {N : Fm → Prop} {R : O → Fm → Prop} {B C : Fm → Prop} : (exSs Φ .nil ρ).sat N R B C = N ρ := by rw [exSs]; rfl
theorem sat_kil {Φ : Nat → List O → CR} {ks : List Nat} {ss : ISs} {ρ : Fm} {N : Fm → Prop} {R : O → Fm → Prop} {B C : Fm → Prop} : (exSs Φ (.kil ks ss) ρ).sat N R B C = (exSs Φ ss (kill ks ρ)).sat N R B C := by rw [exSs]
theorem sat_ite {p : Prop} [Decidable p] {a b : SR} {N : Fm → Prop} {R : O → Fm → Prop} {B C : Fm → Prop} : (if p then a else b).sat N R B C = if p then a.sat N R B C else b.sat N R B C := by split <;> rfl
theorem rsat_ite {α : Type} {p : Prop} [Decidable p] {a b : Res α} {Q : α → Fm → Prop} : (if p then a else b).sat Q = if p then a.sat Q else b.sat Q := by split <;> rfl
theorem prep_loc {i : Nat} {r : Fm → Res O} {ρ : Fm} : prep (.loc i) r ρ = if (rd ρ i).isSome then .ok (.sl i) ρ else .bad := rfl
theorem tst_loc {i : Nat} {r : Fm → Res O} {ρ : Fm} : tst (.loc i) r ρ = ofO ((rd ρ i).bind truF) ρ := rfl
theorem prep_con {r : Fm → Res O} {ρ : Fm} (d : D) : prep (.con d) r ρ = (r ρ).bind fun x ρ' => .ok (.o x) ρ' := rfl
theorem tst_con {r : Fm → Res O} {ρ : Fm} (d : D) : tst (.con d) r ρ = (r ρ).bind fun x ρ' => ofO (truF x) ρ' := rfl
theorem prep_glo {r : Fm → Res O} {ρ : Fm} (x : Str) (d : D) : prep (.glo x d) r ρ = (r ρ).bind fun x ρ' => .ok (.o x) ρ' := rfl
theorem tst_glo {r : Fm → Res O} {ρ : Fm} (x : Str) (d : D) : tst (.glo x d) r ρ = (r ρ).bind fun x ρ' => ofO (truF x) ρ' := rfl
theorem prep_tup {r : Fm → Res O} {ρ : Fm} (es : IEs) : prep (.tup es) r ρ = (r ρ).bind fun x ρ' => .ok (.o x) ρ' := rfl
theorem tst_tup {r : Fm → Res O} {ρ : Fm} (es : IEs) : tst (.tup es) r ρ = (r ρ).bind fun x ρ' => ofO (truF x) ρ' := rfl
theorem prep_lst {r : Fm → Res O} {ρ : Fm} (es : IEs) : prep (.lst es) r ρ = (r ρ).bind fun x ρ' => .ok (.o x) ρ' := rfl
theorem tst_lst {r : Fm → Res O} {ρ : Fm} (es : IEs) : tst (.lst es) r ρ = (r ρ).bind fun x ρ' => ofO (truF x) ρ' := rfl
theorem prep_bin {r : Fm → Res O} {ρ : Fm} (o : BOp) (a b : IE) : prep (.bin o a b) r ρ = (r ρ).bind fun x ρ' => .ok (.o x) ρ' := rfl
theorem tst_bin {r : Fm → Res O} {ρ : Fm} (o : BOp) (a b : IE) : tst (.bin o a b) r ρ = (r ρ).bind fun x ρ' => ofO (truF x) ρ' := rfl
theorem prep_neg {r : Fm → Res O} {ρ : Fm} (a : IE) : prep (.neg a) r ρ = (r ρ).bind fun x ρ' => .ok (.o x) ρ' := rfl
theorem tst_neg {r : Fm → Res O} {ρ : Fm} (a : IE) : tst (.neg a) r ρ = (r ρ).bind fun x ρ' => ofO (truF x) ρ' := rfl
theorem prep_not {r : Fm → Res O} {ρ : Fm} (a : IE) : prep (.not a) r ρ = (r ρ).bind fun x ρ' => .ok (.o x) ρ' := rfl
theorem tst_not {r : Fm → Res O} {ρ : Fm} (a : IE) : tst (.not a) r ρ = (r ρ).bind fun x ρ' => ofO (truF x) ρ' := rfl
theorem prep_cmp {r : Fm → Res O} {ρ : Fm} (o : COp) (a b : IE) : prep (.cmp o a b) r ρ = (r ρ).bind fun x ρ' => .ok (.o x) ρ' := rfl
theorem tst_cmp {r : Fm → Res O} {ρ : Fm} (o : COp) (a b : IE) : tst (.cmp o a b) r ρ = (r ρ).bind fun x ρ' => ofO (truF x) ρ' := rfl
theorem prep_cmp2 {r : Fm → Res O} {ρ : Fm} (o p : COp) (a b c : IE) : prep (.cmp2 o p a b c) r ρ = (r ρ).bind fun x ρ' => .ok (.o x) ρ' := rfl
theorem tst_cmp2 {r : Fm → Res O} {ρ : Fm} (o p : COp) (a b c : IE) : tst (.cmp2 o p a b c) r ρ = (r ρ).bind fun x ρ' => ofO (truF x) ρ' := rfl
theorem prep_isN {r : Fm → Res O} {ρ : Fm} (a : IE) : prep (.isN a) r ρ = (r ρ).bind fun x ρ' => .ok (.o x) ρ' := rfl
theorem tst_isN {r : Fm → Res O} {ρ : Fm} (a : IE) : tst (.isN a) r ρ = (r ρ).bind fun x ρ' => ofO (truF x) ρ' := rfl
theorem prep_notN {r : Fm → Res O} {ρ : Fm} (a : IE) : prep (.notN a) r ρ = (r ρ).bind fun x ρ' => .ok (.o x) ρ' := rfl
theorem tst_notN {r : Fm → Res O} {ρ : Fm} (a : IE) : tst (.notN a) r ρ = (r ρ).bind fun x ρ' => ofO (truF x) ρ' := rfl
theorem prep_and {r : Fm → Res O} {ρ : Fm} (a b : IE) : prep (.and a b) r ρ = (r ρ).bind fun x ρ' => .ok (.o x) ρ' := rfl
theorem tst_and {r : Fm → Res O} {ρ : Fm} (a b : IE) : tst (.and a b) r ρ = (r ρ).bind fun x ρ' => ofO (truF x) ρ' := rfl
theorem prep_or {r : Fm → Res O} {ρ : Fm} (a b : IE) : prep (.or a b) r ρ = (r ρ).bind fun x ρ' => .ok (.o x) ρ' := rfl
theorem tst_or {r : Fm → Res O} {ρ : Fm} (a b : IE) : tst (.or a b) r ρ = (r ρ).bind fun x ρ' => ofO (truF x) ρ' := rfl
theorem prep_ife {r : Fm → Res O} {ρ : Fm} (a b c : IE) : prep (.ife a b c) r ρ = (r ρ).bind fun x ρ' => .ok (.o x) ρ' := rfl
theorem tst_ife {r : Fm → Res O} {ρ : Fm} (a b c : IE) : tst (.ife a b c) r ρ = (r ρ).bind fun x ρ' => ofO (truF x) ρ' := rfl
theorem prep_sub {r : Fm → Res O} {ρ : Fm} (a b : IE) : prep (.sub a b) r ρ = (r ρ).bind fun x ρ' => .ok (.o x) ρ' := rfl
theorem tst_sub {r : Fm → Res O} {ρ : Fm} (a b : IE) : tst (.sub a b) r ρ = (r ρ).bind fun x ρ' => ofO (truF x) ρ' := rfl
theorem prep_slc {r : Fm → Res O} {ρ : Fm} (a : IE) (l h : IEo) : prep (.slc a l h) r ρ = (r ρ).bind fun x ρ' => .ok (.o x) ρ' := rfl
theorem tst_slc {r : Fm → Res O} {ρ : Fm} (a : IE) (l h : IEo) : tst (.slc a l h) r ρ = (r ρ).bind fun x ρ' => ofO (truF x) ρ' := rfl
theorem prep_call {r : Fm → Res O} {ρ : Fm} (f : Nat) (es : IEs) : prep (.call f es) r ρ = (r ρ).bind fun x ρ' => .ok (.o x) ρ' := rfl
theorem tst_call {r : Fm → Res O} {ρ : Fm} (f : Nat) (es : IEs) : tst (.call f es) r ρ = (r ρ).bind fun x ρ' => ofO (truF x) ρ' := rfl
theorem prep_bi {r : Fm → Res O} {ρ : Fm} (b : Bi) (es : IEs) : prep (.bi b es) r ρ = (r ρ).bind fun x ρ' => .ok (.o x) ρ' := rfl
theorem tst_bi {r : Fm → Res O} {ρ : Fm} (b : Bi) (es : IEs) : tst (.bi b es) r ρ = (r ρ).bind fun x ρ' => ofO (truF x) ρ' := rfl
theorem prep_isi {r : Fm → Res O} {ρ : Fm} (a : IE) (t : Ty) : prep (.isi a t) r ρ = (r ρ).bind fun x ρ' => .ok (.o x) ρ' := rfl
theorem tst_isi {r : Fm → Res O} {ρ : Fm} (a : IE) (t : Ty) : tst (.isi a t) r ρ = (r ρ).bind fun x ρ' => ofO (truF x) ρ' := rfl
theorem prep_lrg1 {r : Fm → Res O} {ρ : Fm} (a : IE) : prep (.lrg1 a) r ρ = (r ρ).bind fun x ρ' => .ok (.o x) ρ' := rfl
theorem tst_lrg1 {r : Fm → Res O} {ρ : Fm} (a : IE) : tst (.lrg1 a) r ρ = (r ρ).bind fun x ρ' => ofO (truF x) ρ' := rfl
theorem prep_lrg2 {r : Fm → Res O} {ρ : Fm} (a b : IE) : prep (.lrg2 a b) r ρ = (r ρ).bind fun x ρ' => .ok (.o x) ρ' := rfl
theorem tst_lrg2 {r : Fm → Res O} {ρ : Fm} (a b : IE) : tst (.lrg2 a b) r ρ = (r ρ).bind fun x ρ' => ofO (truF x) ρ' := rfl
theorem prep_dget {r : Fm → Res O} {ρ : Fm} (p : IPs) (a b : IE) : prep (.dget p a b) r ρ = (r ρ).bind fun x ρ' => .ok (.o x) ρ' := rfl
theorem tst_dget {r : Fm → Res O} {ρ : Fm} (p : IPs) (a b : IE) : tst (.dget p a b) r ρ = (r ρ).bind fun x ρ' => ofO (truF x) ρ' := rfl
theorem prep_sset {r : Fm → Res O} {ρ : Fm} (a : IE) : prep (.sset a) r ρ = (r ρ).bind fun x ρ' => .ok (.o x) ρ' := rfl
theorem tst_sset {r : Fm → Res O} {ρ : Fm} (a : IE) : tst (.sset a) r ρ = (r ρ).bind fun x ρ' => ofO (truF x) ρ' := rfl
theorem prep_lset {r : Fm → Res O} {ρ : Fm} (a : IE) : prep (.lset a) r ρ = (r ρ).bind fun x ρ' => .ok (.o x) ρ' := rfl
theorem tst_lset {r : Fm → Res O} {ρ : Fm} (a : IE) : tst (.lset a) r ρ = (r ρ).bind fun x ρ' => ofO (truF x) ρ' := rfl
theorem prep_rev {r : Fm → Res O} {ρ : Fm} (a : IE) : prep (.rev a) r ρ = (r ρ).bind fun x ρ' => .ok (.o x) ρ' := rfl
theorem tst_rev {r : Fm → Res O} {ρ : Fm} (a : IE) : tst (.rev a) r ρ = (r ρ).bind fun x ρ' => ofO (truF x) ρ' := rfl
theorem prep_idx {r : Fm → Res O} {ρ : Fm} (a b : IE) : prep (.idx a b) r ρ = (r ρ).bind fun x ρ' => .ok (.o x) ρ' := rfl
theorem tst_idx {r : Fm → Res O} {ρ : Fm} (a b : IE) : tst (.idx a b) r ρ = (r ρ).bind fun x ρ' => ofO (truF x) ρ' := rfl
theorem prep_fidx {r : Fm → Res O} {ρ : Fm} (f : Nat) (ys : List Str) (a : IE) : prep (.fidx f ys a) r ρ = (r ρ).bind fun x ρ' => .ok (.o x) ρ' := rfl
theorem tst_fidx {r : Fm → Res O} {ρ : Fm} (f : Nat) (ys : List Str) (a : IE) : tst (.fidx f ys a) r ρ = (r ρ).bind fun x ρ' => ofO (truF x) ρ' := rfl
theorem prep_lc {r : Fm → Res O} {ρ : Fm} (e : IE) (t : Tg) (i : II) (c : IEo) (v : List Nat) : prep (.lc e t i c v) r ρ = (r ρ).bind fun x ρ' => .ok (.o x) ρ' := rfl
theorem tst_lc {r : Fm → Res O} {ρ : Fm} (e : IE) (t : Tg) (i : II) (c : IEo) (v : List Nat) : tst (.lc e t i c v) r ρ = (r ρ).bind fun x ρ' => ofO (truF x) ρ' := rfl
/-- the items of a comprehension -/
theorem lcLoop_sat {step : D → Fm → Res (Option D)} {Q : List D → Fm → Prop} (I : List D → List D → Fm → Prop) (hs : ∀ d ds acc ρ, I (d :: ds) acc ρ → (step d ρ).sat fun o ρ' => match o with | some x => acc.length < 16777216 ∧ I ds (acc ++ [x]) ρ' | none => I ds acc ρ')
    (hN : ∀ acc ρ, I [] acc ρ → Q acc ρ) : ∀ {ds acc : List D} {ρ : Fm}, I ds acc ρ → (noEx (lcLoop step ds acc ρ)).sat Q
  | [], acc, ρ, h => hN acc ρ h
  | d :: ds, acc, ρ, h => by
    have s := hs d ds acc ρ h
    unfold lcLoop
    cases e : step d ρ with
    | bad => rw [e] at s; exact s.elim
    | ex _ _ => rw [e] at s; exact s.elim
    | ok o ρ' =>
      rw [e] at s
      cases o with
      | none => exact lcLoop_sat I hs hN s
      | some x =>
        have s : acc.length < 16777216 ∧ I ds (acc ++ [x]) ρ' := s
        show (noEx (if acc.length < 16777216 then lcLoop step ds (acc ++ [x]) ρ' else .bad)).sat Q
        rw [if_pos s.1]
        exact lcLoop_sat I hs hN s.2
/-- a def, run -/
theorem callN_sat {T : List Df} {n f : Nat} {d : Df} {os : List O} {Q : O → List (Option O) → Prop} (hd : T[f]? = some d) (hl : os.length = d.np) (h : (exSs (callN T n) d.body (frame0 d.N.length os)).sat (fun ρ => Q (.fz .none) (fins os ρ)) (fun o ρ => Q o (fins os ρ)) (fun _ => False) fun _ => False) :
    (callN T (n + 1) f os).sat Q := by
  have e : callN T (n + 1) f os = ends os (exSs (callN T n) d.body (frame0 d.N.length os)) := by
    show (match T[f]? with | none => _ | some d => _) = _
    rw [hd]
    show (if os.length = d.np then _ else _) = _
    rw [if_pos hl]
  rw [e]
  cases q : exSs (callN T n) d.body (frame0 d.N.length os) <;> rw [q] at h <;> exact h
def rtB : SR → Bool
  | .rt (.fz (.bool b)) _ => b
  | _ => false
end GW

/-! GW, part 17: what all laws of this book share. -/
namespace GW
open PySem
def Bpool : ISs :=
  (.cons (.asg 1 (.con (.int 7)))
  (.cons (.fr (.nm 2) (.val (.slc (.loc 0) .no (.so (.con (.int 63)))))
  (.cons (.asg 1 (.bin .mod (.bi .int (.cons (.bin .add (.bin .mul (.loc 1) (.con (.int 31))) (.loc 2)) .nil)) (.con (.int 1000003))))
  .nil) [2])
  (.cons (.ret (.lst (.cons (.bi .list (.cons (.loc 0) .nil)) (.cons (.con (.int 0)) (.cons (.con (.int 0)) (.cons (.con (.int 0)) (.cons (.loc 1) .nil)))))))
  .nil)))
def dPool : Df := ⟨"_law_pool", ["script", "salt", "cell"], 1, Bpool⟩
theorem cut_ints {ns : List Int} {d : D} {lo hi : Option Int} (h : d ∈ cutL (ns.map PyData.int) lo hi) : ∃ i, d = .int i := by
  unfold cutL at h
  obtain ⟨i, _, e⟩ := List.mem_map.mp (List.mem_of_mem_drop (List.mem_of_mem_take h))
  exact ⟨i, e.symm⟩
theorem pool_sat {T : List Df} {n f : Nat} (hf : T[f]? = some dPool) (ns : List Int) : (callN T (n + 1) f [scr ns]).sat fun o ps => ∃ salt : Int, o = .ls [.list (ns.map PyData.int), .int 0, .int 0, .int 0, .int salt] ∧ ps = [none] := by
  refine callN_sat hf rfl ?_
  show SR.sat (exSs _ Bpool [.pa (scr ns), .un, .un]) _ _ _ _
  unfold Bpool
  rw [exSs, SR.sat_seq, exS]
  simp only [ev, Res.st, loS, List.set, SR.sat_nx]
  rw [exSs, SR.sat_seq, exS]
  simp only [evI, ev, prep, rd, evO, Res.bind, ofO, AV.val, List.getElem?_cons_zero, Option.bind_some, Sl.get, Option.isSome_some, if_true, scr, cutF, items, Res.st, hide, SR.sat_map]
  refine frF_sat (fun ds ρ => (∀ d ∈ ds, ∃ i, d = .int i) ∧ ∃ s : Int, ρ = [.pa (scr ns), .lo (.fz (.int s)), .un]) ?_ ?_ ⟨fun d hd => cut_ints hd, 7, rfl⟩
  · rintro d ds ρ ⟨hd, s, rfl⟩
    obtain ⟨i, rfl⟩ := hd d List.mem_cons_self
    refine ⟨_, rfl, ?_⟩
    simp [exS, prep_fidx, tst_fidx, prep_sset, tst_sset, prep_lset, tst_lset, prep_rev, tst_rev, prep_idx, tst_idx, ev, evDs, evAs, evO, evC, evI, evPs, prep_dget, tst_dget, prep_loc, prep_con, prep_glo, prep_tup, prep_lst, prep_bin, prep_neg, prep_not, prep_cmp, prep_cmp2, prep_isN, prep_notN, prep_and, prep_or, prep_ife, prep_sub, prep_slc, prep_call, prep_bi, prep_isi, prep_lrg1, prep_lrg2, prep_lc, tst_loc, tst_con, tst_glo, tst_tup, tst_lst, tst_bin, tst_neg, tst_not, tst_cmp, tst_cmp2, tst_isN, tst_notN, tst_and, tst_or, tst_ife, tst_sub, tst_slc, tst_call, tst_bi, tst_isi, tst_lrg1, tst_lrg2, tst_lc, evLoc, frz, rd, putO, loS, unS, kill, Res.bind, Res.st, ofO, AV.val, Sl.get, Sl.put, vals, binF, biF, cmpF, eqF, truF, isiF, ixF, cutF, setF, appF, augF, retLoc, items, litems, noneB, asB, O.toD, O.own, SR.sat_nx, SR.sat_rt, SR.sat_bk, SR.sat_ct, SR.sat_map, SR.sat_seq, sat_ite, Res.sat_ok, sat_cons, sat_nil, sat_kil, lend, called, back, hide, unhide, fins, wee, fits]
    exact fun d h => hd d (List.mem_cons_of_mem _ h)
  · rintro ρ ⟨_, s, rfl⟩
    simp [exS, prep_fidx, tst_fidx, prep_sset, tst_sset, prep_lset, tst_lset, prep_rev, tst_rev, prep_idx, tst_idx, ev, evDs, evAs, evO, evC, evI, evPs, prep_dget, tst_dget, prep_loc, prep_con, prep_glo, prep_tup, prep_lst, prep_bin, prep_neg, prep_not, prep_cmp, prep_cmp2, prep_isN, prep_notN, prep_and, prep_or, prep_ife, prep_sub, prep_slc, prep_call, prep_bi, prep_isi, prep_lrg1, prep_lrg2, prep_lc, tst_loc, tst_con, tst_glo, tst_tup, tst_lst, tst_bin, tst_neg, tst_not, tst_cmp, tst_cmp2, tst_isN, tst_notN, tst_and, tst_or, tst_ife, tst_sub, tst_slc, tst_call, tst_bi, tst_isi, tst_lrg1, tst_lrg2, tst_lc, evLoc, frz, rd, putO, loS, unS, kill, Res.bind, Res.st, ofO, AV.val, Sl.get, Sl.put, vals, binF, biF, cmpF, eqF, truF, isiF, ixF, cutF, setF, appF, augF, retLoc, items, litems, noneB, asB, O.toD, O.own, SR.sat_nx, SR.sat_rt, SR.sat_bk, SR.sat_ct, SR.sat_map, SR.sat_seq, sat_ite, Res.sat_ok, sat_cons, sat_nil, sat_kil, lend, called, back, hide, unhide, fins, wee, fits, scr]
theorem rtB_ends {r : SR} {os : List O} (h : rtB r = true) : ∃ ps, ends os r = .ok (.fz (.bool true)) ps := by
  cases r with
  | rt o ρ =>
    cases o with
    | fz d =>
      cases d <;> first | (cases h; done) | skip
      obtain rfl : _ = true := h
      exact ⟨_, rfl⟩
    | ls _ => cases h
    | dc _ => cases h
  | _ => cases h
/-! ### spread -/
def Bspread : ISs :=
  (.cons (.asg 1 (.bin .mod (.bi .int (.cons (.loc 0) .nil)) (.con (.int 2147483647))))
  (.cons (.asg 2 (.con (.int 1)))
  (.cons (.fr (.nm 3) (.rng1 (.con (.int 4)))
  (.cons (.asg 1 (.bin .mod (.bi .int (.cons (.bin .add (.bin .add (.bin .mul (.loc 1) (.con (.int 48271))) (.con (.int 12345))) (.loc 3)) .nil)) (.con (.int 2147483647))))
  (.cons (.asg 2 (.bin .add (.bin .mul (.loc 2) (.con (.int 2147483647))) (.loc 1)))
  .nil)) [3])
  (.cons (.ret (.loc 2))
  .nil))))
def dSpread : Df := ⟨"_law_spread", ["cell", "mixed", "total", "k"], 1, Bspread⟩
theorem spread_sat {T : List Df} {n f : Nat} (hf : T[f]? = some dSpread) (c : Int) : (callN T (n + 1) f [.fz (.int c)]).sat fun o ps => ∃ t : Int, o = .fz (.int t) ∧ ps = [none] := by
  refine callN_sat hf rfl ?_
  show SR.sat (exSs _ Bspread [.pa (.fz (.int c)), .un, .un, .un]) _ _ _ _
  unfold Bspread
  simp [exS, prep_fidx, tst_fidx, prep_sset, tst_sset, prep_lset, tst_lset, prep_rev, tst_rev, prep_idx, tst_idx, ev, evDs, evAs, evO, evC, evI, evPs, prep_dget, tst_dget, prep_loc, prep_con, prep_glo, prep_tup, prep_lst, prep_bin, prep_neg, prep_not, prep_cmp, prep_cmp2, prep_isN, prep_notN, prep_and, prep_or, prep_ife, prep_sub, prep_slc, prep_call, prep_bi, prep_isi, prep_lrg1, prep_lrg2, prep_lc, tst_loc, tst_con, tst_glo, tst_tup, tst_lst, tst_bin, tst_neg, tst_not, tst_cmp, tst_cmp2, tst_isN, tst_notN, tst_and, tst_or, tst_ife, tst_sub, tst_slc, tst_call, tst_bi, tst_isi, tst_lrg1, tst_lrg2, tst_lc, evLoc, frz, rd, putO, loS, unS, kill, Res.bind, Res.st, ofO, AV.val, Sl.get, Sl.put, vals, binF, biF, cmpF, eqF, truF, isiF, ixF, cutF, setF, appF, augF, retLoc, items, litems, noneB, asB, O.toD, O.own, SR.sat_nx, SR.sat_rt, SR.sat_bk, SR.sat_ct, SR.sat_map, SR.sat_seq, sat_ite, Res.sat_ok, sat_cons, sat_nil, sat_kil, lend, called, back, hide, unhide, fins, wee, fits, rngOk]
  refine frF_sat (fun ds ρ => (∀ d ∈ ds, ∃ i, d = .int i) ∧ ∃ a b : Int, ρ = [.pa (.fz (.int c)), .lo (.fz (.int a)), .lo (.fz (.int b)), .un]) ?_ ?_ ⟨?_, _, _, rfl⟩
  · rintro d ds ρ ⟨hd, a, b, rfl⟩
    obtain ⟨i, rfl⟩ := hd d List.mem_cons_self
    refine ⟨_, rfl, ?_⟩
    simp [exS, prep_fidx, tst_fidx, prep_sset, tst_sset, prep_lset, tst_lset, prep_rev, tst_rev, prep_idx, tst_idx, ev, evDs, evAs, evO, evC, evI, evPs, prep_dget, tst_dget, prep_loc, prep_con, prep_glo, prep_tup, prep_lst, prep_bin, prep_neg, prep_not, prep_cmp, prep_cmp2, prep_isN, prep_notN, prep_and, prep_or, prep_ife, prep_sub, prep_slc, prep_call, prep_bi, prep_isi, prep_lrg1, prep_lrg2, prep_lc, tst_loc, tst_con, tst_glo, tst_tup, tst_lst, tst_bin, tst_neg, tst_not, tst_cmp, tst_cmp2, tst_isN, tst_notN, tst_and, tst_or, tst_ife, tst_sub, tst_slc, tst_call, tst_bi, tst_isi, tst_lrg1, tst_lrg2, tst_lc, evLoc, frz, rd, putO, loS, unS, kill, Res.bind, Res.st, ofO, AV.val, Sl.get, Sl.put, vals, binF, biF, cmpF, eqF, truF, isiF, ixF, cutF, setF, appF, augF, retLoc, items, litems, noneB, asB, O.toD, O.own, SR.sat_nx, SR.sat_rt, SR.sat_bk, SR.sat_ct, SR.sat_map, SR.sat_seq, sat_ite, Res.sat_ok, sat_cons, sat_nil, sat_kil, lend, called, back, hide, unhide, fins, wee, fits]
    exact fun d h => hd d (List.mem_cons_of_mem _ h)
  · rintro ρ ⟨_, a, b, rfl⟩
    simp [exS, prep_fidx, tst_fidx, prep_sset, tst_sset, prep_lset, tst_lset, prep_rev, tst_rev, prep_idx, tst_idx, ev, evDs, evAs, evO, evC, evI, evPs, prep_dget, tst_dget, prep_loc, prep_con, prep_glo, prep_tup, prep_lst, prep_bin, prep_neg, prep_not, prep_cmp, prep_cmp2, prep_isN, prep_notN, prep_and, prep_or, prep_ife, prep_sub, prep_slc, prep_call, prep_bi, prep_isi, prep_lrg1, prep_lrg2, prep_lc, tst_loc, tst_con, tst_glo, tst_tup, tst_lst, tst_bin, tst_neg, tst_not, tst_cmp, tst_cmp2, tst_isN, tst_notN, tst_and, tst_or, tst_ife, tst_sub, tst_slc, tst_call, tst_bi, tst_isi, tst_lrg1, tst_lrg2, tst_lc, evLoc, frz, rd, putO, loS, unS, kill, Res.bind, Res.st, ofO, AV.val, Sl.get, Sl.put, vals, binF, biF, cmpF, eqF, truF, isiF, ixF, cutF, setF, appF, augF, retLoc, items, litems, noneB, asB, O.toD, O.own, SR.sat_nx, SR.sat_rt, SR.sat_bk, SR.sat_ct, SR.sat_map, SR.sat_seq, sat_ite, Res.sat_ok, sat_cons, sat_nil, sat_kil, lend, called, back, hide, unhide, fins, wee, fits]
  · intro d hd
    unfold rngD at hd
    obtain ⟨k, _, e⟩ := List.mem_map.mp hd
    exact ⟨_, e.symm⟩
/-! ### draw -/
def Bdraw (fs : Nat) : ISs :=
  (.cons (.iff (.and (.cmp .le (.sub (.loc 0) (.con (.int 2))) (.con (.int 0))) (.cmp .lt (.sub (.loc 0) (.con (.int 1))) (.bi .len (.cons (.sub (.loc 0) (.con (.int 0))) .nil))))
  (.cons (.asg 3 (.sub (.sub (.loc 0) (.con (.int 0))) (.sub (.loc 0) (.con (.int 1)))))
  (.cons (.seti 0 (.con (.int 1)) (.bin .add (.sub (.loc 0) (.con (.int 1))) (.con (.int 1))))
  (.cons (.seti 0 (.con (.int 2)) (.loc 3))
  (.cons (.iff (.cmp .lt (.loc 3) (.con (.int 1000000000000000000)))
  (.cons (.seti 0 (.con (.int 2)) (.call fs (.cons (.loc 3) .nil)))
  .nil)
  .nil)
  .nil))))
  .nil)
  (.kil [3] (.cons (.seti 0 (.con (.int 3)) (.bin .add (.sub (.loc 0) (.con (.int 3))) (.con (.int 1))))
  (.cons (.iff (.cmp .le (.sub (.loc 0) (.con (.int 2))) (.con (.int 0)))
  (.cons (.asg 4 (.bin .mod (.bi .int (.cons (.bin .add (.bin .add (.bin .mul (.sub (.loc 0) (.con (.int 4))) (.con (.int 48271))) (.bin .mul (.sub (.loc 0) (.con (.int 3))) (.con (.int 69621)))) (.con (.int 1))) .nil)) (.con (.int 2147483647))))
  (.cons (.asg 4 (.bin .mod (.bi .int (.cons (.bin .add (.bin .mul (.loc 4) (.con (.int 16807))) (.sub (.loc 0) (.con (.int 3)))) .nil)) (.con (.int 2147483629))))
  (.cons (.ret (.bin .mod (.bin .fdiv (.loc 4) (.con (.int 5))) (.loc 1)))
  .nil)))
  .nil)
  (.kil [4] (.cons (.asg 2 (.bin .mod (.bi .int (.cons (.sub (.loc 0) (.con (.int 2))) .nil)) (.loc 1)))
  (.cons (.seti 0 (.con (.int 2)) (.bin .fdiv (.sub (.loc 0) (.con (.int 2))) (.loc 1)))
  (.cons (.ret (.loc 2))
  .nil))))))))
def dDraw (fs : Nat) : Df := ⟨"_law_draw", ["pool", "many", "value", "cell", "mixed"], 2, Bdraw fs⟩
def poolL (cs : List Int) (i c k s : Int) : List D := [.list (cs.map PyData.int), .int i, .int c, .int k, .int s]
/-- a pool -/
def PoolOk (p : O) : Prop := ∃ (cs : List Int) (i c k s : Int), p = .ls (poolL cs i c k s) ∧ 0 ≤ i
theorem atI0 {α : Type} {a : α} {l : List α} : L2.atI (a :: l) 0 = some a := by simp [L2.atI, L2.ixN]
theorem at5 {a b c d e : D} : L2.atI [a, b, c, d, e] 0 = some a ∧ L2.atI [a, b, c, d, e] 1 = some b ∧ L2.atI [a, b, c, d, e] 2 = some c ∧ L2.atI [a, b, c, d, e] 3 = some d ∧ L2.atI [a, b, c, d, e] 4 = some e := by
  simp [L2.atI, L2.ixN]
theorem ix5 : L2.ixN 5 0 = some 0 ∧ L2.ixN 5 1 = some 1 ∧ L2.ixN 5 2 = some 2 ∧ L2.ixN 5 3 = some 3 ∧ L2.ixN 5 4 = some 4 := by decide
theorem atI_in {α : Type} {l : List α} {i : Int} (h0 : 0 ≤ i) (h : i < l.length) : L2.atI l i = l[i.toNat]? := by
  unfold L2.atI L2.ixN
  rw [if_pos h0, if_pos h]; rfl
theorem atI_ints {cs : List Int} {i : Int} (h0 : 0 ≤ i) (h : i < cs.length) : ∃ x, L2.atI (cs.map PyData.int) i = some (.int x) := by
  rw [atI_in h0 (by simpa using h), List.getElem?_map]
  have : i.toNat < cs.length := by omega
  rw [List.getElem?_eq_getElem this]
  exact ⟨_, rfl⟩
theorem draw_sat {T : List Df} {n f fs : Nat} (hf : T[f]? = some (dDraw fs)) (hs : T[fs]? = some dSpread) {p : O} (hp : PoolOk p) {m : Int} (h0 : 0 < m) (h1 : m < 18446744073709551616) :
    (callN T (n + 2) f [p, .fz (.int m)]).sat fun o ps => ∃ (r : Int) (p' : O), o = .fz (.int r) ∧ ps = [some p', none] ∧ 0 ≤ r ∧ r < m ∧ PoolOk p' := by
  obtain ⟨cs, i, c, k, s, rfl, hi⟩ := hp
  refine callN_sat hf rfl ?_
  show SR.sat (exSs (callN T (n + 1)) (Bdraw fs) [.pa (.ls (poolL cs i c k s)), .pa (.fz (.int m)), .un, .un, .un]) _ _ _ _
  unfold Bdraw
  rw [sat_cons]
  refine SR.sat_imp (N := fun ρ => ∃ (i c : Int) (x : Sl), 0 ≤ i ∧ ρ = [.pa (.ls (poolL cs i c k s)), .pa (.fz (.int m)), .un, x, .un]) (R := fun _ _ => False) (B := fun _ => False) (C := fun _ => False) ?_ ?_ (fun _ _ z => z.elim) (fun _ z => z.elim) (fun _ z => z.elim)
  · by_cases hc : c ≤ 0
    · by_cases hl : i < (cs.length : Int)
      · obtain ⟨x, hx⟩ := atI_ints hi hl
        obtain ⟨o, ps, e, t, rfl, rfl⟩ := CR.sat_ok (spread_sat (T := T) (n := n) hs x)
        by_cases hx2 : x < 1000000000000000000
        · simp [exS, prep_fidx, tst_fidx, prep_sset, tst_sset, prep_lset, tst_lset, prep_rev, tst_rev, prep_idx, tst_idx, ev, evDs, evAs, evO, evC, evI, evPs, prep_dget, tst_dget, prep_loc, prep_con, prep_glo, prep_tup, prep_lst, prep_bin, prep_neg, prep_not, prep_cmp, prep_cmp2, prep_isN, prep_notN, prep_and, prep_or, prep_ife, prep_sub, prep_slc, prep_call, prep_bi, prep_isi, prep_lrg1, prep_lrg2, prep_lc, tst_loc, tst_con, tst_glo, tst_tup, tst_lst, tst_bin, tst_neg, tst_not, tst_cmp, tst_cmp2, tst_isN, tst_notN, tst_and, tst_or, tst_ife, tst_sub, tst_slc, tst_call, tst_bi, tst_isi, tst_lrg1, tst_lrg2, tst_lc, evLoc, frz, rd, putO, loS, unS, kill, Res.bind, Res.st, ofO, AV.val, Sl.get, Sl.put, vals, binF, biF, cmpF, eqF, truF, isiF, ixF, cutF, setF, appF, augF, retLoc, items, litems, noneB, asB, O.toD, O.own, SR.sat_nx, SR.sat_rt, SR.sat_bk, SR.sat_ct, SR.sat_map, SR.sat_seq, sat_ite, Res.sat_ok, sat_cons, sat_nil, sat_kil, lend, called, back, hide, unhide, fins, wee, fits, poolL, at5, ix5, hc, hl, hx, hx2, e]
          omega
        · simp [exS, prep_fidx, tst_fidx, prep_sset, tst_sset, prep_lset, tst_lset, prep_rev, tst_rev, prep_idx, tst_idx, ev, evDs, evAs, evO, evC, evI, evPs, prep_dget, tst_dget, prep_loc, prep_con, prep_glo, prep_tup, prep_lst, prep_bin, prep_neg, prep_not, prep_cmp, prep_cmp2, prep_isN, prep_notN, prep_and, prep_or, prep_ife, prep_sub, prep_slc, prep_call, prep_bi, prep_isi, prep_lrg1, prep_lrg2, prep_lc, tst_loc, tst_con, tst_glo, tst_tup, tst_lst, tst_bin, tst_neg, tst_not, tst_cmp, tst_cmp2, tst_isN, tst_notN, tst_and, tst_or, tst_ife, tst_sub, tst_slc, tst_call, tst_bi, tst_isi, tst_lrg1, tst_lrg2, tst_lc, evLoc, frz, rd, putO, loS, unS, kill, Res.bind, Res.st, ofO, AV.val, Sl.get, Sl.put, vals, binF, biF, cmpF, eqF, truF, isiF, ixF, cutF, setF, appF, augF, retLoc, items, litems, noneB, asB, O.toD, O.own, SR.sat_nx, SR.sat_rt, SR.sat_bk, SR.sat_ct, SR.sat_map, SR.sat_seq, sat_ite, Res.sat_ok, sat_cons, sat_nil, sat_kil, lend, called, back, hide, unhide, fins, wee, fits, poolL, at5, ix5, hc, hl, hx, hx2]
          omega
      · simp [exS, prep_fidx, tst_fidx, prep_sset, tst_sset, prep_lset, tst_lset, prep_rev, tst_rev, prep_idx, tst_idx, ev, evDs, evAs, evO, evC, evI, evPs, prep_dget, tst_dget, prep_loc, prep_con, prep_glo, prep_tup, prep_lst, prep_bin, prep_neg, prep_not, prep_cmp, prep_cmp2, prep_isN, prep_notN, prep_and, prep_or, prep_ife, prep_sub, prep_slc, prep_call, prep_bi, prep_isi, prep_lrg1, prep_lrg2, prep_lc, tst_loc, tst_con, tst_glo, tst_tup, tst_lst, tst_bin, tst_neg, tst_not, tst_cmp, tst_cmp2, tst_isN, tst_notN, tst_and, tst_or, tst_ife, tst_sub, tst_slc, tst_call, tst_bi, tst_isi, tst_lrg1, tst_lrg2, tst_lc, evLoc, frz, rd, putO, loS, unS, kill, Res.bind, Res.st, ofO, AV.val, Sl.get, Sl.put, vals, binF, biF, cmpF, eqF, truF, isiF, ixF, cutF, setF, appF, augF, retLoc, items, litems, noneB, asB, O.toD, O.own, SR.sat_nx, SR.sat_rt, SR.sat_bk, SR.sat_ct, SR.sat_map, SR.sat_seq, sat_ite, Res.sat_ok, sat_cons, sat_nil, sat_kil, lend, called, back, hide, unhide, fins, wee, fits, poolL, at5, ix5, hc, hl]
        exact hi
    · simp [exS, prep_fidx, tst_fidx, prep_sset, tst_sset, prep_lset, tst_lset, prep_rev, tst_rev, prep_idx, tst_idx, ev, evDs, evAs, evO, evC, evI, evPs, prep_dget, tst_dget, prep_loc, prep_con, prep_glo, prep_tup, prep_lst, prep_bin, prep_neg, prep_not, prep_cmp, prep_cmp2, prep_isN, prep_notN, prep_and, prep_or, prep_ife, prep_sub, prep_slc, prep_call, prep_bi, prep_isi, prep_lrg1, prep_lrg2, prep_lc, tst_loc, tst_con, tst_glo, tst_tup, tst_lst, tst_bin, tst_neg, tst_not, tst_cmp, tst_cmp2, tst_isN, tst_notN, tst_and, tst_or, tst_ife, tst_sub, tst_slc, tst_call, tst_bi, tst_isi, tst_lrg1, tst_lrg2, tst_lc, evLoc, frz, rd, putO, loS, unS, kill, Res.bind, Res.st, ofO, AV.val, Sl.get, Sl.put, vals, binF, biF, cmpF, eqF, truF, isiF, ixF, cutF, setF, appF, augF, retLoc, items, litems, noneB, asB, O.toD, O.own, SR.sat_nx, SR.sat_rt, SR.sat_bk, SR.sat_ct, SR.sat_map, SR.sat_seq, sat_ite, Res.sat_ok, sat_cons, sat_nil, sat_kil, lend, called, back, hide, unhide, fins, wee, fits, poolL, at5, ix5, hc]
      exact hi
  · rintro ρ ⟨i, c, x, hi, rfl⟩
    have m0 : ¬ m ≤ 0 := by omega
    by_cases hc : c ≤ 0
    · simp [exS, prep_fidx, tst_fidx, prep_sset, tst_sset, prep_lset, tst_lset, prep_rev, tst_rev, prep_idx, tst_idx, ev, evDs, evAs, evO, evC, evI, evPs, prep_dget, tst_dget, prep_loc, prep_con, prep_glo, prep_tup, prep_lst, prep_bin, prep_neg, prep_not, prep_cmp, prep_cmp2, prep_isN, prep_notN, prep_and, prep_or, prep_ife, prep_sub, prep_slc, prep_call, prep_bi, prep_isi, prep_lrg1, prep_lrg2, prep_lc, tst_loc, tst_con, tst_glo, tst_tup, tst_lst, tst_bin, tst_neg, tst_not, tst_cmp, tst_cmp2, tst_isN, tst_notN, tst_and, tst_or, tst_ife, tst_sub, tst_slc, tst_call, tst_bi, tst_isi, tst_lrg1, tst_lrg2, tst_lc, evLoc, frz, rd, putO, loS, unS, kill, Res.bind, Res.st, ofO, AV.val, Sl.get, Sl.put, vals, binF, biF, cmpF, eqF, truF, isiF, ixF, cutF, setF, appF, augF, retLoc, items, litems, noneB, asB, O.toD, O.own, SR.sat_nx, SR.sat_rt, SR.sat_bk, SR.sat_ct, SR.sat_map, SR.sat_seq, sat_ite, Res.sat_ok, sat_cons, sat_nil, sat_kil, lend, called, back, hide, unhide, fins, wee, fits, poolL, at5, ix5, hc, h0, h1]
      exact ⟨Int.emod_nonneg _ (by omega), Int.emod_lt_of_pos _ h0, cs, i, c, k + 1, s, rfl, hi⟩
    · simp [exS, prep_fidx, tst_fidx, prep_sset, tst_sset, prep_lset, tst_lset, prep_rev, tst_rev, prep_idx, tst_idx, ev, evDs, evAs, evO, evC, evI, evPs, prep_dget, tst_dget, prep_loc, prep_con, prep_glo, prep_tup, prep_lst, prep_bin, prep_neg, prep_not, prep_cmp, prep_cmp2, prep_isN, prep_notN, prep_and, prep_or, prep_ife, prep_sub, prep_slc, prep_call, prep_bi, prep_isi, prep_lrg1, prep_lrg2, prep_lc, tst_loc, tst_con, tst_glo, tst_tup, tst_lst, tst_bin, tst_neg, tst_not, tst_cmp, tst_cmp2, tst_isN, tst_notN, tst_and, tst_or, tst_ife, tst_sub, tst_slc, tst_call, tst_bi, tst_isi, tst_lrg1, tst_lrg2, tst_lc, evLoc, frz, rd, putO, loS, unS, kill, Res.bind, Res.st, ofO, AV.val, Sl.get, Sl.put, vals, binF, biF, cmpF, eqF, truF, isiF, ixF, cutF, setF, appF, augF, retLoc, items, litems, noneB, asB, O.toD, O.own, SR.sat_nx, SR.sat_rt, SR.sat_bk, SR.sat_ct, SR.sat_map, SR.sat_seq, sat_ite, Res.sat_ok, sat_cons, sat_nil, sat_kil, lend, called, back, hide, unhide, fins, wee, fits, poolL, at5, ix5, hc, h0, h1]
      exact ⟨Int.emod_nonneg _ (by omega), Int.emod_lt_of_pos _ h0, cs, i, _, k + 1, s, rfl, hi⟩
/-! ### same -/
def sameLc (fs : Nat) : IE := .lc (.loc 2) (.nm 2) (.rng1 (.bi .len (.cons (.loc 1) .nil))) (.so (.not (.call fs (.cons (.sub (.loc 0) (.loc 2)) (.cons (.sub (.loc 1) (.loc 2)) .nil))))) [2]
def Bsame (fs : Nat) : ISs :=
  (.cons (.iff (.or (.isi (.loc 1) .tTup) (.isi (.loc 1) .tList))
  (.cons (.iff (.or (.cmp .ne (.isi (.loc 1) .tTup) (.isi (.loc 0) .tTup)) (.or (.cmp .ne (.isi (.loc 1) .tList) (.isi (.loc 0) .tList)) (.cmp .ne (.bi .len (.cons (.loc 0) .nil)) (.bi .len (.cons (.loc 1) .nil)))))
  (.cons (.ret (.con (.bool false)))
  .nil)
  .nil)
  (.cons (.ret (.cmp .eq (.bi .len (.cons (sameLc fs) .nil)) (.con (.int 0))))
  .nil))
  .nil)
  (.kil [2] (.cons (.iff (.isN (.loc 1))
  (.cons (.ret (.isN (.loc 0)))
  .nil)
  .nil)
  (.cons (.iff (.or (.isi (.loc 1) .tBool) (.isi (.loc 0) .tBool))
  (.cons (.ret (.and (.isi (.loc 1) .tBool) (.and (.isi (.loc 0) .tBool) (.cmp .eq (.loc 0) (.loc 1)))))
  .nil)
  .nil)
  (.cons (.iff (.isi (.loc 1) .tInt)
  (.cons (.ret (.and (.isi (.loc 0) .tInt) (.cmp .eq (.loc 0) (.loc 1))))
  .nil)
  .nil)
  (.cons (.ret (.and (.isi (.loc 0) .tStr) (.cmp .eq (.loc 0) (.loc 1))))
  .nil))))))
def dSame (fs : Nat) : Df := ⟨"_law_same", ["actual", "due", "k"], 2, Bsame fs⟩
/-- plain data of at most n levels -/
def okD : Nat → D → Bool
  | _, .none => true
  | _, .bool _ => true
  | _, .int _ => true
  | _, .str _ => true
  | n + 1, .tuple ds => decide (ds.length ≤ 16777216) && ds.all (okD n)
  | n + 1, .list ds => decide (ds.length ≤ 16777216) && ds.all (okD n)
  | _, _ => false
theorem okD_mono : ∀ {n m : Nat} {d : D}, n ≤ m → okD n d = true → okD m d = true := by
  intro n
  induction n with
  | zero => intro m d h e; cases d <;> first | (simp [okD] at e; done) | (simp [okD])
  | succ n ih =>
    intro m d h e
    cases m with
    | zero => omega
    | succ m =>
      cases d <;> first | (simp [okD]; done) | (simp [okD] at e ⊢; exact ⟨e.1, fun x hx => ih (by omega) (e.2 x hx)⟩) | (simp [okD] at e)
def ownO (o : O) : Option O := match o with
  | .fz _ => none | o => some o
theorem eqv_bool {a b : Bool} : PyData.eqv (.bool a) (.bool b) = (a == b) := rfl
theorem eqv_int {a b : Int} : PyData.eqv (.int a) (.int b) = (a == b) := rfl
theorem sh_bool {a : Bool} : SeqAt.shaped (.bool a) = true := rfl
theorem sh_int {a : Int} : SeqAt.shaped (.int a) = true := rfl
theorem fins2 {a b : O} {x y : Sl} : fins [a, b] [.pa a, .pa b, x] = [ownO a, ownO b] := by cases a <;> cases b <;> rfl
theorem rngD_mem {n : Nat} {d : D} (h : d ∈ rngD 0 n) : ∃ k : Nat, k < n ∧ d = .int (k : Nat) := by
  unfold rngD at h
  obtain ⟨k, hk, e⟩ := List.mem_map.mp h
  exact ⟨k, List.mem_range.mp hk, by rw [← e, Int.zero_add]⟩
theorem rok_ {α : Type} {r : Res α} {Q : α → Fm → Prop} (h : r.sat Q) : ∃ a ρ, r = .ok a ρ ∧ Q a ρ := by cases r <;> first | exact ⟨_, _, rfl, h⟩ | exact h.elim
theorem atI_nat {ds : List D} {k : Nat} (h : k < ds.length) : L2.atI ds (k : Int) = some ds[k] := by
  rw [atI_in (by omega) (by omega)]
  show ds[(k : Int).toNat]? = _
  rw [Int.toNat_natCast, List.getElem?_eq_getElem h]
theorem len_of {o : O} {ds : List D} (h : items o = some ds) : biF .len [o] = some (.fz (.int ds.length)) := by
  cases o with
  | fz d => cases d <;> first | (cases h; done) | (obtain rfl : _ = ds := Option.some.inj h; rfl)
  | ls _ => obtain rfl : _ = ds := Option.some.inj h; rfl
  | dc _ => cases h
theorem ix_of {o : O} {ds : List D} {k : Int} (h : items o = some ds) : ixF o (.fz (.int k)) = L2.atI ds k := by
  cases o with
  | fz d => cases d <;> first | (cases h; done) | (obtain rfl : _ = ds := Option.some.inj h; rfl)
  | ls _ => obtain rfl : _ = ds := Option.some.inj h; rfl
  | dc _ => cases h
theorem same_lc {Φ : Nat → List O → CR} {f : Nat} {a b : O} {ds : List D} (ia : items a = some ds) (ib : items b = some ds) (hl : ds.length ≤ 16777216) (ih : ∀ d ∈ ds, Φ f [.fz d, .fz d] = .ok (.fz (.bool true)) [none, none]) :
    ev Φ (sameLc f) [.pa a, .pa b, .un] = .ok (.ls []) [.pa a, .pa b, .un] := by
  have hr : rngOk (ds.length : Int) = true := by unfold rngOk; simp; omega
  have eI : evI Φ (.rng1 (.bi .len (.cons (.loc 1) .nil))) [.pa a, .pa b, .un] = .ok (rngD 0 ds.length) [.pa a, .pa b, .un] := by
    simp [evI, ev, evAs, prep_loc, rd, vals, AV.val, len_of ib, Res.bind, ofO, Sl.get, hr]
  unfold sameLc
  rw [ev, eI]
  simp only [Res.bind, hide]
  have h : (noEx (lcLoop (fun d ρ => (ofO (asgF (.nm 2) d ρ) ρ).bind fun ρ' _ => (evC Φ (.so (.not (.call f (.cons (.sub (.loc 0) (.loc 2)) (.cons (.sub (.loc 1) (.loc 2)) .nil))))) ρ').bind fun k ρ2 => if k then (frz (ev Φ (.loc 2) ρ2)).bind fun x ρ3 => .ok (some x) (kill [2] ρ3) else .ok none (kill [2] ρ2)) (rngD 0 ds.length) [] (kill [2] [.pa a, .pa b, .un]))).sat fun xs ρ => xs = [] ∧ ρ = [.pa a, .pa b, .un] := by
    refine lcLoop_sat (fun rs acc ρ => (∀ d ∈ rs, ∃ k : Nat, k < ds.length ∧ d = .int (k : Nat)) ∧ acc = [] ∧ ρ = [.pa a, .pa b, .un]) ?_ (fun acc ρ h => h.2) ⟨fun d hd => rngD_mem hd, rfl, rfl⟩
    rintro d rs acc ρ ⟨hd, rfl, rfl⟩
    obtain ⟨k, hk, rfl⟩ := hd d List.mem_cons_self
    have e := ih ds[k] (List.getElem_mem hk)
    have a1 := atI_nat hk
    simp [asgF, loS, evC, tst, ev, evAs, prep, rd, AV.val, Res.bind, ofO, Sl.get, ix_of ia, ix_of ib, a1, lend, called, back, e, truF, kill, unS, Res.sat_ok]
    exact fun d h => hd d (List.mem_cons_of_mem _ h)
  obtain ⟨xs, ρ, e, rfl, rfl⟩ := rok_ h
  simp only [Res.bind] at e
  rw [e]
  simp [shown, unhide]
theorem same_seq {T : List Df} {n f : Nat} (hf : T[f]? = some (dSame f)) {a b : O} {ds : List D} (hab : (a = .fz (.tuple ds) ∧ b = .fz (.tuple ds)) ∨ (a.toD = .list ds ∧ b.toD = .list ds))
    (hl : ds.length ≤ 16777216) (ih : ∀ d ∈ ds, (callN T n f [.fz d, .fz d]).sat fun o ps => o = .fz (.bool true) ∧ ps = [none, none]) : (callN T (n + 1) f [a, b]).sat fun o ps => o = .fz (.bool true) ∧ ps = [ownO a, ownO b] := by
  have ih' : ∀ d ∈ ds, callN T n f [.fz d, .fz d] = .ok (.fz (.bool true)) [none, none] := fun d hd => by
    obtain ⟨o, ps, e, rfl, rfl⟩ := CR.sat_ok (ih d hd)
    exact e
  refine callN_sat hf rfl ?_
  show SR.sat (exSs _ (Bsame f) [.pa a, .pa b, .un]) _ _ _ _
  generalize callN T n = Φ at ih'
  have cases5 : ∃ p q : Bool, (p || q) = true ∧ ((a = .fz (.tuple ds) ∧ b = .fz (.tuple ds)) ∨ ((a = .fz (.list ds) ∨ a = .ls ds) ∧ (b = .fz (.list ds) ∨ b = .ls ds))) := by
    refine ⟨true, true, rfl, hab.imp id fun ⟨h1, h2⟩ => ⟨?_, ?_⟩⟩
    · cases a <;> simp [O.toD] at h1 <;> simp [h1]
    · cases b <;> simp [O.toD] at h2 <;> simp [h2]
  obtain ⟨_, _, _, ⟨rfl, rfl⟩ | ⟨rfl | rfl, rfl | rfl⟩⟩ := cases5
  all_goals
    have L : ∀ a b, items a = some ds → items b = some ds → prep (sameLc f) (ev Φ (sameLc f)) [.pa a, .pa b, .un] = .ok (.o (.ls [])) [.pa a, .pa b, .un] := fun a b h1 h2 => by
      show (ev Φ (sameLc f) _).bind _ = _
      rw [same_lc h1 h2 hl ih']; rfl
    unfold Bsame
    simp [L (.fz (.tuple ds)) (.fz (.tuple ds)) rfl rfl, L (.fz (.tuple ds)) (.fz (.list ds)) rfl rfl, L (.fz (.tuple ds)) (.ls ds) rfl rfl, L (.fz (.list ds)) (.fz (.tuple ds)) rfl rfl, L (.fz (.list ds)) (.fz (.list ds)) rfl rfl, L (.fz (.list ds)) (.ls ds) rfl rfl, L (.ls ds) (.fz (.tuple ds)) rfl rfl, L (.ls ds) (.fz (.list ds)) rfl rfl, L (.ls ds) (.ls ds) rfl rfl, exS, prep_fidx, tst_fidx, prep_sset, tst_sset, prep_lset, tst_lset, prep_rev, tst_rev, prep_idx, tst_idx, ev, evDs, evAs, evO, evC, evI, evPs, prep_dget, tst_dget, prep_loc, prep_con, prep_glo, prep_tup, prep_lst, prep_bin, prep_neg, prep_not, prep_cmp, prep_cmp2, prep_isN, prep_notN, prep_and, prep_or, prep_ife, prep_sub, prep_slc, prep_call, prep_bi, prep_isi, prep_lrg1, prep_lrg2, prep_lc, tst_loc, tst_con, tst_glo, tst_tup, tst_lst, tst_bin, tst_neg, tst_not, tst_cmp, tst_cmp2, tst_isN, tst_notN, tst_and, tst_or, tst_ife, tst_sub, tst_slc, tst_call, tst_bi, tst_isi, tst_lrg1, tst_lrg2, tst_lc, evLoc, frz, rd, putO, loS, unS, kill, Res.bind, Res.st, ofO, AV.val, Sl.get, Sl.put, vals, binF, biF, cmpF, eqF, truF, isiF, ixF, cutF, setF, appF, augF, retLoc, items, litems, noneB, asB, O.toD, O.own, SR.sat_nx, SR.sat_rt, SR.sat_bk, SR.sat_ct, SR.sat_map, SR.sat_seq, sat_ite, Res.sat_ok, sat_cons, sat_nil, sat_kil, lend, called, back, hide, unhide, fins, wee, fits, eqv_bool, eqv_int, sh_bool, sh_int, ownO]
theorem same_atom {T : List Df} {n f : Nat} (hf : T[f]? = some (dSame f)) {d : D} (h : okD 0 d = true) : (callN T (n + 1) f [.fz d, .fz d]).sat fun o ps => o = .fz (.bool true) ∧ ps = [none, none] := by
  refine callN_sat hf rfl ?_
  show SR.sat (exSs _ (Bsame f) [.pa (.fz d), .pa (.fz d), .un]) _ _ _ _
  generalize callN T n = Φ
  unfold Bsame
  cases d <;> first | (simp [okD] at h; done) | simp [exS, prep_fidx, tst_fidx, prep_sset, tst_sset, prep_lset, tst_lset, prep_rev, tst_rev, prep_idx, tst_idx, ev, evDs, evAs, evO, evC, evI, evPs, prep_dget, tst_dget, prep_loc, prep_con, prep_glo, prep_tup, prep_lst, prep_bin, prep_neg, prep_not, prep_cmp, prep_cmp2, prep_isN, prep_notN, prep_and, prep_or, prep_ife, prep_sub, prep_slc, prep_call, prep_bi, prep_isi, prep_lrg1, prep_lrg2, prep_lc, tst_loc, tst_con, tst_glo, tst_tup, tst_lst, tst_bin, tst_neg, tst_not, tst_cmp, tst_cmp2, tst_isN, tst_notN, tst_and, tst_or, tst_ife, tst_sub, tst_slc, tst_call, tst_bi, tst_isi, tst_lrg1, tst_lrg2, tst_lc, evLoc, frz, rd, putO, loS, unS, kill, Res.bind, Res.st, ofO, AV.val, Sl.get, Sl.put, vals, binF, biF, cmpF, eqF, truF, isiF, ixF, cutF, setF, appF, augF, retLoc, items, litems, noneB, asB, O.toD, O.own, SR.sat_nx, SR.sat_rt, SR.sat_bk, SR.sat_ct, SR.sat_map, SR.sat_seq, sat_ite, Res.sat_ok, sat_cons, sat_nil, sat_kil, lend, called, back, hide, unhide, fins, wee, fits, eqv_bool, eqv_int, sh_bool, sh_int]
theorem same_sat {T : List Df} {f : Nat} (hf : T[f]? = some (dSame f)) : ∀ {n : Nat} {d : D} {a b : O}, a.toD = d → b.toD = d → okD n d = true → (callN T (n + 1) f [a, b]).sat fun o ps => o = .fz (.bool true) ∧ ps = [ownO a, ownO b] := by
  intro n
  induction n with
  | zero =>
    intro d a b ha hb hd
    cases a with
    | fz x =>
      cases b with
      | fz y =>
        obtain rfl : x = d := ha
        obtain rfl : y = x := hb
        exact same_atom hf hd
      | ls _ => rw [← hb] at hd; simp [O.toD, okD] at hd
      | dc _ => rw [← hb] at hd; simp [O.toD, okD] at hd
    | ls _ => rw [← ha] at hd; simp [O.toD, okD] at hd
    | dc _ => rw [← ha] at hd; simp [O.toD, okD] at hd
  | succ n ih =>
    intro d a b ha hb hd
    cases d with
    | list ds =>
      simp [okD] at hd
      exact same_seq hf (.inr ⟨ha, hb⟩) hd.1 fun x hx => ih (a := .fz x) (b := .fz x) rfl rfl (hd.2 x hx)
    | tuple ds =>
      simp [okD] at hd
      have e : ∀ o : O, o.toD = .tuple ds → o = .fz (.tuple ds) := fun o h => by cases o <;> simp [O.toD] at h <;> simp [h]
      exact same_seq hf (.inl ⟨e a ha, e b hb⟩) hd.1 fun x hx => ih (a := .fz x) (b := .fz x) rfl rfl (hd.2 x hx)
    | dict _ => simp [okD] at hd
    | none =>
      have e : ∀ o : O, o.toD = .none → o = .fz .none := fun o h => by cases o <;> simp [O.toD] at h <;> simp [h]
      rw [e a ha, e b hb]; exact same_atom hf rfl
    | bool x =>
      have e : ∀ o : O, o.toD = .bool x → o = .fz (.bool x) := fun o h => by cases o <;> simp [O.toD] at h <;> simp [h]
      rw [e a ha, e b hb]; exact same_atom hf rfl
    | int x =>
      have e : ∀ o : O, o.toD = .int x → o = .fz (.int x) := fun o h => by cases o <;> simp [O.toD] at h <;> simp [h]
      rw [e a ha, e b hb]; exact same_atom hf rfl
    | str x =>
      have e : ∀ o : O, o.toD = .str x → o = .fz (.str x) := fun o h => by cases o <;> simp [O.toD] at h <;> simp [h]
      rw [e a ha, e b hb]; exact same_atom hf rfl
theorem eq_of_sat {r : CR} {o : O} {ps : List (Option O)} (h : r.sat fun o' ps' => o' = o ∧ ps' = ps) : r = .ok o ps := by
  obtain ⟨o', ps', e, rfl, rfl⟩ := CR.sat_ok h
  exact e
theorem same_eq {T : List Df} {f n : Nat} (hf : T[f]? = some (dSame f)) {d : D} {a b : O} (ha : a.toD = d) (hb : b.toD = d) {m : Nat} (h : okD m d = true) (hm : m < n) : callN T n f [a, b] = .ok (.fz (.bool true)) [ownO a, ownO b] := by
  obtain ⟨k, rfl⟩ : ∃ k, n = k + 1 := ⟨n - 1, by omega⟩
  exact eq_of_sat (same_sat hf ha hb (okD_mono (by omega : m ≤ k) h))
/-- a pool, whole -/
structure P5 where
  cs : List Int
  i : Int
  c : Int
  k : Int
  s : Int
  h : 0 ≤ i
def pl (x : P5) : List D := poolL x.cs x.i x.c x.k x.s
theorem pool_eq {T : List Df} {n f : Nat} (hf : T[f]? = some dPool) (ns : List Int) : ∃ x : P5, callN T (n + 1) f [scr ns] = .ok (.ls (pl x)) [none] := by
  obtain ⟨o, ps, e, salt, rfl, rfl⟩ := CR.sat_ok (pool_sat (n := n) hf ns)
  exact ⟨⟨ns, 0, 0, 0, salt, by omega⟩, e⟩
theorem draw_eq {T : List Df} {n f fs : Nat} (hf : T[f]? = some (dDraw fs)) (hs : T[fs]? = some dSpread) (x : P5) {m : Int} (h0 : 0 < m) (h1 : m < 18446744073709551616) :
    ∃ (r : Int) (y : P5), callN T (n + 2) f [.ls (pl x), .fz (.int m)] = .ok (.fz (.int r)) [some (.ls (pl y)), none] ∧ 0 ≤ r ∧ r < m := by
  obtain ⟨o, ps, e, r, p', rfl, rfl, g0, g1, cs, i, c, k, s, rfl, hi⟩ := CR.sat_ok (draw_sat (n := n) hf hs (p := .ls (pl x)) ⟨x.cs, x.i, x.c, x.k, x.s, rfl, x.h⟩ h0 h1)
  exact ⟨r, ⟨cs, i, c, k, s, hi⟩, e, g0, g1⟩
theorem lcLoop_map {step : D → Fm → Res (Option D)} {F : D → D} {ρ : Fm} : ∀ {ds acc : List D}, (∀ d ∈ ds, step d ρ = .ok (some (F d)) ρ) → acc.length + ds.length ≤ 16777216 → lcLoop step ds acc ρ = .ok (acc ++ ds.map F) ρ
  | [], acc, _, _ => by simp [lcLoop]
  | d :: ds, acc, h, hl => by
    rw [List.length_cons] at hl
    unfold lcLoop
    rw [h d List.mem_cons_self]
    show (if acc.length < 16777216 then lcLoop step ds (acc ++ [F d]) ρ else .bad) = _
    rw [if_pos (by omega), lcLoop_map (fun d' h' => h d' (List.mem_cons_of_mem _ h')) (by rw [List.length_append, List.length_singleton]; omega)]
    simp
theorem ints_map : ∀ ns : List Int, intsF (ns.map PyData.int) = some ns
  | [] => rfl
  | n :: ns => by
    show (intsF (ns.map PyData.int)).map (n :: ·) = _
    rw [ints_map ns]; rfl
end GW

/-! GW, part 18: numbers, worlds and sights that are drawn. -/
namespace GW
open PySem
theorem seq_nx {ρ : Fm} {f : Fm → SR} : (SR.nx ρ).seq f = f ρ := rfl
theorem seq_rt {o : O} {ρ : Fm} {f : Fm → SR} : (SR.rt o ρ).seq f = .rt o ρ := rfl
theorem seq_bk {ρ : Fm} {f : Fm → SR} : (SR.bk ρ).seq f = .bk ρ := rfl
theorem seq_ct {ρ : Fm} {f : Fm → SR} : (SR.ct ρ).seq f = .ct ρ := rfl
theorem asg1 {i : Nat} {a : PyData} {ρ : Fm} : asgF (.nm i) a ρ = some (loS ρ i (.fz a)) := rfl
theorem asg2 {i j : Nat} {a b : PyData} {ρ : Fm} : asgF (.tp (.cons (.nm i) (.cons (.nm j) .nil))) (.tuple [a, b]) ρ = some (loS (loS ρ i (.fz a)) j (.fz b)) := rfl
theorem exSs_nil {Φ : Nat → List O → CR} {ρ : Fm} : exSs Φ .nil ρ = .nx ρ := by rw [exSs]
theorem exSs_kil {Φ : Nat → List O → CR} {ks : List Nat} {ss : ISs} {ρ : Fm} : exSs Φ (.kil ks ss) ρ = exSs Φ ss (kill ks ρ) := by rw [exSs]
/-- what is known of a draw -/
def DrawsF (Φ : Nat → List O → CR) (f : Nat) : Prop := ∀ (x : P5) (m : Int), 0 < m → m < 18446744073709551616 → ∃ (r : Int) (y : P5), Φ f [.ls (pl x), .fz (.int m)] = .ok (.fz (.int r)) [some (.ls (pl y)), none] ∧ 0 ≤ r ∧ r < m
theorem drawsF {T : List Df} {f fs : Nat} (hf : T[f]? = some (dDraw fs)) (hs : T[fs]? = some dSpread) (n : Nat) : DrawsF (callN T (n + 2)) f := fun x m h0 h1 => draw_eq hf hs x h0 h1
theorem pickL {l : List Int} {r : Int} (h0 : 0 ≤ r) (h1 : r < l.length) : ∃ v, v ∈ l ∧ L2.atI (l.map PyData.int) r = some (.int v) := by
  rw [atI_in h0 (by simpa using h1), List.getElem?_map]
  have : r.toNat < l.length := by omega
  rw [List.getElem?_eq_getElem this]
  exact ⟨_, List.getElem_mem this, rfl⟩
theorem inF_ints (a : Int) (fs : List Int) : inF (.int a) (fs.map PyData.int) = some (decide (a ∈ fs)) := by
  unfold inF
  have h1 : (fs.map PyData.int).all SeqAt.shaped = true := by
    rw [List.all_map]
    exact List.all_eq_true.mpr fun x _ => sh_int
  rw [h1, sh_int]
  show some _ = some _
  congr 1
  induction fs with
  | nil => rfl
  | cons b r ih =>
    have ih := ih (by rw [List.all_map]; exact List.all_eq_true.mpr fun x _ => sh_int)
    rw [List.map_cons, List.any_cons, ih, eqv_int]
    by_cases h : b = a
    · subst h; simp
    · have h2 : ¬ a = b := fun z => h z.symm
      simp [h, h2]
def Bnumber (fd : Nat) : ISs :=
  (.cons (.asg 2 (.call fd (.cons (.loc 0) (.cons (.con (.int 4)) .nil))))
  (.cons (.iff (.cmp .eq (.loc 2) (.con (.int 0)))
  (.cons (.ret (.call fd (.cons (.loc 0) (.cons (.bin .add (.loc 1) (.con (.int 1))) .nil))))
  .nil)
  .nil)
  (.cons (.iff (.cmp .eq (.loc 2) (.con (.int 1)))
  (.cons (.ret (.bi .min (.cons (.loc 1) (.cons (.call fd (.cons (.loc 0) (.cons (.con (.int 12)) .nil))) .nil))))
  .nil)
  .nil)
  (.cons (.iff (.cmp .eq (.loc 2) (.con (.int 2)))
  (.cons (.ret (.bi .max (.cons (.con (.int 0)) (.cons (.bin .sub (.loc 1) (.call fd (.cons (.loc 0) (.cons (.con (.int 12)) .nil)))) .nil))))
  .nil)
  .nil)
  (.cons (.ret (.bi .min (.cons (.loc 1) (.cons (.bin .mul (.con (.int 256)) (.call fd (.cons (.loc 0) (.cons (.con (.int 256)) .nil)))) .nil))))
  .nil)))))
def dNumber (fd : Nat) : Df := ⟨"_law_number", ["pool", "top", "turn"], 2, Bnumber fd⟩
theorem number_at {Φ : Nat → List O → CR} {fd : Nat} (D : DrawsF Φ fd) (x : P5) (top : Int) (h0 : 0 ≤ top) (h1 : top < 4611686018427387904) :
    ∃ v y t, exSs Φ (Bnumber fd) [.pa (.ls (pl x)), .pa (.fz (.int top)), .un] = .rt (.fz (.int v)) [.pa (.ls (pl y)), .pa (.fz (.int top)), .lo t] ∧ 0 ≤ v ∧ v ≤ top := by
  obtain ⟨r, y, e, g0, g1⟩ := D x 4 (by omega) (by omega)
  by_cases c0 : r = 0
  · obtain ⟨v, z, e2, g2, g3⟩ := D y (top + 1) (by omega) (by omega)
    refine ⟨v, z, .fz (.int r), ?_, g2, by omega⟩
    unfold Bnumber
    subst c0
    simp [exS, prep_fidx, tst_fidx, prep_sset, tst_sset, prep_lset, tst_lset, prep_rev, tst_rev, prep_idx, tst_idx, ev, evDs, evAs, evO, evC, evI, evPs, prep_dget, tst_dget, prep_loc, prep_con, prep_glo, prep_tup, prep_lst, prep_bin, prep_neg, prep_not, prep_cmp, prep_cmp2, prep_isN, prep_notN, prep_and, prep_or, prep_ife, prep_sub, prep_slc, prep_call, prep_bi, prep_isi, prep_lrg1, prep_lrg2, prep_lc, tst_loc, tst_con, tst_glo, tst_tup, tst_lst, tst_bin, tst_neg, tst_not, tst_cmp, tst_cmp2, tst_isN, tst_notN, tst_and, tst_or, tst_ife, tst_sub, tst_slc, tst_call, tst_bi, tst_isi, tst_lrg1, tst_lrg2, tst_lc, evLoc, frz, rd, putO, loS, unS, kill, Res.bind, Res.st, ofO, AV.val, Sl.get, Sl.put, vals, binF, biF, cmpF, eqF, truF, isiF, ixF, cutF, setF, appF, augF, retLoc, items, litems, noneB, asB, O.toD, O.own, SR.sat_nx, SR.sat_rt, SR.sat_bk, SR.sat_ct, SR.sat_map, SR.sat_seq, sat_ite, Res.sat_ok, sat_cons, sat_nil, sat_kil, lend, called, back, hide, unhide, fins, wee, fits, exSs_cons, exSs_nil, exSs_kil, seq_nx, seq_rt, e, e2, sh_int, eqv_int]
  by_cases c1 : r = 1
  · obtain ⟨v, z, e2, g2, g3⟩ := D y 12 (by omega) (by omega)
    refine ⟨if v < top then v else top, z, .fz (.int r), ?_, by split <;> omega, by split <;> omega⟩
    unfold Bnumber
    subst c1
    simp [exS, prep_fidx, tst_fidx, prep_sset, tst_sset, prep_lset, tst_lset, prep_rev, tst_rev, prep_idx, tst_idx, ev, evDs, evAs, evO, evC, evI, evPs, prep_dget, tst_dget, prep_loc, prep_con, prep_glo, prep_tup, prep_lst, prep_bin, prep_neg, prep_not, prep_cmp, prep_cmp2, prep_isN, prep_notN, prep_and, prep_or, prep_ife, prep_sub, prep_slc, prep_call, prep_bi, prep_isi, prep_lrg1, prep_lrg2, prep_lc, tst_loc, tst_con, tst_glo, tst_tup, tst_lst, tst_bin, tst_neg, tst_not, tst_cmp, tst_cmp2, tst_isN, tst_notN, tst_and, tst_or, tst_ife, tst_sub, tst_slc, tst_call, tst_bi, tst_isi, tst_lrg1, tst_lrg2, tst_lc, evLoc, frz, rd, putO, loS, unS, kill, Res.bind, Res.st, ofO, AV.val, Sl.get, Sl.put, vals, binF, biF, cmpF, eqF, truF, isiF, ixF, cutF, setF, appF, augF, retLoc, items, litems, noneB, asB, O.toD, O.own, SR.sat_nx, SR.sat_rt, SR.sat_bk, SR.sat_ct, SR.sat_map, SR.sat_seq, sat_ite, Res.sat_ok, sat_cons, sat_nil, sat_kil, lend, called, back, hide, unhide, fins, wee, fits, exSs_cons, exSs_nil, exSs_kil, seq_nx, seq_rt, e, e2, sh_int, eqv_int]
  by_cases c2 : r = 2
  · obtain ⟨v, z, e2, g2, g3⟩ := D y 12 (by omega) (by omega)
    refine ⟨if top - v > 0 then top - v else 0, z, .fz (.int r), ?_, by split <;> omega, by split <;> omega⟩
    unfold Bnumber
    subst c2
    simp [exS, prep_fidx, tst_fidx, prep_sset, tst_sset, prep_lset, tst_lset, prep_rev, tst_rev, prep_idx, tst_idx, ev, evDs, evAs, evO, evC, evI, evPs, prep_dget, tst_dget, prep_loc, prep_con, prep_glo, prep_tup, prep_lst, prep_bin, prep_neg, prep_not, prep_cmp, prep_cmp2, prep_isN, prep_notN, prep_and, prep_or, prep_ife, prep_sub, prep_slc, prep_call, prep_bi, prep_isi, prep_lrg1, prep_lrg2, prep_lc, tst_loc, tst_con, tst_glo, tst_tup, tst_lst, tst_bin, tst_neg, tst_not, tst_cmp, tst_cmp2, tst_isN, tst_notN, tst_and, tst_or, tst_ife, tst_sub, tst_slc, tst_call, tst_bi, tst_isi, tst_lrg1, tst_lrg2, tst_lc, evLoc, frz, rd, putO, loS, unS, kill, Res.bind, Res.st, ofO, AV.val, Sl.get, Sl.put, vals, binF, biF, cmpF, eqF, truF, isiF, ixF, cutF, setF, appF, augF, retLoc, items, litems, noneB, asB, O.toD, O.own, SR.sat_nx, SR.sat_rt, SR.sat_bk, SR.sat_ct, SR.sat_map, SR.sat_seq, sat_ite, Res.sat_ok, sat_cons, sat_nil, sat_kil, lend, called, back, hide, unhide, fins, wee, fits, exSs_cons, exSs_nil, exSs_kil, seq_nx, seq_rt, e, e2, sh_int, eqv_int]
  · obtain ⟨v, z, e2, g2, g3⟩ := D y 256 (by omega) (by omega)
    refine ⟨if 256 * v < top then 256 * v else top, z, .fz (.int r), ?_, by split <;> omega, by split <;> omega⟩
    unfold Bnumber
    simp [exS, prep_fidx, tst_fidx, prep_sset, tst_sset, prep_lset, tst_lset, prep_rev, tst_rev, prep_idx, tst_idx, ev, evDs, evAs, evO, evC, evI, evPs, prep_dget, tst_dget, prep_loc, prep_con, prep_glo, prep_tup, prep_lst, prep_bin, prep_neg, prep_not, prep_cmp, prep_cmp2, prep_isN, prep_notN, prep_and, prep_or, prep_ife, prep_sub, prep_slc, prep_call, prep_bi, prep_isi, prep_lrg1, prep_lrg2, prep_lc, tst_loc, tst_con, tst_glo, tst_tup, tst_lst, tst_bin, tst_neg, tst_not, tst_cmp, tst_cmp2, tst_isN, tst_notN, tst_and, tst_or, tst_ife, tst_sub, tst_slc, tst_call, tst_bi, tst_isi, tst_lrg1, tst_lrg2, tst_lc, evLoc, frz, rd, putO, loS, unS, kill, Res.bind, Res.st, ofO, AV.val, Sl.get, Sl.put, vals, binF, biF, cmpF, eqF, truF, isiF, ixF, cutF, setF, appF, augF, retLoc, items, litems, noneB, asB, O.toD, O.own, SR.sat_nx, SR.sat_rt, SR.sat_bk, SR.sat_ct, SR.sat_map, SR.sat_seq, sat_ite, Res.sat_ok, sat_cons, sat_nil, sat_kil, lend, called, back, hide, unhide, fins, wee, fits, exSs_cons, exSs_nil, exSs_kil, seq_nx, seq_rt, e, e2, sh_int, eqv_int, c0, c1, c2]
/-- what is known of a number -/
def NumF (Φ : Nat → List O → CR) (f : Nat) : Prop := ∀ (x : P5) (top : Int), 0 ≤ top → top < 4611686018427387904 → ∃ (v : Int) (y : P5), Φ f [.ls (pl x), .fz (.int top)] = .ok (.fz (.int v)) [some (.ls (pl y)), none] ∧ 0 ≤ v ∧ v ≤ top
theorem ends_nx {os : List O} {ρ : Fm} : ends os (.nx ρ) = .ok (.fz .none) (fins os ρ) := rfl
theorem ends_rt {os : List O} {o : O} {ρ : Fm} : ends os (.rt o ρ) = .ok o (fins os ρ) := rfl
theorem numF {T : List Df} {f fd : Nat} {n : Nat} (hf : T[f]? = some (dNumber fd)) (D : DrawsF (callN T n) fd) : NumF (callN T (n + 1)) f := fun x top h0 h1 => by
  obtain ⟨v, y, t, e, g0, g1⟩ := number_at D x top h0 h1
  refine ⟨v, y, ?_, g0, g1⟩
  rw [callN_eq hf rfl]
  have e2 : exSs (callN T n) (dNumber fd).body (frame0 (dNumber fd).N.length [.ls (pl x), .fz (.int top)]) = _ := e
  rw [e2]; rfl
end GW

/-! GW, part 19: worlds. -/
namespace GW
open PySem
def wIn : IS := .wh (.cmp .isin (.loc 3) (.loc 2))
  (.cons (.asg 3 (.bin .mod (.bi .int (.cons (.bin .add (.loc 3) (.con (.int 1))) .nil)) (.con (.int 65536))))
  .nil) []
def wTup (fd fn : Nat) : IE := .sub (.tup (.cons (.bin .sub (.bin .add (.call fn (.cons (.loc 0) (.cons (.con (.int 65535)) .nil))) (.bi .len (.cons (.loc 2) .nil))) (.con (.int 1))) (.cons (.bin .add (.loc 1) (.bi .len (.cons (.loc 2) .nil))) .nil))) (.call fd (.cons (.loc 0) (.cons (.con (.int 2)) .nil)))
def wBody (fd fn : Nat) : ISs :=
  (.cons (.asg 3 (wTup fd fn))
  (.cons (.asg 3 (.bin .mod (.bi .int (.cons (.loc 3) .nil)) (.con (.int 65536))))
  (.cons wIn
  (.cons (.app 2 (.loc 3))
  .nil))))
def wRet (fn : Nat) : IE := .tup (.cons (.bi .tuple (.cons (.loc 2) .nil)) (.cons (.tup (.cons (.call fn (.cons (.loc 0) (.cons (.con (.int 65535)) .nil))) (.cons (.call fn (.cons (.loc 0) (.cons (.con (.int 65535)) .nil))) .nil))) .nil))
def Bworld (fd fn : Nat) : ISs :=
  (.cons (.asg 1 (.call fn (.cons (.loc 0) (.cons (.con (.int 65535)) .nil))))
  (.cons (.asg 2 (.lst (.cons (.loc 1) .nil)))
  (.cons (.wh (.cmp .lt (.bi .len (.cons (.loc 2) .nil)) (.con (.int 3))) (wBody fd fn) [3])
  (.cons (.ret (wRet fn))
  .nil))))
def dWorld (fd fn : Nat) : Df := ⟨"_law_world", ["pool", "first", "found", "address"], 1, Bworld fd fn⟩
def Ad (a : Int) : Prop := 0 ≤ a ∧ a ≤ 65535
def AdL (fs : List Int) : Prop := fs.Nodup ∧ ∀ a ∈ fs, Ad a
/-- how many times a is taken further -/
def hops (fs : List Int) (a : Int) : Nat := if a ∈ fs then (if (a + 1) % 65536 ∈ fs then 2 else 1) else 0
theorem hops_less {fs : List Int} (hl : fs.length ≤ 2) (ha : ∀ a ∈ fs, Ad a) {a : Int} (h : a ∈ fs) : hops fs ((a + 1) % 65536) < hops fs a := by
  have A := ha a h
  unfold Ad at A
  have e : ∀ b ∈ fs, b ≠ a → ∀ c ∈ fs, c ≠ a → b = c := by
    match fs, hl, h with
    | [], _, h => cases h
    | [u], _, h =>
      intro b hb nb c hc nc
      rw [List.mem_singleton.mp hb, List.mem_singleton.mp hc]
    | [u, v], _, h =>
      intro b hb nb c hc nc
      simp only [List.mem_cons, List.not_mem_nil, or_false] at h hb hc
      rcases h with rfl | rfl <;> rcases hb with rfl | rfl <;> rcases hc with rfl | rfl <;> first | rfl | exact absurd rfl nb | exact absurd rfl nc
  unfold hops
  rw [if_pos h]
  by_cases h1 : (a + 1) % 65536 ∈ fs
  · rw [if_pos h1, if_pos h1]
    have n1 : (a + 1) % 65536 ≠ a := by omega
    by_cases h2 : ((a + 1) % 65536 + 1) % 65536 ∈ fs
    · have n2 : ((a + 1) % 65536 + 1) % 65536 ≠ a := by omega
      have := e _ h1 n1 _ h2 n2
      omega
    · rw [if_neg h2]; omega
  · rw [if_neg h1, if_neg h1]; omega
theorem wIn_run {Φ : Nat → List O → CR} {s0 s1 : Sl} (fs : List Int) (hl : fs.length ≤ 2) (ha : ∀ a ∈ fs, Ad a) (a : Int) (h : Ad a) :
    ∃ b, exS Φ wIn [s0, s1, .lo (.ls (fs.map PyData.int)), .lo (.fz (.int a))] = .nx [s0, s1, .lo (.ls (fs.map PyData.int)), .lo (.fz (.int b))] ∧ Ad b ∧ b ∉ fs := by
  have s : (exS Φ wIn [s0, s1, .lo (.ls (fs.map PyData.int)), .lo (.fz (.int a))]).sat (fun ρ => ∃ b, ρ = [s0, s1, .lo (.ls (fs.map PyData.int)), .lo (.fz (.int b))] ∧ Ad b ∧ b ∉ fs) (fun _ _ => False) (fun _ => False) fun _ => False := by
    unfold wIn
    rw [exS]
    refine whF_sat (fun m ρ => ∃ b, ρ = [s0, s1, .lo (.ls (fs.map PyData.int)), .lo (.fz (.int b))] ∧ Ad b ∧ m = hops fs b) ?_ (m := hops fs a) (by unfold wfuel hops; split <;> (try split) <;> omega) ⟨a, rfl, h, rfl⟩
    rintro m ρ ⟨b, rfl, hb, rfl⟩
    by_cases hm : b ∈ fs
    · simp [exS, prep_fidx, tst_fidx, prep_sset, tst_sset, prep_lset, tst_lset, prep_rev, tst_rev, prep_idx, tst_idx, ev, evDs, evAs, evO, evC, evI, evPs, prep_dget, tst_dget, prep_loc, prep_con, prep_glo, prep_tup, prep_lst, prep_bin, prep_neg, prep_not, prep_cmp, prep_cmp2, prep_isN, prep_notN, prep_and, prep_or, prep_ife, prep_sub, prep_slc, prep_call, prep_bi, prep_isi, prep_lrg1, prep_lrg2, prep_lc, tst_loc, tst_con, tst_glo, tst_tup, tst_lst, tst_bin, tst_neg, tst_not, tst_cmp, tst_cmp2, tst_isN, tst_notN, tst_and, tst_or, tst_ife, tst_sub, tst_slc, tst_call, tst_bi, tst_isi, tst_lrg1, tst_lrg2, tst_lc, evLoc, frz, rd, putO, loS, unS, kill, Res.bind, Res.st, ofO, AV.val, Sl.get, Sl.put, vals, binF, biF, cmpF, eqF, truF, isiF, ixF, cutF, setF, appF, augF, retLoc, items, litems, noneB, asB, O.toD, O.own, SR.sat_nx, SR.sat_rt, SR.sat_bk, SR.sat_ct, SR.sat_map, SR.sat_seq, sat_ite, Res.sat_ok, sat_cons, sat_nil, sat_kil, lend, called, back, hide, unhide, fins, wee, fits, inF_ints, hm]
      refine ⟨hops_less hl ha hm, ?_⟩
      unfold Ad; omega
    · simp [exS, prep_fidx, tst_fidx, prep_sset, tst_sset, prep_lset, tst_lset, prep_rev, tst_rev, prep_idx, tst_idx, ev, evDs, evAs, evO, evC, evI, evPs, prep_dget, tst_dget, prep_loc, prep_con, prep_glo, prep_tup, prep_lst, prep_bin, prep_neg, prep_not, prep_cmp, prep_cmp2, prep_isN, prep_notN, prep_and, prep_or, prep_ife, prep_sub, prep_slc, prep_call, prep_bi, prep_isi, prep_lrg1, prep_lrg2, prep_lc, tst_loc, tst_con, tst_glo, tst_tup, tst_lst, tst_bin, tst_neg, tst_not, tst_cmp, tst_cmp2, tst_isN, tst_notN, tst_and, tst_or, tst_ife, tst_sub, tst_slc, tst_call, tst_bi, tst_isi, tst_lrg1, tst_lrg2, tst_lc, evLoc, frz, rd, putO, loS, unS, kill, Res.bind, Res.st, ofO, AV.val, Sl.get, Sl.put, vals, binF, biF, cmpF, eqF, truF, isiF, ixF, cutF, setF, appF, augF, retLoc, items, litems, noneB, asB, O.toD, O.own, SR.sat_nx, SR.sat_rt, SR.sat_bk, SR.sat_ct, SR.sat_map, SR.sat_seq, sat_ite, Res.sat_ok, sat_cons, sat_nil, sat_kil, lend, called, back, hide, unhide, fins, wee, fits, inF_ints, hm]
      exact hb
  cases e : exS Φ wIn [s0, s1, .lo (.ls (fs.map PyData.int)), .lo (.fz (.int a))] with
  | nx ρ => rw [e] at s; obtain ⟨b, rfl, h1, h2⟩ := s; exact ⟨b, rfl, h1, h2⟩
  | rt _ _ => rw [e] at s; exact s.elim
  | bk _ => rw [e] at s; exact s.elim
  | ct _ => rw [e] at s; exact s.elim
  | ex _ _ => rw [e] at s; exact s.elim
  | bad => rw [e] at s; exact s.elim
theorem wTup_run {Φ : Nat → List O → CR} {fd fn : Nat} (D : DrawsF Φ fd) (M : NumF Φ fn) (x : P5) (f : Int) (ds : List PyData) {t : Sl} : ∃ a y, ev Φ (wTup fd fn) [.pa (.ls (pl x)), .lo (.fz (.int f)), .lo (.ls ds), t] = .ok (.fz (.int a)) [.pa (.ls (pl y)), .lo (.fz (.int f)), .lo (.ls ds), t] := by
  obtain ⟨v, y, e, _⟩ := M x 65535 (by decide) (by decide)
  obtain ⟨r, z, e2, g0, g1⟩ := D y 2 (by decide) (by decide)
  obtain ⟨a, _, ea⟩ := pickL (l := [v + ds.length - 1, f + ds.length]) (r := r) g0 (by simpa using g1)
  refine ⟨a, z, ?_⟩
  simp only [List.map_cons, List.map_nil] at ea
  unfold wTup
  simp [exS, prep_fidx, tst_fidx, prep_sset, tst_sset, prep_lset, tst_lset, prep_rev, tst_rev, prep_idx, tst_idx, ev, evDs, evAs, evO, evC, evI, evPs, prep_dget, tst_dget, prep_loc, prep_con, prep_glo, prep_tup, prep_lst, prep_bin, prep_neg, prep_not, prep_cmp, prep_cmp2, prep_isN, prep_notN, prep_and, prep_or, prep_ife, prep_sub, prep_slc, prep_call, prep_bi, prep_isi, prep_lrg1, prep_lrg2, prep_lc, tst_loc, tst_con, tst_glo, tst_tup, tst_lst, tst_bin, tst_neg, tst_not, tst_cmp, tst_cmp2, tst_isN, tst_notN, tst_and, tst_or, tst_ife, tst_sub, tst_slc, tst_call, tst_bi, tst_isi, tst_lrg1, tst_lrg2, tst_lc, evLoc, frz, rd, putO, loS, unS, kill, Res.bind, Res.st, ofO, AV.val, Sl.get, Sl.put, vals, binF, biF, cmpF, eqF, truF, isiF, ixF, cutF, setF, appF, augF, retLoc, items, litems, noneB, asB, O.toD, O.own, SR.sat_nx, SR.sat_rt, SR.sat_bk, SR.sat_ct, SR.sat_map, SR.sat_seq, sat_ite, Res.sat_ok, sat_cons, sat_nil, sat_kil, lend, called, back, hide, unhide, fins, wee, fits, e, e2, ea]
theorem wBody_run {Φ : Nat → List O → CR} {fd fn : Nat} (D : DrawsF Φ fd) (M : NumF Φ fn) (x : P5) (f : Int) (fs : List Int) (hl : fs.length ≤ 2) (ha : ∀ a ∈ fs, Ad a) {t : Sl} :
    ∃ b y, exSs Φ (wBody fd fn) [.pa (.ls (pl x)), .lo (.fz (.int f)), .lo (.ls (fs.map PyData.int)), t] = .nx [.pa (.ls (pl y)), .lo (.fz (.int f)), .lo (.ls ((fs ++ [b]).map PyData.int)), .lo (.fz (.int b))] ∧ Ad b ∧ b ∉ fs := by
  obtain ⟨a, y, e⟩ := wTup_run D M x f (fs.map PyData.int) (t := t)
  obtain ⟨b, e2, hb, nb⟩ := wIn_run (Φ := Φ) (s0 := .pa (.ls (pl y))) (s1 := .lo (.fz (.int f))) fs hl ha (a % 65536) (by unfold Ad; omega)
  refine ⟨b, y, ?_, hb, nb⟩
  unfold wBody
  have h1 : exS Φ (.asg 3 (wTup fd fn)) [.pa (.ls (pl x)), .lo (.fz (.int f)), .lo (.ls (fs.map PyData.int)), t] = .nx [.pa (.ls (pl y)), .lo (.fz (.int f)), .lo (.ls (fs.map PyData.int)), .lo (.fz (.int a))] := by
    rw [exS, e]; rfl
  have h2 : exS Φ (.asg 3 (.bin .mod (.bi .int (.cons (.loc 3) .nil)) (.con (.int 65536)))) [.pa (.ls (pl y)), .lo (.fz (.int f)), .lo (.ls (fs.map PyData.int)), .lo (.fz (.int a))] = .nx [.pa (.ls (pl y)), .lo (.fz (.int f)), .lo (.ls (fs.map PyData.int)), .lo (.fz (.int (a % 65536)))] := by
    simp [exS, prep_fidx, tst_fidx, prep_sset, tst_sset, prep_lset, tst_lset, prep_rev, tst_rev, prep_idx, tst_idx, ev, evDs, evAs, evO, evC, evI, evPs, prep_dget, tst_dget, prep_loc, prep_con, prep_glo, prep_tup, prep_lst, prep_bin, prep_neg, prep_not, prep_cmp, prep_cmp2, prep_isN, prep_notN, prep_and, prep_or, prep_ife, prep_sub, prep_slc, prep_call, prep_bi, prep_isi, prep_lrg1, prep_lrg2, prep_lc, tst_loc, tst_con, tst_glo, tst_tup, tst_lst, tst_bin, tst_neg, tst_not, tst_cmp, tst_cmp2, tst_isN, tst_notN, tst_and, tst_or, tst_ife, tst_sub, tst_slc, tst_call, tst_bi, tst_isi, tst_lrg1, tst_lrg2, tst_lc, evLoc, frz, rd, putO, loS, unS, kill, Res.bind, Res.st, ofO, AV.val, Sl.get, Sl.put, vals, binF, biF, cmpF, eqF, truF, isiF, ixF, cutF, setF, appF, augF, retLoc, items, litems, noneB, asB, O.toD, O.own, SR.sat_nx, SR.sat_rt, SR.sat_bk, SR.sat_ct, SR.sat_map, SR.sat_seq, sat_ite, Res.sat_ok, sat_cons, sat_nil, sat_kil, lend, called, back, hide, unhide, fins, wee, fits]
  have h3 : exS Φ (.app 2 (.loc 3)) [.pa (.ls (pl y)), .lo (.fz (.int f)), .lo (.ls (fs.map PyData.int)), .lo (.fz (.int b))] = .nx [.pa (.ls (pl y)), .lo (.fz (.int f)), .lo (.ls ((fs ++ [b]).map PyData.int)), .lo (.fz (.int b))] := by
    have : fs.length < 16777216 := by omega
    simp [exS, prep_fidx, tst_fidx, prep_sset, tst_sset, prep_lset, tst_lset, prep_rev, tst_rev, prep_idx, tst_idx, ev, evDs, evAs, evO, evC, evI, evPs, prep_dget, tst_dget, prep_loc, prep_con, prep_glo, prep_tup, prep_lst, prep_bin, prep_neg, prep_not, prep_cmp, prep_cmp2, prep_isN, prep_notN, prep_and, prep_or, prep_ife, prep_sub, prep_slc, prep_call, prep_bi, prep_isi, prep_lrg1, prep_lrg2, prep_lc, tst_loc, tst_con, tst_glo, tst_tup, tst_lst, tst_bin, tst_neg, tst_not, tst_cmp, tst_cmp2, tst_isN, tst_notN, tst_and, tst_or, tst_ife, tst_sub, tst_slc, tst_call, tst_bi, tst_isi, tst_lrg1, tst_lrg2, tst_lc, evLoc, frz, rd, putO, loS, unS, kill, Res.bind, Res.st, ofO, AV.val, Sl.get, Sl.put, vals, binF, biF, cmpF, eqF, truF, isiF, ixF, cutF, setF, appF, augF, retLoc, items, litems, noneB, asB, O.toD, O.own, SR.sat_nx, SR.sat_rt, SR.sat_bk, SR.sat_ct, SR.sat_map, SR.sat_seq, sat_ite, Res.sat_ok, sat_cons, sat_nil, sat_kil, lend, called, back, hide, unhide, fins, wee, fits, this]
  rw [exSs_cons, h1, SR.seq, exSs_cons, h2, SR.seq, exSs_cons, e2, SR.seq, exSs_cons, h3, SR.seq, exSs]
def wldD (a b c p q : Int) : D := .tuple [.tuple [.int a, .int b, .int c], .tuple [.int p, .int q]]
structure WOk (a b c p q : Int) : Prop where
  ha : Ad a
  hb : Ad b
  hc : Ad c
  hp : Ad p
  hq : Ad q
  ab : a ≠ b
  ac : a ≠ c
  bc : b ≠ c
/-- what is known of a world -/
def WldF (Φ : Nat → List O → CR) (f : Nat) : Prop := ∀ x : P5, ∃ a b c p q y, Φ f [.ls (pl x)] = .ok (.fz (wldD a b c p q)) [some (.ls (pl y))] ∧ WOk a b c p q
theorem wRet_run {Φ : Nat → List O → CR} {fn : Nat} (M : NumF Φ fn) (x : P5) {s1 s3 : Sl} (ds : List PyData) : ∃ p q y, ev Φ (wRet fn) [.pa (.ls (pl x)), s1, .lo (.ls ds), s3] = .ok (.fz (.tuple [.tuple ds, .tuple [.int p, .int q]])) [.pa (.ls (pl y)), s1, .lo (.ls ds), s3] ∧ Ad p ∧ Ad q := by
  obtain ⟨p, y, e, hp⟩ := M x 65535 (by decide) (by decide)
  obtain ⟨q, z, e2, hq⟩ := M y 65535 (by decide) (by decide)
  refine ⟨p, q, z, ?_, hp, hq⟩
  unfold wRet
  simp [exS, prep_fidx, tst_fidx, prep_sset, tst_sset, prep_lset, tst_lset, prep_rev, tst_rev, prep_idx, tst_idx, ev, evDs, evAs, evO, evC, evI, evPs, prep_dget, tst_dget, prep_loc, prep_con, prep_glo, prep_tup, prep_lst, prep_bin, prep_neg, prep_not, prep_cmp, prep_cmp2, prep_isN, prep_notN, prep_and, prep_or, prep_ife, prep_sub, prep_slc, prep_call, prep_bi, prep_isi, prep_lrg1, prep_lrg2, prep_lc, tst_loc, tst_con, tst_glo, tst_tup, tst_lst, tst_bin, tst_neg, tst_not, tst_cmp, tst_cmp2, tst_isN, tst_notN, tst_and, tst_or, tst_ife, tst_sub, tst_slc, tst_call, tst_bi, tst_isi, tst_lrg1, tst_lrg2, tst_lc, evLoc, frz, rd, putO, loS, unS, kill, Res.bind, Res.st, ofO, AV.val, Sl.get, Sl.put, vals, binF, biF, cmpF, eqF, truF, isiF, ixF, cutF, setF, appF, augF, retLoc, items, litems, noneB, asB, O.toD, O.own, SR.sat_nx, SR.sat_rt, SR.sat_bk, SR.sat_ct, SR.sat_map, SR.sat_seq, sat_ite, Res.sat_ok, sat_cons, sat_nil, sat_kil, lend, called, back, hide, unhide, fins, wee, fits, e, e2]
theorem world_at {Φ : Nat → List O → CR} {fd fn : Nat} (D : DrawsF Φ fd) (M : NumF Φ fn) (x : P5) :
    (exSs Φ (Bworld fd fn) [.pa (.ls (pl x)), .un, .un, .un]).sat (fun _ => False) (fun o ρ => ∃ a b c p q y s1 s2 s3, o = .fz (wldD a b c p q) ∧ ρ = [.pa (.ls (pl y)), s1, s2, s3] ∧ WOk a b c p q) (fun _ => False) fun _ => False := by
  obtain ⟨f, y, e, hf⟩ := M x 65535 (by decide) (by decide)
  have h1 : exS Φ (.asg 1 (.call fn (.cons (.loc 0) (.cons (.con (.int 65535)) .nil)))) [.pa (.ls (pl x)), .un, .un, .un] = .nx [.pa (.ls (pl y)), .lo (.fz (.int f)), .un, .un] := by
    simp [exS, prep_fidx, tst_fidx, prep_sset, tst_sset, prep_lset, tst_lset, prep_rev, tst_rev, prep_idx, tst_idx, ev, evDs, evAs, evO, evC, evI, evPs, prep_dget, tst_dget, prep_loc, prep_con, prep_glo, prep_tup, prep_lst, prep_bin, prep_neg, prep_not, prep_cmp, prep_cmp2, prep_isN, prep_notN, prep_and, prep_or, prep_ife, prep_sub, prep_slc, prep_call, prep_bi, prep_isi, prep_lrg1, prep_lrg2, prep_lc, tst_loc, tst_con, tst_glo, tst_tup, tst_lst, tst_bin, tst_neg, tst_not, tst_cmp, tst_cmp2, tst_isN, tst_notN, tst_and, tst_or, tst_ife, tst_sub, tst_slc, tst_call, tst_bi, tst_isi, tst_lrg1, tst_lrg2, tst_lc, evLoc, frz, rd, putO, loS, unS, kill, Res.bind, Res.st, ofO, AV.val, Sl.get, Sl.put, vals, binF, biF, cmpF, eqF, truF, isiF, ixF, cutF, setF, appF, augF, retLoc, items, litems, noneB, asB, O.toD, O.own, SR.sat_nx, SR.sat_rt, SR.sat_bk, SR.sat_ct, SR.sat_map, SR.sat_seq, sat_ite, Res.sat_ok, sat_cons, sat_nil, sat_kil, lend, called, back, hide, unhide, fins, wee, fits, e]
  have h2 : exS Φ (.asg 2 (.lst (.cons (.loc 1) .nil))) [.pa (.ls (pl y)), .lo (.fz (.int f)), .un, .un] = .nx [.pa (.ls (pl y)), .lo (.fz (.int f)), .lo (.ls ([f].map PyData.int)), .un] := by
    simp [exS, prep_fidx, tst_fidx, prep_sset, tst_sset, prep_lset, tst_lset, prep_rev, tst_rev, prep_idx, tst_idx, ev, evDs, evAs, evO, evC, evI, evPs, prep_dget, tst_dget, prep_loc, prep_con, prep_glo, prep_tup, prep_lst, prep_bin, prep_neg, prep_not, prep_cmp, prep_cmp2, prep_isN, prep_notN, prep_and, prep_or, prep_ife, prep_sub, prep_slc, prep_call, prep_bi, prep_isi, prep_lrg1, prep_lrg2, prep_lc, tst_loc, tst_con, tst_glo, tst_tup, tst_lst, tst_bin, tst_neg, tst_not, tst_cmp, tst_cmp2, tst_isN, tst_notN, tst_and, tst_or, tst_ife, tst_sub, tst_slc, tst_call, tst_bi, tst_isi, tst_lrg1, tst_lrg2, tst_lc, evLoc, frz, rd, putO, loS, unS, kill, Res.bind, Res.st, ofO, AV.val, Sl.get, Sl.put, vals, binF, biF, cmpF, eqF, truF, isiF, ixF, cutF, setF, appF, augF, retLoc, items, litems, noneB, asB, O.toD, O.own, SR.sat_nx, SR.sat_rt, SR.sat_bk, SR.sat_ct, SR.sat_map, SR.sat_seq, sat_ite, Res.sat_ok, sat_cons, sat_nil, sat_kil, lend, called, back, hide, unhide, fins, wee, fits]
  unfold Bworld
  rw [sat_cons, h1, SR.sat_nx, sat_cons, h2, SR.sat_nx, sat_cons, exS]
  refine whF_sat (fun m ρ => ∃ y fs, ρ = [.pa (.ls (pl y)), .lo (.fz (.int f)), .lo (.ls (fs.map PyData.int)), .un] ∧ AdL fs ∧ fs.length ≤ 3 ∧ m = 3 - fs.length) ?_ (m := 2) (by unfold wfuel; omega) ⟨y, [f], rfl, ⟨by simp, fun u hu => by rw [List.mem_singleton.mp hu]; exact hf⟩, by simp, by simp⟩
  rintro m ρ ⟨y, fs, rfl, ⟨nd, ad⟩, hl, rfl⟩
  have c : tst (.cmp .lt (.bi .len (.cons (.loc 2) .nil)) (.con (.int 3))) (ev Φ (.cmp .lt (.bi .len (.cons (.loc 2) .nil)) (.con (.int 3)))) [.pa (.ls (pl y)), .lo (.fz (.int f)), .lo (.ls (fs.map PyData.int)), .un] = .ok (decide ((fs.length : Int) < 3)) [.pa (.ls (pl y)), .lo (.fz (.int f)), .lo (.ls (fs.map PyData.int)), .un] := by
    simp [exS, prep_fidx, tst_fidx, prep_sset, tst_sset, prep_lset, tst_lset, prep_rev, tst_rev, prep_idx, tst_idx, ev, evDs, evAs, evO, evC, evI, evPs, prep_dget, tst_dget, prep_loc, prep_con, prep_glo, prep_tup, prep_lst, prep_bin, prep_neg, prep_not, prep_cmp, prep_cmp2, prep_isN, prep_notN, prep_and, prep_or, prep_ife, prep_sub, prep_slc, prep_call, prep_bi, prep_isi, prep_lrg1, prep_lrg2, prep_lc, tst_loc, tst_con, tst_glo, tst_tup, tst_lst, tst_bin, tst_neg, tst_not, tst_cmp, tst_cmp2, tst_isN, tst_notN, tst_and, tst_or, tst_ife, tst_sub, tst_slc, tst_call, tst_bi, tst_isi, tst_lrg1, tst_lrg2, tst_lc, evLoc, frz, rd, putO, loS, unS, kill, Res.bind, Res.st, ofO, AV.val, Sl.get, Sl.put, vals, binF, biF, cmpF, eqF, truF, isiF, ixF, cutF, setF, appF, augF, retLoc, items, litems, noneB, asB, O.toD, O.own, SR.sat_nx, SR.sat_rt, SR.sat_bk, SR.sat_ct, SR.sat_map, SR.sat_seq, sat_ite, Res.sat_ok, sat_cons, sat_nil, sat_kil, lend, called, back, hide, unhide, fins, wee, fits]
  rw [c, Res.sat_ok]
  by_cases h3 : fs.length < 3
  · rw [if_pos (by simpa using (by omega : (fs.length : Int) < 3))]
    obtain ⟨b, z, e, hb, nb⟩ := wBody_run D M y f fs (by omega) ad (t := .un)
    rw [e, SR.sat_nx]
    refine ⟨3 - (fs.length + 1), by omega, z, fs ++ [b], rfl, ⟨List.nodup_append.mpr ⟨nd, by simp, fun u hu v hv => ?_⟩, fun u hu => ?_⟩, by simp; omega, by simp⟩
    · rw [List.mem_singleton.mp hv]
      exact fun z => nb (z ▸ hu)
    · rcases List.mem_append.mp hu with h | h
      · exact ad u h
      · rw [List.mem_singleton.mp h]; exact hb
  · rw [if_neg (by simpa using (by omega : ¬ (fs.length : Int) < 3))]
    match fs, nd, ad, hl, h3 with
    | [a, b, c], nd, ad, _, _ =>
      obtain ⟨p, q, z, e, hp, hq⟩ := wRet_run M y (s1 := .lo (.fz (.int f))) (s3 := .un) ([a, b, c].map PyData.int)
      rw [sat_cons]
      unfold wRet at e ⊢
      rw [exS, e]
      · simp only [List.nodup_cons, List.mem_cons, List.not_mem_nil, or_false, not_or] at nd
        exact ⟨a, b, c, p, q, z, _, _, _, rfl, rfl, ad a (by simp), ad b (by simp), ad c (by simp), hp, hq, nd.1.1, nd.1.2, nd.2.1⟩
      · intro i h; cases h
    | [], _, _, _, h => simp at h
    | [_], _, _, _, h => simp at h
    | [_, _], _, _, _, h => simp at h
    | _ :: _ :: _ :: _ :: _, _, _, h, _ => simp at h
theorem wldF {T : List Df} {f fd fn : Nat} {n : Nat} (hf : T[f]? = some (dWorld fd fn)) (D : DrawsF (callN T n) fd) (M : NumF (callN T n) fn) : WldF (callN T (n + 1)) f := fun x => by
  have s : (callN T (n + 1) f [.ls (pl x)]).sat fun o ps => ∃ a b c p q y, o = .fz (wldD a b c p q) ∧ ps = [some (.ls (pl y))] ∧ WOk a b c p q := by
    refine callN_sat hf rfl ?_
    refine SR.sat_imp (world_at D M x) (fun _ z => z.elim) ?_ (fun _ z => z) fun _ z => z
    rintro o ρ ⟨a, b, c, p, q, y, s1, s2, s3, rfl, rfl, w⟩
    exact ⟨a, b, c, p, q, y, rfl, rfl, w⟩
  obtain ⟨o, ps, e, a, b, c, p, q, y, rfl, rfl, w⟩ := CR.sat_ok s
  exact ⟨a, b, c, p, q, y, e, w⟩
end GW

/-! GW, part 20: sights. -/
namespace GW
open PySem
def sE3 (fd : Nat) : IE := .sub (.tup (.cons (.con (.int 6)) (.cons (.con (.int 6)) (.cons (.con (.int 6)) (.cons (.con (.int 17)) (.cons (.con (.int 17)) (.cons (.con (.int 1)) (.cons (.call fd (.cons (.loc 0) (.cons (.con (.int 256)) .nil))) .nil)))))))) (.call fd (.cons (.loc 0) (.cons (.con (.int 7)) .nil)))
def sE4 (fd : Nat) : IE := .call fd (.cons (.loc 0) (.cons (.con (.int 3)) .nil))
def sE5 : IE := .sub (.sub (.loc 1) (.con (.int 0))) (.loc 4)
def sE6 (fd : Nat) : IE := .sub (.sub (.loc 1) (.con (.int 0))) (.bin .mod (.bi .int (.cons (.bin .add (.bin .add (.loc 4) (.con (.int 1))) (.call fd (.cons (.loc 0) (.cons (.con (.int 2)) .nil)))) .nil)) (.con (.int 3)))
def sE7 (fd : Nat) : IE := .ife (.cmp .isin (.loc 3) (.tup (.cons (.con (.int 6)) (.cons (.con (.int 17)) .nil)))) (.tup (.cons (.sub (.sub (.loc 1) (.con (.int 1))) (.call fd (.cons (.loc 0) (.cons (.con (.int 2)) .nil)))) (.cons (.sub (.sub (.loc 1) (.con (.int 1))) (.call fd (.cons (.loc 0) (.cons (.con (.int 2)) .nil)))) .nil))) (.tup (.cons (.con (.int 0)) (.cons (.con (.int 0)) .nil)))
def sE8 (fd : Nat) : IE := .ife (.cmp .eq (.loc 3) (.con (.int 6))) (.sub (.tup (.cons (.con (.int 0)) (.cons (.con (.int 1)) (.cons (.con (.int 1)) (.cons (.con (.int 2)) (.cons (.con (.int 4)) (.cons (.call fd (.cons (.loc 0) (.cons (.con (.int 8)) .nil))) .nil))))))) (.call fd (.cons (.loc 0) (.cons (.con (.int 6)) .nil)))) (.con (.int 0))
def sE9 (fd : Nat) : IE := .ife (.cmp .eq (.loc 3) (.con (.int 1))) (.call fd (.cons (.loc 0) (.cons (.con (.int 65536)) .nil))) (.con (.int 0))
def sE10 (fd fl : Nat) : IE := .bin .add (.call fl (.cons (.loc 3) .nil)) (.sub (.tup (.cons (.con (.int 0)) (.cons (.con (.int 0)) (.cons (.con (.int 1)) (.cons (.call fd (.cons (.loc 0) (.cons (.bin .add (.loc 2) (.con (.int 1))) .nil))) .nil))))) (.call fd (.cons (.loc 0) (.cons (.con (.int 4)) .nil))))
def sE11 (fd : Nat) : IE := .tup (.cons (.call fd (.cons (.loc 0) (.cons (.con (.int 2)) .nil))) (.cons (.loc 3) (.cons (.loc 5) (.cons (.sub (.loc 7) (.con (.int 0))) (.cons (.loc 6) (.cons (.sub (.loc 7) (.con (.int 1))) (.cons (.loc 8) (.cons (.loc 9) (.cons (.loc 10) .nil)))))))))
def Bsight (fd fl : Nat) : ISs :=
  (.cons (.asg 3 (sE3 fd))
  (.cons (.asg 4 (sE4 fd))
  (.cons (.asg 5 sE5)
  (.cons (.asg 6 (sE6 fd))
  (.cons (.asg 7 (sE7 fd))
  (.cons (.asg 8 (sE8 fd))
  (.cons (.asg 9 (sE9 fd))
  (.cons (.asg 10 (sE10 fd fl))
  (.cons (.ret (sE11 fd))
  .nil)))))))))
def dSight (fd fl : Nat) : Df := ⟨"_law_sight", ["pool", "world", "most", "kind", "at", "source", "destination", "ports", "flags", "code", "length"], 3, Bsight fd fl⟩
def Binner : ISs := (.cons (.ret (.ife (.cmp .eq (.loc 0) (.con (.int 6))) (.con (.int 8)) (.ife (.cmp .eq (.loc 0) (.con (.int 17))) (.con (.int 6)) (.ife (.cmp .eq (.loc 0) (.con (.int 1))) (.con (.int 4)) (.con (.int 0))))))
  .nil)
def dInner : Df := ⟨"_law_inner_size", ["kind"], 1, Binner⟩
def Bleast (fi : Nat) : ISs := (.cons (.ret (.bin .add (.con (.int 12)) (.call fi (.cons (.loc 0) .nil)))) .nil)
def dLeast (fi : Nat) : Df := ⟨"_law_least", ["kind"], 1, Bleast fi⟩
def leastI (k : Int) : Int := 12 + (if k = 6 then 8 else if k = 17 then 6 else if k = 1 then 4 else 0)
def LstF (Φ : Nat → List O → CR) (f : Nat) : Prop := ∀ k : Int, Φ f [.fz (.int k)] = .ok (.fz (.int (leastI k))) [none]
theorem inner_eq {T : List Df} {f : Nat} {n : Nat} (hf : T[f]? = some dInner) (k : Int) : callN T (n + 1) f [.fz (.int k)] = .ok (.fz (.int (if k = 6 then 8 else if k = 17 then 6 else if k = 1 then 4 else 0))) [none] := by
  rw [callN_eq hf rfl]
  show ends _ (exSs (callN T n) Binner [.pa (.fz (.int k))]) = _
  unfold Binner
  generalize callN T n = Φ
  by_cases h1 : k = 6
  · subst h1; simp [exS, prep_fidx, tst_fidx, prep_sset, tst_sset, prep_lset, tst_lset, prep_rev, tst_rev, prep_idx, tst_idx, ev, evDs, evAs, evO, evC, evI, evPs, prep_dget, tst_dget, prep_loc, prep_con, prep_glo, prep_tup, prep_lst, prep_bin, prep_neg, prep_not, prep_cmp, prep_cmp2, prep_isN, prep_notN, prep_and, prep_or, prep_ife, prep_sub, prep_slc, prep_call, prep_bi, prep_isi, prep_lrg1, prep_lrg2, prep_lc, tst_loc, tst_con, tst_glo, tst_tup, tst_lst, tst_bin, tst_neg, tst_not, tst_cmp, tst_cmp2, tst_isN, tst_notN, tst_and, tst_or, tst_ife, tst_sub, tst_slc, tst_call, tst_bi, tst_isi, tst_lrg1, tst_lrg2, tst_lc, evLoc, frz, rd, putO, loS, unS, kill, Res.bind, Res.st, ofO, AV.val, Sl.get, Sl.put, vals, binF, biF, cmpF, eqF, truF, isiF, ixF, cutF, setF, appF, augF, retLoc, items, litems, noneB, asB, O.toD, O.own, SR.sat_nx, SR.sat_rt, SR.sat_bk, SR.sat_ct, SR.sat_map, SR.sat_seq, sat_ite, Res.sat_ok, sat_cons, sat_nil, sat_kil, lend, called, back, hide, unhide, fins, wee, fits, exSs_cons, exSs_nil, exSs_kil, seq_nx, seq_rt, seq_bk, seq_ct, sh_int, eqv_int, ends_rt, ends_nx]
  by_cases h2 : k = 17
  · subst h2; simp [exS, prep_fidx, tst_fidx, prep_sset, tst_sset, prep_lset, tst_lset, prep_rev, tst_rev, prep_idx, tst_idx, ev, evDs, evAs, evO, evC, evI, evPs, prep_dget, tst_dget, prep_loc, prep_con, prep_glo, prep_tup, prep_lst, prep_bin, prep_neg, prep_not, prep_cmp, prep_cmp2, prep_isN, prep_notN, prep_and, prep_or, prep_ife, prep_sub, prep_slc, prep_call, prep_bi, prep_isi, prep_lrg1, prep_lrg2, prep_lc, tst_loc, tst_con, tst_glo, tst_tup, tst_lst, tst_bin, tst_neg, tst_not, tst_cmp, tst_cmp2, tst_isN, tst_notN, tst_and, tst_or, tst_ife, tst_sub, tst_slc, tst_call, tst_bi, tst_isi, tst_lrg1, tst_lrg2, tst_lc, evLoc, frz, rd, putO, loS, unS, kill, Res.bind, Res.st, ofO, AV.val, Sl.get, Sl.put, vals, binF, biF, cmpF, eqF, truF, isiF, ixF, cutF, setF, appF, augF, retLoc, items, litems, noneB, asB, O.toD, O.own, SR.sat_nx, SR.sat_rt, SR.sat_bk, SR.sat_ct, SR.sat_map, SR.sat_seq, sat_ite, Res.sat_ok, sat_cons, sat_nil, sat_kil, lend, called, back, hide, unhide, fins, wee, fits, exSs_cons, exSs_nil, exSs_kil, seq_nx, seq_rt, seq_bk, seq_ct, sh_int, eqv_int, ends_rt, ends_nx]
  by_cases h3 : k = 1
  · subst h3; simp [exS, prep_fidx, tst_fidx, prep_sset, tst_sset, prep_lset, tst_lset, prep_rev, tst_rev, prep_idx, tst_idx, ev, evDs, evAs, evO, evC, evI, evPs, prep_dget, tst_dget, prep_loc, prep_con, prep_glo, prep_tup, prep_lst, prep_bin, prep_neg, prep_not, prep_cmp, prep_cmp2, prep_isN, prep_notN, prep_and, prep_or, prep_ife, prep_sub, prep_slc, prep_call, prep_bi, prep_isi, prep_lrg1, prep_lrg2, prep_lc, tst_loc, tst_con, tst_glo, tst_tup, tst_lst, tst_bin, tst_neg, tst_not, tst_cmp, tst_cmp2, tst_isN, tst_notN, tst_and, tst_or, tst_ife, tst_sub, tst_slc, tst_call, tst_bi, tst_isi, tst_lrg1, tst_lrg2, tst_lc, evLoc, frz, rd, putO, loS, unS, kill, Res.bind, Res.st, ofO, AV.val, Sl.get, Sl.put, vals, binF, biF, cmpF, eqF, truF, isiF, ixF, cutF, setF, appF, augF, retLoc, items, litems, noneB, asB, O.toD, O.own, SR.sat_nx, SR.sat_rt, SR.sat_bk, SR.sat_ct, SR.sat_map, SR.sat_seq, sat_ite, Res.sat_ok, sat_cons, sat_nil, sat_kil, lend, called, back, hide, unhide, fins, wee, fits, exSs_cons, exSs_nil, exSs_kil, seq_nx, seq_rt, seq_bk, seq_ct, sh_int, eqv_int, ends_rt, ends_nx]
  · simp [exS, prep_fidx, tst_fidx, prep_sset, tst_sset, prep_lset, tst_lset, prep_rev, tst_rev, prep_idx, tst_idx, ev, evDs, evAs, evO, evC, evI, evPs, prep_dget, tst_dget, prep_loc, prep_con, prep_glo, prep_tup, prep_lst, prep_bin, prep_neg, prep_not, prep_cmp, prep_cmp2, prep_isN, prep_notN, prep_and, prep_or, prep_ife, prep_sub, prep_slc, prep_call, prep_bi, prep_isi, prep_lrg1, prep_lrg2, prep_lc, tst_loc, tst_con, tst_glo, tst_tup, tst_lst, tst_bin, tst_neg, tst_not, tst_cmp, tst_cmp2, tst_isN, tst_notN, tst_and, tst_or, tst_ife, tst_sub, tst_slc, tst_call, tst_bi, tst_isi, tst_lrg1, tst_lrg2, tst_lc, evLoc, frz, rd, putO, loS, unS, kill, Res.bind, Res.st, ofO, AV.val, Sl.get, Sl.put, vals, binF, biF, cmpF, eqF, truF, isiF, ixF, cutF, setF, appF, augF, retLoc, items, litems, noneB, asB, O.toD, O.own, SR.sat_nx, SR.sat_rt, SR.sat_bk, SR.sat_ct, SR.sat_map, SR.sat_seq, sat_ite, Res.sat_ok, sat_cons, sat_nil, sat_kil, lend, called, back, hide, unhide, fins, wee, fits, exSs_cons, exSs_nil, exSs_kil, seq_nx, seq_rt, seq_bk, seq_ct, sh_int, eqv_int, ends_rt, ends_nx, h1, h2, h3]
theorem lstF {T : List Df} {f fi : Nat} {n : Nat} (hf : T[f]? = some (dLeast fi)) (hi : T[fi]? = some dInner) : LstF (callN T (n + 2)) f := fun k => by
  have e := inner_eq (n := n) hi k
  rw [callN_eq hf rfl]
  show ends _ (exSs (callN T (n + 1)) (Bleast fi) [.pa (.fz (.int k))]) = _
  generalize callN T (n + 1) = Φ at e ⊢
  unfold Bleast
  simp [exS, prep_fidx, tst_fidx, prep_sset, tst_sset, prep_lset, tst_lset, prep_rev, tst_rev, prep_idx, tst_idx, ev, evDs, evAs, evO, evC, evI, evPs, prep_dget, tst_dget, prep_loc, prep_con, prep_glo, prep_tup, prep_lst, prep_bin, prep_neg, prep_not, prep_cmp, prep_cmp2, prep_isN, prep_notN, prep_and, prep_or, prep_ife, prep_sub, prep_slc, prep_call, prep_bi, prep_isi, prep_lrg1, prep_lrg2, prep_lc, tst_loc, tst_con, tst_glo, tst_tup, tst_lst, tst_bin, tst_neg, tst_not, tst_cmp, tst_cmp2, tst_isN, tst_notN, tst_and, tst_or, tst_ife, tst_sub, tst_slc, tst_call, tst_bi, tst_isi, tst_lrg1, tst_lrg2, tst_lc, evLoc, frz, rd, putO, loS, unS, kill, Res.bind, Res.st, ofO, AV.val, Sl.get, Sl.put, vals, binF, biF, cmpF, eqF, truF, isiF, ixF, cutF, setF, appF, augF, retLoc, items, litems, noneB, asB, O.toD, O.own, SR.sat_nx, SR.sat_rt, SR.sat_bk, SR.sat_ct, SR.sat_map, SR.sat_seq, sat_ite, Res.sat_ok, sat_cons, sat_nil, sat_kil, lend, called, back, hide, unhide, fins, wee, fits, exSs_cons, exSs_nil, exSs_kil, seq_nx, seq_rt, seq_bk, seq_ct, e, ends_rt, ends_nx, leastI]
structure Sg where
  i : Int
  k : Int
  s : Int
  sp : Int
  d : Int
  dp : Int
  fl : Int
  co : Int
  le : Int
def sgL (g : Sg) : List PyData := [.int g.i, .int g.k, .int g.s, .int g.sp, .int g.d, .int g.dp, .int g.fl, .int g.co, .int g.le]
def sgD (g : Sg) : PyData := .tuple (sgL g)
structure SgOk (most : Int) (g : Sg) : Prop where
  hi : 0 ≤ g.i ∧ g.i ≤ 1
  hk : 0 ≤ g.k ∧ g.k ≤ 255
  hs : Ad g.s
  hd : Ad g.d
  hsp : Ad g.sp
  hdp : Ad g.dp
  hne : g.s ≠ g.d
  hno : g.k ≠ 6 → g.k ≠ 17 → g.sp = 0 ∧ g.dp = 0
  hfl : 0 ≤ g.fl ∧ g.fl ≤ 7
  hf6 : g.k ≠ 6 → g.fl = 0
  hco : Ad g.co
  hc1 : g.k ≠ 1 → g.co = 0
  hle : leastI g.k ≤ g.le ∧ g.le ≤ leastI g.k + most + 1
theorem asg_ev {Φ : Nat → List O → CR} {i : Nat} {e : IE} {ρ ρ1 : Fm} {o : O} (h : ev Φ e ρ = .ok o ρ1) : exS Φ (.asg i e) ρ = .nx (loS ρ1 i o) := by rw [exS, h]; rfl
section
variable {Φ : Nat → List O → CR} {fd fl : Nat}
theorem sE3_run (D : DrawsF Φ fd) (x : P5) (r : Fm) : ∃ k y, ev Φ (sE3 fd) (.pa (.ls (pl x)) :: r) = .ok (.fz (.int k)) (.pa (.ls (pl y)) :: r) ∧ 0 ≤ k ∧ k ≤ 255 := by
  obtain ⟨v, y, e, g0, g1⟩ := D x 256 (by decide) (by decide)
  obtain ⟨q, z, e2, g2, g3⟩ := D y 7 (by decide) (by decide)
  obtain ⟨k, hm, ea⟩ := pickL (l := [6, 6, 6, 17, 17, 1, v]) (r := q) g2 (by simpa using g3)
  refine ⟨k, z, ?_, ?_⟩
  · simp only [List.map_cons, List.map_nil] at ea
    unfold sE3
    simp [exS, prep_fidx, tst_fidx, prep_sset, tst_sset, prep_lset, tst_lset, prep_rev, tst_rev, prep_idx, tst_idx, ev, evDs, evAs, evO, evC, evI, evPs, prep_dget, tst_dget, prep_loc, prep_con, prep_glo, prep_tup, prep_lst, prep_bin, prep_neg, prep_not, prep_cmp, prep_cmp2, prep_isN, prep_notN, prep_and, prep_or, prep_ife, prep_sub, prep_slc, prep_call, prep_bi, prep_isi, prep_lrg1, prep_lrg2, prep_lc, tst_loc, tst_con, tst_glo, tst_tup, tst_lst, tst_bin, tst_neg, tst_not, tst_cmp, tst_cmp2, tst_isN, tst_notN, tst_and, tst_or, tst_ife, tst_sub, tst_slc, tst_call, tst_bi, tst_isi, tst_lrg1, tst_lrg2, tst_lc, evLoc, frz, rd, putO, loS, unS, kill, Res.bind, Res.st, ofO, AV.val, Sl.get, Sl.put, vals, binF, biF, cmpF, eqF, truF, isiF, ixF, cutF, setF, appF, augF, retLoc, items, litems, noneB, asB, O.toD, O.own, SR.sat_nx, SR.sat_rt, SR.sat_bk, SR.sat_ct, SR.sat_map, SR.sat_seq, sat_ite, Res.sat_ok, sat_cons, sat_nil, sat_kil, lend, called, back, hide, unhide, fins, wee, fits, e, e2, ea]
  · simp only [List.mem_cons, List.not_mem_nil, or_false] at hm
    omega
theorem pick3 {α : Type} {a b c : α} {i : Int} (h0 : 0 ≤ i) (h1 : i < 3) : ∃ v, L2.atI [a, b, c] i = some v ∧ ((i = 0 ∧ v = a) ∨ (i = 1 ∧ v = b) ∨ (i = 2 ∧ v = c)) := by
  have : i = 0 ∨ i = 1 ∨ i = 2 := by omega
  rcases this with rfl | rfl | rfl
  · exact ⟨a, rfl, .inl ⟨rfl, rfl⟩⟩
  · exact ⟨b, rfl, .inr (.inl ⟨rfl, rfl⟩)⟩
  · exact ⟨c, rfl, .inr (.inr ⟨rfl, rfl⟩)⟩
theorem at2 {α : Type} {a b : α} : L2.atI [a, b] 0 = some a ∧ L2.atI [a, b] 1 = some b := ⟨rfl, rfl⟩
/-- both ends -/
theorem sE56_run (D : DrawsF Φ fd) (x : P5) {a b c p q : Int} (w : WOk a b c p q) {m s3 : Sl} {r : Fm} : ∃ at' s d y y2, 
    ev Φ (sE4 fd) (.pa (.ls (pl x)) :: .pa (.fz (wldD a b c p q)) :: m :: s3 :: r) = .ok (.fz (.int at')) (.pa (.ls (pl y)) :: .pa (.fz (wldD a b c p q)) :: m :: s3 :: r) ∧
    (∀ r, ev Φ sE5 (.pa (.ls (pl y)) :: .pa (.fz (wldD a b c p q)) :: m :: s3 :: .lo (.fz (.int at')) :: r) = .ok (.fz (.int s)) (.pa (.ls (pl y)) :: .pa (.fz (wldD a b c p q)) :: m :: s3 :: .lo (.fz (.int at')) :: r)) ∧
    (∀ r, ev Φ (sE6 fd) (.pa (.ls (pl y)) :: .pa (.fz (wldD a b c p q)) :: m :: s3 :: .lo (.fz (.int at')) :: r) = .ok (.fz (.int d)) (.pa (.ls (pl y2)) :: .pa (.fz (wldD a b c p q)) :: m :: s3 :: .lo (.fz (.int at')) :: r)) ∧
    s ≠ d ∧ Ad s ∧ Ad d := by
  obtain ⟨i, y, e, g0, g1⟩ := D x 3 (by decide) (by decide)
  obtain ⟨j, z, e2, g2, g3⟩ := D y 2 (by decide) (by decide)
  obtain ⟨s, ea, hs⟩ := pick3 (a := a) (b := b) (c := c) g0 g1
  obtain ⟨d, eb, hd⟩ := pick3 (a := a) (b := b) (c := c) (i := (i + 1 + j) % 3) (by omega) (by omega)
  have ea' : L2.atI [PyData.int a, .int b, .int c] i = some (.int s) := by
    have : i = 0 ∨ i = 1 ∨ i = 2 := by omega
    rcases this with rfl | rfl | rfl <;> (cases ea; rfl)
  have eb' : L2.atI [PyData.int a, .int b, .int c] ((i + 1 + j) % 3) = some (.int d) := by
    have : (i + 1 + j) % 3 = 0 ∨ (i + 1 + j) % 3 = 1 ∨ (i + 1 + j) % 3 = 2 := by omega
    rcases this with h | h | h <;> (rw [h] at eb ⊢; cases eb; rfl)
  have ab := w.ab
  have ac := w.ac
  have bc := w.bc
  refine ⟨i, s, d, y, z, ?_, ?_, ?_, ?_, ?_, ?_⟩
  · unfold sE4; simp [exS, prep_fidx, tst_fidx, prep_sset, tst_sset, prep_lset, tst_lset, prep_rev, tst_rev, prep_idx, tst_idx, ev, evDs, evAs, evO, evC, evI, evPs, prep_dget, tst_dget, prep_loc, prep_con, prep_glo, prep_tup, prep_lst, prep_bin, prep_neg, prep_not, prep_cmp, prep_cmp2, prep_isN, prep_notN, prep_and, prep_or, prep_ife, prep_sub, prep_slc, prep_call, prep_bi, prep_isi, prep_lrg1, prep_lrg2, prep_lc, tst_loc, tst_con, tst_glo, tst_tup, tst_lst, tst_bin, tst_neg, tst_not, tst_cmp, tst_cmp2, tst_isN, tst_notN, tst_and, tst_or, tst_ife, tst_sub, tst_slc, tst_call, tst_bi, tst_isi, tst_lrg1, tst_lrg2, tst_lc, evLoc, frz, rd, putO, loS, unS, kill, Res.bind, Res.st, ofO, AV.val, Sl.get, Sl.put, vals, binF, biF, cmpF, eqF, truF, isiF, ixF, cutF, setF, appF, augF, retLoc, items, litems, noneB, asB, O.toD, O.own, SR.sat_nx, SR.sat_rt, SR.sat_bk, SR.sat_ct, SR.sat_map, SR.sat_seq, sat_ite, Res.sat_ok, sat_cons, sat_nil, sat_kil, lend, called, back, hide, unhide, fins, wee, fits, e]
  · intro r; unfold sE5 wldD; simp [exS, prep_fidx, tst_fidx, prep_sset, tst_sset, prep_lset, tst_lset, prep_rev, tst_rev, prep_idx, tst_idx, ev, evDs, evAs, evO, evC, evI, evPs, prep_dget, tst_dget, prep_loc, prep_con, prep_glo, prep_tup, prep_lst, prep_bin, prep_neg, prep_not, prep_cmp, prep_cmp2, prep_isN, prep_notN, prep_and, prep_or, prep_ife, prep_sub, prep_slc, prep_call, prep_bi, prep_isi, prep_lrg1, prep_lrg2, prep_lc, tst_loc, tst_con, tst_glo, tst_tup, tst_lst, tst_bin, tst_neg, tst_not, tst_cmp, tst_cmp2, tst_isN, tst_notN, tst_and, tst_or, tst_ife, tst_sub, tst_slc, tst_call, tst_bi, tst_isi, tst_lrg1, tst_lrg2, tst_lc, evLoc, frz, rd, putO, loS, unS, kill, Res.bind, Res.st, ofO, AV.val, Sl.get, Sl.put, vals, binF, biF, cmpF, eqF, truF, isiF, ixF, cutF, setF, appF, augF, retLoc, items, litems, noneB, asB, O.toD, O.own, SR.sat_nx, SR.sat_rt, SR.sat_bk, SR.sat_ct, SR.sat_map, SR.sat_seq, sat_ite, Res.sat_ok, sat_cons, sat_nil, sat_kil, lend, called, back, hide, unhide, fins, wee, fits, at2, ea']
  · intro r; unfold sE6 wldD; simp [exS, prep_fidx, tst_fidx, prep_sset, tst_sset, prep_lset, tst_lset, prep_rev, tst_rev, prep_idx, tst_idx, ev, evDs, evAs, evO, evC, evI, evPs, prep_dget, tst_dget, prep_loc, prep_con, prep_glo, prep_tup, prep_lst, prep_bin, prep_neg, prep_not, prep_cmp, prep_cmp2, prep_isN, prep_notN, prep_and, prep_or, prep_ife, prep_sub, prep_slc, prep_call, prep_bi, prep_isi, prep_lrg1, prep_lrg2, prep_lc, tst_loc, tst_con, tst_glo, tst_tup, tst_lst, tst_bin, tst_neg, tst_not, tst_cmp, tst_cmp2, tst_isN, tst_notN, tst_and, tst_or, tst_ife, tst_sub, tst_slc, tst_call, tst_bi, tst_isi, tst_lrg1, tst_lrg2, tst_lc, evLoc, frz, rd, putO, loS, unS, kill, Res.bind, Res.st, ofO, AV.val, Sl.get, Sl.put, vals, binF, biF, cmpF, eqF, truF, isiF, ixF, cutF, setF, appF, augF, retLoc, items, litems, noneB, asB, O.toD, O.own, SR.sat_nx, SR.sat_rt, SR.sat_bk, SR.sat_ct, SR.sat_map, SR.sat_seq, sat_ite, Res.sat_ok, sat_cons, sat_nil, sat_kil, lend, called, back, hide, unhide, fins, wee, fits, at2, e2, eb']
  · rcases hs with ⟨_, rfl⟩ | ⟨_, rfl⟩ | ⟨_, rfl⟩ <;> rcases hd with ⟨_, rfl⟩ | ⟨_, rfl⟩ | ⟨_, rfl⟩ <;> omega
  · rcases hs with ⟨_, rfl⟩ | ⟨_, rfl⟩ | ⟨_, rfl⟩
    · exact w.ha
    · exact w.hb
    · exact w.hc
  · rcases hd with ⟨_, rfl⟩ | ⟨_, rfl⟩ | ⟨_, rfl⟩
    · exact w.ha
    · exact w.hb
    · exact w.hc
theorem in2 (k : Int) : inF (.int k) [.int 6, .int 17] = some (decide (k = 6 ∨ k = 17)) := by
  have := inF_ints k [6, 17]
  simpa using this
theorem sE7_run (D : DrawsF Φ fd) (x : P5) {a b c p q : Int} (w : WOk a b c p q) (k : Int) {m : Sl} {r : Fm} : ∃ u v y, ev Φ (sE7 fd) (.pa (.ls (pl x)) :: .pa (.fz (wldD a b c p q)) :: m :: .lo (.fz (.int k)) :: r) = .ok (.fz (.tuple [.int u, .int v])) (.pa (.ls (pl y)) :: .pa (.fz (wldD a b c p q)) :: m :: .lo (.fz (.int k)) :: r) ∧ Ad u ∧ Ad v ∧ (k ≠ 6 → k ≠ 17 → u = 0 ∧ v = 0) := by
  by_cases h : k = 6 ∨ k = 17
  · obtain ⟨i, y, e, g0, g1⟩ := D x 2 (by decide) (by decide)
    obtain ⟨j, z, e2, g2, g3⟩ := D y 2 (by decide) (by decide)
    obtain ⟨u, hu, ea⟩ := pickL (l := [p, q]) (r := i) g0 (by simpa using g1)
    obtain ⟨v, hv, eb⟩ := pickL (l := [p, q]) (r := j) g2 (by simpa using g3)
    simp only [List.map_cons, List.map_nil] at ea eb
    simp only [List.mem_cons, List.not_mem_nil, or_false] at hu hv
    have hp := w.hp
    have hq := w.hq
    refine ⟨u, v, z, ?_, ?_, ?_, fun h1 h2 => by omega⟩
    · unfold sE7 wldD; simp [exS, prep_fidx, tst_fidx, prep_sset, tst_sset, prep_lset, tst_lset, prep_rev, tst_rev, prep_idx, tst_idx, ev, evDs, evAs, evO, evC, evI, evPs, prep_dget, tst_dget, prep_loc, prep_con, prep_glo, prep_tup, prep_lst, prep_bin, prep_neg, prep_not, prep_cmp, prep_cmp2, prep_isN, prep_notN, prep_and, prep_or, prep_ife, prep_sub, prep_slc, prep_call, prep_bi, prep_isi, prep_lrg1, prep_lrg2, prep_lc, tst_loc, tst_con, tst_glo, tst_tup, tst_lst, tst_bin, tst_neg, tst_not, tst_cmp, tst_cmp2, tst_isN, tst_notN, tst_and, tst_or, tst_ife, tst_sub, tst_slc, tst_call, tst_bi, tst_isi, tst_lrg1, tst_lrg2, tst_lc, evLoc, frz, rd, putO, loS, unS, kill, Res.bind, Res.st, ofO, AV.val, Sl.get, Sl.put, vals, binF, biF, cmpF, eqF, truF, isiF, ixF, cutF, setF, appF, augF, retLoc, items, litems, noneB, asB, O.toD, O.own, SR.sat_nx, SR.sat_rt, SR.sat_bk, SR.sat_ct, SR.sat_map, SR.sat_seq, sat_ite, Res.sat_ok, sat_cons, sat_nil, sat_kil, lend, called, back, hide, unhide, fins, wee, fits, at2, in2, h, e, e2, ea, eb]
    · rcases hu with rfl | rfl <;> assumption
    · rcases hv with rfl | rfl <;> assumption
  · refine ⟨0, 0, x, ?_, ⟨by decide, by decide⟩, ⟨by decide, by decide⟩, fun _ _ => ⟨rfl, rfl⟩⟩
    unfold sE7 wldD; simp [exS, prep_fidx, tst_fidx, prep_sset, tst_sset, prep_lset, tst_lset, prep_rev, tst_rev, prep_idx, tst_idx, ev, evDs, evAs, evO, evC, evI, evPs, prep_dget, tst_dget, prep_loc, prep_con, prep_glo, prep_tup, prep_lst, prep_bin, prep_neg, prep_not, prep_cmp, prep_cmp2, prep_isN, prep_notN, prep_and, prep_or, prep_ife, prep_sub, prep_slc, prep_call, prep_bi, prep_isi, prep_lrg1, prep_lrg2, prep_lc, tst_loc, tst_con, tst_glo, tst_tup, tst_lst, tst_bin, tst_neg, tst_not, tst_cmp, tst_cmp2, tst_isN, tst_notN, tst_and, tst_or, tst_ife, tst_sub, tst_slc, tst_call, tst_bi, tst_isi, tst_lrg1, tst_lrg2, tst_lc, evLoc, frz, rd, putO, loS, unS, kill, Res.bind, Res.st, ofO, AV.val, Sl.get, Sl.put, vals, binF, biF, cmpF, eqF, truF, isiF, ixF, cutF, setF, appF, augF, retLoc, items, litems, noneB, asB, O.toD, O.own, SR.sat_nx, SR.sat_rt, SR.sat_bk, SR.sat_ct, SR.sat_map, SR.sat_seq, sat_ite, Res.sat_ok, sat_cons, sat_nil, sat_kil, lend, called, back, hide, unhide, fins, wee, fits, in2, h]
theorem sE8_run (D : DrawsF Φ fd) (x : P5) (k : Int) {w m : Sl} {r : Fm} : ∃ v y, ev Φ (sE8 fd) (.pa (.ls (pl x)) :: w :: m :: .lo (.fz (.int k)) :: r) = .ok (.fz (.int v)) (.pa (.ls (pl y)) :: w :: m :: .lo (.fz (.int k)) :: r) ∧ (0 ≤ v ∧ v ≤ 7) ∧ (k ≠ 6 → v = 0) := by
  by_cases h : k = 6
  · obtain ⟨u, y, e, g0, g1⟩ := D x 8 (by decide) (by decide)
    obtain ⟨i, z, e2, g2, g3⟩ := D y 6 (by decide) (by decide)
    obtain ⟨v, hv, ea⟩ := pickL (l := [0, 1, 1, 2, 4, u]) (r := i) g2 (by simpa using g3)
    simp only [List.map_cons, List.map_nil] at ea
    simp only [List.mem_cons, List.not_mem_nil, or_false] at hv
    subst h
    refine ⟨v, z, ?_, by omega, fun h => absurd rfl h⟩
    unfold sE8; simp [exS, prep_fidx, tst_fidx, prep_sset, tst_sset, prep_lset, tst_lset, prep_rev, tst_rev, prep_idx, tst_idx, ev, evDs, evAs, evO, evC, evI, evPs, prep_dget, tst_dget, prep_loc, prep_con, prep_glo, prep_tup, prep_lst, prep_bin, prep_neg, prep_not, prep_cmp, prep_cmp2, prep_isN, prep_notN, prep_and, prep_or, prep_ife, prep_sub, prep_slc, prep_call, prep_bi, prep_isi, prep_lrg1, prep_lrg2, prep_lc, tst_loc, tst_con, tst_glo, tst_tup, tst_lst, tst_bin, tst_neg, tst_not, tst_cmp, tst_cmp2, tst_isN, tst_notN, tst_and, tst_or, tst_ife, tst_sub, tst_slc, tst_call, tst_bi, tst_isi, tst_lrg1, tst_lrg2, tst_lc, evLoc, frz, rd, putO, loS, unS, kill, Res.bind, Res.st, ofO, AV.val, Sl.get, Sl.put, vals, binF, biF, cmpF, eqF, truF, isiF, ixF, cutF, setF, appF, augF, retLoc, items, litems, noneB, asB, O.toD, O.own, SR.sat_nx, SR.sat_rt, SR.sat_bk, SR.sat_ct, SR.sat_map, SR.sat_seq, sat_ite, Res.sat_ok, sat_cons, sat_nil, sat_kil, lend, called, back, hide, unhide, fins, wee, fits, sh_int, eqv_int, e, e2, ea]
  · refine ⟨0, x, ?_, by omega, fun _ => rfl⟩
    unfold sE8; simp [exS, prep_fidx, tst_fidx, prep_sset, tst_sset, prep_lset, tst_lset, prep_rev, tst_rev, prep_idx, tst_idx, ev, evDs, evAs, evO, evC, evI, evPs, prep_dget, tst_dget, prep_loc, prep_con, prep_glo, prep_tup, prep_lst, prep_bin, prep_neg, prep_not, prep_cmp, prep_cmp2, prep_isN, prep_notN, prep_and, prep_or, prep_ife, prep_sub, prep_slc, prep_call, prep_bi, prep_isi, prep_lrg1, prep_lrg2, prep_lc, tst_loc, tst_con, tst_glo, tst_tup, tst_lst, tst_bin, tst_neg, tst_not, tst_cmp, tst_cmp2, tst_isN, tst_notN, tst_and, tst_or, tst_ife, tst_sub, tst_slc, tst_call, tst_bi, tst_isi, tst_lrg1, tst_lrg2, tst_lc, evLoc, frz, rd, putO, loS, unS, kill, Res.bind, Res.st, ofO, AV.val, Sl.get, Sl.put, vals, binF, biF, cmpF, eqF, truF, isiF, ixF, cutF, setF, appF, augF, retLoc, items, litems, noneB, asB, O.toD, O.own, SR.sat_nx, SR.sat_rt, SR.sat_bk, SR.sat_ct, SR.sat_map, SR.sat_seq, sat_ite, Res.sat_ok, sat_cons, sat_nil, sat_kil, lend, called, back, hide, unhide, fins, wee, fits, sh_int, eqv_int, h]
theorem sE9_run (D : DrawsF Φ fd) (x : P5) (k : Int) {w m : Sl} {r : Fm} : ∃ v y, ev Φ (sE9 fd) (.pa (.ls (pl x)) :: w :: m :: .lo (.fz (.int k)) :: r) = .ok (.fz (.int v)) (.pa (.ls (pl y)) :: w :: m :: .lo (.fz (.int k)) :: r) ∧ Ad v ∧ (k ≠ 1 → v = 0) := by
  by_cases h : k = 1
  · obtain ⟨u, y, e, g0, g1⟩ := D x 65536 (by decide) (by decide)
    subst h
    refine ⟨u, y, ?_, ⟨g0, by omega⟩, fun h => absurd rfl h⟩
    unfold sE9; simp [exS, prep_fidx, tst_fidx, prep_sset, tst_sset, prep_lset, tst_lset, prep_rev, tst_rev, prep_idx, tst_idx, ev, evDs, evAs, evO, evC, evI, evPs, prep_dget, tst_dget, prep_loc, prep_con, prep_glo, prep_tup, prep_lst, prep_bin, prep_neg, prep_not, prep_cmp, prep_cmp2, prep_isN, prep_notN, prep_and, prep_or, prep_ife, prep_sub, prep_slc, prep_call, prep_bi, prep_isi, prep_lrg1, prep_lrg2, prep_lc, tst_loc, tst_con, tst_glo, tst_tup, tst_lst, tst_bin, tst_neg, tst_not, tst_cmp, tst_cmp2, tst_isN, tst_notN, tst_and, tst_or, tst_ife, tst_sub, tst_slc, tst_call, tst_bi, tst_isi, tst_lrg1, tst_lrg2, tst_lc, evLoc, frz, rd, putO, loS, unS, kill, Res.bind, Res.st, ofO, AV.val, Sl.get, Sl.put, vals, binF, biF, cmpF, eqF, truF, isiF, ixF, cutF, setF, appF, augF, retLoc, items, litems, noneB, asB, O.toD, O.own, SR.sat_nx, SR.sat_rt, SR.sat_bk, SR.sat_ct, SR.sat_map, SR.sat_seq, sat_ite, Res.sat_ok, sat_cons, sat_nil, sat_kil, lend, called, back, hide, unhide, fins, wee, fits, sh_int, eqv_int, e]
  · refine ⟨0, x, ?_, ⟨by decide, by decide⟩, fun _ => rfl⟩
    unfold sE9; simp [exS, prep_fidx, tst_fidx, prep_sset, tst_sset, prep_lset, tst_lset, prep_rev, tst_rev, prep_idx, tst_idx, ev, evDs, evAs, evO, evC, evI, evPs, prep_dget, tst_dget, prep_loc, prep_con, prep_glo, prep_tup, prep_lst, prep_bin, prep_neg, prep_not, prep_cmp, prep_cmp2, prep_isN, prep_notN, prep_and, prep_or, prep_ife, prep_sub, prep_slc, prep_call, prep_bi, prep_isi, prep_lrg1, prep_lrg2, prep_lc, tst_loc, tst_con, tst_glo, tst_tup, tst_lst, tst_bin, tst_neg, tst_not, tst_cmp, tst_cmp2, tst_isN, tst_notN, tst_and, tst_or, tst_ife, tst_sub, tst_slc, tst_call, tst_bi, tst_isi, tst_lrg1, tst_lrg2, tst_lc, evLoc, frz, rd, putO, loS, unS, kill, Res.bind, Res.st, ofO, AV.val, Sl.get, Sl.put, vals, binF, biF, cmpF, eqF, truF, isiF, ixF, cutF, setF, appF, augF, retLoc, items, litems, noneB, asB, O.toD, O.own, SR.sat_nx, SR.sat_rt, SR.sat_bk, SR.sat_ct, SR.sat_map, SR.sat_seq, sat_ite, Res.sat_ok, sat_cons, sat_nil, sat_kil, lend, called, back, hide, unhide, fins, wee, fits, sh_int, eqv_int, h]
theorem sE10_run (D : DrawsF Φ fd) (L : LstF Φ fl) (x : P5) (k most : Int) (hm : 0 ≤ most ∧ most < 10000) {w : Sl} {r : Fm} : ∃ v y, ev Φ (sE10 fd fl) (.pa (.ls (pl x)) :: w :: .pa (.fz (.int most)) :: .lo (.fz (.int k)) :: r) = .ok (.fz (.int v)) (.pa (.ls (pl y)) :: w :: .pa (.fz (.int most)) :: .lo (.fz (.int k)) :: r) ∧ leastI k ≤ v ∧ v ≤ leastI k + most + 1 := by
  obtain ⟨u, y, e, g0, g1⟩ := D x (most + 1) (by omega) (by omega)
  obtain ⟨i, z, e2, g2, g3⟩ := D y 4 (by decide) (by decide)
  obtain ⟨v, hv, ea⟩ := pickL (l := [0, 0, 1, u]) (r := i) g2 (by simpa using g3)
  simp only [List.map_cons, List.map_nil] at ea
  simp only [List.mem_cons, List.not_mem_nil, or_false] at hv
  have l := L k
  refine ⟨leastI k + v, z, ?_, by omega, by omega⟩
  unfold sE10; simp [exS, prep_fidx, tst_fidx, prep_sset, tst_sset, prep_lset, tst_lset, prep_rev, tst_rev, prep_idx, tst_idx, ev, evDs, evAs, evO, evC, evI, evPs, prep_dget, tst_dget, prep_loc, prep_con, prep_glo, prep_tup, prep_lst, prep_bin, prep_neg, prep_not, prep_cmp, prep_cmp2, prep_isN, prep_notN, prep_and, prep_or, prep_ife, prep_sub, prep_slc, prep_call, prep_bi, prep_isi, prep_lrg1, prep_lrg2, prep_lc, tst_loc, tst_con, tst_glo, tst_tup, tst_lst, tst_bin, tst_neg, tst_not, tst_cmp, tst_cmp2, tst_isN, tst_notN, tst_and, tst_or, tst_ife, tst_sub, tst_slc, tst_call, tst_bi, tst_isi, tst_lrg1, tst_lrg2, tst_lc, evLoc, frz, rd, putO, loS, unS, kill, Res.bind, Res.st, ofO, AV.val, Sl.get, Sl.put, vals, binF, biF, cmpF, eqF, truF, isiF, ixF, cutF, setF, appF, augF, retLoc, items, litems, noneB, asB, O.toD, O.own, SR.sat_nx, SR.sat_rt, SR.sat_bk, SR.sat_ct, SR.sat_map, SR.sat_seq, sat_ite, Res.sat_ok, sat_cons, sat_nil, sat_kil, lend, called, back, hide, unhide, fins, wee, fits, l, e, e2, ea]
theorem sE11_run (D : DrawsF Φ fd) (x : P5) (k s u v d f c l : Int) {w m a : Sl} : ∃ i y, ev Φ (sE11 fd) [.pa (.ls (pl x)), w, m, .lo (.fz (.int k)), a, .lo (.fz (.int s)), .lo (.fz (.int d)), .lo (.fz (.tuple [.int u, .int v])), .lo (.fz (.int f)), .lo (.fz (.int c)), .lo (.fz (.int l))] = .ok (.fz (sgD ⟨i, k, s, u, d, v, f, c, l⟩)) [.pa (.ls (pl y)), w, m, .lo (.fz (.int k)), a, .lo (.fz (.int s)), .lo (.fz (.int d)), .lo (.fz (.tuple [.int u, .int v])), .lo (.fz (.int f)), .lo (.fz (.int c)), .lo (.fz (.int l))] ∧ 0 ≤ i ∧ i ≤ 1 := by
  obtain ⟨i, y, e, g0, g1⟩ := D x 2 (by decide) (by decide)
  refine ⟨i, y, ?_, g0, by omega⟩
  unfold sE11; simp [exS, prep_fidx, tst_fidx, prep_sset, tst_sset, prep_lset, tst_lset, prep_rev, tst_rev, prep_idx, tst_idx, ev, evDs, evAs, evO, evC, evI, evPs, prep_dget, tst_dget, prep_loc, prep_con, prep_glo, prep_tup, prep_lst, prep_bin, prep_neg, prep_not, prep_cmp, prep_cmp2, prep_isN, prep_notN, prep_and, prep_or, prep_ife, prep_sub, prep_slc, prep_call, prep_bi, prep_isi, prep_lrg1, prep_lrg2, prep_lc, tst_loc, tst_con, tst_glo, tst_tup, tst_lst, tst_bin, tst_neg, tst_not, tst_cmp, tst_cmp2, tst_isN, tst_notN, tst_and, tst_or, tst_ife, tst_sub, tst_slc, tst_call, tst_bi, tst_isi, tst_lrg1, tst_lrg2, tst_lc, evLoc, frz, rd, putO, loS, unS, kill, Res.bind, Res.st, ofO, AV.val, Sl.get, Sl.put, vals, binF, biF, cmpF, eqF, truF, isiF, ixF, cutF, setF, appF, augF, retLoc, items, litems, noneB, asB, O.toD, O.own, SR.sat_nx, SR.sat_rt, SR.sat_bk, SR.sat_ct, SR.sat_map, SR.sat_seq, sat_ite, Res.sat_ok, sat_cons, sat_nil, sat_kil, lend, called, back, hide, unhide, fins, wee, fits, e, at2, sgD, sgL]
theorem sight_at (D : DrawsF Φ fd) (L : LstF Φ fl) (x : P5) {a b c p q : Int} (w : WOk a b c p q) (most : Int) (hm : 0 ≤ most ∧ most < 10000) :
    ∃ g y r, exSs Φ (Bsight fd fl) [.pa (.ls (pl x)), .pa (.fz (wldD a b c p q)), .pa (.fz (.int most)), .un, .un, .un, .un, .un, .un, .un, .un] = .rt (.fz (sgD g)) (.pa (.ls (pl y)) :: .pa (.fz (wldD a b c p q)) :: .pa (.fz (.int most)) :: r) ∧ SgOk most g := by
  obtain ⟨k, y1, e1, hk⟩ := sE3_run D x [.pa (.fz (wldD a b c p q)), .pa (.fz (.int most)), .un, .un, .un, .un, .un, .un, .un, .un]
  obtain ⟨t, s, d, y2, y3, e2, e3, e4, hne, hs, hd⟩ := sE56_run D y1 w (m := .pa (.fz (.int most))) (s3 := .lo (.fz (.int k))) (r := [.un, .un, .un, .un, .un, .un, .un])
  obtain ⟨u, v, y4, e5, hu, hv, huv⟩ := sE7_run D y3 w k (m := .pa (.fz (.int most))) (r := [.lo (.fz (.int t)), .lo (.fz (.int s)), .lo (.fz (.int d)), .un, .un, .un, .un])
  obtain ⟨f, y5, e6, hf, hf6⟩ := sE8_run D y4 k (w := .pa (.fz (wldD a b c p q))) (m := .pa (.fz (.int most))) (r := [.lo (.fz (.int t)), .lo (.fz (.int s)), .lo (.fz (.int d)), .lo (.fz (.tuple [.int u, .int v])), .un, .un, .un])
  obtain ⟨o, y6, e7, ho, ho1⟩ := sE9_run D y5 k (w := .pa (.fz (wldD a b c p q))) (m := .pa (.fz (.int most))) (r := [.lo (.fz (.int t)), .lo (.fz (.int s)), .lo (.fz (.int d)), .lo (.fz (.tuple [.int u, .int v])), .lo (.fz (.int f)), .un, .un])
  obtain ⟨l, y7, e8, hl⟩ := sE10_run D L y6 k most hm (w := .pa (.fz (wldD a b c p q))) (r := [.lo (.fz (.int t)), .lo (.fz (.int s)), .lo (.fz (.int d)), .lo (.fz (.tuple [.int u, .int v])), .lo (.fz (.int f)), .lo (.fz (.int o)), .un])
  obtain ⟨i, y8, e9, hi⟩ := sE11_run D y7 k s u v d f o l (w := .pa (.fz (wldD a b c p q))) (m := .pa (.fz (.int most))) (a := .lo (.fz (.int t)))
  refine ⟨⟨i, k, s, u, d, v, f, o, l⟩, y8, [.lo (.fz (.int k)), .lo (.fz (.int t)), .lo (.fz (.int s)), .lo (.fz (.int d)), .lo (.fz (.tuple [.int u, .int v])), .lo (.fz (.int f)), .lo (.fz (.int o)), .lo (.fz (.int l))], ?_, ⟨hi, hk, hs, hd, hu, hv, hne, huv, hf, hf6, ho, ho1, hl⟩⟩
  unfold Bsight
  rw [exSs_cons, asg_ev e1, SR.seq]
  show exSs Φ _ [.pa (.ls (pl y1)), .pa (.fz (wldD a b c p q)), .pa (.fz (.int most)), .lo (.fz (.int k)), .un, .un, .un, .un, .un, .un, .un] = _
  rw [exSs_cons, asg_ev e2, SR.seq]
  show exSs Φ _ [.pa (.ls (pl y2)), .pa (.fz (wldD a b c p q)), .pa (.fz (.int most)), .lo (.fz (.int k)), .lo (.fz (.int t)), .un, .un, .un, .un, .un, .un] = _
  rw [exSs_cons, asg_ev (e3 _), SR.seq]
  show exSs Φ _ [.pa (.ls (pl y2)), .pa (.fz (wldD a b c p q)), .pa (.fz (.int most)), .lo (.fz (.int k)), .lo (.fz (.int t)), .lo (.fz (.int s)), .un, .un, .un, .un, .un] = _
  rw [exSs_cons, asg_ev (e4 _), SR.seq]
  show exSs Φ _ [.pa (.ls (pl y3)), .pa (.fz (wldD a b c p q)), .pa (.fz (.int most)), .lo (.fz (.int k)), .lo (.fz (.int t)), .lo (.fz (.int s)), .lo (.fz (.int d)), .un, .un, .un, .un] = _
  rw [exSs_cons, asg_ev e5, SR.seq]
  show exSs Φ _ [.pa (.ls (pl y4)), .pa (.fz (wldD a b c p q)), .pa (.fz (.int most)), .lo (.fz (.int k)), .lo (.fz (.int t)), .lo (.fz (.int s)), .lo (.fz (.int d)), .lo (.fz (.tuple [.int u, .int v])), .un, .un, .un] = _
  rw [exSs_cons, asg_ev e6, SR.seq]
  show exSs Φ _ [.pa (.ls (pl y5)), .pa (.fz (wldD a b c p q)), .pa (.fz (.int most)), .lo (.fz (.int k)), .lo (.fz (.int t)), .lo (.fz (.int s)), .lo (.fz (.int d)), .lo (.fz (.tuple [.int u, .int v])), .lo (.fz (.int f)), .un, .un] = _
  rw [exSs_cons, asg_ev e7, SR.seq]
  show exSs Φ _ [.pa (.ls (pl y6)), .pa (.fz (wldD a b c p q)), .pa (.fz (.int most)), .lo (.fz (.int k)), .lo (.fz (.int t)), .lo (.fz (.int s)), .lo (.fz (.int d)), .lo (.fz (.tuple [.int u, .int v])), .lo (.fz (.int f)), .lo (.fz (.int o)), .un] = _
  rw [exSs_cons, asg_ev e8, SR.seq]
  show exSs Φ _ [.pa (.ls (pl y7)), .pa (.fz (wldD a b c p q)), .pa (.fz (.int most)), .lo (.fz (.int k)), .lo (.fz (.int t)), .lo (.fz (.int s)), .lo (.fz (.int d)), .lo (.fz (.tuple [.int u, .int v])), .lo (.fz (.int f)), .lo (.fz (.int o)), .lo (.fz (.int l))] = _
  unfold sE11 at e9 ⊢
  rw [exSs_cons, exS, e9]
  · rfl
  · intro i h; cases h
def SgtF (Φ : Nat → List O → CR) (f : Nat) : Prop := ∀ (x : P5) (a b c p q most : Int), WOk a b c p q → 0 ≤ most → most < 10000 → ∃ g y, Φ f [.ls (pl x), .fz (wldD a b c p q), .fz (.int most)] = .ok (.fz (sgD g)) [some (.ls (pl y)), none, none] ∧ SgOk most g
theorem sgtF {T : List Df} {f : Nat} {n : Nat} (hf : T[f]? = some (dSight fd fl)) (D : DrawsF (callN T n) fd) (L : LstF (callN T n) fl) : SgtF (callN T (n + 1)) f := fun x a b c p q most w h0 h1 => by
  obtain ⟨g, y, r, e, ok⟩ := sight_at D L x w most ⟨h0, h1⟩
  refine ⟨g, y, ?_, ok⟩
  rw [callN_eq hf rfl]
  have e2 : exSs (callN T n) (dSight fd fl).body (frame0 (dSight fd fl).N.length [.ls (pl x), .fz (wldD a b c p q), .fz (.int most)]) = _ := e
  rw [e2]
  cases r <;> rfl
end
end GW

/-! GW, part 21: small data. -/
namespace GW
open PySem
section
mutual
/-- leaves: ints below B, plain texts -/
def leafB (B : Nat) : PyData → Bool
  | .none => true | .bool _ => true
  | .int i => decide (i.natAbs < B)
  | .str x => PyData.strOk x
  | .list ds => leafsB B ds | .tuple ds => leafsB B ds
  | .dict _ => false
def leafsB (B : Nat) : List PyData → Bool
  | [] => true
  | d :: r => leafB B d && leafsB B r
end
mutual
/-- a size that its text goes by -/
def sz : PyData → Nat
  | .none => 41 | .bool _ => 41 | .int _ => 41 | .str x => 41 + x.length
  | .list ds => szs ds + 41 | .tuple ds => szs ds + 41 | .dict _ => 0
def szs : List PyData → Nat
  | [] => 0
  | d :: r => sz d + 1 + szs r
end
end
theorem leafs_iff {B : Nat} : ∀ {ds : List PyData}, leafsB B ds = true ↔ ∀ d ∈ ds, leafB B d = true
  | [] => by simp [leafsB]
  | d :: ds => by rw [leafsB, Bool.and_eq_true, leafs_iff (ds := ds)]; simp
theorem depths_iff {k : Nat} : ∀ {ds : List PyData}, PyData.depthAll ds ≤ k ↔ ∀ d ∈ ds, d.depth ≤ k
  | [] => by simp [PyData.depthAll]  -- gw
  | d :: ds => by rw [PyData.depthAll, Nat.max_le, depths_iff (ds := ds)]; simp
theorem szs_app : ∀ (a b : List PyData), szs (a ++ b) = szs a + szs b
  | [], b => by simp [szs]
  | d :: a, b => by rw [List.cons_append, szs, szs, szs_app a b]; omega
theorem szs_len : ∀ (a : List PyData), a.length ≤ szs a
  | [] => Nat.zero_le _
  | d :: a => by
    have := szs_len a
    rw [szs, List.length_cons]; omega
theorem szs_mem : ∀ {a : List PyData} {d : PyData}, d ∈ a → sz d < szs a
  | d :: a, e, h => by
    rw [szs]
    rcases List.mem_cons.mp h with rfl | h  -- gw
    · omega
    · have := szs_mem h; omega
theorem szs_set : ∀ (a : List PyData) (i : Nat) (d : PyData), szs (a.set i d) ≤ szs a + sz d
  | [], _, _ => Nat.zero_le _
  | e :: a, 0, d => by rw [List.set_cons_zero, szs, szs]; omega
  | e :: a, i + 1, d => by
    have := szs_set a i d
    rw [List.set_cons_succ, szs, szs]; omega
mutual
theorem leafB_mono {B C : Nat} (h : B ≤ C) : ∀ {d : PyData}, leafB B d = true → leafB C d = true
  | .none, _ => rfl
  | .bool _, _ => rfl
  | .int i, e => by
    have : i.natAbs < B := of_decide_eq_true e
    exact decide_eq_true (by omega)  -- gw
  | .str x, e => e
  | .list ds, e => leafsB_mono h (ds := ds) e
  | .tuple ds, e => leafsB_mono h (ds := ds) e
  | .dict _, e => Bool.noConfusion e
theorem leafsB_mono {B C : Nat} (h : B ≤ C) : ∀ {ds : List PyData}, leafsB B ds = true → leafsB C ds = true
  | [], _ => rfl
  | d :: r, e => by
    rw [leafsB, Bool.and_eq_true] at e ⊢
    exact ⟨leafB_mono h e.1, leafsB_mono h e.2⟩
end
mutual
theorem leaf_weight : ∀ {d : PyData}, leafB 1000000000000 d = true → d.weight ≤ sz d ∧ d.canLay0 = true ∧ d.intsShort 13 = true ∧ d.showable = true ∧ d.hasDict = false
  | .none, _ => ⟨Nat.zero_le _, rfl, rfl, rfl, rfl⟩
  | .bool _, _ => ⟨Nat.zero_le _, rfl, rfl, rfl, rfl⟩
  | .int i, e => by
    have h : i.natAbs < 1000000000000 := of_decide_eq_true e
    have h2 : i.natAbs.log2 < 40 := by
      by_cases z : i.natAbs = 0
      · rw [z]; decide
      · exact (Nat.log2_lt z).mpr (by omega)
    refine ⟨?_, by simp only [PyData.canLay0], ?_, ?_, by simp only [PyData.hasDict]⟩
    · show (if (i == 0) = true then 0 else i.natAbs.log2 + 1) ≤ 41
      split <;> omega
    · simp only [PyData.intsShort, decide_eq_true_eq]
      exact PyData.shown_int_le (by simpa using h)
    · simp only [PyData.showable, decide_eq_true_eq]; omega
  | .str x, e => ⟨by show x.cps.size ≤ 41 + x.length; exact Nat.le_add_left _ _, by simp only [PyData.canLay0]; exact e, by simp only [PyData.intsShort], by simp only [PyData.showable], by simp only [PyData.hasDict]⟩
  | .list ds, e => by
    obtain ⟨h1, h2, h3, h4, h5⟩ := leafs_weight (ds := ds) e
    refine ⟨?_, by simpa only [PyData.canLay0] using h2, by simpa only [PyData.intsShort] using h3, by simpa only [PyData.showable] using h4, by simpa only [PyData.hasDict] using h5⟩
    rw [PyData.weight, sz]; omega
  | .tuple ds, e => by
    obtain ⟨h1, h2, h3, h4, h5⟩ := leafs_weight (ds := ds) e
    refine ⟨?_, by simpa only [PyData.canLay0] using h2, by simpa only [PyData.intsShort] using h3, by simpa only [PyData.showable] using h4, by simpa only [PyData.hasDict] using h5⟩
    rw [PyData.weight, sz]; omega
  | .dict _, e => Bool.noConfusion e
theorem leafs_weight : ∀ {ds : List PyData}, leafsB 1000000000000 ds = true → PyData.weightAll ds ≤ szs ds ∧ PyData.canLayAll0 ds = true ∧ PyData.intsShortAll 13 ds = true ∧ PyData.showableAll ds = true ∧ PyData.hasDictAll ds = false
  | [], _ => ⟨Nat.le_refl _, rfl, rfl, rfl, rfl⟩
  | d :: r, e => by
    rw [leafsB, Bool.and_eq_true] at e
    obtain ⟨h1, h2, h3, h4, h5⟩ := leaf_weight e.1
    obtain ⟨k1, k2, k3, k4, k5⟩ := leafs_weight e.2
    refine ⟨by rw [PyData.weightAll, szs]; omega, by rw [PyData.canLayAll0, h2, k2]; rfl, by rw [PyData.intsShortAll, h3, k3]; rfl, by rw [PyData.showableAll, h4, k4]; rfl, by rw [PyData.hasDictAll, h5, k5]; rfl⟩
end
theorem shw_ok {d : PyData} (h : leafB 1000000000000 d = true) (hs : sz d ≤ 1000000) (hd : d.depth ≤ 64) : shw d = true := by
  obtain ⟨h1, h2, h3, h4, h5⟩ := leaf_weight h
  have h6 := PyData.shown_le 13 (by decide) d (PyData.leavesShort_of_canLay0 13 d h2 h3)
  unfold shw
  rw [h4, h5, decide_eq_true hd, decide_eq_true (by omega)]; rfl
/-- a place of a row -/
theorem mid_of {ds : List PyData} {r : Int} (h0 : 0 ≤ r) (h1 : r < ds.length) : ∃ p e q, ds = p ++ e :: q ∧ r = p.length := by
  have h : r.toNat < ds.length := by omega
  refine ⟨ds.take r.toNat, ds[r.toNat], ds.drop (r.toNat + 1), ?_, ?_⟩
  · rw [← List.drop_eq_getElem_cons h, List.take_append_drop]
  · rw [List.length_take]; omega
theorem at_mid (p : List PyData) (e : PyData) (q : List PyData) : L2.atI (p ++ e :: q) (p.length : Int) = some e := by
  rw [atI_in (by omega) (by simp; omega), Int.toNat_natCast]
  simp
theorem cut_pre {pre r : List D} {k : Int} (hk : k = pre.length) : cutL (pre ++ r) none (some k) = pre := by
  subst hk
  unfold cutL HT.sIx
  simp only [List.drop_zero, Nat.sub_zero, List.length_append]
  rw [if_neg (by omega), Int.toNat_natCast, Nat.min_eq_left (by omega), List.take_left']
  rfl
theorem cut_post {pre r : List D} {k : Int} (hk : k = pre.length) : cutL (pre ++ r) (some k) none = r := by
  subst hk
  unfold cutL HT.sIx
  simp only [List.length_append]
  rw [if_neg (by omega), Int.toNat_natCast, Nat.min_eq_left (by omega), List.drop_left' rfl, Nat.add_sub_cancel_left, List.take_length]
theorem cut_post1 {p : List D} {e : D} {q : List D} : cutL (p ++ e :: q) (some ((p.length : Int) + 1)) none = q := by
  rw [show p ++ e :: q = (p ++ [e]) ++ q by simp]
  exact cut_post (by simp)
/-! ### texts -/
theorem strOk_iff {x : Str} : PyData.strOk x = true ↔ ∀ c ∈ x.cps.toList, c < 0x110000 := by
  unfold PyData.strOk
  rw [Array.all_eq_true_iff_forall_mem]
  constructor
  · intro h c hc
    simpa using h c (Array.mem_toList_iff.mp hc)
  · intro h c hc
    simpa using h c (Array.mem_toList_iff.mpr hc)
theorem strOk_app {x y : Str} (h : PyData.strOk x = true) (k : PyData.strOk y = true) : PyData.strOk (x ++ y) = true := by
  rw [strOk_iff] at h k ⊢
  intro c hc
  have hc : c ∈ (x.cps ++ y.cps).toList := hc
  rw [Array.toList_append] at hc
  rcases List.mem_append.mp hc with z | z
  · exact h c z
  · exact k c z
theorem len_app {x y : Str} : (x ++ y).length = x.length + y.length := by
  show (x.cps ++ y.cps).size = _
  rw [Array.size_append]; rfl
theorem strOk_cut {x : Str} {lo hi : Option Int} (h : PyData.strOk x = true) : PyData.strOk (L2.cutS x lo hi) = true := by
  rw [strOk_iff] at h ⊢
  intro c hc
  have hc : c ∈ ((x.cps.toList.drop (HT.sIx x.length 0 lo)).take (HT.sIx x.length x.length hi - HT.sIx x.length 0 lo)).toArray.toList := hc
  exact h c (List.mem_of_mem_drop (List.mem_of_mem_take (by simpa using hc)))
end GW

/-! GW, part 22: bent copies. -/
namespace GW
open PySem
def Bisint : ISs := .cons (.ret (.and (.isi (.loc 0) .tInt) (.not (.isi (.loc 0) .tBool)))) .nil
def dIsint : Df := ⟨"_law_is_integer", ["actual"], 1, Bisint⟩
def isIntF : PyData → Bool
  | .int _ => true | _ => false
def noDc : PyData → Bool
  | .dict _ => false | _ => true
def IsiF (Φ : Nat → List O → CR) (f : Nat) : Prop := ∀ d, noDc d = true → Φ f [.fz d] = .ok (.fz (.bool (isIntF d))) [none]
theorem isiF_of {T : List Df} {f n : Nat} (hf : T[f]? = some dIsint) : IsiF (callN T (n + 1)) f := fun d hd => by
  rw [callN_eq hf rfl]
  show ends _ (exSs (callN T n) Bisint [.pa (.fz d)]) = _
  generalize callN T n = Φ
  unfold Bisint
  cases d <;> first | (exact Bool.noConfusion hd) | simp [exS, prep_fidx, tst_fidx, prep_sset, tst_sset, prep_lset, tst_lset, prep_rev, tst_rev, prep_idx, tst_idx, ev, evDs, evAs, evO, evC, evI, evPs, prep_dget, tst_dget, prep_loc, prep_con, prep_glo, prep_tup, prep_lst, prep_bin, prep_neg, prep_not, prep_cmp, prep_cmp2, prep_isN, prep_notN, prep_and, prep_or, prep_ife, prep_sub, prep_slc, prep_call, prep_bi, prep_isi, prep_lrg1, prep_lrg2, prep_lc, tst_loc, tst_con, tst_glo, tst_tup, tst_lst, tst_bin, tst_neg, tst_not, tst_cmp, tst_cmp2, tst_isN, tst_notN, tst_and, tst_or, tst_ife, tst_sub, tst_slc, tst_call, tst_bi, tst_isi, tst_lrg1, tst_lrg2, tst_lc, evLoc, frz, rd, putO, loS, unS, kill, Res.bind, Res.st, ofO, AV.val, Sl.get, Sl.put, vals, binF, biF, cmpF, eqF, truF, isiF, ixF, cutF, setF, appF, augF, retLoc, items, litems, noneB, asB, O.toD, O.own, SR.sat_nx, SR.sat_rt, SR.sat_bk, SR.sat_ct, SR.sat_map, SR.sat_seq, sat_ite, Res.sat_ok, sat_cons, sat_nil, sat_kil, lend, called, back, hide, unhide, fins, wee, fits, exSs_cons, exSs_nil, seq_nx, seq_rt, ends_rt, isIntF]
def b0 (fd : Nat) : IE := .and (.isi (.loc 1) .tTup) (.and (.cmp .gt (.bi .len (.cons (.loc 1) .nil)) (.con (.int 0))) (.cmp .gt (.call fd (.cons (.loc 0) (.cons (.con (.int 3)) .nil))) (.con (.int 0))))
def bAt (fd : Nat) : IE := .call fd (.cons (.loc 0) (.cons (.bi .len (.cons (.loc 1) .nil)) .nil))
def bDeep (fb : Nat) : IE := .bin .add (.bin .add (.slc (.loc 1) .no (.so (.loc 3))) (.tup (.cons (.call fb (.cons (.loc 0) (.cons (.sub (.loc 1) (.loc 3)) .nil))) .nil))) (.slc (.loc 1) (.so (.bin .add (.loc 3) (.con (.int 1)))) .no)
def b8 (fd : Nat) : IE := .sub (.tup (.cons (.con (.str "x")) (.cons (.con (.bool true)) (.cons (.tup .nil) (.cons (.con (.int 0)) (.cons (.neg (.con (.int 1))) (.cons (.con .none) (.cons (.con (.bool false)) (.cons (.lst .nil) .nil))))))))) (.call fd (.cons (.loc 0) (.cons (.con (.int 8)) .nil)))
def b4 (fd : Nat) : IE := .bin .add (.loc 1) (.sub (.tup (.cons (.con (.int 1)) (.cons (.neg (.con (.int 1))) (.cons (.con (.int 2)) (.cons (.con (.int 0)) .nil))))) (.call fd (.cons (.loc 0) (.cons (.con (.int 4)) .nil))))
def b5 (fd : Nat) : IE := .sub (.tup (.cons (.bin .add (.loc 1) (.con (.str "a"))) (.cons (.slc (.loc 1) (.so (.con (.int 1))) .no) (.cons (.bin .add (.loc 1) (.con (.str "A"))) (.cons (.bin .add (.loc 1) (.con (.str " "))) (.cons (.slc (.loc 1) .no (.so (.con (.int 1)))) .nil)))))) (.call fd (.cons (.loc 0) (.cons (.con (.int 5)) .nil)))
def bW : IE := .ife (.cmp .lt (.loc 2) (.con (.int 5))) (.tup (.cons (.loc 1) (.cons (.con (.int 0)) .nil))) (.tup .nil)
def bCut : IE := .bin .add (.slc (.loc 1) .no (.so (.loc 3))) (.slc (.loc 1) (.so (.bin .add (.loc 3) (.con (.int 1)))) .no)
def bDup : IE := .bin .add (.bin .add (.slc (.loc 1) .no (.so (.loc 3))) (.tup (.cons (.sub (.loc 1) (.loc 3)) .nil))) (.slc (.loc 1) (.so (.loc 3)) .no)
def bTail2 (fd : Nat) : ISs :=
  (.cons (.asg 3 (bAt fd))
  (.cons (.iff (.cmp .lt (.loc 2) (.con (.int 3))) (.cons (.ret bCut) .nil) .nil)
  (.cons (.iff (.cmp .lt (.loc 2) (.con (.int 5))) (.cons (.ret bDup) .nil) .nil)
  (.cons (.iff (.cmp .eq (.loc 2) (.con (.int 5))) (.cons (.ret (.bi .list (.cons (.loc 1) .nil))) .nil) .nil)
  (.cons (.asg 4 (bAt fd))
  (.cons (.asg 5 (.bi .list (.cons (.loc 1) .nil)))
  (.cons (.seti 5 (.loc 3) (.sub (.loc 1) (.loc 4)))
  (.cons (.seti 5 (.loc 4) (.sub (.loc 1) (.loc 3)))
  (.cons (.ret (.bi .tuple (.cons (.loc 5) .nil)))
  .nil)))))))))
def bTail (fd fi : Nat) : ISs :=
  (.cons (.asg 2 (.call fd (.cons (.loc 0) (.cons (.con (.int 9)) .nil))))
  (.cons (.iff (.cmp .eq (.loc 2) (.con (.int 0))) (.cons (.ret (b8 fd)) .nil) .nil)
  (.cons (.iff (.call fi (.cons (.loc 1) .nil)) (.cons (.ret (b4 fd)) .nil) .nil)
  (.cons (.iff (.isi (.loc 1) .tStr) (.cons (.ret (b5 fd)) .nil) .nil)
  (.cons (.iff (.or (.not (.isi (.loc 1) .tTup)) (.cmp .eq (.bi .len (.cons (.loc 1) .nil)) (.con (.int 0)))) (.cons (.ret bW) .nil) .nil)
  (bTail2 fd))))))
def Bbent (fd fi fb : Nat) : ISs :=
  (.cons (.iff (b0 fd) (.cons (.asg 3 (bAt fd)) (.cons (.ret (bDeep fb)) .nil)) .nil)
  (.kil [3] (bTail fd fi)))
def dBent (fd fi fb : Nat) : Df := ⟨"_law_bent", ["pool", "value", "turn", "at", "other", "items"], 2, Bbent fd fi fb⟩
/-- what bending may do -/
structure Bnt (B : Nat) (d : PyData) (o : O) : Prop where
  leaf : leafB (B + 3) o.toD = true
  size : sz o.toD ≤ 3 * sz d + 200
  deep : o.toD.depth ≤ d.depth + 1
  nodc : ∀ kvs, o ≠ .dc kvs
section
variable {Φ : Nat → List O → CR} {fd fi fb : Nat}
theorem ret_ev {e : IE} {ρ ρ1 : Fm} {o : O} {r : ISs} (hn : ∀ i, e ≠ .loc i) (h : ev Φ e ρ = .ok o ρ1) : exSs Φ (.cons (.ret e) r) ρ = .rt o ρ1 := by
  rw [exSs_cons]
  have : exS Φ (.ret e) ρ = (ev Φ e ρ).st .rt := by
    cases e <;> first | exact absurd rfl (hn _) | (rw [exS]; intro i h; cases h)
  rw [this, h]; rfl
theorem iff_no {c : IE} {a r : ISs} {ρ ρ1 : Fm} (h : tst c (ev Φ c) ρ = .ok false ρ1) : exSs Φ (.cons (.iff c a .nil) r) ρ = exSs Φ r ρ1 := by
  rw [exSs_cons, exS, h]
  show SR.seq (exSs Φ .nil ρ1) _ = _
  rw [exSs_nil]; rfl
theorem iff_yes {c : IE} {a b r : ISs} {ρ ρ1 ρ2 : Fm} {o : O} (h : tst c (ev Φ c) ρ = .ok true ρ1) (h2 : exSs Φ a ρ1 = .rt o ρ2) : exSs Φ (.cons (.iff c a b) r) ρ = .rt o ρ2 := by
  rw [exSs_cons, exS, h]
  show SR.seq (exSs Φ a ρ1) _ = _
  rw [h2]; rfl
theorem asg_cons {i : Nat} {e : IE} {r : ISs} {ρ ρ1 : Fm} {o : O} (h : ev Φ e ρ = .ok o ρ1) : exSs Φ (.cons (.asg i e) r) ρ = exSs Φ r (loS ρ1 i o) := by
  rw [exSs_cons, asg_ev h]; rfl
theorem b8_run (D : DrawsF Φ fd) (x : P5) (r : Fm) : ∃ d y, ev Φ (b8 fd) (.pa (.ls (pl x)) :: r) = .ok (.fz d) (.pa (.ls (pl y)) :: r) ∧ leafB 3 d = true ∧ sz d ≤ 50 ∧ d.depth ≤ 1 := by
  obtain ⟨i, y, e, g0, g1⟩ := D x 8 (by decide) (by decide)
  have h : ∃ d, L2.atI [PyData.str "x", .bool true, .tuple [], .int 0, .int (-1), .none, .bool false, .list []] i = some d ∧ leafB 3 d = true ∧ sz d ≤ 50 ∧ d.depth ≤ 1 := by
    have : i = 0 ∨ i = 1 ∨ i = 2 ∨ i = 3 ∨ i = 4 ∨ i = 5 ∨ i = 6 ∨ i = 7 := by omega
    rcases this with rfl | rfl | rfl | rfl | rfl | rfl | rfl | rfl <;> exact ⟨_, rfl, by decide +kernel, by decide +kernel, by decide +kernel⟩
  obtain ⟨d, ea, h1, h2, h3⟩ := h
  refine ⟨d, y, ?_, h1, h2, h3⟩
  unfold b8
  simp [exS, prep_fidx, tst_fidx, prep_sset, tst_sset, prep_lset, tst_lset, prep_rev, tst_rev, prep_idx, tst_idx, ev, evDs, evAs, evO, evC, evI, evPs, prep_dget, tst_dget, prep_loc, prep_con, prep_glo, prep_tup, prep_lst, prep_bin, prep_neg, prep_not, prep_cmp, prep_cmp2, prep_isN, prep_notN, prep_and, prep_or, prep_ife, prep_sub, prep_slc, prep_call, prep_bi, prep_isi, prep_lrg1, prep_lrg2, prep_lc, tst_loc, tst_con, tst_glo, tst_tup, tst_lst, tst_bin, tst_neg, tst_not, tst_cmp, tst_cmp2, tst_isN, tst_notN, tst_and, tst_or, tst_ife, tst_sub, tst_slc, tst_call, tst_bi, tst_isi, tst_lrg1, tst_lrg2, tst_lc, evLoc, frz, rd, putO, loS, unS, kill, Res.bind, Res.st, ofO, AV.val, Sl.get, Sl.put, vals, binF, biF, cmpF, eqF, truF, isiF, ixF, cutF, setF, appF, augF, retLoc, items, litems, noneB, asB, O.toD, O.own, SR.sat_nx, SR.sat_rt, SR.sat_bk, SR.sat_ct, SR.sat_map, SR.sat_seq, sat_ite, Res.sat_ok, sat_cons, sat_nil, sat_kil, lend, called, back, hide, unhide, fins, wee, fits, e, ea]
theorem b4_run (D : DrawsF Φ fd) (x : P5) (i : Int) (r : Fm) : ∃ k y, ev Φ (b4 fd) (.pa (.ls (pl x)) :: .pa (.fz (.int i)) :: r) = .ok (.fz (.int (i + k))) (.pa (.ls (pl y)) :: .pa (.fz (.int i)) :: r) ∧ -1 ≤ k ∧ k ≤ 2 := by
  obtain ⟨j, y, e, g0, g1⟩ := D x 4 (by decide) (by decide)
  obtain ⟨k, hm, ea⟩ := pickL (l := [1, -1, 2, 0]) (r := j) g0 (by simpa using g1)
  simp only [List.map_cons, List.map_nil] at ea
  refine ⟨k, y, ?_, ?_⟩
  · unfold b4; simp [exS, prep_fidx, tst_fidx, prep_sset, tst_sset, prep_lset, tst_lset, prep_rev, tst_rev, prep_idx, tst_idx, ev, evDs, evAs, evO, evC, evI, evPs, prep_dget, tst_dget, prep_loc, prep_con, prep_glo, prep_tup, prep_lst, prep_bin, prep_neg, prep_not, prep_cmp, prep_cmp2, prep_isN, prep_notN, prep_and, prep_or, prep_ife, prep_sub, prep_slc, prep_call, prep_bi, prep_isi, prep_lrg1, prep_lrg2, prep_lc, tst_loc, tst_con, tst_glo, tst_tup, tst_lst, tst_bin, tst_neg, tst_not, tst_cmp, tst_cmp2, tst_isN, tst_notN, tst_and, tst_or, tst_ife, tst_sub, tst_slc, tst_call, tst_bi, tst_isi, tst_lrg1, tst_lrg2, tst_lc, evLoc, frz, rd, putO, loS, unS, kill, Res.bind, Res.st, ofO, AV.val, Sl.get, Sl.put, vals, binF, biF, cmpF, eqF, truF, isiF, ixF, cutF, setF, appF, augF, retLoc, items, litems, noneB, asB, O.toD, O.own, SR.sat_nx, SR.sat_rt, SR.sat_bk, SR.sat_ct, SR.sat_map, SR.sat_seq, sat_ite, Res.sat_ok, sat_cons, sat_nil, sat_kil, lend, called, back, hide, unhide, fins, wee, fits, e, ea]
  · simp only [List.mem_cons, List.not_mem_nil, or_false] at hm; omega
theorem b5_run (D : DrawsF Φ fd) (x : P5) (s : Str) (hs : PyData.strOk s = true) (hl : s.length ≤ 1000000) (r : Fm) : ∃ z y, ev Φ (b5 fd) (.pa (.ls (pl x)) :: .pa (.fz (.str s)) :: r) = .ok (.fz (.str z)) (.pa (.ls (pl y)) :: .pa (.fz (.str s)) :: r) ∧ PyData.strOk z = true ∧ z.length ≤ s.length + 1 := by
  obtain ⟨j, y, e, g0, g1⟩ := D x 5 (by decide) (by decide)
  have h : ∃ z, L2.atI [PyData.str (s ++ "a"), .str (L2.cutS s (some 1) none), .str (s ++ "A"), .str (s ++ " "), .str (L2.cutS s none (some 1))] j = some (.str z) ∧ PyData.strOk z = true ∧ z.length ≤ s.length + 1 := by
    have : j = 0 ∨ j = 1 ∨ j = 2 ∨ j = 3 ∨ j = 4 := by omega
    have c1 := L2.cutS_length s (some 1) none
    have c2 := L2.cutS_length s none (some 1)
    rcases this with rfl | rfl | rfl | rfl | rfl
    · exact ⟨_, rfl, strOk_app hs (by decide +kernel), by rw [len_app]; exact Nat.le_refl _⟩
    · exact ⟨_, rfl, strOk_cut hs, by omega⟩
    · exact ⟨_, rfl, strOk_app hs (by decide +kernel), by rw [len_app]; exact Nat.le_refl _⟩
    · exact ⟨_, rfl, strOk_app hs (by decide +kernel), by rw [len_app]; exact Nat.le_refl _⟩
    · exact ⟨_, rfl, strOk_cut hs, by omega⟩
  obtain ⟨z, ea, h1, h2⟩ := h
  refine ⟨z, y, ?_, h1, h2⟩
  have l1 : ("a" : Str).length = 1 := rfl
  have l2 : ("A" : Str).length = 1 := rfl
  have l3 : (" " : Str).length = 1 := rfl
  have f1 : s.length + 1 ≤ 16777216 := by omega
  have f2 : s.length ≤ 16777216 := by omega
  unfold b5
  simp [exS, prep_fidx, tst_fidx, prep_sset, tst_sset, prep_lset, tst_lset, prep_rev, tst_rev, prep_idx, tst_idx, ev, evDs, evAs, evO, evC, evI, evPs, prep_dget, tst_dget, prep_loc, prep_con, prep_glo, prep_tup, prep_lst, prep_bin, prep_neg, prep_not, prep_cmp, prep_cmp2, prep_isN, prep_notN, prep_and, prep_or, prep_ife, prep_sub, prep_slc, prep_call, prep_bi, prep_isi, prep_lrg1, prep_lrg2, prep_lc, tst_loc, tst_con, tst_glo, tst_tup, tst_lst, tst_bin, tst_neg, tst_not, tst_cmp, tst_cmp2, tst_isN, tst_notN, tst_and, tst_or, tst_ife, tst_sub, tst_slc, tst_call, tst_bi, tst_isi, tst_lrg1, tst_lrg2, tst_lc, evLoc, frz, rd, putO, loS, unS, kill, Res.bind, Res.st, ofO, AV.val, Sl.get, Sl.put, vals, binF, biF, cmpF, eqF, truF, isiF, ixF, cutF, setF, appF, augF, retLoc, items, litems, noneB, asB, O.toD, O.own, SR.sat_nx, SR.sat_rt, SR.sat_bk, SR.sat_ct, SR.sat_map, SR.sat_seq, sat_ite, Res.sat_ok, sat_cons, sat_nil, sat_kil, lend, called, back, hide, unhide, fins, wee, fits, e, ea, l1, l2, l3, f1, f2]
/-- a tuple that is not empty -/
theorem tail2_run (D : DrawsF Φ fd) (x : P5) (t : Int) {ds : List PyData} (hne : ds ≠ []) (B : Nat) (hl : leafsB B ds = true) (hz : szs ds ≤ 1000000) :
    ∃ o y r, exSs Φ (bTail2 fd) [.pa (.ls (pl x)), .pa (.fz (.tuple ds)), .lo (.fz (.int t)), .un, .un, .un] = .rt o (.pa (.ls (pl y)) :: .pa (.fz (.tuple ds)) :: r) ∧ Bnt B (.tuple ds) o := by
  have hlen := szs_len ds
  have hpos : 0 < ds.length := List.length_pos_iff.mpr hne
  obtain ⟨i, y, e, g0, g1⟩ := D x ds.length (by omega) (by omega)
  obtain ⟨p, u, q, hds, hi⟩ := mid_of g0 g1
  have hu : u ∈ ds := by rw [hds]; simp
  have hb := leafs_iff.mp hl
  have ea : L2.atI ds i = some u := by rw [hds, hi]; exact at_mid p u q
  have c1 : cutL ds none (some i) = p := by rw [hds]; exact cut_pre hi
  have c2 : cutL ds (some (i + 1)) none = q := by rw [hds, hi]; exact cut_post1
  have c3 : cutL ds (some i) none = u :: q := by rw [hds]; exact cut_post hi
  have lp : p.length + (q.length + 1) = ds.length := by rw [hds]; simp
  have sp : szs p + (sz u + 1 + szs q) = szs ds := by rw [hds, szs_app, szs]
  have dp : ∀ d ∈ ds, d.depth ≤ PyData.depthAll ds := depths_iff.mp (Nat.le_refl _)
  have pm : ∀ d ∈ p, d ∈ ds := fun d h => by rw [hds]; simp [h]
  have qm : ∀ d ∈ q, d ∈ ds := fun d h => by rw [hds]; simp [h]
  have h3 : ev Φ (bAt fd) [.pa (.ls (pl x)), .pa (.fz (.tuple ds)), .lo (.fz (.int t)), .un, .un, .un] = .ok (.fz (.int i)) [.pa (.ls (pl y)), .pa (.fz (.tuple ds)), .lo (.fz (.int t)), .un, .un, .un] := by
    unfold bAt; simp [exS, prep_fidx, tst_fidx, prep_sset, tst_sset, prep_lset, tst_lset, prep_rev, tst_rev, prep_idx, tst_idx, ev, evDs, evAs, evO, evC, evI, evPs, prep_dget, tst_dget, prep_loc, prep_con, prep_glo, prep_tup, prep_lst, prep_bin, prep_neg, prep_not, prep_cmp, prep_cmp2, prep_isN, prep_notN, prep_and, prep_or, prep_ife, prep_sub, prep_slc, prep_call, prep_bi, prep_isi, prep_lrg1, prep_lrg2, prep_lc, tst_loc, tst_con, tst_glo, tst_tup, tst_lst, tst_bin, tst_neg, tst_not, tst_cmp, tst_cmp2, tst_isN, tst_notN, tst_and, tst_or, tst_ife, tst_sub, tst_slc, tst_call, tst_bi, tst_isi, tst_lrg1, tst_lrg2, tst_lc, evLoc, frz, rd, putO, loS, unS, kill, Res.bind, Res.st, ofO, AV.val, Sl.get, Sl.put, vals, binF, biF, cmpF, eqF, truF, isiF, ixF, cutF, setF, appF, augF, retLoc, items, litems, noneB, asB, O.toD, O.own, SR.sat_nx, SR.sat_rt, SR.sat_bk, SR.sat_ct, SR.sat_map, SR.sat_seq, sat_ite, Res.sat_ok, sat_cons, sat_nil, sat_kil, lend, called, back, hide, unhide, fins, wee, fits, e]
  unfold bTail2
  rw [asg_cons h3]
  show ∃ o y r, exSs Φ _ [.pa (.ls (pl _)), .pa (.fz (.tuple ds)), .lo (.fz (.int t)), .lo (.fz (.int i)), .un, .un] = _ ∧ _
  have t1 : tst (.cmp .lt (.loc 2) (.con (.int 3))) (ev Φ (.cmp .lt (.loc 2) (.con (.int 3)))) [.pa (.ls (pl y)), .pa (.fz (.tuple ds)), .lo (.fz (.int t)), .lo (.fz (.int i)), .un, .un] = .ok (decide (t < 3)) [.pa (.ls (pl y)), .pa (.fz (.tuple ds)), .lo (.fz (.int t)), .lo (.fz (.int i)), .un, .un] := by simp [exS, prep_fidx, tst_fidx, prep_sset, tst_sset, prep_lset, tst_lset, prep_rev, tst_rev, prep_idx, tst_idx, ev, evDs, evAs, evO, evC, evI, evPs, prep_dget, tst_dget, prep_loc, prep_con, prep_glo, prep_tup, prep_lst, prep_bin, prep_neg, prep_not, prep_cmp, prep_cmp2, prep_isN, prep_notN, prep_and, prep_or, prep_ife, prep_sub, prep_slc, prep_call, prep_bi, prep_isi, prep_lrg1, prep_lrg2, prep_lc, tst_loc, tst_con, tst_glo, tst_tup, tst_lst, tst_bin, tst_neg, tst_not, tst_cmp, tst_cmp2, tst_isN, tst_notN, tst_and, tst_or, tst_ife, tst_sub, tst_slc, tst_call, tst_bi, tst_isi, tst_lrg1, tst_lrg2, tst_lc, evLoc, frz, rd, putO, loS, unS, kill, Res.bind, Res.st, ofO, AV.val, Sl.get, Sl.put, vals, binF, biF, cmpF, eqF, truF, isiF, ixF, cutF, setF, appF, augF, retLoc, items, litems, noneB, asB, O.toD, O.own, SR.sat_nx, SR.sat_rt, SR.sat_bk, SR.sat_ct, SR.sat_map, SR.sat_seq, sat_ite, Res.sat_ok, sat_cons, sat_nil, sat_kil, lend, called, back, hide, unhide, fins, wee, fits]
  have t2 : tst (.cmp .lt (.loc 2) (.con (.int 5))) (ev Φ (.cmp .lt (.loc 2) (.con (.int 5)))) [.pa (.ls (pl y)), .pa (.fz (.tuple ds)), .lo (.fz (.int t)), .lo (.fz (.int i)), .un, .un] = .ok (decide (t < 5)) [.pa (.ls (pl y)), .pa (.fz (.tuple ds)), .lo (.fz (.int t)), .lo (.fz (.int i)), .un, .un] := by simp [exS, prep_fidx, tst_fidx, prep_sset, tst_sset, prep_lset, tst_lset, prep_rev, tst_rev, prep_idx, tst_idx, ev, evDs, evAs, evO, evC, evI, evPs, prep_dget, tst_dget, prep_loc, prep_con, prep_glo, prep_tup, prep_lst, prep_bin, prep_neg, prep_not, prep_cmp, prep_cmp2, prep_isN, prep_notN, prep_and, prep_or, prep_ife, prep_sub, prep_slc, prep_call, prep_bi, prep_isi, prep_lrg1, prep_lrg2, prep_lc, tst_loc, tst_con, tst_glo, tst_tup, tst_lst, tst_bin, tst_neg, tst_not, tst_cmp, tst_cmp2, tst_isN, tst_notN, tst_and, tst_or, tst_ife, tst_sub, tst_slc, tst_call, tst_bi, tst_isi, tst_lrg1, tst_lrg2, tst_lc, evLoc, frz, rd, putO, loS, unS, kill, Res.bind, Res.st, ofO, AV.val, Sl.get, Sl.put, vals, binF, biF, cmpF, eqF, truF, isiF, ixF, cutF, setF, appF, augF, retLoc, items, litems, noneB, asB, O.toD, O.own, SR.sat_nx, SR.sat_rt, SR.sat_bk, SR.sat_ct, SR.sat_map, SR.sat_seq, sat_ite, Res.sat_ok, sat_cons, sat_nil, sat_kil, lend, called, back, hide, unhide, fins, wee, fits]
  have t3 : tst (.cmp .eq (.loc 2) (.con (.int 5))) (ev Φ (.cmp .eq (.loc 2) (.con (.int 5)))) [.pa (.ls (pl y)), .pa (.fz (.tuple ds)), .lo (.fz (.int t)), .lo (.fz (.int i)), .un, .un] = .ok (t == 5) [.pa (.ls (pl y)), .pa (.fz (.tuple ds)), .lo (.fz (.int t)), .lo (.fz (.int i)), .un, .un] := by simp [exS, prep_fidx, tst_fidx, prep_sset, tst_sset, prep_lset, tst_lset, prep_rev, tst_rev, prep_idx, tst_idx, ev, evDs, evAs, evO, evC, evI, evPs, prep_dget, tst_dget, prep_loc, prep_con, prep_glo, prep_tup, prep_lst, prep_bin, prep_neg, prep_not, prep_cmp, prep_cmp2, prep_isN, prep_notN, prep_and, prep_or, prep_ife, prep_sub, prep_slc, prep_call, prep_bi, prep_isi, prep_lrg1, prep_lrg2, prep_lc, tst_loc, tst_con, tst_glo, tst_tup, tst_lst, tst_bin, tst_neg, tst_not, tst_cmp, tst_cmp2, tst_isN, tst_notN, tst_and, tst_or, tst_ife, tst_sub, tst_slc, tst_call, tst_bi, tst_isi, tst_lrg1, tst_lrg2, tst_lc, evLoc, frz, rd, putO, loS, unS, kill, Res.bind, Res.st, ofO, AV.val, Sl.get, Sl.put, vals, binF, biF, cmpF, eqF, truF, isiF, ixF, cutF, setF, appF, augF, retLoc, items, litems, noneB, asB, O.toD, O.own, SR.sat_nx, SR.sat_rt, SR.sat_bk, SR.sat_ct, SR.sat_map, SR.sat_seq, sat_ite, Res.sat_ok, sat_cons, sat_nil, sat_kil, lend, called, back, hide, unhide, fins, wee, fits, sh_int, eqv_int]
  have pf : ∀ ws : List PyData, (∀ d ∈ ws, d ∈ ds) → leafsB (B + 3) ws = true := fun ws h => leafsB_mono (by omega) (leafs_iff.mpr fun d hd => hb d (h d hd))
  have pd : ∀ ws : List PyData, (∀ d ∈ ws, d ∈ ds) → PyData.depthAll ws ≤ PyData.depthAll ds := fun ws h => depths_iff.mpr fun d hd => dp d (h d hd)
  by_cases k1 : t < 3
  · rw [decide_eq_true k1] at t1
    refine ⟨.fz (.tuple (p ++ q)), y, [.lo (.fz (.int t)), .lo (.fz (.int i)), .un, .un], iff_yes t1 (ret_ev (fun _ z => nomatch z) ?_), ⟨pf _ fun d h => (List.mem_append.mp h).elim (pm d) (qm d), ?_, ?_, fun _ z => nomatch z⟩⟩
    · have f1 : p.length + q.length ≤ 16777216 := by omega
      unfold bCut; simp [exS, prep_fidx, tst_fidx, prep_sset, tst_sset, prep_lset, tst_lset, prep_rev, tst_rev, prep_idx, tst_idx, ev, evDs, evAs, evO, evC, evI, evPs, prep_dget, tst_dget, prep_loc, prep_con, prep_glo, prep_tup, prep_lst, prep_bin, prep_neg, prep_not, prep_cmp, prep_cmp2, prep_isN, prep_notN, prep_and, prep_or, prep_ife, prep_sub, prep_slc, prep_call, prep_bi, prep_isi, prep_lrg1, prep_lrg2, prep_lc, tst_loc, tst_con, tst_glo, tst_tup, tst_lst, tst_bin, tst_neg, tst_not, tst_cmp, tst_cmp2, tst_isN, tst_notN, tst_and, tst_or, tst_ife, tst_sub, tst_slc, tst_call, tst_bi, tst_isi, tst_lrg1, tst_lrg2, tst_lc, evLoc, frz, rd, putO, loS, unS, kill, Res.bind, Res.st, ofO, AV.val, Sl.get, Sl.put, vals, binF, biF, cmpF, eqF, truF, isiF, ixF, cutF, setF, appF, augF, retLoc, items, litems, noneB, asB, O.toD, O.own, SR.sat_nx, SR.sat_rt, SR.sat_bk, SR.sat_ct, SR.sat_map, SR.sat_seq, sat_ite, Res.sat_ok, sat_cons, sat_nil, sat_kil, lend, called, back, hide, unhide, fins, wee, fits, c1, c2, f1]
    · show szs (p ++ q) + 41 ≤ 3 * (szs ds + 41) + 200
      rw [szs_app]; omega
    · show PyData.depthAll (p ++ q) + 1 ≤ PyData.depthAll ds + 1 + 1
      have := pd (p ++ q) fun d h => (List.mem_append.mp h).elim (pm d) (qm d)
      omega
  rw [decide_eq_false k1] at t1
  rw [iff_no t1]
  · by_cases k2 : t < 5
    · rw [decide_eq_true k2] at t2
      have hm : ∀ d ∈ p ++ (u :: u :: q), d ∈ ds := fun d h => by
        rcases List.mem_append.mp h with h | h  -- gw
        · exact pm d h
        · rcases List.mem_cons.mp h with rfl | h  -- gw
          · exact hu
          · rcases List.mem_cons.mp h with rfl | h  -- gw
            · exact hu
            · exact qm d h
      refine ⟨.fz (.tuple (p ++ (u :: u :: q))), y, [.lo (.fz (.int t)), .lo (.fz (.int i)), .un, .un], iff_yes t2 (ret_ev (fun _ z => nomatch z) ?_), ⟨pf _ hm, ?_, ?_, fun _ z => nomatch z⟩⟩
      · have f1 : p.length + 1 ≤ 16777216 := by omega
        have f2 : p.length + 1 + (q.length + 1) ≤ 16777216 := by omega
        unfold bDup; simp [exS, prep_fidx, tst_fidx, prep_sset, tst_sset, prep_lset, tst_lset, prep_rev, tst_rev, prep_idx, tst_idx, ev, evDs, evAs, evO, evC, evI, evPs, prep_dget, tst_dget, prep_loc, prep_con, prep_glo, prep_tup, prep_lst, prep_bin, prep_neg, prep_not, prep_cmp, prep_cmp2, prep_isN, prep_notN, prep_and, prep_or, prep_ife, prep_sub, prep_slc, prep_call, prep_bi, prep_isi, prep_lrg1, prep_lrg2, prep_lc, tst_loc, tst_con, tst_glo, tst_tup, tst_lst, tst_bin, tst_neg, tst_not, tst_cmp, tst_cmp2, tst_isN, tst_notN, tst_and, tst_or, tst_ife, tst_sub, tst_slc, tst_call, tst_bi, tst_isi, tst_lrg1, tst_lrg2, tst_lc, evLoc, frz, rd, putO, loS, unS, kill, Res.bind, Res.st, ofO, AV.val, Sl.get, Sl.put, vals, binF, biF, cmpF, eqF, truF, isiF, ixF, cutF, setF, appF, augF, retLoc, items, litems, noneB, asB, O.toD, O.own, SR.sat_nx, SR.sat_rt, SR.sat_bk, SR.sat_ct, SR.sat_map, SR.sat_seq, sat_ite, Res.sat_ok, sat_cons, sat_nil, sat_kil, lend, called, back, hide, unhide, fins, wee, fits, c1, c3, ea, f1, f2]
      · show szs (p ++ (u :: u :: q)) + 41 ≤ 3 * (szs ds + 41) + 200
        rw [szs_app, szs, szs]; omega
      · show PyData.depthAll (p ++ (u :: u :: q)) + 1 ≤ PyData.depthAll ds + 1 + 1
        have := pd _ hm
        omega
    rw [decide_eq_false k2] at t2
    rw [iff_no t2]
    · by_cases k3 : t = 5
      · subst k3
        refine ⟨.ls ds, y, [.lo (.fz (.int 5)), .lo (.fz (.int i)), .un, .un], iff_yes t3 (ret_ev (fun _ z => nomatch z) ?_), ⟨pf _ fun d h => h, ?_, ?_, fun _ z => nomatch z⟩⟩
        · simp [exS, prep_fidx, tst_fidx, prep_sset, tst_sset, prep_lset, tst_lset, prep_rev, tst_rev, prep_idx, tst_idx, ev, evDs, evAs, evO, evC, evI, evPs, prep_dget, tst_dget, prep_loc, prep_con, prep_glo, prep_tup, prep_lst, prep_bin, prep_neg, prep_not, prep_cmp, prep_cmp2, prep_isN, prep_notN, prep_and, prep_or, prep_ife, prep_sub, prep_slc, prep_call, prep_bi, prep_isi, prep_lrg1, prep_lrg2, prep_lc, tst_loc, tst_con, tst_glo, tst_tup, tst_lst, tst_bin, tst_neg, tst_not, tst_cmp, tst_cmp2, tst_isN, tst_notN, tst_and, tst_or, tst_ife, tst_sub, tst_slc, tst_call, tst_bi, tst_isi, tst_lrg1, tst_lrg2, tst_lc, evLoc, frz, rd, putO, loS, unS, kill, Res.bind, Res.st, ofO, AV.val, Sl.get, Sl.put, vals, binF, biF, cmpF, eqF, truF, isiF, ixF, cutF, setF, appF, augF, retLoc, items, litems, noneB, asB, O.toD, O.own, SR.sat_nx, SR.sat_rt, SR.sat_bk, SR.sat_ct, SR.sat_map, SR.sat_seq, sat_ite, Res.sat_ok, sat_cons, sat_nil, sat_kil, lend, called, back, hide, unhide, fins, wee, fits]
        · show szs ds + 41 ≤ 3 * (szs ds + 41) + 200
          omega
        · show PyData.depthAll ds + 1 ≤ PyData.depthAll ds + 1 + 1
          omega
      rw [beq_eq_false_iff_ne.mpr k3] at t3
      rw [iff_no t3]
      · obtain ⟨j, z, e2, g2, g3⟩ := D y ds.length (by omega) (by omega)
        obtain ⟨p2, v, q2, hds2, hj⟩ := mid_of g2 g3
        have hv : v ∈ ds := by rw [hds2]; simp
        have eb : L2.atI ds j = some v := by rw [hds2, hj]; exact at_mid p2 v q2
        have h4 : ev Φ (bAt fd) [.pa (.ls (pl y)), .pa (.fz (.tuple ds)), .lo (.fz (.int t)), .lo (.fz (.int i)), .un, .un] = .ok (.fz (.int j)) [.pa (.ls (pl z)), .pa (.fz (.tuple ds)), .lo (.fz (.int t)), .lo (.fz (.int i)), .un, .un] := by
          unfold bAt; simp [exS, prep_fidx, tst_fidx, prep_sset, tst_sset, prep_lset, tst_lset, prep_rev, tst_rev, prep_idx, tst_idx, ev, evDs, evAs, evO, evC, evI, evPs, prep_dget, tst_dget, prep_loc, prep_con, prep_glo, prep_tup, prep_lst, prep_bin, prep_neg, prep_not, prep_cmp, prep_cmp2, prep_isN, prep_notN, prep_and, prep_or, prep_ife, prep_sub, prep_slc, prep_call, prep_bi, prep_isi, prep_lrg1, prep_lrg2, prep_lc, tst_loc, tst_con, tst_glo, tst_tup, tst_lst, tst_bin, tst_neg, tst_not, tst_cmp, tst_cmp2, tst_isN, tst_notN, tst_and, tst_or, tst_ife, tst_sub, tst_slc, tst_call, tst_bi, tst_isi, tst_lrg1, tst_lrg2, tst_lc, evLoc, frz, rd, putO, loS, unS, kill, Res.bind, Res.st, ofO, AV.val, Sl.get, Sl.put, vals, binF, biF, cmpF, eqF, truF, isiF, ixF, cutF, setF, appF, augF, retLoc, items, litems, noneB, asB, O.toD, O.own, SR.sat_nx, SR.sat_rt, SR.sat_bk, SR.sat_ct, SR.sat_map, SR.sat_seq, sat_ite, Res.sat_ok, sat_cons, sat_nil, sat_kil, lend, called, back, hide, unhide, fins, wee, fits, e2]
        have n1 : L2.ixN ds.length i = some i.toNat := by unfold L2.ixN; rw [if_pos g0, if_pos (by omega)]
        have n2 : L2.ixN ds.length j = some j.toNat := by unfold L2.ixN; rw [if_pos g2, if_pos (by omega)]
        have h5 : ev Φ (.bi .list (.cons (.loc 1) .nil)) [.pa (.ls (pl z)), .pa (.fz (.tuple ds)), .lo (.fz (.int t)), .lo (.fz (.int i)), .lo (.fz (.int j)), .un] = .ok (.ls ds) [.pa (.ls (pl z)), .pa (.fz (.tuple ds)), .lo (.fz (.int t)), .lo (.fz (.int i)), .lo (.fz (.int j)), .un] := by simp [exS, prep_fidx, tst_fidx, prep_sset, tst_sset, prep_lset, tst_lset, prep_rev, tst_rev, prep_idx, tst_idx, ev, evDs, evAs, evO, evC, evI, evPs, prep_dget, tst_dget, prep_loc, prep_con, prep_glo, prep_tup, prep_lst, prep_bin, prep_neg, prep_not, prep_cmp, prep_cmp2, prep_isN, prep_notN, prep_and, prep_or, prep_ife, prep_sub, prep_slc, prep_call, prep_bi, prep_isi, prep_lrg1, prep_lrg2, prep_lc, tst_loc, tst_con, tst_glo, tst_tup, tst_lst, tst_bin, tst_neg, tst_not, tst_cmp, tst_cmp2, tst_isN, tst_notN, tst_and, tst_or, tst_ife, tst_sub, tst_slc, tst_call, tst_bi, tst_isi, tst_lrg1, tst_lrg2, tst_lc, evLoc, frz, rd, putO, loS, unS, kill, Res.bind, Res.st, ofO, AV.val, Sl.get, Sl.put, vals, binF, biF, cmpF, eqF, truF, isiF, ixF, cutF, setF, appF, augF, retLoc, items, litems, noneB, asB, O.toD, O.own, SR.sat_nx, SR.sat_rt, SR.sat_bk, SR.sat_ct, SR.sat_map, SR.sat_seq, sat_ite, Res.sat_ok, sat_cons, sat_nil, sat_kil, lend, called, back, hide, unhide, fins, wee, fits]
        have hm : ∀ d ∈ (ds.set i.toNat v).set j.toNat u, d ∈ ds := fun d h => by
          rcases List.mem_or_eq_of_mem_set h with h | h
          · rcases List.mem_or_eq_of_mem_set h with h | h
            · exact h
            · rw [h]; exact hv
          · rw [h]; exact hu
        refine ⟨.fz (.tuple ((ds.set i.toNat v).set j.toNat u)), z, [.lo (.fz (.int t)), .lo (.fz (.int i)), .lo (.fz (.int j)), .lo (.ls ((ds.set i.toNat v).set j.toNat u))], ?_, ⟨pf _ hm, ?_, ?_, fun _ z => nomatch z⟩⟩
        · rw [asg_cons h4]
          show exSs Φ _ [.pa (.ls (pl z)), .pa (.fz (.tuple ds)), .lo (.fz (.int t)), .lo (.fz (.int i)), .lo (.fz (.int j)), .un] = _
          rw [asg_cons h5]
          show exSs Φ _ [.pa (.ls (pl z)), .pa (.fz (.tuple ds)), .lo (.fz (.int t)), .lo (.fz (.int i)), .lo (.fz (.int j)), .lo (.ls ds)] = _
          simp [exS, prep_fidx, tst_fidx, prep_sset, tst_sset, prep_lset, tst_lset, prep_rev, tst_rev, prep_idx, tst_idx, ev, evDs, evAs, evO, evC, evI, evPs, prep_dget, tst_dget, prep_loc, prep_con, prep_glo, prep_tup, prep_lst, prep_bin, prep_neg, prep_not, prep_cmp, prep_cmp2, prep_isN, prep_notN, prep_and, prep_or, prep_ife, prep_sub, prep_slc, prep_call, prep_bi, prep_isi, prep_lrg1, prep_lrg2, prep_lc, tst_loc, tst_con, tst_glo, tst_tup, tst_lst, tst_bin, tst_neg, tst_not, tst_cmp, tst_cmp2, tst_isN, tst_notN, tst_and, tst_or, tst_ife, tst_sub, tst_slc, tst_call, tst_bi, tst_isi, tst_lrg1, tst_lrg2, tst_lc, evLoc, frz, rd, putO, loS, unS, kill, Res.bind, Res.st, ofO, AV.val, Sl.get, Sl.put, vals, binF, biF, cmpF, eqF, truF, isiF, ixF, cutF, setF, appF, augF, retLoc, items, litems, noneB, asB, O.toD, O.own, SR.sat_nx, SR.sat_rt, SR.sat_bk, SR.sat_ct, SR.sat_map, SR.sat_seq, sat_ite, Res.sat_ok, sat_cons, sat_nil, sat_kil, lend, called, back, hide, unhide, fins, wee, fits, exSs_cons, exSs_nil, seq_nx, seq_rt, ea, eb, n1, n2]
        · show szs ((ds.set i.toNat v).set j.toNat u) + 41 ≤ 3 * (szs ds + 41) + 200
          have a1 := szs_set (ds.set i.toNat v) j.toNat u
          have a2 := szs_set ds i.toNat v
          have a3 := szs_mem hu
          have a4 := szs_mem hv
          omega
        · show PyData.depthAll ((ds.set i.toNat v).set j.toNat u) + 1 ≤ PyData.depthAll ds + 1 + 1
          have := pd _ hm
          omega
end
end GW

/-! GW, part 23: bent copies, all of them. -/
namespace GW
open PySem
theorem leaf_nodc {B : Nat} {d : PyData} (h : leafB B d = true) : noDc d = true := by
  cases d <;> first | rfl | exact Bool.noConfusion h
section
variable {Φ : Nat → List O → CR} {fd fi fb : Nat}
theorem tail_run (D : DrawsF Φ fd) (I : IsiF Φ fi) (x : P5) {d : PyData} (B : Nat) (hl : leafB B d = true) (hz : sz d ≤ 1000000) :
    ∃ o y r, exSs Φ (bTail fd fi) [.pa (.ls (pl x)), .pa (.fz d), .un, .un, .un, .un] = .rt o (.pa (.ls (pl y)) :: .pa (.fz d) :: r) ∧ Bnt B d o := by
  obtain ⟨t, y, e, g0, g1⟩ := D x 9 (by decide) (by decide)
  have h2 : ev Φ (.call fd (.cons (.loc 0) (.cons (.con (.int 9)) .nil))) [.pa (.ls (pl x)), .pa (.fz d), .un, .un, .un, .un] = .ok (.fz (.int t)) [.pa (.ls (pl y)), .pa (.fz d), .un, .un, .un, .un] := by simp [exS, prep_fidx, tst_fidx, prep_sset, tst_sset, prep_lset, tst_lset, prep_rev, tst_rev, prep_idx, tst_idx, ev, evDs, evAs, evO, evC, evI, evPs, prep_dget, tst_dget, prep_loc, prep_con, prep_glo, prep_tup, prep_lst, prep_bin, prep_neg, prep_not, prep_cmp, prep_cmp2, prep_isN, prep_notN, prep_and, prep_or, prep_ife, prep_sub, prep_slc, prep_call, prep_bi, prep_isi, prep_lrg1, prep_lrg2, prep_lc, tst_loc, tst_con, tst_glo, tst_tup, tst_lst, tst_bin, tst_neg, tst_not, tst_cmp, tst_cmp2, tst_isN, tst_notN, tst_and, tst_or, tst_ife, tst_sub, tst_slc, tst_call, tst_bi, tst_isi, tst_lrg1, tst_lrg2, tst_lc, evLoc, frz, rd, putO, loS, unS, kill, Res.bind, Res.st, ofO, AV.val, Sl.get, Sl.put, vals, binF, biF, cmpF, eqF, truF, isiF, ixF, cutF, setF, appF, augF, retLoc, items, litems, noneB, asB, O.toD, O.own, SR.sat_nx, SR.sat_rt, SR.sat_bk, SR.sat_ct, SR.sat_map, SR.sat_seq, sat_ite, Res.sat_ok, sat_cons, sat_nil, sat_kil, lend, called, back, hide, unhide, fins, wee, fits, e]
  unfold bTail
  rw [asg_cons h2]
  show ∃ o y r, exSs Φ _ [.pa (.ls (pl _)), .pa (.fz d), .lo (.fz (.int t)), .un, .un, .un] = _ ∧ _
  have t0 : tst (.cmp .eq (.loc 2) (.con (.int 0))) (ev Φ (.cmp .eq (.loc 2) (.con (.int 0)))) [.pa (.ls (pl y)), .pa (.fz d), .lo (.fz (.int t)), .un, .un, .un] = .ok (t == 0) [.pa (.ls (pl y)), .pa (.fz d), .lo (.fz (.int t)), .un, .un, .un] := by simp [exS, prep_fidx, tst_fidx, prep_sset, tst_sset, prep_lset, tst_lset, prep_rev, tst_rev, prep_idx, tst_idx, ev, evDs, evAs, evO, evC, evI, evPs, prep_dget, tst_dget, prep_loc, prep_con, prep_glo, prep_tup, prep_lst, prep_bin, prep_neg, prep_not, prep_cmp, prep_cmp2, prep_isN, prep_notN, prep_and, prep_or, prep_ife, prep_sub, prep_slc, prep_call, prep_bi, prep_isi, prep_lrg1, prep_lrg2, prep_lc, tst_loc, tst_con, tst_glo, tst_tup, tst_lst, tst_bin, tst_neg, tst_not, tst_cmp, tst_cmp2, tst_isN, tst_notN, tst_and, tst_or, tst_ife, tst_sub, tst_slc, tst_call, tst_bi, tst_isi, tst_lrg1, tst_lrg2, tst_lc, evLoc, frz, rd, putO, loS, unS, kill, Res.bind, Res.st, ofO, AV.val, Sl.get, Sl.put, vals, binF, biF, cmpF, eqF, truF, isiF, ixF, cutF, setF, appF, augF, retLoc, items, litems, noneB, asB, O.toD, O.own, SR.sat_nx, SR.sat_rt, SR.sat_bk, SR.sat_ct, SR.sat_map, SR.sat_seq, sat_ite, Res.sat_ok, sat_cons, sat_nil, sat_kil, lend, called, back, hide, unhide, fins, wee, fits, sh_int, eqv_int]
  by_cases k0 : t = 0
  · rw [beq_iff_eq.mpr k0] at t0
    obtain ⟨u, z, e8, q1, q2, q3⟩ := b8_run D y [.pa (.fz d), .lo (.fz (.int t)), .un, .un, .un]
    refine ⟨.fz u, z, _, iff_yes t0 (ret_ev (fun _ z => nomatch z) e8), ⟨leafB_mono (by omega) q1, ?_, ?_, fun _ z => nomatch z⟩⟩
    · show sz u ≤ _; omega
    · show u.depth ≤ _; omega
  rw [beq_eq_false_iff_ne.mpr k0] at t0
  rw [iff_no t0]
  have i1 := I d (leaf_nodc hl)
  have ti : tst (.call fi (.cons (.loc 1) .nil)) (ev Φ (.call fi (.cons (.loc 1) .nil))) [.pa (.ls (pl y)), .pa (.fz d), .lo (.fz (.int t)), .un, .un, .un] = .ok (isIntF d) [.pa (.ls (pl y)), .pa (.fz d), .lo (.fz (.int t)), .un, .un, .un] := by simp [exS, prep_fidx, tst_fidx, prep_sset, tst_sset, prep_lset, tst_lset, prep_rev, tst_rev, prep_idx, tst_idx, ev, evDs, evAs, evO, evC, evI, evPs, prep_dget, tst_dget, prep_loc, prep_con, prep_glo, prep_tup, prep_lst, prep_bin, prep_neg, prep_not, prep_cmp, prep_cmp2, prep_isN, prep_notN, prep_and, prep_or, prep_ife, prep_sub, prep_slc, prep_call, prep_bi, prep_isi, prep_lrg1, prep_lrg2, prep_lc, tst_loc, tst_con, tst_glo, tst_tup, tst_lst, tst_bin, tst_neg, tst_not, tst_cmp, tst_cmp2, tst_isN, tst_notN, tst_and, tst_or, tst_ife, tst_sub, tst_slc, tst_call, tst_bi, tst_isi, tst_lrg1, tst_lrg2, tst_lc, evLoc, frz, rd, putO, loS, unS, kill, Res.bind, Res.st, ofO, AV.val, Sl.get, Sl.put, vals, binF, biF, cmpF, eqF, truF, isiF, ixF, cutF, setF, appF, augF, retLoc, items, litems, noneB, asB, O.toD, O.own, SR.sat_nx, SR.sat_rt, SR.sat_bk, SR.sat_ct, SR.sat_map, SR.sat_seq, sat_ite, Res.sat_ok, sat_cons, sat_nil, sat_kil, lend, called, back, hide, unhide, fins, wee, fits, i1]
  have wr : ∀ (d : PyData), leafB B d = true → ∃ o, ev Φ bW [.pa (.ls (pl y)), .pa (.fz d), .lo (.fz (.int t)), .un, .un, .un] = .ok o [.pa (.ls (pl y)), .pa (.fz d), .lo (.fz (.int t)), .un, .un, .un] ∧ Bnt B d o := fun d hl => by
    by_cases k5 : t < 5
    · refine ⟨.fz (.tuple [d, .int 0]), ?_, ⟨?_, ?_, ?_, fun _ z => nomatch z⟩⟩
      · unfold bW; simp [exS, prep_fidx, tst_fidx, prep_sset, tst_sset, prep_lset, tst_lset, prep_rev, tst_rev, prep_idx, tst_idx, ev, evDs, evAs, evO, evC, evI, evPs, prep_dget, tst_dget, prep_loc, prep_con, prep_glo, prep_tup, prep_lst, prep_bin, prep_neg, prep_not, prep_cmp, prep_cmp2, prep_isN, prep_notN, prep_and, prep_or, prep_ife, prep_sub, prep_slc, prep_call, prep_bi, prep_isi, prep_lrg1, prep_lrg2, prep_lc, tst_loc, tst_con, tst_glo, tst_tup, tst_lst, tst_bin, tst_neg, tst_not, tst_cmp, tst_cmp2, tst_isN, tst_notN, tst_and, tst_or, tst_ife, tst_sub, tst_slc, tst_call, tst_bi, tst_isi, tst_lrg1, tst_lrg2, tst_lc, evLoc, frz, rd, putO, loS, unS, kill, Res.bind, Res.st, ofO, AV.val, Sl.get, Sl.put, vals, binF, biF, cmpF, eqF, truF, isiF, ixF, cutF, setF, appF, augF, retLoc, items, litems, noneB, asB, O.toD, O.own, SR.sat_nx, SR.sat_rt, SR.sat_bk, SR.sat_ct, SR.sat_map, SR.sat_seq, sat_ite, Res.sat_ok, sat_cons, sat_nil, sat_kil, lend, called, back, hide, unhide, fins, wee, fits, k5]
      · show leafsB (B + 3) [d, .int 0] = true
        rw [leafsB, leafB_mono (by omega) hl, leafsB, leafB, leafsB]
        rw [decide_eq_true (by show (0 : Nat) < B + 3; omega)]; rfl
      · show szs [d, .int 0] + 41 ≤ _
        rw [szs, szs, szs, sz]; omega
      · show max d.depth (max 0 0) + 1 ≤ _
        omega
    · refine ⟨.fz (.tuple []), ?_, ⟨rfl, ?_, ?_, fun _ z => nomatch z⟩⟩
      · unfold bW; simp [exS, prep_fidx, tst_fidx, prep_sset, tst_sset, prep_lset, tst_lset, prep_rev, tst_rev, prep_idx, tst_idx, ev, evDs, evAs, evO, evC, evI, evPs, prep_dget, tst_dget, prep_loc, prep_con, prep_glo, prep_tup, prep_lst, prep_bin, prep_neg, prep_not, prep_cmp, prep_cmp2, prep_isN, prep_notN, prep_and, prep_or, prep_ife, prep_sub, prep_slc, prep_call, prep_bi, prep_isi, prep_lrg1, prep_lrg2, prep_lc, tst_loc, tst_con, tst_glo, tst_tup, tst_lst, tst_bin, tst_neg, tst_not, tst_cmp, tst_cmp2, tst_isN, tst_notN, tst_and, tst_or, tst_ife, tst_sub, tst_slc, tst_call, tst_bi, tst_isi, tst_lrg1, tst_lrg2, tst_lc, evLoc, frz, rd, putO, loS, unS, kill, Res.bind, Res.st, ofO, AV.val, Sl.get, Sl.put, vals, binF, biF, cmpF, eqF, truF, isiF, ixF, cutF, setF, appF, augF, retLoc, items, litems, noneB, asB, O.toD, O.own, SR.sat_nx, SR.sat_rt, SR.sat_bk, SR.sat_ct, SR.sat_map, SR.sat_seq, sat_ite, Res.sat_ok, sat_cons, sat_nil, sat_kil, lend, called, back, hide, unhide, fins, wee, fits, k5]
      · show szs [] + 41 ≤ _
        rw [szs]; omega
      · show 0 + 1 ≤ _; omega
  cases d with
  | dict _ => exact Bool.noConfusion hl
  | int i =>
    obtain ⟨k, z, e4, q1, q2⟩ := b4_run D y i [.lo (.fz (.int t)), .un, .un, .un]
    refine ⟨.fz (.int (i + k)), z, _, iff_yes ti (ret_ev (fun _ z => nomatch z) e4), ⟨?_, ?_, ?_, fun _ z => nomatch z⟩⟩
    · have : i.natAbs < B := of_decide_eq_true hl
      show decide ((i + k).natAbs < B + 3) = true
      exact decide_eq_true (by omega)  -- gw
    · show 41 ≤ _; omega
    · show 0 ≤ _; omega
  | str s =>
    rw [iff_no ti]
    have ts : tst (.isi (.loc 1) .tStr) (ev Φ (.isi (.loc 1) .tStr)) [.pa (.ls (pl y)), .pa (.fz (.str s)), .lo (.fz (.int t)), .un, .un, .un] = .ok true [.pa (.ls (pl y)), .pa (.fz (.str s)), .lo (.fz (.int t)), .un, .un, .un] := by simp [exS, prep_fidx, tst_fidx, prep_sset, tst_sset, prep_lset, tst_lset, prep_rev, tst_rev, prep_idx, tst_idx, ev, evDs, evAs, evO, evC, evI, evPs, prep_dget, tst_dget, prep_loc, prep_con, prep_glo, prep_tup, prep_lst, prep_bin, prep_neg, prep_not, prep_cmp, prep_cmp2, prep_isN, prep_notN, prep_and, prep_or, prep_ife, prep_sub, prep_slc, prep_call, prep_bi, prep_isi, prep_lrg1, prep_lrg2, prep_lc, tst_loc, tst_con, tst_glo, tst_tup, tst_lst, tst_bin, tst_neg, tst_not, tst_cmp, tst_cmp2, tst_isN, tst_notN, tst_and, tst_or, tst_ife, tst_sub, tst_slc, tst_call, tst_bi, tst_isi, tst_lrg1, tst_lrg2, tst_lc, evLoc, frz, rd, putO, loS, unS, kill, Res.bind, Res.st, ofO, AV.val, Sl.get, Sl.put, vals, binF, biF, cmpF, eqF, truF, isiF, ixF, cutF, setF, appF, augF, retLoc, items, litems, noneB, asB, O.toD, O.own, SR.sat_nx, SR.sat_rt, SR.sat_bk, SR.sat_ct, SR.sat_map, SR.sat_seq, sat_ite, Res.sat_ok, sat_cons, sat_nil, sat_kil, lend, called, back, hide, unhide, fins, wee, fits]
    rw [sz] at hz
    obtain ⟨u, z, e5, q1, q2⟩ := b5_run D y s hl (by omega) [.lo (.fz (.int t)), .un, .un, .un]
    refine ⟨.fz (.str u), z, _, iff_yes ts (ret_ev (fun _ z => nomatch z) e5), ⟨q1, ?_, ?_, fun _ z => nomatch z⟩⟩
    · show 41 + u.length ≤ 3 * (41 + s.length) + 200; omega
    · show 0 ≤ _; omega
  | none =>
    rw [iff_no ti]
    have ts : tst (.isi (.loc 1) .tStr) (ev Φ (.isi (.loc 1) .tStr)) [.pa (.ls (pl y)), .pa (.fz .none), .lo (.fz (.int t)), .un, .un, .un] = .ok false [.pa (.ls (pl y)), .pa (.fz .none), .lo (.fz (.int t)), .un, .un, .un] := by simp [exS, prep_fidx, tst_fidx, prep_sset, tst_sset, prep_lset, tst_lset, prep_rev, tst_rev, prep_idx, tst_idx, ev, evDs, evAs, evO, evC, evI, evPs, prep_dget, tst_dget, prep_loc, prep_con, prep_glo, prep_tup, prep_lst, prep_bin, prep_neg, prep_not, prep_cmp, prep_cmp2, prep_isN, prep_notN, prep_and, prep_or, prep_ife, prep_sub, prep_slc, prep_call, prep_bi, prep_isi, prep_lrg1, prep_lrg2, prep_lc, tst_loc, tst_con, tst_glo, tst_tup, tst_lst, tst_bin, tst_neg, tst_not, tst_cmp, tst_cmp2, tst_isN, tst_notN, tst_and, tst_or, tst_ife, tst_sub, tst_slc, tst_call, tst_bi, tst_isi, tst_lrg1, tst_lrg2, tst_lc, evLoc, frz, rd, putO, loS, unS, kill, Res.bind, Res.st, ofO, AV.val, Sl.get, Sl.put, vals, binF, biF, cmpF, eqF, truF, isiF, ixF, cutF, setF, appF, augF, retLoc, items, litems, noneB, asB, O.toD, O.own, SR.sat_nx, SR.sat_rt, SR.sat_bk, SR.sat_ct, SR.sat_map, SR.sat_seq, sat_ite, Res.sat_ok, sat_cons, sat_nil, sat_kil, lend, called, back, hide, unhide, fins, wee, fits]
    have tt : tst (.or (.not (.isi (.loc 1) .tTup)) (.cmp .eq (.bi .len (.cons (.loc 1) .nil)) (.con (.int 0)))) (ev Φ (.or (.not (.isi (.loc 1) .tTup)) (.cmp .eq (.bi .len (.cons (.loc 1) .nil)) (.con (.int 0))))) [.pa (.ls (pl y)), .pa (.fz .none), .lo (.fz (.int t)), .un, .un, .un] = .ok true [.pa (.ls (pl y)), .pa (.fz .none), .lo (.fz (.int t)), .un, .un, .un] := by simp [exS, prep_fidx, tst_fidx, prep_sset, tst_sset, prep_lset, tst_lset, prep_rev, tst_rev, prep_idx, tst_idx, ev, evDs, evAs, evO, evC, evI, evPs, prep_dget, tst_dget, prep_loc, prep_con, prep_glo, prep_tup, prep_lst, prep_bin, prep_neg, prep_not, prep_cmp, prep_cmp2, prep_isN, prep_notN, prep_and, prep_or, prep_ife, prep_sub, prep_slc, prep_call, prep_bi, prep_isi, prep_lrg1, prep_lrg2, prep_lc, tst_loc, tst_con, tst_glo, tst_tup, tst_lst, tst_bin, tst_neg, tst_not, tst_cmp, tst_cmp2, tst_isN, tst_notN, tst_and, tst_or, tst_ife, tst_sub, tst_slc, tst_call, tst_bi, tst_isi, tst_lrg1, tst_lrg2, tst_lc, evLoc, frz, rd, putO, loS, unS, kill, Res.bind, Res.st, ofO, AV.val, Sl.get, Sl.put, vals, binF, biF, cmpF, eqF, truF, isiF, ixF, cutF, setF, appF, augF, retLoc, items, litems, noneB, asB, O.toD, O.own, SR.sat_nx, SR.sat_rt, SR.sat_bk, SR.sat_ct, SR.sat_map, SR.sat_seq, sat_ite, Res.sat_ok, sat_cons, sat_nil, sat_kil, lend, called, back, hide, unhide, fins, wee, fits]
    obtain ⟨o, ew, q⟩ := wr _ hl
    rw [iff_no ts]
    exact ⟨o, y, _, iff_yes tt (ret_ev (fun _ z => nomatch z) ew), q⟩
  | bool b =>
    rw [iff_no ti]
    have ts : tst (.isi (.loc 1) .tStr) (ev Φ (.isi (.loc 1) .tStr)) [.pa (.ls (pl y)), .pa (.fz (.bool b)), .lo (.fz (.int t)), .un, .un, .un] = .ok false [.pa (.ls (pl y)), .pa (.fz (.bool b)), .lo (.fz (.int t)), .un, .un, .un] := by simp [exS, prep_fidx, tst_fidx, prep_sset, tst_sset, prep_lset, tst_lset, prep_rev, tst_rev, prep_idx, tst_idx, ev, evDs, evAs, evO, evC, evI, evPs, prep_dget, tst_dget, prep_loc, prep_con, prep_glo, prep_tup, prep_lst, prep_bin, prep_neg, prep_not, prep_cmp, prep_cmp2, prep_isN, prep_notN, prep_and, prep_or, prep_ife, prep_sub, prep_slc, prep_call, prep_bi, prep_isi, prep_lrg1, prep_lrg2, prep_lc, tst_loc, tst_con, tst_glo, tst_tup, tst_lst, tst_bin, tst_neg, tst_not, tst_cmp, tst_cmp2, tst_isN, tst_notN, tst_and, tst_or, tst_ife, tst_sub, tst_slc, tst_call, tst_bi, tst_isi, tst_lrg1, tst_lrg2, tst_lc, evLoc, frz, rd, putO, loS, unS, kill, Res.bind, Res.st, ofO, AV.val, Sl.get, Sl.put, vals, binF, biF, cmpF, eqF, truF, isiF, ixF, cutF, setF, appF, augF, retLoc, items, litems, noneB, asB, O.toD, O.own, SR.sat_nx, SR.sat_rt, SR.sat_bk, SR.sat_ct, SR.sat_map, SR.sat_seq, sat_ite, Res.sat_ok, sat_cons, sat_nil, sat_kil, lend, called, back, hide, unhide, fins, wee, fits]
    have tt : tst (.or (.not (.isi (.loc 1) .tTup)) (.cmp .eq (.bi .len (.cons (.loc 1) .nil)) (.con (.int 0)))) (ev Φ (.or (.not (.isi (.loc 1) .tTup)) (.cmp .eq (.bi .len (.cons (.loc 1) .nil)) (.con (.int 0))))) [.pa (.ls (pl y)), .pa (.fz (.bool b)), .lo (.fz (.int t)), .un, .un, .un] = .ok true [.pa (.ls (pl y)), .pa (.fz (.bool b)), .lo (.fz (.int t)), .un, .un, .un] := by simp [exS, prep_fidx, tst_fidx, prep_sset, tst_sset, prep_lset, tst_lset, prep_rev, tst_rev, prep_idx, tst_idx, ev, evDs, evAs, evO, evC, evI, evPs, prep_dget, tst_dget, prep_loc, prep_con, prep_glo, prep_tup, prep_lst, prep_bin, prep_neg, prep_not, prep_cmp, prep_cmp2, prep_isN, prep_notN, prep_and, prep_or, prep_ife, prep_sub, prep_slc, prep_call, prep_bi, prep_isi, prep_lrg1, prep_lrg2, prep_lc, tst_loc, tst_con, tst_glo, tst_tup, tst_lst, tst_bin, tst_neg, tst_not, tst_cmp, tst_cmp2, tst_isN, tst_notN, tst_and, tst_or, tst_ife, tst_sub, tst_slc, tst_call, tst_bi, tst_isi, tst_lrg1, tst_lrg2, tst_lc, evLoc, frz, rd, putO, loS, unS, kill, Res.bind, Res.st, ofO, AV.val, Sl.get, Sl.put, vals, binF, biF, cmpF, eqF, truF, isiF, ixF, cutF, setF, appF, augF, retLoc, items, litems, noneB, asB, O.toD, O.own, SR.sat_nx, SR.sat_rt, SR.sat_bk, SR.sat_ct, SR.sat_map, SR.sat_seq, sat_ite, Res.sat_ok, sat_cons, sat_nil, sat_kil, lend, called, back, hide, unhide, fins, wee, fits]
    obtain ⟨o, ew, q⟩ := wr _ hl
    rw [iff_no ts]
    exact ⟨o, y, _, iff_yes tt (ret_ev (fun _ z => nomatch z) ew), q⟩
  | list ds =>
    rw [iff_no ti]
    have ts : tst (.isi (.loc 1) .tStr) (ev Φ (.isi (.loc 1) .tStr)) [.pa (.ls (pl y)), .pa (.fz (.list ds)), .lo (.fz (.int t)), .un, .un, .un] = .ok false [.pa (.ls (pl y)), .pa (.fz (.list ds)), .lo (.fz (.int t)), .un, .un, .un] := by simp [exS, prep_fidx, tst_fidx, prep_sset, tst_sset, prep_lset, tst_lset, prep_rev, tst_rev, prep_idx, tst_idx, ev, evDs, evAs, evO, evC, evI, evPs, prep_dget, tst_dget, prep_loc, prep_con, prep_glo, prep_tup, prep_lst, prep_bin, prep_neg, prep_not, prep_cmp, prep_cmp2, prep_isN, prep_notN, prep_and, prep_or, prep_ife, prep_sub, prep_slc, prep_call, prep_bi, prep_isi, prep_lrg1, prep_lrg2, prep_lc, tst_loc, tst_con, tst_glo, tst_tup, tst_lst, tst_bin, tst_neg, tst_not, tst_cmp, tst_cmp2, tst_isN, tst_notN, tst_and, tst_or, tst_ife, tst_sub, tst_slc, tst_call, tst_bi, tst_isi, tst_lrg1, tst_lrg2, tst_lc, evLoc, frz, rd, putO, loS, unS, kill, Res.bind, Res.st, ofO, AV.val, Sl.get, Sl.put, vals, binF, biF, cmpF, eqF, truF, isiF, ixF, cutF, setF, appF, augF, retLoc, items, litems, noneB, asB, O.toD, O.own, SR.sat_nx, SR.sat_rt, SR.sat_bk, SR.sat_ct, SR.sat_map, SR.sat_seq, sat_ite, Res.sat_ok, sat_cons, sat_nil, sat_kil, lend, called, back, hide, unhide, fins, wee, fits]
    have tt : tst (.or (.not (.isi (.loc 1) .tTup)) (.cmp .eq (.bi .len (.cons (.loc 1) .nil)) (.con (.int 0)))) (ev Φ (.or (.not (.isi (.loc 1) .tTup)) (.cmp .eq (.bi .len (.cons (.loc 1) .nil)) (.con (.int 0))))) [.pa (.ls (pl y)), .pa (.fz (.list ds)), .lo (.fz (.int t)), .un, .un, .un] = .ok true [.pa (.ls (pl y)), .pa (.fz (.list ds)), .lo (.fz (.int t)), .un, .un, .un] := by simp [exS, prep_fidx, tst_fidx, prep_sset, tst_sset, prep_lset, tst_lset, prep_rev, tst_rev, prep_idx, tst_idx, ev, evDs, evAs, evO, evC, evI, evPs, prep_dget, tst_dget, prep_loc, prep_con, prep_glo, prep_tup, prep_lst, prep_bin, prep_neg, prep_not, prep_cmp, prep_cmp2, prep_isN, prep_notN, prep_and, prep_or, prep_ife, prep_sub, prep_slc, prep_call, prep_bi, prep_isi, prep_lrg1, prep_lrg2, prep_lc, tst_loc, tst_con, tst_glo, tst_tup, tst_lst, tst_bin, tst_neg, tst_not, tst_cmp, tst_cmp2, tst_isN, tst_notN, tst_and, tst_or, tst_ife, tst_sub, tst_slc, tst_call, tst_bi, tst_isi, tst_lrg1, tst_lrg2, tst_lc, evLoc, frz, rd, putO, loS, unS, kill, Res.bind, Res.st, ofO, AV.val, Sl.get, Sl.put, vals, binF, biF, cmpF, eqF, truF, isiF, ixF, cutF, setF, appF, augF, retLoc, items, litems, noneB, asB, O.toD, O.own, SR.sat_nx, SR.sat_rt, SR.sat_bk, SR.sat_ct, SR.sat_map, SR.sat_seq, sat_ite, Res.sat_ok, sat_cons, sat_nil, sat_kil, lend, called, back, hide, unhide, fins, wee, fits]
    obtain ⟨o, ew, q⟩ := wr _ hl
    rw [iff_no ts]
    exact ⟨o, y, _, iff_yes tt (ret_ev (fun _ z => nomatch z) ew), q⟩
  | tuple ds =>
    rw [iff_no ti]
    have ts : tst (.isi (.loc 1) .tStr) (ev Φ (.isi (.loc 1) .tStr)) [.pa (.ls (pl y)), .pa (.fz (.tuple ds)), .lo (.fz (.int t)), .un, .un, .un] = .ok false [.pa (.ls (pl y)), .pa (.fz (.tuple ds)), .lo (.fz (.int t)), .un, .un, .un] := by simp [exS, prep_fidx, tst_fidx, prep_sset, tst_sset, prep_lset, tst_lset, prep_rev, tst_rev, prep_idx, tst_idx, ev, evDs, evAs, evO, evC, evI, evPs, prep_dget, tst_dget, prep_loc, prep_con, prep_glo, prep_tup, prep_lst, prep_bin, prep_neg, prep_not, prep_cmp, prep_cmp2, prep_isN, prep_notN, prep_and, prep_or, prep_ife, prep_sub, prep_slc, prep_call, prep_bi, prep_isi, prep_lrg1, prep_lrg2, prep_lc, tst_loc, tst_con, tst_glo, tst_tup, tst_lst, tst_bin, tst_neg, tst_not, tst_cmp, tst_cmp2, tst_isN, tst_notN, tst_and, tst_or, tst_ife, tst_sub, tst_slc, tst_call, tst_bi, tst_isi, tst_lrg1, tst_lrg2, tst_lc, evLoc, frz, rd, putO, loS, unS, kill, Res.bind, Res.st, ofO, AV.val, Sl.get, Sl.put, vals, binF, biF, cmpF, eqF, truF, isiF, ixF, cutF, setF, appF, augF, retLoc, items, litems, noneB, asB, O.toD, O.own, SR.sat_nx, SR.sat_rt, SR.sat_bk, SR.sat_ct, SR.sat_map, SR.sat_seq, sat_ite, Res.sat_ok, sat_cons, sat_nil, sat_kil, lend, called, back, hide, unhide, fins, wee, fits]
    have tt : tst (.or (.not (.isi (.loc 1) .tTup)) (.cmp .eq (.bi .len (.cons (.loc 1) .nil)) (.con (.int 0)))) (ev Φ (.or (.not (.isi (.loc 1) .tTup)) (.cmp .eq (.bi .len (.cons (.loc 1) .nil)) (.con (.int 0))))) [.pa (.ls (pl y)), .pa (.fz (.tuple ds)), .lo (.fz (.int t)), .un, .un, .un] = .ok ((ds.length : Int) == 0) [.pa (.ls (pl y)), .pa (.fz (.tuple ds)), .lo (.fz (.int t)), .un, .un, .un] := by simp [exS, prep_fidx, tst_fidx, prep_sset, tst_sset, prep_lset, tst_lset, prep_rev, tst_rev, prep_idx, tst_idx, ev, evDs, evAs, evO, evC, evI, evPs, prep_dget, tst_dget, prep_loc, prep_con, prep_glo, prep_tup, prep_lst, prep_bin, prep_neg, prep_not, prep_cmp, prep_cmp2, prep_isN, prep_notN, prep_and, prep_or, prep_ife, prep_sub, prep_slc, prep_call, prep_bi, prep_isi, prep_lrg1, prep_lrg2, prep_lc, tst_loc, tst_con, tst_glo, tst_tup, tst_lst, tst_bin, tst_neg, tst_not, tst_cmp, tst_cmp2, tst_isN, tst_notN, tst_and, tst_or, tst_ife, tst_sub, tst_slc, tst_call, tst_bi, tst_isi, tst_lrg1, tst_lrg2, tst_lc, evLoc, frz, rd, putO, loS, unS, kill, Res.bind, Res.st, ofO, AV.val, Sl.get, Sl.put, vals, binF, biF, cmpF, eqF, truF, isiF, ixF, cutF, setF, appF, augF, retLoc, items, litems, noneB, asB, O.toD, O.own, SR.sat_nx, SR.sat_rt, SR.sat_bk, SR.sat_ct, SR.sat_map, SR.sat_seq, sat_ite, Res.sat_ok, sat_cons, sat_nil, sat_kil, lend, called, back, hide, unhide, fins, wee, fits, sh_int, eqv_int]
    rw [iff_no ts]
    by_cases hd : ds = []
    · subst hd
      obtain ⟨o, ew, q⟩ := wr _ hl
      exact ⟨o, y, _, iff_yes tt (ret_ev (fun _ z => nomatch z) ew), q⟩
    · rw [beq_eq_false_iff_ne.mpr (by have := List.length_pos_iff.mpr hd; omega)] at tt
      rw [iff_no tt]
      rw [sz] at hz
      exact tail2_run D y t hd B hl (by omega)
/-- one bending, the deeper ones known -/
theorem bent_at (D : DrawsF Φ fd) (I : IsiF Φ fi) (x : P5) {d : PyData} (B : Nat) (hl : leafB B d = true) (hz : sz d ≤ 1000000)
    (ih : ∀ ds, d = .tuple ds → ∀ u ∈ ds, ∀ x : P5, ∃ o y, Φ fb [.ls (pl x), .fz u] = .ok o [some (.ls (pl y)), none] ∧ Bnt B u o) :
    ∃ o y r, exSs Φ (Bbent fd fi fb) [.pa (.ls (pl x)), .pa (.fz d), .un, .un, .un, .un] = .rt o (.pa (.ls (pl y)) :: .pa (.fz d) :: r) ∧ Bnt B d o := by
  unfold Bbent
  have no : ∀ (x : P5), tst (b0 fd) (ev Φ (b0 fd)) [.pa (.ls (pl x)), .pa (.fz d), .un, .un, .un, .un] = .ok false [.pa (.ls (pl x)), .pa (.fz d), .un, .un, .un, .un] → ∃ o y r, exSs Φ (.cons (.iff (b0 fd) (.cons (.asg 3 (bAt fd)) (.cons (.ret (bDeep fb)) .nil)) .nil) (.kil [3] (bTail fd fi))) [.pa (.ls (pl x)), .pa (.fz d), .un, .un, .un, .un] = .rt o (.pa (.ls (pl y)) :: .pa (.fz d) :: r) ∧ Bnt B d o := fun x h => by
    rw [iff_no h, exSs_kil]
    exact tail_run D I x B hl hz
  by_cases ht : ∃ ds, d = .tuple ds ∧ ds ≠ []
  · obtain ⟨ds, rfl, hne⟩ := ht
    have hpos := List.length_pos_iff.mpr hne
    obtain ⟨c, y, e, g0, g1⟩ := D x 3 (by decide) (by decide)
    have t0 : tst (b0 fd) (ev Φ (b0 fd)) [.pa (.ls (pl x)), .pa (.fz (.tuple ds)), .un, .un, .un, .un] = .ok (decide (0 < c)) [.pa (.ls (pl y)), .pa (.fz (.tuple ds)), .un, .un, .un, .un] := by
      unfold b0; simp [exS, prep_fidx, tst_fidx, prep_sset, tst_sset, prep_lset, tst_lset, prep_rev, tst_rev, prep_idx, tst_idx, ev, evDs, evAs, evO, evC, evI, evPs, prep_dget, tst_dget, prep_loc, prep_con, prep_glo, prep_tup, prep_lst, prep_bin, prep_neg, prep_not, prep_cmp, prep_cmp2, prep_isN, prep_notN, prep_and, prep_or, prep_ife, prep_sub, prep_slc, prep_call, prep_bi, prep_isi, prep_lrg1, prep_lrg2, prep_lc, tst_loc, tst_con, tst_glo, tst_tup, tst_lst, tst_bin, tst_neg, tst_not, tst_cmp, tst_cmp2, tst_isN, tst_notN, tst_and, tst_or, tst_ife, tst_sub, tst_slc, tst_call, tst_bi, tst_isi, tst_lrg1, tst_lrg2, tst_lc, evLoc, frz, rd, putO, loS, unS, kill, Res.bind, Res.st, ofO, AV.val, Sl.get, Sl.put, vals, binF, biF, cmpF, eqF, truF, isiF, ixF, cutF, setF, appF, augF, retLoc, items, litems, noneB, asB, O.toD, O.own, SR.sat_nx, SR.sat_rt, SR.sat_bk, SR.sat_ct, SR.sat_map, SR.sat_seq, sat_ite, Res.sat_ok, sat_cons, sat_nil, sat_kil, lend, called, back, hide, unhide, fins, wee, fits, e, hpos]
    by_cases hc : 0 < c
    · rw [decide_eq_true hc] at t0
      rw [sz] at hz
      have hlen := szs_len ds
      obtain ⟨i, z, e2, g2, g3⟩ := D y ds.length (by omega) (by omega)
      obtain ⟨p, u, q, hds, hi⟩ := mid_of g2 g3
      have hu : u ∈ ds := by rw [hds]; simp
      obtain ⟨o, z2, e3, bn⟩ := ih ds rfl u hu z
      have ea : L2.atI ds i = some u := by rw [hds, hi]; exact at_mid p u q
      have c1 : cutL ds none (some i) = p := by rw [hds]; exact cut_pre hi
      have c2 : cutL ds (some (i + 1)) none = q := by rw [hds, hi]; exact cut_post1
      have lp : p.length + (q.length + 1) = ds.length := by rw [hds]; simp
      have sp : szs p + (sz u + 1 + szs q) = szs ds := by rw [hds, szs_app, szs]
      have hb := leafs_iff.mp hl
      have pm : ∀ d ∈ p, d ∈ ds := fun d h => by rw [hds]; simp [h]
      have qm : ∀ d ∈ q, d ∈ ds := fun d h => by rw [hds]; simp [h]
      have f1 : p.length + 1 ≤ 16777216 := by omega
      have f2 : p.length + 1 + q.length ≤ 16777216 := by omega
      have h3 : ev Φ (bAt fd) [.pa (.ls (pl y)), .pa (.fz (.tuple ds)), .un, .un, .un, .un] = .ok (.fz (.int i)) [.pa (.ls (pl z)), .pa (.fz (.tuple ds)), .un, .un, .un, .un] := by
        unfold bAt; simp [exS, prep_fidx, tst_fidx, prep_sset, tst_sset, prep_lset, tst_lset, prep_rev, tst_rev, prep_idx, tst_idx, ev, evDs, evAs, evO, evC, evI, evPs, prep_dget, tst_dget, prep_loc, prep_con, prep_glo, prep_tup, prep_lst, prep_bin, prep_neg, prep_not, prep_cmp, prep_cmp2, prep_isN, prep_notN, prep_and, prep_or, prep_ife, prep_sub, prep_slc, prep_call, prep_bi, prep_isi, prep_lrg1, prep_lrg2, prep_lc, tst_loc, tst_con, tst_glo, tst_tup, tst_lst, tst_bin, tst_neg, tst_not, tst_cmp, tst_cmp2, tst_isN, tst_notN, tst_and, tst_or, tst_ife, tst_sub, tst_slc, tst_call, tst_bi, tst_isi, tst_lrg1, tst_lrg2, tst_lc, evLoc, frz, rd, putO, loS, unS, kill, Res.bind, Res.st, ofO, AV.val, Sl.get, Sl.put, vals, binF, biF, cmpF, eqF, truF, isiF, ixF, cutF, setF, appF, augF, retLoc, items, litems, noneB, asB, O.toD, O.own, SR.sat_nx, SR.sat_rt, SR.sat_bk, SR.sat_ct, SR.sat_map, SR.sat_seq, sat_ite, Res.sat_ok, sat_cons, sat_nil, sat_kil, lend, called, back, hide, unhide, fins, wee, fits, e2]
      have h4 : ev Φ (bDeep fb) [.pa (.ls (pl z)), .pa (.fz (.tuple ds)), .un, .lo (.fz (.int i)), .un, .un] = .ok (.fz (.tuple (p ++ (o.toD :: q)))) [.pa (.ls (pl z2)), .pa (.fz (.tuple ds)), .un, .lo (.fz (.int i)), .un, .un] := by
        unfold bDeep
        cases o with
        | dc kvs => exact absurd rfl (bn.nodc kvs)
        | fz v => simp [exS, prep_fidx, tst_fidx, prep_sset, tst_sset, prep_lset, tst_lset, prep_rev, tst_rev, prep_idx, tst_idx, ev, evDs, evAs, evO, evC, evI, evPs, prep_dget, tst_dget, prep_loc, prep_con, prep_glo, prep_tup, prep_lst, prep_bin, prep_neg, prep_not, prep_cmp, prep_cmp2, prep_isN, prep_notN, prep_and, prep_or, prep_ife, prep_sub, prep_slc, prep_call, prep_bi, prep_isi, prep_lrg1, prep_lrg2, prep_lc, tst_loc, tst_con, tst_glo, tst_tup, tst_lst, tst_bin, tst_neg, tst_not, tst_cmp, tst_cmp2, tst_isN, tst_notN, tst_and, tst_or, tst_ife, tst_sub, tst_slc, tst_call, tst_bi, tst_isi, tst_lrg1, tst_lrg2, tst_lc, evLoc, frz, rd, putO, loS, unS, kill, Res.bind, Res.st, ofO, AV.val, Sl.get, Sl.put, vals, binF, biF, cmpF, eqF, truF, isiF, ixF, cutF, setF, appF, augF, retLoc, items, litems, noneB, asB, O.toD, O.own, SR.sat_nx, SR.sat_rt, SR.sat_bk, SR.sat_ct, SR.sat_map, SR.sat_seq, sat_ite, Res.sat_ok, sat_cons, sat_nil, sat_kil, lend, called, back, hide, unhide, fins, wee, fits, c1, c2, ea, e3, f1, f2]
        | ls v => simp [exS, prep_fidx, tst_fidx, prep_sset, tst_sset, prep_lset, tst_lset, prep_rev, tst_rev, prep_idx, tst_idx, ev, evDs, evAs, evO, evC, evI, evPs, prep_dget, tst_dget, prep_loc, prep_con, prep_glo, prep_tup, prep_lst, prep_bin, prep_neg, prep_not, prep_cmp, prep_cmp2, prep_isN, prep_notN, prep_and, prep_or, prep_ife, prep_sub, prep_slc, prep_call, prep_bi, prep_isi, prep_lrg1, prep_lrg2, prep_lc, tst_loc, tst_con, tst_glo, tst_tup, tst_lst, tst_bin, tst_neg, tst_not, tst_cmp, tst_cmp2, tst_isN, tst_notN, tst_and, tst_or, tst_ife, tst_sub, tst_slc, tst_call, tst_bi, tst_isi, tst_lrg1, tst_lrg2, tst_lc, evLoc, frz, rd, putO, loS, unS, kill, Res.bind, Res.st, ofO, AV.val, Sl.get, Sl.put, vals, binF, biF, cmpF, eqF, truF, isiF, ixF, cutF, setF, appF, augF, retLoc, items, litems, noneB, asB, O.toD, O.own, SR.sat_nx, SR.sat_rt, SR.sat_bk, SR.sat_ct, SR.sat_map, SR.sat_seq, sat_ite, Res.sat_ok, sat_cons, sat_nil, sat_kil, lend, called, back, hide, unhide, fins, wee, fits, c1, c2, ea, e3, f1, f2]
      have hm : ∀ v ∈ p ++ (o.toD :: q), v = o.toD ∨ v ∈ ds := fun v h => by
        rcases List.mem_append.mp h with h | h  -- gw
        · exact .inr (pm v h)
        · rcases List.mem_cons.mp h with h | h
          · exact .inl h
          · exact .inr (qm v h)
      refine ⟨.fz (.tuple (p ++ (o.toD :: q))), z2, [.un, .lo (.fz (.int i)), .un, .un], iff_yes t0 ?_, ⟨?_, ?_, ?_, fun _ z => nomatch z⟩⟩
      · rw [asg_cons h3]
        exact ret_ev (fun _ z => nomatch z) h4
      · exact leafs_iff.mpr fun v h => (hm v h).elim (fun z => z ▸ bn.leaf) fun h => leafB_mono (by omega) (hb v h)
      · show szs (p ++ (o.toD :: q)) + 41 ≤ 3 * (szs ds + 41) + 200
        have := bn.size
        rw [szs_app, szs]; omega
      · show PyData.depthAll (p ++ (o.toD :: q)) + 1 ≤ PyData.depthAll ds + 1 + 1
        have dp : ∀ d ∈ ds, d.depth ≤ PyData.depthAll ds := depths_iff.mp (Nat.le_refl _)
        have : PyData.depthAll (p ++ (o.toD :: q)) ≤ PyData.depthAll ds + 1 := depths_iff.mpr fun v h => (hm v h).elim (fun z => by
          have := bn.deep
          have := dp u hu
          rw [z]; omega) fun h => by
          have := dp v h
          omega
        omega
    · rw [decide_eq_false hc] at t0
      rw [iff_no t0, exSs_kil]
      exact tail_run D I y B hl hz
  · refine no x ?_
    have hd : noDc d = true := leaf_nodc hl
    unfold b0
    cases d with
    | tuple ds =>
      have : ds = [] := Classical.byContradiction fun h => ht ⟨ds, rfl, h⟩
      subst this
      simp [exS, prep_fidx, tst_fidx, prep_sset, tst_sset, prep_lset, tst_lset, prep_rev, tst_rev, prep_idx, tst_idx, ev, evDs, evAs, evO, evC, evI, evPs, prep_dget, tst_dget, prep_loc, prep_con, prep_glo, prep_tup, prep_lst, prep_bin, prep_neg, prep_not, prep_cmp, prep_cmp2, prep_isN, prep_notN, prep_and, prep_or, prep_ife, prep_sub, prep_slc, prep_call, prep_bi, prep_isi, prep_lrg1, prep_lrg2, prep_lc, tst_loc, tst_con, tst_glo, tst_tup, tst_lst, tst_bin, tst_neg, tst_not, tst_cmp, tst_cmp2, tst_isN, tst_notN, tst_and, tst_or, tst_ife, tst_sub, tst_slc, tst_call, tst_bi, tst_isi, tst_lrg1, tst_lrg2, tst_lc, evLoc, frz, rd, putO, loS, unS, kill, Res.bind, Res.st, ofO, AV.val, Sl.get, Sl.put, vals, binF, biF, cmpF, eqF, truF, isiF, ixF, cutF, setF, appF, augF, retLoc, items, litems, noneB, asB, O.toD, O.own, SR.sat_nx, SR.sat_rt, SR.sat_bk, SR.sat_ct, SR.sat_map, SR.sat_seq, sat_ite, Res.sat_ok, sat_cons, sat_nil, sat_kil, lend, called, back, hide, unhide, fins, wee, fits]
    | dict _ => exact Bool.noConfusion hd
    | _ => simp [exS, prep_fidx, tst_fidx, prep_sset, tst_sset, prep_lset, tst_lset, prep_rev, tst_rev, prep_idx, tst_idx, ev, evDs, evAs, evO, evC, evI, evPs, prep_dget, tst_dget, prep_loc, prep_con, prep_glo, prep_tup, prep_lst, prep_bin, prep_neg, prep_not, prep_cmp, prep_cmp2, prep_isN, prep_notN, prep_and, prep_or, prep_ife, prep_sub, prep_slc, prep_call, prep_bi, prep_isi, prep_lrg1, prep_lrg2, prep_lc, tst_loc, tst_con, tst_glo, tst_tup, tst_lst, tst_bin, tst_neg, tst_not, tst_cmp, tst_cmp2, tst_isN, tst_notN, tst_and, tst_or, tst_ife, tst_sub, tst_slc, tst_call, tst_bi, tst_isi, tst_lrg1, tst_lrg2, tst_lc, evLoc, frz, rd, putO, loS, unS, kill, Res.bind, Res.st, ofO, AV.val, Sl.get, Sl.put, vals, binF, biF, cmpF, eqF, truF, isiF, ixF, cutF, setF, appF, augF, retLoc, items, litems, noneB, asB, O.toD, O.own, SR.sat_nx, SR.sat_rt, SR.sat_bk, SR.sat_ct, SR.sat_map, SR.sat_seq, sat_ite, Res.sat_ok, sat_cons, sat_nil, sat_kil, lend, called, back, hide, unhide, fins, wee, fits]
/-- what is known of bending: data of at most k levels -/
def BntF (Φ : Nat → List O → CR) (fb k : Nat) : Prop := ∀ (x : P5) (d : PyData) (B : Nat), d.depth ≤ k → leafB B d = true → sz d ≤ 1000000 → ∃ o y, Φ fb [.ls (pl x), .fz d] = .ok o [some (.ls (pl y)), none] ∧ Bnt B d o
theorem bntF {T : List Df} (hb : T[fb]? = some (dBent fd fi fb)) (D : ∀ n, DrawsF (callN T (n + 2)) fd) (I : ∀ n, IsiF (callN T (n + 1)) fi) : ∀ k n : Nat, BntF (callN T (n + k + 3)) fb k := by
  intro k
  induction k with
  | zero =>
    intro n x d B hd hl hz
    obtain ⟨o, y, r, e, bn⟩ := bent_at (fb := fb) (D n) (I (n + 1)) x B hl hz (fun ds q u hu => by
      subst q
      have : PyData.depthAll ds + 1 ≤ 0 := hd
      omega)
    refine ⟨o, y, ?_, bn⟩
    rw [callN_eq (n := n + 2) hb rfl]
    have e2 : exSs (callN T (n + 2)) (dBent fd fi fb).body (frame0 (dBent fd fi fb).N.length [.ls (pl x), .fz d]) = _ := e
    rw [e2]
    cases r <;> rfl
  | succ k ih =>
    intro n x d B hd hl hz
    obtain ⟨o, y, r, e, bn⟩ := bent_at (Φ := callN T (n + k + 3)) (fb := fb) (D (n + k + 1)) (I (n + k + 2)) x B hl hz (fun ds q u hu x => by
      subst q
      have h1 : PyData.depthAll ds + 1 ≤ k + 1 := hd
      have h2 : szs ds + 41 ≤ 1000000 := hz
      have h3 := szs_mem hu
      have h4 : u.depth ≤ k := depths_iff.mp (by omega : PyData.depthAll ds ≤ k) u hu
      exact ih n x u B h4 (leafs_iff.mp hl u hu) (by omega))
    refine ⟨o, y, ?_, bn⟩
    rw [show n + (k + 1) + 3 = (n + k + 3) + 1 by omega, callN_eq (n := n + k + 3) hb rfl]
    have e2 : exSs (callN T (n + k + 3)) (dBent fd fi fb).body (frame0 (dBent fd fi fb).N.length [.ls (pl x), .fz d]) = _ := e
    rw [e2]
    cases r <;> rfl
end
end GW

/-! GW, part 24: comprehensions; copies with booleans, with lists. -/
namespace GW
open PySem
def stepL (Φ : Nat → List O → CR) (e : IE) (tg : Tg) (c : IEo) (vs : List Nat) : D → Fm → Res (Option D) := fun d ρ => (ofO (asgF tg d ρ) ρ).bind fun ρ' _ => (evC Φ c ρ').bind fun k ρ2 => if k then (frz (ev Φ e ρ2)).bind fun x ρ3 => .ok (some x) (kill vs ρ3) else .ok none (kill vs ρ2)
theorem ev_lc {Φ : Nat → List O → CR} {e : IE} {tg : Tg} {it : II} {c : IEo} {vs : List Nat} {ρ ρ1 ρe : Fm} {ds xs : List D} (h : evI Φ it ρ = .ok ds ρ1) (hl : noEx (lcLoop (stepL Φ e tg c vs) ds [] (kill vs (hide it ρ1))) = .ok xs ρe) :
    ev Φ (.lc e tg it c vs) ρ = .ok (.ls xs) (unhide ρ1 it (shown (hide it ρ1) vs ρe)) := by
  rw [ev, h]
  show (noEx (lcLoop (stepL Φ e tg c vs) ds [] (kill vs (hide it ρ1)))).bind _ = _
  rw [hl]; rfl
/-- each item by itself -/
theorem ev_lcM {Φ : Nat → List O → CR} {e : IE} {tg : Tg} {it : II} {vs : List Nat} {ρ ρ0 : Fm} {ds : List D} {F : D → D} (h : evI Φ it ρ = .ok ds ρ) (hh : kill vs (hide it ρ) = ρ0) (hb : unhide ρ it (shown (hide it ρ) vs ρ0) = ρ) (hs : ∀ d ∈ ds, stepL Φ e tg .no vs d ρ0 = .ok (some (F d)) ρ0) (hl : ds.length ≤ 16777216) :
    ev Φ (.lc e tg it .no vs) ρ = .ok (.ls (ds.map F)) ρ := by
  have h1 := lcLoop_map (acc := []) hs (by simpa using hl)
  have := ev_lc (e := e) (tg := tg) (c := .no) (vs := vs) h (by rw [hh, h1]; rfl)
  rw [this, hb, List.nil_append]
/-- those that fit -/
theorem lcLoop_filter {step : D → Fm → Res (Option D)} {F : D → Option D} {ρ : Fm} : ∀ {ds acc : List D}, (∀ d ∈ ds, step d ρ = .ok (F d) ρ) → acc.length + ds.length ≤ 16777216 → lcLoop step ds acc ρ = .ok (acc ++ ds.filterMap F) ρ
  | [], acc, _, _ => by simp [lcLoop]
  | d :: ds, acc, h, hl => by
    rw [List.length_cons] at hl
    unfold lcLoop
    rw [h d List.mem_cons_self]
    cases e : F d with
    | none =>
      show lcLoop step ds acc ρ = _
      rw [lcLoop_filter (fun d' h' => h d' (List.mem_cons_of_mem _ h')) (by omega), List.filterMap_cons_none e]
    | some y =>
      show (if acc.length < 16777216 then lcLoop step ds (acc ++ [y]) ρ else .bad) = _
      rw [if_pos (by omega), lcLoop_filter (fun d' h' => h d' (List.mem_cons_of_mem _ h')) (by rw [List.length_append, List.length_singleton]; omega), List.filterMap_cons_some e]
      simp
theorem ev_lcF {Φ : Nat → List O → CR} {e : IE} {tg : Tg} {it : II} {c : IEo} {vs : List Nat} {ρ ρ0 : Fm} {ds : List D} {F : D → Option D} (h : evI Φ it ρ = .ok ds ρ) (hh : kill vs (hide it ρ) = ρ0) (hb : unhide ρ it (shown (hide it ρ) vs ρ0) = ρ) (hs : ∀ d ∈ ds, stepL Φ e tg c vs d ρ0 = .ok (F d) ρ0) (hl : ds.length ≤ 16777216) :
    ev Φ (.lc e tg it c vs) ρ = .ok (.ls (ds.filterMap F)) ρ := by
  have h1 := lcLoop_filter (acc := []) hs (by simpa using hl)
  have := ev_lc (e := e) (tg := tg) (c := c) (vs := vs) h (by rw [hh, h1]; rfl)
  rw [this, hb, List.nil_append]
def blLc (fb : Nat) : IE := .lc (.call fb (.cons (.loc 1) .nil)) (.nm 1) (.val (.loc 0)) .no [1]
def blE (fi : Nat) : IE := .ife (.and (.call fi (.cons (.loc 0) .nil)) (.and (.cmp .le (.con (.int 0)) (.loc 0)) (.cmp .lt (.loc 0) (.con (.int 2))))) (.sub (.tup (.cons (.con (.bool false)) (.cons (.con (.bool true)) .nil))) (.loc 0)) (.loc 0)
def Bbooled (fi fb : Nat) : ISs :=
  (.cons (.iff (.isi (.loc 0) .tTup) (.cons (.ret (.bi .tuple (.cons (blLc fb) .nil))) .nil) .nil)
  (.kil [1] (.cons (.ret (blE fi)) .nil)))
def dBooled (fi fb : Nat) : Df := ⟨"_law_booled", ["value", "part"], 1, Bbooled fi fb⟩
/-- what a copy keeps -/
structure Cpy (B : Nat) (d : PyData) (o : O) : Prop where
  leaf : leafB B o.toD = true
  size : sz o.toD ≤ sz d
  deep : o.toD.depth ≤ d.depth
  nodc : ∀ kvs, o ≠ .dc kvs
def CpyF (Φ : Nat → List O → CR) (fb k : Nat) : Prop := ∀ (d : PyData) (B : Nat), d.depth ≤ k → leafB B d = true → sz d ≤ 1000000 → ∃ o, Φ fb [.fz d] = .ok o [none] ∧ Cpy B d o
theorem szs_map {F : PyData → PyData} : ∀ {ds : List PyData}, (∀ d ∈ ds, sz (F d) ≤ sz d) → szs (ds.map F) ≤ szs ds
  | [], _ => Nat.le_refl _
  | d :: ds, h => by
    have h1 := h d List.mem_cons_self
    have h2 := szs_map (fun e he => h e (List.mem_cons_of_mem _ he) : ∀ e ∈ ds, sz (F e) ≤ sz e)
    rw [List.map_cons, szs, szs]; omega
theorem deps_map {F : PyData → PyData} {ds : List PyData} (h : ∀ d ∈ ds, (F d).depth ≤ d.depth) : PyData.depthAll (ds.map F) ≤ PyData.depthAll ds := depths_iff.mpr fun e he => by
  obtain ⟨d, hd, rfl⟩ := List.mem_map.mp he  -- gw
  exact Nat.le_trans (h d hd) (depths_iff.mp (Nat.le_refl _) d hd)
/-- a function that each item has -/
theorem pick_fun {ds : List PyData} {P : PyData → PyData → Prop} (h : ∀ d ∈ ds, ∃ e, P d e) : ∃ F : PyData → PyData, ∀ d ∈ ds, P d (F d) := by
  classical
  refine ⟨fun d => if hd : d ∈ ds then Classical.choose (h d hd) else d, fun d hd => ?_⟩
  simp only [hd, dif_pos]
  exact Classical.choose_spec (h d hd)
theorem toD_frz {o : O} {ρ : Fm} (h : ∀ kvs, o ≠ .dc kvs) : frz (.ok o ρ) = .ok o.toD ρ := by
  cases o with
  | dc kvs => exact absurd rfl (h kvs)
  | fz d => rfl
  | ls d => rfl
section
variable {Φ : Nat → List O → CR} {fi fb : Nat}
theorem cpy_tuple {B : Nat} {ds : List PyData} {F : PyData → PyData} (h : ∀ d ∈ ds, leafB B (F d) = true ∧ sz (F d) ≤ sz d ∧ (F d).depth ≤ d.depth) : Cpy B (.tuple ds) (.fz (.tuple (ds.map F))) := by
  refine ⟨?_, ?_, ?_, fun _ z => nomatch z⟩
  · refine leafs_iff.mpr fun e he => ?_
    obtain ⟨d, hd, rfl⟩ := List.mem_map.mp he  -- gw
    exact (h d hd).1
  · show szs (ds.map F) + 41 ≤ szs ds + 41
    have := szs_map fun d hd => (h d hd).2.1
    omega
  · show PyData.depthAll (ds.map F) + 1 ≤ PyData.depthAll ds + 1
    have := deps_map fun d hd => (h d hd).2.2
    omega
theorem booled_at (I : IsiF Φ fi) {d : PyData} (B : Nat) (hl : leafB B d = true) (hz : sz d ≤ 1000000) (ih : ∀ ds, d = .tuple ds → ∀ u ∈ ds, ∃ o, Φ fb [.fz u] = .ok o [none] ∧ Cpy B u o) :
    ∃ o, exSs Φ (Bbooled fi fb) [.pa (.fz d), .un] = .rt o [.pa (.fz d), .un] ∧ Cpy B d o := by
  have hd := leaf_nodc hl
  by_cases ht : ∃ ds, d = .tuple ds
  · obtain ⟨ds, rfl⟩ := ht
    have hlen := szs_len ds
    rw [sz] at hz
    obtain ⟨F, hF⟩ := pick_fun (P := fun u e => ∃ o, Φ fb [.fz u] = .ok o [none] ∧ Cpy B u o ∧ e = o.toD) (fun u hu => (ih ds rfl u hu).elim fun o ho => ⟨o.toD, o, ho.1, ho.2, rfl⟩)
    have tt : tst (.isi (.loc 0) .tTup) (ev Φ (.isi (.loc 0) .tTup)) [.pa (.fz (.tuple ds)), .un] = .ok true [.pa (.fz (.tuple ds)), .un] := by simp [exS, prep_fidx, tst_fidx, prep_sset, tst_sset, prep_lset, tst_lset, prep_rev, tst_rev, prep_idx, tst_idx, ev, evDs, evAs, evO, evC, evI, evPs, prep_dget, tst_dget, prep_loc, prep_con, prep_glo, prep_tup, prep_lst, prep_bin, prep_neg, prep_not, prep_cmp, prep_cmp2, prep_isN, prep_notN, prep_and, prep_or, prep_ife, prep_sub, prep_slc, prep_call, prep_bi, prep_isi, prep_lrg1, prep_lrg2, prep_lc, tst_loc, tst_con, tst_glo, tst_tup, tst_lst, tst_bin, tst_neg, tst_not, tst_cmp, tst_cmp2, tst_isN, tst_notN, tst_and, tst_or, tst_ife, tst_sub, tst_slc, tst_call, tst_bi, tst_isi, tst_lrg1, tst_lrg2, tst_lc, evLoc, frz, rd, putO, loS, unS, kill, Res.bind, Res.st, ofO, AV.val, Sl.get, Sl.put, vals, binF, biF, cmpF, eqF, truF, isiF, ixF, cutF, setF, appF, augF, retLoc, items, litems, noneB, asB, O.toD, O.own, SR.sat_nx, SR.sat_rt, SR.sat_bk, SR.sat_ct, SR.sat_map, SR.sat_seq, sat_ite, Res.sat_ok, sat_cons, sat_nil, sat_kil, lend, called, back, hide, unhide, fins, wee, fits]
    have el : ev Φ (blLc fb) [.pa (.fz (.tuple ds)), .un] = .ok (.ls (ds.map F)) [.pa (.fz (.tuple ds)), .un] := by
      refine ev_lcM (ρ0 := [.pa (.fz (.tuple ds)), .un]) (by simp [exS, prep_fidx, tst_fidx, prep_sset, tst_sset, prep_lset, tst_lset, prep_rev, tst_rev, prep_idx, tst_idx, ev, evDs, evAs, evO, evC, evI, evPs, prep_dget, tst_dget, prep_loc, prep_con, prep_glo, prep_tup, prep_lst, prep_bin, prep_neg, prep_not, prep_cmp, prep_cmp2, prep_isN, prep_notN, prep_and, prep_or, prep_ife, prep_sub, prep_slc, prep_call, prep_bi, prep_isi, prep_lrg1, prep_lrg2, prep_lc, tst_loc, tst_con, tst_glo, tst_tup, tst_lst, tst_bin, tst_neg, tst_not, tst_cmp, tst_cmp2, tst_isN, tst_notN, tst_and, tst_or, tst_ife, tst_sub, tst_slc, tst_call, tst_bi, tst_isi, tst_lrg1, tst_lrg2, tst_lc, evLoc, frz, rd, putO, loS, unS, kill, Res.bind, Res.st, ofO, AV.val, Sl.get, Sl.put, vals, binF, biF, cmpF, eqF, truF, isiF, ixF, cutF, setF, appF, augF, retLoc, items, litems, noneB, asB, O.toD, O.own, SR.sat_nx, SR.sat_rt, SR.sat_bk, SR.sat_ct, SR.sat_map, SR.sat_seq, sat_ite, Res.sat_ok, sat_cons, sat_nil, sat_kil, lend, called, back, hide, unhide, fins, wee, fits]) rfl rfl (fun u hu => ?_) (by omega)
      obtain ⟨o, e, c, r⟩ := hF u hu
      unfold stepL
      simp only [asg1, ofO, Res.bind, evC, if_true]
      have : ev Φ (.call fb (.cons (.loc 1) .nil)) (loS [.pa (.fz (.tuple ds)), .un] 1 (.fz u)) = .ok o [.pa (.fz (.tuple ds)), .lo (.fz u)] := by simp [exS, prep_fidx, tst_fidx, prep_sset, tst_sset, prep_lset, tst_lset, prep_rev, tst_rev, prep_idx, tst_idx, ev, evDs, evAs, evO, evC, evI, evPs, prep_dget, tst_dget, prep_loc, prep_con, prep_glo, prep_tup, prep_lst, prep_bin, prep_neg, prep_not, prep_cmp, prep_cmp2, prep_isN, prep_notN, prep_and, prep_or, prep_ife, prep_sub, prep_slc, prep_call, prep_bi, prep_isi, prep_lrg1, prep_lrg2, prep_lc, tst_loc, tst_con, tst_glo, tst_tup, tst_lst, tst_bin, tst_neg, tst_not, tst_cmp, tst_cmp2, tst_isN, tst_notN, tst_and, tst_or, tst_ife, tst_sub, tst_slc, tst_call, tst_bi, tst_isi, tst_lrg1, tst_lrg2, tst_lc, evLoc, frz, rd, putO, loS, unS, kill, Res.bind, Res.st, ofO, AV.val, Sl.get, Sl.put, vals, binF, biF, cmpF, eqF, truF, isiF, ixF, cutF, setF, appF, augF, retLoc, items, litems, noneB, asB, O.toD, O.own, SR.sat_nx, SR.sat_rt, SR.sat_bk, SR.sat_ct, SR.sat_map, SR.sat_seq, sat_ite, Res.sat_ok, sat_cons, sat_nil, sat_kil, lend, called, back, hide, unhide, fins, wee, fits, e]
      rw [this, toD_frz c.nodc, r]
      rfl
    have et : ev Φ (.bi .tuple (.cons (blLc fb) .nil)) [.pa (.fz (.tuple ds)), .un] = .ok (.fz (.tuple (ds.map F))) [.pa (.fz (.tuple ds)), .un] := by
      have e1 : prep (blLc fb) (ev Φ (blLc fb)) [.pa (.fz (.tuple ds)), .un] = .ok (.o (.ls (ds.map F))) [.pa (.fz (.tuple ds)), .un] := by
        show (ev Φ (blLc fb) _).bind _ = _
        rw [el]; rfl
      simp [exS, prep_fidx, tst_fidx, prep_sset, tst_sset, prep_lset, tst_lset, prep_rev, tst_rev, prep_idx, tst_idx, ev, evDs, evAs, evO, evC, evI, evPs, prep_dget, tst_dget, prep_loc, prep_con, prep_glo, prep_tup, prep_lst, prep_bin, prep_neg, prep_not, prep_cmp, prep_cmp2, prep_isN, prep_notN, prep_and, prep_or, prep_ife, prep_sub, prep_slc, prep_call, prep_bi, prep_isi, prep_lrg1, prep_lrg2, prep_lc, tst_loc, tst_con, tst_glo, tst_tup, tst_lst, tst_bin, tst_neg, tst_not, tst_cmp, tst_cmp2, tst_isN, tst_notN, tst_and, tst_or, tst_ife, tst_sub, tst_slc, tst_call, tst_bi, tst_isi, tst_lrg1, tst_lrg2, tst_lc, evLoc, frz, rd, putO, loS, unS, kill, Res.bind, Res.st, ofO, AV.val, Sl.get, Sl.put, vals, binF, biF, cmpF, eqF, truF, isiF, ixF, cutF, setF, appF, augF, retLoc, items, litems, noneB, asB, O.toD, O.own, SR.sat_nx, SR.sat_rt, SR.sat_bk, SR.sat_ct, SR.sat_map, SR.sat_seq, sat_ite, Res.sat_ok, sat_cons, sat_nil, sat_kil, lend, called, back, hide, unhide, fins, wee, fits, e1]
    refine ⟨.fz (.tuple (ds.map F)), ?_, cpy_tuple fun u hu => ?_⟩
    · unfold Bbooled
      exact iff_yes tt (ret_ev (fun _ z => nomatch z) et)
    · obtain ⟨o, e, c, r⟩ := hF u hu
      rw [r]
      exact ⟨c.leaf, c.size, c.deep⟩
  · have tt : tst (.isi (.loc 0) .tTup) (ev Φ (.isi (.loc 0) .tTup)) [.pa (.fz d), .un] = .ok false [.pa (.fz d), .un] := by
      cases d <;> first | exact Bool.noConfusion hd | exact absurd ⟨_, rfl⟩ ht | simp [exS, prep_fidx, tst_fidx, prep_sset, tst_sset, prep_lset, tst_lset, prep_rev, tst_rev, prep_idx, tst_idx, ev, evDs, evAs, evO, evC, evI, evPs, prep_dget, tst_dget, prep_loc, prep_con, prep_glo, prep_tup, prep_lst, prep_bin, prep_neg, prep_not, prep_cmp, prep_cmp2, prep_isN, prep_notN, prep_and, prep_or, prep_ife, prep_sub, prep_slc, prep_call, prep_bi, prep_isi, prep_lrg1, prep_lrg2, prep_lc, tst_loc, tst_con, tst_glo, tst_tup, tst_lst, tst_bin, tst_neg, tst_not, tst_cmp, tst_cmp2, tst_isN, tst_notN, tst_and, tst_or, tst_ife, tst_sub, tst_slc, tst_call, tst_bi, tst_isi, tst_lrg1, tst_lrg2, tst_lc, evLoc, frz, rd, putO, loS, unS, kill, Res.bind, Res.st, ofO, AV.val, Sl.get, Sl.put, vals, binF, biF, cmpF, eqF, truF, isiF, ixF, cutF, setF, appF, augF, retLoc, items, litems, noneB, asB, O.toD, O.own, SR.sat_nx, SR.sat_rt, SR.sat_bk, SR.sat_ct, SR.sat_map, SR.sat_seq, sat_ite, Res.sat_ok, sat_cons, sat_nil, sat_kil, lend, called, back, hide, unhide, fins, wee, fits]
    have i1 := I d hd
    have self : Cpy B d (.fz d) := ⟨hl, Nat.le_refl _, Nat.le_refl _, fun _ z => nomatch z⟩
    have bl : ∀ (i : Int) (b : Bool), Cpy B (.int i) (.fz (.bool b)) := fun i b => ⟨rfl, Nat.le_refl 41, Nat.le_refl 0, fun _ z => nomatch z⟩
    have fin : ∃ o, ev Φ (blE fi) [.pa (.fz d), .un] = .ok o [.pa (.fz d), .un] ∧ Cpy B d o := by
      unfold blE
      cases d with
      | int i =>
        by_cases h0 : i = 0
        · subst h0
          refine ⟨.fz (.bool false), ?_, bl _ _⟩
          simp [exS, prep_fidx, tst_fidx, prep_sset, tst_sset, prep_lset, tst_lset, prep_rev, tst_rev, prep_idx, tst_idx, ev, evDs, evAs, evO, evC, evI, evPs, prep_dget, tst_dget, prep_loc, prep_con, prep_glo, prep_tup, prep_lst, prep_bin, prep_neg, prep_not, prep_cmp, prep_cmp2, prep_isN, prep_notN, prep_and, prep_or, prep_ife, prep_sub, prep_slc, prep_call, prep_bi, prep_isi, prep_lrg1, prep_lrg2, prep_lc, tst_loc, tst_con, tst_glo, tst_tup, tst_lst, tst_bin, tst_neg, tst_not, tst_cmp, tst_cmp2, tst_isN, tst_notN, tst_and, tst_or, tst_ife, tst_sub, tst_slc, tst_call, tst_bi, tst_isi, tst_lrg1, tst_lrg2, tst_lc, evLoc, frz, rd, putO, loS, unS, kill, Res.bind, Res.st, ofO, AV.val, Sl.get, Sl.put, vals, binF, biF, cmpF, eqF, truF, isiF, ixF, cutF, setF, appF, augF, retLoc, items, litems, noneB, asB, O.toD, O.own, SR.sat_nx, SR.sat_rt, SR.sat_bk, SR.sat_ct, SR.sat_map, SR.sat_seq, sat_ite, Res.sat_ok, sat_cons, sat_nil, sat_kil, lend, called, back, hide, unhide, fins, wee, fits, i1, isIntF, at2]
        by_cases h1 : i = 1
        · subst h1
          refine ⟨.fz (.bool true), ?_, bl _ _⟩
          simp [exS, prep_fidx, tst_fidx, prep_sset, tst_sset, prep_lset, tst_lset, prep_rev, tst_rev, prep_idx, tst_idx, ev, evDs, evAs, evO, evC, evI, evPs, prep_dget, tst_dget, prep_loc, prep_con, prep_glo, prep_tup, prep_lst, prep_bin, prep_neg, prep_not, prep_cmp, prep_cmp2, prep_isN, prep_notN, prep_and, prep_or, prep_ife, prep_sub, prep_slc, prep_call, prep_bi, prep_isi, prep_lrg1, prep_lrg2, prep_lc, tst_loc, tst_con, tst_glo, tst_tup, tst_lst, tst_bin, tst_neg, tst_not, tst_cmp, tst_cmp2, tst_isN, tst_notN, tst_and, tst_or, tst_ife, tst_sub, tst_slc, tst_call, tst_bi, tst_isi, tst_lrg1, tst_lrg2, tst_lc, evLoc, frz, rd, putO, loS, unS, kill, Res.bind, Res.st, ofO, AV.val, Sl.get, Sl.put, vals, binF, biF, cmpF, eqF, truF, isiF, ixF, cutF, setF, appF, augF, retLoc, items, litems, noneB, asB, O.toD, O.own, SR.sat_nx, SR.sat_rt, SR.sat_bk, SR.sat_ct, SR.sat_map, SR.sat_seq, sat_ite, Res.sat_ok, sat_cons, sat_nil, sat_kil, lend, called, back, hide, unhide, fins, wee, fits, i1, isIntF, at2]
        · refine ⟨.fz (.int i), ?_, self⟩
          by_cases h2 : 0 ≤ i
          · have h3 : ¬ i < 2 := by omega
            simp [exS, prep_fidx, tst_fidx, prep_sset, tst_sset, prep_lset, tst_lset, prep_rev, tst_rev, prep_idx, tst_idx, ev, evDs, evAs, evO, evC, evI, evPs, prep_dget, tst_dget, prep_loc, prep_con, prep_glo, prep_tup, prep_lst, prep_bin, prep_neg, prep_not, prep_cmp, prep_cmp2, prep_isN, prep_notN, prep_and, prep_or, prep_ife, prep_sub, prep_slc, prep_call, prep_bi, prep_isi, prep_lrg1, prep_lrg2, prep_lc, tst_loc, tst_con, tst_glo, tst_tup, tst_lst, tst_bin, tst_neg, tst_not, tst_cmp, tst_cmp2, tst_isN, tst_notN, tst_and, tst_or, tst_ife, tst_sub, tst_slc, tst_call, tst_bi, tst_isi, tst_lrg1, tst_lrg2, tst_lc, evLoc, frz, rd, putO, loS, unS, kill, Res.bind, Res.st, ofO, AV.val, Sl.get, Sl.put, vals, binF, biF, cmpF, eqF, truF, isiF, ixF, cutF, setF, appF, augF, retLoc, items, litems, noneB, asB, O.toD, O.own, SR.sat_nx, SR.sat_rt, SR.sat_bk, SR.sat_ct, SR.sat_map, SR.sat_seq, sat_ite, Res.sat_ok, sat_cons, sat_nil, sat_kil, lend, called, back, hide, unhide, fins, wee, fits, i1, isIntF, h2, h3]
          · simp [exS, prep_fidx, tst_fidx, prep_sset, tst_sset, prep_lset, tst_lset, prep_rev, tst_rev, prep_idx, tst_idx, ev, evDs, evAs, evO, evC, evI, evPs, prep_dget, tst_dget, prep_loc, prep_con, prep_glo, prep_tup, prep_lst, prep_bin, prep_neg, prep_not, prep_cmp, prep_cmp2, prep_isN, prep_notN, prep_and, prep_or, prep_ife, prep_sub, prep_slc, prep_call, prep_bi, prep_isi, prep_lrg1, prep_lrg2, prep_lc, tst_loc, tst_con, tst_glo, tst_tup, tst_lst, tst_bin, tst_neg, tst_not, tst_cmp, tst_cmp2, tst_isN, tst_notN, tst_and, tst_or, tst_ife, tst_sub, tst_slc, tst_call, tst_bi, tst_isi, tst_lrg1, tst_lrg2, tst_lc, evLoc, frz, rd, putO, loS, unS, kill, Res.bind, Res.st, ofO, AV.val, Sl.get, Sl.put, vals, binF, biF, cmpF, eqF, truF, isiF, ixF, cutF, setF, appF, augF, retLoc, items, litems, noneB, asB, O.toD, O.own, SR.sat_nx, SR.sat_rt, SR.sat_bk, SR.sat_ct, SR.sat_map, SR.sat_seq, sat_ite, Res.sat_ok, sat_cons, sat_nil, sat_kil, lend, called, back, hide, unhide, fins, wee, fits, i1, isIntF, h2]
      | dict _ => exact Bool.noConfusion hd
      | tuple ds => exact absurd ⟨ds, rfl⟩ ht
      | _ => refine ⟨.fz _, ?_, self⟩; simp [exS, prep_fidx, tst_fidx, prep_sset, tst_sset, prep_lset, tst_lset, prep_rev, tst_rev, prep_idx, tst_idx, ev, evDs, evAs, evO, evC, evI, evPs, prep_dget, tst_dget, prep_loc, prep_con, prep_glo, prep_tup, prep_lst, prep_bin, prep_neg, prep_not, prep_cmp, prep_cmp2, prep_isN, prep_notN, prep_and, prep_or, prep_ife, prep_sub, prep_slc, prep_call, prep_bi, prep_isi, prep_lrg1, prep_lrg2, prep_lc, tst_loc, tst_con, tst_glo, tst_tup, tst_lst, tst_bin, tst_neg, tst_not, tst_cmp, tst_cmp2, tst_isN, tst_notN, tst_and, tst_or, tst_ife, tst_sub, tst_slc, tst_call, tst_bi, tst_isi, tst_lrg1, tst_lrg2, tst_lc, evLoc, frz, rd, putO, loS, unS, kill, Res.bind, Res.st, ofO, AV.val, Sl.get, Sl.put, vals, binF, biF, cmpF, eqF, truF, isiF, ixF, cutF, setF, appF, augF, retLoc, items, litems, noneB, asB, O.toD, O.own, SR.sat_nx, SR.sat_rt, SR.sat_bk, SR.sat_ct, SR.sat_map, SR.sat_seq, sat_ite, Res.sat_ok, sat_cons, sat_nil, sat_kil, lend, called, back, hide, unhide, fins, wee, fits, i1, isIntF]
    obtain ⟨o, e, c⟩ := fin
    refine ⟨o, ?_, c⟩
    unfold Bbooled
    rw [iff_no tt, exSs_kil]
    exact ret_ev (fun _ z => nomatch z) e
theorem booledF {T : List Df} (hb : T[fb]? = some (dBooled fi fb)) (I : ∀ n, IsiF (callN T (n + 1)) fi) : ∀ k n : Nat, CpyF (callN T (n + k + 2)) fb k := by
  intro k
  induction k with
  | zero =>
    intro n d B hd hl hz
    obtain ⟨o, e, c⟩ := booled_at (fb := fb) (I n) B hl hz (fun ds q u hu => by
      subst q
      have : PyData.depthAll ds + 1 ≤ 0 := hd
      omega)
    refine ⟨o, ?_, c⟩
    rw [callN_eq (n := n + 1) hb rfl]
    have e2 : exSs (callN T (n + 1)) (dBooled fi fb).body (frame0 (dBooled fi fb).N.length [.fz d]) = _ := e
    rw [e2]; rfl
  | succ k ih =>
    intro n d B hd hl hz
    obtain ⟨o, e, c⟩ := booled_at (Φ := callN T (n + k + 2)) (fb := fb) (I (n + k + 1)) B hl hz (fun ds q u hu => by
      subst q
      have h1 : PyData.depthAll ds + 1 ≤ k + 1 := hd
      have h2 : szs ds + 41 ≤ 1000000 := hz
      have h3 := szs_mem hu
      have h4 : u.depth ≤ k := depths_iff.mp (by omega : PyData.depthAll ds ≤ k) u hu
      exact ih n u B h4 (leafs_iff.mp hl u hu) (by omega))
    refine ⟨o, ?_, c⟩
    rw [show n + (k + 1) + 2 = (n + k + 2) + 1 by omega, callN_eq (n := n + k + 2) hb rfl]
    have e2 : exSs (callN T (n + k + 2)) (dBooled fi fb).body (frame0 (dBooled fi fb).N.length [.fz d]) = _ := e
    rw [e2]; rfl
end
/-! ### lists for tuples -/
def lsLc (fl : Nat) : IE := .lc (.call fl (.cons (.loc 2) (.cons (.bin .sub (.loc 1) (.con (.int 1))) .nil))) (.nm 2) (.val (.loc 0)) .no [2]
def Blisted (fl : Nat) : ISs :=
  (.cons (.iff (.not (.isi (.loc 0) .tTup)) (.cons (.ret (.loc 0)) .nil) .nil)
  (.cons (.ret (.ife (.cmp .eq (.loc 1) (.con (.int 0))) (.bi .list (.cons (.loc 0) .nil)) (.bi .tuple (.cons (lsLc fl) .nil))))
  .nil))
def dListed (fl : Nat) : Df := ⟨"_law_listed", ["value", "deep", "part"], 2, Blisted fl⟩
def LstdF (Φ : Nat → List O → CR) (fl : Nat) (k : Int) : Prop := ∀ (d : PyData) (B : Nat), leafB B d = true → sz d ≤ 1000000 → ∃ o, Φ fl [.fz d, .fz (.int k)] = .ok o [none, none] ∧ Cpy B d o
theorem listed_at {Φ : Nat → List O → CR} {fl : Nat} {k : Nat} {d : PyData} (B : Nat) (hl : leafB B d = true) (hz : sz d ≤ 1000000) (ih : k ≠ 0 → ∀ ds, d = .tuple ds → ∀ u ∈ ds, ∃ o, Φ fl [.fz u, .fz (.int ((k : Int) - 1))] = .ok o [none, none] ∧ Cpy B u o) :
    ∃ o, exSs Φ (Blisted fl) [.pa (.fz d), .pa (.fz (.int (k : Nat))), .un] = .rt o [.pa (.fz d), .pa (.fz (.int (k : Nat))), .un] ∧ Cpy B d o := by
  have hd := leaf_nodc hl
  by_cases ht : ∃ ds, d = .tuple ds
  · obtain ⟨ds, rfl⟩ := ht
    have hlen := szs_len ds
    rw [sz] at hz
    have tt : tst (.not (.isi (.loc 0) .tTup)) (ev Φ (.not (.isi (.loc 0) .tTup))) [.pa (.fz (.tuple ds)), .pa (.fz (.int (k : Nat))), .un] = .ok false [.pa (.fz (.tuple ds)), .pa (.fz (.int (k : Nat))), .un] := by simp [exS, prep_fidx, tst_fidx, prep_sset, tst_sset, prep_lset, tst_lset, prep_rev, tst_rev, prep_idx, tst_idx, ev, evDs, evAs, evO, evC, evI, evPs, prep_dget, tst_dget, prep_loc, prep_con, prep_glo, prep_tup, prep_lst, prep_bin, prep_neg, prep_not, prep_cmp, prep_cmp2, prep_isN, prep_notN, prep_and, prep_or, prep_ife, prep_sub, prep_slc, prep_call, prep_bi, prep_isi, prep_lrg1, prep_lrg2, prep_lc, tst_loc, tst_con, tst_glo, tst_tup, tst_lst, tst_bin, tst_neg, tst_not, tst_cmp, tst_cmp2, tst_isN, tst_notN, tst_and, tst_or, tst_ife, tst_sub, tst_slc, tst_call, tst_bi, tst_isi, tst_lrg1, tst_lrg2, tst_lc, evLoc, frz, rd, putO, loS, unS, kill, Res.bind, Res.st, ofO, AV.val, Sl.get, Sl.put, vals, binF, biF, cmpF, eqF, truF, isiF, ixF, cutF, setF, appF, augF, retLoc, items, litems, noneB, asB, O.toD, O.own, SR.sat_nx, SR.sat_rt, SR.sat_bk, SR.sat_ct, SR.sat_map, SR.sat_seq, sat_ite, Res.sat_ok, sat_cons, sat_nil, sat_kil, lend, called, back, hide, unhide, fins, wee, fits]
    by_cases hk : k = 0
    · subst hk
      refine ⟨.ls ds, ?_, ⟨hl, Nat.le_refl _, Nat.le_refl _, fun _ z => nomatch z⟩⟩
      unfold Blisted
      rw [iff_no tt]
      refine ret_ev (fun _ z => nomatch z) ?_
      simp [exS, prep_fidx, tst_fidx, prep_sset, tst_sset, prep_lset, tst_lset, prep_rev, tst_rev, prep_idx, tst_idx, ev, evDs, evAs, evO, evC, evI, evPs, prep_dget, tst_dget, prep_loc, prep_con, prep_glo, prep_tup, prep_lst, prep_bin, prep_neg, prep_not, prep_cmp, prep_cmp2, prep_isN, prep_notN, prep_and, prep_or, prep_ife, prep_sub, prep_slc, prep_call, prep_bi, prep_isi, prep_lrg1, prep_lrg2, prep_lc, tst_loc, tst_con, tst_glo, tst_tup, tst_lst, tst_bin, tst_neg, tst_not, tst_cmp, tst_cmp2, tst_isN, tst_notN, tst_and, tst_or, tst_ife, tst_sub, tst_slc, tst_call, tst_bi, tst_isi, tst_lrg1, tst_lrg2, tst_lc, evLoc, frz, rd, putO, loS, unS, kill, Res.bind, Res.st, ofO, AV.val, Sl.get, Sl.put, vals, binF, biF, cmpF, eqF, truF, isiF, ixF, cutF, setF, appF, augF, retLoc, items, litems, noneB, asB, O.toD, O.own, SR.sat_nx, SR.sat_rt, SR.sat_bk, SR.sat_ct, SR.sat_map, SR.sat_seq, sat_ite, Res.sat_ok, sat_cons, sat_nil, sat_kil, lend, called, back, hide, unhide, fins, wee, fits, sh_int, eqv_int]
    · obtain ⟨F, hF⟩ := pick_fun (P := fun u e => ∃ o, Φ fl [.fz u, .fz (.int ((k : Int) - 1))] = .ok o [none, none] ∧ Cpy B u o ∧ e = o.toD) (fun u hu => (ih hk ds rfl u hu).elim fun o ho => ⟨o.toD, o, ho.1, ho.2, rfl⟩)
      have el : ev Φ (lsLc fl) [.pa (.fz (.tuple ds)), .pa (.fz (.int (k : Nat))), .un] = .ok (.ls (ds.map F)) [.pa (.fz (.tuple ds)), .pa (.fz (.int (k : Nat))), .un] := by
        refine ev_lcM (ρ0 := [.pa (.fz (.tuple ds)), .pa (.fz (.int (k : Nat))), .un]) (by simp [exS, prep_fidx, tst_fidx, prep_sset, tst_sset, prep_lset, tst_lset, prep_rev, tst_rev, prep_idx, tst_idx, ev, evDs, evAs, evO, evC, evI, evPs, prep_dget, tst_dget, prep_loc, prep_con, prep_glo, prep_tup, prep_lst, prep_bin, prep_neg, prep_not, prep_cmp, prep_cmp2, prep_isN, prep_notN, prep_and, prep_or, prep_ife, prep_sub, prep_slc, prep_call, prep_bi, prep_isi, prep_lrg1, prep_lrg2, prep_lc, tst_loc, tst_con, tst_glo, tst_tup, tst_lst, tst_bin, tst_neg, tst_not, tst_cmp, tst_cmp2, tst_isN, tst_notN, tst_and, tst_or, tst_ife, tst_sub, tst_slc, tst_call, tst_bi, tst_isi, tst_lrg1, tst_lrg2, tst_lc, evLoc, frz, rd, putO, loS, unS, kill, Res.bind, Res.st, ofO, AV.val, Sl.get, Sl.put, vals, binF, biF, cmpF, eqF, truF, isiF, ixF, cutF, setF, appF, augF, retLoc, items, litems, noneB, asB, O.toD, O.own, SR.sat_nx, SR.sat_rt, SR.sat_bk, SR.sat_ct, SR.sat_map, SR.sat_seq, sat_ite, Res.sat_ok, sat_cons, sat_nil, sat_kil, lend, called, back, hide, unhide, fins, wee, fits]) rfl rfl (fun u hu => ?_) (by omega)
        obtain ⟨o, e, c, r⟩ := hF u hu
        unfold stepL
        simp only [asg1, ofO, Res.bind, evC, if_true]
        have : ev Φ (.call fl (.cons (.loc 2) (.cons (.bin .sub (.loc 1) (.con (.int 1))) .nil))) (loS [.pa (.fz (.tuple ds)), .pa (.fz (.int (k : Nat))), .un] 2 (.fz u)) = .ok o [.pa (.fz (.tuple ds)), .pa (.fz (.int (k : Nat))), .lo (.fz u)] := by simp [exS, prep_fidx, tst_fidx, prep_sset, tst_sset, prep_lset, tst_lset, prep_rev, tst_rev, prep_idx, tst_idx, ev, evDs, evAs, evO, evC, evI, evPs, prep_dget, tst_dget, prep_loc, prep_con, prep_glo, prep_tup, prep_lst, prep_bin, prep_neg, prep_not, prep_cmp, prep_cmp2, prep_isN, prep_notN, prep_and, prep_or, prep_ife, prep_sub, prep_slc, prep_call, prep_bi, prep_isi, prep_lrg1, prep_lrg2, prep_lc, tst_loc, tst_con, tst_glo, tst_tup, tst_lst, tst_bin, tst_neg, tst_not, tst_cmp, tst_cmp2, tst_isN, tst_notN, tst_and, tst_or, tst_ife, tst_sub, tst_slc, tst_call, tst_bi, tst_isi, tst_lrg1, tst_lrg2, tst_lc, evLoc, frz, rd, putO, loS, unS, kill, Res.bind, Res.st, ofO, AV.val, Sl.get, Sl.put, vals, binF, biF, cmpF, eqF, truF, isiF, ixF, cutF, setF, appF, augF, retLoc, items, litems, noneB, asB, O.toD, O.own, SR.sat_nx, SR.sat_rt, SR.sat_bk, SR.sat_ct, SR.sat_map, SR.sat_seq, sat_ite, Res.sat_ok, sat_cons, sat_nil, sat_kil, lend, called, back, hide, unhide, fins, wee, fits, e]
        rw [this, toD_frz c.nodc, r]
        rfl
      have et : ev Φ (.bi .tuple (.cons (lsLc fl) .nil)) [.pa (.fz (.tuple ds)), .pa (.fz (.int (k : Nat))), .un] = .ok (.fz (.tuple (ds.map F))) [.pa (.fz (.tuple ds)), .pa (.fz (.int (k : Nat))), .un] := by
        have e1 : prep (lsLc fl) (ev Φ (lsLc fl)) [.pa (.fz (.tuple ds)), .pa (.fz (.int (k : Nat))), .un] = .ok (.o (.ls (ds.map F))) [.pa (.fz (.tuple ds)), .pa (.fz (.int (k : Nat))), .un] := by
          show (ev Φ (lsLc fl) _).bind _ = _
          rw [el]; rfl
        simp [exS, prep_fidx, tst_fidx, prep_sset, tst_sset, prep_lset, tst_lset, prep_rev, tst_rev, prep_idx, tst_idx, ev, evDs, evAs, evO, evC, evI, evPs, prep_dget, tst_dget, prep_loc, prep_con, prep_glo, prep_tup, prep_lst, prep_bin, prep_neg, prep_not, prep_cmp, prep_cmp2, prep_isN, prep_notN, prep_and, prep_or, prep_ife, prep_sub, prep_slc, prep_call, prep_bi, prep_isi, prep_lrg1, prep_lrg2, prep_lc, tst_loc, tst_con, tst_glo, tst_tup, tst_lst, tst_bin, tst_neg, tst_not, tst_cmp, tst_cmp2, tst_isN, tst_notN, tst_and, tst_or, tst_ife, tst_sub, tst_slc, tst_call, tst_bi, tst_isi, tst_lrg1, tst_lrg2, tst_lc, evLoc, frz, rd, putO, loS, unS, kill, Res.bind, Res.st, ofO, AV.val, Sl.get, Sl.put, vals, binF, biF, cmpF, eqF, truF, isiF, ixF, cutF, setF, appF, augF, retLoc, items, litems, noneB, asB, O.toD, O.own, SR.sat_nx, SR.sat_rt, SR.sat_bk, SR.sat_ct, SR.sat_map, SR.sat_seq, sat_ite, Res.sat_ok, sat_cons, sat_nil, sat_kil, lend, called, back, hide, unhide, fins, wee, fits, e1]
      refine ⟨.fz (.tuple (ds.map F)), ?_, cpy_tuple fun u hu => ?_⟩
      · unfold Blisted
        rw [iff_no tt]
        refine ret_ev (fun _ z => nomatch z) ?_
        have c0 : tst (.cmp .eq (.loc 1) (.con (.int 0))) (ev Φ (.cmp .eq (.loc 1) (.con (.int 0)))) [.pa (.fz (.tuple ds)), .pa (.fz (.int (k : Nat))), .un] = .ok false [.pa (.fz (.tuple ds)), .pa (.fz (.int (k : Nat))), .un] := by simp [exS, prep_fidx, tst_fidx, prep_sset, tst_sset, prep_lset, tst_lset, prep_rev, tst_rev, prep_idx, tst_idx, ev, evDs, evAs, evO, evC, evI, evPs, prep_dget, tst_dget, prep_loc, prep_con, prep_glo, prep_tup, prep_lst, prep_bin, prep_neg, prep_not, prep_cmp, prep_cmp2, prep_isN, prep_notN, prep_and, prep_or, prep_ife, prep_sub, prep_slc, prep_call, prep_bi, prep_isi, prep_lrg1, prep_lrg2, prep_lc, tst_loc, tst_con, tst_glo, tst_tup, tst_lst, tst_bin, tst_neg, tst_not, tst_cmp, tst_cmp2, tst_isN, tst_notN, tst_and, tst_or, tst_ife, tst_sub, tst_slc, tst_call, tst_bi, tst_isi, tst_lrg1, tst_lrg2, tst_lc, evLoc, frz, rd, putO, loS, unS, kill, Res.bind, Res.st, ofO, AV.val, Sl.get, Sl.put, vals, binF, biF, cmpF, eqF, truF, isiF, ixF, cutF, setF, appF, augF, retLoc, items, litems, noneB, asB, O.toD, O.own, SR.sat_nx, SR.sat_rt, SR.sat_bk, SR.sat_ct, SR.sat_map, SR.sat_seq, sat_ite, Res.sat_ok, sat_cons, sat_nil, sat_kil, lend, called, back, hide, unhide, fins, wee, fits, sh_int, eqv_int, hk]
        rw [ev, c0]
        exact et
      · obtain ⟨o, e, c, r⟩ := hF u hu
        rw [r]
        exact ⟨c.leaf, c.size, c.deep⟩
  · refine ⟨.fz d, ?_, ⟨hl, Nat.le_refl _, Nat.le_refl _, fun _ z => nomatch z⟩⟩
    unfold Blisted
    cases d <;> first | exact Bool.noConfusion hd | exact absurd ⟨_, rfl⟩ ht | simp [exS, prep_fidx, tst_fidx, prep_sset, tst_sset, prep_lset, tst_lset, prep_rev, tst_rev, prep_idx, tst_idx, ev, evDs, evAs, evO, evC, evI, evPs, prep_dget, tst_dget, prep_loc, prep_con, prep_glo, prep_tup, prep_lst, prep_bin, prep_neg, prep_not, prep_cmp, prep_cmp2, prep_isN, prep_notN, prep_and, prep_or, prep_ife, prep_sub, prep_slc, prep_call, prep_bi, prep_isi, prep_lrg1, prep_lrg2, prep_lc, tst_loc, tst_con, tst_glo, tst_tup, tst_lst, tst_bin, tst_neg, tst_not, tst_cmp, tst_cmp2, tst_isN, tst_notN, tst_and, tst_or, tst_ife, tst_sub, tst_slc, tst_call, tst_bi, tst_isi, tst_lrg1, tst_lrg2, tst_lc, evLoc, frz, rd, putO, loS, unS, kill, Res.bind, Res.st, ofO, AV.val, Sl.get, Sl.put, vals, binF, biF, cmpF, eqF, truF, isiF, ixF, cutF, setF, appF, augF, retLoc, items, litems, noneB, asB, O.toD, O.own, SR.sat_nx, SR.sat_rt, SR.sat_bk, SR.sat_ct, SR.sat_map, SR.sat_seq, sat_ite, Res.sat_ok, sat_cons, sat_nil, sat_kil, lend, called, back, hide, unhide, fins, wee, fits, exSs_cons, exSs_nil, seq_nx, seq_rt]
theorem lstdF {T : List Df} {fl : Nat} (hb : T[fl]? = some (dListed fl)) : ∀ k n : Nat, LstdF (callN T (n + k + 1)) fl (k : Nat) := by
  intro k
  induction k with
  | zero =>
    intro n d B hl hz
    obtain ⟨o, e, c⟩ := listed_at (Φ := callN T n) (fl := fl) (k := 0) B hl hz (fun h => absurd rfl h)
    refine ⟨o, ?_, c⟩
    rw [callN_eq (n := n) hb rfl]
    have e2 : exSs (callN T n) (dListed fl).body (frame0 (dListed fl).N.length [.fz d, .fz (.int ((0 : Nat) : Int))]) = _ := e
    rw [e2]; rfl
  | succ k ih =>
    intro n d B hl hz
    obtain ⟨o, e, c⟩ := listed_at (Φ := callN T (n + k + 1)) (fl := fl) (k := k + 1) B hl hz (fun _ ds q u hu => by
      subst q
      have h2 : szs ds + 41 ≤ 1000000 := hz
      have h3 := szs_mem hu
      have := ih n u B (leafs_iff.mp hl u hu) (by omega)
      rw [show ((k + 1 : Nat) : Int) - 1 = (k : Nat) by omega]
      exact this)
    refine ⟨o, ?_, c⟩
    rw [show n + (k + 1) + 1 = (n + k + 1) + 1 by omega, callN_eq (n := n + k + 1) hb rfl]
    have e2 : exSs (callN T (n + k + 1)) (dListed fl).body (frame0 (dListed fl).N.length [.fz d, .fz (.int ((k + 1 : Nat) : Int))]) = _ := e
    rw [e2]; rfl
end GW

/-! GW, part 25: what the laws that tell a form share. -/
namespace GW
open PySem
def dOk (d : PyData) : Bool := leafB 1000000000000 d && decide (d.depth ≤ 60)
theorem ok_nodc {d : PyData} (h : dOk d = true) : noDc d = true := by
  unfold dOk at h; rw [Bool.and_eq_true] at h; exact leaf_nodc h.1
theorem ok_shaped {d : PyData} (h : dOk d = true) : SeqAt.shaped d = true := by
  unfold dOk at h
  rw [Bool.and_eq_true, decide_eq_true_eq] at h  -- gw
  unfold SeqAt.shaped
  rw [(leaf_weight h.1).2.1, decide_eq_true (by omega)]; rfl
theorem ok_mem {ds : List PyData} {d : PyData} (h : dOk (.tuple ds) = true) (hd : d ∈ ds) : dOk d = true := by
  unfold dOk at h ⊢
  rw [Bool.and_eq_true, decide_eq_true_eq] at h ⊢
  have h2 : PyData.depthAll ds + 1 ≤ 60 := h.2
  exact ⟨leafs_iff.mp h.1 d hd, by have := depths_iff.mp (Nat.le_refl (PyData.depthAll ds)) d hd; omega⟩
theorem ok_str {s : Str} (h : dOk (.str s) = true) : PyData.strOk s = true := by
  unfold dOk at h; rw [Bool.and_eq_true] at h; exact h.1
theorem sh_str {s : Str} (h : PyData.strOk s = true) : SeqAt.shaped (.str s) = true := by
  unfold SeqAt.shaped
  rw [show (PyData.str s).canLay0 = true from by simp only [PyData.canLay0]; exact h]; rfl
theorem eqv_str {a b : Str} : PyData.eqv (.str a) (.str b) = (a == b) := rfl
theorem inF_strs {s : Str} (h : PyData.strOk s = true) : ∀ {l : List Str}, (l.all PyData.strOk) = true → inF (.str s) (l.map PyData.str) = some (decide (s ∈ l)) := fun {l} hl => by
  unfold inF
  have h1 : (l.map PyData.str).all SeqAt.shaped = true := by
    rw [List.all_map]
    exact List.all_eq_true.mpr fun x hx => sh_str (List.all_eq_true.mp hl x hx)
  rw [h1, sh_str h]
  show some _ = some _
  congr 1
  clear h1 hl
  induction l with
  | nil => rfl
  | cons b r ih =>
    rw [List.map_cons, List.any_cons, ih, eqv_str]
    by_cases q : b = s
    · subst q; simp
    · have q2 : ¬ s = b := fun z => q z.symm
      simp [q, q2]
def numB (d : PyData) (top : Int) : Bool := match d with
  | .int i => decide (0 ≤ i) && decide (i ≤ top)
  | _ => false
def NumB (Φ : Nat → List O → CR) (f : Nat) : Prop := ∀ (d : PyData) (top : Int), noDc d = true → Φ f [.fz d, .fz (.int top)] = .ok (.fz (.bool (numB d top))) [none, none]
def Bisnum : ISs := .cons (.ret (.and (.isi (.loc 0) .tInt) (.and (.not (.isi (.loc 0) .tBool)) (.cmp2 .le .le (.con (.int 0)) (.loc 0) (.loc 1))))) .nil
def dIsnum : Df := ⟨"is_number", ["value", "top"], 2, Bisnum⟩
def Blisnum (fi : Nat) : ISs := .cons (.ret (.and (.call fi (.cons (.loc 0) .nil)) (.and (.cmp .le (.con (.int 0)) (.loc 0)) (.cmp .le (.loc 0) (.loc 1))))) .nil
def dLisnum (fi : Nat) : Df := ⟨"_law_is_number", ["value", "top"], 2, Blisnum fi⟩
theorem isnum_at {Φ : Nat → List O → CR} (d : PyData) (top : Int) (hd : noDc d = true) : ends [.fz d, .fz (.int top)] (exSs Φ Bisnum [.pa (.fz d), .pa (.fz (.int top))]) = .ok (.fz (.bool (numB d top))) [none, none] := by
  unfold Bisnum
  cases d with
  | dict _ => exact Bool.noConfusion hd
  | int i =>
    by_cases h : 0 ≤ i
    · simp [exS, prep_fidx, tst_fidx, prep_sset, tst_sset, prep_lset, tst_lset, prep_rev, tst_rev, prep_idx, tst_idx, ev, evDs, evAs, evO, evC, evI, evPs, prep_dget, tst_dget, prep_loc, prep_con, prep_glo, prep_tup, prep_lst, prep_bin, prep_neg, prep_not, prep_cmp, prep_cmp2, prep_isN, prep_notN, prep_and, prep_or, prep_ife, prep_sub, prep_slc, prep_call, prep_bi, prep_isi, prep_lrg1, prep_lrg2, prep_lc, tst_loc, tst_con, tst_glo, tst_tup, tst_lst, tst_bin, tst_neg, tst_not, tst_cmp, tst_cmp2, tst_isN, tst_notN, tst_and, tst_or, tst_ife, tst_sub, tst_slc, tst_call, tst_bi, tst_isi, tst_lrg1, tst_lrg2, tst_lc, evLoc, frz, rd, putO, loS, unS, kill, Res.bind, Res.st, ofO, AV.val, Sl.get, Sl.put, vals, binF, biF, cmpF, eqF, truF, isiF, ixF, cutF, setF, appF, augF, retLoc, items, litems, noneB, asB, O.toD, O.own, SR.sat_nx, SR.sat_rt, SR.sat_bk, SR.sat_ct, SR.sat_map, SR.sat_seq, sat_ite, Res.sat_ok, sat_cons, sat_nil, sat_kil, lend, called, back, hide, unhide, fins, wee, fits, exSs_cons, exSs_nil, seq_nx, seq_rt, ends_rt, numB, h]
    · simp [exS, prep_fidx, tst_fidx, prep_sset, tst_sset, prep_lset, tst_lset, prep_rev, tst_rev, prep_idx, tst_idx, ev, evDs, evAs, evO, evC, evI, evPs, prep_dget, tst_dget, prep_loc, prep_con, prep_glo, prep_tup, prep_lst, prep_bin, prep_neg, prep_not, prep_cmp, prep_cmp2, prep_isN, prep_notN, prep_and, prep_or, prep_ife, prep_sub, prep_slc, prep_call, prep_bi, prep_isi, prep_lrg1, prep_lrg2, prep_lc, tst_loc, tst_con, tst_glo, tst_tup, tst_lst, tst_bin, tst_neg, tst_not, tst_cmp, tst_cmp2, tst_isN, tst_notN, tst_and, tst_or, tst_ife, tst_sub, tst_slc, tst_call, tst_bi, tst_isi, tst_lrg1, tst_lrg2, tst_lc, evLoc, frz, rd, putO, loS, unS, kill, Res.bind, Res.st, ofO, AV.val, Sl.get, Sl.put, vals, binF, biF, cmpF, eqF, truF, isiF, ixF, cutF, setF, appF, augF, retLoc, items, litems, noneB, asB, O.toD, O.own, SR.sat_nx, SR.sat_rt, SR.sat_bk, SR.sat_ct, SR.sat_map, SR.sat_seq, sat_ite, Res.sat_ok, sat_cons, sat_nil, sat_kil, lend, called, back, hide, unhide, fins, wee, fits, exSs_cons, exSs_nil, seq_nx, seq_rt, ends_rt, numB, h]
  | _ => simp [exS, prep_fidx, tst_fidx, prep_sset, tst_sset, prep_lset, tst_lset, prep_rev, tst_rev, prep_idx, tst_idx, ev, evDs, evAs, evO, evC, evI, evPs, prep_dget, tst_dget, prep_loc, prep_con, prep_glo, prep_tup, prep_lst, prep_bin, prep_neg, prep_not, prep_cmp, prep_cmp2, prep_isN, prep_notN, prep_and, prep_or, prep_ife, prep_sub, prep_slc, prep_call, prep_bi, prep_isi, prep_lrg1, prep_lrg2, prep_lc, tst_loc, tst_con, tst_glo, tst_tup, tst_lst, tst_bin, tst_neg, tst_not, tst_cmp, tst_cmp2, tst_isN, tst_notN, tst_and, tst_or, tst_ife, tst_sub, tst_slc, tst_call, tst_bi, tst_isi, tst_lrg1, tst_lrg2, tst_lc, evLoc, frz, rd, putO, loS, unS, kill, Res.bind, Res.st, ofO, AV.val, Sl.get, Sl.put, vals, binF, biF, cmpF, eqF, truF, isiF, ixF, cutF, setF, appF, augF, retLoc, items, litems, noneB, asB, O.toD, O.own, SR.sat_nx, SR.sat_rt, SR.sat_bk, SR.sat_ct, SR.sat_map, SR.sat_seq, sat_ite, Res.sat_ok, sat_cons, sat_nil, sat_kil, lend, called, back, hide, unhide, fins, wee, fits, exSs_cons, exSs_nil, seq_nx, seq_rt, ends_rt, numB]
theorem lisnum_at {Φ : Nat → List O → CR} {fi : Nat} (I : IsiF Φ fi) (d : PyData) (top : Int) (hd : noDc d = true) : ends [.fz d, .fz (.int top)] (exSs Φ (Blisnum fi) [.pa (.fz d), .pa (.fz (.int top))]) = .ok (.fz (.bool (numB d top))) [none, none] := by
  have i1 := I d hd
  unfold Blisnum
  cases d with
  | dict _ => exact Bool.noConfusion hd
  | int i =>
    by_cases h : 0 ≤ i
    · simp [exS, prep_fidx, tst_fidx, prep_sset, tst_sset, prep_lset, tst_lset, prep_rev, tst_rev, prep_idx, tst_idx, ev, evDs, evAs, evO, evC, evI, evPs, prep_dget, tst_dget, prep_loc, prep_con, prep_glo, prep_tup, prep_lst, prep_bin, prep_neg, prep_not, prep_cmp, prep_cmp2, prep_isN, prep_notN, prep_and, prep_or, prep_ife, prep_sub, prep_slc, prep_call, prep_bi, prep_isi, prep_lrg1, prep_lrg2, prep_lc, tst_loc, tst_con, tst_glo, tst_tup, tst_lst, tst_bin, tst_neg, tst_not, tst_cmp, tst_cmp2, tst_isN, tst_notN, tst_and, tst_or, tst_ife, tst_sub, tst_slc, tst_call, tst_bi, tst_isi, tst_lrg1, tst_lrg2, tst_lc, evLoc, frz, rd, putO, loS, unS, kill, Res.bind, Res.st, ofO, AV.val, Sl.get, Sl.put, vals, binF, biF, cmpF, eqF, truF, isiF, ixF, cutF, setF, appF, augF, retLoc, items, litems, noneB, asB, O.toD, O.own, SR.sat_nx, SR.sat_rt, SR.sat_bk, SR.sat_ct, SR.sat_map, SR.sat_seq, sat_ite, Res.sat_ok, sat_cons, sat_nil, sat_kil, lend, called, back, hide, unhide, fins, wee, fits, exSs_cons, exSs_nil, seq_nx, seq_rt, ends_rt, numB, h, i1, isIntF]
    · simp [exS, prep_fidx, tst_fidx, prep_sset, tst_sset, prep_lset, tst_lset, prep_rev, tst_rev, prep_idx, tst_idx, ev, evDs, evAs, evO, evC, evI, evPs, prep_dget, tst_dget, prep_loc, prep_con, prep_glo, prep_tup, prep_lst, prep_bin, prep_neg, prep_not, prep_cmp, prep_cmp2, prep_isN, prep_notN, prep_and, prep_or, prep_ife, prep_sub, prep_slc, prep_call, prep_bi, prep_isi, prep_lrg1, prep_lrg2, prep_lc, tst_loc, tst_con, tst_glo, tst_tup, tst_lst, tst_bin, tst_neg, tst_not, tst_cmp, tst_cmp2, tst_isN, tst_notN, tst_and, tst_or, tst_ife, tst_sub, tst_slc, tst_call, tst_bi, tst_isi, tst_lrg1, tst_lrg2, tst_lc, evLoc, frz, rd, putO, loS, unS, kill, Res.bind, Res.st, ofO, AV.val, Sl.get, Sl.put, vals, binF, biF, cmpF, eqF, truF, isiF, ixF, cutF, setF, appF, augF, retLoc, items, litems, noneB, asB, O.toD, O.own, SR.sat_nx, SR.sat_rt, SR.sat_bk, SR.sat_ct, SR.sat_map, SR.sat_seq, sat_ite, Res.sat_ok, sat_cons, sat_nil, sat_kil, lend, called, back, hide, unhide, fins, wee, fits, exSs_cons, exSs_nil, seq_nx, seq_rt, ends_rt, numB, h, i1, isIntF]
  | _ => simp [exS, prep_fidx, tst_fidx, prep_sset, tst_sset, prep_lset, tst_lset, prep_rev, tst_rev, prep_idx, tst_idx, ev, evDs, evAs, evO, evC, evI, evPs, prep_dget, tst_dget, prep_loc, prep_con, prep_glo, prep_tup, prep_lst, prep_bin, prep_neg, prep_not, prep_cmp, prep_cmp2, prep_isN, prep_notN, prep_and, prep_or, prep_ife, prep_sub, prep_slc, prep_call, prep_bi, prep_isi, prep_lrg1, prep_lrg2, prep_lc, tst_loc, tst_con, tst_glo, tst_tup, tst_lst, tst_bin, tst_neg, tst_not, tst_cmp, tst_cmp2, tst_isN, tst_notN, tst_and, tst_or, tst_ife, tst_sub, tst_slc, tst_call, tst_bi, tst_isi, tst_lrg1, tst_lrg2, tst_lc, evLoc, frz, rd, putO, loS, unS, kill, Res.bind, Res.st, ofO, AV.val, Sl.get, Sl.put, vals, binF, biF, cmpF, eqF, truF, isiF, ixF, cutF, setF, appF, augF, retLoc, items, litems, noneB, asB, O.toD, O.own, SR.sat_nx, SR.sat_rt, SR.sat_bk, SR.sat_ct, SR.sat_map, SR.sat_seq, sat_ite, Res.sat_ok, sat_cons, sat_nil, sat_kil, lend, called, back, hide, unhide, fins, wee, fits, exSs_cons, exSs_nil, seq_nx, seq_rt, ends_rt, numB, i1, isIntF]
theorem numB_of {T : List Df} {f n : Nat} (hf : T[f]? = some dIsnum) : NumB (callN T (n + 1)) f := fun d top h => by
  rw [callN_eq hf rfl]
  exact isnum_at d top h
theorem lnumB_of {T : List Df} {f fi n : Nat} (hf : T[f]? = some (dLisnum fi)) (hi : T[fi]? = some dIsint) : NumB (callN T (n + 2)) f := fun d top h => by
  rw [callN_eq (n := n + 1) hf rfl]
  exact lisnum_at (isiF_of hi) d top h
def retF : ISs := .cons (.ret (.con (.bool false))) .nil
theorem retF_run {Φ : Nat → List O → CR} {ρ : Fm} : exSs Φ retF ρ = .rt (.fz (.bool false)) ρ := by
  unfold retF; exact ret_ev (fun _ z => nomatch z) (by rw [ev])
theorem all_bools {F : PyData → Bool} : ∀ ds : List PyData, boolsF (ds.map fun d => .bool (F d)) = some (ds.map F)
  | [] => rfl
  | d :: ds => by
    show (boolsF (ds.map fun d => .bool (F d))).map (F d :: ·) = _
    rw [all_bools ds]; rfl
theorem all_id {F : PyData → Bool} (ds : List PyData) : (ds.map F).all id = ds.all F := by
  rw [List.all_map]; rfl
theorem none_left {F : PyData → Bool} : ∀ ds : List PyData, decide (((ds.filterMap fun d => if F d then none else some d).length : Int) = 0) = ds.all F
  | [] => rfl
  | d :: ds => by
    have ih := none_left (F := F) ds
    cases h : F d with
    | true => rw [List.filterMap_cons_none (by rw [h]; rfl), List.all_cons, h, ih]; rfl
    | false =>
      rw [List.filterMap_cons_some (b := d) (by rw [h]; rfl), List.all_cons, h, List.length_cons]
      exact decide_eq_false (by omega)  -- gw
theorem evI_rng1 {Φ : Nat → List O → CR} {a : IE} {ρ : Fm} {i : Int} {m : Nat} (ha : ev Φ a ρ = .ok (.fz (.int i)) ρ) (h : rngOk i = true) (hm : i.toNat = m) : evI Φ (.rng1 a) ρ = .ok (rngD 0 m) ρ := by
  rw [evI, ha]
  show (if rngOk i = true then _ else _) = _
  rw [if_pos h, hm]
theorem prep_lc_eq {Φ : Nat → List O → CR} {e : IE} {t : Tg} {i : II} {c : IEo} {v : List Nat} {ρ ρ1 : Fm} {o : O} (h : ev Φ (.lc e t i c v) ρ = .ok o ρ1) : prep (.lc e t i c v) (ev Φ (.lc e t i c v)) ρ = .ok (.o o) ρ1 := by
  rw [prep_lc, h]; rfl
theorem ev_all0 {Φ : Nat → List O → CR} {e : IE} {ρ ρ1 : Fm} {zs : List PyData} {bs : List Bool} (h : prep e (ev Φ e) ρ = .ok (.o (.ls zs)) ρ1) (hb : boolsF zs = some bs) : ev Φ (.bi .all (.cons e .nil)) ρ = .ok (.fz (.bool (bs.all id))) ρ1 := by
  simp [exS, prep_fidx, tst_fidx, prep_sset, tst_sset, prep_lset, tst_lset, prep_rev, tst_rev, prep_idx, tst_idx, ev, evDs, evAs, evO, evC, evI, evPs, prep_dget, tst_dget, prep_loc, prep_con, prep_glo, prep_tup, prep_lst, prep_bin, prep_neg, prep_not, prep_cmp, prep_cmp2, prep_isN, prep_notN, prep_and, prep_or, prep_ife, prep_sub, prep_slc, prep_call, prep_bi, prep_isi, prep_lrg1, prep_lrg2, prep_lc, tst_loc, tst_con, tst_glo, tst_tup, tst_lst, tst_bin, tst_neg, tst_not, tst_cmp, tst_cmp2, tst_isN, tst_notN, tst_and, tst_or, tst_ife, tst_sub, tst_slc, tst_call, tst_bi, tst_isi, tst_lrg1, tst_lrg2, tst_lc, evLoc, frz, rd, putO, loS, unS, kill, Res.bind, Res.st, ofO, AV.val, Sl.get, Sl.put, vals, binF, biF, cmpF, eqF, truF, isiF, ixF, cutF, setF, appF, augF, retLoc, items, litems, noneB, asB, O.toD, O.own, SR.sat_nx, SR.sat_rt, SR.sat_bk, SR.sat_ct, SR.sat_map, SR.sat_seq, sat_ite, Res.sat_ok, sat_cons, sat_nil, sat_kil, lend, called, back, hide, unhide, fins, wee, fits, h, hb]
theorem ev_len0 {Φ : Nat → List O → CR} {e : IE} {ρ ρ1 : Fm} {zs : List PyData} (h : prep e (ev Φ e) ρ = .ok (.o (.ls zs)) ρ1) : ev Φ (.cmp .eq (.bi .len (.cons e .nil)) (.con (.int 0))) ρ = .ok (.fz (.bool (decide ((zs.length : Int) = 0)))) ρ1 := by
  have : ∀ n : Int, (n == 0) = decide (n = 0) := fun n => by
    by_cases q : n = 0
    · subst q; rfl
    · rw [decide_eq_false q]; exact beq_eq_false_iff_ne.mpr q  -- gw
  simp only [exS, prep_fidx, tst_fidx, prep_sset, tst_sset, prep_lset, tst_lset, prep_rev, tst_rev, prep_idx, tst_idx, ev, evDs, evAs, evO, evC, evI, evPs, prep_dget, tst_dget, prep_loc, prep_con, prep_glo, prep_tup, prep_lst, prep_bin, prep_neg, prep_not, prep_cmp, prep_cmp2, prep_isN, prep_notN, prep_and, prep_or, prep_ife, prep_sub, prep_slc, prep_call, prep_bi, prep_isi, prep_lrg1, prep_lrg2, prep_lc, tst_loc, tst_con, tst_glo, tst_tup, tst_lst, tst_bin, tst_neg, tst_not, tst_cmp, tst_cmp2, tst_isN, tst_notN, tst_and, tst_or, tst_ife, tst_sub, tst_slc, tst_call, tst_bi, tst_isi, tst_lrg1, tst_lrg2, tst_lc, evLoc, frz, rd, putO, loS, unS, kill, Res.bind, Res.st, ofO, AV.val, Sl.get, Sl.put, vals, binF, biF, cmpF, eqF, truF, isiF, ixF, cutF, setF, appF, augF, retLoc, items, litems, noneB, asB, O.toD, O.own, SR.sat_nx, SR.sat_rt, SR.sat_bk, SR.sat_ct, SR.sat_map, SR.sat_seq, sat_ite, Res.sat_ok, sat_cons, sat_nil, sat_kil, lend, called, back, hide, unhide, fins, wee, fits, h, sh_int, eqv_int, this, Bool.and_self, if_true, Option.map_some, Option.bind_some]
/-- small data -/
structure Sm (w k : Nat) (d : PyData) : Prop where
  leaf : leafB 100000 d = true
  size : sz d ≤ w
  deep : d.depth ≤ k
theorem Sm.mono {w k w' k' : Nat} {d : PyData} (h : Sm w k d) (hw : w ≤ w') (hk : k ≤ k') : Sm w' k' d := ⟨h.leaf, Nat.le_trans h.size hw, Nat.le_trans h.deep hk⟩
theorem szs_le {w : Nat} : ∀ {ds : List PyData}, (∀ d ∈ ds, sz d ≤ w) → szs ds ≤ ds.length * (w + 1)
  | [], _ => Nat.zero_le _
  | d :: ds, h => by
    have h1 := h d List.mem_cons_self
    have h2 := szs_le (fun e he => h e (List.mem_cons_of_mem _ he) : ∀ e ∈ ds, sz e ≤ w)
    rw [szs, List.length_cons, Nat.add_mul]; omega
theorem Sm.tuple {w k n : Nat} {ds : List PyData} (h : ∀ d ∈ ds, Sm w k d) (hn : ds.length ≤ n) : Sm (n * (w + 1) + 41) (k + 1) (.tuple ds) := by
  refine ⟨leafs_iff.mpr fun d hd => (h d hd).leaf, ?_, ?_⟩
  · show szs ds + 41 ≤ _
    have := szs_le fun d hd => (h d hd).size
    have := Nat.mul_le_mul_right (w + 1) hn
    omega
  · show PyData.depthAll ds + 1 ≤ _
    have := depths_iff.mpr fun d hd => (h d hd).deep
    omega
theorem Sm.int {i : Int} (h : i.natAbs < 100000) : Sm 60 0 (.int i) := ⟨decide_eq_true h, by show 41 ≤ 60; omega, Nat.le_refl _⟩
/-- any item -/
theorem pickD {l : List PyData} {r : Int} (h0 : 0 ≤ r) (h1 : r < l.length) : ∃ d, d ∈ l ∧ L2.atI l r = some d := by
  rw [atI_in h0 h1]
  have : r.toNat < l.length := by omega
  rw [List.getElem?_eq_getElem this]
  exact ⟨_, List.getElem_mem this, rfl⟩
def str60 (s : Str) : Bool := PyData.strOk s && decide (s.length ≤ 19)
theorem Sm.str {s : Str} (h : str60 s = true) : Sm 60 0 (.str s) := by
  unfold str60 at h
  rw [Bool.and_eq_true, decide_eq_true_eq] at h  -- gw
  exact ⟨h.1, by show 41 + s.length ≤ 60; omega, Nat.le_refl _⟩
theorem Sm.ok {w k : Nat} {d : PyData} (h : Sm w k d) (hk : k ≤ 60) : dOk d = true := by
  unfold dOk
  rw [leafB_mono (by omega) h.leaf, decide_eq_true (Nat.le_trans h.deep hk)]; rfl
theorem cut_mem {ds : List PyData} {lo hi : Option Int} {d : PyData} (h : d ∈ cutL ds lo hi) : d ∈ ds := List.mem_of_mem_drop (List.mem_of_mem_take h)
theorem cut_len {ds : List PyData} {lo hi : Option Int} : (cutL ds lo hi).length ≤ ds.length := by
  unfold cutL
  rw [List.length_take, List.length_drop]; omega
/-- a value that is tried -/
structure Val (d : PyData) : Prop where
  leaf : leafB 1000000000000 d = true
  size : sz d ≤ 500000
  deep : d.depth ≤ 20
theorem Val.ok {d : PyData} (h : Val d) : dOk d = true := by
  unfold dOk
  have := h.deep
  rw [h.leaf, decide_eq_true (by omega)]; rfl
theorem Val.shw {d : PyData} (h : Val d) : shw d = true := shw_ok h.leaf (by have := h.size; omega) (by have := h.deep; omega)
theorem Sm.val {w k : Nat} {d : PyData} (h : Sm w k d) (hw : w ≤ 500000) (hk : k ≤ 20) : Val d := ⟨leafB_mono (by omega) h.leaf, Nat.le_trans h.size hw, Nat.le_trans h.deep hk⟩
theorem evDs_cons {Φ : Nat → List O → CR} {e : IE} {es : IEs} {ρ ρ1 ρ2 : Fm} {d : PyData} {ds : List PyData} (h : frz (ev Φ e ρ) = .ok d ρ1) (h2 : evDs Φ es ρ1 = .ok ds ρ2) : evDs Φ (.cons e es) ρ = .ok (d :: ds) ρ2 := by
  rw [evDs, h]
  show (evDs Φ es ρ1).bind _ = _
  rw [h2]; rfl
theorem evDs_nil {Φ : Nat → List O → CR} {ρ : Fm} : evDs Φ .nil ρ = .ok [] ρ := by rw [evDs]
theorem ev_lst {Φ : Nat → List O → CR} {es : IEs} {ρ ρ1 : Fm} {ds : List PyData} (h : evDs Φ es ρ = .ok ds ρ1) : ev Φ (.lst es) ρ = .ok (.ls ds) ρ1 := by
  rw [ev, h]; rfl
theorem frz_ok {Φ : Nat → List O → CR} {e : IE} {ρ ρ1 : Fm} {o : O} (h : ev Φ e ρ = .ok o ρ1) (hn : ∀ kvs, o ≠ .dc kvs) : frz (ev Φ e ρ) = .ok o.toD ρ1 := by
  rw [h, toD_frz hn]
theorem ev_bin {Φ : Nat → List O → CR} {op : BOp} {a b : IE} {ρ : Fm} {x y z : O} (ha : prep a (ev Φ a) ρ = .ok (.o x) ρ) (hb : prep b (ev Φ b) ρ = .ok (.o y) ρ) (h : binF op x y = some z) : ev Φ (.bin op a b) ρ = .ok z ρ := by
  rw [ev, ha]
  show (prep b (ev Φ b) ρ).bind _ = _
  rw [hb]
  show ofO (binF op x y) ρ = _
  rw [h]; rfl
/-- list + list, the first a name -/
theorem ev_cat {Φ : Nat → List O → CR} {i : Nat} {b : IE} {ρ ρ1 : Fm} {xs ys : List PyData} (hi : rd ρ i = some (.ls xs)) (hb : ev Φ b ρ = .ok (.ls ys) ρ1) (hl : ∀ j, b ≠ .loc j) (hi1 : rd ρ1 i = some (.ls xs)) (hf : xs.length + ys.length ≤ 16777216) : ev Φ (.bin .add (.loc i) b) ρ = .ok (.ls (xs ++ ys)) ρ1 := by
  have h2 : prep b (ev Φ b) ρ = .ok (.o (.ls ys)) ρ1 := by
    have : prep b (ev Φ b) ρ = (ev Φ b ρ).bind fun x ρ' => .ok (.o x) ρ' := by cases b <;> first | rfl | exact absurd rfl (hl _)
    rw [this, hb]; rfl
  rw [ev, prep_loc, hi]
  show (prep b (ev Φ b) ρ).bind _ = _
  rw [h2]
  show ofO ((rd ρ1 i).bind fun p => binF .add p (.ls ys)) ρ1 = _
  rw [hi1]
  show ofO (if fits (xs.length + ys.length) = true then _ else _) ρ1 = _
  rw [if_pos (show fits _ = true from decide_eq_true hf)]; rfl
/-- .. the first a list in the hand -/
theorem ev_cat2 {Φ : Nat → List O → CR} {a b : IE} {ρ ρ1 ρ2 : Fm} {xs ys : List PyData} (ha : ev Φ a ρ = .ok (.ls xs) ρ1) (la : ∀ j, a ≠ .loc j) (hb : ev Φ b ρ1 = .ok (.ls ys) ρ2) (lb : ∀ j, b ≠ .loc j) (hf : xs.length + ys.length ≤ 16777216) : ev Φ (.bin .add a b) ρ = .ok (.ls (xs ++ ys)) ρ2 := by
  have h1 : prep a (ev Φ a) ρ = .ok (.o (.ls xs)) ρ1 := by
    have : prep a (ev Φ a) ρ = (ev Φ a ρ).bind fun x ρ' => .ok (.o x) ρ' := by cases a <;> first | rfl | exact absurd rfl (la _)
    rw [this, ha]; rfl
  have h2 : prep b (ev Φ b) ρ1 = .ok (.o (.ls ys)) ρ2 := by
    have : prep b (ev Φ b) ρ1 = (ev Φ b ρ1).bind fun x ρ' => .ok (.o x) ρ' := by cases b <;> first | rfl | exact absurd rfl (lb _)
    rw [this, hb]; rfl
  rw [ev, h1]
  show (prep b (ev Φ b) ρ1).bind _ = _
  rw [h2]
  show ofO (if fits (xs.length + ys.length) = true then _ else _) ρ2 = _
  rw [if_pos (show fits _ = true from decide_eq_true hf)]; rfl
theorem ev_lcM2 {Φ : Nat → List O → CR} {e : IE} {tg : Tg} {it : II} {vs : List Nat} {ρ ρ1 ρ0 : Fm} {ds : List D} {F : D → D} (h : evI Φ it ρ = .ok ds ρ1) (hh : kill vs (hide it ρ1) = ρ0) (hb : unhide ρ1 it (shown (hide it ρ1) vs ρ0) = ρ1) (hs : ∀ d ∈ ds, stepL Φ e tg .no vs d ρ0 = .ok (some (F d)) ρ0) (hl : ds.length ≤ 16777216) :
    ev Φ (.lc e tg it .no vs) ρ = .ok (.ls (ds.map F)) ρ1 := by
  have h1 := lcLoop_map (acc := []) hs (by simpa using hl)
  have := ev_lc (e := e) (tg := tg) (c := .no) (vs := vs) h (by rw [hh, h1]; rfl)
  rw [this, hb, List.nil_append]
theorem rep_sm {w k n : Nat} {d : PyData} (h : Sm w k d) : Sm (n * (w + 1) + 41) (k + 1) (.tuple (List.replicate n [d]).flatten) := by
  have e : (List.replicate n [d]).flatten = List.replicate n d := by
    induction n with
    | zero => rfl
    | succ n ih => rw [List.replicate_succ, List.flatten_cons, ih]; rfl
  rw [e]
  refine Sm.tuple (fun u hu => ?_) (by simp)
  rw [(List.mem_replicate.mp hu).2]; exact h
end GW

/-! GW, part 26: values that leave the frame alone. -/
namespace GW
open PySem
/-- a row of ints as a tuple -/
abbrev TI (row : List Int) : PyData := .tuple (row.map PyData.int)
/-- e is d, and the frame stays -/
structure PV (Φ : Nat → List O → CR) (e : IE) (ρ : Fm) (d : PyData) : Prop where
  pr : ∃ av, prep e (ev Φ e) ρ = .ok av ρ ∧ av.val ρ = some (.fz d) ∧ lend [av] ρ = some ([.fz d], ρ) ∧ ∀ ps, back ρ [av] ps ρ = ρ
  fr : frz (ev Φ e ρ) = .ok d ρ
section
variable {Φ : Nat → List O → CR} {ρ : Fm}
theorem pv_loc {i : Nat} {d : PyData} (h : rd ρ i = some (.fz d)) : PV Φ (.loc i) ρ d := by
  refine ⟨⟨.sl i, by rw [prep_loc, h]; rfl, h, ?_, fun ps => ?_⟩, ?_⟩
  · simp only [lend, h]; rfl
  · cases ps with
    | nil => simp only [back]
    | cons p ps => simp only [back, h]
  · rw [ev, evLoc, h]; rfl
theorem pv_ev {e : IE} {d : PyData} (hn : ∀ i, e ≠ .loc i) (h : ev Φ e ρ = .ok (.fz d) ρ) : PV Φ e ρ d := by
  have hp : prep e (ev Φ e) ρ = (ev Φ e ρ).bind fun x ρ' => .ok (.o x) ρ' := by
    cases e <;> first | rfl | exact absurd rfl (hn _)
  refine ⟨⟨.o (.fz d), by rw [hp, h]; rfl, rfl, rfl, fun ps => ?_⟩, by rw [h]; rfl⟩
  cases ps <;> simp only [back]
theorem PV.ev_ {e : IE} {d : PyData} (p : PV Φ e ρ d) (hn : ∀ i, e ≠ .loc i) : ev Φ e ρ = .ok (.fz d) ρ := by
  have hp : prep e (ev Φ e) ρ = (ev Φ e ρ).bind fun x ρ' => .ok (.o x) ρ' := by
    cases e <;> first | rfl | exact absurd rfl (hn _)
  obtain ⟨av, h1, h2, _⟩ := p.pr
  rw [hp] at h1
  cases h : ev Φ e ρ with
  | ok o ρ1 =>
    rw [h] at h1
    injection h1 with a b
    subst b a
    have h2 : some o = some (.fz d) := h2
    rw [Option.some.inj h2]
  | ex _ _ => rw [h] at h1; exact nomatch h1
  | bad => rw [h] at h1; exact nomatch h1
theorem pv_con {d : PyData} : PV Φ (.con d) ρ d := pv_ev (fun _ z => nomatch z) (by rw [ev])
theorem pv_glo {x : Str} {d : PyData} : PV Φ (.glo x d) ρ d := pv_ev (fun _ z => nomatch z) (by rw [ev])
theorem pv_bin {op : BOp} {a b : IE} {x y z : PyData} (ha : PV Φ a ρ x) (hb : PV Φ b ρ y) (h : binF op (.fz x) (.fz y) = some (.fz z)) : PV Φ (.bin op a b) ρ z := by
  refine pv_ev (fun _ z => nomatch z) ?_
  obtain ⟨u, a1, a2, _⟩ := ha.pr
  obtain ⟨v, b1, b2, _⟩ := hb.pr
  rw [ev, a1]
  show (prep b (ev Φ b) ρ).bind _ = _
  rw [b1]
  show ofO ((u.val ρ).bind fun p => (v.val ρ).bind fun q => binF op p q) ρ = _
  rw [a2, b2]
  show ofO (binF op (.fz x) (.fz y)) ρ = _
  rw [h]; rfl
theorem pv_cat {a b : IE} {u v : List Int} (ha : PV Φ a ρ (TI u)) (hb : PV Φ b ρ (TI v)) (h : u.length + v.length ≤ 16777216) : PV Φ (.bin .add a b) ρ (TI (u ++ v)) := by
  refine pv_bin ha hb ?_
  show (if fits _ = true then _ else _) = _
  rw [if_pos (show fits _ = true from decide_eq_true (by simpa using h)), TI, List.map_append]
theorem pv_add {a b : IE} {x y : Int} (ha : PV Φ a ρ (.int x)) (hb : PV Φ b ρ (.int y)) : PV Φ (.bin .add a b) ρ (.int (x + y)) := pv_bin ha hb rfl
theorem pv_sbt {a b : IE} {x y : Int} (ha : PV Φ a ρ (.int x)) (hb : PV Φ b ρ (.int y)) : PV Φ (.bin .sub a b) ρ (.int (x - y)) := pv_bin ha hb rfl
theorem pv_half {a : IE} {x : Int} (ha : PV Φ a ρ (.int x)) : PV Φ (.bin .fdiv a (.con (.int 2))) ρ (.int (x / 2)) := pv_bin ha pv_con rfl
theorem pv_call1 {a : IE} {f : Nat} {x y : PyData} (ha : PV Φ a ρ x) (h : Φ f [.fz x] = .ok (.fz y) [none]) : PV Φ (.call f (.cons a .nil)) ρ y := by
  refine pv_ev (fun _ z => nomatch z) ?_
  obtain ⟨u, a1, a2, a3, a4⟩ := ha.pr
  simp only [ev, evAs, a1, Res.bind, a3, h, called, a4]
theorem pv_sub {a : IE} {k : Int} {xs : List PyData} {d : PyData} (ha : PV Φ a ρ (.tuple xs)) (h : L2.atI xs k = some d) : PV Φ (.sub a (.con (.int k))) ρ d := by
  refine pv_ev (fun _ z => nomatch z) ?_
  obtain ⟨u, a1, a2, _⟩ := ha.pr
  have e2 : (AV.o (.fz (.int k))).val ρ = some (.fz (.int k)) := rfl
  simp only [ev, a1, Res.bind, prep_con, a2, e2, Option.bind_some, ixF, items, h, Option.map_some, ofO]
theorem pv_len {a : IE} {u : List Int} (ha : PV Φ a ρ (TI u)) : PV Φ (.bi .len (.cons a .nil)) ρ (.int u.length) := by
  refine pv_ev (fun _ z => nomatch z) ?_
  obtain ⟨x, a1, a2, _⟩ := ha.pr
  simp only [ev, evAs, a1, Res.bind, vals, a2, Option.bind_some, Option.map_some, biF, items, ofO, List.length_map]
theorem pv_tup2 {a b : IE} {x y : Int} (ha : PV Φ a ρ (.int x)) (hb : PV Φ b ρ (.int y)) : PV Φ (.tup (.cons a (.cons b .nil))) ρ (TI [x, y]) := by
  refine pv_ev (fun _ z => nomatch z) ?_
  rw [ev, evDs_cons ha.fr (evDs_cons hb.fr evDs_nil)]; rfl
theorem pv_eq {a b : IE} {x y : Int} (ha : PV Φ a ρ (.int x)) (hb : PV Φ b ρ (.int y)) : tst (.cmp .eq a b) (ev Φ (.cmp .eq a b)) ρ = .ok (decide (x = y)) ρ := by
  obtain ⟨u, a1, a2, _⟩ := ha.pr
  obtain ⟨v, b1, b2, _⟩ := hb.pr
  have : cmpF .eq (.fz (.int x)) (.fz (.int y)) = some (decide (x = y)) := by
    have e : PyData.eqv (.int x) (.int y) = decide (x = y) := by
      rw [eqv_int]
      by_cases q : x = y
      · subst q; simp
      · simp [q]
    show (if (SeqAt.shaped (.int x) && SeqAt.shaped (.int y)) = true then some (PyData.eqv (.int x) (.int y)) else none) = _
    rw [sh_int, sh_int, e]; rfl
  simp only [tst_cmp, ev, a1, Res.bind, b1, a2, b2, Option.bind_some, this, Option.map_some, ofO, truF]
theorem pv_asg {i : Nat} {e : IE} {d : PyData} {r : ISs} (h : PV Φ e ρ d) (hn : ∀ j, e ≠ .loc j) : exSs Φ (.cons (.asg i e) r) ρ = exSs Φ r (loS ρ i (.fz d)) := asg_cons (h.ev_ hn)
theorem pv_ret {e : IE} {d : PyData} {r : ISs} (h : PV Φ e ρ d) (hn : ∀ j, e ≠ .loc j) : exSs Φ (.cons (.ret e) r) ρ = .rt (.fz d) ρ := ret_ev hn (h.ev_ hn)
theorem es_asg {i : Nat} {e : IE} {d : PyData} {r : ISs} {os : List O} {R : CR} (h : PV Φ e ρ d) (hn : ∀ j, e ≠ .loc j) (hk : ends os (exSs Φ r (loS ρ i (.fz d))) = R) : ends os (exSs Φ (.cons (.asg i e) r) ρ) = R := by
  rw [pv_asg h hn, hk]
theorem es_ret {e : IE} {d : PyData} {r : ISs} {os : List O} (h : PV Φ e ρ d) (hn : ∀ j, e ≠ .loc j) : ends os (exSs Φ (.cons (.ret e) r) ρ) = .ok (.fz d) (fins os ρ) := by
  rw [pv_ret h hn, ends_rt]
theorem es_yes {c e : IE} {d : PyData} {q r : ISs} {os : List O} (h : tst c (ev Φ c) ρ = .ok true ρ) (h2 : PV Φ e ρ d) (hn : ∀ j, e ≠ .loc j) : ends os (exSs Φ (.cons (.iff c (.cons (.ret e) q) .nil) r) ρ) = .ok (.fz d) (fins os ρ) := by
  rw [iff_yes h (pv_ret h2 hn), ends_rt]
theorem es_no {c : IE} {a r : ISs} {os : List O} {R : CR} (h : tst c (ev Φ c) ρ = .ok false ρ) (hk : ends os (exSs Φ r ρ) = R) : ends os (exSs Φ (.cons (.iff c a .nil) r) ρ) = R := by
  rw [iff_no h, hk]
theorem es_set {c e : IE} {i : Nat} {d : PyData} {r : ISs} {os : List O} {R : CR} (h : tst c (ev Φ c) ρ = .ok true ρ) (h2 : PV Φ e ρ d) (hn : ∀ j, e ≠ .loc j) (hk : ends os (exSs Φ r (loS ρ i (.fz d))) = R) : ends os (exSs Φ (.cons (.iff c (.cons (.asg i e) .nil) .nil) r) ρ) = R := by
  rw [exSs_cons, exS, h]
  show ends os (SR.seq (exSs Φ _ ρ) _) = R
  rw [pv_asg h2 hn, exSs_nil]
  exact hk
theorem tst_yes {a b : IE} {x y : Int} (ha : PV Φ a ρ (.int x)) (hb : PV Φ b ρ (.int y)) (h : x = y) : tst (.cmp .eq a b) (ev Φ (.cmp .eq a b)) ρ = .ok true ρ := by
  rw [pv_eq ha hb, decide_eq_true h]
theorem tst_nay {a b : IE} {x y : Int} (ha : PV Φ a ρ (.int x)) (hb : PV Φ b ρ (.int y)) (h : ¬ x = y) : tst (.cmp .eq a b) (ev Φ (.cmp .eq a b)) ρ = .ok false ρ := by
  rw [pv_eq ha hb, decide_eq_false h]
end
end GW

/-! GW, part 27: drawn packets, their parts rows of ints. -/
namespace GW
open PySem
def B8 (row : List Int) : Prop := ∀ x ∈ row, 0 ≤ x ∧ x ≤ 255
def rE11 (fd : Nat) : IE := .sub (.tup (.cons (.call fd (.cons (.loc 0) (.cons (.con (.int 256)) .nil))) (.cons (.con (.int 0)) (.cons (.con (.int 255)) (.cons (.con (.int 1)) .nil))))) (.call fd (.cons (.loc 0) (.cons (.con (.int 4)) .nil)))
def lcR11 (fd : Nat) : IE := .lc (rE11 fd) (.nm 2) (.rng1 (.loc 1)) .no [2]
theorem lcR11_eq (fd : Nat) : lcR11 fd = .lc (rE11 fd) (.nm 2) (.rng1 (.loc 1)) .no [2] := rfl
def Brow (fd : Nat) : ISs := .cons (.ret (.bi .tuple (.cons (lcR11 fd) .nil))) .nil
def dRow (fd : Nat) : Df := ⟨"_law_row", ["pool", "many", "k"], 2, Brow fd⟩
def Bkind (fd : Nat) : ISs := .cons (.ret (.sub (.tup (.cons (.con (.int 6)) (.cons (.con (.int 6)) (.cons (.con (.int 17)) (.cons (.con (.int 1)) (.cons (.call fd (.cons (.loc 0) (.cons (.con (.int 256)) .nil))) .nil)))))) (.call fd (.cons (.loc 0) (.cons (.con (.int 5)) .nil))))) .nil
def dKind (fd : Nat) : Df := ⟨"_law_kind", ["pool"], 1, Bkind fd⟩
def Binh (fd fn : Nat) : ISs :=
  (.cons (.iff (.cmp .eq (.loc 1) (.con (.int 6)))
  (.cons (.ret (.tup (.cons (.call fn (.cons (.loc 0) (.cons (.con (.int 65535)) .nil))) (.cons (.call fn (.cons (.loc 0) (.cons (.con (.int 65535)) .nil))) (.cons (.call fd (.cons (.loc 0) (.cons (.con (.int 8)) .nil))) .nil)))))
  .nil)
  .nil)
  (.cons (.iff (.cmp .eq (.loc 1) (.con (.int 17)))
  (.cons (.ret (.tup (.cons (.call fn (.cons (.loc 0) (.cons (.con (.int 65535)) .nil))) (.cons (.call fn (.cons (.loc 0) (.cons (.con (.int 65535)) .nil))) .nil))))
  .nil)
  .nil)
  (.cons (.ret (.ife (.cmp .eq (.loc 1) (.con (.int 1))) (.tup (.cons (.call fd (.cons (.loc 0) (.cons (.con (.int 256)) .nil))) (.cons (.call fd (.cons (.loc 0) (.cons (.con (.int 256)) .nil))) .nil))) (.tup .nil)))
  .nil)))
def dInh (fd fn : Nat) : Df := ⟨"_law_inner", ["pool", "kind"], 2, Binh fd fn⟩
def qPkt (fd fi : Nat) : IE := .bin .add (.loc 3) (.tup (.cons (.loc 2) (.cons (.sub (.tup (.cons (.bin .add (.con (.int 1)) (.call fd (.cons (.loc 0) (.cons (.con (.int 255)) .nil)))) (.cons (.con (.int 1)) (.cons (.con (.int 2)) (.cons (.con (.int 64)) .nil))))) (.call fd (.cons (.loc 0) (.cons (.con (.int 4)) .nil)))) (.cons (.loc 4) (.cons (.call fi (.cons (.loc 0) (.cons (.loc 2) .nil))) (.cons (.loc 5) .nil))))))
def Bpkt (fd fn fr fk fi : Nat) : ISs := .cons (.asg 2 (.call fk (.cons (.loc 0) .nil))) (.cons (.asg 3 (.tup (.cons (.call fn (.cons (.loc 0) (.cons (.con (.int 65535)) .nil))) (.cons (.call fn (.cons (.loc 0) (.cons (.con (.int 65535)) .nil))) .nil)))) (.cons (.asg 4 (.call fr (.cons (.loc 0) (.cons (.bin .mul (.con (.int 2)) (.call fd (.cons (.loc 0) (.cons (.con (.int 5)) .nil)))) .nil)))) (.cons (.asg 5 (.call fr (.cons (.loc 0) (.cons (.call fd (.cons (.loc 0) (.cons (.bin .add (.loc 1) (.con (.int 1))) .nil))) .nil)))) (.cons (.ret (qPkt fd fi)) .nil))))
def dPkt (fd fn fr fk fi : Nat) : Df := ⟨"_law_packet", ["pool", "most", "kind", "ends", "options", "payload"], 2, Bpkt fd fn fr fk fi⟩
def RwI (Φ : Nat → List O → CR) (f : Nat) : Prop := ∀ (x : P5) (m : Int), 0 ≤ m → m ≤ 1000 → ∃ row y, Φ f [.ls (pl x), .fz (.int m)] = .ok (.fz (TI row)) [some (.ls (pl y)), none] ∧ B8 row ∧ (row.length : Int) = m
theorem ints8 : ∀ {ds : List PyData}, (∀ d ∈ ds, ∃ i : Int, d = .int i ∧ 0 ≤ i ∧ i ≤ 255) → ∃ row : List Int, ds = row.map PyData.int ∧ B8 row
  | [], _ => ⟨[], rfl, fun x h => by cases h⟩
  | d :: ds, h => by
    obtain ⟨i, rfl, hi⟩ := h d List.mem_cons_self
    obtain ⟨row, rfl, hr⟩ := ints8 fun e he => h e (List.mem_cons_of_mem _ he)
    refine ⟨i :: row, rfl, fun x hx => ?_⟩
    rcases List.mem_cons.mp hx with rfl | hx  -- gw
    · exact hi
    · exact hr x hx
theorem evT0 {Φ : Nat → List O → CR} {e : IE} {ρ ρ1 : Fm} {zs : List PyData} (h : prep e (ev Φ e) ρ = .ok (.o (.ls zs)) ρ1) : ev Φ (.bi .tuple (.cons e .nil)) ρ = .ok (.fz (.tuple zs)) ρ1 := by
  simp [exS, prep_fidx, tst_fidx, prep_sset, tst_sset, prep_lset, tst_lset, prep_rev, tst_rev, prep_idx, tst_idx, ev, evDs, evAs, evO, evC, evI, evPs, prep_dget, tst_dget, prep_loc, prep_con, prep_glo, prep_tup, prep_lst, prep_bin, prep_neg, prep_not, prep_cmp, prep_cmp2, prep_isN, prep_notN, prep_and, prep_or, prep_ife, prep_sub, prep_slc, prep_call, prep_bi, prep_isi, prep_lrg1, prep_lrg2, prep_lc, tst_loc, tst_con, tst_glo, tst_tup, tst_lst, tst_bin, tst_neg, tst_not, tst_cmp, tst_cmp2, tst_isN, tst_notN, tst_and, tst_or, tst_ife, tst_sub, tst_slc, tst_call, tst_bi, tst_isi, tst_lrg1, tst_lrg2, tst_lc, evLoc, frz, rd, putO, loS, unS, kill, Res.bind, Res.st, ofO, AV.val, Sl.get, Sl.put, vals, binF, biF, cmpF, eqF, truF, isiF, ixF, cutF, setF, appF, augF, retLoc, items, litems, noneB, asB, O.toD, O.own, SR.sat_nx, SR.sat_rt, SR.sat_bk, SR.sat_ct, SR.sat_map, SR.sat_seq, sat_ite, Res.sat_ok, sat_cons, sat_nil, sat_kil, lend, called, back, hide, unhide, fins, wee, fits, h]
theorem rwI_at {Φ : Nat → List O → CR} {fd : Nat} (D : DrawsF Φ fd) (x : P5) (m : Int) (h0 : 0 ≤ m) (h1 : m ≤ 1000) : ∃ row y, ends [.ls (pl x), .fz (.int m)] (exSs Φ (Brow fd) [.pa (.ls (pl x)), .pa (.fz (.int m)), .un]) = .ok (.fz (TI row)) [some (.ls (pl y)), none] ∧ B8 row ∧ (row.length : Int) = m := by
  have hr : rngOk m = true := by unfold rngOk; simp; omega
  have eI : evI Φ (.rng1 (.loc 1)) [.pa (.ls (pl x)), .pa (.fz (.int m)), .un] = .ok (rngD 0 m.toNat) [.pa (.ls (pl x)), .pa (.fz (.int m)), .un] := evI_rng1 (by rw [ev]; rfl) hr rfl
  have h : (noEx (lcLoop (stepL Φ (rE11 fd) (.nm 2) .no [2]) (rngD 0 m.toNat) [] (kill [2] [.pa (.ls (pl x)), .pa (.fz (.int m)), .un]))).sat fun xs ρ => ∃ y, ρ = [.pa (.ls (pl y)), .pa (.fz (.int m)), .un] ∧ (∀ d ∈ xs, ∃ i : Int, d = .int i ∧ 0 ≤ i ∧ i ≤ 255) ∧ (xs.length : Int) = m := by
    refine lcLoop_sat (fun ds acc ρ => (∀ d ∈ ds, ∃ k : Int, d = .int k) ∧ ∃ y, ρ = [.pa (.ls (pl y)), .pa (.fz (.int m)), .un] ∧ (∀ d ∈ acc, ∃ i : Int, d = .int i ∧ 0 ≤ i ∧ i ≤ 255) ∧ ((acc.length + ds.length : Nat) : Int) = m) ?_ ?_ ⟨fun d hd => ?_, x, rfl, by simp, by rw [rngD_length]; simp; omega⟩
    · rintro d ds acc ρ ⟨hds, y, rfl, ha, hc⟩
      obtain ⟨k, rfl⟩ := hds d List.mem_cons_self
      obtain ⟨r1, z, e1, g1⟩ := D y 256 (by decide) (by decide)
      obtain ⟨r2, z2, e2, g2⟩ := D z 4 (by decide) (by decide)
      obtain ⟨v, hm, ea⟩ := pickL (l := [r1, 0, 255, 1]) (r := r2) g2.1 (by simpa using g2.2)
      simp only [List.map_cons, List.map_nil] at ea
      simp only [List.mem_cons, List.not_mem_nil, or_false] at hm  -- gw
      rw [List.length_cons] at hc
      have st : stepL Φ (rE11 fd) (.nm 2) .no [2] (.int k) [.pa (.ls (pl y)), .pa (.fz (.int m)), .un] = .ok (some (.int v)) [.pa (.ls (pl z2)), .pa (.fz (.int m)), .un] := by
        unfold stepL
        simp only [asg1, ofO, Res.bind, evC, if_true]
        have h2 : ev Φ (rE11 fd) (loS [.pa (.ls (pl y)), .pa (.fz (.int m)), .un] 2 (.fz (.int k))) = .ok (.fz (.int v)) (loS [.pa (.ls (pl z2)), .pa (.fz (.int m)), .un] 2 (.fz (.int k))) := by unfold rE11; simp [exS, prep_fidx, tst_fidx, prep_sset, tst_sset, prep_lset, tst_lset, prep_rev, tst_rev, prep_idx, tst_idx, ev, evDs, evAs, evO, evC, evI, evPs, prep_dget, tst_dget, prep_loc, prep_con, prep_glo, prep_tup, prep_lst, prep_bin, prep_neg, prep_not, prep_cmp, prep_cmp2, prep_isN, prep_notN, prep_and, prep_or, prep_ife, prep_sub, prep_slc, prep_call, prep_bi, prep_isi, prep_lrg1, prep_lrg2, prep_lc, tst_loc, tst_con, tst_glo, tst_tup, tst_lst, tst_bin, tst_neg, tst_not, tst_cmp, tst_cmp2, tst_isN, tst_notN, tst_and, tst_or, tst_ife, tst_sub, tst_slc, tst_call, tst_bi, tst_isi, tst_lrg1, tst_lrg2, tst_lc, evLoc, frz, rd, putO, loS, unS, kill, Res.bind, Res.st, ofO, AV.val, Sl.get, Sl.put, vals, binF, biF, cmpF, eqF, truF, isiF, ixF, cutF, setF, appF, augF, retLoc, items, litems, noneB, asB, O.toD, O.own, SR.sat_nx, SR.sat_rt, SR.sat_bk, SR.sat_ct, SR.sat_map, SR.sat_seq, sat_ite, Res.sat_ok, sat_cons, sat_nil, sat_kil, lend, called, back, hide, unhide, fins, wee, fits, e1, e2, ea]
        rw [h2]; rfl
      rw [st]
      refine ⟨by omega, fun d h => hds d (List.mem_cons_of_mem _ h), z2, rfl, fun u hu => ?_, by rw [List.length_append, List.length_singleton]; omega⟩
      rcases List.mem_append.mp hu with q | q
      · exact ha u q
      · rw [List.mem_singleton.mp q]; exact ⟨v, rfl, by omega⟩
    · rintro acc ρ ⟨_, y, rfl, ha, hc⟩
      exact ⟨y, rfl, ha, by simpa using hc⟩
    · obtain ⟨k, _, e⟩ := rngD_mem hd
      exact ⟨_, e⟩
  obtain ⟨xs, ρ, e, y, rfl, hv, hc⟩ := rok_ h
  obtain ⟨row, rfl, hb⟩ := ints8 hv
  have el : ev Φ (lcR11 fd) [.pa (.ls (pl x)), .pa (.fz (.int m)), .un] = .ok (.ls (row.map PyData.int)) [.pa (.ls (pl y)), .pa (.fz (.int m)), .un] := by
    rw [lcR11_eq]; exact (ev_lc eI e).trans rfl
  have e2 : prep (lcR11 fd) (ev Φ (lcR11 fd)) [.pa (.ls (pl x)), .pa (.fz (.int m)), .un] = .ok (.o (.ls (row.map PyData.int))) [.pa (.ls (pl y)), .pa (.fz (.int m)), .un] := prep_lc_eq el
  refine ⟨row, y, ?_, hb, by simpa using hc⟩
  unfold Brow
  rw [ret_ev (by intro i z; cases z) (evT0 e2), ends_rt]; rfl
theorem rwI {T : List Df} {f fd n : Nat} (hf : T[f]? = some (dRow fd)) (D : DrawsF (callN T n) fd) : RwI (callN T (n + 1)) f := fun x m h0 h1 => by
  rw [callN_eq (n := n) hf rfl]
  exact rwI_at D x m h0 h1
def KdI (Φ : Nat → List O → CR) (f : Nat) : Prop := ∀ x : P5, ∃ (k : Int) (y : P5), Φ f [.ls (pl x)] = .ok (.fz (.int k)) [some (.ls (pl y))] ∧ 0 ≤ k ∧ k ≤ 255
theorem kdI {T : List Df} {f fd n : Nat} (hf : T[f]? = some (dKind fd)) (D : DrawsF (callN T n) fd) : KdI (callN T (n + 1)) f := fun x => by
  obtain ⟨r1, z, e1, g1⟩ := D x 256 (by decide) (by decide)
  obtain ⟨r2, z2, e2, g2⟩ := D z 5 (by decide) (by decide)
  obtain ⟨v, hm, ea⟩ := pickL (l := [6, 6, 17, 1, r1]) (r := r2) g2.1 (by simpa using g2.2)
  simp only [List.map_cons, List.map_nil] at ea
  simp only [List.mem_cons, List.not_mem_nil, or_false] at hm  -- gw
  refine ⟨v, z2, ?_, by omega, by omega⟩
  rw [callN_eq (n := n) hf rfl]
  show ends _ (exSs (callN T n) (Bkind fd) [.pa (.ls (pl x))]) = _
  generalize callN T n = Φ at e1 e2 ⊢
  unfold Bkind
  simp [exS, prep_fidx, tst_fidx, prep_sset, tst_sset, prep_lset, tst_lset, prep_rev, tst_rev, prep_idx, tst_idx, ev, evDs, evAs, evO, evC, evI, evPs, prep_dget, tst_dget, prep_loc, prep_con, prep_glo, prep_tup, prep_lst, prep_bin, prep_neg, prep_not, prep_cmp, prep_cmp2, prep_isN, prep_notN, prep_and, prep_or, prep_ife, prep_sub, prep_slc, prep_call, prep_bi, prep_isi, prep_lrg1, prep_lrg2, prep_lc, tst_loc, tst_con, tst_glo, tst_tup, tst_lst, tst_bin, tst_neg, tst_not, tst_cmp, tst_cmp2, tst_isN, tst_notN, tst_and, tst_or, tst_ife, tst_sub, tst_slc, tst_call, tst_bi, tst_isi, tst_lrg1, tst_lrg2, tst_lc, evLoc, frz, rd, putO, loS, unS, kill, Res.bind, Res.st, ofO, AV.val, Sl.get, Sl.put, vals, binF, biF, cmpF, eqF, truF, isiF, ixF, cutF, setF, appF, augF, retLoc, items, litems, noneB, asB, O.toD, O.own, SR.sat_nx, SR.sat_rt, SR.sat_bk, SR.sat_ct, SR.sat_map, SR.sat_seq, sat_ite, Res.sat_ok, sat_cons, sat_nil, sat_kil, lend, called, back, hide, unhide, fins, wee, fits, exSs_cons, exSs_nil, seq_nx, seq_rt, ends_rt, e1, e2, ea]
structure InhOk (k : Int) (is : List Int) : Prop where
  h6 : k = 6 → ∃ i j l, is = [i, j, l] ∧ (0 ≤ i ∧ i ≤ 65535) ∧ (0 ≤ j ∧ j ≤ 65535) ∧ (0 ≤ l ∧ l ≤ 7)
  h17 : k = 17 → ∃ i j, is = [i, j] ∧ (0 ≤ i ∧ i ≤ 65535) ∧ (0 ≤ j ∧ j ≤ 65535)
  h1 : k = 1 → ∃ i j, is = [i, j] ∧ (0 ≤ i ∧ i ≤ 255) ∧ (0 ≤ j ∧ j ≤ 255)
  h0 : k ≠ 6 → k ≠ 17 → k ≠ 1 → is = []
def InhI (Φ : Nat → List O → CR) (f : Nat) : Prop := ∀ (x : P5) (k : Int), ∃ is y, Φ f [.ls (pl x), .fz (.int k)] = .ok (.fz (TI is)) [some (.ls (pl y)), none] ∧ InhOk k is
theorem inhI_at {Φ : Nat → List O → CR} {fd fn : Nat} (D : DrawsF Φ fd) (M : NumF Φ fn) (x : P5) (k : Int) : ∃ is y, ends [.ls (pl x), .fz (.int k)] (exSs Φ (Binh fd fn) [.pa (.ls (pl x)), .pa (.fz (.int k))]) = .ok (.fz (TI is)) [some (.ls (pl y)), none] ∧ InhOk k is := by
  unfold Binh
  by_cases h1 : k = 6
  · subst h1
    obtain ⟨a, y1, e1, g1⟩ := M x 65535 (by decide) (by decide)
    obtain ⟨b, y2, e2, g2⟩ := M y1 65535 (by decide) (by decide)
    obtain ⟨c, y3, e3, g3⟩ := D y2 8 (by decide) (by decide)
    refine ⟨[a, b, c], y3, ?_, ⟨fun _ => ⟨a, b, c, rfl, g1, g2, by omega⟩, fun z => by omega, fun z => by omega, fun z => absurd rfl z⟩⟩
    simp [exS, prep_fidx, tst_fidx, prep_sset, tst_sset, prep_lset, tst_lset, prep_rev, tst_rev, prep_idx, tst_idx, ev, evDs, evAs, evO, evC, evI, evPs, prep_dget, tst_dget, prep_loc, prep_con, prep_glo, prep_tup, prep_lst, prep_bin, prep_neg, prep_not, prep_cmp, prep_cmp2, prep_isN, prep_notN, prep_and, prep_or, prep_ife, prep_sub, prep_slc, prep_call, prep_bi, prep_isi, prep_lrg1, prep_lrg2, prep_lc, tst_loc, tst_con, tst_glo, tst_tup, tst_lst, tst_bin, tst_neg, tst_not, tst_cmp, tst_cmp2, tst_isN, tst_notN, tst_and, tst_or, tst_ife, tst_sub, tst_slc, tst_call, tst_bi, tst_isi, tst_lrg1, tst_lrg2, tst_lc, evLoc, frz, rd, putO, loS, unS, kill, Res.bind, Res.st, ofO, AV.val, Sl.get, Sl.put, vals, binF, biF, cmpF, eqF, truF, isiF, ixF, cutF, setF, appF, augF, retLoc, items, litems, noneB, asB, O.toD, O.own, SR.sat_nx, SR.sat_rt, SR.sat_bk, SR.sat_ct, SR.sat_map, SR.sat_seq, sat_ite, Res.sat_ok, sat_cons, sat_nil, sat_kil, lend, called, back, hide, unhide, fins, wee, fits, exSs_cons, exSs_nil, seq_nx, seq_rt, ends_rt, sh_int, eqv_int, e1, e2, e3]
  by_cases h2 : k = 17
  · subst h2
    obtain ⟨a, y1, e1, g1⟩ := M x 65535 (by decide) (by decide)
    obtain ⟨b, y2, e2, g2⟩ := M y1 65535 (by decide) (by decide)
    refine ⟨[a, b], y2, ?_, ⟨fun z => by omega, fun _ => ⟨a, b, rfl, g1, g2⟩, fun z => by omega, fun _ z => absurd rfl z⟩⟩
    simp [exS, prep_fidx, tst_fidx, prep_sset, tst_sset, prep_lset, tst_lset, prep_rev, tst_rev, prep_idx, tst_idx, ev, evDs, evAs, evO, evC, evI, evPs, prep_dget, tst_dget, prep_loc, prep_con, prep_glo, prep_tup, prep_lst, prep_bin, prep_neg, prep_not, prep_cmp, prep_cmp2, prep_isN, prep_notN, prep_and, prep_or, prep_ife, prep_sub, prep_slc, prep_call, prep_bi, prep_isi, prep_lrg1, prep_lrg2, prep_lc, tst_loc, tst_con, tst_glo, tst_tup, tst_lst, tst_bin, tst_neg, tst_not, tst_cmp, tst_cmp2, tst_isN, tst_notN, tst_and, tst_or, tst_ife, tst_sub, tst_slc, tst_call, tst_bi, tst_isi, tst_lrg1, tst_lrg2, tst_lc, evLoc, frz, rd, putO, loS, unS, kill, Res.bind, Res.st, ofO, AV.val, Sl.get, Sl.put, vals, binF, biF, cmpF, eqF, truF, isiF, ixF, cutF, setF, appF, augF, retLoc, items, litems, noneB, asB, O.toD, O.own, SR.sat_nx, SR.sat_rt, SR.sat_bk, SR.sat_ct, SR.sat_map, SR.sat_seq, sat_ite, Res.sat_ok, sat_cons, sat_nil, sat_kil, lend, called, back, hide, unhide, fins, wee, fits, exSs_cons, exSs_nil, seq_nx, seq_rt, ends_rt, sh_int, eqv_int, e1, e2]
  by_cases h3 : k = 1
  · subst h3
    obtain ⟨a, y1, e1, g1⟩ := D x 256 (by decide) (by decide)
    obtain ⟨b, y2, e2, g2⟩ := D y1 256 (by decide) (by decide)
    refine ⟨[a, b], y2, ?_, ⟨fun z => by omega, fun z => by omega, fun _ => ⟨a, b, rfl, by omega, by omega⟩, fun _ _ z => absurd rfl z⟩⟩
    simp [exS, prep_fidx, tst_fidx, prep_sset, tst_sset, prep_lset, tst_lset, prep_rev, tst_rev, prep_idx, tst_idx, ev, evDs, evAs, evO, evC, evI, evPs, prep_dget, tst_dget, prep_loc, prep_con, prep_glo, prep_tup, prep_lst, prep_bin, prep_neg, prep_not, prep_cmp, prep_cmp2, prep_isN, prep_notN, prep_and, prep_or, prep_ife, prep_sub, prep_slc, prep_call, prep_bi, prep_isi, prep_lrg1, prep_lrg2, prep_lc, tst_loc, tst_con, tst_glo, tst_tup, tst_lst, tst_bin, tst_neg, tst_not, tst_cmp, tst_cmp2, tst_isN, tst_notN, tst_and, tst_or, tst_ife, tst_sub, tst_slc, tst_call, tst_bi, tst_isi, tst_lrg1, tst_lrg2, tst_lc, evLoc, frz, rd, putO, loS, unS, kill, Res.bind, Res.st, ofO, AV.val, Sl.get, Sl.put, vals, binF, biF, cmpF, eqF, truF, isiF, ixF, cutF, setF, appF, augF, retLoc, items, litems, noneB, asB, O.toD, O.own, SR.sat_nx, SR.sat_rt, SR.sat_bk, SR.sat_ct, SR.sat_map, SR.sat_seq, sat_ite, Res.sat_ok, sat_cons, sat_nil, sat_kil, lend, called, back, hide, unhide, fins, wee, fits, exSs_cons, exSs_nil, seq_nx, seq_rt, ends_rt, sh_int, eqv_int, e1, e2]
  · refine ⟨[], x, ?_, ⟨fun z => absurd z h1, fun z => absurd z h2, fun z => absurd z h3, fun _ _ _ => rfl⟩⟩
    simp [exS, prep_fidx, tst_fidx, prep_sset, tst_sset, prep_lset, tst_lset, prep_rev, tst_rev, prep_idx, tst_idx, ev, evDs, evAs, evO, evC, evI, evPs, prep_dget, tst_dget, prep_loc, prep_con, prep_glo, prep_tup, prep_lst, prep_bin, prep_neg, prep_not, prep_cmp, prep_cmp2, prep_isN, prep_notN, prep_and, prep_or, prep_ife, prep_sub, prep_slc, prep_call, prep_bi, prep_isi, prep_lrg1, prep_lrg2, prep_lc, tst_loc, tst_con, tst_glo, tst_tup, tst_lst, tst_bin, tst_neg, tst_not, tst_cmp, tst_cmp2, tst_isN, tst_notN, tst_and, tst_or, tst_ife, tst_sub, tst_slc, tst_call, tst_bi, tst_isi, tst_lrg1, tst_lrg2, tst_lc, evLoc, frz, rd, putO, loS, unS, kill, Res.bind, Res.st, ofO, AV.val, Sl.get, Sl.put, vals, binF, biF, cmpF, eqF, truF, isiF, ixF, cutF, setF, appF, augF, retLoc, items, litems, noneB, asB, O.toD, O.own, SR.sat_nx, SR.sat_rt, SR.sat_bk, SR.sat_ct, SR.sat_map, SR.sat_seq, sat_ite, Res.sat_ok, sat_cons, sat_nil, sat_kil, lend, called, back, hide, unhide, fins, wee, fits, exSs_cons, exSs_nil, seq_nx, seq_rt, ends_rt, sh_int, eqv_int, h1, h2, h3]
theorem inhI {T : List Df} {f fd fn n : Nat} (hf : T[f]? = some (dInh fd fn)) (D : DrawsF (callN T n) fd) (M : NumF (callN T n) fn) : InhI (callN T (n + 1)) f := fun x k => by
  rw [callN_eq (n := n) hf rfl]
  exact inhI_at D M x k
abbrev PkD (a b t k : Int) (os is ps : List Int) : PyData := .tuple [.int a, .int b, .int k, .int t, TI os, TI is, TI ps]
structure PkI (a b t k : Int) (os is ps : List Int) (m : Int) : Prop where
  ha : 0 ≤ a ∧ a ≤ 65535
  hb : 0 ≤ b ∧ b ≤ 65535
  ht : 1 ≤ t ∧ t ≤ 255
  hk : 0 ≤ k ∧ k ≤ 255
  so : B8 os
  lo : os.length ≤ 8
  l2 : os.length % 2 = 0
  hi : InhOk k is
  sp : B8 ps
  lp : (ps.length : Int) ≤ m
def PktI (Φ : Nat → List O → CR) (f : Nat) : Prop := ∀ (x : P5) (m : Int), 0 ≤ m → m ≤ 1000 → ∃ a b t k os is ps y, Φ f [.ls (pl x), .fz (.int m)] = .ok (.fz (PkD a b t k os is ps)) [some (.ls (pl y)), none] ∧ PkI a b t k os is ps m
theorem pktI_at {Φ : Nat → List O → CR} {fd fn fr fk fi : Nat} (D : DrawsF Φ fd) (M : NumF Φ fn) (R : RwI Φ fr) (K : KdI Φ fk) (I : InhI Φ fi) (x : P5) (m : Int) (m0 : 0 ≤ m) (m1 : m ≤ 1000) : ∃ a b t k os is ps y r, exSs Φ (Bpkt fd fn fr fk fi) [.pa (.ls (pl x)), .pa (.fz (.int m)), .un, .un, .un, .un] = .rt (.fz (PkD a b t k os is ps)) (.pa (.ls (pl y)) :: .pa (.fz (.int m)) :: r) ∧ PkI a b t k os is ps m := by
  obtain ⟨k, y1, e1, gk⟩ := K x
  obtain ⟨a, y2, e2, ga⟩ := M y1 65535 (by decide) (by decide)
  obtain ⟨b, y3, e3, gb⟩ := M y2 65535 (by decide) (by decide)
  obtain ⟨r1, y4, e4, g4⟩ := D y3 5 (by decide) (by decide)
  obtain ⟨os, y5, e5, so, lo⟩ := R y4 (2 * r1) (by omega) (by omega)
  obtain ⟨r2, y6, e6, g6⟩ := D y5 (m + 1) (by omega) (by omega)
  obtain ⟨ps, y7, e7, sp, lp⟩ := R y6 r2 (by omega) (by omega)
  obtain ⟨r3, y8, e8, g8⟩ := D y7 255 (by decide) (by decide)
  obtain ⟨r4, y9, e9, g9⟩ := D y8 4 (by decide) (by decide)
  obtain ⟨t, hm, ea⟩ := pickL (l := [1 + r3, 1, 2, 64]) (r := r4) g9.1 (by simpa using g9.2)
  obtain ⟨is, y10, e10, hi⟩ := I y9 k
  simp only [List.map_cons, List.map_nil] at ea
  simp only [List.mem_cons, List.not_mem_nil, or_false] at hm  -- gw
  have h1 : ev Φ (.call fk (.cons (.loc 0) .nil)) [.pa (.ls (pl x)), .pa (.fz (.int m)), .un, .un, .un, .un] = .ok (.fz (.int k)) [.pa (.ls (pl y1)), .pa (.fz (.int m)), .un, .un, .un, .un] := by simp [exS, prep_fidx, tst_fidx, prep_sset, tst_sset, prep_lset, tst_lset, prep_rev, tst_rev, prep_idx, tst_idx, ev, evDs, evAs, evO, evC, evI, evPs, prep_dget, tst_dget, prep_loc, prep_con, prep_glo, prep_tup, prep_lst, prep_bin, prep_neg, prep_not, prep_cmp, prep_cmp2, prep_isN, prep_notN, prep_and, prep_or, prep_ife, prep_sub, prep_slc, prep_call, prep_bi, prep_isi, prep_lrg1, prep_lrg2, prep_lc, tst_loc, tst_con, tst_glo, tst_tup, tst_lst, tst_bin, tst_neg, tst_not, tst_cmp, tst_cmp2, tst_isN, tst_notN, tst_and, tst_or, tst_ife, tst_sub, tst_slc, tst_call, tst_bi, tst_isi, tst_lrg1, tst_lrg2, tst_lc, evLoc, frz, rd, putO, loS, unS, kill, Res.bind, Res.st, ofO, AV.val, Sl.get, Sl.put, vals, binF, biF, cmpF, eqF, truF, isiF, ixF, cutF, setF, appF, augF, retLoc, items, litems, noneB, asB, O.toD, O.own, SR.sat_nx, SR.sat_rt, SR.sat_bk, SR.sat_ct, SR.sat_map, SR.sat_seq, sat_ite, Res.sat_ok, sat_cons, sat_nil, sat_kil, lend, called, back, hide, unhide, fins, wee, fits, e1]
  have h2 : ev Φ (.tup (.cons (.call fn (.cons (.loc 0) (.cons (.con (.int 65535)) .nil))) (.cons (.call fn (.cons (.loc 0) (.cons (.con (.int 65535)) .nil))) .nil))) [.pa (.ls (pl y1)), .pa (.fz (.int m)), .lo (.fz (.int k)), .un, .un, .un] = .ok (.fz (.tuple [.int a, .int b])) [.pa (.ls (pl y3)), .pa (.fz (.int m)), .lo (.fz (.int k)), .un, .un, .un] := by simp [exS, prep_fidx, tst_fidx, prep_sset, tst_sset, prep_lset, tst_lset, prep_rev, tst_rev, prep_idx, tst_idx, ev, evDs, evAs, evO, evC, evI, evPs, prep_dget, tst_dget, prep_loc, prep_con, prep_glo, prep_tup, prep_lst, prep_bin, prep_neg, prep_not, prep_cmp, prep_cmp2, prep_isN, prep_notN, prep_and, prep_or, prep_ife, prep_sub, prep_slc, prep_call, prep_bi, prep_isi, prep_lrg1, prep_lrg2, prep_lc, tst_loc, tst_con, tst_glo, tst_tup, tst_lst, tst_bin, tst_neg, tst_not, tst_cmp, tst_cmp2, tst_isN, tst_notN, tst_and, tst_or, tst_ife, tst_sub, tst_slc, tst_call, tst_bi, tst_isi, tst_lrg1, tst_lrg2, tst_lc, evLoc, frz, rd, putO, loS, unS, kill, Res.bind, Res.st, ofO, AV.val, Sl.get, Sl.put, vals, binF, biF, cmpF, eqF, truF, isiF, ixF, cutF, setF, appF, augF, retLoc, items, litems, noneB, asB, O.toD, O.own, SR.sat_nx, SR.sat_rt, SR.sat_bk, SR.sat_ct, SR.sat_map, SR.sat_seq, sat_ite, Res.sat_ok, sat_cons, sat_nil, sat_kil, lend, called, back, hide, unhide, fins, wee, fits, e2, e3]
  have h3 : ev Φ (.call fr (.cons (.loc 0) (.cons (.bin .mul (.con (.int 2)) (.call fd (.cons (.loc 0) (.cons (.con (.int 5)) .nil)))) .nil))) [.pa (.ls (pl y3)), .pa (.fz (.int m)), .lo (.fz (.int k)), .lo (.fz (.tuple [.int a, .int b])), .un, .un] = .ok (.fz (TI os)) [.pa (.ls (pl y5)), .pa (.fz (.int m)), .lo (.fz (.int k)), .lo (.fz (.tuple [.int a, .int b])), .un, .un] := by simp [exS, prep_fidx, tst_fidx, prep_sset, tst_sset, prep_lset, tst_lset, prep_rev, tst_rev, prep_idx, tst_idx, ev, evDs, evAs, evO, evC, evI, evPs, prep_dget, tst_dget, prep_loc, prep_con, prep_glo, prep_tup, prep_lst, prep_bin, prep_neg, prep_not, prep_cmp, prep_cmp2, prep_isN, prep_notN, prep_and, prep_or, prep_ife, prep_sub, prep_slc, prep_call, prep_bi, prep_isi, prep_lrg1, prep_lrg2, prep_lc, tst_loc, tst_con, tst_glo, tst_tup, tst_lst, tst_bin, tst_neg, tst_not, tst_cmp, tst_cmp2, tst_isN, tst_notN, tst_and, tst_or, tst_ife, tst_sub, tst_slc, tst_call, tst_bi, tst_isi, tst_lrg1, tst_lrg2, tst_lc, evLoc, frz, rd, putO, loS, unS, kill, Res.bind, Res.st, ofO, AV.val, Sl.get, Sl.put, vals, binF, biF, cmpF, eqF, truF, isiF, ixF, cutF, setF, appF, augF, retLoc, items, litems, noneB, asB, O.toD, O.own, SR.sat_nx, SR.sat_rt, SR.sat_bk, SR.sat_ct, SR.sat_map, SR.sat_seq, sat_ite, Res.sat_ok, sat_cons, sat_nil, sat_kil, lend, called, back, hide, unhide, fins, wee, fits, e4, e5]
  have h4 : ev Φ (.call fr (.cons (.loc 0) (.cons (.call fd (.cons (.loc 0) (.cons (.bin .add (.loc 1) (.con (.int 1))) .nil))) .nil))) [.pa (.ls (pl y5)), .pa (.fz (.int m)), .lo (.fz (.int k)), .lo (.fz (.tuple [.int a, .int b])), .lo (.fz (TI os)), .un] = .ok (.fz (TI ps)) [.pa (.ls (pl y7)), .pa (.fz (.int m)), .lo (.fz (.int k)), .lo (.fz (.tuple [.int a, .int b])), .lo (.fz (TI os)), .un] := by simp [exS, prep_fidx, tst_fidx, prep_sset, tst_sset, prep_lset, tst_lset, prep_rev, tst_rev, prep_idx, tst_idx, ev, evDs, evAs, evO, evC, evI, evPs, prep_dget, tst_dget, prep_loc, prep_con, prep_glo, prep_tup, prep_lst, prep_bin, prep_neg, prep_not, prep_cmp, prep_cmp2, prep_isN, prep_notN, prep_and, prep_or, prep_ife, prep_sub, prep_slc, prep_call, prep_bi, prep_isi, prep_lrg1, prep_lrg2, prep_lc, tst_loc, tst_con, tst_glo, tst_tup, tst_lst, tst_bin, tst_neg, tst_not, tst_cmp, tst_cmp2, tst_isN, tst_notN, tst_and, tst_or, tst_ife, tst_sub, tst_slc, tst_call, tst_bi, tst_isi, tst_lrg1, tst_lrg2, tst_lc, evLoc, frz, rd, putO, loS, unS, kill, Res.bind, Res.st, ofO, AV.val, Sl.get, Sl.put, vals, binF, biF, cmpF, eqF, truF, isiF, ixF, cutF, setF, appF, augF, retLoc, items, litems, noneB, asB, O.toD, O.own, SR.sat_nx, SR.sat_rt, SR.sat_bk, SR.sat_ct, SR.sat_map, SR.sat_seq, sat_ite, Res.sat_ok, sat_cons, sat_nil, sat_kil, lend, called, back, hide, unhide, fins, wee, fits, e6, e7]
  have h5 : ev Φ (qPkt fd fi) [.pa (.ls (pl y7)), .pa (.fz (.int m)), .lo (.fz (.int k)), .lo (.fz (.tuple [.int a, .int b])), .lo (.fz (TI os)), .lo (.fz (TI ps))] = .ok (.fz (PkD a b t k os is ps)) [.pa (.ls (pl y10)), .pa (.fz (.int m)), .lo (.fz (.int k)), .lo (.fz (.tuple [.int a, .int b])), .lo (.fz (TI os)), .lo (.fz (TI ps))] := by
    unfold qPkt; simp [exS, prep_fidx, tst_fidx, prep_sset, tst_sset, prep_lset, tst_lset, prep_rev, tst_rev, prep_idx, tst_idx, ev, evDs, evAs, evO, evC, evI, evPs, prep_dget, tst_dget, prep_loc, prep_con, prep_glo, prep_tup, prep_lst, prep_bin, prep_neg, prep_not, prep_cmp, prep_cmp2, prep_isN, prep_notN, prep_and, prep_or, prep_ife, prep_sub, prep_slc, prep_call, prep_bi, prep_isi, prep_lrg1, prep_lrg2, prep_lc, tst_loc, tst_con, tst_glo, tst_tup, tst_lst, tst_bin, tst_neg, tst_not, tst_cmp, tst_cmp2, tst_isN, tst_notN, tst_and, tst_or, tst_ife, tst_sub, tst_slc, tst_call, tst_bi, tst_isi, tst_lrg1, tst_lrg2, tst_lc, evLoc, frz, rd, putO, loS, unS, kill, Res.bind, Res.st, ofO, AV.val, Sl.get, Sl.put, vals, binF, biF, cmpF, eqF, truF, isiF, ixF, cutF, setF, appF, augF, retLoc, items, litems, noneB, asB, O.toD, O.own, SR.sat_nx, SR.sat_rt, SR.sat_bk, SR.sat_ct, SR.sat_map, SR.sat_seq, sat_ite, Res.sat_ok, sat_cons, sat_nil, sat_kil, lend, called, back, hide, unhide, fins, wee, fits, e8, e9, ea, e10]
  refine ⟨a, b, t, k, os, is, ps, y10, [.lo (.fz (.int k)), .lo (.fz (.tuple [.int a, .int b])), .lo (.fz (TI os)), .lo (.fz (TI ps))], ?_, ⟨ga, gb, by omega, gk, so, by omega, by omega, hi, sp, by omega⟩⟩
  unfold Bpkt
  rw [asg_cons h1]
  show exSs Φ _ [.pa (.ls (pl y1)), .pa (.fz (.int m)), .lo (.fz (.int k)), .un, .un, .un] = _
  rw [asg_cons h2]
  show exSs Φ _ [.pa (.ls (pl y3)), .pa (.fz (.int m)), .lo (.fz (.int k)), .lo (.fz (.tuple [.int a, .int b])), .un, .un] = _
  rw [asg_cons h3]
  show exSs Φ _ [.pa (.ls (pl y5)), .pa (.fz (.int m)), .lo (.fz (.int k)), .lo (.fz (.tuple [.int a, .int b])), .lo (.fz (TI os)), .un] = _
  rw [asg_cons h4]
  show exSs Φ _ [.pa (.ls (pl y7)), .pa (.fz (.int m)), .lo (.fz (.int k)), .lo (.fz (.tuple [.int a, .int b])), .lo (.fz (TI os)), .lo (.fz (TI ps))] = _
  rw [ret_ev (by intro i z; unfold qPkt at z; cases z) h5]
theorem pktI {T : List Df} {f fd fn fr fk fi n : Nat} (hf : T[f]? = some (dPkt fd fn fr fk fi)) (D : DrawsF (callN T n) fd) (M : NumF (callN T n) fn) (R : RwI (callN T n) fr) (K : KdI (callN T n) fk) (I : InhI (callN T n) fi) : PktI (callN T (n + 1)) f := fun x m m0 m1 => by
  obtain ⟨a, b, t, k, os, is, ps, y, r, e, ok⟩ := pktI_at D M R K I x m m0 m1
  refine ⟨a, b, t, k, os, is, ps, y, ?_, ok⟩
  rw [callN_eq (n := n) hf rfl]
  have e2 : exSs (callN T n) (dPkt fd fn fr fk fi).body (frame0 (dPkt fd fn fr fk fi).N.length [.ls (pl x), .fz (.int m)]) = _ := e
  rw [e2]
  cases r <;> rfl
end GW

/-! GW, part 28: more of values that leave the frame alone. -/
namespace GW
open PySem
section
variable {Φ : Nat → List O → CR} {ρ : Fm}
theorem PV.evF {e : IE} {d : PyData} (p : PV Φ e ρ d) : ev Φ e ρ = .ok (.fz d) ρ := by
  by_cases h : ∃ i, e = .loc i
  · obtain ⟨i, rfl⟩ := h
    obtain ⟨av, h1, h2, _⟩ := p.pr
    rw [prep_loc] at h1
    split at h1
    · injection h1 with a
      subst a
      have h2 : rd ρ i = some (.fz d) := h2
      rw [ev, evLoc, h2]
    · cases h1
  · exact p.ev_ fun i z => h ⟨i, z⟩
theorem pv_is {e : IE} {d d2 : PyData} (p : PV Φ e ρ d) (h : d = d2) : PV Φ e ρ d2 := h ▸ p
theorem tst_of {e : IE} {c : Bool} (p : PV Φ e ρ (.bool c)) : tst e (ev Φ e) ρ = .ok c ρ := by
  by_cases h : ∃ i, e = .loc i
  · obtain ⟨i, rfl⟩ := h
    obtain ⟨av, h1, h2, _⟩ := p.pr
    rw [prep_loc] at h1
    split at h1
    · injection h1 with a
      subst a
      have h2 : rd ρ i = some (.fz (.bool c)) := h2
      rw [tst_loc, h2]; rfl
    · cases h1
  · have ht : tst e (ev Φ e) ρ = (ev Φ e ρ).bind fun x ρ' => ofO (truF x) ρ' := by
      cases e <;> first | rfl | exact absurd ⟨_, rfl⟩ h
    rw [ht, p.evF]; rfl
theorem pv_ifeT {c a b : IE} {d : PyData} (h : PV Φ c ρ (.bool true)) (ha : PV Φ a ρ d) : PV Φ (.ife c a b) ρ d := by
  refine pv_ev (fun _ z => nomatch z) ?_
  rw [ev, tst_of h]
  exact ha.evF
theorem pv_ifeF {c a b : IE} {d : PyData} (h : PV Φ c ρ (.bool false)) (hb : PV Φ b ρ d) : PV Φ (.ife c a b) ρ d := by
  refine pv_ev (fun _ z => nomatch z) ?_
  rw [ev, tst_of h]
  exact hb.evF
theorem pv_ife {c a b : IE} {k : Bool} {d : PyData} (h : PV Φ c ρ (.bool k)) (ha : k = true → PV Φ a ρ d) (hb : k = false → PV Φ b ρ d) : PV Φ (.ife c a b) ρ d := by
  cases k with
  | true => exact pv_ifeT h (ha rfl)
  | false => exact pv_ifeF h (hb rfl)
/-! ### slices -/
theorem pv_slcH {a : IE} {xs : List PyData} {n : Int} (ha : PV Φ a ρ (.tuple xs)) : PV Φ (.slc a .no (.so (.con (.int n)))) ρ (.tuple (cutL xs none (some n))) := by
  refine pv_ev (fun _ z => nomatch z) ?_
  obtain ⟨u, a1, a2, _⟩ := ha.pr
  simp only [ev, a1, Res.bind, evO, a2, Option.bind_some, cutF, ofO]
theorem pv_slcL {a : IE} {xs : List PyData} {n : Int} (ha : PV Φ a ρ (.tuple xs)) : PV Φ (.slc a (.so (.con (.int n))) .no) ρ (.tuple (cutL xs (some n) none)) := by
  refine pv_ev (fun _ z => nomatch z) ?_
  obtain ⟨u, a1, a2, _⟩ := ha.pr
  simp only [ev, a1, Res.bind, evO, a2, Option.bind_some, cutF, ofO]
theorem pv_slcB {a : IE} {xs : List PyData} {n m : Int} (ha : PV Φ a ρ (.tuple xs)) : PV Φ (.slc a (.so (.con (.int n))) (.so (.con (.int m)))) ρ (.tuple (cutL xs (some n) (some m))) := by
  refine pv_ev (fun _ z => nomatch z) ?_
  obtain ⟨u, a1, a2, _⟩ := ha.pr
  simp only [ev, a1, Res.bind, evO, a2, Option.bind_some, cutF, ofO]
/-! ### an item of a tuple, any index -/
theorem pv_item {a b : IE} {k : Int} {xs : List PyData} {d : PyData} (ha : PV Φ a ρ (.tuple xs)) (hb : PV Φ b ρ (.int k)) (h : L2.atI xs k = some d) : PV Φ (.sub a b) ρ d := by
  refine pv_ev (fun _ z => nomatch z) ?_
  obtain ⟨u, a1, a2, _⟩ := ha.pr
  obtain ⟨v, b1, b2, _⟩ := hb.pr
  simp only [ev, a1, Res.bind, b1, a2, b2, Option.bind_some, ixF, items, h, Option.map_some, ofO]
/-! ### tuples -/
def PVs (Φ : Nat → List O → CR) (es : IEs) (ρ : Fm) (ds : List PyData) : Prop := evDs Φ es ρ = .ok ds ρ
theorem pvs_nil : PVs Φ .nil ρ [] := evDs_nil
theorem pvs_cons {e : IE} {es : IEs} {d : PyData} {ds : List PyData} (h : PV Φ e ρ d) (t : PVs Φ es ρ ds) : PVs Φ (.cons e es) ρ (d :: ds) := evDs_cons h.fr t
theorem pv_tup {es : IEs} {ds : List PyData} (h : PVs Φ es ρ ds) : PV Φ (.tup es) ρ (.tuple ds) := by
  refine pv_ev (fun _ z => nomatch z) ?_
  unfold PVs at h
  rw [ev, h]; rfl
theorem pv_catD {a b : IE} {u v : List PyData} (ha : PV Φ a ρ (.tuple u)) (hb : PV Φ b ρ (.tuple v)) (h : u.length + v.length ≤ 16777216) : PV Φ (.bin .add a b) ρ (.tuple (u ++ v)) := by
  refine pv_bin ha hb ?_
  show (if fits _ = true then _ else _) = _
  rw [if_pos (show fits _ = true from decide_eq_true h)]
theorem pv_lenD {a : IE} {u : List PyData} (ha : PV Φ a ρ (.tuple u)) : PV Φ (.bi .len (.cons a .nil)) ρ (.int u.length) := by
  refine pv_ev (fun _ z => nomatch z) ?_
  obtain ⟨x, a1, a2, _⟩ := ha.pr
  simp only [ev, evAs, a1, Res.bind, vals, a2, Option.bind_some, Option.map_some, biF, items, ofO]
theorem pv_rep {a b : IE} {d : PyData} {k : Int} (ha : PV Φ a ρ (.tuple [d])) (hb : PV Φ b ρ (.int k)) (h : 0 ≤ k ∧ k ≤ 1000000) : PV Φ (.bin .mul a b) ρ (.tuple (List.replicate k.toNat d)) := by
  have e : ∀ n : Nat, (List.replicate n [d]).flatten = List.replicate n d := fun n => by
    induction n with
    | zero => rfl
    | succ n ih => rw [List.replicate_succ, List.flatten_cons, ih]; rfl
  refine pv_bin ha hb ?_
  have hl : [d].length * k.toNat ≤ 1000000 := by rw [List.length_singleton]; omega
  show (if (decide (0 ≤ k ∧ k ≤ 1000000) && !([d].isEmpty) && decide ([d].length * k.toNat ≤ 1000000)) = true then _ else _) = _
  rw [if_pos (by rw [decide_eq_true h, decide_eq_true hl]; rfl), e]
/-! ### ints -/
theorem pv_mulI {a b : IE} {x y : Int} (ha : PV Φ a ρ (.int x)) (hb : PV Φ b ρ (.int y)) (h : (wee x || wee y) = true) : PV Φ (.bin .mul a b) ρ (.int (x * y)) := by
  refine pv_bin ha hb ?_
  show (if (wee x || wee y) = true then _ else _) = _
  rw [if_pos h]
theorem pv_fdivI {a b : IE} {x y : Int} (ha : PV Φ a ρ (.int x)) (hb : PV Φ b ρ (.int y)) (h : 0 < y ∧ y < 18446744073709551616) : PV Φ (.bin .fdiv a b) ρ (.int (x / y)) := by
  refine pv_bin ha hb ?_
  show (if decide (0 < y ∧ y < 18446744073709551616) = true then _ else _) = _
  rw [if_pos (decide_eq_true h)]
theorem pv_modI {a b : IE} {x y : Int} (ha : PV Φ a ρ (.int x)) (hb : PV Φ b ρ (.int y)) (h : 0 < y) : PV Φ (.bin .mod a b) ρ (.int (x % y)) := by
  refine pv_bin ha hb ?_
  show (if decide (0 < y) = true then _ else _) = _
  rw [if_pos (decide_eq_true h)]
theorem pv_intI {a : IE} {x : Int} (ha : PV Φ a ρ (.int x)) : PV Φ (.bi .int (.cons a .nil)) ρ (.int x) := by
  refine pv_ev (fun _ z => nomatch z) ?_
  obtain ⟨u, a1, a2, _⟩ := ha.pr
  simp only [ev, evAs, a1, Res.bind, vals, a2, Option.bind_some, Option.map_some, biF, ofO]
/-! ### tests -/
theorem pv_cmp {op : COp} {a b : IE} {x y : PyData} {k : Bool} (ha : PV Φ a ρ x) (hb : PV Φ b ρ y) (h : cmpF op (.fz x) (.fz y) = some k) : PV Φ (.cmp op a b) ρ (.bool k) := by
  refine pv_ev (fun _ z => nomatch z) ?_
  obtain ⟨u, a1, a2, _⟩ := ha.pr
  obtain ⟨v, b1, b2, _⟩ := hb.pr
  simp only [ev, a1, Res.bind, b1, a2, b2, Option.bind_some, h, Option.map_some, ofO]
theorem eqF_int (x y : Int) : eqF (.int x) (.int y) = some (decide (x = y)) := by
  have e : PyData.eqv (.int x) (.int y) = decide (x = y) := by
    rw [eqv_int]
    by_cases q : x = y
    · subst q; simp
    · simp [q]
  show (if (SeqAt.shaped (.int x) && SeqAt.shaped (.int y)) = true then some (PyData.eqv (.int x) (.int y)) else none) = _
  rw [sh_int, sh_int, e]; rfl
theorem pv_eqI {a b : IE} {x y : Int} (ha : PV Φ a ρ (.int x)) (hb : PV Φ b ρ (.int y)) : PV Φ (.cmp .eq a b) ρ (.bool (decide (x = y))) := pv_cmp ha hb (eqF_int x y)
theorem pv_neI {a b : IE} {x y : Int} (ha : PV Φ a ρ (.int x)) (hb : PV Φ b ρ (.int y)) : PV Φ (.cmp .ne a b) ρ (.bool (!decide (x = y))) := pv_cmp ha hb (by
  show (eqF (.int x) (.int y)).map _ = _
  rw [eqF_int]; rfl)
theorem pv_ltI {a b : IE} {x y : Int} (ha : PV Φ a ρ (.int x)) (hb : PV Φ b ρ (.int y)) : PV Φ (.cmp .lt a b) ρ (.bool (decide (x < y))) := pv_cmp ha hb rfl
theorem pv_leI {a b : IE} {x y : Int} (ha : PV Φ a ρ (.int x)) (hb : PV Φ b ρ (.int y)) : PV Φ (.cmp .le a b) ρ (.bool (decide (x ≤ y))) := pv_cmp ha hb rfl
theorem pv_gtI {a b : IE} {x y : Int} (ha : PV Φ a ρ (.int x)) (hb : PV Φ b ρ (.int y)) : PV Φ (.cmp .gt a b) ρ (.bool (decide (y < x))) := pv_cmp ha hb rfl
theorem pv_geI {a b : IE} {x y : Int} (ha : PV Φ a ρ (.int x)) (hb : PV Φ b ρ (.int y)) : PV Φ (.cmp .ge a b) ρ (.bool (decide (y ≤ x))) := pv_cmp ha hb rfl
theorem pv_inI {a b : IE} {x : Int} {ys : List Int} (ha : PV Φ a ρ (.int x)) (hb : PV Φ b ρ (.tuple (ys.map PyData.int))) : PV Φ (.cmp .isin a b) ρ (.bool (decide (x ∈ ys))) := pv_cmp ha hb (by
  show (items (.fz (.tuple (ys.map PyData.int)))).bind (inF (.int x)) = _
  show inF (.int x) (ys.map PyData.int) = _
  exact inF_ints x ys)
theorem pv_ninI {a b : IE} {x : Int} {ys : List Int} (ha : PV Φ a ρ (.int x)) (hb : PV Φ b ρ (.tuple (ys.map PyData.int))) : PV Φ (.cmp .notin a b) ρ (.bool (!decide (x ∈ ys))) := pv_cmp ha hb (by
  show (inF (.int x) (ys.map PyData.int)).map _ = _
  rw [inF_ints x ys]; rfl)
theorem pv_not {a : IE} {c : Bool} (ha : PV Φ a ρ (.bool c)) : PV Φ (.not a) ρ (.bool (!c)) := by
  refine pv_ev (fun _ z => nomatch z) ?_
  rw [ev, tst_of ha]; rfl
theorem pv_and {a b : IE} {c d : Bool} (ha : PV Φ a ρ (.bool c)) (hb : c = true → PV Φ b ρ (.bool d)) : PV Φ (.and a b) ρ (.bool (c && d)) := by
  refine pv_ev (fun _ z => nomatch z) ?_
  rw [ev, ha.evF]
  cases c with
  | false => rfl
  | true =>
    show asB (ev Φ b ρ) _ = _
    rw [(hb rfl).evF]; rfl
theorem pv_or {a b : IE} {c d : Bool} (ha : PV Φ a ρ (.bool c)) (hb : c = false → PV Φ b ρ (.bool d)) : PV Φ (.or a b) ρ (.bool (c || d)) := by
  refine pv_ev (fun _ z => nomatch z) ?_
  rw [ev, ha.evF]
  cases c with
  | true => rfl
  | false =>
    show asB (ev Φ b ρ) _ = _
    rw [(hb rfl).evF]; rfl
theorem pv_isT {a : IE} {ds : List PyData} (ha : PV Φ a ρ (.tuple ds)) : PV Φ (.isi a .tTup) ρ (.bool true) := by
  refine pv_ev (fun _ z => nomatch z) ?_
  obtain ⟨u, a1, a2, _⟩ := ha.pr
  simp only [ev, a1, Res.bind, a2, Option.bind_some, isiF, Option.map_some, ofO]
theorem pv_isI {a : IE} {i : Int} (ha : PV Φ a ρ (.int i)) : PV Φ (.isi a .tInt) ρ (.bool true) := by
  refine pv_ev (fun _ z => nomatch z) ?_
  obtain ⟨u, a1, a2, _⟩ := ha.pr
  simp only [ev, a1, Res.bind, a2, Option.bind_some, isiF, Option.map_some, ofO]
theorem pv_isN {a : IE} {d : PyData} (ha : PV Φ a ρ d) : PV Φ (.isN a) ρ (.bool (noneB (.fz d))) := by
  refine pv_ev (fun _ z => nomatch z) ?_
  obtain ⟨u, a1, a2, _⟩ := ha.pr
  simp only [ev, a1, Res.bind, a2, Option.map_some, ofO]
/-! ### calls -/
def PAs (Φ : Nat → List O → CR) (es : IEs) (ρ : Fm) (ds : List PyData) : Prop := ∃ avs, evAs Φ es ρ = .ok avs ρ ∧ lend avs ρ = some (ds.map O.fz, ρ) ∧ ∀ ps, back ρ avs ps ρ = ρ
theorem pas_nil : PAs Φ .nil ρ [] := ⟨[], by rw [evAs], rfl, fun ps => by cases ps <;> rfl⟩
theorem pas_cons {e : IE} {es : IEs} {d : PyData} {ds : List PyData} (h : PV Φ e ρ d) (t : PAs Φ es ρ ds) : PAs Φ (.cons e es) ρ (d :: ds) := by
  obtain ⟨u, a1, a2, a3, a4⟩ := h.pr
  obtain ⟨avs, t1, t2, t3⟩ := t
  refine ⟨u :: avs, ?_, ?_, fun ps => ?_⟩
  · simp only [evAs, a1, Res.bind, t1]
  · cases u with
    | o x =>
      have ex : x = .fz d := Option.some.inj a2
      subst ex
      simp only [lend, t2, Option.map_some, List.map_cons]
    | sl i =>
      have ex : rd ρ i = some (.fz d) := a2
      simp only [lend, ex, t2, Option.map_some, List.map_cons]
  · cases ps with
    | nil => cases u <;> simp only [back]
    | cons p ps =>
      cases u with
      | o x => simp only [back]; exact t3 ps
      | sl i =>
        have ex : rd ρ i = some (.fz d) := a2
        simp only [back, ex]
        exact t3 ps
theorem pv_call {es : IEs} {f : Nat} {ds : List PyData} {y : PyData} {ps : List (Option O)} (h : PAs Φ es ρ ds) (hf : Φ f (ds.map O.fz) = .ok (.fz y) ps) : PV Φ (.call f es) ρ y := by
  refine pv_ev (fun _ z => nomatch z) ?_
  obtain ⟨avs, t1, t2, t3⟩ := h
  simp only [ev, t1, Res.bind, t2, hf, called, t3]
theorem pv_call2 {a b : IE} {f : Nat} {x z y : PyData} {ps : List (Option O)} (ha : PV Φ a ρ x) (hb : PV Φ b ρ z) (hf : Φ f [.fz x, .fz z] = .ok (.fz y) ps) : PV Φ (.call f (.cons a (.cons b .nil))) ρ y := pv_call (pas_cons ha (pas_cons hb pas_nil)) hf
/-! ### statements -/
theorem es_asgT {tg : Tg} {e : IE} {d : PyData} {r : ISs} {os : List O} {R : CR} {ρ1 : Fm} (h : PV Φ e ρ d) (ha : asgF tg d ρ = some ρ1) (hk : ends os (exSs Φ r ρ1) = R) : ends os (exSs Φ (.cons (.asgT tg e) r) ρ) = R := by
  rw [exSs_cons, exS, h.fr]
  show ends os (SR.seq ((ofO (asgF tg d ρ) ρ).st fun ρ2 _ => .nx ρ2) _) = R
  rw [ha]
  exact hk
theorem asgT2 {i1 i2 : Nat} {a b : PyData} {ρ : Fm} : asgF (.tp (.cons (.nm i1) (.cons (.nm i2) .nil))) (.tuple [a, b]) ρ = some (loS (loS ρ i1 (.fz a)) i2 (.fz b)) := rfl
theorem asgT3 {i1 i2 i3 : Nat} {a b c : PyData} {ρ : Fm} : asgF (.tp (.cons (.nm i1) (.cons (.nm i2) (.cons (.nm i3) .nil)))) (.tuple [a, b, c]) ρ = some (loS (loS (loS ρ i1 (.fz a)) i2 (.fz b)) i3 (.fz c)) := rfl
/-- a test, then what follows -/
theorem es_iff {c : IE} {k : Bool} {a b r : ISs} {os : List O} {R : CR} (h : PV Φ c ρ (.bool k)) (ht : k = true → ends os (SR.seq (exSs Φ a ρ) (exSs Φ r)) = R) (hf : k = false → ends os (SR.seq (exSs Φ b ρ) (exSs Φ r)) = R) : ends os (exSs Φ (.cons (.iff c a b) r) ρ) = R := by
  rw [exSs_cons, exS, tst_of h]
  cases k with
  | true => exact ht rfl
  | false => exact hf rfl
theorem es_ifT {c : IE} {a b r : ISs} {os : List O} {R : CR} (h : PV Φ c ρ (.bool true)) (hk : ends os (SR.seq (exSs Φ a ρ) (exSs Φ r)) = R) : ends os (exSs Φ (.cons (.iff c a b) r) ρ) = R := es_iff h (fun _ => hk) fun z => nomatch z
theorem es_ifF {c : IE} {a r : ISs} {os : List O} {R : CR} (h : PV Φ c ρ (.bool false)) (hk : ends os (exSs Φ r ρ) = R) : ends os (exSs Φ (.cons (.iff c a .nil) r) ρ) = R := es_iff h (fun z => nomatch z) fun _ => by rw [exSs_nil]; exact hk
theorem es_ifE {c : IE} {a b r : ISs} {os : List O} {R : CR} (h : PV Φ c ρ (.bool false)) (hk : ends os (SR.seq (exSs Φ b ρ) (exSs Φ r)) = R) : ends os (exSs Φ (.cons (.iff c a b) r) ρ) = R := es_iff h (fun z => nomatch z) fun _ => hk
/-- a block that does one step and goes on -/
theorem sq_asg {i : Nat} {e : IE} {d : PyData} {a r : ISs} {os : List O} {R : CR} (h : PV Φ e ρ d) (hk : ends os (SR.seq (exSs Φ a (loS ρ i (.fz d))) (exSs Φ r)) = R) : ends os (SR.seq (exSs Φ (.cons (.asg i e) a) ρ) (exSs Φ r)) = R := by
  rw [asg_cons h.evF]; exact hk
theorem sq_nil {r : ISs} {os : List O} {R : CR} (hk : ends os (exSs Φ r ρ) = R) : ends os (SR.seq (exSs Φ .nil ρ) (exSs Φ r)) = R := by
  rw [exSs_nil]; exact hk
theorem sq_ret {e : IE} {d : PyData} {a r : ISs} {os : List O} (h : PV Φ e ρ d) (hn : ∀ j, e ≠ .loc j) : ends os (SR.seq (exSs Φ (.cons (.ret e) a) ρ) (exSs Φ r)) = .ok (.fz d) (fins os ρ) := by
  rw [pv_ret h hn]; rfl
theorem sq_iff {c : IE} {k : Bool} {a b q r : ISs} {os : List O} {R : CR} (h : PV Φ c ρ (.bool k)) (ht : k = true → ends os (SR.seq (SR.seq (exSs Φ a ρ) (exSs Φ q)) (exSs Φ r)) = R) (hf : k = false → ends os (SR.seq (SR.seq (exSs Φ b ρ) (exSs Φ q)) (exSs Φ r)) = R) : ends os (SR.seq (exSs Φ (.cons (.iff c a b) q) ρ) (exSs Φ r)) = R := by
  rw [exSs_cons, exS, tst_of h]
  cases k with
  | true => exact ht rfl
  | false => exact hf rfl
end
end GW

/-! GW, part 29: bent copies in a row; powers of two; picks. -/
namespace GW
open PySem
section
variable {Φ : Nat → List O → CR}
/-- [_law_bent(pool, value) for k in range(n)] -/
theorem bent_lc {fr : P5 → Fm} {fb m i j v n : Nat} {d : PyData} (B : BntF Φ fb m) (hd : d.depth ≤ m) (hd2 : d.depth ≤ 10) (hl : leafB 100000 d = true) (hz : sz d ≤ 150000)
    (hs : ∀ (y z : P5) (o : O), Φ fb [.ls (pl y), .fz d] = .ok o [some (.ls (pl z)), none] → ∀ k : Int, ev Φ (.call fb (.cons (.loc i) (.cons (.loc j) .nil))) (loS (fr y) v (.fz (.int k))) = .ok o (loS (fr z) v (.fz (.int k))))
    (hk1 : ∀ (y : P5) (o : O), kill [v] (loS (fr y) v o) = fr y) (hk2 : ∀ y : P5, kill [v] (fr y) = fr y) (hsh : ∀ x y : P5, shown (fr x) [v] (fr y) = fr y) (hn : n ≤ 1000) (x : P5) :
    ∃ ts y, ev Φ (.lc (.call fb (.cons (.loc i) (.cons (.loc j) .nil))) (.nm v) (.rng1 (.con (.int (n : Int)))) .no [v]) (fr x) = .ok (.ls ts) (fr y) ∧ (∀ d ∈ ts, Val d) ∧ ts.length ≤ n := by
  have eI : evI Φ (.rng1 (.con (.int (n : Int)))) (fr x) = .ok (rngD 0 n) (fr x) := evI_rng1 (by rw [ev]) (by unfold rngOk; simp; omega) (Int.toNat_natCast n)
  have h : (noEx (lcLoop (stepL Φ (.call fb (.cons (.loc i) (.cons (.loc j) .nil))) (.nm v) .no [v]) (rngD 0 n) [] (kill [v] (fr x)))).sat fun xs ρ => ∃ y, ρ = fr y ∧ (∀ d ∈ xs, Val d) ∧ xs.length ≤ n := by
    refine lcLoop_sat (fun ds acc ρ => (∀ d ∈ ds, ∃ k : Int, d = .int k) ∧ ∃ y, ρ = fr y ∧ (∀ d ∈ acc, Val d) ∧ acc.length + ds.length ≤ n) ?_ ?_ ⟨fun d hd => ?_, x, hk2 x, by simp, by rw [rngD_length]; simp⟩
    · rintro w ds acc ρ ⟨hds, y, rfl, ha, hc⟩
      obtain ⟨k, rfl⟩ := hds w List.mem_cons_self
      rw [List.length_cons] at hc
      obtain ⟨o, z, e9, bn⟩ := B y d 100000 hd hl (by omega)
      have st : stepL Φ (.call fb (.cons (.loc i) (.cons (.loc j) .nil))) (.nm v) .no [v] (.int k) (fr y) = .ok (some o.toD) (fr z) := by
        unfold stepL
        simp only [asg1, ofO, Res.bind, evC, if_true]
        rw [hs y z o e9 k, toD_frz bn.nodc]
        show Res.ok (some o.toD) (kill [v] (loS (fr z) v (.fz (.int k)))) = _
        rw [hk1]
      rw [st]
      refine ⟨by omega, fun d h => hds d (List.mem_cons_of_mem _ h), z, rfl, fun u hu => ?_, by rw [List.length_append, List.length_singleton]; omega⟩
      rcases List.mem_append.mp hu with q | q
      · exact ha u q
      · rw [List.mem_singleton.mp q]
        exact ⟨leafB_mono (by omega) bn.leaf, by have := bn.size; omega, by have := bn.deep; omega⟩
    · rintro acc ρ ⟨_, y, rfl, ha, hc⟩
      exact ⟨y, rfl, ha, by simpa using hc⟩
    · obtain ⟨k, _, e⟩ := rngD_mem hd
      exact ⟨_, e⟩
  obtain ⟨xs, ρ, e9, y, rfl, hv, hc⟩ := rok_ h
  refine ⟨xs, y, (ev_lc eI e9).trans ?_, hv, hc⟩
  show Res.ok (O.ls xs) (shown (fr x) [v] (fr y)) = _
  rw [hsh]
/-! ### 2 ^ n -/
def pw (n : Int) : Int := 2 ^ n.toNat
theorem pw_pos (n : Int) : 0 < pw n := by
  unfold pw
  exact Int.pow_pos (by decide)
theorem pw_mono {n m : Int} (h : n ≤ m) : pw n ≤ pw m := by
  unfold pw
  have h1 : (2 : Nat) ^ n.toNat ≤ 2 ^ m.toNat := Nat.pow_le_pow_right (by decide) (by omega)
  have e : ∀ k : Nat, ((2 : Int) ^ k) = ((2 ^ k : Nat) : Int) := fun k => by rw [Int.natCast_pow]; rfl
  rw [e, e]
  exact Int.ofNat_le.mpr h1
theorem pw16 : pw 16 = 65536 := rfl
theorem pw_add {n m : Int} (h0 : 0 ≤ n) (h1 : 0 ≤ m) : pw (n + m) = pw n * pw m := by
  unfold pw
  rw [Int.toNat_add h0 h1, Int.pow_add]
def PwF (Φ : Nat → List O → CR) (f : Nat) : Prop := ∀ m : Int, 0 ≤ m → m ≤ 16 → Φ f [.fz (.int m)] = .ok (.fz (.int (pw m))) [none]
def Bpower : ISs :=
  (.cons (.asg 1 (.con (.int 1)))
  (.cons (.fr (.nm 2) (.rng1 (.loc 0))
  (.cons (.asg 1 (.bin .mul (.loc 1) (.con (.int 2))))
  .nil) [2])
  (.cons (.ret (.loc 1))
  .nil)))
def dPower : Df := ⟨"_law_power", ["many", "value", "k"], 1, Bpower⟩
theorem wee2 (i : Int) : (wee i || wee 2) = true := by
  rw [show wee 2 = true from rfl, Bool.or_true]
theorem pw_step {j : Nat} : pw (j : Int) * 2 = pw ((j + 1 : Nat) : Int) := by
  unfold pw
  rw [Int.toNat_natCast, Int.toNat_natCast, Int.pow_succ]
theorem pow_loop {b : ISs} {m : Nat} (hb : ∀ (s0 : Sl) (v : Int) (k : Int), exSs Φ b [s0, .lo (.fz (.int v)), .lo (.fz (.int k))] = .nx [s0, .lo (.fz (.int (v * 2))), .lo (.fz (.int k))]) (s0 : Sl) {N : Fm → Prop} {R : O → Fm → Prop} {B C : Fm → Prop} (hN : N [s0, .lo (.fz (.int (pw m))), .un]) :
    (frF (asgF (.nm 2)) (exSs Φ b) [2] (rngD 0 m) [s0, .lo (.fz (.int 1)), .un]).sat N R B C := by
  refine frF_sat (fun ds ρ => (∀ d ∈ ds, ∃ k : Int, d = .int k) ∧ ∃ j : Nat, j + ds.length = m ∧ ρ = [s0, .lo (.fz (.int (pw j))), .un]) ?_ ?_ ⟨fun d hd => ?_, 0, by rw [rngD_length]; omega, rfl⟩
  · rintro d ds ρ ⟨hds, j, hj, rfl⟩
    obtain ⟨k, rfl⟩ := hds d List.mem_cons_self
    refine ⟨_, rfl, ?_⟩
    show (exSs Φ b [s0, .lo (.fz (.int (pw j))), .lo (.fz (.int k))]).sat _ _ _ _
    rw [hb, SR.sat_nx]
    rw [List.length_cons] at hj
    exact ⟨fun d h => hds d (List.mem_cons_of_mem _ h), j + 1, by omega, by rw [← pw_step]; rfl⟩
  · rintro ρ ⟨_, j, hj, rfl⟩
    have : j = m := by simpa using hj
    subst this
    exact hN
  · obtain ⟨k, _, e⟩ := rngD_mem hd
    exact ⟨_, e⟩
theorem pwF {T : List Df} {f n : Nat} (hf : T[f]? = some dPower) : PwF (callN T (n + 1)) f := fun m h0 h1 => by
  refine eq_of_sat (callN_sat hf rfl ?_)
  show (exSs (callN T n) Bpower [.pa (.fz (.int m)), .un, .un]).sat _ _ _ _
  generalize callN T n = Φ
  unfold Bpower
  rw [asg_cons (pv_con (d := .int 1)).evF]
  show (exSs Φ _ [.pa (.fz (.int m)), .lo (.fz (.int 1)), .un]).sat _ _ _ _
  have eI : evI Φ (.rng1 (.loc 0)) [.pa (.fz (.int m)), .lo (.fz (.int 1)), .un] = .ok (rngD 0 m.toNat) [.pa (.fz (.int m)), .lo (.fz (.int 1)), .un] := evI_rng1 (pv_loc (d := .int m) rfl).evF (by unfold rngOk; simp; omega) rfl
  rw [sat_cons, exS, eI, Res.sat_st, Res.sat_ok, SR.sat_map]
  refine pow_loop (fun s0 v k => ?_) _ ?_
  · rw [asg_cons (pv_mulI (pv_loc (d := .int v) rfl) (pv_con (d := .int 2)) (wee2 v)).evF, exSs_nil]; rfl
  · show (exSs Φ (.cons (.ret (.loc 1)) .nil) [.pa (.fz (.int m)), .lo (.fz (.int (pw (m.toNat : Int)))), .un]).sat _ _ _ _
    rw [show ((m.toNat : Nat) : Int) = m by omega, sat_cons, exS]
    exact ⟨rfl, rfl⟩
end
end GW

/-! GW, part 30: what is asked of a result, step by step. -/
namespace GW
open PySem
section
variable {Φ : Nat → List O → CR} {ρ : Fm} {N : Fm → Prop} {R : O → Fm → Prop} {B C : Fm → Prop} {ss : ISs}
/-! ### statements -/
theorem w_asg {i : Nat} {e : IE} (h : (ev Φ e ρ).sat fun o ρ1 => (exSs Φ ss (loS ρ1 i o)).sat N R B C) : (exSs Φ (.cons (.asg i e) ss) ρ).sat N R B C := by
  rw [sat_cons, exS, Res.sat_st]; exact h
theorem w_asgT {t : Tg} {e : IE} (h : (frz (ev Φ e ρ)).sat fun d ρ1 => ∃ ρ2, asgF t d ρ1 = some ρ2 ∧ (exSs Φ ss ρ2).sat N R B C) : (exSs Φ (.cons (.asgT t e) ss) ρ).sat N R B C := by
  rw [sat_cons, exS, Res.sat_st]
  refine Res.sat_imp h fun d ρ1 z => ?_
  obtain ⟨ρ2, h1, h2⟩ := z
  rw [h1]; exact h2
theorem w_aug {i : Nat} {op : BOp} {e : IE} {x : O} (hi : rd ρ i = some x) (h : (ev Φ e ρ).sat fun y ρ1 => ∃ p o, rd ρ1 i = some p ∧ augF op p y = some o ∧ (exSs Φ ss (loS ρ1 i o)).sat N R B C) : (exSs Φ (.cons (.aug i op e) ss) ρ).sat N R B C := by
  rw [sat_cons, exS, hi]
  show ((ev Φ e ρ).st _).sat _ _ _ _
  rw [Res.sat_st]
  refine Res.sat_imp h fun y ρ1 z => ?_
  obtain ⟨p, o, h1, h2, h3⟩ := z
  rw [h1, Option.bind_some, h2]; exact h3
theorem w_if {c : IE} {a b : ISs} (h : (tst c (ev Φ c) ρ).sat fun k ρ1 => (k = true → (exSs Φ a ρ1).sat (fun ρ => (exSs Φ ss ρ).sat N R B C) R B C) ∧ (k = false → (exSs Φ b ρ1).sat (fun ρ => (exSs Φ ss ρ).sat N R B C) R B C)) : (exSs Φ (.cons (.iff c a b) ss) ρ).sat N R B C := by
  rw [sat_cons, exS, Res.sat_st]
  refine Res.sat_imp h fun k ρ1 z => ?_
  cases k with
  | true => exact z.1 rfl
  | false => exact z.2 rfl
/-- a test that is known to be false -/
theorem w_if0 {c : IE} {a b : ISs} (h : (tst c (ev Φ c) ρ).sat fun k ρ1 => k = false ∧ (exSs Φ b ρ1).sat (fun ρ => (exSs Φ ss ρ).sat N R B C) R B C) : (exSs Φ (.cons (.iff c a b) ss) ρ).sat N R B C :=
  w_if (Res.sat_imp h fun k ρ1 z => ⟨fun y => absurd (z.1.symm.trans y) (by decide), fun _ => z.2⟩)
theorem w_if1 {c : IE} {a b : ISs} (h : (tst c (ev Φ c) ρ).sat fun k ρ1 => k = true ∧ (exSs Φ a ρ1).sat (fun ρ => (exSs Φ ss ρ).sat N R B C) R B C) : (exSs Φ (.cons (.iff c a b) ss) ρ).sat N R B C :=
  w_if (Res.sat_imp h fun k ρ1 z => ⟨fun _ => z.2, fun y => absurd (z.1.symm.trans y) (by decide)⟩)
theorem w_nil (h : N ρ) : (exSs Φ .nil ρ).sat N R B C := by rw [sat_nil]; exact h
theorem w_kil {ks : List Nat} (h : (exSs Φ ss (kill ks ρ)).sat N R B C) : (exSs Φ (.kil ks ss) ρ).sat N R B C := by rw [sat_kil]; exact h
theorem w_ret {e : IE} (hn : ∀ j, e ≠ .loc j) (h : (ev Φ e ρ).sat fun o ρ1 => R o ρ1) : (exSs Φ (.cons (.ret e) ss) ρ).sat N R B C := by
  have : exS Φ (.ret e) ρ = (ev Φ e ρ).st .rt := by
    cases e <;> first | rfl | exact absurd rfl (hn _)
  rw [sat_cons, this, Res.sat_st]; exact h
theorem w_retL {i : Nat} {d : PyData} (h : rd ρ i = some (.fz d)) (k : R (.fz d) ρ) : (exSs Φ (.cons (.ret (.loc i)) ss) ρ).sat N R B C := by
  rw [sat_cons, exS, retLoc]
  have e : (evLoc i ρ).st SR.rt = .rt (.fz d) ρ := by rw [evLoc, h]; rfl
  split
  · rename_i ds hq
    rw [rd, hq] at h
    cases h
  · rw [e]; exact k
theorem w_retO {i : Nat} {ds : List PyData} (h : ρ[i]? = some (.lo (.ls ds))) (k : R (.ls ds) (unS ρ i)) : (exSs Φ (.cons (.ret (.loc i)) ss) ρ).sat N R B C := by
  rw [sat_cons, exS, retLoc, h]; exact k
theorem w_retn (k : R (.fz .none) ρ) : (exSs Φ (.cons .retn ss) ρ).sat N R B C := by
  rw [sat_cons, exS]; exact k
theorem w_brk (k : B ρ) : (exSs Φ (.cons .brk ss) ρ).sat N R B C := by
  rw [sat_cons, exS]; exact k
theorem w_cnt (k : C ρ) : (exSs Φ (.cons .cnt ss) ρ).sat N R B C := by
  rw [sat_cons, exS]; exact k
theorem w_app {x : Nat} {e : IE} {xs : List PyData} (hx : rd ρ x = some (.ls xs)) (h : (frz (ev Φ e ρ)).sat fun d ρ1 => ∃ ys, rd ρ1 x = some (.ls ys) ∧ ys.length < 16777216 ∧ (exSs Φ ss (putO ρ1 x (.ls (ys ++ [d])))).sat N R B C) : (exSs Φ (.cons (.app x e) ss) ρ).sat N R B C := by
  rw [sat_cons, exS, hx]
  show ((frz (ev Φ e ρ)).st _).sat _ _ _ _
  rw [Res.sat_st]
  refine Res.sat_imp h fun d ρ1 z => ?_
  obtain ⟨ys, h1, h2, h3⟩ := z
  rw [h1]
  show ((ofO (if ys.length < 16777216 then _ else _) ρ1).st _).sat _ _ _ _
  rw [if_pos h2]; exact h3
theorem w_seti {x : Nat} {k e : IE} (h : (frz (ev Φ e ρ)).sat fun d ρ1 => (rd ρ1 x).isSome = true ∧ (ev Φ k ρ1).sat fun i ρ2 => ∃ p o, rd ρ2 x = some p ∧ setF p i d = some o ∧ (exSs Φ ss (putO ρ2 x o)).sat N R B C) : (exSs Φ (.cons (.seti x k e) ss) ρ).sat N R B C := by
  rw [sat_cons, exS, Res.sat_st]
  refine Res.sat_imp h fun d ρ1 z => ?_
  obtain ⟨q, hq⟩ := Option.isSome_iff_exists.mp z.1
  rw [hq]
  show ((ev Φ k ρ1).st _).sat _ _ _ _
  rw [Res.sat_st]
  refine Res.sat_imp z.2 fun i ρ2 z => ?_
  obtain ⟨p, o, h1, h2, h3⟩ := z
  rw [h1, Option.bind_some, h2]; exact h3
theorem w_ext {x : Nat} {e : IE} {xs : List PyData} (hn : ∀ j, e ≠ .loc j) (hx : rd ρ x = some (.ls xs)) (h : (ev Φ e ρ).sat fun d ρ1 => ∃ ys zs, rd ρ1 x = some (.ls ys) ∧ d = .ls zs ∧ ys.length + zs.length ≤ 16777216 ∧ (exSs Φ ss (putO ρ1 x (.ls (ys ++ zs)))).sat N R B C) : (exSs Φ (.cons (.ext x e) ss) ρ).sat N R B C := by
  have e0 : exS Φ (.ext x e) ρ = (ofO ((rd ρ x).bind litems) ρ).st fun _ ρ => (ev Φ e ρ).st fun p ρ1 => (ofO ((rd ρ1 x).bind fun o => extF o p) ρ1).st fun o ρ2 => .nx (putO ρ2 x o) := by
    cases e <;> first | rfl | exact absurd rfl (hn _)
  rw [sat_cons, e0, hx]
  show ((ev Φ e ρ).st _).sat _ _ _ _
  rw [Res.sat_st]
  refine Res.sat_imp h fun d ρ1 z => ?_
  obtain ⟨ys, zs, h1, rfl, h2, h3⟩ := z
  rw [h1]
  show ((ofO (if fits (ys.length + zs.length) = true then _ else _) ρ1).st _).sat _ _ _ _
  rw [if_pos (show fits _ = true from decide_eq_true h2)]; exact h3
theorem w_exp {e : IE} (h : (ev Φ e ρ).sat fun _ ρ1 => (exSs Φ ss ρ1).sat N R B C) : (exSs Φ (.cons (.exp e) ss) ρ).sat N R B C := by
  rw [sat_cons, exS, Res.sat_st]; exact h
theorem w_fr {t : Tg} {it : II} {b : ISs} {ks : List Nat} (h : (evI Φ it ρ).sat fun ds ρ1 => (frF (asgF t) (exSs Φ b) ks ds (hide it ρ1)).sat (fun ρ2 => (exSs Φ ss (unhide ρ1 it ρ2)).sat N R B C) (fun o ρ2 => R o (unhide ρ1 it ρ2)) (fun ρ2 => B (unhide ρ1 it ρ2)) (fun ρ2 => C (unhide ρ1 it ρ2))) : (exSs Φ (.cons (.fr t it b ks) ss) ρ).sat N R B C := by
  rw [sat_cons, exS, Res.sat_st]
  refine Res.sat_imp h fun d ρ1 z => ?_
  rw [SR.sat_map]; exact z
theorem w_wh {c : IE} {b : ISs} {ks : List Nat} (h : (whF (tst c (ev Φ c)) (exSs Φ b) ks wfuel ρ).sat (fun ρ2 => (exSs Φ ss ρ2).sat N R B C) R B C) : (exSs Φ (.cons (.wh c b ks) ss) ρ).sat N R B C := by
  rw [sat_cons, exS]; exact h
end
section
variable {Φ : Nat → List O → CR} {ρ : Fm} {Q : O → Fm → Prop}
/-! ### expressions -/
theorem w_pv {e : IE} {d : PyData} (p : PV Φ e ρ d) (h : Q (.fz d) ρ) : (ev Φ e ρ).sat Q := by
  rw [p.evF]; exact h
theorem w_locL {i : Nat} {ds : List PyData} (h : rd ρ i = some (.ls ds)) (k : Q (.fz (.list ds)) (putO ρ i (.fz (.list ds)))) : (ev Φ (.loc i) ρ).sat Q := by
  rw [ev, evLoc, h]; exact k
theorem w_eq {e : IE} {o : O} {ρ1 : Fm} (p : ev Φ e ρ = .ok o ρ1) (h : Q o ρ1) : (ev Φ e ρ).sat Q := by
  rw [p]; exact h
theorem w_frz {Q : PyData → Fm → Prop} {r : Res O} (h : r.sat fun o ρ1 => (∀ kvs, o ≠ .dc kvs) ∧ Q o.toD ρ1) : (frz r).sat Q := by
  cases r with
  | bad => exact h.elim
  | ex _ _ => exact h.elim
  | ok o ρ1 => rw [toD_frz h.1]; exact h.2
theorem w_frzP {e : IE} {d : PyData} {Q : PyData → Fm → Prop} (p : PV Φ e ρ d) (h : Q d ρ) : (frz (ev Φ e ρ)).sat Q := by
  rw [p.fr]; exact h
theorem w_tst {e : IE} {k : Bool} {Q : Bool → Fm → Prop} (p : PV Φ e ρ (.bool k)) (h : Q k ρ) : (tst e (ev Φ e) ρ).sat Q := by
  rw [tst_of p]; exact h
theorem w_tstE {e : IE} {Q : Bool → Fm → Prop} (hn : ∀ j, e ≠ .loc j) (h : (ev Φ e ρ).sat fun o ρ1 => ∃ k, truF o = some k ∧ Q k ρ1) : (tst e (ev Φ e) ρ).sat Q := by
  have e2 : tst e (ev Φ e) ρ = (ev Φ e ρ).bind fun x ρ' => ofO (truF x) ρ' := by
    cases e <;> first | rfl | exact absurd rfl (hn _)
  rw [e2, Res.sat_bind]
  refine Res.sat_imp h fun o ρ1 z => ?_
  obtain ⟨k, h1, h2⟩ := z
  rw [h1]; exact h2
theorem w_prepL {i : Nat} {Q : AV → Fm → Prop} (h : (rd ρ i).isSome = true) (k : Q (.sl i) ρ) : (prep (.loc i) (ev Φ (.loc i)) ρ).sat Q := by
  rw [prep_loc, if_pos h]; exact k
theorem w_prepE {e : IE} {Q : AV → Fm → Prop} (hn : ∀ j, e ≠ .loc j) (h : (ev Φ e ρ).sat fun o ρ1 => Q (.o o) ρ1) : (prep e (ev Φ e) ρ).sat Q := by
  have e2 : prep e (ev Φ e) ρ = (ev Φ e ρ).bind fun x ρ' => .ok (.o x) ρ' := by
    cases e <;> first | rfl | exact absurd rfl (hn _)
  rw [e2, Res.sat_bind]
  exact h
theorem w_bin {op : BOp} {a b : IE} (h : (prep a (ev Φ a) ρ).sat fun x ρ1 => (prep b (ev Φ b) ρ1).sat fun y ρ2 => ∃ p q z, x.val ρ2 = some p ∧ y.val ρ2 = some q ∧ binF op p q = some z ∧ Q z ρ2) : (ev Φ (.bin op a b) ρ).sat Q := by
  rw [ev, Res.sat_bind]
  refine Res.sat_imp h fun x ρ1 z => ?_
  rw [Res.sat_bind]
  refine Res.sat_imp z fun y ρ2 z => ?_
  obtain ⟨p, q, r, h1, h2, h3, h4⟩ := z
  rw [h1, h2, Option.bind_some, Option.bind_some, h3]; exact h4
theorem w_cmp {op : COp} {a b : IE} (h : (prep a (ev Φ a) ρ).sat fun x ρ1 => (prep b (ev Φ b) ρ1).sat fun y ρ2 => ∃ p q z, x.val ρ2 = some p ∧ y.val ρ2 = some q ∧ cmpF op p q = some z ∧ Q (.fz (.bool z)) ρ2) : (ev Φ (.cmp op a b) ρ).sat Q := by
  rw [ev, Res.sat_bind]
  refine Res.sat_imp h fun x ρ1 z => ?_
  rw [Res.sat_bind]
  refine Res.sat_imp z fun y ρ2 z => ?_
  obtain ⟨p, q, r, h1, h2, h3, h4⟩ := z
  rw [h1, h2, Option.bind_some, Option.bind_some, h3]; exact h4
theorem w_sub {a b : IE} (h : (prep a (ev Φ a) ρ).sat fun x ρ1 => (prep b (ev Φ b) ρ1).sat fun y ρ2 => ∃ p q z, x.val ρ2 = some p ∧ y.val ρ2 = some q ∧ ixF p q = some z ∧ Q (.fz z) ρ2) : (ev Φ (.sub a b) ρ).sat Q := by
  rw [ev, Res.sat_bind]
  refine Res.sat_imp h fun x ρ1 z => ?_
  rw [Res.sat_bind]
  refine Res.sat_imp z fun y ρ2 z => ?_
  obtain ⟨p, q, r, h1, h2, h3, h4⟩ := z
  rw [h1, h2, Option.bind_some, Option.bind_some, h3]; exact h4
theorem w_asB {β : Type} {r : Res O} {f : Bool → Fm → Res β} {Q : β → Fm → Prop} (h : r.sat fun o ρ1 => ∃ c, o = .fz (.bool c) ∧ (f c ρ1).sat Q) : (asB r f).sat Q := by
  rw [asB, Res.sat_bind]
  refine Res.sat_imp h fun o ρ1 z => ?_
  obtain ⟨c, rfl, h2⟩ := z
  exact h2
theorem w_and {a b : IE} (h : (ev Φ a ρ).sat fun o ρ1 => ∃ c, o = .fz (.bool c) ∧ (c = false → Q (.fz (.bool false)) ρ1) ∧ (c = true → (ev Φ b ρ1).sat fun o ρ2 => ∃ d, o = .fz (.bool d) ∧ Q (.fz (.bool d)) ρ2)) : (ev Φ (.and a b) ρ).sat Q := by
  rw [ev]
  refine w_asB (Res.sat_imp h fun o ρ1 z => ?_)
  obtain ⟨c, rfl, h1, h2⟩ := z
  refine ⟨c, rfl, ?_⟩
  cases c with
  | false => exact h1 rfl
  | true => exact w_asB (h2 rfl)
theorem w_or {a b : IE} (h : (ev Φ a ρ).sat fun o ρ1 => ∃ c, o = .fz (.bool c) ∧ (c = true → Q (.fz (.bool true)) ρ1) ∧ (c = false → (ev Φ b ρ1).sat fun o ρ2 => ∃ d, o = .fz (.bool d) ∧ Q (.fz (.bool d)) ρ2)) : (ev Φ (.or a b) ρ).sat Q := by
  rw [ev]
  refine w_asB (Res.sat_imp h fun o ρ1 z => ?_)
  obtain ⟨c, rfl, h1, h2⟩ := z
  refine ⟨c, rfl, ?_⟩
  cases c with
  | true => exact h1 rfl
  | false => exact w_asB (h2 rfl)
theorem w_not {a : IE} (h : (tst a (ev Φ a) ρ).sat fun k ρ1 => Q (.fz (.bool (!k))) ρ1) : (ev Φ (.not a) ρ).sat Q := by
  rw [ev, Res.sat_bind]; exact h
theorem w_ife {c a b : IE} (h : (tst c (ev Φ c) ρ).sat fun k ρ1 => (k = true → (ev Φ a ρ1).sat Q) ∧ (k = false → (ev Φ b ρ1).sat Q)) : (ev Φ (.ife c a b) ρ).sat Q := by
  rw [ev, Res.sat_bind]
  refine Res.sat_imp h fun k ρ1 z => ?_
  cases k with
  | true => exact z.1 rfl
  | false => exact z.2 rfl
theorem w_tup {es : IEs} (h : (evDs Φ es ρ).sat fun ds ρ1 => Q (.fz (.tuple ds)) ρ1) : (ev Φ (.tup es) ρ).sat Q := by
  rw [ev, Res.sat_bind]; exact h
theorem w_lst {es : IEs} (h : (evDs Φ es ρ).sat fun ds ρ1 => Q (.ls ds) ρ1) : (ev Φ (.lst es) ρ).sat Q := by
  rw [ev, Res.sat_bind]; exact h
theorem w_dnil {Q : List PyData → Fm → Prop} (h : Q [] ρ) : (evDs Φ .nil ρ).sat Q := by rw [evDs]; exact h
theorem w_dcons {e : IE} {es : IEs} {Q : List PyData → Fm → Prop} (h : (frz (ev Φ e ρ)).sat fun d ρ1 => (evDs Φ es ρ1).sat fun ds ρ2 => Q (d :: ds) ρ2) : (evDs Φ (.cons e es) ρ).sat Q := by
  rw [evDs, Res.sat_bind]
  refine Res.sat_imp h fun d ρ1 z => ?_
  rw [Res.sat_bind]; exact z
theorem w_dpvs {es : IEs} {ds : List PyData} {Q : List PyData → Fm → Prop} (p : PVs Φ es ρ ds) (h : Q ds ρ) : (evDs Φ es ρ).sat Q := by
  rw [show evDs Φ es ρ = .ok ds ρ from p]; exact h
theorem w_anil {Q : List AV → Fm → Prop} (h : Q [] ρ) : (evAs Φ .nil ρ).sat Q := by rw [evAs]; exact h
theorem w_acons {e : IE} {es : IEs} {Q : List AV → Fm → Prop} (h : (prep e (ev Φ e) ρ).sat fun d ρ1 => (evAs Φ es ρ1).sat fun ds ρ2 => Q (d :: ds) ρ2) : (evAs Φ (.cons e es) ρ).sat Q := by
  rw [evAs, Res.sat_bind]
  refine Res.sat_imp h fun d ρ1 z => ?_
  rw [Res.sat_bind]; exact z
theorem w_bi {b : Bi} {es : IEs} (h : (evAs Φ es ρ).sat fun avs ρ1 => ∃ os z, vals avs ρ1 = some os ∧ biF b os = some z ∧ Q z ρ1) : (ev Φ (.bi b es) ρ).sat Q := by
  rw [ev, Res.sat_bind]
  refine Res.sat_imp h fun avs ρ1 z => ?_
  obtain ⟨os, z, h1, h2, h3⟩ := z
  rw [h1, Option.bind_some, h2]; exact h3
theorem w_call {f : Nat} {es : IEs} (h : (evAs Φ es ρ).sat fun avs ρ1 => ∃ os ρ2, lend avs ρ1 = some (os, ρ2) ∧ (Φ f os).sat fun o ps => Q o (back ρ1 avs ps ρ2)) : (ev Φ (.call f es) ρ).sat Q := by
  rw [ev, Res.sat_bind]
  refine Res.sat_imp h fun avs ρ1 z => ?_
  obtain ⟨os, ρ2, h1, h2⟩ := z
  rw [h1]
  show (called avs ρ1 ρ2 (Φ f os)).sat Q
  obtain ⟨o, ps, h3, h4⟩ := CR.sat_ok h2
  rw [h3]; exact h4
theorem w_fidx {f : Nat} {ys : List Str} {a : IE} {Y : O → List (Option O) → Prop} (hc : (Φ f []).sat Y) (h : (prep a (ev Φ a) ρ).sat fun x ρ1 => ∃ p z, x.val ρ1 = some p ∧ idxS ys p = some z ∧ Q z ρ1) : (ev Φ (.fidx f ys a) ρ).sat Q := by
  obtain ⟨o, ps, h1, _⟩ := CR.sat_ok hc
  rw [ev, h1]
  show Res.sat ((prep a (ev Φ a) ρ).bind _) Q
  rw [Res.sat_bind]
  refine Res.sat_imp h fun x ρ1 z => ?_
  obtain ⟨p, q, h2, h3, h4⟩ := z
  show Res.sat (ofO ((x.val ρ1).bind (idxS ys)) ρ1) Q
  rw [h2, Option.bind_some, h3]; exact h4
theorem w_sset {a : IE} (h : (prep a (ev Φ a) ρ).sat fun x ρ1 => ∃ p z, x.val ρ1 = some p ∧ ssF p = some z ∧ Q z ρ1) : (ev Φ (.sset a) ρ).sat Q := by
  rw [ev, Res.sat_bind]
  refine Res.sat_imp h fun x ρ1 z => ?_
  obtain ⟨p, r, h1, h2, h3⟩ := z
  rw [h1, Option.bind_some, h2]; exact h3
theorem w_lset {a : IE} (h : (prep a (ev Φ a) ρ).sat fun x ρ1 => ∃ p z, x.val ρ1 = some p ∧ lsetF p = some z ∧ Q z ρ1) : (ev Φ (.lset a) ρ).sat Q := by
  rw [ev, Res.sat_bind]
  refine Res.sat_imp h fun x ρ1 z => ?_
  obtain ⟨p, r, h1, h2, h3⟩ := z
  rw [h1, Option.bind_some, h2]; exact h3
theorem w_rev {a : IE} (h : (prep a (ev Φ a) ρ).sat fun x ρ1 => ∃ p z, x.val ρ1 = some p ∧ revF p = some z ∧ Q z ρ1) : (ev Φ (.rev a) ρ).sat Q := by
  rw [ev, Res.sat_bind]
  refine Res.sat_imp h fun x ρ1 z => ?_
  obtain ⟨p, r, h1, h2, h3⟩ := z
  rw [h1, Option.bind_some, h2]; exact h3
theorem w_idx {a b : IE} (h : (prep a (ev Φ a) ρ).sat fun x ρ1 => ((x.val ρ1).bind litems).isSome = true ∧ (prep b (ev Φ b) ρ1).sat fun y ρ2 => ∃ p q z, x.val ρ2 = some p ∧ y.val ρ2 = some q ∧ idxF p q = some z ∧ Q z ρ2) : (ev Φ (.idx a b) ρ).sat Q := by
  rw [ev, Res.sat_bind]
  refine Res.sat_imp h fun x ρ1 z => ?_
  obtain ⟨q, hq⟩ := Option.isSome_iff_exists.mp z.1
  rw [hq]
  show (Res.bind (prep b (ev Φ b) ρ1) _).sat Q
  rw [Res.sat_bind]
  refine Res.sat_imp z.2 fun y ρ2 z => ?_
  obtain ⟨p, q, r, h1, h2, h3, h4⟩ := z
  rw [h1, h2, Option.bind_some, Option.bind_some, h3]; exact h4
theorem w_cmp2 {p q : COp} {a b c : IE} (h : (prep a (ev Φ a) ρ).sat fun x ρ1 => (prep b (ev Φ b) ρ1).sat fun y ρ2 => ∃ u v k, x.val ρ2 = some u ∧ y.val ρ2 = some v ∧ cmpF p u v = some k ∧ (k = false → Q (.fz (.bool false)) ρ2) ∧ (k = true → (prep c (ev Φ c) ρ2).sat fun z ρ3 => ∃ v w m, y.val ρ3 = some v ∧ z.val ρ3 = some w ∧ cmpF q v w = some m ∧ Q (.fz (.bool m)) ρ3)) : (ev Φ (.cmp2 p q a b c) ρ).sat Q := by
  rw [ev, Res.sat_bind]
  refine Res.sat_imp h fun x ρ1 z => ?_
  rw [Res.sat_bind]
  refine Res.sat_imp z fun y ρ2 z => ?_
  obtain ⟨u, v, k, h1, h2, h3, h4, h5⟩ := z
  rw [h1, h2, Option.bind_some, Option.bind_some, h3]
  show (Res.sat (if k = true then _ else _) Q)
  cases k with
  | false => exact h4 rfl
  | true =>
    rw [if_pos rfl, Res.sat_bind]
    refine Res.sat_imp (h5 rfl) fun z ρ3 y => ?_
    obtain ⟨v, w, m, g1, g2, g3, g4⟩ := y
    rw [g1, g2, Option.bind_some, Option.bind_some, g3]; exact g4
theorem w_isN {a : IE} (h : (prep a (ev Φ a) ρ).sat fun x ρ1 => ∃ p, x.val ρ1 = some p ∧ Q (.fz (.bool (noneB p))) ρ1) : (ev Φ (.isN a) ρ).sat Q := by
  rw [ev, Res.sat_bind]
  refine Res.sat_imp h fun x ρ1 z => ?_
  obtain ⟨p, h1, h2⟩ := z
  rw [h1]; exact h2
theorem w_notN {a : IE} (h : (prep a (ev Φ a) ρ).sat fun x ρ1 => ∃ p, x.val ρ1 = some p ∧ Q (.fz (.bool (!noneB p))) ρ1) : (ev Φ (.notN a) ρ).sat Q := by
  rw [ev, Res.sat_bind]
  refine Res.sat_imp h fun x ρ1 z => ?_
  obtain ⟨p, h1, h2⟩ := z
  rw [h1]; exact h2
theorem w_isi {a : IE} {t : Ty} (h : (prep a (ev Φ a) ρ).sat fun x ρ1 => ∃ p k, x.val ρ1 = some p ∧ isiF t p = some k ∧ Q (.fz (.bool k)) ρ1) : (ev Φ (.isi a t) ρ).sat Q := by
  rw [ev, Res.sat_bind]
  refine Res.sat_imp h fun x ρ1 z => ?_
  obtain ⟨p, k, h1, h2, h3⟩ := z
  rw [h1, Option.bind_some, h2]; exact h3
theorem w_slc {a : IE} {lo hi : IEo} (h : (prep a (ev Φ a) ρ).sat fun x ρ1 => (evO Φ lo ρ1).sat fun l ρ2 => (evO Φ hi ρ2).sat fun u ρ3 => ∃ p z, x.val ρ3 = some p ∧ cutF p l u = some z ∧ Q z ρ3) : (ev Φ (.slc a lo hi) ρ).sat Q := by
  rw [ev, Res.sat_bind]
  refine Res.sat_imp h fun x ρ1 z => ?_
  rw [Res.sat_bind]
  refine Res.sat_imp z fun l ρ2 z => ?_
  rw [Res.sat_bind]
  refine Res.sat_imp z fun u ρ3 z => ?_
  obtain ⟨p, r, h1, h2, h3⟩ := z
  rw [h1, Option.bind_some, h2]; exact h3
theorem w_ono {Q : Option Int → Fm → Prop} (h : Q none ρ) : (evO Φ .no ρ).sat Q := by rw [evO]; exact h
theorem w_oso {e : IE} {Q : Option Int → Fm → Prop} (h : (ev Φ e ρ).sat fun o ρ1 => ∃ i, o = .fz (.int i) ∧ Q (some i) ρ1) : (evO Φ (.so e) ρ).sat Q := by
  rw [evO, Res.sat_bind]
  refine Res.sat_imp h fun o ρ1 z => ?_
  obtain ⟨i, rfl, h⟩ := z
  exact h
theorem w_ival {e : IE} {Q : List PyData → Fm → Prop} (h : (ev Φ e ρ).sat fun o ρ1 => ∃ ds, items o = some ds ∧ Q ds ρ1) : (evI Φ (.val e) ρ).sat Q := by
  rw [evI, Res.sat_bind]
  refine Res.sat_imp h fun o ρ1 z => ?_
  obtain ⟨ds, h1, h⟩ := z
  rw [h1]; exact h
theorem w_ilok {i : Nat} {ds : List PyData} {Q : List PyData → Fm → Prop} (h : (rd ρ i).bind items = some ds) (k : Q ds ρ) : (evI Φ (.lok i) ρ).sat Q := by
  rw [evI, h]; exact k
theorem w_irng1 {e : IE} {Q : List PyData → Fm → Prop} (h : (ev Φ e ρ).sat fun o ρ1 => ∃ i : Int, o = .fz (.int i) ∧ rngOk i = true ∧ Q (rngD 0 i.toNat) ρ1) : (evI Φ (.rng1 e) ρ).sat Q := by
  rw [evI, Res.sat_bind]
  refine Res.sat_imp h fun o ρ1 z => ?_
  obtain ⟨i, rfl, h1, h⟩ := z
  simp only
  rw [if_pos h1]; exact h
theorem w_irng2 {a b : IE} {Q : List PyData → Fm → Prop} (h : (ev Φ a ρ).sat fun o ρ1 => ∃ i : Int, o = .fz (.int i) ∧ (ev Φ b ρ1).sat fun p ρ2 => ∃ j : Int, p = .fz (.int j) ∧ rngOk i = true ∧ rngOk j = true ∧ Q (rngD i (j - i).toNat) ρ2) : (evI Φ (.rng2 a b) ρ).sat Q := by
  rw [evI, Res.sat_bind]
  refine Res.sat_imp h fun o ρ1 z => ?_
  obtain ⟨i, rfl, h⟩ := z
  rw [Res.sat_bind]
  refine Res.sat_imp h fun o ρ1 z => ?_
  obtain ⟨j, rfl, h1, h2, h⟩ := z
  simp only
  rw [h1, h2]; exact h
/-! ### comprehensions -/
theorem w_con {Q : Bool → Fm → Prop} (h : Q true ρ) : (evC Φ .no ρ).sat Q := by rw [evC]; exact h
theorem w_cso {e : IE} {Q : Bool → Fm → Prop} (h : (tst e (ev Φ e) ρ).sat Q) : (evC Φ (.so e) ρ).sat Q := by rw [evC]; exact h
theorem w_step {e : IE} {tg : Tg} {c : IEo} {vs : List Nat} {d : PyData} {Q : Option PyData → Fm → Prop} (h : ∃ ρ', asgF tg d ρ = some ρ' ∧ (evC Φ c ρ').sat fun k ρ2 => (k = true → (frz (ev Φ e ρ2)).sat fun x ρ3 => Q (some x) (kill vs ρ3)) ∧ (k = false → Q none (kill vs ρ2))) : (stepL Φ e tg c vs d ρ).sat Q := by
  obtain ⟨ρ', h1, h2⟩ := h
  unfold stepL
  rw [h1]
  show (Res.bind (evC Φ c ρ') _).sat Q
  rw [Res.sat_bind]
  refine Res.sat_imp h2 fun k ρ2 z => ?_
  cases k with
  | true =>
    simp only [if_true]
    rw [Res.sat_bind]
    exact z.1 rfl
  | false =>
    simp only [Bool.false_eq_true, if_false]  -- gw
    exact z.2 rfl
theorem w_lc {e : IE} {tg : Tg} {it : II} {c : IEo} {vs : List Nat} (h : (evI Φ it ρ).sat fun ds ρ1 => (noEx (lcLoop (stepL Φ e tg c vs) ds [] (kill vs (hide it ρ1)))).sat fun xs ρ2 => Q (.ls xs) (unhide ρ1 it (shown (hide it ρ1) vs ρ2))) : (ev Φ (.lc e tg it c vs) ρ).sat Q := by
  cases hI : evI Φ it ρ with
  | bad => rw [hI] at h; exact h.elim
  | ex _ _ => rw [hI] at h; exact h.elim
  | ok ds ρ1 =>
    rw [hI] at h
    have h : (noEx (lcLoop (stepL Φ e tg c vs) ds [] (kill vs (hide it ρ1)))).sat _ := h
    obtain ⟨xs, ρ2, e1, q⟩ := rok_ h
    rw [ev_lc hI e1]; exact q
theorem step_ok {α : Type} {r : Res α} {a : α} {ρ1 : Fm} (h : r.sat fun o ρ' => o = a ∧ ρ' = ρ1) : r = .ok a ρ1 := by
  obtain ⟨o, ρ', e, rfl, rfl⟩ := rok_ h
  exact e
/-- a comprehension whose steps leave the frame as it was -/
theorem w_lcF {step : PyData → Fm → Res (Option PyData)} {ds : List PyData} {Q : List PyData → Fm → Prop} (F : PyData → Option PyData) (hs : ∀ d ∈ ds, (step d ρ).sat fun o ρ' => o = F d ∧ ρ' = ρ) (hl : ds.length ≤ 16777216) (h : Q (ds.filterMap F) ρ) : (noEx (lcLoop step ds [] ρ)).sat Q := by
  rw [lcLoop_filter (acc := []) (F := F) (fun d hd => step_ok (hs d hd)) (by simpa using hl)]
  exact h
theorem w_lcM {step : PyData → Fm → Res (Option PyData)} {ds : List PyData} {Q : List PyData → Fm → Prop} (F : PyData → PyData) (hs : ∀ d ∈ ds, (step d ρ).sat fun o ρ' => o = some (F d) ∧ ρ' = ρ) (hl : ds.length ≤ 16777216) (h : Q (ds.map F) ρ) : (noEx (lcLoop step ds [] ρ)).sat Q := by
  rw [lcLoop_map (acc := []) (F := F) (fun d hd => step_ok (hs d hd)) (by simpa using hl)]
  exact h
/-- .. over things that are told by others -/
theorem w_lcA {α : Type} {step : PyData → Fm → Res (Option PyData)} {l : List α} {f g : α → PyData} {Q : List PyData → Fm → Prop} (hl : l.length ≤ 16777216) (hs : ∀ a ∈ l, (step (f a) ρ).sat fun o ρ' => o = some (g a) ∧ ρ' = ρ) (h : Q (l.map g) ρ) : (noEx (lcLoop step (l.map f) [] ρ)).sat Q := by
  have : ∀ (l : List α) (acc : List PyData), (∀ a ∈ l, (step (f a) ρ).sat fun o ρ' => o = some (g a) ∧ ρ' = ρ) → acc.length + l.length ≤ 16777216 → lcLoop step (l.map f) acc ρ = .ok (acc ++ l.map g) ρ := by
    intro l
    induction l with
    | nil => intro acc _ _; simp [lcLoop]
    | cons a l ih =>
      intro acc hs hl
      rw [List.length_cons] at hl
      rw [List.map_cons, lcLoop, step_ok (hs a List.mem_cons_self)]
      show (if acc.length < 16777216 then lcLoop step (l.map f) (acc ++ [g a]) ρ else .bad) = _
      rw [if_pos (by omega), ih (acc ++ [g a]) (fun b hb => hs b (List.mem_cons_of_mem _ hb)) (by rw [List.length_append, List.length_singleton]; omega), List.map_cons, List.append_assoc]; rfl
  rw [this l [] hs (by simpa using hl)]
  exact h
theorem w_lcB {α : Type} {step : PyData → Fm → Res (Option PyData)} {l : List α} {f g : α → PyData} {p : α → Bool} {Q : List PyData → Fm → Prop} (hl : l.length ≤ 16777216) (hs : ∀ a ∈ l, (step (f a) ρ).sat fun o ρ' => o = (if p a then some (g a) else none) ∧ ρ' = ρ) (h : Q ((l.filter p).map g) ρ) : (noEx (lcLoop step (l.map f) [] ρ)).sat Q := by
  have : ∀ (l : List α) (acc : List PyData), (∀ a ∈ l, (step (f a) ρ).sat fun o ρ' => o = (if p a then some (g a) else none) ∧ ρ' = ρ) → acc.length + l.length ≤ 16777216 → lcLoop step (l.map f) acc ρ = .ok (acc ++ (l.filter p).map g) ρ := by
    intro l
    induction l with
    | nil => intro acc _ _; simp [lcLoop]
    | cons a l ih =>
      intro acc hs hl
      rw [List.length_cons] at hl
      rw [List.map_cons, lcLoop, step_ok (hs a List.mem_cons_self)]
      cases q : p a with
      | true =>
        show (if acc.length < 16777216 then lcLoop step (l.map f) (acc ++ [g a]) ρ else .bad) = _
        rw [if_pos (by omega), ih (acc ++ [g a]) (fun b hb => hs b (List.mem_cons_of_mem _ hb)) (by rw [List.length_append, List.length_singleton]; omega), List.filter_cons_of_pos q, List.map_cons, List.append_assoc]; rfl
      | false =>
        show lcLoop step (l.map f) acc ρ = _
        rw [ih acc (fun b hb => hs b (List.mem_cons_of_mem _ hb)) (by omega), List.filter_cons_of_neg (by rw [q]; decide)]
  rw [this l [] hs (by simpa using hl)]
  exact h
/-! ### a call whose result is told -/
theorem w_told {f : Nat} {os : List O} {o : O} {ps : List (Option O)} {Q : O → List (Option O) → Prop} (e : Φ f os = .ok o ps) (h : Q o ps) : (Φ f os).sat Q := by rw [e]; exact h
theorem w_draw {f : Nat} (D : DrawsF Φ f) {x : P5} {m : Int} {Q : O → List (Option O) → Prop} (h0 : 0 < m) (h1 : m < 18446744073709551616) (h : ∀ (r : Int) (y : P5), 0 ≤ r → r < m → Q (.fz (.int r)) [some (.ls (pl y)), none]) : (Φ f [.ls (pl x), .fz (.int m)]).sat Q := by
  obtain ⟨r, y, e, g0, g1⟩ := D x m h0 h1
  rw [e]; exact h r y g0 g1
theorem w_num {f : Nat} (D : NumF Φ f) {x : P5} {m : Int} {Q : O → List (Option O) → Prop} (h0 : 0 ≤ m) (h1 : m < 4611686018427387904) (h : ∀ (r : Int) (y : P5), 0 ≤ r → r ≤ m → Q (.fz (.int r)) [some (.ls (pl y)), none]) : (Φ f [.ls (pl x), .fz (.int m)]).sat Q := by
  obtain ⟨r, y, e, g0, g1⟩ := D x m h0 h1
  rw [e]; exact h r y g0 g1
/-- a def, run: the frames that end it begin with what was handed in -/
theorem w_def {T : List Df} {n f : Nat} {d : Df} {os : List O} {Q : O → List (Option O) → Prop} (hd : T[f]? = some d) (hl : os.length = d.np) (h : (exSs (callN T n) d.body (frame0 d.N.length os)).sat (fun ρ => Q (.fz .none) (fins os ρ)) (fun o ρ => Q o (fins os ρ)) (fun _ => False) fun _ => False) :
    (callN T (n + 1) f os).sat Q := callN_sat hd hl h
/-! ### ways to tell what operators tell -/
theorem bin_cat {a b : List PyData} (h : a.length + b.length ≤ 16777216) : binF .add (.fz (.tuple a)) (.fz (.tuple b)) = some (.fz (.tuple (a ++ b))) := by
  show (if fits _ = true then _ else _) = _
  rw [if_pos (show fits _ = true from decide_eq_true h)]
theorem bin_catL {a b : List PyData} (h : a.length + b.length ≤ 16777216) : binF .add (.ls a) (.ls b) = some (.ls (a ++ b)) := by
  show (if fits _ = true then _ else _) = _
  rw [if_pos (show fits _ = true from decide_eq_true h)]
theorem bin_mul {x y : Int} (h : (wee x || wee y) = true) : binF .mul (.fz (.int x)) (.fz (.int y)) = some (.fz (.int (x * y))) := by
  show (if (wee x || wee y) = true then _ else _) = _
  rw [if_pos h]
theorem bin_div {x y : Int} (h : 0 < y ∧ y < 18446744073709551616) : binF .fdiv (.fz (.int x)) (.fz (.int y)) = some (.fz (.int (x / y))) := by
  show (if decide (0 < y ∧ y < 18446744073709551616) = true then _ else _) = _
  rw [if_pos (decide_eq_true h)]
theorem bin_mod {x y : Int} (h : 0 < y) : binF .mod (.fz (.int x)) (.fz (.int y)) = some (.fz (.int (x % y))) := by
  show (if decide (0 < y) = true then _ else _) = _
  rw [if_pos (decide_eq_true h)]
theorem wee_of {x : Int} (h : -18446744073709551616 < x ∧ x < 18446744073709551616) : wee x = true := decide_eq_true h
theorem wee_l {x y : Int} (h : -18446744073709551616 < x ∧ x < 18446744073709551616) : (wee x || wee y) = true := by rw [wee_of h]; rfl
theorem wee_r {x y : Int} (h : -18446744073709551616 < y ∧ y < 18446744073709551616) : (wee x || wee y) = true := by rw [wee_of h, Bool.or_true]
theorem cmp_eqI (x y : Int) : cmpF .eq (.fz (.int x)) (.fz (.int y)) = some (decide (x = y)) := eqF_int x y
theorem cmp_neI (x y : Int) : cmpF .ne (.fz (.int x)) (.fz (.int y)) = some (!decide (x = y)) := by
  show (eqF (.int x) (.int y)).map _ = _
  rw [eqF_int]; rfl
theorem cmp_inI (x : Int) (ys : List Int) : cmpF .isin (.fz (.int x)) (.fz (.tuple (ys.map PyData.int))) = some (decide (x ∈ ys)) := inF_ints x ys
theorem cmp_ninI (x : Int) (ys : List Int) : cmpF .notin (.fz (.int x)) (.fz (.tuple (ys.map PyData.int))) = some (!decide (x ∈ ys)) := by
  show (inF (.int x) (ys.map PyData.int)).map _ = _
  rw [inF_ints x ys]; rfl
theorem rngOk_of {i : Int} (h : -4611686018427387904 ≤ i ∧ i < 4611686018427387904) : rngOk i = true := by
  unfold rngOk
  exact decide_eq_true h
theorem pv_sel {a b : IE} {k : PyData} {xs : List PyData} {d : PyData} (ha : PV Φ a ρ (.tuple xs)) (hb : PV Φ b ρ k) (h : ixF (.fz (.tuple xs)) (.fz k) = some d) : PV Φ (.sub a b) ρ d := by
  refine pv_ev (fun _ z => nomatch z) ?_
  obtain ⟨u, a1, a2, _⟩ := ha.pr
  obtain ⟨v, b1, b2, _⟩ := hb.pr
  simp only [ev, a1, Res.bind, b1, a2, b2, Option.bind_some, h, Option.map_some, ofO]
theorem pv_isi {a : IE} {t : Ty} {d : PyData} {k : Bool} (ha : PV Φ a ρ d) (h : isiF t (.fz d) = some k) : PV Φ (.isi a t) ρ (.bool k) := by
  refine pv_ev (fun _ z => nomatch z) ?_
  obtain ⟨u, a1, a2, _⟩ := ha.pr
  simp only [ev, a1, Res.bind, a2, Option.bind_some, h, Option.map_some, ofO]
theorem pv_neg {a : IE} {x : Int} (ha : PV Φ a ρ (.int x)) : PV Φ (.neg a) ρ (.int (-x)) := by
  refine pv_ev (fun _ z => nomatch z) ?_
  rw [ev, ha.evF]; rfl
theorem pv_bi1 {b : Bi} {a : IE} {x y : PyData} (ha : PV Φ a ρ x) (h : biF b [.fz x] = some (.fz y)) : PV Φ (.bi b (.cons a .nil)) ρ y := by
  refine pv_ev (fun _ z => nomatch z) ?_
  obtain ⟨u, a1, a2, _⟩ := ha.pr
  simp only [ev, evAs, a1, Res.bind, vals, a2, Option.bind_some, Option.map_some, h, ofO]
theorem pv_bi2 {b : Bi} {a c : IE} {x y z : PyData} (ha : PV Φ a ρ x) (hc : PV Φ c ρ y) (h : biF b [.fz x, .fz y] = some (.fz z)) : PV Φ (.bi b (.cons a (.cons c .nil))) ρ z := by
  refine pv_ev (fun _ z => nomatch z) ?_
  obtain ⟨u, a1, a2, _⟩ := ha.pr
  obtain ⟨v, c1, c2, _⟩ := hc.pr
  simp only [ev, evAs, a1, Res.bind, vals, c1, a2, c2, Option.bind_some, Option.map_some, h, ofO]
theorem pv_cmp2 {p q : COp} {a b c : IE} {x y z : PyData} {k m : Bool} (ha : PV Φ a ρ x) (hb : PV Φ b ρ y) (hc : PV Φ c ρ z) (h1 : cmpF p (.fz x) (.fz y) = some k) (h2 : cmpF q (.fz y) (.fz z) = some m) : PV Φ (.cmp2 p q a b c) ρ (.bool (k && m)) := by
  refine pv_ev (fun _ z => nomatch z) ?_
  obtain ⟨u, a1, a2, _⟩ := ha.pr
  obtain ⟨v, b1, b2, _⟩ := hb.pr
  obtain ⟨w, c1, c2, _⟩ := hc.pr
  simp only [ev, a1, Res.bind, b1, a2, b2, Option.bind_some, h1, ofO]
  cases k with
  | true => simp only [if_true, c1, b2, c2, Option.bind_some, h2, Option.map_some, Bool.true_and]
  | false => simp only [Bool.false_eq_true, if_false, Bool.false_and]
theorem eqF_refl {d : PyData} (h : SeqAt.shaped d = true) : eqF d d = some true := by
  have q : (∃ s, d = .str s) ∨ eqF d d = (if (SeqAt.shaped d && SeqAt.shaped d) = true then some (PyData.eqv d d) else none) := by
    cases d <;> first | exact .inl ⟨_, rfl⟩ | exact .inr rfl
  rcases q with ⟨s, rfl⟩ | q
  · exact congrArg some (decide_eq_true rfl)
  · rw [q, h, SeqAt.eqv_refl _ (Bool.and_eq_true_iff.mp h).1]; rfl
theorem ne_refl {a b : O} {d : PyData} (ha : a.toD = d) (hb : b.toD = d) (h : SeqAt.shaped d = true) : cmpF .ne a b = some false := by
  show (eqF a.toD b.toD).map _ = _
  rw [ha, hb, eqF_refl h]; rfl
theorem eq_refl {a b : O} {d : PyData} (ha : a.toD = d) (hb : b.toD = d) (h : SeqAt.shaped d = true) : cmpF .eq a b = some true := by
  show eqF a.toD b.toD = _
  rw [ha, hb, eqF_refl h]
theorem inF_some {x : PyData} {ds : List PyData} (hx : SeqAt.shaped x = true) (h : ∀ d ∈ ds, SeqAt.shaped d = true) : ∃ k, inF x ds = some k := by
  have e : ds.all SeqAt.shaped = true := List.all_eq_true.mpr h
  exact ⟨_, by rw [inF, hx, e]; rfl⟩
theorem nin_some {x : PyData} {ds : List PyData} (hx : SeqAt.shaped x = true) (h : ∀ d ∈ ds, SeqAt.shaped d = true) : ∃ k, cmpF .notin (.fz x) (.ls ds) = some k := by
  obtain ⟨k, e⟩ := inF_some hx h
  exact ⟨!k, by show (inF x ds).map _ = _; rw [e]; rfl⟩
theorem Sm.list {w k n : Nat} {ds : List PyData} (h : ∀ d ∈ ds, Sm w k d) (hn : ds.length ≤ n) : Sm (n * (w + 1) + 41) (k + 1) (.list ds) := ⟨(Sm.tuple h hn).leaf, (Sm.tuple h hn).size, (Sm.tuple h hn).deep⟩
theorem sm_shaped {w k : Nat} {d : PyData} (h : Sm w k d) (hk : k ≤ 60) : SeqAt.shaped d = true := ok_shaped (h.ok hk)
theorem bi_repr {o : O} (h : shw o.toD = true) : biF .repr [o] = some (.fz (.str o.toD.shown)) := by
  show (if shw o.toD = true then _ else _) = _
  rw [if_pos h]
theorem ne_str (s : Str) : cmpF .ne (.fz (.str s)) (.fz (.str s)) = some false := by
  show some (!decide (s = s)) = _
  rw [decide_eq_true rfl]; rfl
theorem val_int {i : Int} (h : i.natAbs < 100000) : Val (.int i) := (Sm.int h).val (by omega) (by omega)
theorem val_two {i j : Int} (h : i.natAbs < 100000) (k : j.natAbs < 100000) : Val (.tuple [.int i, .int j]) := (Sm.tuple (w := 60) (k := 0) (n := 2) (fun d hd => by
  rcases List.mem_cons.mp hd with rfl | hd  -- gw
  · exact Sm.int h
  · rw [List.mem_singleton.mp hd]; exact Sm.int k) (by simp)).val (by omega) (by omega)
theorem nodc_fz {d : PyData} : ∀ kvs, O.fz d ≠ .dc kvs := fun _ z => by cases z
theorem nodc_ls {ds : List PyData} : ∀ kvs, O.ls ds ≠ .dc kvs := fun _ z => by cases z
def isLocB : IE → Bool
  | .loc _ => true | _ => false
theorem hn_of {e : IE} (h : isLocB e = false) : ∀ j, e ≠ .loc j := fun j z => by subst z; cases h
theorem toD_fz {d : PyData} : (O.fz d).toD = d := rfl
theorem toD_ls {ds : List PyData} : (O.ls ds).toD = .list ds := rfl
theorem ssF_ints {ns : List Int} (h : ns.length + 1 < 4096) : ssF (.ls (ns.map PyData.int)) = some (.ls ((uniI ns).map PyData.int)) := by
  show (intsF (ns.map PyData.int)).bind _ = _
  rw [ints_map]
  show (if ns.length + 1 < 4096 then _ else _) = _
  rw [if_pos h]
/-- the numbers of a range, one after another -/
def rngF (j n : Nat) : List PyData := (List.range' j n).map fun k => .int (k : Nat)
theorem rngD_F (m : Nat) : rngD 0 m = rngF 0 m := by
  unfold rngD rngF
  rw [← List.range_eq_range']
  exact List.map_congr_left fun k _ => by rw [Int.zero_add]
theorem rngF_cons {j n : Nat} : rngF j (n + 1) = .int (j : Nat) :: rngF (j + 1) n := rfl
theorem rngF_nil {j : Nat} : rngF j 0 = [] := rfl
theorem ix_mid {p : List PyData} {e : PyData} {q : List PyData} {k : Nat} (h : p.length = k) : ixF (.ls (p ++ e :: q)) (.fz (.int (k : Nat))) = some e := by
  subst h
  exact at_mid p e q
theorem ixN_last {n : Nat} : L2.ixN (n + 1) (-1) = some n := by
  unfold L2.ixN
  simp
  omega
theorem ix_last {p : List PyData} {e : PyData} : ixF (.ls (p ++ [e])) (.fz (.int (-1))) = some e := by
  show L2.atI (p ++ [e]) (-1) = some e
  unfold L2.atI
  rw [List.length_append, List.length_singleton, ixN_last]
  simp
theorem set_last {p : List PyData} {e d : PyData} : setF (.ls (p ++ [e])) (.fz (.int (-1))) d = some (.ls (p ++ [d])) := by
  show (L2.ixN (p ++ [e]).length (-1)).map _ = _
  rw [List.length_append, List.length_singleton, ixN_last]
  simp
theorem tf_abs {b : Bool} {P : Prop} (h : b = true) (z : b = false) : P := absurd (h.symm.trans z) (by decide)
theorem ft_abs {b : Bool} {P : Prop} (h : b = false) (z : b = true) : P := absurd (h.symm.trans z) (by decide)
theorem br_tt {b : Bool} {A C : Prop} (h : b = true) (k : A) : (b = true → A) ∧ (b = false → C) := ⟨fun _ => k, fun z => tf_abs h z⟩
theorem br_ff {b : Bool} {A C : Prop} (h : b = false) (k : C) : (b = true → A) ∧ (b = false → C) := ⟨fun z => ft_abs h z, fun _ => k⟩
theorem br_ft {b : Bool} {A C : Prop} (h : b = false) (k : A) : (b = false → A) ∧ (b = true → C) := ⟨fun _ => k, fun z => ft_abs h z⟩
theorem br_tf {b : Bool} {A C : Prop} (h : b = true) (k : C) : (b = false → A) ∧ (b = true → C) := ⟨fun z => tf_abs h z, fun _ => k⟩
/-- what is asked at an end: no step looks into it -/
def Is (p : Prop) : Prop := p
theorem Is.mk {p : Prop} (h : p) : Is p := h
theorem isi_L {t : Ty} {ds : List PyData} : isiF t (.ls ds) = some (match t with | .tList => true | _ => false) := by cases t <;> rfl
end
end GW

namespace Law
open PySem GW
set_option maxHeartbeats 4000000  -- gw
/-! the text, by slots -/
abbrev Ffolded : Nat := 0
abbrev Fwords_of : Nat := 1
abbrev Fsum_of : Nat := 2
abbrev Finner_size : Nat := 3
abbrev Flength_of : Nat := 4
abbrev Ftwo : Nat := 5
abbrev Finner_bytes : Nat := 6
abbrev Fwrite_inner : Nat := 7
abbrev Fwrite_packet : Nat := 8
abbrev Fnumber_at : Nat := 9
abbrev Fouter_fault : Nat := 10
abbrev Finner_fault : Nat := 11
abbrev Fread_inner : Nat := 12
abbrev Fread_packet : Nat := 13
abbrev F_law_same : Nat := 14
abbrev F_law_pool : Nat := 15
abbrev F_law_spread : Nat := 16
abbrev F_law_draw : Nat := 17
abbrev F_law_number : Nat := 18
abbrev F_law_fold : Nat := 19
abbrev F_law_words : Nat := 20
abbrev F_law_check : Nat := 21
abbrev F_law_two : Nat := 22
abbrev F_law_row : Nat := 23
abbrev F_law_inner_size : Nat := 24
abbrev F_law_kind : Nat := 25
abbrev F_law_inner : Nat := 26
abbrev F_law_packet : Nat := 27
abbrev F_law_length : Nat := 28
abbrev F_law_bytes : Nat := 29
abbrev Flaw : Nat := 30
def GMOST : D := (.int 65535)
def GASKING : D := (.int 17)
def GSTREAM : D := (.int 6)
def GNOTE : D := (.int 1)
def GLONGEST : D := (.int 1500)
def Bfolded : ISs :=
  (.cons (.asg 1 (.bi .sum (.cons (.loc 0) .nil)))
  (.cons (.ret (.ife (.cmp .eq (.loc 1) (.con (.int 0))) (.con (.int 0)) (.bin .add (.bin .mod (.bin .sub (.loc 1) (.con (.int 1))) (.glo "MOST" GMOST)) (.con (.int 1)))))
  .nil))
def Bwords_of : ISs :=
  (.cons (.asg 1 (.bin .add (.bi .list (.cons (.loc 0) .nil)) (.bin .mul (.lst (.cons (.con (.int 0)) .nil)) (.bin .mod (.bi .len (.cons (.loc 0) .nil)) (.con (.int 2))))))
  (.cons (.ret (.lc (.bin .add (.bin .mul (.con (.int 256)) (.sub (.loc 1) (.loc 2))) (.sub (.loc 1) (.bin .add (.loc 2) (.con (.int 1))))) (.nm 2) (.rng3 (.con (.int 0)) (.bi .len (.cons (.loc 1) .nil)) (.con (.int 2))) .no [2]))
  .nil))
def Bsum_of : ISs :=
  (.cons (.ret (.bin .sub (.glo "MOST" GMOST) (.call Ffolded (.cons (.call Fwords_of (.cons (.loc 0) .nil)) .nil))))
  .nil)
def Binner_size : ISs :=
  (.cons (.ret (.dget (.cons (.glo "NOTE" GNOTE) (.con (.int 4)) (.cons (.glo "STREAM" GSTREAM) (.con (.int 8)) (.cons (.glo "ASKING" GASKING) (.con (.int 6)) .nil))) (.loc 0) (.con (.int 0))))
  .nil)
def Blength_of : ISs :=
  (.cons (.ret (.bin .add (.bin .add (.bin .add (.con (.int 12)) (.bi .len (.cons (.sub (.loc 0) (.con (.int 4))) .nil))) (.call Finner_size (.cons (.sub (.loc 0) (.con (.int 2))) .nil))) (.bi .len (.cons (.sub (.loc 0) (.con (.int 6))) .nil))))
  .nil)
def Btwo : ISs :=
  (.cons (.ret (.tup (.cons (.bin .fdiv (.loc 0) (.con (.int 256))) (.cons (.bin .mod (.loc 0) (.con (.int 256))) .nil))))
  .nil)
def Binner_bytes : ISs :=
  (.cons (.asg 1 (.sub (.loc 0) (.con (.int 2))))
  (.cons (.asg 2 (.sub (.loc 0) (.con (.int 5))))
  (.cons (.iff (.cmp .eq (.loc 1) (.glo "STREAM" GSTREAM))
  (.cons (.ret (.bin .add (.bin .add (.call Ftwo (.cons (.sub (.loc 2) (.con (.int 0))) .nil)) (.call Ftwo (.cons (.sub (.loc 2) (.con (.int 1))) .nil))) (.tup (.cons (.sub (.loc 2) (.con (.int 2))) (.cons (.con (.int 0)) .nil)))))
  .nil)
  .nil)
  (.cons (.iff (.cmp .eq (.loc 1) (.glo "ASKING" GASKING))
  (.cons (.ret (.bin .add (.call Ftwo (.cons (.sub (.loc 2) (.con (.int 0))) .nil)) (.call Ftwo (.cons (.sub (.loc 2) (.con (.int 1))) .nil))))
  .nil)
  .nil)
  (.cons (.ret (.loc 2))
  .nil)))))
def Bwrite_inner : ISs :=
  (.cons (.asg 1 (.call Finner_bytes (.cons (.loc 0) .nil)))
  (.cons (.iff (.cmp .eq (.call Finner_size (.cons (.sub (.loc 0) (.con (.int 2))) .nil)) (.con (.int 0)))
  (.cons (.ret (.sub (.loc 0) (.con (.int 6))))
  .nil)
  .nil)
  (.cons (.asg 2 (.bin .add (.bin .add (.bi .len (.cons (.loc 1) .nil)) (.con (.int 2))) (.bi .len (.cons (.sub (.loc 0) (.con (.int 6))) .nil))))
  (.cons (.asg 3 (.bin .add (.bin .add (.bin .add (.bin .add (.bin .add (.bin .add (.call Ftwo (.cons (.sub (.loc 0) (.con (.int 0))) .nil)) (.call Ftwo (.cons (.sub (.loc 0) (.con (.int 1))) .nil))) (.call Ftwo (.cons (.sub (.loc 0) (.con (.int 2))) .nil))) (.call Ftwo (.cons (.loc 2) .nil))) (.loc 1)) (.tup (.cons (.con (.int 0)) (.cons (.con (.int 0)) .nil)))) (.sub (.loc 0) (.con (.int 6)))))
  (.cons (.ret (.bin .add (.bin .add (.loc 1) (.call Ftwo (.cons (.call Fsum_of (.cons (.loc 3) .nil)) .nil))) (.sub (.loc 0) (.con (.int 6)))))
  .nil)))))
def Bwrite_packet : ISs :=
  (.cons (.asgT (.tp (.cons (.nm 3) (.cons (.nm 4) (.cons (.nm 5) (.cons (.nm 6) (.cons (.nm 7) .nil)))))) (.slc (.loc 0) .no (.so (.con (.int 5)))))
  (.cons (.asg 1 (.bin .add (.bin .add (.tup (.cons (.bin .add (.bin .add (.con (.int 64)) (.con (.int 6))) (.bin .fdiv (.bi .len (.cons (.loc 7) .nil)) (.con (.int 2)))) (.cons (.loc 5) .nil))) (.call Ftwo (.cons (.call Flength_of (.cons (.loc 0) .nil)) .nil))) (.tup (.cons (.loc 6) (.cons (.con (.int 0)) .nil)))))
  (.cons (.asg 2 (.bin .add (.bin .add (.call Ftwo (.cons (.loc 3) .nil)) (.call Ftwo (.cons (.loc 4) .nil))) (.loc 7)))
  (.cons (.ret (.bin .add (.bin .add (.bin .add (.loc 1) (.call Ftwo (.cons (.call Fsum_of (.cons (.bin .add (.bin .add (.loc 1) (.tup (.cons (.con (.int 0)) (.cons (.con (.int 0)) .nil)))) (.loc 2)) .nil)) .nil))) (.loc 2)) (.call Fwrite_inner (.cons (.loc 0) .nil))))
  .nil))))
def Bnumber_at : ISs :=
  (.cons (.ret (.bin .add (.bin .mul (.con (.int 256)) (.sub (.loc 0) (.loc 1))) (.sub (.loc 0) (.bin .add (.loc 1) (.con (.int 1))))))
  .nil)
def Bouter_fault : ISs :=
  (.cons (.iff (.cmp .lt (.bi .len (.cons (.loc 0) .nil)) (.con (.int 12)))
  (.cons (.ret (.con (.str "short")))
  .nil)
  .nil)
  (.cons (.iff (.not (.cmp2 .le .le (.con (.int 70)) (.sub (.loc 0) (.con (.int 0))) (.con (.int 74))))
  (.cons (.ret (.con (.str "version")))
  .nil)
  .nil)
  (.cons (.iff (.or (.cmp .ne (.call Fnumber_at (.cons (.loc 0) (.cons (.con (.int 2)) .nil))) (.bi .len (.cons (.loc 0) .nil))) (.cmp .gt (.bi .len (.cons (.loc 0) .nil)) (.glo "LONGEST" GLONGEST)))
  (.cons (.ret (.con (.str "length")))
  .nil)
  .nil)
  (.cons (.asg 1 (.bin .mul (.con (.int 2)) (.bin .sub (.sub (.loc 0) (.con (.int 0))) (.con (.int 64)))))
  (.cons (.iff (.cmp .lt (.bi .len (.cons (.loc 0) .nil)) (.loc 1))
  (.cons (.ret (.con (.str "header")))
  .nil)
  .nil)
  (.cons (.iff (.cmp .ne (.call Ffolded (.cons (.call Fwords_of (.cons (.slc (.loc 0) .no (.so (.loc 1))) .nil)) .nil)) (.glo "MOST" GMOST))
  (.cons (.ret (.con (.str "sum")))
  .nil)
  .nil)
  (.cons (.iff (.cmp .ne (.sub (.loc 0) (.con (.int 5))) (.con (.int 0)))
  (.cons (.ret (.con (.str "zero")))
  .nil)
  .nil)
  (.cons (.ret (.ife (.cmp .eq (.sub (.loc 0) (.con (.int 4))) (.con (.int 0))) (.con (.str "ttl")) (.con (.str ""))))
  .nil))))))))
def Binner_fault : ISs :=
  (.cons (.iff (.cmp .lt (.bi .len (.cons (.loc 2) .nil)) (.call Finner_size (.cons (.loc 1) .nil)))
  (.cons (.ret (.con (.str "inner")))
  .nil)
  .nil)
  (.cons (.iff (.and (.cmp .eq (.loc 1) (.glo "STREAM" GSTREAM)) (.or (.cmp .gt (.sub (.loc 2) (.con (.int 4))) (.con (.int 7))) (.cmp .ne (.sub (.loc 2) (.con (.int 5))) (.con (.int 0)))))
  (.cons (.ret (.con (.str "flags")))
  .nil)
  .nil)
  (.cons (.iff (.cmp .gt (.call Finner_size (.cons (.loc 1) .nil)) (.con (.int 0)))
  (.cons (.asg 3 (.bin .add (.bin .add (.bin .add (.slc (.loc 0) (.so (.con (.int 8))) (.so (.con (.int 12)))) (.call Ftwo (.cons (.loc 1) .nil))) (.call Ftwo (.cons (.bi .len (.cons (.loc 2) .nil)) .nil))) (.loc 2)))
  (.cons (.iff (.cmp .ne (.call Ffolded (.cons (.call Fwords_of (.cons (.loc 3) .nil)) .nil)) (.glo "MOST" GMOST))
  (.cons (.ret (.con (.str "inner sum")))
  .nil)
  .nil)
  .nil))
  .nil)
  (.kil [3] (.cons (.ret (.con (.str "")))
  .nil)))))
def Bread_inner : ISs :=
  (.cons (.iff (.cmp .eq (.loc 0) (.glo "STREAM" GSTREAM))
  (.cons (.ret (.tup (.cons (.call Fnumber_at (.cons (.loc 1) (.cons (.con (.int 0)) .nil))) (.cons (.call Fnumber_at (.cons (.loc 1) (.cons (.con (.int 2)) .nil))) (.cons (.sub (.loc 1) (.con (.int 4))) .nil)))))
  .nil)
  .nil)
  (.cons (.iff (.cmp .eq (.loc 0) (.glo "ASKING" GASKING))
  (.cons (.ret (.tup (.cons (.call Fnumber_at (.cons (.loc 1) (.cons (.con (.int 0)) .nil))) (.cons (.call Fnumber_at (.cons (.loc 1) (.cons (.con (.int 2)) .nil))) .nil))))
  .nil)
  .nil)
  (.cons (.ret (.ife (.cmp .eq (.loc 0) (.glo "NOTE" GNOTE)) (.slc (.loc 1) .no (.so (.con (.int 2)))) (.tup .nil)))
  .nil)))
def Bread_packet : ISs :=
  (.cons (.asg 1 (.call Fouter_fault (.cons (.loc 0) .nil)))
  (.cons (.iff (.cmp .ne (.loc 1) (.con (.str "")))
  (.cons .nev
  .nil)
  .nil)
  (.cons (.asg 2 (.bin .mul (.con (.int 2)) (.bin .sub (.sub (.loc 0) (.con (.int 0))) (.con (.int 64)))))
  (.cons (.asg 3 (.sub (.loc 0) (.con (.int 1))))
  (.cons (.asg 4 (.slc (.loc 0) (.so (.loc 2)) .no))
  (.cons (.asg 1 (.call Finner_fault (.cons (.loc 0) (.cons (.loc 3) (.cons (.loc 4) .nil)))))
  (.cons (.iff (.cmp .ne (.loc 1) (.con (.str "")))
  (.cons .nev
  .nil)
  .nil)
  (.cons (.asg 5 (.call Fread_inner (.cons (.loc 3) (.cons (.loc 4) .nil))))
  (.cons (.ret (.tup (.cons (.call Fnumber_at (.cons (.loc 0) (.cons (.con (.int 8)) .nil))) (.cons (.call Fnumber_at (.cons (.loc 0) (.cons (.con (.int 10)) .nil))) (.cons (.loc 3) (.cons (.sub (.loc 0) (.con (.int 4))) (.cons (.slc (.loc 0) (.so (.con (.int 12))) (.so (.loc 2))) (.cons (.loc 5) (.cons (.slc (.loc 4) (.so (.call Finner_size (.cons (.loc 3) .nil))) .no) .nil)))))))))
  .nil)))))))))
def B_law_same : ISs :=
  (.cons (.iff (.or (.isi (.loc 1) .tTup) (.isi (.loc 1) .tList))
  (.cons (.iff (.or (.cmp .ne (.isi (.loc 1) .tTup) (.isi (.loc 0) .tTup)) (.or (.cmp .ne (.isi (.loc 1) .tList) (.isi (.loc 0) .tList)) (.cmp .ne (.bi .len (.cons (.loc 0) .nil)) (.bi .len (.cons (.loc 1) .nil)))))
  (.cons (.ret (.con (.bool false)))
  .nil)
  .nil)
  (.cons (.ret (.cmp .eq (.bi .len (.cons (.lc (.loc 2) (.nm 2) (.rng1 (.bi .len (.cons (.loc 1) .nil))) (.so (.not (.call F_law_same (.cons (.sub (.loc 0) (.loc 2)) (.cons (.sub (.loc 1) (.loc 2)) .nil))))) [2]) .nil)) (.con (.int 0))))
  .nil))
  .nil)
  (.kil [2] (.cons (.iff (.isN (.loc 1))
  (.cons (.ret (.isN (.loc 0)))
  .nil)
  .nil)
  (.cons (.iff (.or (.isi (.loc 1) .tBool) (.isi (.loc 0) .tBool))
  (.cons (.ret (.and (.isi (.loc 1) .tBool) (.and (.isi (.loc 0) .tBool) (.cmp .eq (.loc 0) (.loc 1)))))
  .nil)
  .nil)
  (.cons (.iff (.isi (.loc 1) .tInt)
  (.cons (.ret (.and (.isi (.loc 0) .tInt) (.cmp .eq (.loc 0) (.loc 1))))
  .nil)
  .nil)
  (.cons (.ret (.and (.isi (.loc 0) .tStr) (.cmp .eq (.loc 0) (.loc 1))))
  .nil))))))
def B_law_pool : ISs :=
  (.cons (.asg 1 (.con (.int 7)))
  (.cons (.fr (.nm 2) (.val (.slc (.loc 0) .no (.so (.con (.int 63)))))
  (.cons (.asg 1 (.bin .mod (.bi .int (.cons (.bin .add (.bin .mul (.loc 1) (.con (.int 31))) (.loc 2)) .nil)) (.con (.int 1000003))))
  .nil) [2])
  (.cons (.ret (.lst (.cons (.bi .list (.cons (.loc 0) .nil)) (.cons (.con (.int 0)) (.cons (.con (.int 0)) (.cons (.con (.int 0)) (.cons (.loc 1) .nil)))))))
  .nil)))
def B_law_spread : ISs :=
  (.cons (.asg 1 (.bin .mod (.bi .int (.cons (.loc 0) .nil)) (.con (.int 2147483647))))
  (.cons (.asg 2 (.con (.int 1)))
  (.cons (.fr (.nm 3) (.rng1 (.con (.int 4)))
  (.cons (.asg 1 (.bin .mod (.bi .int (.cons (.bin .add (.bin .add (.bin .mul (.loc 1) (.con (.int 48271))) (.con (.int 12345))) (.loc 3)) .nil)) (.con (.int 2147483647))))
  (.cons (.asg 2 (.bin .add (.bin .mul (.loc 2) (.con (.int 2147483647))) (.loc 1)))
  .nil)) [3])
  (.cons (.ret (.loc 2))
  .nil))))
def B_law_draw : ISs :=
  (.cons (.iff (.and (.cmp .le (.sub (.loc 0) (.con (.int 2))) (.con (.int 0))) (.cmp .lt (.sub (.loc 0) (.con (.int 1))) (.bi .len (.cons (.sub (.loc 0) (.con (.int 0))) .nil))))
  (.cons (.asg 3 (.sub (.sub (.loc 0) (.con (.int 0))) (.sub (.loc 0) (.con (.int 1)))))
  (.cons (.seti 0 (.con (.int 1)) (.bin .add (.sub (.loc 0) (.con (.int 1))) (.con (.int 1))))
  (.cons (.seti 0 (.con (.int 2)) (.loc 3))
  (.cons (.iff (.cmp .lt (.loc 3) (.con (.int 1000000000000000000)))
  (.cons (.seti 0 (.con (.int 2)) (.call F_law_spread (.cons (.loc 3) .nil)))
  .nil)
  .nil)
  .nil))))
  .nil)
  (.kil [3] (.cons (.seti 0 (.con (.int 3)) (.bin .add (.sub (.loc 0) (.con (.int 3))) (.con (.int 1))))
  (.cons (.iff (.cmp .le (.sub (.loc 0) (.con (.int 2))) (.con (.int 0)))
  (.cons (.asg 4 (.bin .mod (.bi .int (.cons (.bin .add (.bin .add (.bin .mul (.sub (.loc 0) (.con (.int 4))) (.con (.int 48271))) (.bin .mul (.sub (.loc 0) (.con (.int 3))) (.con (.int 69621)))) (.con (.int 1))) .nil)) (.con (.int 2147483647))))
  (.cons (.asg 4 (.bin .mod (.bi .int (.cons (.bin .add (.bin .mul (.loc 4) (.con (.int 16807))) (.sub (.loc 0) (.con (.int 3)))) .nil)) (.con (.int 2147483629))))
  (.cons (.ret (.bin .mod (.bin .fdiv (.loc 4) (.con (.int 5))) (.loc 1)))
  .nil)))
  .nil)
  (.kil [4] (.cons (.asg 2 (.bin .mod (.bi .int (.cons (.sub (.loc 0) (.con (.int 2))) .nil)) (.loc 1)))
  (.cons (.seti 0 (.con (.int 2)) (.bin .fdiv (.sub (.loc 0) (.con (.int 2))) (.loc 1)))
  (.cons (.ret (.loc 2))
  .nil))))))))
def B_law_number : ISs :=
  (.cons (.asg 2 (.call F_law_draw (.cons (.loc 0) (.cons (.con (.int 4)) .nil))))
  (.cons (.iff (.cmp .eq (.loc 2) (.con (.int 0)))
  (.cons (.ret (.call F_law_draw (.cons (.loc 0) (.cons (.bin .add (.loc 1) (.con (.int 1))) .nil))))
  .nil)
  .nil)
  (.cons (.iff (.cmp .eq (.loc 2) (.con (.int 1)))
  (.cons (.ret (.bi .min (.cons (.loc 1) (.cons (.call F_law_draw (.cons (.loc 0) (.cons (.con (.int 12)) .nil))) .nil))))
  .nil)
  .nil)
  (.cons (.iff (.cmp .eq (.loc 2) (.con (.int 2)))
  (.cons (.ret (.bi .max (.cons (.con (.int 0)) (.cons (.bin .sub (.loc 1) (.call F_law_draw (.cons (.loc 0) (.cons (.con (.int 12)) .nil)))) .nil))))
  .nil)
  .nil)
  (.cons (.ret (.bi .min (.cons (.loc 1) (.cons (.bin .mul (.con (.int 256)) (.call F_law_draw (.cons (.loc 0) (.cons (.con (.int 256)) .nil)))) .nil))))
  .nil)))))
def B_law_fold : ISs :=
  (.cons (.asg 1 (.bi .sum (.cons (.loc 0) .nil)))
  (.cons (.wh (.cmp .gt (.loc 1) (.con (.int 65535)))
  (.cons (.asg 1 (.bin .add (.bin .fdiv (.loc 1) (.con (.int 65536))) (.bin .mod (.bi .int (.cons (.loc 1) .nil)) (.con (.int 65536)))))
  .nil) [])
  (.cons (.ret (.loc 1))
  .nil)))
def B_law_words : ISs :=
  (.cons (.asg 1 (.bin .add (.bi .list (.cons (.loc 0) .nil)) (.bin .mul (.lst (.cons (.con (.int 0)) .nil)) (.bin .mod (.bi .int (.cons (.bi .len (.cons (.loc 0) .nil)) .nil)) (.con (.int 2))))))
  (.cons (.ret (.lc (.bin .add (.bin .mul (.con (.int 256)) (.sub (.loc 1) (.bin .mul (.con (.int 2)) (.loc 2)))) (.sub (.loc 1) (.bin .add (.bin .mul (.con (.int 2)) (.loc 2)) (.con (.int 1))))) (.nm 2) (.rng1 (.bin .fdiv (.bi .len (.cons (.loc 1) .nil)) (.con (.int 2)))) .no [2]))
  .nil))
def B_law_check : ISs :=
  (.cons (.ret (.bin .sub (.con (.int 65535)) (.call F_law_fold (.cons (.call F_law_words (.cons (.loc 0) .nil)) .nil))))
  .nil)
def B_law_two : ISs :=
  (.cons (.ret (.tup (.cons (.bin .fdiv (.loc 0) (.con (.int 256))) (.cons (.bin .mod (.bi .int (.cons (.loc 0) .nil)) (.con (.int 256))) .nil))))
  .nil)
def B_law_row : ISs :=
  (.cons (.ret (.bi .tuple (.cons (.lc (.sub (.tup (.cons (.call F_law_draw (.cons (.loc 0) (.cons (.con (.int 256)) .nil))) (.cons (.con (.int 0)) (.cons (.con (.int 255)) (.cons (.con (.int 1)) .nil))))) (.call F_law_draw (.cons (.loc 0) (.cons (.con (.int 4)) .nil)))) (.nm 2) (.rng1 (.loc 1)) .no [2]) .nil)))
  .nil)
def B_law_inner_size : ISs :=
  (.cons (.ret (.ife (.cmp .eq (.loc 0) (.con (.int 6))) (.con (.int 8)) (.ife (.cmp .eq (.loc 0) (.con (.int 17))) (.con (.int 6)) (.ife (.cmp .eq (.loc 0) (.con (.int 1))) (.con (.int 4)) (.con (.int 0))))))
  .nil)
def B_law_kind : ISs :=
  (.cons (.ret (.sub (.tup (.cons (.con (.int 6)) (.cons (.con (.int 6)) (.cons (.con (.int 17)) (.cons (.con (.int 1)) (.cons (.call F_law_draw (.cons (.loc 0) (.cons (.con (.int 256)) .nil))) .nil)))))) (.call F_law_draw (.cons (.loc 0) (.cons (.con (.int 5)) .nil)))))
  .nil)
def B_law_inner : ISs :=
  (.cons (.iff (.cmp .eq (.loc 1) (.con (.int 6)))
  (.cons (.ret (.tup (.cons (.call F_law_number (.cons (.loc 0) (.cons (.con (.int 65535)) .nil))) (.cons (.call F_law_number (.cons (.loc 0) (.cons (.con (.int 65535)) .nil))) (.cons (.call F_law_draw (.cons (.loc 0) (.cons (.con (.int 8)) .nil))) .nil)))))
  .nil)
  .nil)
  (.cons (.iff (.cmp .eq (.loc 1) (.con (.int 17)))
  (.cons (.ret (.tup (.cons (.call F_law_number (.cons (.loc 0) (.cons (.con (.int 65535)) .nil))) (.cons (.call F_law_number (.cons (.loc 0) (.cons (.con (.int 65535)) .nil))) .nil))))
  .nil)
  .nil)
  (.cons (.ret (.ife (.cmp .eq (.loc 1) (.con (.int 1))) (.tup (.cons (.call F_law_draw (.cons (.loc 0) (.cons (.con (.int 256)) .nil))) (.cons (.call F_law_draw (.cons (.loc 0) (.cons (.con (.int 256)) .nil))) .nil))) (.tup .nil)))
  .nil)))
def B_law_packet : ISs :=
  (.cons (.asg 2 (.call F_law_kind (.cons (.loc 0) .nil)))
  (.cons (.asg 3 (.tup (.cons (.call F_law_number (.cons (.loc 0) (.cons (.con (.int 65535)) .nil))) (.cons (.call F_law_number (.cons (.loc 0) (.cons (.con (.int 65535)) .nil))) .nil))))
  (.cons (.asg 4 (.call F_law_row (.cons (.loc 0) (.cons (.bin .mul (.con (.int 2)) (.call F_law_draw (.cons (.loc 0) (.cons (.con (.int 5)) .nil)))) .nil))))
  (.cons (.asg 5 (.call F_law_row (.cons (.loc 0) (.cons (.call F_law_draw (.cons (.loc 0) (.cons (.bin .add (.loc 1) (.con (.int 1))) .nil))) .nil))))
  (.cons (.ret (.bin .add (.loc 3) (.tup (.cons (.loc 2) (.cons (.sub (.tup (.cons (.bin .add (.con (.int 1)) (.call F_law_draw (.cons (.loc 0) (.cons (.con (.int 255)) .nil)))) (.cons (.con (.int 1)) (.cons (.con (.int 2)) (.cons (.con (.int 64)) .nil))))) (.call F_law_draw (.cons (.loc 0) (.cons (.con (.int 4)) .nil)))) (.cons (.loc 4) (.cons (.call F_law_inner (.cons (.loc 0) (.cons (.loc 2) .nil))) (.cons (.loc 5) .nil))))))))
  .nil)))))
def B_law_length : ISs :=
  (.cons (.ret (.bin .add (.bin .add (.bin .add (.con (.int 12)) (.bi .len (.cons (.sub (.loc 0) (.con (.int 4))) .nil))) (.call F_law_inner_size (.cons (.sub (.loc 0) (.con (.int 2))) .nil))) (.bi .len (.cons (.sub (.loc 0) (.con (.int 6))) .nil))))
  .nil)
def B_law_bytes : ISs :=
  (.cons (.asg 1 (.bin .add (.bin .add (.tup (.cons (.bin .add (.con (.int 70)) (.bin .fdiv (.bi .len (.cons (.sub (.loc 0) (.con (.int 4))) .nil)) (.con (.int 2)))) (.cons (.sub (.loc 0) (.con (.int 2))) .nil))) (.call F_law_two (.cons (.call F_law_length (.cons (.loc 0) .nil)) .nil))) (.tup (.cons (.sub (.loc 0) (.con (.int 3))) (.cons (.con (.int 0)) .nil)))))
  (.cons (.asg 2 (.bin .add (.call F_law_two (.cons (.sub (.loc 0) (.con (.int 0))) .nil)) (.call F_law_two (.cons (.sub (.loc 0) (.con (.int 1))) .nil))))
  (.cons (.asg 3 (.bin .add (.bin .add (.bin .add (.loc 1) (.call F_law_two (.cons (.call F_law_check (.cons (.bin .add (.bin .add (.bin .add (.loc 1) (.tup (.cons (.con (.int 0)) (.cons (.con (.int 0)) .nil)))) (.loc 2)) (.sub (.loc 0) (.con (.int 4)))) .nil)) .nil))) (.loc 2)) (.sub (.loc 0) (.con (.int 4)))))
  (.cons (.asg 4 (.sub (.loc 0) (.con (.int 5))))
  (.cons (.iff (.cmp .eq (.sub (.loc 0) (.con (.int 2))) (.con (.int 6)))
  (.cons (.asg 4 (.bin .add (.bin .add (.call F_law_two (.cons (.sub (.loc 4) (.con (.int 0))) .nil)) (.call F_law_two (.cons (.sub (.loc 4) (.con (.int 1))) .nil))) (.tup (.cons (.sub (.loc 4) (.con (.int 2))) (.cons (.con (.int 0)) .nil)))))
  .nil)
  .nil)
  (.cons (.iff (.cmp .eq (.sub (.loc 0) (.con (.int 2))) (.con (.int 17)))
  (.cons (.asg 4 (.bin .add (.call F_law_two (.cons (.sub (.loc 4) (.con (.int 0))) .nil)) (.call F_law_two (.cons (.sub (.loc 4) (.con (.int 1))) .nil))))
  .nil)
  .nil)
  (.cons (.iff (.cmp .eq (.call F_law_inner_size (.cons (.sub (.loc 0) (.con (.int 2))) .nil)) (.con (.int 0)))
  (.cons (.ret (.bin .add (.loc 3) (.sub (.loc 0) (.con (.int 6)))))
  .nil)
  .nil)
  (.cons (.asg 5 (.bin .add (.bin .add (.loc 4) (.tup (.cons (.con (.int 0)) (.cons (.con (.int 0)) .nil)))) (.sub (.loc 0) (.con (.int 6)))))
  (.cons (.asg 6 (.call F_law_check (.cons (.bin .add (.bin .add (.bin .add (.loc 2) (.call F_law_two (.cons (.sub (.loc 0) (.con (.int 2))) .nil))) (.call F_law_two (.cons (.bi .len (.cons (.loc 5) .nil)) .nil))) (.loc 5)) .nil)))
  (.cons (.ret (.bin .add (.bin .add (.bin .add (.loc 3) (.loc 4)) (.call F_law_two (.cons (.loc 6) .nil))) (.sub (.loc 0) (.con (.int 6)))))
  .nil))))))))))
def Blaw : ISs :=
  (.cons (.asg 1 (.call F_law_pool (.cons (.loc 0) .nil)))
  (.cons (.fr (.nm 2) (.rng1 (.con (.int 4)))
  (.cons (.asg 3 (.call F_law_packet (.cons (.loc 1) (.cons (.con (.int 60)) .nil))))
  (.cons (.asg 4 (.bin .add (.con (.int 12)) (.bi .len (.cons (.sub (.loc 3) (.con (.int 4))) .nil))))
  (.cons (.iff (.cmp .gt (.loc 2) (.con (.int 1)))
  (.cons (.asg 5 (.call F_law_bytes (.cons (.loc 3) .nil)))
  (.cons (.asg 3 (.bin .add (.tup (.cons (.call F_law_fold (.cons (.lst (.cons (.sub (.loc 3) (.con (.int 0))) (.cons (.bin .add (.bin .mul (.con (.int 256)) (.sub (.loc 5) (.con (.int 6)))) (.sub (.loc 5) (.con (.int 7)))) .nil))) .nil)) .nil)) (.slc (.loc 3) (.so (.con (.int 1))) .no)))
  (.cons (.asg 5 (.call F_law_bytes (.cons (.loc 3) .nil)))
  (.cons (.asg 6 (.bin .sub (.bin .add (.loc 4) (.call F_law_inner_size (.cons (.sub (.loc 3) (.con (.int 2))) .nil))) (.con (.int 2))))
  (.cons (.iff (.cmp .isin (.sub (.loc 3) (.con (.int 2))) (.tup (.cons (.con (.int 6)) (.cons (.con (.int 17)) .nil))))
  (.cons (.asg 3 (.bin .add (.slc (.loc 3) .no (.so (.con (.int 5)))) (.tup (.cons (.bin .add (.tup (.cons (.call F_law_fold (.cons (.lst (.cons (.sub (.sub (.loc 3) (.con (.int 5))) (.con (.int 0))) (.cons (.bin .add (.bin .mul (.con (.int 256)) (.sub (.loc 5) (.loc 6))) (.sub (.loc 5) (.bin .add (.loc 6) (.con (.int 1))))) .nil))) .nil)) .nil)) (.slc (.sub (.loc 3) (.con (.int 5))) (.so (.con (.int 1))) .no)) (.cons (.sub (.loc 3) (.con (.int 6))) .nil)))))
  .nil)
  .nil)
  (.cons (.iff (.cmp .eq (.sub (.loc 3) (.con (.int 2))) (.con (.int 1)))
  (.cons (.asg 7 (.call F_law_fold (.cons (.lst (.cons (.bin .add (.bin .mul (.con (.int 256)) (.sub (.sub (.loc 3) (.con (.int 5))) (.con (.int 0)))) (.sub (.sub (.loc 3) (.con (.int 5))) (.con (.int 1)))) (.cons (.bin .add (.bin .mul (.con (.int 256)) (.sub (.loc 5) (.loc 6))) (.sub (.loc 5) (.bin .add (.loc 6) (.con (.int 1))))) .nil))) .nil)))
  (.cons (.asg 3 (.bin .add (.slc (.loc 3) .no (.so (.con (.int 5)))) (.tup (.cons (.call F_law_two (.cons (.loc 7) .nil)) (.cons (.sub (.loc 3) (.con (.int 6))) .nil)))))
  .nil))
  .nil)
  (.kil [7] .nil)))))))
  .nil)
  (.kil [5, 6, 7] (.cons (.asg 5 (.call F_law_bytes (.cons (.loc 3) .nil)))
  (.cons (.iff (.and (.cmp .gt (.loc 2) (.con (.int 1))) (.cmp .ne (.slc (.loc 5) (.so (.con (.int 6))) (.so (.con (.int 8)))) (.tup (.cons (.con (.int 0)) (.cons (.con (.int 0)) .nil)))))
  (.cons (.ret (.con (.bool false)))
  .nil)
  .nil)
  (.cons (.iff (.not (.call F_law_same (.cons (.lst (.cons (.call Fread_packet (.cons (.loc 5) .nil)) (.cons (.call Fread_packet (.cons (.call Fwrite_packet (.cons (.loc 3) .nil)) .nil)) .nil))) (.cons (.lst (.cons (.loc 3) (.cons (.loc 3) .nil))) .nil))))
  (.cons (.ret (.con (.bool false)))
  .nil)
  .nil)
  (.cons (.asg 6 (.con (.int 6)))
  (.cons (.iff (.cmp .eq (.slc (.loc 5) (.so (.loc 6)) (.so (.bin .add (.loc 6) (.con (.int 2))))) (.tup (.cons (.con (.int 0)) (.cons (.con (.int 0)) .nil))))
  (.cons (.asg 5 (.bin .add (.bin .add (.slc (.loc 5) .no (.so (.loc 6))) (.tup (.cons (.con (.int 255)) (.cons (.con (.int 255)) .nil)))) (.slc (.loc 5) (.so (.bin .add (.loc 6) (.con (.int 2)))) .no)))
  .nil)
  .nil)
  (.cons (.asg 6 (.bin .sub (.bin .add (.loc 4) (.call F_law_inner_size (.cons (.sub (.loc 3) (.con (.int 2))) .nil))) (.con (.int 2))))
  (.cons (.iff (.and (.cmp .isin (.sub (.loc 3) (.con (.int 2))) (.tup (.cons (.con (.int 1)) (.cons (.con (.int 6)) (.cons (.con (.int 17)) .nil))))) (.cmp .eq (.slc (.loc 5) (.so (.loc 6)) (.so (.bin .add (.loc 6) (.con (.int 2))))) (.tup (.cons (.con (.int 0)) (.cons (.con (.int 0)) .nil)))))
  (.cons (.asg 5 (.bin .add (.bin .add (.slc (.loc 5) .no (.so (.loc 6))) (.tup (.cons (.con (.int 255)) (.cons (.con (.int 255)) .nil)))) (.slc (.loc 5) (.so (.bin .add (.loc 6) (.con (.int 2)))) .no)))
  .nil)
  .nil)
  (.cons (.iff (.not (.call F_law_same (.cons (.call Fread_packet (.cons (.loc 5) .nil)) (.cons (.loc 3) .nil))))
  (.cons (.ret (.con (.bool false)))
  .nil)
  .nil)
  .nil)))))))))))) [2, 3, 4, 5, 6, 7])
  (.cons (.ret (.con (.bool true)))
  .nil)))
def prog : List Df := [
  ⟨"folded", ["words", "total"], 1, Bfolded⟩,
  ⟨"words_of", ["row", "filled", "k"], 1, Bwords_of⟩,
  ⟨"sum_of", ["row"], 1, Bsum_of⟩,
  ⟨"inner_size", ["kind"], 1, Binner_size⟩,
  ⟨"length_of", ["packet"], 1, Blength_of⟩,
  ⟨"two", ["number"], 1, Btwo⟩,
  ⟨"inner_bytes", ["packet", "kind", "inner"], 1, Binner_bytes⟩,
  ⟨"write_inner", ["packet", "head", "many", "plain"], 1, Bwrite_inner⟩,
  ⟨"write_packet", ["packet", "first", "last", "source", "destination", "kind", "ttl", "options"], 1, Bwrite_packet⟩,
  ⟨"number_at", ["row", "at"], 2, Bnumber_at⟩,
  ⟨"outer_fault", ["row", "head"], 1, Bouter_fault⟩,
  ⟨"inner_fault", ["row", "kind", "rest", "plain"], 3, Binner_fault⟩,
  ⟨"read_inner", ["kind", "rest"], 2, Bread_inner⟩,
  ⟨"read_packet", ["row", "reason", "head", "kind", "rest", "inner"], 1, Bread_packet⟩,
  ⟨"_law_same", ["actual", "due", "k"], 2, B_law_same⟩,
  ⟨"_law_pool", ["script", "salt", "cell"], 1, B_law_pool⟩,
  ⟨"_law_spread", ["cell", "mixed", "total", "k"], 1, B_law_spread⟩,
  ⟨"_law_draw", ["pool", "many", "value", "cell", "mixed"], 2, B_law_draw⟩,
  ⟨"_law_number", ["pool", "top", "turn"], 2, B_law_number⟩,
  ⟨"_law_fold", ["words", "total"], 1, B_law_fold⟩,
  ⟨"_law_words", ["row", "even", "k"], 1, B_law_words⟩,
  ⟨"_law_check", ["row"], 1, B_law_check⟩,
  ⟨"_law_two", ["number"], 1, B_law_two⟩,
  ⟨"_law_row", ["pool", "many", "k"], 2, B_law_row⟩,
  ⟨"_law_inner_size", ["kind"], 1, B_law_inner_size⟩,
  ⟨"_law_kind", ["pool"], 1, B_law_kind⟩,
  ⟨"_law_inner", ["pool", "kind"], 2, B_law_inner⟩,
  ⟨"_law_packet", ["pool", "most", "kind", "ends", "options", "payload"], 2, B_law_packet⟩,
  ⟨"_law_length", ["packet"], 1, B_law_length⟩,
  ⟨"_law_bytes", ["packet", "head", "ends", "outer", "inner", "rest", "check"], 1, B_law_bytes⟩,
  ⟨"law", ["script", "pool", "turn", "packet", "head", "row", "at", "word"], 1, Blaw⟩]

def glos : List (Str × D) := [("MOST", GMOST), ("ASKING", GASKING), ("STREAM", GSTREAM), ("NOTE", GNOTE), ("LONGEST", GLONGEST)]
def topOf (i : Nat) : Stmt := PySem.Challenge.pw_gatewarden_k12_whole_packets_come_back.main.body.getD i (.Pass ⟨0, 0, 0, 0⟩)
def texts : List Stmt := [topOf 5, topOf 6, topOf 7, topOf 13, topOf 14, topOf 15, topOf 16, topOf 17, topOf 18, topOf 19, topOf 20, topOf 21, topOf 22, topOf 23, topOf 25, topOf 26, topOf 27, topOf 28, topOf 29, topOf 30, topOf 31, topOf 32, topOf 33, topOf 34, topOf 35, topOf 36, topOf 37, topOf 38, topOf 39, topOf 40, topOf 41]
theorem ok_folded : DefOk prog glos (prog.getD Ffolded ⟨"", [], 0, .nil⟩) (topOf 5) := ⟨⟨rfl, rfl, rfl, by decide +kernel, rfl, by decide +kernel, by decide +kernel⟩, rfl, by decide +kernel⟩
theorem bd_folded : DefB (prog.getD Ffolded ⟨"", [], 0, .nil⟩) (topOf 5) := fun _ _ _ _ _ _ us hl => match us, hl with | [_], _ => rfl
theorem ok_words_of : DefOk prog glos (prog.getD Fwords_of ⟨"", [], 0, .nil⟩) (topOf 6) := ⟨⟨rfl, rfl, rfl, by decide +kernel, rfl, by decide +kernel, by decide +kernel⟩, rfl, by decide +kernel⟩
theorem bd_words_of : DefB (prog.getD Fwords_of ⟨"", [], 0, .nil⟩) (topOf 6) := fun _ _ _ _ _ _ us hl => match us, hl with | [_], _ => rfl
theorem ok_sum_of : DefOk prog glos (prog.getD Fsum_of ⟨"", [], 0, .nil⟩) (topOf 7) := ⟨⟨rfl, rfl, rfl, by decide +kernel, rfl, by decide +kernel, by decide +kernel⟩, rfl, by decide +kernel⟩
theorem bd_sum_of : DefB (prog.getD Fsum_of ⟨"", [], 0, .nil⟩) (topOf 7) := fun _ _ _ _ _ _ us hl => match us, hl with | [_], _ => rfl
theorem ok_inner_size : DefOk prog glos (prog.getD Finner_size ⟨"", [], 0, .nil⟩) (topOf 13) := ⟨⟨rfl, rfl, rfl, by decide +kernel, rfl, by decide +kernel, by decide +kernel⟩, rfl, by decide +kernel⟩
theorem bd_inner_size : DefB (prog.getD Finner_size ⟨"", [], 0, .nil⟩) (topOf 13) := fun _ _ _ _ _ _ us hl => match us, hl with | [_], _ => rfl
theorem ok_length_of : DefOk prog glos (prog.getD Flength_of ⟨"", [], 0, .nil⟩) (topOf 14) := ⟨⟨rfl, rfl, rfl, by decide +kernel, rfl, by decide +kernel, by decide +kernel⟩, rfl, by decide +kernel⟩
theorem bd_length_of : DefB (prog.getD Flength_of ⟨"", [], 0, .nil⟩) (topOf 14) := fun _ _ _ _ _ _ us hl => match us, hl with | [_], _ => rfl
theorem ok_two : DefOk prog glos (prog.getD Ftwo ⟨"", [], 0, .nil⟩) (topOf 15) := ⟨⟨rfl, rfl, rfl, by decide +kernel, rfl, by decide +kernel, by decide +kernel⟩, rfl, by decide +kernel⟩
theorem bd_two : DefB (prog.getD Ftwo ⟨"", [], 0, .nil⟩) (topOf 15) := fun _ _ _ _ _ _ us hl => match us, hl with | [_], _ => rfl
theorem ok_inner_bytes : DefOk prog glos (prog.getD Finner_bytes ⟨"", [], 0, .nil⟩) (topOf 16) := ⟨⟨rfl, rfl, rfl, by decide +kernel, rfl, by decide +kernel, by decide +kernel⟩, rfl, by decide +kernel⟩
theorem bd_inner_bytes : DefB (prog.getD Finner_bytes ⟨"", [], 0, .nil⟩) (topOf 16) := fun _ _ _ _ _ _ us hl => match us, hl with | [_], _ => rfl
theorem ok_write_inner : DefOk prog glos (prog.getD Fwrite_inner ⟨"", [], 0, .nil⟩) (topOf 17) := ⟨⟨rfl, rfl, rfl, by decide +kernel, rfl, by decide +kernel, by decide +kernel⟩, rfl, by decide +kernel⟩
theorem bd_write_inner : DefB (prog.getD Fwrite_inner ⟨"", [], 0, .nil⟩) (topOf 17) := fun _ _ _ _ _ _ us hl => match us, hl with | [_], _ => rfl
theorem ok_write_packet : DefOk prog glos (prog.getD Fwrite_packet ⟨"", [], 0, .nil⟩) (topOf 18) := ⟨⟨rfl, rfl, rfl, by decide +kernel, rfl, by decide +kernel, by decide +kernel⟩, rfl, by decide +kernel⟩
theorem bd_write_packet : DefB (prog.getD Fwrite_packet ⟨"", [], 0, .nil⟩) (topOf 18) := fun _ _ _ _ _ _ us hl => match us, hl with | [_], _ => rfl
theorem ok_number_at : DefOk prog glos (prog.getD Fnumber_at ⟨"", [], 0, .nil⟩) (topOf 19) := ⟨⟨rfl, rfl, rfl, by decide +kernel, rfl, by decide +kernel, by decide +kernel⟩, rfl, by decide +kernel⟩
theorem bd_number_at : DefB (prog.getD Fnumber_at ⟨"", [], 0, .nil⟩) (topOf 19) := fun _ _ _ _ _ _ us hl => match us, hl with | [_, _], _ => rfl
theorem ok_outer_fault : DefOk prog glos (prog.getD Fouter_fault ⟨"", [], 0, .nil⟩) (topOf 20) := ⟨⟨rfl, rfl, rfl, by decide +kernel, rfl, by decide +kernel, by decide +kernel⟩, rfl, by decide +kernel⟩
theorem bd_outer_fault : DefB (prog.getD Fouter_fault ⟨"", [], 0, .nil⟩) (topOf 20) := fun _ _ _ _ _ _ us hl => match us, hl with | [_], _ => rfl
theorem ok_inner_fault : DefOk prog glos (prog.getD Finner_fault ⟨"", [], 0, .nil⟩) (topOf 21) := ⟨⟨rfl, rfl, rfl, by decide +kernel, rfl, by decide +kernel, by decide +kernel⟩, rfl, by decide +kernel⟩
theorem bd_inner_fault : DefB (prog.getD Finner_fault ⟨"", [], 0, .nil⟩) (topOf 21) := fun _ _ _ _ _ _ us hl => match us, hl with | [_, _, _], _ => rfl
theorem ok_read_inner : DefOk prog glos (prog.getD Fread_inner ⟨"", [], 0, .nil⟩) (topOf 22) := ⟨⟨rfl, rfl, rfl, by decide +kernel, rfl, by decide +kernel, by decide +kernel⟩, rfl, by decide +kernel⟩
theorem bd_read_inner : DefB (prog.getD Fread_inner ⟨"", [], 0, .nil⟩) (topOf 22) := fun _ _ _ _ _ _ us hl => match us, hl with | [_, _], _ => rfl
theorem ok_read_packet : DefOk prog glos (prog.getD Fread_packet ⟨"", [], 0, .nil⟩) (topOf 23) := ⟨⟨rfl, rfl, rfl, by decide +kernel, rfl, by decide +kernel, by decide +kernel⟩, rfl, by decide +kernel⟩
theorem bd_read_packet : DefB (prog.getD Fread_packet ⟨"", [], 0, .nil⟩) (topOf 23) := fun _ _ _ _ _ _ us hl => match us, hl with | [_], _ => rfl
theorem ok__law_same : DefOk prog glos (prog.getD F_law_same ⟨"", [], 0, .nil⟩) (topOf 25) := ⟨⟨rfl, rfl, rfl, by decide +kernel, rfl, by decide +kernel, by decide +kernel⟩, rfl, by decide +kernel⟩
theorem bd__law_same : DefB (prog.getD F_law_same ⟨"", [], 0, .nil⟩) (topOf 25) := fun _ _ _ _ _ _ us hl => match us, hl with | [_, _], _ => rfl
theorem ok__law_pool : DefOk prog glos (prog.getD F_law_pool ⟨"", [], 0, .nil⟩) (topOf 26) := ⟨⟨rfl, rfl, rfl, by decide +kernel, rfl, by decide +kernel, by decide +kernel⟩, rfl, by decide +kernel⟩
theorem bd__law_pool : DefB (prog.getD F_law_pool ⟨"", [], 0, .nil⟩) (topOf 26) := fun _ _ _ _ _ _ us hl => match us, hl with | [_], _ => rfl
theorem ok__law_spread : DefOk prog glos (prog.getD F_law_spread ⟨"", [], 0, .nil⟩) (topOf 27) := ⟨⟨rfl, rfl, rfl, by decide +kernel, rfl, by decide +kernel, by decide +kernel⟩, rfl, by decide +kernel⟩
theorem bd__law_spread : DefB (prog.getD F_law_spread ⟨"", [], 0, .nil⟩) (topOf 27) := fun _ _ _ _ _ _ us hl => match us, hl with | [_], _ => rfl
theorem ok__law_draw : DefOk prog glos (prog.getD F_law_draw ⟨"", [], 0, .nil⟩) (topOf 28) := ⟨⟨rfl, rfl, rfl, by decide +kernel, rfl, by decide +kernel, by decide +kernel⟩, rfl, by decide +kernel⟩
theorem bd__law_draw : DefB (prog.getD F_law_draw ⟨"", [], 0, .nil⟩) (topOf 28) := fun _ _ _ _ _ _ us hl => match us, hl with | [_, _], _ => rfl
theorem ok__law_number : DefOk prog glos (prog.getD F_law_number ⟨"", [], 0, .nil⟩) (topOf 29) := ⟨⟨rfl, rfl, rfl, by decide +kernel, rfl, by decide +kernel, by decide +kernel⟩, rfl, by decide +kernel⟩
theorem bd__law_number : DefB (prog.getD F_law_number ⟨"", [], 0, .nil⟩) (topOf 29) := fun _ _ _ _ _ _ us hl => match us, hl with | [_, _], _ => rfl
theorem ok__law_fold : DefOk prog glos (prog.getD F_law_fold ⟨"", [], 0, .nil⟩) (topOf 30) := ⟨⟨rfl, rfl, rfl, by decide +kernel, rfl, by decide +kernel, by decide +kernel⟩, rfl, by decide +kernel⟩
theorem bd__law_fold : DefB (prog.getD F_law_fold ⟨"", [], 0, .nil⟩) (topOf 30) := fun _ _ _ _ _ _ us hl => match us, hl with | [_], _ => rfl
theorem ok__law_words : DefOk prog glos (prog.getD F_law_words ⟨"", [], 0, .nil⟩) (topOf 31) := ⟨⟨rfl, rfl, rfl, by decide +kernel, rfl, by decide +kernel, by decide +kernel⟩, rfl, by decide +kernel⟩
theorem bd__law_words : DefB (prog.getD F_law_words ⟨"", [], 0, .nil⟩) (topOf 31) := fun _ _ _ _ _ _ us hl => match us, hl with | [_], _ => rfl
theorem ok__law_check : DefOk prog glos (prog.getD F_law_check ⟨"", [], 0, .nil⟩) (topOf 32) := ⟨⟨rfl, rfl, rfl, by decide +kernel, rfl, by decide +kernel, by decide +kernel⟩, rfl, by decide +kernel⟩
theorem bd__law_check : DefB (prog.getD F_law_check ⟨"", [], 0, .nil⟩) (topOf 32) := fun _ _ _ _ _ _ us hl => match us, hl with | [_], _ => rfl
theorem ok__law_two : DefOk prog glos (prog.getD F_law_two ⟨"", [], 0, .nil⟩) (topOf 33) := ⟨⟨rfl, rfl, rfl, by decide +kernel, rfl, by decide +kernel, by decide +kernel⟩, rfl, by decide +kernel⟩
theorem bd__law_two : DefB (prog.getD F_law_two ⟨"", [], 0, .nil⟩) (topOf 33) := fun _ _ _ _ _ _ us hl => match us, hl with | [_], _ => rfl
theorem ok__law_row : DefOk prog glos (prog.getD F_law_row ⟨"", [], 0, .nil⟩) (topOf 34) := ⟨⟨rfl, rfl, rfl, by decide +kernel, rfl, by decide +kernel, by decide +kernel⟩, rfl, by decide +kernel⟩
theorem bd__law_row : DefB (prog.getD F_law_row ⟨"", [], 0, .nil⟩) (topOf 34) := fun _ _ _ _ _ _ us hl => match us, hl with | [_, _], _ => rfl
theorem ok__law_inner_size : DefOk prog glos (prog.getD F_law_inner_size ⟨"", [], 0, .nil⟩) (topOf 35) := ⟨⟨rfl, rfl, rfl, by decide +kernel, rfl, by decide +kernel, by decide +kernel⟩, rfl, by decide +kernel⟩
theorem bd__law_inner_size : DefB (prog.getD F_law_inner_size ⟨"", [], 0, .nil⟩) (topOf 35) := fun _ _ _ _ _ _ us hl => match us, hl with | [_], _ => rfl
theorem ok__law_kind : DefOk prog glos (prog.getD F_law_kind ⟨"", [], 0, .nil⟩) (topOf 36) := ⟨⟨rfl, rfl, rfl, by decide +kernel, rfl, by decide +kernel, by decide +kernel⟩, rfl, by decide +kernel⟩
theorem bd__law_kind : DefB (prog.getD F_law_kind ⟨"", [], 0, .nil⟩) (topOf 36) := fun _ _ _ _ _ _ us hl => match us, hl with | [_], _ => rfl
theorem ok__law_inner : DefOk prog glos (prog.getD F_law_inner ⟨"", [], 0, .nil⟩) (topOf 37) := ⟨⟨rfl, rfl, rfl, by decide +kernel, rfl, by decide +kernel, by decide +kernel⟩, rfl, by decide +kernel⟩
theorem bd__law_inner : DefB (prog.getD F_law_inner ⟨"", [], 0, .nil⟩) (topOf 37) := fun _ _ _ _ _ _ us hl => match us, hl with | [_, _], _ => rfl
theorem ok__law_packet : DefOk prog glos (prog.getD F_law_packet ⟨"", [], 0, .nil⟩) (topOf 38) := ⟨⟨rfl, rfl, rfl, by decide +kernel, rfl, by decide +kernel, by decide +kernel⟩, rfl, by decide +kernel⟩
theorem bd__law_packet : DefB (prog.getD F_law_packet ⟨"", [], 0, .nil⟩) (topOf 38) := fun _ _ _ _ _ _ us hl => match us, hl with | [_, _], _ => rfl
theorem ok__law_length : DefOk prog glos (prog.getD F_law_length ⟨"", [], 0, .nil⟩) (topOf 39) := ⟨⟨rfl, rfl, rfl, by decide +kernel, rfl, by decide +kernel, by decide +kernel⟩, rfl, by decide +kernel⟩
theorem bd__law_length : DefB (prog.getD F_law_length ⟨"", [], 0, .nil⟩) (topOf 39) := fun _ _ _ _ _ _ us hl => match us, hl with | [_], _ => rfl
theorem ok__law_bytes : DefOk prog glos (prog.getD F_law_bytes ⟨"", [], 0, .nil⟩) (topOf 40) := ⟨⟨rfl, rfl, rfl, by decide +kernel, rfl, by decide +kernel, by decide +kernel⟩, rfl, by decide +kernel⟩
theorem bd__law_bytes : DefB (prog.getD F_law_bytes ⟨"", [], 0, .nil⟩) (topOf 40) := fun _ _ _ _ _ _ us hl => match us, hl with | [_], _ => rfl
theorem ok_law : DefOk prog glos (prog.getD Flaw ⟨"", [], 0, .nil⟩) (topOf 41) := ⟨⟨rfl, rfl, rfl, by decide +kernel, rfl, by decide +kernel, by decide +kernel⟩, rfl, by decide +kernel⟩
theorem bd_law : DefB (prog.getD Flaw ⟨"", [], 0, .nil⟩) (topOf 41) := fun _ _ _ _ _ _ us hl => match us, hl with | [_], _ => rfl
theorem defs_ok : DefsOk prog glos prog texts := (.cons ok_folded bd_folded (.cons ok_words_of bd_words_of (.cons ok_sum_of bd_sum_of (.cons ok_inner_size bd_inner_size (.cons ok_length_of bd_length_of (.cons ok_two bd_two (.cons ok_inner_bytes bd_inner_bytes (.cons ok_write_inner bd_write_inner (.cons ok_write_packet bd_write_packet (.cons ok_number_at bd_number_at (.cons ok_outer_fault bd_outer_fault (.cons ok_inner_fault bd_inner_fault (.cons ok_read_inner bd_read_inner (.cons ok_read_packet bd_read_packet (.cons ok__law_same bd__law_same (.cons ok__law_pool bd__law_pool (.cons ok__law_spread bd__law_spread (.cons ok__law_draw bd__law_draw (.cons ok__law_number bd__law_number (.cons ok__law_fold bd__law_fold (.cons ok__law_words bd__law_words (.cons ok__law_check bd__law_check (.cons ok__law_two bd__law_two (.cons ok__law_row bd__law_row (.cons ok__law_inner_size bd__law_inner_size (.cons ok__law_kind bd__law_kind (.cons ok__law_inner bd__law_inner (.cons ok__law_packet bd__law_packet (.cons ok__law_length bd__law_length (.cons ok__law_bytes bd__law_bytes (.cons ok_law bd_law .nil)))))))))))))))))))))))))))))))
end Law
set_option maxHeartbeats 4000000  -- gw

namespace Law
open PySem GW
/-- a sum with its carries put in -/
def foldI (t : Int) : Int := if t = 0 then 0 else (t - 1) % 65535 + 1
theorem foldI_small {t : Int} (h0 : 0 ≤ t) (h1 : t ≤ 65535) : foldI t = t := by
  unfold foldI
  split
  · omega
  · rw [Int.emod_eq_of_lt (by omega) (by omega)]; omega
theorem foldI_step {t : Int} (h : 65535 < t) : foldI (t / 65536 + t % 65536) = foldI t := by
  unfold foldI
  rw [if_neg (by omega), if_neg (by omega)]  -- gw
  have e : t - 1 = (t / 65536 + t % 65536 - 1) + 65535 * (t / 65536) := by omega
  rw [e, Int.add_mul_emod_self_left]
theorem foldI_mem (t : Int) (h : 0 ≤ t) : 0 ≤ foldI t ∧ foldI t ≤ 65535 := by
  unfold foldI
  split
  · omega
  · omega
theorem fold_run {T : List Df} (hT : T = prog) {n : Nat} (ws : List Int) : callN T (n + 1) Ffolded [.ls (ws.map PyData.int)] = .ok (.fz (.int (foldI ws.sum))) [some (.ls (ws.map PyData.int))] := by
  refine eq_of_sat (callN_sat (d := ⟨"folded", ["words", "total"], 1, Bfolded⟩) (by rw [hT]; rfl) rfl ?_)
  show SR.sat (exSs _ Bfolded [.pa (.ls (ws.map PyData.int)), .un]) _ _ _ _
  generalize callN T n = Φ
  unfold Bfolded
  by_cases h : ws.sum = 0
  · simp [exS, prep_fidx, tst_fidx, prep_sset, tst_sset, prep_lset, tst_lset, prep_rev, tst_rev, prep_idx, tst_idx, ev, evDs, evAs, evO, evC, evI, evPs, prep_dget, tst_dget, prep_loc, prep_con, prep_glo, prep_tup, prep_lst, prep_bin, prep_neg, prep_not, prep_cmp, prep_cmp2, prep_isN, prep_notN, prep_and, prep_or, prep_ife, prep_sub, prep_slc, prep_call, prep_bi, prep_isi, prep_lrg1, prep_lrg2, prep_lc, tst_loc, tst_con, tst_glo, tst_tup, tst_lst, tst_bin, tst_neg, tst_not, tst_cmp, tst_cmp2, tst_isN, tst_notN, tst_and, tst_or, tst_ife, tst_sub, tst_slc, tst_call, tst_bi, tst_isi, tst_lrg1, tst_lrg2, tst_lc, evLoc, frz, rd, putO, loS, unS, kill, Res.bind, Res.st, ofO, AV.val, Sl.get, Sl.put, vals, binF, biF, cmpF, eqF, truF, isiF, ixF, cutF, setF, appF, augF, retLoc, items, litems, noneB, asB, O.toD, O.own, SR.sat_nx, SR.sat_rt, SR.sat_bk, SR.sat_ct, SR.sat_map, SR.sat_seq, sat_ite, Res.sat_ok, sat_cons, sat_nil, sat_kil, lend, called, back, hide, unhide, fins, wee, fits, ints_map, h, sh_int, eqv_int, foldI]
  · simp [exS, prep_fidx, tst_fidx, prep_sset, tst_sset, prep_lset, tst_lset, prep_rev, tst_rev, prep_idx, tst_idx, ev, evDs, evAs, evO, evC, evI, evPs, prep_dget, tst_dget, prep_loc, prep_con, prep_glo, prep_tup, prep_lst, prep_bin, prep_neg, prep_not, prep_cmp, prep_cmp2, prep_isN, prep_notN, prep_and, prep_or, prep_ife, prep_sub, prep_slc, prep_call, prep_bi, prep_isi, prep_lrg1, prep_lrg2, prep_lc, tst_loc, tst_con, tst_glo, tst_tup, tst_lst, tst_bin, tst_neg, tst_not, tst_cmp, tst_cmp2, tst_isN, tst_notN, tst_and, tst_or, tst_ife, tst_sub, tst_slc, tst_call, tst_bi, tst_isi, tst_lrg1, tst_lrg2, tst_lc, evLoc, frz, rd, putO, loS, unS, kill, Res.bind, Res.st, ofO, AV.val, Sl.get, Sl.put, vals, binF, biF, cmpF, eqF, truF, isiF, ixF, cutF, setF, appF, augF, retLoc, items, litems, noneB, asB, O.toD, O.own, SR.sat_nx, SR.sat_rt, SR.sat_bk, SR.sat_ct, SR.sat_map, SR.sat_seq, sat_ite, Res.sat_ok, sat_cons, sat_nil, sat_kil, lend, called, back, hide, unhide, fins, wee, fits, ints_map, h, sh_int, eqv_int, foldI, GMOST]
theorem lawfold_run {T : List Df} (hT : T = prog) {n : Nat} (ws : List Int) (h0 : 0 ≤ ws.sum) (h1 : ws.sum < 1000000000000000000000000000000) : callN T (n + 1) F_law_fold [.ls (ws.map PyData.int)] = .ok (.fz (.int (foldI ws.sum))) [some (.ls (ws.map PyData.int))] := by
  refine eq_of_sat (callN_sat (d := ⟨"_law_fold", ["words", "total"], 1, B_law_fold⟩) (by rw [hT]; rfl) rfl ?_)
  show SR.sat (exSs _ B_law_fold [.pa (.ls (ws.map PyData.int)), .un]) _ _ _ _
  generalize callN T n = Φ
  unfold B_law_fold
  simp [exS, prep_fidx, tst_fidx, prep_sset, tst_sset, prep_lset, tst_lset, prep_rev, tst_rev, prep_idx, tst_idx, ev, evDs, evAs, evO, evC, evI, evPs, prep_dget, tst_dget, prep_loc, prep_con, prep_glo, prep_tup, prep_lst, prep_bin, prep_neg, prep_not, prep_cmp, prep_cmp2, prep_isN, prep_notN, prep_and, prep_or, prep_ife, prep_sub, prep_slc, prep_call, prep_bi, prep_isi, prep_lrg1, prep_lrg2, prep_lc, tst_loc, tst_con, tst_glo, tst_tup, tst_lst, tst_bin, tst_neg, tst_not, tst_cmp, tst_cmp2, tst_isN, tst_notN, tst_and, tst_or, tst_ife, tst_sub, tst_slc, tst_call, tst_bi, tst_isi, tst_lrg1, tst_lrg2, tst_lc, evLoc, frz, rd, putO, loS, unS, kill, Res.bind, Res.st, ofO, AV.val, Sl.get, Sl.put, vals, binF, biF, cmpF, eqF, truF, isiF, ixF, cutF, setF, appF, augF, retLoc, items, litems, noneB, asB, O.toD, O.own, SR.sat_nx, SR.sat_rt, SR.sat_bk, SR.sat_ct, SR.sat_map, SR.sat_seq, sat_ite, Res.sat_ok, sat_cons, sat_nil, sat_kil, lend, called, back, hide, unhide, fins, wee, fits, ints_map]
  refine whF_sat (fun m ρ => ∃ t : Int, 0 ≤ t ∧ m = t.toNat ∧ foldI t = foldI ws.sum ∧ ρ = [.pa (.ls (ws.map PyData.int)), .lo (.fz (.int t))]) ?_ (m := ws.sum.toNat) (by unfold wfuel; omega) ⟨ws.sum, h0, rfl, rfl, rfl⟩
  rintro m ρ ⟨t, ht, rfl, he, rfl⟩
  by_cases hb : 65535 < t
  · have hq : 0 ≤ t / 65536 + t % 65536 := by omega
    have hl : t / 65536 + t % 65536 < t := by omega
    simp [exS, prep_fidx, tst_fidx, prep_sset, tst_sset, prep_lset, tst_lset, prep_rev, tst_rev, prep_idx, tst_idx, ev, evDs, evAs, evO, evC, evI, evPs, prep_dget, tst_dget, prep_loc, prep_con, prep_glo, prep_tup, prep_lst, prep_bin, prep_neg, prep_not, prep_cmp, prep_cmp2, prep_isN, prep_notN, prep_and, prep_or, prep_ife, prep_sub, prep_slc, prep_call, prep_bi, prep_isi, prep_lrg1, prep_lrg2, prep_lc, tst_loc, tst_con, tst_glo, tst_tup, tst_lst, tst_bin, tst_neg, tst_not, tst_cmp, tst_cmp2, tst_isN, tst_notN, tst_and, tst_or, tst_ife, tst_sub, tst_slc, tst_call, tst_bi, tst_isi, tst_lrg1, tst_lrg2, tst_lc, evLoc, frz, rd, putO, loS, unS, kill, Res.bind, Res.st, ofO, AV.val, Sl.get, Sl.put, vals, binF, biF, cmpF, eqF, truF, isiF, ixF, cutF, setF, appF, augF, retLoc, items, litems, noneB, asB, O.toD, O.own, SR.sat_nx, SR.sat_rt, SR.sat_bk, SR.sat_ct, SR.sat_map, SR.sat_seq, sat_ite, Res.sat_ok, sat_cons, sat_nil, sat_kil, lend, called, back, hide, unhide, fins, wee, fits, hb]
    refine ⟨_, ?_, _, hq, rfl, by rw [foldI_step hb, he], rfl⟩
    omega
  · have : foldI t = t := foldI_small ht (by omega)
    simp [exS, prep_fidx, tst_fidx, prep_sset, tst_sset, prep_lset, tst_lset, prep_rev, tst_rev, prep_idx, tst_idx, ev, evDs, evAs, evO, evC, evI, evPs, prep_dget, tst_dget, prep_loc, prep_con, prep_glo, prep_tup, prep_lst, prep_bin, prep_neg, prep_not, prep_cmp, prep_cmp2, prep_isN, prep_notN, prep_and, prep_or, prep_ife, prep_sub, prep_slc, prep_call, prep_bi, prep_isi, prep_lrg1, prep_lrg2, prep_lc, tst_loc, tst_con, tst_glo, tst_tup, tst_lst, tst_bin, tst_neg, tst_not, tst_cmp, tst_cmp2, tst_isN, tst_notN, tst_and, tst_or, tst_ife, tst_sub, tst_slc, tst_call, tst_bi, tst_isi, tst_lrg1, tst_lrg2, tst_lc, evLoc, frz, rd, putO, loS, unS, kill, Res.bind, Res.st, ofO, AV.val, Sl.get, Sl.put, vals, binF, biF, cmpF, eqF, truF, isiF, ixF, cutF, setF, appF, augF, retLoc, items, litems, noneB, asB, O.toD, O.own, SR.sat_nx, SR.sat_rt, SR.sat_bk, SR.sat_ct, SR.sat_map, SR.sat_seq, sat_ite, Res.sat_ok, sat_cons, sat_nil, sat_kil, lend, called, back, hide, unhide, fins, wee, fits, hb]
    omega
end Law
namespace Law
open PySem GW
/-- the words of a row -/
def wat (row : List Int) (j : Nat) : Int := row.getD j 0
def W (row : List Int) : List Int := (List.range ((row.length + 1) / 2)).map fun k => 256 * wat row (2 * k) + wat row (2 * k + 1)
/-- filled to an even number -/
def fil (row : List Int) : List Int := row ++ List.replicate (row.length % 2) 0
theorem fil_len (row : List Int) : (fil row).length = 2 * ((row.length + 1) / 2) := by
  unfold fil
  rw [List.length_append, List.length_replicate]  -- gw
  omega
theorem fil_get (row : List Int) (j : Nat) (h : j < (fil row).length) : (fil row)[j]? = some (wat row j) := by
  unfold fil wat
  rw [List.getD_eq_getElem?_getD, List.getElem?_append]
  split
  · rename_i hj
    rw [List.getElem?_eq_getElem hj]; rfl
  · rename_i hj
    rw [fil_len] at h
    rw [List.getElem?_replicate, if_pos (by omega), List.getElem?_eq_none (l := row) (by omega)]; rfl
theorem fil_at (row : List Int) {j : Nat} (h : j < (fil row).length) : L2.atI ((fil row).map PyData.int) (j : Int) = some (.int (wat row j)) := by
  rw [atI_in (by omega) (by rw [List.length_map]; omega), List.getElem?_map]
  show ((fil row)[(j : Int).toNat]?).map _ = _
  rw [Int.toNat_natCast, fil_get row j h]; rfl
theorem fil_map (row : List Int) : row.map PyData.int ++ (List.replicate ((row.length : Int) % 2).toNat [PyData.int 0]).flatten = (fil row).map PyData.int := by
  have e : ((row.length : Int) % 2).toNat = row.length % 2 := by omega
  rw [e]
  unfold fil
  rw [List.map_append]
  congr 1
  rcases Nat.mod_two_eq_zero_or_one row.length with h | h <;> rw [h] <;> rfl
theorem size3 (L : Nat) : Builtin.Range.rangeSize 0 ((2 * L : Nat) : Int) 2 = (L : Int) := by
  unfold Builtin.Range.rangeSize  -- gw
  rw [if_pos (by decide)]
  split <;> omega
theorem ok3 (L : Nat) (h : L ≤ 1000) : rg3Ok 0 ((2 * L : Nat) : Int) 2 = true := by
  unfold rg3Ok Builtin.Range.small
  rw [size3]
  simp [Builtin.Range.rangeFitsLong]
  omega
/-- the comprehension of words_of -/
def lcA : IE := .lc (.bin .add (.bin .mul (.con (.int 256)) (.sub (.loc 1) (.loc 2))) (.sub (.loc 1) (.bin .add (.loc 2) (.con (.int 1))))) (.nm 2) (.rng3 (.con (.int 0)) (.bi .len (.cons (.loc 1) .nil)) (.con (.int 2))) .no [2]
def lcB : IE := .lc (.bin .add (.bin .mul (.con (.int 256)) (.sub (.loc 1) (.bin .mul (.con (.int 2)) (.loc 2)))) (.sub (.loc 1) (.bin .add (.bin .mul (.con (.int 2)) (.loc 2)) (.con (.int 1))))) (.nm 2) (.rng1 (.bin .fdiv (.bi .len (.cons (.loc 1) .nil)) (.con (.int 2)))) .no [2]
theorem fil_at2 (row : List Int) {k : Nat} (h : k < (row.length + 1) / 2) : L2.atI ((fil row).map PyData.int) (2 * (k : Int)) = some (.int (wat row (2 * k))) ∧ L2.atI ((fil row).map PyData.int) (2 * (k : Int) + 1) = some (.int (wat row (2 * k + 1))) := by
  have hl := fil_len row
  have h1 := fil_at row (j := 2 * k) (by omega)
  have h2 := fil_at row (j := 2 * k + 1) (by omega)
  rw [show ((2 * k : Nat) : Int) = 2 * (k : Int) by omega] at h1
  rw [show ((2 * k + 1 : Nat) : Int) = 2 * (k : Int) + 1 by omega] at h2
  exact ⟨h1, h2⟩
theorem evI_rng3 {Φ : Nat → List O → CR} {a b c : IE} {ρ : Fm} {i j k : Int} {m : Nat} (ha : ev Φ a ρ = .ok (.fz (.int i)) ρ) (hb : ev Φ b ρ = .ok (.fz (.int j)) ρ) (hc : ev Φ c ρ = .ok (.fz (.int k)) ρ) (h : rg3Ok i j k = true) (hm : Builtin.Range.rangeSize i j k = (m : Int)) :
    evI Φ (.rng3 a b c) ρ = .ok (rngC i k m) ρ := by
  rw [evI, ha]
  show (ev Φ b ρ).bind _ = _
  rw [hb]
  show (ev Φ c ρ).bind _ = _
  rw [hc]
  show (if rg3Ok i j k = true then _ else _) = _
  rw [if_pos h, hm, Int.toNat_natCast]
theorem lcA_it {Φ : Nat → List O → CR} {x : Sl} (row : List Int) (hl : row.length ≤ 1900) : evI Φ (.rng3 (.con (.int 0)) (.bi .len (.cons (.loc 1) .nil)) (.con (.int 2))) [x, .lo (.ls ((fil row).map PyData.int)), .un] = .ok (rngC 0 2 ((row.length + 1) / 2)) [x, .lo (.ls ((fil row).map PyData.int)), .un] := by
  have hf := fil_len row
  have e2 : ev Φ (.bi .len (.cons (.loc 1) .nil)) [x, .lo (.ls ((fil row).map PyData.int)), .un] = .ok (.fz (.int ((2 * ((row.length + 1) / 2) : Nat) : Int))) [x, .lo (.ls ((fil row).map PyData.int)), .un] := by
    rw [← hf]
    simp [ev, evAs, prep_loc, rd, vals, AV.val, biF, Res.bind, ofO, Sl.get, items]
  exact evI_rng3 (by rw [ev]) e2 (by rw [ev]) (ok3 _ (by omega)) (size3 _)
def stepF (row : List Int) : D → D := fun d => match d with
  | .int i => .int (256 * wat row i.toNat + wat row (i + 1).toNat)
  | d => d
theorem lcA_map (row : List Int) : List.map (stepF row) (rngC 0 2 ((row.length + 1) / 2)) = (W row).map PyData.int := by
  unfold rngC W
  rw [List.map_map, List.map_map]  -- gw
  apply List.map_congr_left
  intro k hk
  show PyData.int (256 * wat row (0 + (k : Int) * 2).toNat + wat row (0 + (k : Int) * 2 + 1).toNat) = PyData.int (256 * wat row (2 * k) + wat row (2 * k + 1))
  rw [show (0 + (k : Int) * 2).toNat = 2 * k by omega, show (0 + (k : Int) * 2 + 1).toNat = 2 * k + 1 by omega]
theorem evI_rng1 {Φ : Nat → List O → CR} {a : IE} {ρ : Fm} {i : Int} {m : Nat} (ha : ev Φ a ρ = .ok (.fz (.int i)) ρ) (h : rngOk i = true) (hm : i.toNat = m) : evI Φ (.rng1 a) ρ = .ok (rngD 0 m) ρ := by
  rw [evI, ha]
  show (if rngOk i = true then _ else _) = _
  rw [if_pos h, hm]
theorem lc_noF {Φ : Nat → List O → CR} {e : IE} {it : II} {ρ : Fm} {F : D → D} {ds : List D} (h1 : evI Φ it ρ = .ok ds ρ) (hh : hide it ρ = ρ) (hu : unhide ρ it ρ = ρ) (hk : kill [2] ρ = ρ) (hs : shown ρ [2] ρ = ρ)
    (hst : ∀ d ∈ ds, ((ofO (asgF (.nm 2) d ρ) ρ).bind fun ρ' _ => (evC Φ .no ρ').bind fun k ρ2 => if k then (frz (ev Φ e ρ2)).bind fun x ρ3 => Res.ok (some x) (kill [2] ρ3) else .ok none (kill [2] ρ2)) = .ok (some (F d)) ρ) (hl : ds.length ≤ 16777216) :
    ev Φ (.lc e (.nm 2) it .no [2]) ρ = .ok (.ls (ds.map F)) ρ := by
  rw [ev, h1]
  show (noEx _).bind _ = _
  rw [hh, hk, lcLoop_map (F := F) hst (by simpa using hl)]
  show Res.ok (O.ls ([] ++ ds.map F)) (unhide ρ it (shown ρ [2] ρ)) = _
  rw [hs, hu, List.nil_append]
theorem stepA {Φ : Nat → List O → CR} {x : Sl} {row : List Int} {k : Nat} (hk : k < (row.length + 1) / 2) : ((ofO (asgF (.nm 2) (.int (2 * (k : Int))) [x, .lo (.ls ((fil row).map PyData.int)), .un]) [x, .lo (.ls ((fil row).map PyData.int)), .un]).bind fun ρ' _ => (evC Φ .no ρ').bind fun q ρ2 => if q then (frz (ev Φ (.bin .add (.bin .mul (.con (.int 256)) (.sub (.loc 1) (.loc 2))) (.sub (.loc 1) (.bin .add (.loc 2) (.con (.int 1))))) ρ2)).bind fun x ρ3 => Res.ok (some x) (kill [2] ρ3) else .ok none (kill [2] ρ2)) =
    .ok (some (.int (256 * wat row (2 * k) + wat row (2 * k + 1)))) [x, .lo (.ls ((fil row).map PyData.int)), .un] := by
  obtain ⟨a1, a2⟩ := fil_at2 row hk
  simp [asgF, loS, evC, exS, prep_fidx, tst_fidx, prep_sset, tst_sset, prep_lset, tst_lset, prep_rev, tst_rev, prep_idx, tst_idx, ev, evDs, evAs, evO, evC, evI, evPs, prep_dget, tst_dget, prep_loc, prep_con, prep_glo, prep_tup, prep_lst, prep_bin, prep_neg, prep_not, prep_cmp, prep_cmp2, prep_isN, prep_notN, prep_and, prep_or, prep_ife, prep_sub, prep_slc, prep_call, prep_bi, prep_isi, prep_lrg1, prep_lrg2, prep_lc, tst_loc, tst_con, tst_glo, tst_tup, tst_lst, tst_bin, tst_neg, tst_not, tst_cmp, tst_cmp2, tst_isN, tst_notN, tst_and, tst_or, tst_ife, tst_sub, tst_slc, tst_call, tst_bi, tst_isi, tst_lrg1, tst_lrg2, tst_lc, evLoc, frz, rd, putO, loS, unS, kill, Res.bind, Res.st, ofO, AV.val, Sl.get, Sl.put, vals, binF, biF, cmpF, eqF, truF, isiF, ixF, cutF, setF, appF, augF, retLoc, items, litems, noneB, asB, O.toD, O.own, SR.sat_nx, SR.sat_rt, SR.sat_bk, SR.sat_ct, SR.sat_map, SR.sat_seq, sat_ite, Res.sat_ok, sat_cons, sat_nil, sat_kil, lend, called, back, hide, unhide, fins, wee, fits, a1, a2]
theorem stepB {Φ : Nat → List O → CR} {x : Sl} {row : List Int} {k : Nat} (hk : k < (row.length + 1) / 2) : ((ofO (asgF (.nm 2) (.int (k : Int)) [x, .lo (.ls ((fil row).map PyData.int)), .un]) [x, .lo (.ls ((fil row).map PyData.int)), .un]).bind fun ρ' _ => (evC Φ .no ρ').bind fun q ρ2 => if q then (frz (ev Φ (.bin .add (.bin .mul (.con (.int 256)) (.sub (.loc 1) (.bin .mul (.con (.int 2)) (.loc 2)))) (.sub (.loc 1) (.bin .add (.bin .mul (.con (.int 2)) (.loc 2)) (.con (.int 1))))) ρ2)).bind fun x ρ3 => Res.ok (some x) (kill [2] ρ3) else .ok none (kill [2] ρ2)) =
    .ok (some (.int (256 * wat row (2 * k) + wat row (2 * k + 1)))) [x, .lo (.ls ((fil row).map PyData.int)), .un] := by
  obtain ⟨a1, a2⟩ := fil_at2 row hk
  simp [asgF, loS, evC, exS, prep_fidx, tst_fidx, prep_sset, tst_sset, prep_lset, tst_lset, prep_rev, tst_rev, prep_idx, tst_idx, ev, evDs, evAs, evO, evC, evI, evPs, prep_dget, tst_dget, prep_loc, prep_con, prep_glo, prep_tup, prep_lst, prep_bin, prep_neg, prep_not, prep_cmp, prep_cmp2, prep_isN, prep_notN, prep_and, prep_or, prep_ife, prep_sub, prep_slc, prep_call, prep_bi, prep_isi, prep_lrg1, prep_lrg2, prep_lc, tst_loc, tst_con, tst_glo, tst_tup, tst_lst, tst_bin, tst_neg, tst_not, tst_cmp, tst_cmp2, tst_isN, tst_notN, tst_and, tst_or, tst_ife, tst_sub, tst_slc, tst_call, tst_bi, tst_isi, tst_lrg1, tst_lrg2, tst_lc, evLoc, frz, rd, putO, loS, unS, kill, Res.bind, Res.st, ofO, AV.val, Sl.get, Sl.put, vals, binF, biF, cmpF, eqF, truF, isiF, ixF, cutF, setF, appF, augF, retLoc, items, litems, noneB, asB, O.toD, O.own, SR.sat_nx, SR.sat_rt, SR.sat_bk, SR.sat_ct, SR.sat_map, SR.sat_seq, sat_ite, Res.sat_ok, sat_cons, sat_nil, sat_kil, lend, called, back, hide, unhide, fins, wee, fits, a1, a2]
theorem lcA_run {Φ : Nat → List O → CR} {x : Sl} (row : List Int) (hl : row.length ≤ 1900) : ev Φ lcA [x, .lo (.ls ((fil row).map PyData.int)), .un] = .ok (.ls ((W row).map PyData.int)) [x, .lo (.ls ((fil row).map PyData.int)), .un] := by
  have h := lc_noF (Φ := Φ) (F := stepF row) (e := .bin .add (.bin .mul (.con (.int 256)) (.sub (.loc 1) (.loc 2))) (.sub (.loc 1) (.bin .add (.loc 2) (.con (.int 1))))) (lcA_it (Φ := Φ) (x := x) row hl) rfl rfl rfl rfl (fun d hd => ?_) (by rw [rngC_length]; omega)
  · rw [lcA_map] at h
    exact h
  · unfold rngC at hd
    obtain ⟨k, hk, rfl⟩ := List.mem_map.mp hd
    have e0 : (0 + (k : Int) * 2) = 2 * (k : Int) := by omega
    rw [e0, stepA (List.mem_range.mp hk)]
    show _ = Res.ok (some (PyData.int (256 * wat row (2 * (k : Int)).toNat + wat row (2 * (k : Int) + 1).toNat))) _
    rw [show (2 * (k : Int)).toNat = 2 * k by omega, show (2 * (k : Int) + 1).toNat = 2 * k + 1 by omega]
def stepG (row : List Int) : D → D := fun d => match d with
  | .int i => .int (256 * wat row (2 * i.toNat) + wat row (2 * i.toNat + 1))
  | d => d
theorem lcB_run {Φ : Nat → List O → CR} {x : Sl} (row : List Int) (hl : row.length ≤ 1900) : ev Φ lcB [x, .lo (.ls ((fil row).map PyData.int)), .un] = .ok (.ls ((W row).map PyData.int)) [x, .lo (.ls ((fil row).map PyData.int)), .un] := by
  have hf := fil_len row
  have hq : ((fil row).length : Int) / 2 = (((row.length + 1) / 2 : Nat) : Int) := by omega
  have hr : rngOk (((row.length + 1) / 2 : Nat) : Int) = true := by unfold rngOk; simp; omega
  have e2 : ev Φ (.bin .fdiv (.bi .len (.cons (.loc 1) .nil)) (.con (.int 2))) [x, .lo (.ls ((fil row).map PyData.int)), .un] = .ok (.fz (.int (((row.length + 1) / 2 : Nat) : Int))) [x, .lo (.ls ((fil row).map PyData.int)), .un] := by
    rw [← hq]
    simp [exS, prep_fidx, tst_fidx, prep_sset, tst_sset, prep_lset, tst_lset, prep_rev, tst_rev, prep_idx, tst_idx, ev, evDs, evAs, evO, evC, evI, evPs, prep_dget, tst_dget, prep_loc, prep_con, prep_glo, prep_tup, prep_lst, prep_bin, prep_neg, prep_not, prep_cmp, prep_cmp2, prep_isN, prep_notN, prep_and, prep_or, prep_ife, prep_sub, prep_slc, prep_call, prep_bi, prep_isi, prep_lrg1, prep_lrg2, prep_lc, tst_loc, tst_con, tst_glo, tst_tup, tst_lst, tst_bin, tst_neg, tst_not, tst_cmp, tst_cmp2, tst_isN, tst_notN, tst_and, tst_or, tst_ife, tst_sub, tst_slc, tst_call, tst_bi, tst_isi, tst_lrg1, tst_lrg2, tst_lc, evLoc, frz, rd, putO, loS, unS, kill, Res.bind, Res.st, ofO, AV.val, Sl.get, Sl.put, vals, binF, biF, cmpF, eqF, truF, isiF, ixF, cutF, setF, appF, augF, retLoc, items, litems, noneB, asB, O.toD, O.own, SR.sat_nx, SR.sat_rt, SR.sat_bk, SR.sat_ct, SR.sat_map, SR.sat_seq, sat_ite, Res.sat_ok, sat_cons, sat_nil, sat_kil, lend, called, back, hide, unhide, fins, wee, fits]
  have eI : evI Φ (.rng1 (.bin .fdiv (.bi .len (.cons (.loc 1) .nil)) (.con (.int 2)))) [x, .lo (.ls ((fil row).map PyData.int)), .un] = .ok (rngD 0 ((row.length + 1) / 2)) [x, .lo (.ls ((fil row).map PyData.int)), .un] := by
    exact evI_rng1 e2 hr (Int.toNat_natCast _)
  have h := lc_noF (Φ := Φ) (F := stepG row) (e := .bin .add (.bin .mul (.con (.int 256)) (.sub (.loc 1) (.bin .mul (.con (.int 2)) (.loc 2)))) (.sub (.loc 1) (.bin .add (.bin .mul (.con (.int 2)) (.loc 2)) (.con (.int 1))))) eI rfl rfl rfl rfl (fun d hd => ?_) (by rw [rngD_length]; omega)
  · have e : (rngD 0 ((row.length + 1) / 2)).map (stepG row) = (W row).map PyData.int := by
      unfold rngD W
      rw [List.map_map, List.map_map]  -- gw
      apply List.map_congr_left
      intro k hk
      show PyData.int (256 * wat row (2 * (0 + (k : Int)).toNat) + wat row (2 * (0 + (k : Int)).toNat + 1)) = PyData.int (256 * wat row (2 * k) + wat row (2 * k + 1))
      rw [show (0 + (k : Int)).toNat = k by omega]
    rw [e] at h
    exact h
  · obtain ⟨k, hk, rfl⟩ := rngD_mem hd
    rw [stepB hk]
    show _ = Res.ok (some (PyData.int (256 * wat row (2 * (k : Int).toNat) + wat row (2 * (k : Int).toNat + 1)))) _
    rw [Int.toNat_natCast]
end Law
namespace Law
open PySem GW
abbrev tupI (row : List Int) : O := .fz (.tuple (row.map PyData.int))
abbrev lsI (row : List Int) : O := .ls (row.map PyData.int)
theorem ev_bin {Φ : Nat → List O → CR} {op : BOp} {a b : IE} {ρ : Fm} {x y z : O} (ha : prep a (ev Φ a) ρ = .ok (.o x) ρ) (hb : prep b (ev Φ b) ρ = .ok (.o y) ρ) (h : binF op x y = some z) : ev Φ (.bin op a b) ρ = .ok z ρ := by
  rw [ev, ha]
  show (prep b (ev Φ b) ρ).bind _ = _
  rw [hb]
  show ofO (binF op x y) ρ = _
  rw [h]; rfl
theorem binF_rep {xs : List D} {k : Int} (h1 : -(2 ^ 63) ≤ k ∧ k < 2 ^ 63) (h2 : fits (xs.length * k.toNat) = true) : binF .mul (.ls xs) (.fz (.int k)) = some (.ls (List.replicate k.toNat xs).flatten) := by
  show (if (decide (-(2 ^ 63) ≤ k ∧ k < 2 ^ 63) && fits (xs.length * k.toNat)) = true then _ else _) = _
  rw [if_pos (by rw [h2, decide_eq_true h1]; rfl)]
theorem binF_cat {xs ys : List D} (h : fits (xs.length + ys.length) = true) : binF .add (.ls xs) (.ls ys) = some (.ls (xs ++ ys)) := by
  show (if fits (xs.length + ys.length) = true then _ else _) = _
  rw [if_pos h]
theorem fits_le {n m : Nat} (h : n ≤ m) (hm : m ≤ 16777216) : fits n = true := decide_eq_true (Nat.le_trans h hm)
theorem fil_ev {Φ : Nat → List O → CR} {c : IE} (row : List Int) (hl : row.length ≤ 1900) (hc : prep c (ev Φ c) [.pa (tupI row), .un, .un] = .ok (.o (.fz (.int ((row.length : Int) % 2)))) [.pa (tupI row), .un, .un]) :
    exS Φ (.asg 1 (.bin .add (.bi .list (.cons (.loc 0) .nil)) (.bin .mul (.lst (.cons (.con (.int 0)) .nil)) c))) [.pa (tupI row), .un, .un] = .nx [.pa (tupI row), .lo (lsI (fil row)), .un] := by
  have e1 : prep (.bi .list (.cons (.loc 0) .nil)) (ev Φ (.bi .list (.cons (.loc 0) .nil))) [.pa (tupI row), .un, .un] = .ok (.o (lsI row)) [.pa (tupI row), .un, .un] := by
    simp [ev, evAs, prep_loc, prep_bi, rd, vals, AV.val, biF, Res.bind, ofO, Sl.get, items, tupI, lsI]
  have e2 : prep (.lst (.cons (.con (.int 0)) .nil)) (ev Φ (.lst (.cons (.con (.int 0)) .nil))) [.pa (tupI row), .un, .un] = .ok (.o (.ls [.int 0])) [.pa (tupI row), .un, .un] := by
    simp [ev, evDs, prep_lst, Res.bind, frz]
  have h2 : ((row.length : Int) % 2).toNat = row.length % 2 := by omega
  have e3 := ev_bin (op := .mul) e2 hc (binF_rep (xs := [.int 0]) (k := (row.length : Int) % 2) (by omega) (fits_le (m := 1) (by rw [h2, List.length_singleton]; omega) (by decide)))
  have e4 : prep (.bin .mul (.lst (.cons (.con (.int 0)) .nil)) c) (ev Φ (.bin .mul (.lst (.cons (.con (.int 0)) .nil)) c)) [.pa (tupI row), .un, .un] = .ok (.o (.ls (List.replicate ((row.length : Int) % 2).toNat [PyData.int 0]).flatten)) [.pa (tupI row), .un, .un] := by
    rw [prep_bin, e3]; rfl
  have hlen : ((List.replicate ((row.length : Int) % 2).toNat [PyData.int 0]).flatten).length = row.length % 2 := by
    rw [h2]
    rcases Nat.mod_two_eq_zero_or_one row.length with h | h <;> rw [h] <;> rfl
  have e5 := ev_bin (op := .add) e1 e4 (binF_cat (fits_le (m := 1901) (by rw [hlen, List.length_map]; omega) (by decide)))
  rw [fil_map] at e5
  rw [exS, e5]; rfl
theorem filF {Φ : Nat → List O → CR} (row : List Int) (hl : row.length ≤ 1900) : exS Φ (.asg 1 (.bin .add (.bi .list (.cons (.loc 0) .nil)) (.bin .mul (.lst (.cons (.con (.int 0)) .nil)) (.bin .mod (.bi .len (.cons (.loc 0) .nil)) (.con (.int 2)))))) [.pa (tupI row), .un, .un] = .nx [.pa (tupI row), .lo (lsI (fil row)), .un] := by
  refine fil_ev row hl ?_
  simp [ev, evAs, prep_loc, prep_bi, prep_bin, prep_con, rd, vals, AV.val, biF, binF, Res.bind, ofO, Sl.get, items, tupI]
theorem filG {Φ : Nat → List O → CR} (row : List Int) (hl : row.length ≤ 1900) : exS Φ (.asg 1 (.bin .add (.bi .list (.cons (.loc 0) .nil)) (.bin .mul (.lst (.cons (.con (.int 0)) .nil)) (.bin .mod (.bi .int (.cons (.bi .len (.cons (.loc 0) .nil)) .nil)) (.con (.int 2)))))) [.pa (tupI row), .un, .un] = .nx [.pa (tupI row), .lo (lsI (fil row)), .un] := by
  refine fil_ev row hl ?_
  simp [ev, evAs, prep_loc, prep_bi, prep_bin, prep_con, rd, vals, AV.val, biF, binF, Res.bind, ofO, Sl.get, items, tupI]
theorem goFwords_of {T : List Df} (hT : T = prog) (n : Nat) (a : O) (Q : O → List (Option O) → Prop) (h : (exSs (callN T n) Bwords_of (frame0 3 [a])).sat (fun ρ => Q (.fz .none) (fins [a] ρ)) (fun o ρ => Q o (fins [a] ρ)) (fun _ => False) fun _ => False) : (callN T (n + 1) Fwords_of [a]).sat Q := @callN_sat T n Fwords_of ⟨"words_of", ["row", "filled", "k"], 1, Bwords_of⟩ [a] Q (by rw [hT]; rfl) rfl h
theorem goF_law_words {T : List Df} (hT : T = prog) (n : Nat) (a : O) (Q : O → List (Option O) → Prop) (h : (exSs (callN T n) B_law_words (frame0 3 [a])).sat (fun ρ => Q (.fz .none) (fins [a] ρ)) (fun o ρ => Q o (fins [a] ρ)) (fun _ => False) fun _ => False) : (callN T (n + 1) F_law_words [a]).sat Q := @callN_sat T n F_law_words ⟨"_law_words", ["row", "even", "k"], 1, B_law_words⟩ [a] Q (by rw [hT]; rfl) rfl h
theorem goFsum_of {T : List Df} (hT : T = prog) (n : Nat) (a : O) (Q : O → List (Option O) → Prop) (h : (exSs (callN T n) Bsum_of (frame0 1 [a])).sat (fun ρ => Q (.fz .none) (fins [a] ρ)) (fun o ρ => Q o (fins [a] ρ)) (fun _ => False) fun _ => False) : (callN T (n + 1) Fsum_of [a]).sat Q := @callN_sat T n Fsum_of ⟨"sum_of", ["row"], 1, Bsum_of⟩ [a] Q (by rw [hT]; rfl) rfl h
theorem goF_law_check {T : List Df} (hT : T = prog) (n : Nat) (a : O) (Q : O → List (Option O) → Prop) (h : (exSs (callN T n) B_law_check (frame0 1 [a])).sat (fun ρ => Q (.fz .none) (fins [a] ρ)) (fun o ρ => Q o (fins [a] ρ)) (fun _ => False) fun _ => False) : (callN T (n + 1) F_law_check [a]).sat Q := @callN_sat T n F_law_check ⟨"_law_check", ["row"], 1, B_law_check⟩ [a] Q (by rw [hT]; rfl) rfl h
theorem words_run {T : List Df} (hT : T = prog) {n : Nat} {x : O} (row : List Int) (hx : x = tupI row) (hl : row.length ≤ 1900) : callN T (n + 1) Fwords_of [x] = .ok (lsI (W row)) [none] := by
  refine eq_of_sat (goFwords_of hT n x _ ?_)
  generalize callN T n = Φ
  subst hx
  rw [show frame0 3 [tupI row] = [.pa (tupI row), .un, .un] from rfl]
  unfold Bwords_of
  rw [sat_cons, filF row hl, SR.sat_nx, sat_cons]
  show SR.sat ((ev Φ lcA [.pa (tupI row), .lo (lsI (fil row)), .un]).st .rt) _ _ _ _
  rw [lcA_run row hl]
  exact ⟨rfl, rfl⟩
theorem lwords_run {T : List Df} (hT : T = prog) {n : Nat} {x : O} (row : List Int) (hx : x = tupI row) (hl : row.length ≤ 1900) : callN T (n + 1) F_law_words [x] = .ok (lsI (W row)) [none] := by
  refine eq_of_sat (goF_law_words hT n x _ ?_)
  generalize callN T n = Φ
  subst hx
  rw [show frame0 3 [tupI row] = [.pa (tupI row), .un, .un] from rfl]
  unfold B_law_words
  rw [sat_cons, filG row hl, SR.sat_nx, sat_cons]
  show SR.sat ((ev Φ lcB [.pa (tupI row), .lo (lsI (fil row)), .un]).st .rt) _ _ _ _
  rw [lcB_run row hl]
  exact ⟨rfl, rfl⟩
theorem sumof_run {T : List Df} (hT : T = prog) {n : Nat} {x : O} (row : List Int) (hx : x = tupI row) (hl : row.length ≤ 1900) : callN T (n + 1 + 1) Fsum_of [x] = .ok (.fz (.int (65535 - foldI (W row).sum))) [none] := by
  have e1 := words_run hT (n := n) row hx hl
  have e2 := fold_run hT (n := n) (W row)
  refine eq_of_sat (goFsum_of hT (n + 1) x _ ?_)
  generalize callN T (n + 1) = Φ at e1 e2 ⊢
  subst hx
  rw [show frame0 1 [tupI row] = [.pa (tupI row)] from rfl]
  unfold Bsum_of
  simp [exS, prep_fidx, tst_fidx, prep_sset, tst_sset, prep_lset, tst_lset, prep_rev, tst_rev, prep_idx, tst_idx, ev, evDs, evAs, evO, evC, evI, evPs, prep_dget, tst_dget, prep_loc, prep_con, prep_glo, prep_tup, prep_lst, prep_bin, prep_neg, prep_not, prep_cmp, prep_cmp2, prep_isN, prep_notN, prep_and, prep_or, prep_ife, prep_sub, prep_slc, prep_call, prep_bi, prep_isi, prep_lrg1, prep_lrg2, prep_lc, tst_loc, tst_con, tst_glo, tst_tup, tst_lst, tst_bin, tst_neg, tst_not, tst_cmp, tst_cmp2, tst_isN, tst_notN, tst_and, tst_or, tst_ife, tst_sub, tst_slc, tst_call, tst_bi, tst_isi, tst_lrg1, tst_lrg2, tst_lc, evLoc, frz, rd, putO, loS, unS, kill, Res.bind, Res.st, ofO, AV.val, Sl.get, Sl.put, vals, binF, biF, cmpF, eqF, truF, isiF, ixF, cutF, setF, appF, augF, retLoc, items, litems, noneB, asB, O.toD, O.own, SR.sat_nx, SR.sat_rt, SR.sat_bk, SR.sat_ct, SR.sat_map, SR.sat_seq, sat_ite, Res.sat_ok, sat_cons, sat_nil, sat_kil, lend, called, back, hide, unhide, fins, wee, fits, e1, e2, GMOST]
theorem check_run {T : List Df} (hT : T = prog) {n : Nat} {x : O} (row : List Int) (hx : x = tupI row) (hl : row.length ≤ 1900) (h0 : 0 ≤ (W row).sum) (h1 : (W row).sum < 1000000000000000000000000000000) : callN T (n + 1 + 1) F_law_check [x] = .ok (.fz (.int (65535 - foldI (W row).sum))) [none] := by
  have e1 := lwords_run hT (n := n) row hx hl
  have e2 := lawfold_run hT (n := n) (W row) h0 h1
  refine eq_of_sat (goF_law_check hT (n + 1) x _ ?_)
  generalize callN T (n + 1) = Φ at e1 e2 ⊢
  subst hx
  rw [show frame0 1 [tupI row] = [.pa (tupI row)] from rfl]
  unfold B_law_check
  simp [exS, prep_fidx, tst_fidx, prep_sset, tst_sset, prep_lset, tst_lset, prep_rev, tst_rev, prep_idx, tst_idx, ev, evDs, evAs, evO, evC, evI, evPs, prep_dget, tst_dget, prep_loc, prep_con, prep_glo, prep_tup, prep_lst, prep_bin, prep_neg, prep_not, prep_cmp, prep_cmp2, prep_isN, prep_notN, prep_and, prep_or, prep_ife, prep_sub, prep_slc, prep_call, prep_bi, prep_isi, prep_lrg1, prep_lrg2, prep_lc, tst_loc, tst_con, tst_glo, tst_tup, tst_lst, tst_bin, tst_neg, tst_not, tst_cmp, tst_cmp2, tst_isN, tst_notN, tst_and, tst_or, tst_ife, tst_sub, tst_slc, tst_call, tst_bi, tst_isi, tst_lrg1, tst_lrg2, tst_lc, evLoc, frz, rd, putO, loS, unS, kill, Res.bind, Res.st, ofO, AV.val, Sl.get, Sl.put, vals, binF, biF, cmpF, eqF, truF, isiF, ixF, cutF, setF, appF, augF, retLoc, items, litems, noneB, asB, O.toD, O.own, SR.sat_nx, SR.sat_rt, SR.sat_bk, SR.sat_ct, SR.sat_map, SR.sat_seq, sat_ite, Res.sat_ok, sat_cons, sat_nil, sat_kil, lend, called, back, hide, unhide, fins, wee, fits, e1, e2]
theorem two_run {T : List Df} (hT : T = prog) {n : Nat} (w : Int) : callN T (n + 1) F_law_two [.fz (.int w)] = .ok (tupI [w / 256, w % 256]) [none] := by
  refine eq_of_sat (callN_sat (d := ⟨"_law_two", ["number"], 1, B_law_two⟩) (by rw [hT]; rfl) rfl ?_)
  show SR.sat (exSs _ B_law_two [.pa (.fz (.int w))]) _ _ _ _
  generalize callN T n = Φ
  unfold B_law_two
  simp [exS, prep_fidx, tst_fidx, prep_sset, tst_sset, prep_lset, tst_lset, prep_rev, tst_rev, prep_idx, tst_idx, ev, evDs, evAs, evO, evC, evI, evPs, prep_dget, tst_dget, prep_loc, prep_con, prep_glo, prep_tup, prep_lst, prep_bin, prep_neg, prep_not, prep_cmp, prep_cmp2, prep_isN, prep_notN, prep_and, prep_or, prep_ife, prep_sub, prep_slc, prep_call, prep_bi, prep_isi, prep_lrg1, prep_lrg2, prep_lc, tst_loc, tst_con, tst_glo, tst_tup, tst_lst, tst_bin, tst_neg, tst_not, tst_cmp, tst_cmp2, tst_isN, tst_notN, tst_and, tst_or, tst_ife, tst_sub, tst_slc, tst_call, tst_bi, tst_isi, tst_lrg1, tst_lrg2, tst_lc, evLoc, frz, rd, putO, loS, unS, kill, Res.bind, Res.st, ofO, AV.val, Sl.get, Sl.put, vals, binF, biF, cmpF, eqF, truF, isiF, ixF, cutF, setF, appF, augF, retLoc, items, litems, noneB, asB, O.toD, O.own, SR.sat_nx, SR.sat_rt, SR.sat_bk, SR.sat_ct, SR.sat_map, SR.sat_seq, sat_ite, Res.sat_ok, sat_cons, sat_nil, sat_kil, lend, called, back, hide, unhide, fins, wee, fits, tupI]
end Law


namespace Law
open PySem GW
/-! ### the sums of bytes -/
def Bt (row : List Int) : Prop := ∀ x ∈ row, 0 ≤ x ∧ x ≤ 65535
theorem Bt.app {u v : List Int} (a : Bt u) (b : Bt v) : Bt (u ++ v) := fun x h => (List.mem_append.mp h).elim (a x) (b x)
theorem bt2 {x y : Int} (a : 0 ≤ x ∧ x ≤ 65535) (b : 0 ≤ y ∧ y ≤ 65535) : Bt [x, y] := fun z h => by
  simp only [List.mem_cons, List.not_mem_nil, or_false] at h
  rcases h with rfl | rfl
  · exact a
  · exact b
theorem wat_mem {row : List Int} (h : Bt row) (j : Nat) : 0 ≤ wat row j ∧ wat row j ≤ 65535 := by
  unfold wat
  rw [List.getD_eq_getElem?_getD]  -- gw
  cases e : row[j]? with
  | none => exact ⟨by show (0 : Int) ≤ 0; omega, by show (0 : Int) ≤ 65535; omega⟩
  | some x => exact h x (List.mem_of_getElem? e)
theorem sum_mem {B : Int} : ∀ {l : List Int}, (∀ x ∈ l, 0 ≤ x ∧ x ≤ B) → 0 ≤ l.sum ∧ l.sum ≤ l.length * B
  | [], _ => by simp
  | a :: r, h => by
    have h1 := h a List.mem_cons_self
    have h2 := sum_mem (fun x hx => h x (List.mem_cons_of_mem _ hx) : ∀ x ∈ r, 0 ≤ x ∧ x ≤ B)
    rw [List.sum_cons, List.length_cons]  -- gw
    have e : ((r.length + 1 : Nat) : Int) * B = r.length * B + B := by
      rw [show ((r.length + 1 : Nat) : Int) = r.length + 1 by omega, Int.add_mul, Int.one_mul]
    rw [e]; omega
theorem W_sum {row : List Int} (h : Bt row) (hl : row.length ≤ 1900) : 0 ≤ (W row).sum ∧ (W row).sum < 1000000000000000000000000000000 := by
  have h1 := sum_mem (B := 16842495) (l := W row) (fun x hx => by
    unfold W at hx
    obtain ⟨k, _, rfl⟩ := List.mem_map.mp hx
    have a := wat_mem h (2 * k)
    have b := wat_mem h (2 * k + 1)
    omega)
  have h2 : (W row).length ≤ 951 := by unfold W; rw [List.length_map, List.length_range]; omega
  generalize (W row).length = n at h1 h2
  omega
/-- the sum of a row, as it is written -/
def ckI (row : List Int) : Int := 65535 - foldI (W row).sum
theorem ck_mem {row : List Int} (h : Bt row) (hl : row.length ≤ 1900) : 0 ≤ ckI row ∧ ckI row ≤ 65535 := by
  have := foldI_mem (W row).sum (W_sum h hl).1
  unfold ckI; omega
def two (w : Int) : List Int := [w / 256, w % 256]
theorem two_bt {w : Int} (h : 0 ≤ w ∧ w ≤ 65535) : Bt (two w) := bt2 (by omega) (by omega)
end Law


namespace Law
open PySem GW
def sizI (k : Int) : Int := if k = 6 then 8 else if k = 17 then 6 else if k = 1 then 4 else 0
theorem siz_mem (k : Int) : 0 ≤ sizI k ∧ sizI k ≤ 8 := by
  unfold sizI
  split
  · omega
  · split
    · omega
    · split <;> omega
abbrev Pk (a b t k : Int) (os is ps : List Int) : PyData := .tuple [.int a, .int b, .int k, .int t, TI os, TI is, TI ps]
def headI (k : Int) (is : List Int) : List Int := if k = 6 then two (wat is 0) ++ two (wat is 1) ++ [wat is 2, 0] else if k = 17 then two (wat is 0) ++ two (wat is 1) else is
def lenP (k : Int) (os ps : List Int) : Int := 12 + os.length + sizI k + ps.length
def endsI (a b : Int) : List Int := two a ++ two b
def firstI (t k : Int) (os ps : List Int) : List Int := [70 + (os.length : Int) / 2, k] ++ two (lenP k os ps) ++ [t, 0]
def outerI (a b t k : Int) (os ps : List Int) : List Int := firstI t k os ps ++ two (ckI (firstI t k os ps ++ [0, 0] ++ (endsI a b ++ os))) ++ (endsI a b ++ os)
def plainI (a b k : Int) (hd ps : List Int) : List Int := endsI a b ++ two k ++ two ((hd.length : Int) + 2 + ps.length) ++ hd ++ [0, 0] ++ ps
def innI (a b k : Int) (hd ps : List Int) : List Int := if sizI k = 0 then ps else hd ++ two (ckI (plainI a b k hd ps)) ++ ps
def rowI (a b t k : Int) (os is ps : List Int) : List Int := outerI a b t k os ps ++ innI a b k (headI k is) ps
structure PkOk (a b t k : Int) (os is ps : List Int) : Prop where
  ha : 0 ≤ a ∧ a ≤ 65535
  hb : 0 ≤ b ∧ b ≤ 65535
  ht : 0 ≤ t ∧ t ≤ 255
  hk : 0 ≤ k ∧ k ≤ 255
  so : Bt os
  lo : os.length ≤ 8
  si : Bt is
  li : is.length ≤ 3
  sp : Bt ps
  lp : ps.length ≤ 1500
  h6 : k = 6 → ∃ i j l, is = [i, j, l]
  h17 : k = 17 → ∃ i j, is = [i, j]
theorem two_len (w : Int) : (two w).length = 2 := rfl
theorem ends_len (a b : Int) : (endsI a b).length = 4 := rfl
theorem first_len (t k : Int) (os ps : List Int) : (firstI t k os ps).length = 6 := rfl
section
variable {a b t k : Int} {os is ps : List Int}
theorem head_len (ok : PkOk a b t k os is ps) : (headI k is).length ≤ 6 := by
  unfold headI
  split
  · simp [two]
  · split
    · simp [two]
    · have := ok.li; omega
theorem head_bt (ok : PkOk a b t k os is ps) : Bt (headI k is) := by
  have w := fun j => wat_mem ok.si j
  unfold headI
  split
  · exact ((two_bt (w 0)).app (two_bt (w 1))).app (bt2 (w 2) (by omega))
  · split
    · exact (two_bt (w 0)).app (two_bt (w 1))
    · exact ok.si
theorem ends_bt (ok : PkOk a b t k os is ps) : Bt (endsI a b) := (two_bt ok.ha).app (two_bt ok.hb)
theorem first_bt (ok : PkOk a b t k os is ps) : Bt (firstI t k os ps) := by
  have h1 := ok.lo
  have h2 := ok.lp
  have h3 := siz_mem k
  have h4 := ok.hk
  have h5 := ok.ht
  refine ((bt2 (by omega) (by omega)).app (two_bt ?_)).app (bt2 (by omega) (by omega))
  unfold lenP; omega
theorem plain_bt (ok : PkOk a b t k os is ps) : Bt (plainI a b k (headI k is) ps) := by
  have h1 := head_len ok
  have h2 := ok.lp
  have h4 := ok.hk
  exact (((((ends_bt ok).app (two_bt (by omega))).app (two_bt (by omega))).app (head_bt ok)).app (bt2 (by omega) (by omega))).app ok.sp
theorem plain_len (ok : PkOk a b t k os is ps) : (plainI a b k (headI k is) ps).length ≤ 1520 := by
  have h1 := head_len ok
  have h2 := ok.lp
  unfold plainI
  simp only [List.length_append, ends_len, two_len, List.length_cons, List.length_nil]
  omega
theorem ol_bt (ok : PkOk a b t k os is ps) : Bt (firstI t k os ps ++ [0, 0] ++ (endsI a b ++ os)) := ((first_bt ok).app (bt2 (by omega) (by omega))).app ((ends_bt ok).app ok.so)
theorem ol_len (ok : PkOk a b t k os is ps) : (firstI t k os ps ++ [0, 0] ++ (endsI a b ++ os)).length ≤ 30 := by
  have := ok.lo
  simp only [List.length_append, ends_len, first_len, List.length_cons, List.length_nil]
  omega
section
variable {Φ : Nat → List O → CR}
def TwoF (Φ : Nat → List O → CR) (f : Nat) : Prop := ∀ w : Int, Φ f [.fz (.int w)] = .ok (.fz (TI (two w))) [none]
def SzF (Φ : Nat → List O → CR) (f : Nat) : Prop := ∀ w : Int, Φ f [.fz (.int w)] = .ok (.fz (.int (sizI w))) [none]
def CkF (Φ : Nat → List O → CR) (f : Nat) : Prop := ∀ row : List Int, Bt row → row.length ≤ 1900 → Φ f [.fz (TI row)] = .ok (.fz (.int (ckI row))) [none]
def LnF (Φ : Nat → List O → CR) (f : Nat) : Prop := ∀ (a b t k : Int) (os is ps : List Int), Φ f [.fz (Pk a b t k os is ps)] = .ok (.fz (.int (lenP k os ps))) [none]
theorem at0 : L2.atI [.int a, .int b, .int k, .int t, TI os, TI is, TI ps] 0 = some (.int a) := rfl
theorem at1 : L2.atI [.int a, .int b, .int k, .int t, TI os, TI is, TI ps] 1 = some (.int b) := rfl
theorem at2 : L2.atI [.int a, .int b, .int k, .int t, TI os, TI is, TI ps] 2 = some (.int k) := rfl
theorem at3 : L2.atI [.int a, .int b, .int k, .int t, TI os, TI is, TI ps] 3 = some (.int t) := rfl
theorem at4 : L2.atI [.int a, .int b, .int k, .int t, TI os, TI is, TI ps] 4 = some (TI os) := rfl
theorem at5 : L2.atI [.int a, .int b, .int k, .int t, TI os, TI is, TI ps] 5 = some (TI is) := rfl
theorem at6 : L2.atI [.int a, .int b, .int k, .int t, TI os, TI is, TI ps] 6 = some (TI ps) := rfl
theorem s2 {x y : Int} : L2.atI ([x, y].map PyData.int) 0 = some (.int x) ∧ L2.atI ([x, y].map PyData.int) 1 = some (.int y) := ⟨rfl, rfl⟩
theorem s3 {x y z : Int} : L2.atI ([x, y, z].map PyData.int) 0 = some (.int x) ∧ L2.atI ([x, y, z].map PyData.int) 1 = some (.int y) ∧ L2.atI ([x, y, z].map PyData.int) 2 = some (.int z) := ⟨rfl, rfl, rfl⟩
theorem ln_at {f : Nat} (S : SzF Φ f) (r : Fm) : PV Φ (.bin .add (.bin .add (.bin .add (.con (.int 12)) (.bi .len (.cons (.sub (.loc 0) (.con (.int 4))) .nil))) (.call f (.cons (.sub (.loc 0) (.con (.int 2))) .nil))) (.bi .len (.cons (.sub (.loc 0) (.con (.int 6))) .nil))) (.pa (.fz (Pk a b t k os is ps)) :: r) (.int (lenP k os ps)) :=
  pv_add (pv_add (pv_add pv_con (pv_len (pv_sub (pv_loc rfl) at4))) (pv_call1 (pv_sub (pv_loc rfl) at2) (S k))) (pv_len (pv_sub (pv_loc rfl) at6))
theorem inb_at (C : TwoF Φ Ftwo) (ok : PkOk a b t k os is ps) : ends [.fz (Pk a b t k os is ps)] (exSs Φ Binner_bytes [.pa (.fz (Pk a b t k os is ps)), .un, .un]) = .ok (.fz (TI (headI k is))) [none] := by
  unfold Binner_bytes GSTREAM GASKING
  refine es_asg (pv_sub (pv_loc rfl) at2) (fun _ z => nomatch z) ?_
  show ends _ (exSs Φ _ [.pa (.fz (Pk a b t k os is ps)), .lo (.fz (.int k)), .un]) = _
  refine es_asg (pv_sub (pv_loc rfl) at5) (fun _ z => nomatch z) ?_
  show ends _ (exSs Φ _ [.pa (.fz (Pk a b t k os is ps)), .lo (.fz (.int k)), .lo (.fz (TI is))]) = _
  by_cases h6 : k = 6
  · obtain ⟨x, y, z, rfl⟩ := ok.h6 h6
    refine (es_yes (tst_yes (y := 6) (pv_loc rfl) pv_glo h6) (pv_cat (pv_cat (pv_call1 (pv_sub (pv_loc (d := TI [x, y, z]) rfl) s3.1) (C _)) (pv_call1 (pv_sub (pv_loc (d := TI [x, y, z]) rfl) s3.2.1) (C _)) (by first | omega | (simp only [List.length_append, two_len, ends_len, first_len, List.length_cons, List.length_nil]; omega))) (pv_tup2 (pv_sub (pv_loc (d := TI [x, y, z]) rfl) s3.2.2) pv_con) (by first | omega | (simp only [List.length_append, two_len, ends_len, first_len, List.length_cons, List.length_nil]; omega))) (fun _ z => nomatch z)).trans ?_
    unfold headI
    rw [if_pos h6]; rfl
  refine es_no (tst_nay (y := 6) (pv_loc rfl) pv_glo h6) ?_
  by_cases h17 : k = 17
  · obtain ⟨x, y, rfl⟩ := ok.h17 h17
    refine (es_yes (tst_yes (y := 17) (pv_loc rfl) pv_glo h17) (pv_cat (pv_call1 (pv_sub (pv_loc (d := TI [x, y]) rfl) s2.1) (C _)) (pv_call1 (pv_sub (pv_loc (d := TI [x, y]) rfl) s2.2) (C _)) (by first | omega | (simp only [List.length_append, two_len, ends_len, first_len, List.length_cons, List.length_nil]; omega))) (fun _ z => nomatch z)).trans ?_
    unfold headI
    rw [if_neg h6, if_pos h17]; rfl
  · refine es_no (tst_nay (y := 17) (pv_loc rfl) pv_glo h17) ?_
    unfold headI
    rw [if_neg h6, if_neg h17, exSs_cons, exS]; rfl
theorem wri_at (C : TwoF Φ Ftwo) (S : SzF Φ Finner_size) (K : CkF Φ Fsum_of) (H : Φ Finner_bytes [.fz (Pk a b t k os is ps)] = .ok (.fz (TI (headI k is))) [none]) (ok : PkOk a b t k os is ps) : ends [.fz (Pk a b t k os is ps)] (exSs Φ Bwrite_inner [.pa (.fz (Pk a b t k os is ps)), .un, .un, .un]) = .ok (.fz (TI (innI a b k (headI k is) ps))) [none] := by
  have l1 := head_len ok
  have l2 := ok.lp
  have b1 := plain_bt ok
  have b2 := plain_len ok
  generalize headI k is = hd at H l1 b1 b2 ⊢
  unfold Bwrite_inner
  refine es_asg (pv_call1 (pv_loc rfl) H) (fun _ z => nomatch z) ?_
  show ends _ (exSs Φ _ [.pa (.fz (Pk a b t k os is ps)), .lo (.fz (TI hd)), .un, .un]) = _
  unfold innI
  by_cases h : sizI k = 0
  · refine (es_yes (tst_yes (y := 0) (pv_call1 (pv_sub (pv_loc rfl) at2) (S k)) pv_con h) (pv_sub (pv_loc rfl) at6) (fun _ z => nomatch z)).trans ?_
    rw [if_pos h]; rfl
  refine es_no (tst_nay (y := 0) (pv_call1 (pv_sub (pv_loc rfl) at2) (S k)) pv_con h) ?_
  rw [if_neg h]
  refine es_asg (pv_add (pv_add (pv_len (u := hd) (pv_loc rfl)) pv_con) (pv_len (pv_sub (pv_loc rfl) at6))) (fun _ z => nomatch z) ?_
  show ends _ (exSs Φ _ [.pa (.fz (Pk a b t k os is ps)), .lo (.fz (TI hd)), .lo (.fz (.int ((hd.length : Int) + 2 + ps.length))), .un]) = _
  refine es_asg (d := TI (plainI a b k hd ps)) (pv_cat (pv_cat (pv_cat (pv_cat (pv_cat (pv_cat (pv_call1 (pv_sub (pv_loc rfl) at0) (C _)) (pv_call1 (pv_sub (pv_loc rfl) at1) (C _)) (by first | omega | (simp only [List.length_append, two_len, ends_len, first_len, List.length_cons, List.length_nil]; omega))) (pv_call1 (pv_sub (pv_loc rfl) at2) (C _)) (by first | omega | (simp only [List.length_append, two_len, ends_len, first_len, List.length_cons, List.length_nil]; omega))) (pv_call1 (pv_loc rfl) (C _)) (by first | omega | (simp only [List.length_append, two_len, ends_len, first_len, List.length_cons, List.length_nil]; omega))) (pv_loc (d := TI hd) rfl) (by first | omega | (simp only [List.length_append, two_len, ends_len, first_len, List.length_cons, List.length_nil]; omega))) (pv_tup2 pv_con pv_con) (by first | omega | (simp only [List.length_append, two_len, ends_len, first_len, List.length_cons, List.length_nil]; omega))) (pv_sub (pv_loc rfl) at6) (by first | omega | (simp only [List.length_append, two_len, ends_len, first_len, List.length_cons, List.length_nil]; omega))) (fun _ z => nomatch z) ?_
  show ends _ (exSs Φ _ [.pa (.fz (Pk a b t k os is ps)), .lo (.fz (TI hd)), .lo (.fz (.int ((hd.length : Int) + 2 + ps.length))), .lo (.fz (TI (plainI a b k hd ps)))]) = _
  refine (es_ret (pv_cat (pv_cat (pv_loc (d := TI hd) rfl) (pv_call1 (pv_call1 (pv_loc rfl) (K _ b1 (Nat.le_trans b2 (by decide)))) (C _)) (by first | omega | (simp only [List.length_append, two_len, ends_len, first_len, List.length_cons, List.length_nil]; omega))) (pv_sub (pv_loc rfl) at6) (by first | omega | (simp only [List.length_append, two_len, ends_len, first_len, List.length_cons, List.length_nil]; omega))) (fun _ z => nomatch z)).trans ?_
  rfl
end
end
end Law


namespace Law
open PySem GW
section
variable {a b t k : Int} {os is ps : List Int} {Φ : Nat → List O → CR}
theorem asg5 {i1 i2 i3 i4 i5 : Nat} {a b c d e : PyData} {ρ : Fm} : asgF (.tp (.cons (.nm i1) (.cons (.nm i2) (.cons (.nm i3) (.cons (.nm i4) (.cons (.nm i5) .nil)))))) (.tuple [a, b, c, d, e]) ρ = some (loS (loS (loS (loS (loS ρ i1 (.fz a)) i2 (.fz b)) i3 (.fz c)) i4 (.fz d)) i5 (.fz e)) := rfl
theorem es_asgT {tg : Tg} {e : IE} {d : PyData} {r : ISs} {os : List O} {R : CR} {ρ ρ1 : Fm} (h : PV Φ e ρ d) (ha : asgF tg d ρ = some ρ1) (hk : ends os (exSs Φ r ρ1) = R) : ends os (exSs Φ (.cons (.asgT tg e) r) ρ) = R := by
  rw [exSs_cons, exS, h.fr]
  show ends os (SR.seq ((ofO (asgF tg d ρ) ρ).st fun ρ2 _ => .nx ρ2) _) = R
  rw [ha]
  exact hk
theorem cut5 {a b c d e f g : PyData} : cutL [a, b, c, d, e, f, g] none (some 5) = [a, b, c, d, e] := rfl
theorem pv_cut5 {a b c d e f g : PyData} {r : Fm} : PV Φ (.slc (.loc 0) .no (.so (.con (.int 5)))) (.pa (.fz (.tuple [a, b, c, d, e, f, g])) :: r) (.tuple [a, b, c, d, e]) := by
  refine pv_ev (fun _ z => nomatch z) ?_
  simp [exS, prep_fidx, tst_fidx, prep_sset, tst_sset, prep_lset, tst_lset, prep_rev, tst_rev, prep_idx, tst_idx, ev, evDs, evAs, evO, evC, evI, evPs, prep_dget, tst_dget, prep_loc, prep_con, prep_glo, prep_tup, prep_lst, prep_bin, prep_neg, prep_not, prep_cmp, prep_cmp2, prep_isN, prep_notN, prep_and, prep_or, prep_ife, prep_sub, prep_slc, prep_call, prep_bi, prep_isi, prep_lrg1, prep_lrg2, prep_lc, tst_loc, tst_con, tst_glo, tst_tup, tst_lst, tst_bin, tst_neg, tst_not, tst_cmp, tst_cmp2, tst_isN, tst_notN, tst_and, tst_or, tst_ife, tst_sub, tst_slc, tst_call, tst_bi, tst_isi, tst_lrg1, tst_lrg2, tst_lc, evLoc, frz, rd, putO, loS, unS, kill, Res.bind, Res.st, ofO, AV.val, Sl.get, Sl.put, vals, binF, biF, cmpF, eqF, truF, isiF, ixF, cutF, setF, appF, augF, retLoc, items, litems, noneB, asB, O.toD, O.own, SR.sat_nx, SR.sat_rt, SR.sat_bk, SR.sat_ct, SR.sat_map, SR.sat_seq, sat_ite, Res.sat_ok, sat_cons, sat_nil, sat_kil, lend, called, back, hide, unhide, fins, wee, fits, cut5]
theorem writ_at (C : TwoF Φ Ftwo) (K : CkF Φ Fsum_of) (L : LnF Φ Flength_of) (W : Φ Fwrite_inner [.fz (Pk a b t k os is ps)] = .ok (.fz (TI (innI a b k (headI k is) ps))) [none]) (hi : (innI a b k (headI k is) ps).length ≤ 2000) (ok : PkOk a b t k os is ps) : ends [.fz (Pk a b t k os is ps)] (exSs Φ Bwrite_packet [.pa (.fz (Pk a b t k os is ps)), .un, .un, .un, .un, .un, .un, .un]) = .ok (.fz (TI (rowI a b t k os is ps))) [none] := by
  have l1 := ok.lo
  have b1 := ol_bt ok
  have b2 := ol_len ok
  unfold rowI
  generalize innI a b k (headI k is) ps = inn at W hi ⊢
  unfold Bwrite_packet
  refine es_asgT pv_cut5 asg5 ?_
  show ends _ (exSs Φ _ [.pa (.fz (Pk a b t k os is ps)), .un, .un, .lo (.fz (.int a)), .lo (.fz (.int b)), .lo (.fz (.int k)), .lo (.fz (.int t)), .lo (.fz (TI os))]) = _
  refine es_asg (pv_cat (pv_cat (pv_tup2 (pv_add (pv_add pv_con pv_con) (pv_half (pv_len (u := os) (pv_loc rfl)))) (pv_loc (d := .int k) rfl)) (pv_call1 (pv_call1 (pv_loc rfl) (L a b t k os is ps)) (C _)) (by first | omega | (simp only [List.length_append, two_len, ends_len, first_len, List.length_cons, List.length_nil]; omega))) (pv_tup2 (pv_loc (d := .int t) rfl) pv_con) (by first | omega | (simp only [List.length_append, two_len, ends_len, first_len, List.length_cons, List.length_nil]; omega))) (fun _ z => nomatch z) ?_
  rw [show (64 : Int) + 6 + (os.length : Int) / 2 = 70 + (os.length : Int) / 2 by omega]
  show ends _ (exSs Φ _ [.pa (.fz (Pk a b t k os is ps)), .lo (.fz (TI (firstI t k os ps))), .un, .lo (.fz (.int a)), .lo (.fz (.int b)), .lo (.fz (.int k)), .lo (.fz (.int t)), .lo (.fz (TI os))]) = _
  refine es_asg (pv_cat (pv_cat (pv_call1 (pv_loc (d := .int a) rfl) (C _)) (pv_call1 (pv_loc (d := .int b) rfl) (C _)) (by first | omega | (simp only [List.length_append, two_len, ends_len, first_len, List.length_cons, List.length_nil]; omega))) (pv_loc (d := TI os) rfl) (by first | omega | (simp only [List.length_append, two_len, ends_len, first_len, List.length_cons, List.length_nil]; omega))) (fun _ z => nomatch z) ?_
  show ends _ (exSs Φ _ [.pa (.fz (Pk a b t k os is ps)), .lo (.fz (TI (firstI t k os ps))), .lo (.fz (TI (endsI a b ++ os))), .lo (.fz (.int a)), .lo (.fz (.int b)), .lo (.fz (.int k)), .lo (.fz (.int t)), .lo (.fz (TI os))]) = _
  refine (es_ret (pv_cat (pv_cat (pv_cat (pv_loc (d := TI (firstI t k os ps)) rfl) (pv_call1 (pv_call1 (pv_cat (pv_cat (pv_loc (d := TI (firstI t k os ps)) rfl) (pv_tup2 pv_con pv_con) (by first | omega | (simp only [List.length_append, two_len, ends_len, first_len, List.length_cons, List.length_nil]; omega))) (pv_loc (d := TI (endsI a b ++ os)) rfl) (by first | omega | (simp only [List.length_append, two_len, ends_len, first_len, List.length_cons, List.length_nil]; omega))) (K _ b1 (Nat.le_trans b2 (by decide)))) (C _)) (by first | omega | (simp only [List.length_append, two_len, ends_len, first_len, List.length_cons, List.length_nil]; omega))) (pv_loc (d := TI (endsI a b ++ os)) rfl) (by first | omega | (simp only [List.length_append, two_len, ends_len, first_len, List.length_cons, List.length_nil]; omega))) (pv_call1 (pv_loc rfl) W) (by first | omega | (simp only [List.length_append, two_len, ends_len, first_len, List.length_cons, List.length_nil]; omega))) (fun _ z => nomatch z)).trans ?_
  rfl
/-! ### the law's own -/
theorem midb (C : TwoF Φ F_law_two) (ok : PkOk a b t k os is ps) {x y z u v : Sl} {r : ISs} {R : CR} (hk : ends [.fz (Pk a b t k os is ps)] (exSs Φ r [.pa (.fz (Pk a b t k os is ps)), x, y, z, .lo (.fz (TI (headI k is))), u, v]) = R) :
    ends [.fz (Pk a b t k os is ps)] (exSs Φ (.cons (.iff (.cmp .eq (.sub (.loc 0) (.con (.int 2))) (.con (.int 6)))
      (.cons (.asg 4 (.bin .add (.bin .add (.call F_law_two (.cons (.sub (.loc 4) (.con (.int 0))) .nil)) (.call F_law_two (.cons (.sub (.loc 4) (.con (.int 1))) .nil))) (.tup (.cons (.sub (.loc 4) (.con (.int 2))) (.cons (.con (.int 0)) .nil))))) .nil) .nil)
      (.cons (.iff (.cmp .eq (.sub (.loc 0) (.con (.int 2))) (.con (.int 17)))
      (.cons (.asg 4 (.bin .add (.call F_law_two (.cons (.sub (.loc 4) (.con (.int 0))) .nil)) (.call F_law_two (.cons (.sub (.loc 4) (.con (.int 1))) .nil)))) .nil) .nil) r)) [.pa (.fz (Pk a b t k os is ps)), x, y, z, .lo (.fz (TI is)), u, v]) = R := by
  by_cases h6 : k = 6
  · have h17 : ¬ k = 17 := by omega
    obtain ⟨i, j, l, rfl⟩ := ok.h6 h6
    refine es_set (tst_yes (y := 6) (pv_sub (pv_loc rfl) at2) pv_con h6) (pv_cat (pv_cat (pv_call1 (pv_sub (pv_loc (d := TI [i, j, l]) rfl) s3.1) (C _)) (pv_call1 (pv_sub (pv_loc (d := TI [i, j, l]) rfl) s3.2.1) (C _)) (by first | omega | (simp only [List.length_append, two_len, ends_len, first_len, List.length_cons, List.length_nil]; omega))) (pv_tup2 (pv_sub (pv_loc (d := TI [i, j, l]) rfl) s3.2.2) pv_con) (by first | omega | (simp only [List.length_append, two_len, ends_len, first_len, List.length_cons, List.length_nil]; omega))) (fun _ z => nomatch z) ?_
    refine es_no (tst_nay (y := 17) (pv_sub (pv_loc rfl) at2) pv_con h17) ?_
    unfold headI at hk
    rw [if_pos h6] at hk
    exact hk
  refine es_no (tst_nay (y := 6) (pv_sub (pv_loc rfl) at2) pv_con h6) ?_
  by_cases h17 : k = 17
  · obtain ⟨i, j, rfl⟩ := ok.h17 h17
    refine es_set (tst_yes (y := 17) (pv_sub (pv_loc rfl) at2) pv_con h17) (pv_cat (pv_call1 (pv_sub (pv_loc (d := TI [i, j]) rfl) s2.1) (C _)) (pv_call1 (pv_sub (pv_loc (d := TI [i, j]) rfl) s2.2) (C _)) (by first | omega | (simp only [List.length_append, two_len, ends_len, first_len, List.length_cons, List.length_nil]; omega))) (fun _ z => nomatch z) ?_
    unfold headI at hk
    rw [if_neg h6, if_pos h17] at hk
    exact hk
  · refine es_no (tst_nay (y := 17) (pv_sub (pv_loc rfl) at2) pv_con h17) ?_
    unfold headI at hk
    rw [if_neg h6, if_neg h17] at hk
    exact hk
theorem lbyt_at (C : TwoF Φ F_law_two) (K : CkF Φ F_law_check) (S : SzF Φ F_law_inner_size) (L : LnF Φ F_law_length) (ok : PkOk a b t k os is ps) : ends [.fz (Pk a b t k os is ps)] (exSs Φ B_law_bytes [.pa (.fz (Pk a b t k os is ps)), .un, .un, .un, .un, .un, .un]) = .ok (.fz (TI (rowI a b t k os is ps))) [none] := by
  have l1 := ok.lo
  have l2 := head_len ok
  have l3 := ok.lp
  have b1 := ol_bt ok
  have b2 := ol_len ok
  have p1 := plain_bt ok
  have p2 := plain_len ok
  have eo : firstI t k os ps ++ [0, 0] ++ endsI a b ++ os = firstI t k os ps ++ [0, 0] ++ (endsI a b ++ os) := by rw [List.append_assoc (firstI t k os ps ++ [0, 0])]
  have el : ((headI k is ++ [0, 0] ++ ps).length : Int) = (headI k is).length + 2 + ps.length := by
    simp only [List.length_append, List.length_cons, List.length_nil]; omega
  have ep : endsI a b ++ two k ++ two ((headI k is ++ [0, 0] ++ ps).length : Int) ++ (headI k is ++ [0, 0] ++ ps) = plainI a b k (headI k is) ps := by
    rw [el]; unfold plainI; simp only [List.append_assoc]
  unfold B_law_bytes
  refine es_asg (pv_cat (pv_cat (pv_tup2 (pv_add pv_con (pv_half (pv_len (pv_sub (pv_loc rfl) at4)))) (pv_sub (pv_loc rfl) at2)) (pv_call1 (pv_call1 (pv_loc rfl) (L a b t k os is ps)) (C _)) (by first | omega | (simp only [List.length_append, two_len, ends_len, first_len, List.length_cons, List.length_nil]; omega))) (pv_tup2 (pv_sub (pv_loc rfl) at3) pv_con) (by first | omega | (simp only [List.length_append, two_len, ends_len, first_len, List.length_cons, List.length_nil]; omega))) (fun _ z => nomatch z) ?_
  show ends _ (exSs Φ _ [.pa (.fz (Pk a b t k os is ps)), .lo (.fz (TI (firstI t k os ps))), .un, .un, .un, .un, .un]) = _
  refine es_asg (pv_cat (pv_call1 (pv_sub (pv_loc rfl) at0) (C _)) (pv_call1 (pv_sub (pv_loc rfl) at1) (C _)) (by first | omega | (simp only [List.length_append, two_len, ends_len, first_len, List.length_cons, List.length_nil]; omega))) (fun _ z => nomatch z) ?_
  show ends _ (exSs Φ _ [.pa (.fz (Pk a b t k os is ps)), .lo (.fz (TI (firstI t k os ps))), .lo (.fz (TI (endsI a b))), .un, .un, .un, .un]) = _
  refine es_asg (pv_cat (pv_cat (pv_cat (pv_loc (d := TI (firstI t k os ps)) rfl) (pv_call1 (pv_call1 (pv_cat (pv_cat (pv_cat (pv_loc (d := TI (firstI t k os ps)) rfl) (pv_tup2 pv_con pv_con) (by first | omega | (simp only [List.length_append, two_len, ends_len, first_len, List.length_cons, List.length_nil]; omega))) (pv_loc (d := TI (endsI a b)) rfl) (by first | omega | (simp only [List.length_append, two_len, ends_len, first_len, List.length_cons, List.length_nil]; omega))) (pv_sub (pv_loc rfl) at4) (by first | omega | (simp only [List.length_append, two_len, ends_len, first_len, List.length_cons, List.length_nil]; omega))) (K _ (eo ▸ b1) (by rw [eo]; omega))) (C _)) (by first | omega | (simp only [List.length_append, two_len, ends_len, first_len, List.length_cons, List.length_nil]; omega))) (pv_loc (d := TI (endsI a b)) rfl) (by first | omega | (simp only [List.length_append, two_len, ends_len, first_len, List.length_cons, List.length_nil]; omega))) (pv_sub (pv_loc rfl) at4) (by first | omega | (simp only [List.length_append, two_len, ends_len, first_len, List.length_cons, List.length_nil]; omega))) (fun _ z => nomatch z) ?_
  rw [eo, List.append_assoc (firstI t k os ps ++ two (ckI (firstI t k os ps ++ [0, 0] ++ (endsI a b ++ os))))]
  show ends _ (exSs Φ _ [.pa (.fz (Pk a b t k os is ps)), .lo (.fz (TI (firstI t k os ps))), .lo (.fz (TI (endsI a b))), .lo (.fz (TI (outerI a b t k os ps))), .un, .un, .un]) = _
  refine es_asg (pv_sub (pv_loc rfl) at5) (fun _ z => nomatch z) ?_
  have ol : (outerI a b t k os ps).length ≤ 30 := by unfold outerI; first | omega | (simp only [List.length_append, two_len, ends_len, first_len, List.length_cons, List.length_nil]; omega)
  refine midb C ok ?_
  show ends _ (exSs Φ _ [.pa (.fz (Pk a b t k os is ps)), .lo (.fz (TI (firstI t k os ps))), .lo (.fz (TI (endsI a b))), .lo (.fz (TI (outerI a b t k os ps))), .lo (.fz (TI (headI k is))), .un, .un]) = _
  unfold rowI innI
  generalize outerI a b t k os ps = ou at ol ⊢
  by_cases h : sizI k = 0
  · refine (es_yes (tst_yes (y := 0) (pv_call1 (pv_sub (pv_loc rfl) at2) (S k)) pv_con h) (pv_cat (pv_loc (d := TI ou) rfl) (pv_sub (pv_loc rfl) at6) (by first | omega | (simp only [List.length_append, two_len, ends_len, first_len, List.length_cons, List.length_nil]; omega))) (fun _ z => nomatch z)).trans ?_
    rw [if_pos h]; rfl
  refine es_no (tst_nay (y := 0) (pv_call1 (pv_sub (pv_loc rfl) at2) (S k)) pv_con h) ?_
  rw [if_neg h]
  refine es_asg (pv_cat (pv_cat (pv_loc (d := TI (headI k is)) rfl) (pv_tup2 pv_con pv_con) (by first | omega | (simp only [List.length_append, two_len, ends_len, first_len, List.length_cons, List.length_nil]; omega))) (pv_sub (pv_loc rfl) at6) (by first | omega | (simp only [List.length_append, two_len, ends_len, first_len, List.length_cons, List.length_nil]; omega))) (fun _ z => nomatch z) ?_
  show ends _ (exSs Φ _ [.pa (.fz (Pk a b t k os is ps)), .lo (.fz (TI (firstI t k os ps))), .lo (.fz (TI (endsI a b))), .lo (.fz (TI ou)), .lo (.fz (TI (headI k is))), .lo (.fz (TI (headI k is ++ [0, 0] ++ ps))), .un]) = _
  refine es_asg (pv_call1 (pv_cat (pv_cat (pv_cat (pv_loc (d := TI (endsI a b)) rfl) (pv_call1 (pv_sub (pv_loc rfl) at2) (C _)) (by first | omega | (simp only [List.length_append, two_len, ends_len, first_len, List.length_cons, List.length_nil]; omega))) (pv_call1 (pv_len (u := headI k is ++ [0, 0] ++ ps) (pv_loc rfl)) (C _)) (by first | omega | (simp only [List.length_append, two_len, ends_len, first_len, List.length_cons, List.length_nil]; omega))) (pv_loc (d := TI (headI k is ++ [0, 0] ++ ps)) rfl) (by first | omega | (simp only [List.length_append, two_len, ends_len, first_len, List.length_cons, List.length_nil]; omega))) (K _ (ep ▸ p1) (by rw [ep]; omega))) (fun _ z => nomatch z) ?_
  rw [ep]
  show ends _ (exSs Φ _ [.pa (.fz (Pk a b t k os is ps)), .lo (.fz (TI (firstI t k os ps))), .lo (.fz (TI (endsI a b))), .lo (.fz (TI ou)), .lo (.fz (TI (headI k is))), .lo (.fz (TI (headI k is ++ [0, 0] ++ ps))), .lo (.fz (.int (ckI (plainI a b k (headI k is) ps))))]) = _
  refine (es_ret (pv_cat (pv_cat (pv_cat (pv_loc (d := TI ou) rfl) (pv_loc (d := TI (headI k is)) rfl) (by first | omega | (simp only [List.length_append, two_len, ends_len, first_len, List.length_cons, List.length_nil]; omega))) (pv_call1 (pv_loc (d := .int (ckI (plainI a b k (headI k is) ps))) rfl) (C _)) (by first | omega | (simp only [List.length_append, two_len, ends_len, first_len, List.length_cons, List.length_nil]; omega))) (pv_sub (pv_loc rfl) at6) (by first | omega | (simp only [List.length_append, two_len, ends_len, first_len, List.length_cons, List.length_nil]; omega))) (fun _ z => nomatch z)).trans ?_
  rw [show ou ++ headI k is ++ two (ckI (plainI a b k (headI k is) ps)) ++ ps = ou ++ (headI k is ++ two (ckI (plainI a b k (headI k is) ps)) ++ ps) by simp only [List.append_assoc]]
  rfl
theorem inn_len (ok : PkOk a b t k os is ps) : (innI a b k (headI k is) ps).length ≤ 1520 := by
  have l2 := head_len ok
  have l3 := ok.lp
  unfold innI
  split
  · omega
  · first | omega | (simp only [List.length_append, two_len, ends_len, first_len, List.length_cons, List.length_nil]; omega)
theorem row_len (ok : PkOk a b t k os is ps) : (rowI a b t k os is ps).length ≤ 1600 := by
  have l1 := ok.lo
  have l2 := inn_len ok
  unfold rowI outerI
  first | omega | (simp only [List.length_append, two_len, ends_len, first_len, List.length_cons, List.length_nil]; omega)
theorem two_mem {w : Int} (h : 0 ≤ w ∧ w ≤ 65535) : Bt (two w) := two_bt h
theorem row_bt (ok : PkOk a b t k os is ps) : Bt (rowI a b t k os is ps) := by
  have l := plain_len ok
  have h2 := ol_len ok
  refine (((first_bt ok).app (two_bt (ck_mem (ol_bt ok) (by omega)))).app ((ends_bt ok).app ok.so)).app ?_
  unfold innI
  split
  · exact ok.sp
  · exact ((head_bt ok).app (two_bt (ck_mem (plain_bt ok) (by omega)))).app ok.sp
end
end Law


/-! k12, part 5: sums that verify (no program here). -/
namespace Law
open PySem GW
section
/-- the words of a row, told from the left -/
def W2 : List Int → List Int
  | x :: y :: r => (256 * x + y) :: W2 r
  | [x] => [256 * x]
  | [] => []
theorem W_cons (x y : Int) (r : List Int) : W (x :: y :: r) = (256 * x + y) :: W r := by
  unfold W
  rw [show ((x :: y :: r).length + 1) / 2 = (r.length + 1) / 2 + 1 by simp only [List.length_cons]; omega, List.range_succ_eq_map, List.map_cons, List.map_map]
  congr 1
theorem W_eq : ∀ row : List Int, W row = W2 row
  | [] => rfl
  | [x] => by simp [W, wat, W2, List.range_succ]
  | x :: y :: r => by rw [W_cons, W_eq r]; rfl
def sW (row : List Int) : Int := (W row).sum
theorem sW_cons (x y : Int) (r : List Int) : sW (x :: y :: r) = 256 * x + y + sW r := by
  unfold sW; rw [W_cons, List.sum_cons]
theorem sW_nil : sW [] = 0 := rfl
theorem sW_app : ∀ {u v : List Int}, u.length % 2 = 0 → sW (u ++ v) = sW u + sW v
  | [], v, _ => by rw [List.nil_append, sW_nil, Int.zero_add]
  | [x], v, h => by simp at h
  | x :: y :: r, v, h => by
    rw [List.cons_append, List.cons_append, sW_cons, sW_cons, sW_app (u := r) (by simp only [List.length_cons] at h; omega)]
    omega
theorem sW_two (w : Int) : sW (two w) = w := by
  show sW [w / 256, w % 256] = w
  rw [sW_cons, sW_nil]
  omega
theorem two_app (w : Int) (r : List Int) : sW (two w ++ r) = w + sW r := by rw [sW_app (by rw [two_len]), sW_two]
theorem sW_mem : ∀ {row : List Int}, (∀ x ∈ row, 0 ≤ x) → 0 ≤ sW row
  | [], _ => Int.le_refl _
  | [x], h => by
    have := h x List.mem_cons_self
    show 0 ≤ (W [x]).sum
    rw [W_eq]
    show 0 ≤ 256 * x + 0
    omega
  | x :: y :: r, h => by
    have h1 := h x List.mem_cons_self
    have h2 := h y (by simp)
    have h3 := sW_mem (row := r) fun z hz => h z (by simp [hz])
    rw [sW_cons]; omega
/-- a sum with what is missing to 65535 -/
theorem fold_ck {S : Int} (h : 0 < S) : foldI (S + (65535 - foldI S)) = 65535 := by
  unfold foldI
  split <;> split <;> omega
theorem fold_full {S : Int} (h : 0 < S) (z : 65535 - foldI S = 0) : foldI (S + 65535) = 65535 := by
  unfold foldI at z ⊢
  split at z
  · omega
  · split <;> omega
/-- the first address made so that the sum is 0 -/
theorem fold_zero {S a : Int} (h : a < S) (ha : 0 ≤ a) : 65535 - foldI (S - a + foldI (a + (65535 - foldI S))) = 0 := by
  unfold foldI
  split <;> split <;> split <;> omega
/-! ### the rows -/
def ov (a b t k : Int) (os ps : List Int) : Int := sW (firstI t k os ps) + (a + b + sW os)
theorem outer_sum {a b t k : Int} {os ps : List Int} (c : Int) (h : os.length % 2 = 0) : sW (firstI t k os ps ++ two c ++ (endsI a b ++ os)) = ov a b t k os ps + c := by
  unfold ov endsI
  simp only [List.append_assoc]
  rw [sW_app (by rw [first_len]), two_app, two_app, two_app]
  omega
theorem outer_ck {a b t k : Int} {os ps : List Int} (h : os.length % 2 = 0) : ckI (firstI t k os ps ++ [0, 0] ++ (endsI a b ++ os)) = 65535 - foldI (ov a b t k os ps) := by
  unfold ckI
  have := outer_sum (a := a) (b := b) (t := t) (k := k) (ps := ps) 0 h
  rw [show two 0 = [0, 0] from rfl, Int.add_zero] at this
  rw [← this]; rfl
def iv (a b k : Int) (hd ps : List Int) : Int := a + b + k + ((hd.length : Int) + 2 + ps.length) + sW hd + sW ps
def plainC (a b k c : Int) (hd ps : List Int) : List Int := endsI a b ++ two k ++ two ((hd.length : Int) + 2 + ps.length) ++ hd ++ two c ++ ps
theorem plain_sum {a b k : Int} {hd ps : List Int} (c : Int) (h : hd.length % 2 = 0) : sW (plainC a b k c hd ps) = iv a b k hd ps + c := by
  unfold plainC iv endsI
  simp only [List.append_assoc]
  rw [two_app, two_app, two_app, two_app, sW_app h, two_app]
  omega
theorem plain_ck {a b k : Int} {hd ps : List Int} (h : hd.length % 2 = 0) : ckI (plainI a b k hd ps) = 65535 - foldI (iv a b k hd ps) := by
  unfold ckI
  have := plain_sum (a := a) (b := b) (k := k) (ps := ps) 0 h
  rw [Int.add_zero] at this
  rw [← this]; rfl
/-- a row with these sums -/
def innC (k c : Int) (hd ps : List Int) : List Int := if sizI k = 0 then ps else hd ++ two c ++ ps
def rowC (a b t k c1 c2 : Int) (os is ps : List Int) : List Int := firstI t k os ps ++ two c1 ++ (endsI a b ++ os) ++ innC k c2 (headI k is) ps
theorem row_C {a b t k : Int} {os is ps : List Int} : rowI a b t k os is ps = rowC a b t k (ckI (firstI t k os ps ++ [0, 0] ++ (endsI a b ++ os))) (ckI (plainI a b k (headI k is) ps)) os is ps := rfl
/-- a row's sums verify -/
structure Ver (a b t k c1 c2 : Int) (os is ps : List Int) : Prop where
  o : foldI (ov a b t k os ps + c1) = 65535
  i : sizI k ≠ 0 → foldI (iv a b k (headI k is) ps + c2) = 65535
  r1 : 0 ≤ c1 ∧ c1 ≤ 65535
  r2 : 0 ≤ c2 ∧ c2 ≤ 65535
theorem head2 {k : Int} {is : List Int} (h : InhOk k is) : (headI k is).length % 2 = 0 ∧ (sizI k ≠ 0 → ((headI k is).length : Int) + 2 = sizI k) := by
  unfold headI sizI
  by_cases h6 : k = 6
  · subst h6
    exact ⟨by simp [two], fun _ => by simp [two]⟩
  by_cases h17 : k = 17
  · subst h17
    exact ⟨by simp [two], fun _ => by simp [two]⟩
  rw [if_neg h6, if_neg h17, if_neg h6, if_neg h17]
  by_cases h1 : k = 1
  · obtain ⟨i, j, rfl, _⟩ := h.h1 h1
    rw [if_pos h1]
    exact ⟨by simp [two], fun _ => by simp [two]⟩
  · rw [h.h0 h6 h17 h1, if_neg h1]
    exact ⟨rfl, fun z => absurd rfl z⟩
theorem head_pos {k : Int} {is : List Int} (h : InhOk k is) : ∀ x ∈ headI k is, 0 ≤ x := by
  unfold headI
  by_cases h6 : k = 6
  · subst h6
    obtain ⟨i, j, l, rfl, a1, a2, a3⟩ := h.h6 rfl
    intro x hx
    have hx : x ∈ [i / 256, i % 256, j / 256, j % 256, l, 0] := hx
    simp only [List.mem_cons, List.not_mem_nil, or_false] at hx  -- gw
    omega
  by_cases h17 : k = 17
  · subst h17
    obtain ⟨i, j, rfl, a1, a2⟩ := h.h17 rfl
    intro x hx
    have hx : x ∈ [i / 256, i % 256, j / 256, j % 256] := hx
    simp only [List.mem_cons, List.not_mem_nil, or_false] at hx  -- gw
    omega
  rw [if_neg h6, if_neg h17]
  by_cases h1 : k = 1
  · obtain ⟨i, j, rfl, a1, a2⟩ := h.h1 h1
    intro x hx
    simp only [List.mem_cons, List.not_mem_nil, or_false] at hx  -- gw
    omega
  · rw [h.h0 h6 h17 h1]
    exact fun x hx => nomatch hx
section
variable {a b t k m : Int} {os is ps : List Int}
theorem ov_gt (h : PkI a b t k os is ps m) : a + 1 ≤ ov a b t k os ps := by
  have h1 := sW_mem (row := os) fun x hx => (h.so x hx).1
  have h2 := h.hb
  have h3 := h.hk
  have h4 := h.ht
  have e : sW (firstI t k os ps) = 256 * (70 + (os.length : Int) / 2) + k + (lenP k os ps + (256 * t + 0)) := by
    unfold firstI
    rw [List.append_assoc, List.cons_append, List.cons_append, List.nil_append, sW_cons, two_app, sW_cons, sW_nil]
    omega
  have h5 : 0 ≤ lenP k os ps := by
    have := (siz_mem k).1
    unfold lenP; omega
  unfold ov
  omega
theorem iv_gt (h : PkI a b t k os is ps m) : 0 < iv a b k (headI k is) ps := by
  have h1 := sW_mem (row := ps) fun x hx => (h.sp x hx).1
  have h2 := sW_mem (head_pos h.hi)
  have := h.ha; have := h.hb; have := h.hk
  unfold iv
  omega
theorem foldI_rg (x : Int) (h : 0 ≤ x) : 0 ≤ foldI x ∧ foldI x ≤ 65535 := foldI_mem x h
/-- the row as it is made -/
theorem ver_made (h : PkI a b t k os is ps m) : Ver a b t k (ckI (firstI t k os ps ++ [0, 0] ++ (endsI a b ++ os))) (ckI (plainI a b k (headI k is) ps)) os is ps := by
  have h1 := ov_gt h
  have h2 := iv_gt h
  have := h.ha
  have r1 := foldI_rg (ov a b t k os ps) (by omega)
  have r2 := foldI_rg (iv a b k (headI k is) ps) (by omega)
  rw [outer_ck h.l2, plain_ck (head2 h.hi).1]
  exact ⟨fold_ck (by omega), fun _ => fold_ck (by omega), by omega, by omega⟩
def fz (c : Int) : Int := if c = 0 then 65535 else c
/-- .. with 65535 for 0 -/
theorem ver_ff (h : PkI a b t k os is ps m) : Ver a b t k (fz (ckI (firstI t k os ps ++ [0, 0] ++ (endsI a b ++ os)))) (fz (ckI (plainI a b k (headI k is) ps))) os is ps := by
  have v := ver_made h
  have h1 := ov_gt h
  have h2 := iv_gt h
  have := h.ha
  have v1 := v.o; have v2 := v.i; have r1 := v.r1; have r2 := v.r2
  have e1 := outer_ck (a := a) (b := b) (t := t) (k := k) (ps := ps) h.l2
  have e2 := plain_ck (a := a) (b := b) (k := k) (ps := ps) (head2 h.hi).1
  generalize ckI (firstI t k os ps ++ [0, 0] ++ (endsI a b ++ os)) = c1 at *
  generalize ckI (plainI a b k (headI k is) ps) = c2 at *
  refine ⟨?_, fun z => ?_, by unfold fz; split <;> omega, by unfold fz; split <;> omega⟩
  · unfold fz
    split
    · rename_i z
      exact fold_full (by omega) (by rw [← e1]; exact z)
    · exact v1
  · unfold fz
    split
    · rename_i y
      exact fold_full (by omega) (by rw [← e2]; exact y)
    · exact v2 z
/-- the address changed so that the sum is 0 -/
theorem ck_zero (h : PkI a b t k os is ps m) (is2 : List Int) : ckI (firstI t k os ps ++ [0, 0] ++ (endsI (foldI (a + ckI (firstI t k os ps ++ [0, 0] ++ (endsI a b ++ os)))) b ++ os)) = 0 := by
  rw [outer_ck h.l2, outer_ck h.l2]
  have h1 := ov_gt h
  have := h.ha
  have e : ∀ a', ov a' b t k os ps = ov a b t k os ps - a + a' := fun a' => by unfold ov; omega
  rw [e]
  exact fold_zero (by omega) (by omega)
end
end
end Law


/-! k12, part 6: reading a row. -/
namespace Law
open PySem GW
section
variable {Φ : Nat → List O → CR} {N : Fm → Prop} {R : O → Fm → Prop} {B C : Fm → Prop}
local macro_rules | `(tactic| walk_at "bin") => `(tactic| first | rfl | exact bin_mul (wee_r (by decide)) | exact bin_mul (wee_l (by decide)) | exact bin_div (by decide) | exact bin_mod (by decide) | exact bin_mod (by omega) | exact bin_div (by omega) | exact bin_mul (wee_r (by omega)) | exact bin_mul (wee_l (by omega)) | exact bin_cat (by simp only [List.length_append, List.length_cons, List.length_nil, List.length_map]; omega) | exact bin_catL (by simp only [List.length_append, List.length_cons, List.length_nil, List.length_map]; omega))
local macro_rules | `(tactic| walk_at "cmp") => `(tactic| first | exact ne_str _ | exact cmp_eqI _ _ | exact cmp_neI _ _ | rfl | exact ne_refl rfl rfl (by assumption) | exact eq_refl rfl rfl (by assumption))
local macro_rules | `(tactic| walk_at "pv") => `(tactic| first | with_reducible exact pv_con | ((with_reducible apply pv_loc); rfl) | with_reducible exact pv_glo | ((with_reducible apply pv_bin); walk_at "pv"; walk_at "pv"; walk_at "bin") | ((with_reducible apply pv_cmp); walk_at "pv"; walk_at "pv"; walk_at "cmp") | ((with_reducible apply pv_cmp2); walk_at "pv"; walk_at "pv"; walk_at "pv"; walk_at "cmp"; walk_at "cmp") | ((with_reducible apply pv_sel); walk_at "pv"; walk_at "pv"; first | rfl | assumption) | ((with_reducible apply pv_tup); walk_at "pvs") | ((with_reducible apply pv_not); walk_at "pv") | ((with_reducible apply pv_and); walk_at "pv"; intro _; walk_at "pv") | ((with_reducible apply pv_or); walk_at "pv"; intro _; walk_at "pv") | ((with_reducible apply pv_neg); walk_at "pv") | ((with_reducible apply pv_isi); walk_at "pv"; rfl) | ((with_reducible apply pv_isN); walk_at "pv") | ((with_reducible apply pv_bi1); walk_at "pv"; first | rfl | exact bi_repr (by assumption)) | ((with_reducible apply pv_bi2); walk_at "pv"; walk_at "pv"; rfl) | ((with_reducible apply pv_call); walk_at "pas"; walk_at "told"))
local macro_rules | `(tactic| walk_at "pvs") => `(tactic| first | with_reducible exact pvs_nil | ((with_reducible apply pvs_cons); walk_at "pv"; walk_at "pvs"))
local macro_rules | `(tactic| walk_at "pas") => `(tactic| first | with_reducible exact pas_nil | ((with_reducible apply pas_cons); walk_at "pv"; walk_at "pas"))
local macro_rules | `(tactic| walk_at "told") => `(tactic| assumption)
local macro_rules | `(tactic| walk_at "wp") => `(tactic| first | ((with_reducible apply w_dpvs); (walk_at "pvs")) | ((with_reducible refine w_dcons ?_); walk_at "wp") | with_reducible refine w_dnil ?_ | ((with_reducible apply w_frzP); (walk_at "pv")) | ((with_reducible refine w_frz ?_); walk_at "wp") | ((with_reducible apply w_tst); (walk_at "pv")) | ((with_reducible apply w_pv); (walk_at "pv")) | ((with_reducible apply w_locL); rfl) | ((with_reducible apply w_prepL); (rfl)) | ((with_reducible refine w_prepE ?_ ?_); exact hn_of rfl; walk_at "wp") | ((with_reducible refine w_tstE ?_ ?_); exact hn_of rfl; walk_at "wp") | ((with_reducible refine w_acons ?_); walk_at "wp") | with_reducible refine w_anil ?_ | ((with_reducible refine w_tup ?_); walk_at "wp") | ((with_reducible refine w_lst ?_); walk_at "wp") | ((with_reducible refine w_call ?_); walk_at "wp") | ((with_reducible refine w_bin ?_); walk_at "wp") | ((with_reducible refine w_cmp ?_); walk_at "wp") | ((with_reducible refine w_sub ?_); walk_at "wp") | ((with_reducible refine w_bi ?_); walk_at "wp") | ((with_reducible refine w_and ?_); walk_at "wp") | ((with_reducible refine w_or ?_); walk_at "wp") | ((with_reducible refine w_not ?_); walk_at "wp") | ((with_reducible refine w_ife ?_); walk_at "wp") | ((with_reducible refine w_slc ?_); walk_at "wp") | ((with_reducible refine w_sset ?_); walk_at "wp") | ((with_reducible refine w_lset ?_); walk_at "wp") | ((with_reducible refine w_rev ?_); walk_at "wp") | ((with_reducible refine w_idx ?_); walk_at "wp") | ((with_reducible apply w_fidx); assumption; walk_at "wp") | ((with_reducible refine w_cmp2 ?_); walk_at "wp") | ((with_reducible refine w_isN ?_); walk_at "wp") | ((with_reducible refine w_notN ?_); walk_at "wp") | ((with_reducible refine w_isi ?_); walk_at "wp") | with_reducible refine w_ono ?_ | ((with_reducible refine w_oso ?_); walk_at "wp") | ((with_reducible refine w_ival ?_); walk_at "wp") | ((with_reducible apply w_ilok); (rfl)) | ((with_reducible refine w_irng1 ?_); walk_at "wp") | ((with_reducible refine w_irng2 ?_); walk_at "wp") | with_reducible refine w_con ?_ | ((with_reducible refine w_cso ?_); walk_at "wp") | ((with_reducible refine w_lc ?_); walk_at "wp") | ((with_reducible apply w_told); assumption) | walk_at "ex")
local macro_rules | `(tactic| walk_at "nf") => `(tactic| dsimp only [loS, unS, putO, back, kill, hide, unhide, shown, Sl.put, Sl.get, rd, List.set_cons_zero, List.set_cons_succ, List.getElem?_cons_zero, List.getElem?_cons_succ, Option.bind_some, toD_fz, toD_ls])
local macro_rules | `(tactic| walk_at "draw") => `(tactic| (refine w_draw (by assumption) (by omega) (by omega) (fun r y hr0 hr1 => ?_)))
local macro_rules | `(tactic| walk_at "run") => `(tactic| repeat walk_at "wp")
local macro_rules | `(tactic| walk_at "ex") => `(tactic| first | ((with_reducible apply Exists.intro); walk_at "ex2") | ((with_reducible apply And.intro); (focus walk_at "cls"); walk_at "ex2"))
local macro_rules | `(tactic| walk_at "ex2") => `(tactic| first | ((with_reducible apply Exists.intro); walk_at "ex2") | ((with_reducible apply And.intro); (focus walk_at "cls"); walk_at "ex2") | skip)
local macro_rules | `(tactic| walk_at "cls") => `(tactic| first | with_reducible exact rngOk_of (by omega) | rfl | walk_at "bin" | walk_at "cmp" | exact rngOk_of (by omega) | exact nodc_fz | exact nodc_ls | exact bi_repr (by assumption) | assumption)
local macro_rules | `(tactic| walk_at "st") => `(tactic| first | (with_reducible refine w_asg ?_) | (with_reducible refine w_asgT ?_) | (with_reducible refine w_if ?_) | (with_reducible refine w_kil ?_) | (with_reducible apply w_nil (N := fun ρ => SR.sat (exSs _ _ ρ) _ _ _ _)) | ((with_reducible apply w_retL); rfl) | ((with_reducible apply w_retO); rfl) | ((with_reducible refine w_ret ?_ ?_); exact hn_of rfl) | ((with_reducible apply w_app); rfl) | (with_reducible refine w_seti ?_) | ((with_reducible apply w_aug); rfl) | (with_reducible refine w_fr ?_) | (with_reducible refine w_exp ?_) | (with_reducible refine w_retn ?_) | (with_reducible refine w_step ?_) | (with_reducible refine w_wh ?_) | ((with_reducible apply w_ext); exact hn_of rfl; rfl) | (with_reducible refine w_cnt ?_) | (with_reducible refine w_brk ?_))
local macro_rules | `(tactic| walk_at "go") => `(tactic| repeat (first | walk_at "wp" | walk_at "nf" | walk_at "st" | walk_at "br"))
local macro_rules | `(tactic| walk_at "br") => `(tactic| first | ((with_reducible apply br_tt); (focus first | assumption | decide)) | ((with_reducible apply br_ff); (focus first | assumption | decide)) | ((with_reducible apply br_ft); (focus first | assumption | decide)) | ((with_reducible apply br_tf); (focus first | assumption | decide)))

theorem atI_nat {α : Type} {xs : List α} {k : Nat} {v : α} (h : xs[k]? = some v) : L2.atI xs (k : Int) = some v := by
  have hl : k < xs.length := (List.getElem?_eq_some_iff.mp h).1
  unfold L2.atI L2.ixN
  rw [if_pos (by omega), if_pos (by omega)]  -- gw
  exact h
theorem cut_take {xs : List PyData} {m : Nat} : cutL xs none (some (m : Int)) = xs.take m := by
  unfold cutL
  rw [HT.sIx_nat, HT.sIx_none, Nat.sub_zero, List.drop_zero]
  by_cases h : m ≤ xs.length
  · rw [Nat.min_eq_left h]
  · rw [Nat.min_eq_right (by omega), List.take_length, List.take_of_length_le (by omega)]
theorem cut_drop {xs : List PyData} {m : Nat} : cutL xs (some (m : Int)) none = xs.drop m := by
  unfold cutL
  rw [HT.sIx_nat, HT.sIx_none]
  by_cases h : m ≤ xs.length
  · rw [Nat.min_eq_left h]
    exact List.take_of_length_le (by rw [List.length_drop]; omega)  -- gw
  · rw [Nat.min_eq_right (by omega), List.drop_length, List.drop_eq_nil_of_le (by omega), List.take_nil]
theorem cut_mid {xs : List PyData} {m k : Nat} (h1 : m ≤ k) (h2 : k ≤ xs.length) : cutL xs (some (m : Int)) (some (k : Int)) = (xs.drop m).take (k - m) := by
  unfold cutL
  rw [HT.sIx_nat, HT.sIx_nat, Nat.min_eq_left h2, Nat.min_eq_left (by omega)]
/-- what a row's reading rests on -/
structure Rs (Φ : Nat → List O → CR) : Prop where
  wrd : ∀ row : List Int, row.length ≤ 1900 → Φ Fwords_of [.fz (TI row)] = .ok (.ls ((W row).map PyData.int)) [none]
  fol : ∀ ws : List Int, Φ Ffolded [.ls (ws.map PyData.int)] = .ok (.fz (.int (foldI ws.sum))) [some (.ls (ws.map PyData.int))]
  siz : SzF Φ Finner_size
  two : TwoF Φ Ftwo
def NaF (Φ : Nat → List O → CR) (f : Nat) : Prop := ∀ (row : List Int) (i : Nat) (u v : Int), row[i]? = some u → row[i + 1]? = some v → Φ f [.fz (TI row), .fz (.int (i : Nat))] = .ok (.fz (.int (256 * u + v))) [none, none]
theorem map_at {row : List Int} {i : Nat} {u : Int} (h : row[i]? = some u) : (row.map PyData.int)[i]? = some (.int u) := by rw [List.getElem?_map, h]; rfl
theorem na_at (row : List Int) (i : Nat) (u v : Int) (h1 : row[i]? = some u) (h2 : row[i + 1]? = some v) : (exSs Φ Bnumber_at [.pa (.fz (TI row)), .pa (.fz (.int (i : Nat)))]).sat (fun _ => False) (fun o ρ => Is (o = .fz (.int (256 * u + v)) ∧ ρ = [.pa (.fz (TI row)), .pa (.fz (.int (i : Nat)))])) (fun _ => False) fun _ => False := by
  have i1 : ixF (.fz (TI row)) (.fz (.int (i : Nat))) = some (.int u) := atI_nat (map_at h1)
  have i2 : ixF (.fz (TI row)) (.fz (.int ((i : Nat) + 1 : Int))) = some (.int v) := atI_nat (k := i + 1) (map_at h2)
  unfold Bnumber_at
  walk_at "go"
  exact Is.mk ⟨rfl, rfl⟩
/-! ### outer_fault -/
abbrev rX (x0 k lh ll t ch cl ah al bh bl : Int) (r : List Int) : List Int := x0 :: k :: lh :: ll :: t :: 0 :: ch :: cl :: ah :: al :: bh :: bl :: r
theorem of_at (F : Rs Φ) (NA : NaF Φ Fnumber_at) (x0 k lh ll t ch cl ah al bh bl : Int) (os inn : List Int) (h0 : 70 ≤ x0 ∧ x0 ≤ 74) (ho : (os.length : Int) = 2 * (x0 - 64) - 12) (hL : 256 * lh + ll = 12 + os.length + inn.length) (hm : 12 + os.length + inn.length ≤ 1500)
    (hs : foldI (sW (rX x0 k lh ll t ch cl ah al bh bl os)) = 65535) (ht : decide (t = 0) = false) :
    (exSs Φ Bouter_fault [.pa (.fz (TI (rX x0 k lh ll t ch cl ah al bh bl (os ++ inn)))), .un]).sat (fun _ => False) (fun o ρ => Is (o = .fz (.str "") ∧ ∃ s, ρ = [.pa (.fz (TI (rX x0 k lh ll t ch cl ah al bh bl (os ++ inn)))), s])) (fun _ => False) fun _ => False := by
  have hlen : (((rX x0 k lh ll t ch cl ah al bh bl (os ++ inn)).map PyData.int).length : Int) = 12 + os.length + inn.length := by
    simp only [List.length_map, List.length_cons, List.length_append]; omega
  have nb := NA (rX x0 k lh ll t ch cl ah al bh bl (os ++ inn)) 2 lh ll rfl rfl
  have g0 : ixF (.fz (TI (rX x0 k lh ll t ch cl ah al bh bl (os ++ inn)))) (.fz (.int 0)) = some (.int x0) := atI_nat (k := 0) rfl
  have g4 : ixF (.fz (TI (rX x0 k lh ll t ch cl ah al bh bl (os ++ inn)))) (.fz (.int 4)) = some (.int t) := atI_nat (k := 4) rfl
  have g5 : ixF (.fz (TI (rX x0 k lh ll t ch cl ah al bh bl (os ++ inn)))) (.fz (.int 5)) = some (.int 0) := atI_nat (k := 5) rfl
  have hc : cutL ((rX x0 k lh ll t ch cl ah al bh bl (os ++ inn)).map PyData.int) none (some (2 * (x0 - 64))) = (rX x0 k lh ll t ch cl ah al bh bl os).map PyData.int := by
    rw [show 2 * (x0 - 64) = ((12 + os.length : Nat) : Int) by omega, cut_take, ← List.map_take]
    congr 1
    show List.take (12 + os.length) (rX x0 k lh ll t ch cl ah al bh bl (os ++ inn)) = _
    rw [Nat.add_comm]
    show x0 :: k :: lh :: ll :: t :: 0 :: ch :: cl :: ah :: al :: bh :: bl :: List.take os.length (os ++ inn) = _
    rw [List.take_left' rfl]
  have e1 := F.wrd (rX x0 k lh ll t ch cl ah al bh bl os) (by simp only [List.length_cons]; omega)
  have e2 := F.fol (W (rX x0 k lh ll t ch cl ah al bh bl os))
  rw [show (W (rX x0 k lh ll t ch cl ah al bh bl os)).sum = sW (rX x0 k lh ll t ch cl ah al bh bl os) from rfl, hs] at e2
  rw [show TI (rX x0 k lh ll t ch cl ah al bh bl os) = .tuple (cutL ((rX x0 k lh ll t ch cl ah al bh bl (os ++ inn)).map PyData.int) none (some (2 * (x0 - 64)))) by rw [hc]] at e1
  have ln : ∀ s1, PV Φ (.bi .len (.cons (.loc 0) .nil)) [.pa (.fz (TI (rX x0 k lh ll t ch cl ah al bh bl (os ++ inn)))), s1] (.int (12 + os.length + inn.length)) := fun s1 => by
    rw [← hlen]; exact pv_lenD (pv_loc rfl)
  have x0v : ∀ s1, PV Φ (.sub (.loc 0) (.con (.int 0))) [.pa (.fz (TI (rX x0 k lh ll t ch cl ah al bh bl (os ++ inn)))), s1] (.int x0) := fun s1 => pv_sel (pv_loc rfl) pv_con g0
  generalize rX x0 k lh ll t ch cl ah al bh bl (os ++ inn) = row at *
  unfold Bouter_fault
  refine w_if0 (w_tst (pv_ltI (ln _) pv_con) ⟨decide_eq_false (by omega), w_nil ?_⟩)
  refine w_if0 (w_tst (pv_not (pv_cmp2 pv_con (x0v _) pv_con rfl rfl)) ⟨by rw [decide_eq_true h0.1, decide_eq_true h0.2]; rfl, w_nil ?_⟩)
  refine w_if0 (w_tst (pv_or (c := !decide (256 * lh + ll = 12 + (os.length : Int) + inn.length)) (d := decide (1500 < 12 + (os.length : Int) + inn.length)) (pv_neI (pv_call2 (pv_loc rfl) pv_con nb) (ln _)) fun _ => pv_gtI (ln _) (pv_glo (d := .int 1500))) ⟨by rw [decide_eq_true hL, decide_eq_false (by omega)]; rfl, w_nil ?_⟩)
  have n1 : decide (((row.map PyData.int).length : Int) < 2 * (x0 - 64)) = false := decide_eq_false (by omega)
  walk_at "go"
  exact Is.mk ⟨rfl, _, rfl⟩
theorem pv_cat {a b : IE} {u v : List Int} {ρ : Fm} (ha : PV Φ a ρ (TI u)) (hb : PV Φ b ρ (TI v)) (h : u.length + v.length ≤ 16777216) : PV Φ (.bin .add a b) ρ (TI (u ++ v)) := by
  refine pv_bin ha hb ?_
  rw [bin_cat (by rw [List.length_map, List.length_map]; exact h), ← List.map_append]
/-! ### inner_fault -/
theorem if_at (F : Rs Φ) (row rest : List Int) (a b k : Int) (hr : rest.length ≤ 1500) (h812 : cutL (row.map PyData.int) (some 8) (some 12) = (endsI a b).map PyData.int) (hsz : sizI k ≤ rest.length) (hk : k = 6 → ∃ u : Int, u ≤ 7 ∧ rest[4]? = some u ∧ rest[5]? = some 0)
    (hs : 0 < sizI k → foldI (sW (endsI a b ++ two k ++ two rest.length ++ rest)) = 65535) :
    (exSs Φ Binner_fault [.pa (.fz (TI row)), .pa (.fz (.int k)), .pa (.fz (TI rest)), .un]).sat (fun _ => False) (fun o ρ => Is (o = .fz (.str "") ∧ ∃ s, ρ = [.pa (.fz (TI row)), .pa (.fz (.int k)), .pa (.fz (TI rest)), s])) (fun _ => False) fun _ => False := by
  have hz := F.siz k
  have ht1 := F.two k
  have ht2 := F.two rest.length
  have hl : ((rest.map PyData.int).length : Int) = rest.length := by rw [List.length_map]
  unfold Binner_fault
  refine w_if0 (w_tst (pv_ltI (pv_lenD (pv_loc rfl)) (pv_call1 (pv_loc rfl) hz)) ⟨decide_eq_false (by omega), w_nil ?_⟩)
  have c6 : ∀ s, PV Φ (.and (.cmp .eq (.loc 1) (.glo "STREAM" GSTREAM)) (.or (.cmp .gt (.sub (.loc 2) (.con (.int 4))) (.con (.int 7))) (.cmp .ne (.sub (.loc 2) (.con (.int 5))) (.con (.int 0))))) [.pa (.fz (TI row)), .pa (.fz (.int k)), .pa (.fz (TI rest)), s] (.bool false) := fun s => by
    by_cases h6 : k = 6
    · obtain ⟨u, h7, h4, h5⟩ := hk h6
      have g4 : ixF (.fz (TI rest)) (.fz (.int 4)) = some (.int u) := atI_nat (k := 4) (map_at h4)
      have g5 : ixF (.fz (TI rest)) (.fz (.int 5)) = some (.int 0) := atI_nat (k := 5) (map_at h5)
      have p : PV Φ (.and (.cmp .eq (.loc 1) (.glo "STREAM" GSTREAM)) (.or (.cmp .gt (.sub (.loc 2) (.con (.int 4))) (.con (.int 7))) (.cmp .ne (.sub (.loc 2) (.con (.int 5))) (.con (.int 0))))) [.pa (.fz (TI row)), .pa (.fz (.int k)), .pa (.fz (TI rest)), s] (.bool (decide (k = 6) && (decide (7 < u) || !decide ((0 : Int) = 0)))) := pv_and (pv_eqI (pv_loc rfl) (pv_glo (d := .int 6))) fun _ => pv_or (pv_gtI (pv_sel (pv_loc rfl) pv_con g4) pv_con) fun _ => pv_neI (pv_sel (pv_loc rfl) pv_con g5) pv_con
      rw [decide_eq_false (show ¬ 7 < u by omega)] at p
      rwa [show (decide (k = 6) && (false || !decide ((0 : Int) = 0))) = false by simp] at p
    · have p : PV Φ (.and (.cmp .eq (.loc 1) (.glo "STREAM" GSTREAM)) (.or (.cmp .gt (.sub (.loc 2) (.con (.int 4))) (.con (.int 7))) (.cmp .ne (.sub (.loc 2) (.con (.int 5))) (.con (.int 0))))) [.pa (.fz (TI row)), .pa (.fz (.int k)), .pa (.fz (TI rest)), s] (.bool (decide (k = 6) && false)) := pv_and (pv_eqI (pv_loc rfl) (pv_glo (d := .int 6))) fun h => absurd (of_decide_eq_true h) h6
      rwa [Bool.and_false] at p
  refine w_if0 (w_tst (c6 _) ⟨rfl, w_nil ?_⟩)
  by_cases h0 : 0 < sizI k
  · have d0 : decide (0 < sizI k) = true := decide_eq_true h0
    have e1 := F.wrd (endsI a b ++ two k ++ two rest.length ++ rest) (by simp only [List.length_append, two_len, ends_len]; omega)
    have e2 := F.fol (W (endsI a b ++ two k ++ two rest.length ++ rest))
    rw [show (W (endsI a b ++ two k ++ two rest.length ++ rest)).sum = sW (endsI a b ++ two k ++ two rest.length ++ rest) from rfl, hs h0] at e2
    have l4 := ends_len a b
    have l2 := two_len k
    have l3 := two_len (rest.length : Int)
    have p : ∀ s, PV Φ (.bin .add (.bin .add (.bin .add (.slc (.loc 0) (.so (.con (.int 8))) (.so (.con (.int 12)))) (.call Ftwo (.cons (.loc 1) .nil))) (.call Ftwo (.cons (.bi .len (.cons (.loc 2) .nil)) .nil))) (.loc 2)) [.pa (.fz (TI row)), .pa (.fz (.int k)), .pa (.fz (TI rest)), s] (TI (endsI a b ++ two k ++ two rest.length ++ rest)) := fun s => by
      have p0 := pv_slcB (Φ := Φ) (ρ := [.pa (.fz (TI row)), .pa (.fz (.int k)), .pa (.fz (TI rest)), s]) (a := .loc 0) (n := 8) (m := 12) (pv_loc (d := TI row) rfl)
      rw [h812] at p0
      have pl := pv_lenD (Φ := Φ) (ρ := [.pa (.fz (TI row)), .pa (.fz (.int k)), .pa (.fz (TI rest)), s]) (a := .loc 2) (pv_loc (d := TI rest) rfl)
      rw [hl] at pl
      exact pv_cat (pv_cat (pv_cat p0 (pv_call1 (pv_loc rfl) ht1) (by omega)) (pv_call1 pl ht2) (by rw [List.length_append]; omega)) (pv_loc rfl) (by rw [List.length_append, List.length_append]; omega)
    refine w_if1 (w_tst (pv_gtI (pv_call1 (pv_loc rfl) hz) pv_con) ⟨d0, ?_⟩)
    refine w_asg (w_pv (p _) ?_)
    generalize endsI a b ++ two k ++ two rest.length ++ rest = pln at *
    walk_at "go"
    exact Is.mk ⟨rfl, _, rfl⟩
  · have d0 : decide (0 < sizI k) = false := decide_eq_false h0
    refine w_if0 (w_tst (pv_gtI (pv_call1 (pv_loc rfl) hz) pv_con) ⟨d0, w_nil ?_⟩)
    walk_at "go"
    exact Is.mk ⟨rfl, _, rfl⟩
/-! ### read_inner -/
theorem ri_at (NA : NaF Φ Fnumber_at) (k : Int) (is tl : List Int) (hi : InhOk k is) :
    (exSs Φ Bread_inner [.pa (.fz (.int k)), .pa (.fz (TI (headI k is ++ tl)))]).sat (fun _ => False) (fun o ρ => Is (o = .fz (TI is) ∧ ρ = [.pa (.fz (.int k)), .pa (.fz (TI (headI k is ++ tl)))])) (fun _ => False) fun _ => False := by
  have e : ∀ x : Int, 256 * (x / 256) + x % 256 = x := fun x => by omega
  unfold Bread_inner
  by_cases h6 : k = 6
  · subst h6
    obtain ⟨i, j, l, rfl, _⟩ := hi.h6 rfl
    have hh : headI 6 [i, j, l] ++ tl = i / 256 :: i % 256 :: j / 256 :: j % 256 :: l :: 0 :: tl := rfl
    rw [hh]
    have n0 := NA (i / 256 :: i % 256 :: j / 256 :: j % 256 :: l :: 0 :: tl) 0 _ _ rfl rfl
    have n2 := NA (i / 256 :: i % 256 :: j / 256 :: j % 256 :: l :: 0 :: tl) 2 _ _ rfl rfl
    rw [e] at n0 n2
    have g4 : ixF (.fz (TI (i / 256 :: i % 256 :: j / 256 :: j % 256 :: l :: 0 :: tl))) (.fz (.int 4)) = some (.int l) := atI_nat (k := 4) rfl
    have d1 : decide ((6 : Int) = 6) = true := rfl
    generalize i / 256 :: i % 256 :: j / 256 :: j % 256 :: l :: 0 :: tl = rest at *
    refine w_if1 (w_tst (pv_eqI (pv_loc rfl) (pv_glo (d := .int 6))) ⟨d1, w_ret (fun _ z => nomatch z) (w_pv (pv_tup (pvs_cons (pv_call2 (pv_loc rfl) pv_con n0) (pvs_cons (pv_call2 (pv_loc rfl) pv_con n2) (pvs_cons (pv_sel (pv_loc rfl) pv_con g4) pvs_nil)))) ?_)⟩)
    exact Is.mk ⟨rfl, rfl⟩
  refine w_if0 (w_tst (pv_eqI (pv_loc rfl) (pv_glo (d := .int 6))) ⟨decide_eq_false h6, w_nil ?_⟩)
  by_cases h17 : k = 17
  · subst h17
    obtain ⟨i, j, rfl, _⟩ := hi.h17 rfl
    have hh : headI 17 [i, j] ++ tl = i / 256 :: i % 256 :: j / 256 :: j % 256 :: tl := rfl
    rw [hh]
    have n0 := NA (i / 256 :: i % 256 :: j / 256 :: j % 256 :: tl) 0 _ _ rfl rfl
    have n2 := NA (i / 256 :: i % 256 :: j / 256 :: j % 256 :: tl) 2 _ _ rfl rfl
    rw [e] at n0 n2
    generalize i / 256 :: i % 256 :: j / 256 :: j % 256 :: tl = rest at *
    refine w_if1 (w_tst (pv_eqI (pv_loc rfl) (pv_glo (d := .int 17))) ⟨rfl, w_ret (fun _ z => nomatch z) (w_pv (pv_tup (pvs_cons (pv_call2 (pv_loc rfl) pv_con n0) (pvs_cons (pv_call2 (pv_loc rfl) pv_con n2) pvs_nil))) ?_)⟩)
    exact Is.mk ⟨rfl, rfl⟩
  refine w_if0 (w_tst (pv_eqI (pv_loc rfl) (pv_glo (d := .int 17))) ⟨decide_eq_false h17, w_nil ?_⟩)
  by_cases h1 : k = 1
  · subst h1
    obtain ⟨i, j, rfl, _⟩ := hi.h1 rfl
    have hh : headI 1 [i, j] ++ tl = i :: j :: tl := rfl
    rw [hh]
    have p := pv_slcH (Φ := Φ) (ρ := [.pa (.fz (.int 1)), .pa (.fz (TI (i :: j :: tl)))]) (a := .loc 1) (n := 2) (pv_loc (d := TI (i :: j :: tl)) rfl)
    rw [show cutL ((i :: j :: tl).map PyData.int) none (some 2) = [i, j].map PyData.int from cut_take (m := 2)] at p
    have q := pv_eqI (Φ := Φ) (ρ := [.pa (.fz (.int 1)), .pa (.fz (TI (i :: j :: tl)))]) (a := .loc 0) (b := .glo "NOTE" GNOTE) (pv_loc (d := .int 1) rfl) (pv_glo (d := .int 1))
    rw [decide_eq_true rfl] at q
    refine w_ret (fun _ z => nomatch z) (w_pv (pv_ifeT q p) ?_)
    exact Is.mk ⟨rfl, rfl⟩
  · rw [hi.h0 h6 h17 h1]
    have q := pv_eqI (Φ := Φ) (ρ := [.pa (.fz (.int k)), .pa (.fz (TI (headI k [] ++ tl)))]) (a := .loc 0) (b := .glo "NOTE" GNOTE) (pv_loc (d := .int k) rfl) (pv_glo (d := .int 1))
    rw [decide_eq_false h1] at q
    refine w_ret (fun _ z => nomatch z) (w_pv (pv_ifeF q (pv_tup pvs_nil)) ?_)
    exact Is.mk ⟨rfl, rfl⟩
end
end Law


/-! k12, part 7: a row that verifies is read as the packet it was made of. -/
namespace Law
open PySem GW
section
variable {Φ : Nat → List O → CR} {N : Fm → Prop} {R : O → Fm → Prop} {B C : Fm → Prop}
local macro_rules | `(tactic| walk_at "bin") => `(tactic| first | rfl | exact bin_mul (wee_r (by decide)) | exact bin_mul (wee_l (by decide)) | exact bin_div (by decide) | exact bin_mod (by decide) | exact bin_mod (by omega) | exact bin_div (by omega) | exact bin_mul (wee_r (by omega)) | exact bin_mul (wee_l (by omega)) | exact bin_cat (by simp only [List.length_append, List.length_cons, List.length_nil, List.length_map]; omega) | exact bin_catL (by simp only [List.length_append, List.length_cons, List.length_nil, List.length_map]; omega))
local macro_rules | `(tactic| walk_at "cmp") => `(tactic| first | exact ne_str _ | exact cmp_eqI _ _ | exact cmp_neI _ _ | rfl | exact ne_refl rfl rfl (by assumption) | exact eq_refl rfl rfl (by assumption))
local macro_rules | `(tactic| walk_at "pv") => `(tactic| first | with_reducible exact pv_con | ((with_reducible apply pv_loc); rfl) | with_reducible exact pv_glo | ((with_reducible apply pv_bin); walk_at "pv"; walk_at "pv"; walk_at "bin") | ((with_reducible apply pv_cmp); walk_at "pv"; walk_at "pv"; walk_at "cmp") | ((with_reducible apply pv_cmp2); walk_at "pv"; walk_at "pv"; walk_at "pv"; walk_at "cmp"; walk_at "cmp") | ((with_reducible apply pv_sel); walk_at "pv"; walk_at "pv"; first | rfl | assumption) | ((with_reducible apply pv_tup); walk_at "pvs") | ((with_reducible apply pv_not); walk_at "pv") | ((with_reducible apply pv_and); walk_at "pv"; intro _; walk_at "pv") | ((with_reducible apply pv_or); walk_at "pv"; intro _; walk_at "pv") | ((with_reducible apply pv_neg); walk_at "pv") | ((with_reducible apply pv_isi); walk_at "pv"; rfl) | ((with_reducible apply pv_isN); walk_at "pv") | ((with_reducible apply pv_bi1); walk_at "pv"; first | rfl | exact bi_repr (by assumption)) | ((with_reducible apply pv_bi2); walk_at "pv"; walk_at "pv"; rfl) | ((with_reducible apply pv_call); walk_at "pas"; walk_at "told"))
local macro_rules | `(tactic| walk_at "pvs") => `(tactic| first | with_reducible exact pvs_nil | ((with_reducible apply pvs_cons); walk_at "pv"; walk_at "pvs"))
local macro_rules | `(tactic| walk_at "pas") => `(tactic| first | with_reducible exact pas_nil | ((with_reducible apply pas_cons); walk_at "pv"; walk_at "pas"))
local macro_rules | `(tactic| walk_at "told") => `(tactic| assumption)
local macro_rules | `(tactic| walk_at "wp") => `(tactic| first | ((with_reducible apply w_dpvs); (walk_at "pvs")) | ((with_reducible refine w_dcons ?_); walk_at "wp") | with_reducible refine w_dnil ?_ | ((with_reducible apply w_frzP); (walk_at "pv")) | ((with_reducible refine w_frz ?_); walk_at "wp") | ((with_reducible apply w_tst); (walk_at "pv")) | ((with_reducible apply w_pv); (walk_at "pv")) | ((with_reducible apply w_locL); rfl) | ((with_reducible apply w_prepL); (rfl)) | ((with_reducible refine w_prepE ?_ ?_); exact hn_of rfl; walk_at "wp") | ((with_reducible refine w_tstE ?_ ?_); exact hn_of rfl; walk_at "wp") | ((with_reducible refine w_acons ?_); walk_at "wp") | with_reducible refine w_anil ?_ | ((with_reducible refine w_tup ?_); walk_at "wp") | ((with_reducible refine w_lst ?_); walk_at "wp") | ((with_reducible refine w_call ?_); walk_at "wp") | ((with_reducible refine w_bin ?_); walk_at "wp") | ((with_reducible refine w_cmp ?_); walk_at "wp") | ((with_reducible refine w_sub ?_); walk_at "wp") | ((with_reducible refine w_bi ?_); walk_at "wp") | ((with_reducible refine w_and ?_); walk_at "wp") | ((with_reducible refine w_or ?_); walk_at "wp") | ((with_reducible refine w_not ?_); walk_at "wp") | ((with_reducible refine w_ife ?_); walk_at "wp") | ((with_reducible refine w_slc ?_); walk_at "wp") | ((with_reducible refine w_sset ?_); walk_at "wp") | ((with_reducible refine w_lset ?_); walk_at "wp") | ((with_reducible refine w_rev ?_); walk_at "wp") | ((with_reducible refine w_idx ?_); walk_at "wp") | ((with_reducible apply w_fidx); assumption; walk_at "wp") | ((with_reducible refine w_cmp2 ?_); walk_at "wp") | ((with_reducible refine w_isN ?_); walk_at "wp") | ((with_reducible refine w_notN ?_); walk_at "wp") | ((with_reducible refine w_isi ?_); walk_at "wp") | with_reducible refine w_ono ?_ | ((with_reducible refine w_oso ?_); walk_at "wp") | ((with_reducible refine w_ival ?_); walk_at "wp") | ((with_reducible apply w_ilok); (rfl)) | ((with_reducible refine w_irng1 ?_); walk_at "wp") | ((with_reducible refine w_irng2 ?_); walk_at "wp") | with_reducible refine w_con ?_ | ((with_reducible refine w_cso ?_); walk_at "wp") | ((with_reducible refine w_lc ?_); walk_at "wp") | ((with_reducible apply w_told); assumption) | walk_at "ex")
local macro_rules | `(tactic| walk_at "nf") => `(tactic| dsimp only [loS, unS, putO, back, kill, hide, unhide, shown, Sl.put, Sl.get, rd, List.set_cons_zero, List.set_cons_succ, List.getElem?_cons_zero, List.getElem?_cons_succ, Option.bind_some, toD_fz, toD_ls])
local macro_rules | `(tactic| walk_at "draw") => `(tactic| (refine w_draw (by assumption) (by omega) (by omega) (fun r y hr0 hr1 => ?_)))
local macro_rules | `(tactic| walk_at "run") => `(tactic| repeat walk_at "wp")
local macro_rules | `(tactic| walk_at "ex") => `(tactic| first | ((with_reducible apply Exists.intro); walk_at "ex2") | ((with_reducible apply And.intro); (focus walk_at "cls"); walk_at "ex2"))
local macro_rules | `(tactic| walk_at "ex2") => `(tactic| first | ((with_reducible apply Exists.intro); walk_at "ex2") | ((with_reducible apply And.intro); (focus walk_at "cls"); walk_at "ex2") | skip)
local macro_rules | `(tactic| walk_at "cls") => `(tactic| first | with_reducible exact rngOk_of (by omega) | rfl | walk_at "bin" | walk_at "cmp" | exact rngOk_of (by omega) | exact nodc_fz | exact nodc_ls | exact bi_repr (by assumption) | assumption)
local macro_rules | `(tactic| walk_at "st") => `(tactic| first | (with_reducible refine w_asg ?_) | (with_reducible refine w_asgT ?_) | (with_reducible refine w_if ?_) | (with_reducible refine w_kil ?_) | (with_reducible apply w_nil (N := fun ρ => SR.sat (exSs _ _ ρ) _ _ _ _)) | ((with_reducible apply w_retL); rfl) | ((with_reducible apply w_retO); rfl) | ((with_reducible refine w_ret ?_ ?_); exact hn_of rfl) | ((with_reducible apply w_app); rfl) | (with_reducible refine w_seti ?_) | ((with_reducible apply w_aug); rfl) | (with_reducible refine w_fr ?_) | (with_reducible refine w_exp ?_) | (with_reducible refine w_retn ?_) | (with_reducible refine w_step ?_) | (with_reducible refine w_wh ?_) | ((with_reducible apply w_ext); exact hn_of rfl; rfl) | (with_reducible refine w_cnt ?_) | (with_reducible refine w_brk ?_))
local macro_rules | `(tactic| walk_at "go") => `(tactic| repeat (first | walk_at "wp" | walk_at "nf" | walk_at "st" | walk_at "br"))
local macro_rules | `(tactic| walk_at "br") => `(tactic| first | ((with_reducible apply br_tt); (focus first | assumption | decide)) | ((with_reducible apply br_ff); (focus first | assumption | decide)) | ((with_reducible apply br_ft); (focus first | assumption | decide)) | ((with_reducible apply br_tf); (focus first | assumption | decide)))

section
variable {a b t k c1 c2 : Int} {os is ps : List Int}
theorem innC_len (hi : InhOk k is) : ((innC k c2 (headI k is) ps).length : Int) = sizI k + ps.length := by
  have h := (head2 hi).2
  unfold innC
  split
  · rename_i z; rw [z, Int.zero_add]
  · rename_i z
    have := h z
    simp only [List.length_append, two_len]; omega
theorem inn_tl (hi : InhOk k is) : ∃ tl, innC k c2 (headI k is) ps = headI k is ++ tl := by
  unfold innC
  split
  · rename_i z
    have e : headI k is = [] := by
      unfold sizI at z
      unfold headI
      by_cases h6 : k = 6
      · rw [if_pos h6] at z; omega
      by_cases h17 : k = 17
      · rw [if_neg h6, if_pos h17] at z; omega
      by_cases h1 : k = 1
      · rw [if_neg h6, if_neg h17, if_pos h1] at z; omega
      rw [if_neg h6, if_neg h17]
      exact hi.h0 h6 h17 h1
    exact ⟨ps, by rw [e]; rfl⟩
  · exact ⟨two c2 ++ ps, by rw [List.append_assoc]⟩
theorem inn_drop (hi : InhOk k is) : (innC k c2 (headI k is) ps).drop (sizI k).toNat = ps := by
  have h := (head2 hi).2
  unfold innC
  split
  · rename_i z; rw [z]; rfl
  · rename_i z
    have := h z
    rw [List.drop_append_of_le_length (by simp only [List.length_append, two_len]; omega), List.drop_eq_nil_of_le (by simp only [List.length_append, two_len]; omega), List.nil_append]
theorem row_X : rowC a b t k c1 c2 os is ps = rX (70 + (os.length : Int) / 2) k (lenP k os ps / 256) (lenP k os ps % 256) t (c1 / 256) (c1 % 256) (a / 256) (a % 256) (b / 256) (b % 256) (os ++ innC k c2 (headI k is) ps) := rfl
theorem row_sum (h : os.length % 2 = 0) : sW (rX (70 + (os.length : Int) / 2) k (lenP k os ps / 256) (lenP k os ps % 256) t (c1 / 256) (c1 % 256) (a / 256) (a % 256) (b / 256) (b % 256) os) = ov a b t k os ps + c1 := outer_sum (a := a) (b := b) (t := t) (k := k) (ps := ps) c1 h
theorem rowC_len (h : PkI a b t k os is ps 60) : (12 + (os.length : Int) + (innC k c2 (headI k is) ps).length) = lenP k os ps ∧ lenP k os ps ≤ 200 := by
  have := innC_len (ps := ps) (c2 := c2) h.hi
  have := h.lo
  have := h.lp
  have := siz_mem k
  unfold lenP
  omega
theorem of_run (F : Rs Φ) (NA : NaF Φ Fnumber_at) (h : PkI a b t k os is ps 60) (v : Ver a b t k c1 c2 os is ps) :
    (exSs Φ Bouter_fault [.pa (.fz (TI (rowC a b t k c1 c2 os is ps))), .un]).sat (fun _ => False) (fun o ρ => Is (o = .fz (.str "") ∧ ∃ s, ρ = [.pa (.fz (TI (rowC a b t k c1 c2 os is ps))), s])) (fun _ => False) fun _ => False := by
  obtain ⟨hl, hm⟩ := rowC_len (c2 := c2) h
  have l2 := h.l2
  have lo := h.lo
  have ht := h.ht
  rw [row_X]
  exact of_at F NA _ _ _ _ _ _ _ _ _ _ _ _ _ (by omega) (by omega) (by omega) (by omega) (by rw [row_sum l2]; exact v.o) (decide_eq_false (by omega))
theorem mid4 : cutL ((rowC a b t k c1 c2 os is ps).map PyData.int) (some 8) (some 12) = (endsI a b).map PyData.int := by
  rw [row_X]
  rw [show cutL _ (some (8 : Int)) (some (12 : Int)) = _ from cut_mid (m := 8) (k := 12) (by decide) (by simp only [List.length_map, List.length_cons]; omega)]
  rfl
theorem midO (h : os.length % 2 = 0) : cutL ((rowC a b t k c1 c2 os is ps).map PyData.int) (some 12) (some (12 + (os.length : Int))) = os.map PyData.int := by
  rw [row_X]
  rw [show cutL _ (some (12 : Int)) (some (12 + (os.length : Int))) = _ from cut_mid (m := 12) (k := 12 + os.length) (by omega) (by simp only [List.length_map, List.length_cons, List.length_append]; omega)]
  show List.take (12 + os.length - 12) (List.map PyData.int (os ++ innC k c2 (headI k is) ps)) = _
  rw [Nat.add_sub_cancel_left, List.map_append, List.take_left' (by rw [List.length_map])]
theorem tailR : cutL ((rowC a b t k c1 c2 os is ps).map PyData.int) (some (12 + (os.length : Int))) none = (innC k c2 (headI k is) ps).map PyData.int := by
  rw [row_X]
  rw [show cutL _ (some (12 + (os.length : Int))) none = _ from cut_drop (m := 12 + os.length)]
  rw [← List.map_drop]
  congr 1
  rw [Nat.add_comm]
  show List.drop os.length (os ++ innC k c2 (headI k is) ps) = _
  rw [List.drop_left' rfl]
theorem tailI (hi : InhOk k is) : cutL ((innC k c2 (headI k is) ps).map PyData.int) (some (sizI k)) none = ps.map PyData.int := by
  have := siz_mem k
  rw [show sizI k = ((sizI k).toNat : Int) by omega, cut_drop, ← List.map_drop]
  rw [inn_drop hi]
theorem if_run (F : Rs Φ) (h : PkI a b t k os is ps 60) (v : Ver a b t k c1 c2 os is ps) :
    (exSs Φ Binner_fault [.pa (.fz (TI (rowC a b t k c1 c2 os is ps))), .pa (.fz (.int k)), .pa (.fz (TI (innC k c2 (headI k is) ps))), .un]).sat (fun _ => False) (fun o ρ => Is (o = .fz (.str "") ∧ ∃ s, ρ = [.pa (.fz (TI (rowC a b t k c1 c2 os is ps))), .pa (.fz (.int k)), .pa (.fz (TI (innC k c2 (headI k is) ps))), s])) (fun _ => False) fun _ => False := by
  have hl := innC_len (ps := ps) (c2 := c2) h.hi
  have hp := h.lp
  have hz := siz_mem k
  refine if_at F _ _ a b k (by omega) mid4 (by omega) (fun h6 => ?_) fun hs => ?_
  · subst h6
    obtain ⟨i, j, l, rfl, _, _, hl⟩ := h.hi.h6 rfl
    exact ⟨l, hl.2, rfl, rfl⟩
  · have e : innC k c2 (headI k is) ps = headI k is ++ two c2 ++ ps := if_neg (by omega)
    have hh := (head2 h.hi).2 (by omega)
    rw [hl, e]
    have := plain_sum (a := a) (b := b) (k := k) (ps := ps) c2 (head2 h.hi).1
    unfold plainC at this
    rw [hh] at this
    simp only [List.append_assoc] at this ⊢
    rw [this]
    exact v.i (by omega)
end
structure Rd (Φ : Nat → List O → CR) : Prop where
  ofl : ∀ {a b t k c1 c2 : Int} {os is ps : List Int}, PkI a b t k os is ps 60 → Ver a b t k c1 c2 os is ps → Φ Fouter_fault [.fz (TI (rowC a b t k c1 c2 os is ps))] = .ok (.fz (.str "")) [none]
  ifl : ∀ {a b t k c1 c2 : Int} {os is ps : List Int}, PkI a b t k os is ps 60 → Ver a b t k c1 c2 os is ps → Φ Finner_fault [.fz (TI (rowC a b t k c1 c2 os is ps)), .fz (.int k), .fz (TI (innC k c2 (headI k is) ps))] = .ok (.fz (.str "")) [none, none, none]
  ri : ∀ {k : Int} {is tl : List Int}, InhOk k is → Φ Fread_inner [.fz (.int k), .fz (TI (headI k is ++ tl))] = .ok (.fz (TI is)) [none, none]
  na : NaF Φ Fnumber_at
  siz : SzF Φ Finner_size
theorem rp_at (F : Rd Φ) (a b t k c1 c2 : Int) (os is ps : List Int) (h : PkI a b t k os is ps 60) (v : Ver a b t k c1 c2 os is ps) :
    (exSs Φ Bread_packet [.pa (.fz (TI (rowC a b t k c1 c2 os is ps))), .un, .un, .un, .un, .un]).sat (fun _ => False) (fun o ρ => Is (o = .fz (PkD a b t k os is ps) ∧ ∃ r, ρ = .pa (.fz (TI (rowC a b t k c1 c2 os is ps))) :: r)) (fun _ => False) fun _ => False := by
  have e0 := F.ofl h v
  have e1 := F.ifl h v
  obtain ⟨tl, et⟩ := inn_tl (ps := ps) (c2 := c2) h.hi
  have e2 := F.ri (tl := tl) h.hi
  rw [← et] at e2
  have e3 := F.siz k
  have f8 := F.na (rowC a b t k c1 c2 os is ps) 8 _ _ rfl rfl
  have f10 := F.na (rowC a b t k c1 c2 os is ps) 10 _ _ rfl rfl
  rw [show 256 * (a / 256) + a % 256 = a by omega] at f8
  rw [show 256 * (b / 256) + b % 256 = b by omega] at f10
  have i0 : ixF (.fz (TI (rowC a b t k c1 c2 os is ps))) (.fz (.int 0)) = some (.int (70 + (os.length : Int) / 2)) := atI_nat (k := 0) rfl
  have i1 : ixF (.fz (TI (rowC a b t k c1 c2 os is ps))) (.fz (.int 1)) = some (.int k) := atI_nat (k := 1) rfl
  have i4 : ixF (.fz (TI (rowC a b t k c1 c2 os is ps))) (.fz (.int 4)) = some (.int t) := atI_nat (k := 4) rfl
  have m0 := midO (a := a) (b := b) (t := t) (k := k) (c1 := c1) (c2 := c2) (is := is) (ps := ps) h.l2
  have m1 := tailR (a := a) (b := b) (t := t) (k := k) (c1 := c1) (c2 := c2) (os := os) (is := is) (ps := ps)
  have m2 := tailI (k := k) (c2 := c2) (ps := ps) h.hi
  have hh : 2 * (70 + (os.length : Int) / 2 - 64) = 12 + os.length := by have := h.l2; omega
  have ne : (!decide (("" : Str) = "")) = false := by decide
  generalize innC k c2 (headI k is) ps = inn at *
  generalize rowC a b t k c1 c2 os is ps = row at *
  unfold Bread_packet
  walk_at "go"
  rw [hh, m1]
  walk_at "go"
  rw [m0, m2]
  exact Is.mk ⟨rfl, _, rfl⟩
end
end Law


/-! k12, part 8: a turn of the law. -/
namespace Law
open PySem GW
def chgB : ISs :=
  (.cons (.asg 5 (.call F_law_bytes (.cons (.loc 3) .nil))) (.cons (.asg 3 (.bin .add (.tup (.cons (.call F_law_fold (.cons (.lst (.cons (.sub (.loc 3) (.con (.int 0))) (.cons (.bin .add (.bin .mul (.con (.int 256)) (.sub (.loc 5) (.con (.int 6)))) (.sub (.loc 5) (.con (.int 7)))) .nil))) .nil)) .nil)) (.slc (.loc 3) (.so (.con (.int 1))) .no))) (.cons (.asg 5 (.call F_law_bytes (.cons (.loc 3) .nil))) (.cons (.asg 6 (.bin .sub (.bin .add (.loc 4) (.call F_law_inner_size (.cons (.sub (.loc 3) (.con (.int 2))) .nil))) (.con (.int 2)))) (.cons (.iff (.cmp .isin (.sub (.loc 3) (.con (.int 2))) (.tup (.cons (.con (.int 6)) (.cons (.con (.int 17)) .nil)))) (.cons (.asg 3 (.bin .add (.slc (.loc 3) .no (.so (.con (.int 5)))) (.tup (.cons (.bin .add (.tup (.cons (.call F_law_fold (.cons (.lst (.cons (.sub (.sub (.loc 3) (.con (.int 5))) (.con (.int 0))) (.cons (.bin .add (.bin .mul (.con (.int 256)) (.sub (.loc 5) (.loc 6))) (.sub (.loc 5) (.bin .add (.loc 6) (.con (.int 1))))) .nil))) .nil)) .nil)) (.slc (.sub (.loc 3) (.con (.int 5))) (.so (.con (.int 1))) .no)) (.cons (.sub (.loc 3) (.con (.int 6))) .nil))))) .nil) .nil) (.cons (.iff (.cmp .eq (.sub (.loc 3) (.con (.int 2))) (.con (.int 1))) (.cons (.asg 7 (.call F_law_fold (.cons (.lst (.cons (.bin .add (.bin .mul (.con (.int 256)) (.sub (.sub (.loc 3) (.con (.int 5))) (.con (.int 0)))) (.sub (.sub (.loc 3) (.con (.int 5))) (.con (.int 1)))) (.cons (.bin .add (.bin .mul (.con (.int 256)) (.sub (.loc 5) (.loc 6))) (.sub (.loc 5) (.bin .add (.loc 6) (.con (.int 1))))) .nil))) .nil))) (.cons (.asg 3 (.bin .add (.slc (.loc 3) .no (.so (.con (.int 5)))) (.tup (.cons (.call F_law_two (.cons (.loc 7) .nil)) (.cons (.sub (.loc 3) (.con (.int 6))) .nil))))) .nil)) .nil) (.kil [7] .nil)))))))
def restB : ISs :=
  (.cons (.asg 5 (.call F_law_bytes (.cons (.loc 3) .nil))) (.cons (.iff (.and (.cmp .gt (.loc 2) (.con (.int 1))) (.cmp .ne (.slc (.loc 5) (.so (.con (.int 6))) (.so (.con (.int 8)))) (.tup (.cons (.con (.int 0)) (.cons (.con (.int 0)) .nil))))) (.cons (.ret (.con (.bool false))) .nil) .nil) (.cons (.iff (.not (.call F_law_same (.cons (.lst (.cons (.call Fread_packet (.cons (.loc 5) .nil)) (.cons (.call Fread_packet (.cons (.call Fwrite_packet (.cons (.loc 3) .nil)) .nil)) .nil))) (.cons (.lst (.cons (.loc 3) (.cons (.loc 3) .nil))) .nil)))) (.cons (.ret (.con (.bool false))) .nil) .nil) (.cons (.asg 6 (.con (.int 6))) (.cons (.iff (.cmp .eq (.slc (.loc 5) (.so (.loc 6)) (.so (.bin .add (.loc 6) (.con (.int 2))))) (.tup (.cons (.con (.int 0)) (.cons (.con (.int 0)) .nil)))) (.cons (.asg 5 (.bin .add (.bin .add (.slc (.loc 5) .no (.so (.loc 6))) (.tup (.cons (.con (.int 255)) (.cons (.con (.int 255)) .nil)))) (.slc (.loc 5) (.so (.bin .add (.loc 6) (.con (.int 2)))) .no))) .nil) .nil) (.cons (.asg 6 (.bin .sub (.bin .add (.loc 4) (.call F_law_inner_size (.cons (.sub (.loc 3) (.con (.int 2))) .nil))) (.con (.int 2)))) (.cons (.iff (.and (.cmp .isin (.sub (.loc 3) (.con (.int 2))) (.tup (.cons (.con (.int 1)) (.cons (.con (.int 6)) (.cons (.con (.int 17)) .nil))))) (.cmp .eq (.slc (.loc 5) (.so (.loc 6)) (.so (.bin .add (.loc 6) (.con (.int 2))))) (.tup (.cons (.con (.int 0)) (.cons (.con (.int 0)) .nil))))) (.cons (.asg 5 (.bin .add (.bin .add (.slc (.loc 5) .no (.so (.loc 6))) (.tup (.cons (.con (.int 255)) (.cons (.con (.int 255)) .nil)))) (.slc (.loc 5) (.so (.bin .add (.loc 6) (.con (.int 2)))) .no))) .nil) .nil) (.cons (.iff (.not (.call F_law_same (.cons (.call Fread_packet (.cons (.loc 5) .nil)) (.cons (.loc 3) .nil)))) (.cons (.ret (.con (.bool false))) .nil) .nil) .nil))))))))
def turnB : ISs :=
  (.cons (.asg 3 (.call F_law_packet (.cons (.loc 1) (.cons (.con (.int 60)) .nil)))) (.cons (.asg 4 (.bin .add (.con (.int 12)) (.bi .len (.cons (.sub (.loc 3) (.con (.int 4))) .nil)))) (.cons (.iff (.cmp .gt (.loc 2) (.con (.int 1))) chgB .nil) (.kil [5, 6, 7] restB))))
theorem law_body : Blaw = (.cons (.asg 1 (.call F_law_pool (.cons (.loc 0) .nil))) (.cons (.fr (.nm 2) (.rng1 (.con (.int 4))) turnB [2, 3, 4, 5, 6, 7]) (.cons (.ret (.con (.bool true))) .nil))) := rfl
section
variable {Φ : Nat → List O → CR} {N : Fm → Prop} {R : O → Fm → Prop} {B C : Fm → Prop}
local macro_rules | `(tactic| walk_at "bin") => `(tactic| first | rfl | exact bin_mul (wee_r (by decide)) | exact bin_mul (wee_l (by decide)) | exact bin_div (by decide) | exact bin_mod (by decide) | exact bin_mod (by omega) | exact bin_div (by omega) | exact bin_mul (wee_r (by omega)) | exact bin_mul (wee_l (by omega)) | exact bin_cat (by simp only [List.length_append, List.length_cons, List.length_nil, List.length_map]; omega) | exact bin_catL (by simp only [List.length_append, List.length_cons, List.length_nil, List.length_map]; omega))
local macro_rules | `(tactic| walk_at "cmp") => `(tactic| first | exact ne_str _ | exact cmp_eqI _ _ | exact cmp_neI _ _ | rfl | exact ne_refl rfl rfl (by assumption) | exact eq_refl rfl rfl (by assumption))
local macro_rules | `(tactic| walk_at "pv") => `(tactic| first | with_reducible exact pv_con | ((with_reducible apply pv_loc); rfl) | with_reducible exact pv_glo | ((with_reducible apply pv_bin); walk_at "pv"; walk_at "pv"; walk_at "bin") | ((with_reducible apply pv_cmp); walk_at "pv"; walk_at "pv"; walk_at "cmp") | ((with_reducible apply pv_cmp2); walk_at "pv"; walk_at "pv"; walk_at "pv"; walk_at "cmp"; walk_at "cmp") | ((with_reducible apply pv_sel); walk_at "pv"; walk_at "pv"; first | rfl | assumption) | ((with_reducible apply pv_tup); walk_at "pvs") | ((with_reducible apply pv_not); walk_at "pv") | ((with_reducible apply pv_and); walk_at "pv"; intro _; walk_at "pv") | ((with_reducible apply pv_or); walk_at "pv"; intro _; walk_at "pv") | ((with_reducible apply pv_neg); walk_at "pv") | ((with_reducible apply pv_isi); walk_at "pv"; rfl) | ((with_reducible apply pv_isN); walk_at "pv") | ((with_reducible apply pv_bi1); walk_at "pv"; first | rfl | exact bi_repr (by assumption)) | ((with_reducible apply pv_bi2); walk_at "pv"; walk_at "pv"; rfl) | ((with_reducible apply pv_call); walk_at "pas"; walk_at "told"))
local macro_rules | `(tactic| walk_at "pvs") => `(tactic| first | with_reducible exact pvs_nil | ((with_reducible apply pvs_cons); walk_at "pv"; walk_at "pvs"))
local macro_rules | `(tactic| walk_at "pas") => `(tactic| first | with_reducible exact pas_nil | ((with_reducible apply pas_cons); walk_at "pv"; walk_at "pas"))
local macro_rules | `(tactic| walk_at "told") => `(tactic| assumption)
local macro_rules | `(tactic| walk_at "wp") => `(tactic| first | ((with_reducible apply w_dpvs); (walk_at "pvs")) | ((with_reducible refine w_dcons ?_); walk_at "wp") | with_reducible refine w_dnil ?_ | ((with_reducible apply w_frzP); (walk_at "pv")) | ((with_reducible refine w_frz ?_); walk_at "wp") | ((with_reducible apply w_tst); (walk_at "pv")) | ((with_reducible apply w_pv); (walk_at "pv")) | ((with_reducible apply w_locL); rfl) | ((with_reducible apply w_prepL); (rfl)) | ((with_reducible refine w_prepE ?_ ?_); exact hn_of rfl; walk_at "wp") | ((with_reducible refine w_tstE ?_ ?_); exact hn_of rfl; walk_at "wp") | ((with_reducible refine w_acons ?_); walk_at "wp") | with_reducible refine w_anil ?_ | ((with_reducible refine w_tup ?_); walk_at "wp") | ((with_reducible refine w_lst ?_); walk_at "wp") | ((with_reducible refine w_call ?_); walk_at "wp") | ((with_reducible refine w_bin ?_); walk_at "wp") | ((with_reducible refine w_cmp ?_); walk_at "wp") | ((with_reducible refine w_sub ?_); walk_at "wp") | ((with_reducible refine w_bi ?_); walk_at "wp") | ((with_reducible refine w_and ?_); walk_at "wp") | ((with_reducible refine w_or ?_); walk_at "wp") | ((with_reducible refine w_not ?_); walk_at "wp") | ((with_reducible refine w_ife ?_); walk_at "wp") | ((with_reducible refine w_slc ?_); walk_at "wp") | ((with_reducible refine w_sset ?_); walk_at "wp") | ((with_reducible refine w_lset ?_); walk_at "wp") | ((with_reducible refine w_rev ?_); walk_at "wp") | ((with_reducible refine w_idx ?_); walk_at "wp") | ((with_reducible apply w_fidx); assumption; walk_at "wp") | ((with_reducible refine w_cmp2 ?_); walk_at "wp") | ((with_reducible refine w_isN ?_); walk_at "wp") | ((with_reducible refine w_notN ?_); walk_at "wp") | ((with_reducible refine w_isi ?_); walk_at "wp") | with_reducible refine w_ono ?_ | ((with_reducible refine w_oso ?_); walk_at "wp") | ((with_reducible refine w_ival ?_); walk_at "wp") | ((with_reducible apply w_ilok); (rfl)) | ((with_reducible refine w_irng1 ?_); walk_at "wp") | ((with_reducible refine w_irng2 ?_); walk_at "wp") | with_reducible refine w_con ?_ | ((with_reducible refine w_cso ?_); walk_at "wp") | ((with_reducible refine w_lc ?_); walk_at "wp") | ((with_reducible apply w_told); assumption) | walk_at "ex")
local macro_rules | `(tactic| walk_at "nf") => `(tactic| dsimp only [loS, unS, putO, back, kill, hide, unhide, shown, Sl.put, Sl.get, rd, List.set_cons_zero, List.set_cons_succ, List.getElem?_cons_zero, List.getElem?_cons_succ, Option.bind_some, toD_fz, toD_ls])
local macro_rules | `(tactic| walk_at "draw") => `(tactic| (refine w_draw (by assumption) (by omega) (by omega) (fun r y hr0 hr1 => ?_)))
local macro_rules | `(tactic| walk_at "run") => `(tactic| repeat walk_at "wp")
local macro_rules | `(tactic| walk_at "ex") => `(tactic| first | ((with_reducible apply Exists.intro); walk_at "ex2") | ((with_reducible apply And.intro); (focus walk_at "cls"); walk_at "ex2"))
local macro_rules | `(tactic| walk_at "ex2") => `(tactic| first | ((with_reducible apply Exists.intro); walk_at "ex2") | ((with_reducible apply And.intro); (focus walk_at "cls"); walk_at "ex2") | skip)
local macro_rules | `(tactic| walk_at "cls") => `(tactic| first | with_reducible exact rngOk_of (by omega) | rfl | walk_at "bin" | walk_at "cmp" | exact rngOk_of (by omega) | exact nodc_fz | exact nodc_ls | exact bi_repr (by assumption) | assumption)
local macro_rules | `(tactic| walk_at "st") => `(tactic| first | (with_reducible refine w_asg ?_) | (with_reducible refine w_asgT ?_) | (with_reducible refine w_if ?_) | (with_reducible refine w_kil ?_) | (with_reducible apply w_nil (N := fun ρ => SR.sat (exSs _ _ ρ) _ _ _ _)) | ((with_reducible apply w_retL); rfl) | ((with_reducible apply w_retO); rfl) | ((with_reducible refine w_ret ?_ ?_); exact hn_of rfl) | ((with_reducible apply w_app); rfl) | (with_reducible refine w_seti ?_) | ((with_reducible apply w_aug); rfl) | (with_reducible refine w_fr ?_) | (with_reducible refine w_exp ?_) | (with_reducible refine w_retn ?_) | (with_reducible refine w_step ?_) | (with_reducible refine w_wh ?_) | ((with_reducible apply w_ext); exact hn_of rfl; rfl) | (with_reducible refine w_cnt ?_) | (with_reducible refine w_brk ?_))
local macro_rules | `(tactic| walk_at "go") => `(tactic| repeat (first | walk_at "wp" | walk_at "nf" | walk_at "st" | walk_at "br"))
local macro_rules | `(tactic| walk_at "br") => `(tactic| first | ((with_reducible apply br_tt); (focus first | assumption | decide)) | ((with_reducible apply br_ff); (focus first | assumption | decide)) | ((with_reducible apply br_ft); (focus first | assumption | decide)) | ((with_reducible apply br_tf); (focus first | assumption | decide)))

section
variable {ρ : Fm}
theorem pv_slc2 {a l h : IE} {xs : List PyData} {n m : Int} (ha : PV Φ a ρ (.tuple xs)) (hl : PV Φ l ρ (.int n)) (hh : PV Φ h ρ (.int m)) : PV Φ (.slc a (.so l) (.so h)) ρ (.tuple (cutL xs (some n) (some m))) := by
  refine pv_ev (fun _ z => nomatch z) ?_
  obtain ⟨u, a1, a2, _⟩ := ha.pr
  simp only [ev, a1, Res.bind, evO, hl.evF, hh.evF, a2, Option.bind_some, cutF, ofO]
theorem pv_slcH2 {a h : IE} {xs : List PyData} {m : Int} (ha : PV Φ a ρ (.tuple xs)) (hh : PV Φ h ρ (.int m)) : PV Φ (.slc a .no (.so h)) ρ (.tuple (cutL xs none (some m))) := by
  refine pv_ev (fun _ z => nomatch z) ?_
  obtain ⟨u, a1, a2, _⟩ := ha.pr
  simp only [ev, a1, Res.bind, evO, hh.evF, a2, Option.bind_some, cutF, ofO]
theorem pv_slcL2 {a l : IE} {xs : List PyData} {n : Int} (ha : PV Φ a ρ (.tuple xs)) (hl : PV Φ l ρ (.int n)) : PV Φ (.slc a (.so l) .no) ρ (.tuple (cutL xs (some n) none)) := by
  refine pv_ev (fun _ z => nomatch z) ?_
  obtain ⟨u, a1, a2, _⟩ := ha.pr
  simp only [ev, a1, Res.bind, evO, hl.evF, a2, Option.bind_some, cutF, ofO]
theorem pv_fold2 {f : Nat} {e g : IE} {u v z : Int} (he : PV Φ e ρ (.int u)) (hg : PV Φ g ρ (.int v)) (h : Φ f [.ls [.int u, .int v]] = .ok (.fz (.int z)) [some (.ls [.int u, .int v])]) : PV Φ (.call f (.cons (.lst (.cons e (.cons g .nil))) .nil)) ρ (.int z) := by
  refine pv_ev (fun _ z => nomatch z) ?_
  simp only [ev, evAs, prep_lst, evDs_cons he.fr (evDs_cons hg.fr evDs_nil), Res.bind, lend, h, called, back, Option.bind_some, Option.map_some]
/-! ### a sum's two places -/
section
variable {p q : List Int} {c : Int}
abbrev mk2 (p : List Int) (c : Int) (q : List Int) : List Int := p ++ two c ++ q
theorem mk_hi : ixF (.fz (TI (mk2 p c q))) (.fz (.int (p.length : Nat))) = some (.int (c / 256)) := by
  refine atI_nat (map_at ?_)
  rw [mk2, List.append_assoc, List.getElem?_append_right (Nat.le_refl _), Nat.sub_self]; rfl
theorem mk_lo : ixF (.fz (TI (mk2 p c q))) (.fz (.int ((p.length : Nat) + 1 : Int))) = some (.int (c % 256)) := by
  refine atI_nat (k := p.length + 1) (map_at ?_)
  rw [mk2, List.append_assoc, List.getElem?_append_right (by omega), show p.length + 1 - p.length = 1 by omega]; rfl
theorem mk_mid : cutL ((mk2 p c q).map PyData.int) (some (p.length : Nat)) (some ((p.length : Nat) + 2 : Int)) = (two c).map PyData.int := by
  rw [show ((p.length : Nat) + 2 : Int) = ((p.length + 2 : Nat) : Int) by omega, cut_mid (by omega) (by simp only [List.length_map, List.length_append, two_len]; omega), ← List.map_drop, ← List.map_take, mk2, List.append_assoc, List.drop_left' rfl, show p.length + 2 - p.length = 2 by omega]
  rfl
theorem mk_begin : cutL ((mk2 p c q).map PyData.int) none (some (p.length : Nat)) = p.map PyData.int := by
  rw [cut_take, ← List.map_take, mk2, List.append_assoc, List.take_left' rfl]
theorem mk_end : cutL ((mk2 p c q).map PyData.int) (some ((p.length : Nat) + 2 : Int)) none = q.map PyData.int := by
  rw [show ((p.length : Nat) + 2 : Int) = ((p.length + 2 : Nat) : Int) by omega, cut_drop, ← List.map_drop, mk2, List.drop_left' (by simp only [List.length_append, two_len])]
theorem eqv_two (x y u v : Int) : cmpF .eq (.fz (.tuple [.int x, .int y])) (.fz (.tuple [.int u, .int v])) = some (decide (x = u) && decide (y = v)) := by
  show some (PyData.eqv (.int x) (.int u) && (PyData.eqv (.int y) (.int v) && true)) = _
  rw [eqv_int, eqv_int, Bool.and_true]
  rfl
theorem two_zero (h : 0 ≤ c ∧ c ≤ 65535) : cmpF .eq (.fz (TI (two c))) (.fz (.tuple [.int 0, .int 0])) = some (decide (c = 0)) := by
  show cmpF .eq (.fz (.tuple [.int (c / 256), .int (c % 256)])) _ = _
  rw [eqv_two, ← Bool.decide_and]
  congr 1
  exact decide_eq_decide.mpr ⟨fun z => by omega, fun z => by omega⟩
def atP (e : IE) : IE := .slc (.loc 5) (.so e) (.so (.bin .add e (.con (.int 2))))
def zerE : IE := .tup (.cons (.con (.int 0)) (.cons (.con (.int 0)) .nil))
theorem zer_pv : PV Φ zerE ρ (.tuple [.int 0, .int 0]) := pv_tup2 (x := 0) (y := 0) pv_con pv_con
theorem atz_pv (h5 : rd ρ 5 = some (.fz (TI (mk2 p c q)))) (h6 : rd ρ 6 = some (.fz (.int (p.length : Nat)))) (hc : 0 ≤ c ∧ c ≤ 65535) : PV Φ (.cmp .eq (atP (.loc 6)) zerE) ρ (.bool (decide (c = 0))) := by
  have p0 := pv_slc2 (Φ := Φ) (pv_loc h5) (pv_loc h6) (pv_add (pv_loc h6) (pv_con (d := .int 2)))
  rw [mk_mid] at p0
  exact pv_cmp p0 zer_pv (two_zero hc)
def ffE : IE := .bin .add (.bin .add (.slc (.loc 5) .no (.so (.loc 6))) (.tup (.cons (.con (.int 255)) (.cons (.con (.int 255)) .nil)))) (.slc (.loc 5) (.so (.bin .add (.loc 6) (.con (.int 2)))) .no)
theorem ff_pv (h5 : rd ρ 5 = some (.fz (TI (mk2 p c q)))) (h6 : rd ρ 6 = some (.fz (.int (p.length : Nat)))) (hl : p.length + q.length ≤ 100000) : PV Φ ffE ρ (TI (mk2 p 65535 q)) := by
  have p0 := pv_slcH2 (Φ := Φ) (pv_loc h5) (pv_loc h6)
  have p1 := pv_slcL2 (Φ := Φ) (pv_loc h5) (pv_add (pv_loc h6) (pv_con (d := .int 2)))
  rw [mk_begin] at p0
  rw [mk_end] at p1
  exact pv_cat (pv_cat p0 (pv_tup2 (x := 255) (y := 255) pv_con pv_con) (by rw [two_len]; omega)) p1 (by rw [List.length_append, two_len]; omega)
def wdE (e g : IE) : IE := .bin .add (.bin .mul (.con (.int 256)) (.sub (.loc 5) e)) (.sub (.loc 5) g)
theorem wd_pv {e g : IE} (h5 : rd ρ 5 = some (.fz (TI (mk2 p c q)))) (he : PV Φ e ρ (.int (p.length : Nat))) (hg : PV Φ g ρ (.int ((p.length : Nat) + 1))) : PV Φ (wdE e g) ρ (.int c) := by
  have p0 := pv_add (Φ := Φ) (pv_bin (op := .mul) (pv_con (d := .int 256)) (pv_sel (pv_loc h5) he mk_hi) (bin_mul (wee_l (by decide)))) (pv_sel (pv_loc h5) hg mk_lo)
  rwa [show 256 * (c / 256) + c % 256 = c by omega] at p0
end
end
/-! ### a row's two sums -/
section
variable {a b t k c1 c2 : Int} {os is ps : List Int}
theorem row_1 : rowC a b t k c1 c2 os is ps = mk2 (firstI t k os ps) c1 ((endsI a b ++ os) ++ innC k c2 (headI k is) ps) := by
  unfold rowC mk2; simp only [List.append_assoc]
def pre2 (a b t k c1 : Int) (os is ps : List Int) : List Int := firstI t k os ps ++ two c1 ++ (endsI a b ++ os) ++ headI k is
theorem row_2 (h : sizI k ≠ 0) : rowC a b t k c1 c2 os is ps = mk2 (pre2 a b t k c1 os is ps) c2 ps := by
  unfold rowC mk2 pre2 innC
  rw [if_neg h]; simp only [List.append_assoc]
theorem pre_len (hi : InhOk k is) (h : sizI k ≠ 0) : ((pre2 a b t k c1 os is ps).length : Int) = 12 + os.length + sizI k - 2 := by
  have := (head2 hi).2 h
  unfold pre2
  simp only [List.length_append, first_len, two_len, ends_len]; omega
end
theorem b8_bt {row : List Int} (h : B8 row) : Bt row := fun x hx => by have := h x hx; omega
theorem bt0 : Bt [] := fun x hx => nomatch hx
theorem inh_bt {k : Int} {is : List Int} (h : InhOk k is) : Bt is ∧ is.length ≤ 3 := by
  by_cases h6 : k = 6
  · obtain ⟨i, j, l, rfl, a, b, c⟩ := h.h6 h6
    exact ⟨fun x hx => by simp only [List.mem_cons, List.not_mem_nil, or_false] at hx; rcases hx with rfl | rfl | rfl <;> omega, by simp⟩
  by_cases h17 : k = 17
  · obtain ⟨i, j, rfl, a, b⟩ := h.h17 h17
    exact ⟨bt2 a b, by simp⟩
  by_cases h1 : k = 1
  · obtain ⟨i, j, rfl, a, b⟩ := h.h1 h1
    exact ⟨bt2 (by omega) (by omega), by simp⟩
  · rw [h.h0 h6 h17 h1]
    exact ⟨bt0, by simp⟩
theorem pk_ok {a b t k m : Int} {os is ps : List Int} (h : PkI a b t k os is ps m) (hm : m ≤ 1500) : PkOk a b t k os is ps := by
  have h1 := inh_bt h.hi
  have h2 := h.lp
  have h3 := h.ht
  refine ⟨h.ha, h.hb, by omega, h.hk, b8_bt h.so, h.lo, h1.1, h1.2, b8_bt h.sp, by omega, fun z => ?_, fun z => ?_⟩
  · obtain ⟨i, j, l, e, _⟩ := h.hi.h6 z; exact ⟨i, j, l, e⟩
  · obtain ⟨i, j, e, _⟩ := h.hi.h17 z; exact ⟨i, j, e⟩
structure Fk (Φ : Nat → List O → CR) : Prop where
  pkt : PktI Φ F_law_packet
  siz : SzF Φ F_law_inner_size
  two : TwoF Φ F_law_two
  fol : ∀ ws : List Int, 0 ≤ ws.sum → ws.sum < 1000000000000000000000000000000 → Φ F_law_fold [.ls (ws.map PyData.int)] = .ok (.fz (.int (foldI ws.sum))) [some (.ls (ws.map PyData.int))]
  wr : ∀ (a b t k : Int) (os is ps : List Int), PkOk a b t k os is ps → Φ Fwrite_packet [.fz (PkD a b t k os is ps)] = .ok (.fz (TI (rowI a b t k os is ps))) [none]
  lb : ∀ (a b t k : Int) (os is ps : List Int), PkOk a b t k os is ps → Φ F_law_bytes [.fz (PkD a b t k os is ps)] = .ok (.fz (TI (rowI a b t k os is ps))) [none]
  rp : ∀ (a b t k c1 c2 : Int) (os is ps : List Int), PkI a b t k os is ps 60 → Ver a b t k c1 c2 os is ps → Φ Fread_packet [.fz (TI (rowC a b t k c1 c2 os is ps))] = .ok (.fz (PkD a b t k os is ps)) [none]
  same1 : ∀ (a b t k : Int) (os is ps : List Int), PkI a b t k os is ps 60 → Φ F_law_same [.fz (PkD a b t k os is ps), .fz (PkD a b t k os is ps)] = .ok (.fz (.bool true)) [none, none]
  same2 : ∀ (a b t k : Int) (os is ps : List Int), PkI a b t k os is ps 60 → Φ F_law_same [.ls [PkD a b t k os is ps, PkD a b t k os is ps], .ls [PkD a b t k os is ps, PkD a b t k os is ps]] = .ok (.fz (.bool true)) [some (.ls [PkD a b t k os is ps, PkD a b t k os is ps]), some (.ls [PkD a b t k os is ps, PkD a b t k os is ps])]
abbrev c1I (a b t k : Int) (os ps : List Int) : Int := ckI (firstI t k os ps ++ [0, 0] ++ (endsI a b ++ os))
abbrev c2I (a b k : Int) (is ps : List Int) : Int := ckI (plainI a b k (headI k is) ps)
def sam2E : IE := .call F_law_same (.cons (.lst (.cons (.call Fread_packet (.cons (.loc 5) .nil)) (.cons (.call Fread_packet (.cons (.call Fwrite_packet (.cons (.loc 3) .nil)) .nil)) .nil))) (.cons (.lst (.cons (.loc 3) (.cons (.loc 3) .nil))) .nil))
def sam1E : IE := .call F_law_same (.cons (.call Fread_packet (.cons (.loc 5) .nil)) (.cons (.loc 3) .nil))
def atE : IE := .bin .sub (.bin .add (.loc 4) (.call F_law_inner_size (.cons (.sub (.loc 3) (.con (.int 2))) .nil))) (.con (.int 2))
def chkE : IE := .and (.cmp .gt (.loc 2) (.con (.int 1))) (.cmp .ne (.slc (.loc 5) (.so (.con (.int 6))) (.so (.con (.int 8)))) zerE)
def retF2 : ISs := .cons (.ret (.con (.bool false))) .nil
theorem rest_eq : restB = .cons (.asg 5 (.call F_law_bytes (.cons (.loc 3) .nil))) (.cons (.iff chkE retF2 .nil) (.cons (.iff (.not sam2E) retF2 .nil) (.cons (.asg 6 (.con (.int 6))) (.cons (.iff (.cmp .eq (atP (.loc 6)) zerE) (.cons (.asg 5 ffE) .nil) .nil) (.cons (.asg 6 atE)
  (.cons (.iff (.and (.cmp .isin (.sub (.loc 3) (.con (.int 2))) (.tup (.cons (.con (.int 1)) (.cons (.con (.int 6)) (.cons (.con (.int 17)) .nil))))) (.cmp .eq (atP (.loc 6)) zerE)) (.cons (.asg 5 ffE) .nil) .nil) (.cons (.iff (.not sam1E) retF2 .nil) .nil))))))) := rfl
section
variable {a b t k : Int} {os is ps : List Int}
abbrev Fr (s0 s1 : Sl) (n : Int) (a b t k : Int) (os is ps : List Int) (x y z : Sl) : Fm := [s0, s1, .lo (.fz (.int n)), .lo (.fz (PkD a b t k os is ps)), .lo (.fz (.int (12 + os.length))), x, y, z]
theorem sam2_pv (F : Fk Φ) (s0 s1 y z : Sl) {n : Int} (h : PkI a b t k os is ps 60) {c1 c2 : Int} (v : Ver a b t k c1 c2 os is ps) : PV Φ sam2E (Fr s0 s1 n a b t k os is ps (.lo (.fz (TI (rowC a b t k c1 c2 os is ps)))) y z) (.bool true) := by
  have e1 := F.rp _ _ _ _ _ _ _ _ _ h v
  have e2 := F.wr _ _ _ _ _ _ _ (pk_ok h (by decide))
  have e3 := F.rp _ _ _ _ _ _ _ _ _ h (ver_made h)
  rw [← row_C] at e3
  have e4 := F.same2 _ _ _ _ _ _ _ h
  generalize rowI a b t k os is ps = rowi at *
  generalize rowC a b t k c1 c2 os is ps = row at *
  refine pv_ev (fun _ z => nomatch z) ?_
  have p1 := pv_call1 (Φ := Φ) (ρ := Fr s0 s1 n a b t k os is ps (.lo (.fz (TI row))) y z) (a := .loc 5) (pv_loc rfl) e1
  have p2 := pv_call1 (Φ := Φ) (ρ := Fr s0 s1 n a b t k os is ps (.lo (.fz (TI row))) y z) (pv_call1 (a := .loc 3) (pv_loc rfl) e2) e3
  have p3 := pv_loc (Φ := Φ) (ρ := Fr s0 s1 n a b t k os is ps (.lo (.fz (TI row))) y z) (i := 3) (d := PkD a b t k os is ps) rfl
  unfold sam2E
  simp only [ev, evAs, prep_lst, evDs_cons p1.fr (evDs_cons p2.fr evDs_nil), evDs_cons p3.fr (evDs_cons p3.fr evDs_nil), Res.bind, lend, e4, called, back, Option.bind_some, Option.map_some]
theorem sam1_pv (F : Fk Φ) (s0 s1 y z : Sl) {n : Int} (h : PkI a b t k os is ps 60) {c1 c2 : Int} (v : Ver a b t k c1 c2 os is ps) : PV Φ sam1E (Fr s0 s1 n a b t k os is ps (.lo (.fz (TI (rowC a b t k c1 c2 os is ps)))) y z) (.bool true) :=
  pv_call2 (pv_call1 (pv_loc rfl) (F.rp _ _ _ _ _ _ _ _ _ h v)) (pv_loc rfl) (F.same1 _ _ _ _ _ _ _ h)
theorem at_pv (F : Fk Φ) (s0 s1 x y z : Sl) {n : Int} : PV Φ atE (Fr s0 s1 n a b t k os is ps x y z) (.int (12 + os.length + sizI k - 2)) :=
  pv_sbt (pv_add (pv_loc rfl) (pv_call1 (pv_sub (pv_loc rfl) (rfl : L2.atI [.int a, .int b, .int k, .int t, TI os, TI is, TI ps] 2 = some (.int k))) (F.siz k))) pv_con
end
end
end Law


/-! k12, part 9: a turn, told. -/
namespace Law
open PySem GW
section
variable {Φ : Nat → List O → CR} {N : Fm → Prop} {R : O → Fm → Prop} {B C : Fm → Prop}
local macro_rules | `(tactic| walk_at "bin") => `(tactic| first | rfl | exact bin_mul (wee_r (by decide)) | exact bin_mul (wee_l (by decide)) | exact bin_div (by decide) | exact bin_mod (by decide) | exact bin_mod (by omega) | exact bin_div (by omega) | exact bin_mul (wee_r (by omega)) | exact bin_mul (wee_l (by omega)) | exact bin_cat (by simp only [List.length_append, List.length_cons, List.length_nil, List.length_map]; omega) | exact bin_catL (by simp only [List.length_append, List.length_cons, List.length_nil, List.length_map]; omega))
local macro_rules | `(tactic| walk_at "cmp") => `(tactic| first | exact ne_str _ | exact cmp_eqI _ _ | exact cmp_neI _ _ | rfl | exact ne_refl rfl rfl (by assumption) | exact eq_refl rfl rfl (by assumption))
local macro_rules | `(tactic| walk_at "pv") => `(tactic| first | with_reducible exact pv_con | ((with_reducible apply pv_loc); rfl) | with_reducible exact pv_glo | ((with_reducible apply pv_bin); walk_at "pv"; walk_at "pv"; walk_at "bin") | ((with_reducible apply pv_cmp); walk_at "pv"; walk_at "pv"; walk_at "cmp") | ((with_reducible apply pv_cmp2); walk_at "pv"; walk_at "pv"; walk_at "pv"; walk_at "cmp"; walk_at "cmp") | ((with_reducible apply pv_sel); walk_at "pv"; walk_at "pv"; first | rfl | assumption) | ((with_reducible apply pv_tup); walk_at "pvs") | ((with_reducible apply pv_not); walk_at "pv") | ((with_reducible apply pv_and); walk_at "pv"; intro _; walk_at "pv") | ((with_reducible apply pv_or); walk_at "pv"; intro _; walk_at "pv") | ((with_reducible apply pv_neg); walk_at "pv") | ((with_reducible apply pv_isi); walk_at "pv"; rfl) | ((with_reducible apply pv_isN); walk_at "pv") | ((with_reducible apply pv_bi1); walk_at "pv"; first | rfl | exact bi_repr (by assumption)) | ((with_reducible apply pv_bi2); walk_at "pv"; walk_at "pv"; rfl) | ((with_reducible apply pv_call); walk_at "pas"; walk_at "told"))
local macro_rules | `(tactic| walk_at "pvs") => `(tactic| first | with_reducible exact pvs_nil | ((with_reducible apply pvs_cons); walk_at "pv"; walk_at "pvs"))
local macro_rules | `(tactic| walk_at "pas") => `(tactic| first | with_reducible exact pas_nil | ((with_reducible apply pas_cons); walk_at "pv"; walk_at "pas"))
local macro_rules | `(tactic| walk_at "told") => `(tactic| assumption)
local macro_rules | `(tactic| walk_at "wp") => `(tactic| first | ((with_reducible apply w_dpvs); (walk_at "pvs")) | ((with_reducible refine w_dcons ?_); walk_at "wp") | with_reducible refine w_dnil ?_ | ((with_reducible apply w_frzP); (walk_at "pv")) | ((with_reducible refine w_frz ?_); walk_at "wp") | ((with_reducible apply w_tst); (walk_at "pv")) | ((with_reducible apply w_pv); (walk_at "pv")) | ((with_reducible apply w_locL); rfl) | ((with_reducible apply w_prepL); (rfl)) | ((with_reducible refine w_prepE ?_ ?_); exact hn_of rfl; walk_at "wp") | ((with_reducible refine w_tstE ?_ ?_); exact hn_of rfl; walk_at "wp") | ((with_reducible refine w_acons ?_); walk_at "wp") | with_reducible refine w_anil ?_ | ((with_reducible refine w_tup ?_); walk_at "wp") | ((with_reducible refine w_lst ?_); walk_at "wp") | ((with_reducible refine w_call ?_); walk_at "wp") | ((with_reducible refine w_bin ?_); walk_at "wp") | ((with_reducible refine w_cmp ?_); walk_at "wp") | ((with_reducible refine w_sub ?_); walk_at "wp") | ((with_reducible refine w_bi ?_); walk_at "wp") | ((with_reducible refine w_and ?_); walk_at "wp") | ((with_reducible refine w_or ?_); walk_at "wp") | ((with_reducible refine w_not ?_); walk_at "wp") | ((with_reducible refine w_ife ?_); walk_at "wp") | ((with_reducible refine w_slc ?_); walk_at "wp") | ((with_reducible refine w_sset ?_); walk_at "wp") | ((with_reducible refine w_lset ?_); walk_at "wp") | ((with_reducible refine w_rev ?_); walk_at "wp") | ((with_reducible refine w_idx ?_); walk_at "wp") | ((with_reducible apply w_fidx); assumption; walk_at "wp") | ((with_reducible refine w_cmp2 ?_); walk_at "wp") | ((with_reducible refine w_isN ?_); walk_at "wp") | ((with_reducible refine w_notN ?_); walk_at "wp") | ((with_reducible refine w_isi ?_); walk_at "wp") | with_reducible refine w_ono ?_ | ((with_reducible refine w_oso ?_); walk_at "wp") | ((with_reducible refine w_ival ?_); walk_at "wp") | ((with_reducible apply w_ilok); (rfl)) | ((with_reducible refine w_irng1 ?_); walk_at "wp") | ((with_reducible refine w_irng2 ?_); walk_at "wp") | with_reducible refine w_con ?_ | ((with_reducible refine w_cso ?_); walk_at "wp") | ((with_reducible refine w_lc ?_); walk_at "wp") | ((with_reducible apply w_told); assumption) | walk_at "ex")
local macro_rules | `(tactic| walk_at "nf") => `(tactic| dsimp only [loS, unS, putO, back, kill, hide, unhide, shown, Sl.put, Sl.get, rd, List.set_cons_zero, List.set_cons_succ, List.getElem?_cons_zero, List.getElem?_cons_succ, Option.bind_some, toD_fz, toD_ls])
local macro_rules | `(tactic| walk_at "draw") => `(tactic| (refine w_draw (by assumption) (by omega) (by omega) (fun r y hr0 hr1 => ?_)))
local macro_rules | `(tactic| walk_at "run") => `(tactic| repeat walk_at "wp")
local macro_rules | `(tactic| walk_at "ex") => `(tactic| first | ((with_reducible apply Exists.intro); walk_at "ex2") | ((with_reducible apply And.intro); (focus walk_at "cls"); walk_at "ex2"))
local macro_rules | `(tactic| walk_at "ex2") => `(tactic| first | ((with_reducible apply Exists.intro); walk_at "ex2") | ((with_reducible apply And.intro); (focus walk_at "cls"); walk_at "ex2") | skip)
local macro_rules | `(tactic| walk_at "cls") => `(tactic| first | with_reducible exact rngOk_of (by omega) | rfl | walk_at "bin" | walk_at "cmp" | exact rngOk_of (by omega) | exact nodc_fz | exact nodc_ls | exact bi_repr (by assumption) | assumption)
local macro_rules | `(tactic| walk_at "st") => `(tactic| first | (with_reducible refine w_asg ?_) | (with_reducible refine w_asgT ?_) | (with_reducible refine w_if ?_) | (with_reducible refine w_kil ?_) | (with_reducible apply w_nil (N := fun ρ => SR.sat (exSs _ _ ρ) _ _ _ _)) | ((with_reducible apply w_retL); rfl) | ((with_reducible apply w_retO); rfl) | ((with_reducible refine w_ret ?_ ?_); exact hn_of rfl) | ((with_reducible apply w_app); rfl) | (with_reducible refine w_seti ?_) | ((with_reducible apply w_aug); rfl) | (with_reducible refine w_fr ?_) | (with_reducible refine w_exp ?_) | (with_reducible refine w_retn ?_) | (with_reducible refine w_step ?_) | (with_reducible refine w_wh ?_) | ((with_reducible apply w_ext); exact hn_of rfl; rfl) | (with_reducible refine w_cnt ?_) | (with_reducible refine w_brk ?_))
local macro_rules | `(tactic| walk_at "go") => `(tactic| repeat (first | walk_at "wp" | walk_at "nf" | walk_at "st" | walk_at "br"))
local macro_rules | `(tactic| walk_at "br") => `(tactic| first | ((with_reducible apply br_tt); (focus first | assumption | decide)) | ((with_reducible apply br_ff); (focus first | assumption | decide)) | ((with_reducible apply br_ft); (focus first | assumption | decide)) | ((with_reducible apply br_tf); (focus first | assumption | decide)))

section
variable {a b t k c1 c2 : Int} {os is ps : List Int}
theorem cut68 : cutL ((rowC a b t k c1 c2 os is ps).map PyData.int) (some 6) (some 8) = (two c1).map PyData.int := by
  rw [row_1]
  exact mk_mid (p := firstI t k os ps)
theorem chk_pv (s0 s1 y z : Sl) {n : Int} (hc : 0 ≤ c1 ∧ c1 ≤ 65535) (hz : 1 < n → c1 = 0) : PV Φ chkE (Fr s0 s1 n a b t k os is ps (.lo (.fz (TI (rowC a b t k c1 c2 os is ps)))) y z) (.bool false) := by
  have p : PV Φ chkE (Fr s0 s1 n a b t k os is ps (.lo (.fz (TI (rowC a b t k c1 c2 os is ps)))) y z) (.bool (decide (1 < n) && !decide (c1 = 0))) := by
    refine pv_and (pv_gtI (pv_loc rfl) pv_con) fun _ => ?_
    have p0 := pv_slc2 (Φ := Φ) (ρ := Fr s0 s1 n a b t k os is ps (.lo (.fz (TI (rowC a b t k c1 c2 os is ps)))) y z) (a := .loc 5) (l := .con (.int 6)) (h := .con (.int 8)) (pv_loc (d := TI (rowC a b t k c1 c2 os is ps)) rfl) pv_con pv_con
    rw [cut68] at p0
    refine pv_cmp p0 zer_pv ?_
    have z : eqF (TI (two c1)) (.tuple [.int 0, .int 0]) = some (decide (c1 = 0)) := two_zero hc
    show (eqF (TI (two c1)) (.tuple [.int 0, .int 0])).map _ = _
    rw [z]; rfl
  by_cases h : 1 < n
  · rw [hz h] at p ⊢
    rwa [show (decide (1 < n) && !decide ((0 : Int) = 0)) = false by simp] at p
  · rwa [decide_eq_false h, Bool.false_and] at p
theorem fz_mem {c : Int} (h : 0 ≤ c ∧ c ≤ 65535) : 0 ≤ fz c ∧ fz c ≤ 65535 := by unfold fz; split <;> omega
theorem len1 (h : PkI a b t k os is ps 60) : (firstI t k os ps).length + ((endsI a b ++ os) ++ innC k c2 (headI k is) ps).length ≤ 100000 := by
  have := innC_len (c2 := c2) (ps := ps) h.hi
  have := h.lo; have := h.lp; have := siz_mem k
  simp only [List.length_append, first_len, ends_len]; omega
theorem len2 (h : PkI a b t k os is ps 60) (hk : sizI k ≠ 0) : (pre2 a b t k c1 os is ps).length + ps.length ≤ 100000 := by
  have := pre_len (a := a) (b := b) (t := t) (c1 := c1) (os := os) (ps := ps) h.hi hk
  have := h.lo; have := h.lp; have := siz_mem k
  omega
theorem siz_in : decide (k ∈ [(1 : Int), 6, 17]) = decide (sizI k ≠ 0) := by
  refine decide_eq_decide.mpr ?_
  unfold sizI
  simp only [List.mem_cons, List.not_mem_nil, or_false]
  by_cases h6 : k = 6
  · subst h6; decide
  by_cases h17 : k = 17
  · subst h17; decide
  by_cases h1 : k = 1
  · subst h1; decide
  · simp [h1, h6, h17]
theorem rest_at (F : Fk Φ) (s0 s1 : Sl) {n : Int} (h : PkI a b t k os is ps 60) (hz : 1 < n → c1I a b t k os ps = 0) : (exSs Φ restB (Fr s0 s1 n a b t k os is ps .un .un .un)).sat (fun ρ => Is (∃ x y z, ρ = Fr s0 s1 n a b t k os is ps x y z)) (fun _ _ => False) (fun _ => False) fun _ => False := by
  have v := ver_made h
  have vf := ver_ff h
  rw [rest_eq]
  refine w_asg (w_pv (pv_call1 (pv_loc rfl) (F.lb _ _ _ _ _ _ _ (pk_ok h (by decide)))) ?_)
  rw [row_C]
  show (exSs Φ _ (Fr s0 s1 n a b t k os is ps (.lo (.fz (TI (rowC a b t k (c1I a b t k os ps) (c2I a b k is ps) os is ps)))) .un .un)).sat _ _ _ _
  unfold c1I c2I at *
  generalize ckI (firstI t k os ps ++ [0, 0] ++ (endsI a b ++ os)) = c1 at *
  generalize ckI (plainI a b k (headI k is) ps) = c2 at *
  have r1 := v.r1
  have r2 := v.r2
  refine w_if0 (w_tst (chk_pv s0 s1 _ _ r1 hz) ⟨rfl, w_nil ?_⟩)
  refine w_if0 (w_tst (pv_not (sam2_pv F s0 s1 _ _ h v)) ⟨rfl, w_nil ?_⟩)
  refine w_asg (w_pv pv_con ?_)
  show (exSs Φ _ (Fr s0 s1 n a b t k os is ps (.lo (.fz (TI (rowC a b t k c1 c2 os is ps)))) (.lo (.fz (.int 6))) .un)).sat _ _ _ _
  suffices hs : (exSs Φ (.cons (.asg 6 atE)
    (.cons (.iff (.and (.cmp .isin (.sub (.loc 3) (.con (.int 2))) (.tup (.cons (.con (.int 1)) (.cons (.con (.int 6)) (.cons (.con (.int 17)) .nil))))) (.cmp .eq (atP (.loc 6)) zerE)) (.cons (.asg 5 ffE) .nil) .nil) (.cons (.iff (.not sam1E) retF2 .nil) .nil))) (Fr s0 s1 n a b t k os is ps (.lo (.fz (TI (rowC a b t k (fz c1) c2 os is ps)))) (.lo (.fz (.int 6))) .un)).sat (fun ρ => Is (∃ x y z, ρ = Fr s0 s1 n a b t k os is ps x y z)) (fun _ _ => False) (fun _ => False) fun _ => False by
    have q := atz_pv (Φ := Φ) (ρ := Fr s0 s1 n a b t k os is ps (.lo (.fz (TI (rowC a b t k c1 c2 os is ps)))) (.lo (.fz (.int 6))) .un) (p := firstI t k os ps) (c := c1) (q := (endsI a b ++ os) ++ innC k c2 (headI k is) ps) (by rw [← row_1]; rfl) rfl r1
    by_cases hc : c1 = 0
    · refine w_if1 (w_tst q ⟨decide_eq_true hc, ?_⟩)
      refine w_asg (w_pv (ff_pv (p := firstI t k os ps) (c := c1) (q := (endsI a b ++ os) ++ innC k c2 (headI k is) ps) (by rw [← row_1]; rfl) rfl (len1 h)) (w_nil ?_))
      rw [← row_1]
      rwa [show fz c1 = 65535 from if_pos hc] at hs
    · refine w_if0 (w_tst q ⟨decide_eq_false hc, w_nil ?_⟩)
      rwa [show fz c1 = c1 from if_neg hc] at hs
  refine w_asg (w_pv (at_pv F s0 s1 _ _ _) ?_)
  show (exSs Φ _ (Fr s0 s1 n a b t k os is ps (.lo (.fz (TI (rowC a b t k (fz c1) c2 os is ps)))) (.lo (.fz (.int (12 + os.length + sizI k - 2)))) .un)).sat _ _ _ _
  suffices hs : (exSs Φ (.cons (.iff (.not sam1E) retF2 .nil) .nil) (Fr s0 s1 n a b t k os is ps (.lo (.fz (TI (rowC a b t k (fz c1) (fz c2) os is ps)))) (.lo (.fz (.int (12 + os.length + sizI k - 2)))) .un)).sat (fun ρ => Is (∃ x y z, ρ = Fr s0 s1 n a b t k os is ps x y z)) (fun _ _ => False) (fun _ => False) fun _ => False by
    have p0 : PV Φ (.cmp .isin (.sub (.loc 3) (.con (.int 2))) (.tup (.cons (.con (.int 1)) (.cons (.con (.int 6)) (.cons (.con (.int 17)) .nil))))) (Fr s0 s1 n a b t k os is ps (.lo (.fz (TI (rowC a b t k (fz c1) c2 os is ps)))) (.lo (.fz (.int (12 + os.length + sizI k - 2)))) .un) (.bool (decide (sizI k ≠ 0))) := by
      rw [← siz_in]
      exact pv_inI (pv_sub (pv_loc rfl) (rfl : L2.atI [.int a, .int b, .int k, .int t, TI os, TI is, TI ps] 2 = some (.int k))) (pv_tup (pvs_cons pv_con (pvs_cons pv_con (pvs_cons pv_con pvs_nil))))
    by_cases hk : sizI k ≠ 0
    · have hl := pre_len (a := a) (b := b) (t := t) (c1 := fz c1) (os := os) (ps := ps) h.hi hk
      rw [decide_eq_true hk] at p0
      have q := atz_pv (Φ := Φ) (ρ := Fr s0 s1 n a b t k os is ps (.lo (.fz (TI (rowC a b t k (fz c1) c2 os is ps)))) (.lo (.fz (.int (12 + os.length + sizI k - 2)))) .un) (p := pre2 a b t k (fz c1) os is ps) (c := c2) (q := ps) (by rw [← row_2 hk]; rfl) (by rw [hl]; rfl) r2
      have pq := pv_and p0 fun _ => q
      by_cases hc : c2 = 0
      · refine w_if1 (w_tst pq ⟨by rw [decide_eq_true hc]; rfl, ?_⟩)
        refine w_asg (w_pv (ff_pv (p := pre2 a b t k (fz c1) os is ps) (c := c2) (q := ps) (by rw [← row_2 hk]; rfl) (by rw [hl]; rfl) (len2 h hk)) (w_nil ?_))
        rw [← row_2 hk]
        rwa [show fz c2 = 65535 from if_pos hc] at hs
      · refine w_if0 (w_tst pq ⟨by rw [decide_eq_false hc]; rfl, w_nil ?_⟩)
        rwa [show fz c2 = c2 from if_neg hc] at hs
    · rw [decide_eq_false hk] at p0
      have pq := pv_and (b := .cmp .eq (atP (.loc 6)) zerE) (d := false) p0 fun z => nomatch z
      refine w_if0 (w_tst pq ⟨rfl, w_nil ?_⟩)
      have e : ∀ c, rowC a b t k (fz c1) c os is ps = rowC a b t k (fz c1) c2 os is ps := fun c => by
        unfold rowC innC
        rw [if_pos (Classical.not_not.mp hk), if_pos (Classical.not_not.mp hk)]
      rwa [e (fz c2)] at hs
  refine w_if0 (w_tst (pv_not (sam1_pv F s0 s1 _ _ h vf)) ⟨rfl, w_nil (w_nil ?_)⟩)
  exact Is.mk ⟨_, _, _, rfl⟩
/-! ### the packet changed -/
def fldE (e g : IE) : IE := .call F_law_fold (.cons (.lst (.cons e (.cons g .nil))) .nil)
def E3a : IE := .bin .add (.tup (.cons (fldE (.sub (.loc 3) (.con (.int 0))) (wdE (.con (.int 6)) (.con (.int 7)))) .nil)) (.slc (.loc 3) (.so (.con (.int 1))) .no)
def wd6 : IE := wdE (.loc 6) (.bin .add (.loc 6) (.con (.int 1)))
def E3b : IE := .bin .add (.slc (.loc 3) .no (.so (.con (.int 5)))) (.tup (.cons (.bin .add (.tup (.cons (fldE (.sub (.sub (.loc 3) (.con (.int 5))) (.con (.int 0))) wd6) .nil)) (.slc (.sub (.loc 3) (.con (.int 5))) (.so (.con (.int 1))) .no)) (.cons (.sub (.loc 3) (.con (.int 6))) .nil)))
def E7 : IE := fldE (.bin .add (.bin .mul (.con (.int 256)) (.sub (.sub (.loc 3) (.con (.int 5))) (.con (.int 0)))) (.sub (.sub (.loc 3) (.con (.int 5))) (.con (.int 1)))) wd6
def E3c : IE := .bin .add (.slc (.loc 3) .no (.so (.con (.int 5)))) (.tup (.cons (.call F_law_two (.cons (.loc 7) .nil)) (.cons (.sub (.loc 3) (.con (.int 6))) .nil)))
def in2E : IE := .cmp .isin (.sub (.loc 3) (.con (.int 2))) (.tup (.cons (.con (.int 6)) (.cons (.con (.int 17)) .nil)))
def eq1E : IE := .cmp .eq (.sub (.loc 3) (.con (.int 2))) (.con (.int 1))
def chg2 : ISs := .cons (.iff in2E (.cons (.asg 3 E3b) .nil) .nil) (.cons (.iff eq1E (.cons (.asg 7 E7) (.cons (.asg 3 E3c) .nil)) .nil) (.kil [7] .nil))
theorem chg_eq : chgB = .cons (.asg 5 (.call F_law_bytes (.cons (.loc 3) .nil))) (.cons (.asg 3 E3a) (.cons (.asg 5 (.call F_law_bytes (.cons (.loc 3) .nil))) (.cons (.asg 6 atE) chg2))) := rfl
theorem fol2 (F : Fk Φ) {x y : Int} (h : 0 ≤ x ∧ x ≤ 16777216) (g : 0 ≤ y ∧ y ≤ 65535) : Φ F_law_fold [.ls [.int x, .int y]] = .ok (.fz (.int (foldI (x + y)))) [some (.ls [.int x, .int y])] := by
  have e : ([x, y] : List Int).sum = x + y := by simp
  have := F.fol [x, y] (by rw [e]; omega) (by rw [e]; omega)
  rw [e] at this
  exact this
theorem l0 {a b c d e f g : PyData} : L2.atI [a, b, c, d, e, f, g] 0 = some a := rfl
theorem l2 {a b c d e f g : PyData} : L2.atI [a, b, c, d, e, f, g] 2 = some c := rfl
theorem l5 {a b c d e f g : PyData} : L2.atI [a, b, c, d, e, f, g] 5 = some f := rfl
theorem l6 {a b c d e f g : PyData} : L2.atI [a, b, c, d, e, f, g] 6 = some g := rfl
theorem chg2_at (F : Fk Φ) (s0 s1 : Sl) {n : Int} (h : PkI a b t k os is ps 60) (hc : 0 ≤ c2 ∧ c2 ≤ 65535) (h0 : c1I a b t k os ps = 0) :
    (exSs Φ chg2 (Fr s0 s1 n a b t k os is ps (.lo (.fz (TI (rowC a b t k c1 c2 os is ps)))) (.lo (.fz (.int (12 + os.length + sizI k - 2)))) .un)).sat (fun ρ => Is (∃ is' x y z, ρ = Fr s0 s1 n a b t k os is' ps x y z ∧ PkI a b t k os is' ps 60)) (fun _ _ => False) (fun _ => False) fun _ => False := by
  have e2 : ∀ (is : List Int) (x y z : Sl), PV Φ (.sub (.loc 3) (.con (.int 2))) (Fr s0 s1 n a b t k os is ps x y z) (.int k) := fun is x y z => pv_sub (pv_loc rfl) l2
  have i2 : ∀ (is : List Int) (x y z : Sl), PV Φ in2E (Fr s0 s1 n a b t k os is ps x y z) (.bool (decide (k ∈ [(6 : Int), 17]))) := fun is x y z => pv_inI (e2 is x y z) (pv_tup (pvs_cons pv_con (pvs_cons pv_con pvs_nil)))
  have q1 : ∀ (is : List Int) (x y z : Sl), PV Φ eq1E (Fr s0 s1 n a b t k os is ps x y z) (.bool (decide (k = 1))) := fun is x y z => pv_eqI (e2 is x y z) pv_con
  have up : ∀ is', InhOk k is' → PkI a b t k os is' ps 60 := fun is' hi => ⟨h.ha, h.hb, h.ht, h.hk, h.so, h.lo, h.l2, hi, h.sp, h.lp⟩
  unfold chg2
  by_cases hk : sizI k ≠ 0
  · have hl := pre_len (a := a) (b := b) (t := t) (c1 := c1) (os := os) (ps := ps) h.hi hk
    have w : PV Φ wd6 (Fr s0 s1 n a b t k os is ps (.lo (.fz (TI (rowC a b t k c1 c2 os is ps)))) (.lo (.fz (.int (12 + os.length + sizI k - 2)))) .un) (.int c2) := by
      refine wd_pv (p := pre2 a b t k c1 os is ps) (q := ps) (by rw [← row_2 hk]; rfl) (pv_loc (by rw [hl]; rfl)) ?_
      rw [hl]
      exact pv_add (pv_loc rfl) pv_con
    by_cases h1 : k = 1
    · have d1 : decide (k ∈ [(6 : Int), 17]) = false := by rw [h1]; rfl
      refine w_if0 (w_tst (i2 _ _ _ _) ⟨d1, w_nil ?_⟩)
      refine w_if1 (w_tst (q1 _ _ _ _) ⟨decide_eq_true h1, ?_⟩)
      obtain ⟨i, j, rfl, gi, gj⟩ := h.hi.h1 h1
      have p5 := pv_sub (Φ := Φ) (ρ := Fr s0 s1 n a b t k os [i, j] ps (.lo (.fz (TI (rowC a b t k c1 c2 os [i, j] ps)))) (.lo (.fz (.int (12 + os.length + sizI k - 2)))) .un) (a := .loc 3) (k := 5) (pv_loc rfl) (l5 (a := .int a) (b := .int b) (c := .int k) (d := .int t) (e := TI os) (f := TI [i, j]) (g := TI ps))
      have p7 := pv_fold2 (pv_add (pv_bin (op := .mul) (pv_con (d := .int 256)) (pv_sub (k := 0) (d := .int i) p5 rfl) (bin_mul (wee_l (by decide)))) (pv_sub (k := 1) (d := .int j) p5 rfl)) w (fol2 F (x := 256 * i + j) (by omega) hc)
      have r := foldI_mem (256 * i + j + c2) (by omega)
      refine w_asg (w_pv p7 ?_)
      generalize foldI (256 * i + j + c2) = v at *
      refine w_asg (w_pv (d := PkD a b t k os (two v) ps) (pv_bin (pv_slcH (pv_loc (d := PkD a b t k os [i, j] ps) rfl)) (pv_tup (pvs_cons (pv_call1 (pv_loc (d := .int v) rfl) (F.two v)) (pvs_cons (pv_sub (a := .loc 3) (k := 6) (pv_loc (d := PkD a b t k os [i, j] ps) rfl) l6) pvs_nil))) ?_) ?_)
      · exact bin_cat (show 5 + 2 ≤ 16777216 by decide)
      refine w_nil (w_kil (w_nil (Is.mk ⟨two v, _, _, _, rfl, up _ ⟨fun z => by omega, fun z => by omega, fun _ => ⟨_, _, rfl, by omega, by omega⟩, fun _ _ z => absurd h1 z⟩⟩)))
    · have hk2 : k = 6 ∨ k = 17 := by
        unfold sizI at hk
        by_cases h6 : k = 6
        · exact .inl h6
        by_cases h17 : k = 17
        · exact .inr h17
        rw [if_neg h6, if_neg h17, if_neg h1] at hk
        exact absurd rfl hk
      have d1 : decide (k ∈ [(6 : Int), 17]) = true := decide_eq_true (by simp only [List.mem_cons, List.not_mem_nil, or_false]; exact hk2)
      obtain ⟨i, r, rfl, gi, hi⟩ : ∃ i r, is = i :: r ∧ (0 ≤ i ∧ i ≤ 65535) ∧ ∀ i', 0 ≤ i' ∧ i' ≤ 65535 → InhOk k (i' :: r) := by
        rcases hk2 with h6 | h17
        · obtain ⟨i, j, l, e, g1, g2, g3⟩ := h.hi.h6 h6
          exact ⟨i, [j, l], e, g1, fun i' g => ⟨fun _ => ⟨_, _, _, rfl, g, g2, g3⟩, fun z => by omega, fun z => by omega, fun z => absurd h6 z⟩⟩
        · obtain ⟨i, j, e, g1, g2⟩ := h.hi.h17 h17
          exact ⟨i, [j], e, g1, fun i' g => ⟨fun z => by omega, fun _ => ⟨_, _, rfl, g, g2⟩, fun z => by omega, fun _ z => absurd h17 z⟩⟩
      refine w_if1 (w_tst (i2 _ _ _ _) ⟨d1, ?_⟩)
      have p5 := pv_sub (Φ := Φ) (ρ := Fr s0 s1 n a b t k os (i :: r) ps (.lo (.fz (TI (rowC a b t k c1 c2 os (i :: r) ps)))) (.lo (.fz (.int (12 + os.length + sizI k - 2)))) .un) (a := .loc 3) (k := 5) (pv_loc rfl) (l5 (a := .int a) (b := .int b) (c := .int k) (d := .int t) (e := TI os) (f := TI (i :: r)) (g := TI ps))
      have p7 := pv_fold2 (pv_sub (k := 0) (d := .int i) p5 (atI_nat (k := 0) rfl)) w (fol2 F (x := i) (by omega) hc)
      have g := foldI_mem (i + c2) (by omega)
      generalize foldI (i + c2) = v at *
      have ps1 := pv_slcL (n := 1) p5
      rw [show cutL ((i :: r).map PyData.int) (some 1) none = r.map PyData.int from cut_drop (m := 1)] at ps1
      have p8 := pv_bin (op := .add) (pv_tup (pvs_cons p7 pvs_nil)) ps1 (bin_cat (by
        have := (inh_bt (hi v g)).2
        simp only [List.length_cons, List.length_nil, List.length_map] at this ⊢; omega))
      refine w_asg (w_pv (d := PkD a b t k os (v :: r) ps) (pv_bin (pv_slcH (pv_loc (d := PkD a b t k os (i :: r) ps) rfl)) (pv_tup (pvs_cons p8 (pvs_cons (pv_sub (a := .loc 3) (k := 6) (pv_loc (d := PkD a b t k os (i :: r) ps) rfl) l6) pvs_nil))) ?_) ?_)
      · exact bin_cat (show 5 + 2 ≤ 16777216 by decide)
      refine w_nil ?_
      refine w_if0 (w_tst (q1 (v :: r) _ _ _) ⟨decide_eq_false h1, w_nil (w_kil (w_nil ?_))⟩)
      exact Is.mk ⟨v :: r, _, _, _, rfl, up _ (hi v g)⟩
  · have d1 : decide (k ∈ [(6 : Int), 17]) = false := decide_eq_false fun z => by
      simp only [List.mem_cons, List.not_mem_nil, or_false] at z
      unfold sizI at hk
      rcases z with rfl | rfl <;> exact hk (by decide)
    have d2 : decide (k = 1) = false := decide_eq_false fun z => by
      subst z; exact hk (by decide)
    refine w_if0 (w_tst (i2 _ _ _ _) ⟨d1, w_nil ?_⟩)
    refine w_if0 (w_tst (q1 _ _ _ _) ⟨d2, w_nil (w_kil (w_nil ?_))⟩)
    exact Is.mk ⟨is, _, _, _, rfl, h⟩
theorem chg_at (F : Fk Φ) (s0 s1 : Sl) {n : Int} (h : PkI a b t k os is ps 60) :
    (exSs Φ chgB (Fr s0 s1 n a b t k os is ps .un .un .un)).sat (fun ρ => Is (∃ a' is' x y z, ρ = Fr s0 s1 n a' b t k os is' ps x y z ∧ PkI a' b t k os is' ps 60 ∧ c1I a' b t k os ps = 0)) (fun _ _ => False) (fun _ => False) fun _ => False := by
  have v := ver_made h
  have r1 := v.r1
  have cz := ck_zero h is
  have ha := h.ha
  have hr := foldI_mem (a + ckI (firstI t k os ps ++ [0, 0] ++ (endsI a b ++ os))) (by omega)
  rw [chg_eq]
  refine w_asg (w_pv (pv_call1 (pv_loc rfl) (F.lb _ _ _ _ _ _ _ (pk_ok h (by decide)))) ?_)
  rw [row_C]
  generalize ckI (firstI t k os ps ++ [0, 0] ++ (endsI a b ++ os)) = c1 at *
  generalize ckI (plainI a b k (headI k is) ps) = c2 at *
  show (exSs Φ _ (Fr s0 s1 n a b t k os is ps (.lo (.fz (TI (rowC a b t k c1 c2 os is ps)))) .un .un)).sat _ _ _ _
  have w := wd_pv (Φ := Φ) (ρ := Fr s0 s1 n a b t k os is ps (.lo (.fz (TI (rowC a b t k c1 c2 os is ps)))) .un .un) (p := firstI t k os ps) (c := c1) (q := (endsI a b ++ os) ++ innC k c2 (headI k is) ps) (e := .con (.int 6)) (g := .con (.int 7)) (by rw [← row_1]; rfl) pv_con pv_con
  have p7 := pv_fold2 (pv_sub (a := .loc 3) (k := 0) (d := .int a) (pv_loc (d := PkD a b t k os is ps) rfl) l0) w (fol2 F (x := a) (by omega) r1)
  generalize foldI (a + c1) = a' at *
  have h' : PkI a' b t k os is ps 60 := ⟨hr, h.hb, h.ht, h.hk, h.so, h.lo, h.l2, h.hi, h.sp, h.lp⟩
  refine w_asg (w_pv (d := PkD a' b t k os is ps) (pv_bin (pv_tup (pvs_cons p7 pvs_nil)) (pv_slcL (pv_loc (d := PkD a b t k os is ps) rfl)) (bin_cat (show 1 + 6 ≤ 16777216 by decide))) ?_)
  refine w_asg (w_pv (pv_call1 (pv_loc rfl) (F.lb a' b t k os is ps (pk_ok h' (by decide)))) ?_)
  rw [row_C]
  have v' := ver_made h'
  refine w_asg (w_pv (at_pv (a := a') (b := b) (t := t) (k := k) (os := os) (is := is) (ps := ps) F s0 s1 _ _ _) ?_)
  refine SR.sat_imp (chg2_at F s0 s1 h' v'.r2 cz) (fun ρ z => ?_) (fun _ _ z => z) (fun _ z => z) fun _ z => z
  obtain ⟨is', x, y, z, e, hp⟩ := z
  exact Is.mk ⟨a', is', x, y, z, e, hp, cz⟩
end
end
end Law


/-! k12, part 10: the law. -/
namespace Law
open PySem GW
section
variable {Φ : Nat → List O → CR} {N : Fm → Prop} {R : O → Fm → Prop} {B C : Fm → Prop}
local macro_rules | `(tactic| walk_at "bin") => `(tactic| first | rfl | exact bin_mul (wee_r (by decide)) | exact bin_mul (wee_l (by decide)) | exact bin_div (by decide) | exact bin_mod (by decide) | exact bin_mod (by omega) | exact bin_div (by omega) | exact bin_mul (wee_r (by omega)) | exact bin_mul (wee_l (by omega)) | exact bin_cat (by simp only [List.length_append, List.length_cons, List.length_nil, List.length_map]; omega) | exact bin_catL (by simp only [List.length_append, List.length_cons, List.length_nil, List.length_map]; omega))
local macro_rules | `(tactic| walk_at "cmp") => `(tactic| first | exact ne_str _ | exact cmp_eqI _ _ | exact cmp_neI _ _ | rfl | exact ne_refl rfl rfl (by assumption) | exact eq_refl rfl rfl (by assumption))
local macro_rules | `(tactic| walk_at "pv") => `(tactic| first | with_reducible exact pv_con | ((with_reducible apply pv_loc); rfl) | with_reducible exact pv_glo | ((with_reducible apply pv_bin); walk_at "pv"; walk_at "pv"; walk_at "bin") | ((with_reducible apply pv_cmp); walk_at "pv"; walk_at "pv"; walk_at "cmp") | ((with_reducible apply pv_cmp2); walk_at "pv"; walk_at "pv"; walk_at "pv"; walk_at "cmp"; walk_at "cmp") | ((with_reducible apply pv_sel); walk_at "pv"; walk_at "pv"; first | rfl | assumption) | ((with_reducible apply pv_tup); walk_at "pvs") | ((with_reducible apply pv_not); walk_at "pv") | ((with_reducible apply pv_and); walk_at "pv"; intro _; walk_at "pv") | ((with_reducible apply pv_or); walk_at "pv"; intro _; walk_at "pv") | ((with_reducible apply pv_neg); walk_at "pv") | ((with_reducible apply pv_isi); walk_at "pv"; rfl) | ((with_reducible apply pv_isN); walk_at "pv") | ((with_reducible apply pv_bi1); walk_at "pv"; first | rfl | exact bi_repr (by assumption)) | ((with_reducible apply pv_bi2); walk_at "pv"; walk_at "pv"; rfl) | ((with_reducible apply pv_call); walk_at "pas"; walk_at "told"))
local macro_rules | `(tactic| walk_at "pvs") => `(tactic| first | with_reducible exact pvs_nil | ((with_reducible apply pvs_cons); walk_at "pv"; walk_at "pvs"))
local macro_rules | `(tactic| walk_at "pas") => `(tactic| first | with_reducible exact pas_nil | ((with_reducible apply pas_cons); walk_at "pv"; walk_at "pas"))
local macro_rules | `(tactic| walk_at "told") => `(tactic| assumption)
local macro_rules | `(tactic| walk_at "wp") => `(tactic| first | ((with_reducible apply w_dpvs); (walk_at "pvs")) | ((with_reducible refine w_dcons ?_); walk_at "wp") | with_reducible refine w_dnil ?_ | ((with_reducible apply w_frzP); (walk_at "pv")) | ((with_reducible refine w_frz ?_); walk_at "wp") | ((with_reducible apply w_tst); (walk_at "pv")) | ((with_reducible apply w_pv); (walk_at "pv")) | ((with_reducible apply w_locL); rfl) | ((with_reducible apply w_prepL); (rfl)) | ((with_reducible refine w_prepE ?_ ?_); exact hn_of rfl; walk_at "wp") | ((with_reducible refine w_tstE ?_ ?_); exact hn_of rfl; walk_at "wp") | ((with_reducible refine w_acons ?_); walk_at "wp") | with_reducible refine w_anil ?_ | ((with_reducible refine w_tup ?_); walk_at "wp") | ((with_reducible refine w_lst ?_); walk_at "wp") | ((with_reducible refine w_call ?_); walk_at "wp") | ((with_reducible refine w_bin ?_); walk_at "wp") | ((with_reducible refine w_cmp ?_); walk_at "wp") | ((with_reducible refine w_sub ?_); walk_at "wp") | ((with_reducible refine w_bi ?_); walk_at "wp") | ((with_reducible refine w_and ?_); walk_at "wp") | ((with_reducible refine w_or ?_); walk_at "wp") | ((with_reducible refine w_not ?_); walk_at "wp") | ((with_reducible refine w_ife ?_); walk_at "wp") | ((with_reducible refine w_slc ?_); walk_at "wp") | ((with_reducible refine w_sset ?_); walk_at "wp") | ((with_reducible refine w_lset ?_); walk_at "wp") | ((with_reducible refine w_rev ?_); walk_at "wp") | ((with_reducible refine w_idx ?_); walk_at "wp") | ((with_reducible apply w_fidx); assumption; walk_at "wp") | ((with_reducible refine w_cmp2 ?_); walk_at "wp") | ((with_reducible refine w_isN ?_); walk_at "wp") | ((with_reducible refine w_notN ?_); walk_at "wp") | ((with_reducible refine w_isi ?_); walk_at "wp") | with_reducible refine w_ono ?_ | ((with_reducible refine w_oso ?_); walk_at "wp") | ((with_reducible refine w_ival ?_); walk_at "wp") | ((with_reducible apply w_ilok); (rfl)) | ((with_reducible refine w_irng1 ?_); walk_at "wp") | ((with_reducible refine w_irng2 ?_); walk_at "wp") | with_reducible refine w_con ?_ | ((with_reducible refine w_cso ?_); walk_at "wp") | ((with_reducible refine w_lc ?_); walk_at "wp") | ((with_reducible apply w_told); assumption) | walk_at "ex")
local macro_rules | `(tactic| walk_at "nf") => `(tactic| dsimp only [loS, unS, putO, back, kill, hide, unhide, shown, Sl.put, Sl.get, rd, List.set_cons_zero, List.set_cons_succ, List.getElem?_cons_zero, List.getElem?_cons_succ, Option.bind_some, toD_fz, toD_ls])
local macro_rules | `(tactic| walk_at "draw") => `(tactic| (refine w_draw (by assumption) (by omega) (by omega) (fun r y hr0 hr1 => ?_)))
local macro_rules | `(tactic| walk_at "run") => `(tactic| repeat walk_at "wp")
local macro_rules | `(tactic| walk_at "ex") => `(tactic| first | ((with_reducible apply Exists.intro); walk_at "ex2") | ((with_reducible apply And.intro); (focus walk_at "cls"); walk_at "ex2"))
local macro_rules | `(tactic| walk_at "ex2") => `(tactic| first | ((with_reducible apply Exists.intro); walk_at "ex2") | ((with_reducible apply And.intro); (focus walk_at "cls"); walk_at "ex2") | skip)
local macro_rules | `(tactic| walk_at "cls") => `(tactic| first | with_reducible exact rngOk_of (by omega) | rfl | walk_at "bin" | walk_at "cmp" | exact rngOk_of (by omega) | exact nodc_fz | exact nodc_ls | exact bi_repr (by assumption) | assumption)
local macro_rules | `(tactic| walk_at "st") => `(tactic| first | (with_reducible refine w_asg ?_) | (with_reducible refine w_asgT ?_) | (with_reducible refine w_if ?_) | (with_reducible refine w_kil ?_) | (with_reducible apply w_nil (N := fun ρ => SR.sat (exSs _ _ ρ) _ _ _ _)) | ((with_reducible apply w_retL); rfl) | ((with_reducible apply w_retO); rfl) | ((with_reducible refine w_ret ?_ ?_); exact hn_of rfl) | ((with_reducible apply w_app); rfl) | (with_reducible refine w_seti ?_) | ((with_reducible apply w_aug); rfl) | (with_reducible refine w_fr ?_) | (with_reducible refine w_exp ?_) | (with_reducible refine w_retn ?_) | (with_reducible refine w_step ?_) | (with_reducible refine w_wh ?_) | ((with_reducible apply w_ext); exact hn_of rfl; rfl) | (with_reducible refine w_cnt ?_) | (with_reducible refine w_brk ?_))
local macro_rules | `(tactic| walk_at "go") => `(tactic| repeat (first | walk_at "wp" | walk_at "nf" | walk_at "st" | walk_at "br"))
local macro_rules | `(tactic| walk_at "br") => `(tactic| first | ((with_reducible apply br_tt); (focus first | assumption | decide)) | ((with_reducible apply br_ff); (focus first | assumption | decide)) | ((with_reducible apply br_ft); (focus first | assumption | decide)) | ((with_reducible apply br_tf); (focus first | assumption | decide)))

abbrev L0 (d : PyData) (y : P5) (w : Sl) : Fm := [.pa (.fz d), .lo (.ls (pl y)), w, .un, .un, .un, .un, .un]
theorem law_at (F : Fk Φ) {d : PyData} {x : P5} (e : Φ F_law_pool [.fz d] = .ok (.ls (pl x)) [none]) : (exSs Φ Blaw [.pa (.fz d), .un, .un, .un, .un, .un, .un, .un]).sat (fun _ => False) (fun o ρ => o = .fz (.bool true) ∧ ∃ r, ρ = .pa (.fz d) :: r) (fun _ => False) fun _ => False := by
  rw [law_body]
  walk_at "go"
  refine frF_sat (fun ds ρ => (∀ d ∈ ds, ∃ k : Int, d = .int k) ∧ ∃ y, ρ = L0 d y .un) ?_ ?_ ⟨fun d hd => ?_, x, rfl⟩
  · rintro k0 ds ρ ⟨hds, y, rfl⟩
    obtain ⟨n, rfl⟩ := hds k0 List.mem_cons_self
    have tl : ∀ d ∈ ds, ∃ k : Int, d = .int k := fun d h => hds d (List.mem_cons_of_mem _ h)
    refine ⟨_, rfl, ?_⟩
    show (exSs Φ turnB (L0 d y (.lo (.fz (.int n))))).sat _ _ _ _
    obtain ⟨a, b, t, k, os, is, ps, z, e2, h⟩ := F.pkt y 60 (by decide) (by decide)
    unfold turnB
    walk_at "go"
    rw [List.length_map]
    have fin : ∀ (a : Int) (is : List Int), PkI a b t k os is ps 60 → (1 < n → c1I a b t k os ps = 0) → ∀ u v w, (exSs Φ (.kil [5, 6, 7] restB) (Fr (.pa (.fz d)) (.lo (.ls (pl z))) n a b t k os is ps u v w)).sat (fun ρ => (∀ d ∈ ds, ∃ k : Int, d = .int k) ∧ ∃ y, kill [2, 3, 4, 5, 6, 7] ρ = L0 d y .un) (fun _ _ => False) (fun _ => False) fun _ => False := fun a is h hz u v w => by
      refine w_kil ?_
      refine SR.sat_imp (rest_at F (.pa (.fz d)) (.lo (.ls (pl z))) h hz) (fun ρ q => ?_) (fun _ _ q => q) (fun _ q => q) fun _ q => q
      obtain ⟨u, v, w, rfl⟩ := q
      exact ⟨tl, z, rfl⟩
    refine ⟨fun hn => ?_, fun hn => ?_⟩
    · refine SR.sat_imp (chg_at F (.pa (.fz d)) (.lo (.ls (pl z))) h) (fun ρ q => ?_) (fun _ _ q => q.elim) (fun _ q => q.elim) fun _ q => q.elim
      obtain ⟨a', is', u, v, w, rfl, h', c0⟩ := q
      exact SR.sat_imp (fin a' is' h' (fun _ => c0) u v w) (fun _ q => q) (fun _ _ q => q.elim) (fun _ q => q.elim) fun _ q => q.elim
    · refine w_nil ?_
      exact SR.sat_imp (fin a is h (fun z => absurd z (of_decide_eq_false hn)) _ _ _) (fun _ q => q) (fun _ _ q => q.elim) (fun _ q => q.elim) fun _ q => q.elim
  · rintro ρ ⟨_, y, rfl⟩
    show (exSs Φ _ (L0 d y .un)).sat _ _ _ _
    walk_at "go"
  · obtain ⟨k, _, e⟩ := rngD_mem hd
    exact ⟨_, e⟩
end
theorem run_eq {T : List Df} {n f : Nat} {d : Df} {os : List O} {o : O} {ps : List (Option O)} {P : O → Fm → Prop} (hd : T[f]? = some d) (hl : os.length = d.np) (h : (exSs (callN T n) d.body (frame0 d.N.length os)).sat (fun _ => False) P (fun _ => False) fun _ => False) (k : ∀ o' ρ, P o' ρ → o' = o ∧ fins os ρ = ps) : callN T (n + 1) f os = .ok o ps :=
  eq_of_sat (callN_sat hd hl (SR.sat_imp h (fun _ z => z.elim) k (fun _ z => z) fun _ z => z))
theorem run_ex {T : List Df} {n f : Nat} {d : Df} {os : List O} {Q : O → List (Option O) → Prop} {P : O → Fm → Prop} (hd : T[f]? = some d) (hl : os.length = d.np) (h : (exSs (callN T n) d.body (frame0 d.N.length os)).sat (fun _ => False) P (fun _ => False) fun _ => False) (k : ∀ o' ρ, P o' ρ → Q o' (fins os ρ)) : ∃ o ps, callN T (n + 1) f os = .ok o ps ∧ Q o ps :=
  CR.sat_ok (callN_sat hd hl (SR.sat_imp h (fun _ z => z.elim) k (fun _ z => z) fun _ z => z))
theorem fins1 {d : PyData} {r : Fm} : fins [.fz d] (.pa (.fz d) :: r) = [none] := by cases r <;> rfl
theorem fins2 {d e : PyData} {r : Fm} : fins [.fz d, .fz e] (.pa (.fz d) :: .pa (.fz e) :: r) = [none, none] := by cases r <;> rfl
theorem fins3 {d e g : PyData} {r : Fm} : fins [.fz d, .fz e, .fz g] (.pa (.fz d) :: .pa (.fz e) :: .pa (.fz g) :: r) = [none, none, none] := by cases r <;> rfl
theorem okI {row : List Int} (h : row.length ≤ 1600) : okD 1 (TI row) = true := by
  show (decide ((row.map PyData.int).length ≤ 16777216) && (row.map PyData.int).all (okD 0)) = true
  rw [List.length_map, decide_eq_true (by omega), List.all_map]
  exact List.all_eq_true.mpr fun x _ => rfl
theorem okP {a b t k : Int} {os is ps : List Int} (h : PkI a b t k os is ps 60) : okD 2 (PkD a b t k os is ps) = true := by
  have h1 := okI (row := os) (by have := h.lo; omega)
  have h2 := okI (row := is) (by have := (inh_bt h.hi).2; omega)
  have h3 := okI (row := ps) (by have := h.lp; omega)
  show (decide (7 ≤ 16777216) && (true && (true && (true && (true && (okD 1 (TI os) && (okD 1 (TI is) && (okD 1 (TI ps) && true)))))))) = true
  rw [h1, h2, h3]; rfl
theorem okPP {a b t k : Int} {os is ps : List Int} (h : PkI a b t k os is ps 60) : okD 3 (.list [PkD a b t k os is ps, PkD a b t k os is ps]) = true := by
  have h1 := okP h
  show (decide (2 ≤ 16777216) && (okD 2 (PkD a b t k os is ps) && (okD 2 (PkD a b t k os is ps) && true))) = true
  rw [h1]; rfl
theorem fk {T : List Df} (hT : T = prog) : Fk (callN T 19) := by
  have D : ∀ n, DrawsF (callN T (n + 2)) F_law_draw := fun n => drawsF (fs := F_law_spread) (n := n) (by rw [hT]; rfl) (by rw [hT]; rfl)
  have M : ∀ n, NumF (callN T (n + 3)) F_law_number := fun n => numF (fd := F_law_draw) (n := n + 2) (by rw [hT]; rfl) (D n)
  have R : ∀ n, RwI (callN T (n + 3)) F_law_row := fun n => rwI (fd := F_law_draw) (by rw [hT]; rfl) (D n)
  have K : ∀ n, KdI (callN T (n + 3)) F_law_kind := fun n => kdI (fd := F_law_draw) (by rw [hT]; rfl) (D n)
  have I : ∀ n, InhI (callN T (n + 4)) F_law_inner := fun n => inhI (fd := F_law_draw) (fn := F_law_number) (by rw [hT]; rfl) (D (n + 1)) (M n)
  have P : ∀ n, PktI (callN T (n + 5)) F_law_packet := fun n => pktI (fd := F_law_draw) (fn := F_law_number) (fr := F_law_row) (fk := F_law_kind) (fi := F_law_inner) (by rw [hT]; rfl) (D (n + 2)) (M (n + 1)) (R (n + 1)) (K (n + 1)) (I n)
  have two1 : ∀ n, TwoF (callN T (n + 1)) F_law_two := fun n w => two_run hT w
  have two2 : ∀ n, TwoF (callN T (n + 1)) Ftwo := fun n w => by
    rw [callN_eq (n := n) (d := ⟨"two", ["number"], 1, Btwo⟩) (by rw [hT]; rfl) rfl]
    show ends _ (exSs (callN T n) Btwo [.pa (.fz (.int w))]) = _
    generalize callN T n = Φ
    unfold Btwo
    simp [exS, prep_fidx, tst_fidx, prep_sset, tst_sset, prep_lset, tst_lset, prep_rev, tst_rev, prep_idx, tst_idx, ev, evDs, evAs, evO, evC, evI, evPs, prep_dget, tst_dget, prep_loc, prep_con, prep_glo, prep_tup, prep_lst, prep_bin, prep_neg, prep_not, prep_cmp, prep_cmp2, prep_isN, prep_notN, prep_and, prep_or, prep_ife, prep_sub, prep_slc, prep_call, prep_bi, prep_isi, prep_lrg1, prep_lrg2, prep_lc, tst_loc, tst_con, tst_glo, tst_tup, tst_lst, tst_bin, tst_neg, tst_not, tst_cmp, tst_cmp2, tst_isN, tst_notN, tst_and, tst_or, tst_ife, tst_sub, tst_slc, tst_call, tst_bi, tst_isi, tst_lrg1, tst_lrg2, tst_lc, evLoc, frz, rd, putO, loS, unS, kill, Res.bind, Res.st, ofO, AV.val, Sl.get, Sl.put, vals, binF, biF, cmpF, eqF, truF, isiF, ixF, cutF, setF, appF, augF, retLoc, items, litems, noneB, asB, O.toD, O.own, SR.sat_nx, SR.sat_rt, SR.sat_bk, SR.sat_ct, SR.sat_map, SR.sat_seq, sat_ite, Res.sat_ok, sat_cons, sat_nil, sat_kil, lend, called, back, hide, unhide, fins, wee, fits, exSs_cons, exSs_nil, seq_nx, seq_rt, ends_rt, two]
  have lsz : ∀ n, SzF (callN T (n + 1)) F_law_inner_size := fun n w => inner_eq (by rw [hT]; rfl) w
  have psz : ∀ n, SzF (callN T (n + 1)) Finner_size := fun n w => by
    rw [callN_eq (n := n) (d := ⟨"inner_size", ["kind"], 1, Binner_size⟩) (by rw [hT]; rfl) rfl]
    show ends _ (exSs (callN T n) Binner_size [.pa (.fz (.int w))]) = _
    generalize callN T n = Φ
    unfold Binner_size sizI
    by_cases h1 : w = 6
    · subst h1; simp [exS, prep_fidx, tst_fidx, prep_sset, tst_sset, prep_lset, tst_lset, prep_rev, tst_rev, prep_idx, tst_idx, ev, evDs, evAs, evO, evC, evI, evPs, prep_dget, tst_dget, prep_loc, prep_con, prep_glo, prep_tup, prep_lst, prep_bin, prep_neg, prep_not, prep_cmp, prep_cmp2, prep_isN, prep_notN, prep_and, prep_or, prep_ife, prep_sub, prep_slc, prep_call, prep_bi, prep_isi, prep_lrg1, prep_lrg2, prep_lc, tst_loc, tst_con, tst_glo, tst_tup, tst_lst, tst_bin, tst_neg, tst_not, tst_cmp, tst_cmp2, tst_isN, tst_notN, tst_and, tst_or, tst_ife, tst_sub, tst_slc, tst_call, tst_bi, tst_isi, tst_lrg1, tst_lrg2, tst_lc, evLoc, frz, rd, putO, loS, unS, kill, Res.bind, Res.st, ofO, AV.val, Sl.get, Sl.put, vals, binF, biF, cmpF, eqF, truF, isiF, ixF, cutF, setF, appF, augF, retLoc, items, litems, noneB, asB, O.toD, O.own, SR.sat_nx, SR.sat_rt, SR.sat_bk, SR.sat_ct, SR.sat_map, SR.sat_seq, sat_ite, Res.sat_ok, sat_cons, sat_nil, sat_kil, lend, called, back, hide, unhide, fins, wee, fits, exSs_cons, exSs_nil, seq_nx, seq_rt, ends_rt, GNOTE, GSTREAM, GASKING, isI, dgF]
    by_cases h2 : w = 17
    · subst h2; simp [exS, prep_fidx, tst_fidx, prep_sset, tst_sset, prep_lset, tst_lset, prep_rev, tst_rev, prep_idx, tst_idx, ev, evDs, evAs, evO, evC, evI, evPs, prep_dget, tst_dget, prep_loc, prep_con, prep_glo, prep_tup, prep_lst, prep_bin, prep_neg, prep_not, prep_cmp, prep_cmp2, prep_isN, prep_notN, prep_and, prep_or, prep_ife, prep_sub, prep_slc, prep_call, prep_bi, prep_isi, prep_lrg1, prep_lrg2, prep_lc, tst_loc, tst_con, tst_glo, tst_tup, tst_lst, tst_bin, tst_neg, tst_not, tst_cmp, tst_cmp2, tst_isN, tst_notN, tst_and, tst_or, tst_ife, tst_sub, tst_slc, tst_call, tst_bi, tst_isi, tst_lrg1, tst_lrg2, tst_lc, evLoc, frz, rd, putO, loS, unS, kill, Res.bind, Res.st, ofO, AV.val, Sl.get, Sl.put, vals, binF, biF, cmpF, eqF, truF, isiF, ixF, cutF, setF, appF, augF, retLoc, items, litems, noneB, asB, O.toD, O.own, SR.sat_nx, SR.sat_rt, SR.sat_bk, SR.sat_ct, SR.sat_map, SR.sat_seq, sat_ite, Res.sat_ok, sat_cons, sat_nil, sat_kil, lend, called, back, hide, unhide, fins, wee, fits, exSs_cons, exSs_nil, seq_nx, seq_rt, ends_rt, GNOTE, GSTREAM, GASKING, isI, dgF]
    by_cases h3 : w = 1
    · subst h3; simp [exS, prep_fidx, tst_fidx, prep_sset, tst_sset, prep_lset, tst_lset, prep_rev, tst_rev, prep_idx, tst_idx, ev, evDs, evAs, evO, evC, evI, evPs, prep_dget, tst_dget, prep_loc, prep_con, prep_glo, prep_tup, prep_lst, prep_bin, prep_neg, prep_not, prep_cmp, prep_cmp2, prep_isN, prep_notN, prep_and, prep_or, prep_ife, prep_sub, prep_slc, prep_call, prep_bi, prep_isi, prep_lrg1, prep_lrg2, prep_lc, tst_loc, tst_con, tst_glo, tst_tup, tst_lst, tst_bin, tst_neg, tst_not, tst_cmp, tst_cmp2, tst_isN, tst_notN, tst_and, tst_or, tst_ife, tst_sub, tst_slc, tst_call, tst_bi, tst_isi, tst_lrg1, tst_lrg2, tst_lc, evLoc, frz, rd, putO, loS, unS, kill, Res.bind, Res.st, ofO, AV.val, Sl.get, Sl.put, vals, binF, biF, cmpF, eqF, truF, isiF, ixF, cutF, setF, appF, augF, retLoc, items, litems, noneB, asB, O.toD, O.own, SR.sat_nx, SR.sat_rt, SR.sat_bk, SR.sat_ct, SR.sat_map, SR.sat_seq, sat_ite, Res.sat_ok, sat_cons, sat_nil, sat_kil, lend, called, back, hide, unhide, fins, wee, fits, exSs_cons, exSs_nil, seq_nx, seq_rt, ends_rt, GNOTE, GSTREAM, GASKING, isI, dgF]
    · simp [exS, prep_fidx, tst_fidx, prep_sset, tst_sset, prep_lset, tst_lset, prep_rev, tst_rev, prep_idx, tst_idx, ev, evDs, evAs, evO, evC, evI, evPs, prep_dget, tst_dget, prep_loc, prep_con, prep_glo, prep_tup, prep_lst, prep_bin, prep_neg, prep_not, prep_cmp, prep_cmp2, prep_isN, prep_notN, prep_and, prep_or, prep_ife, prep_sub, prep_slc, prep_call, prep_bi, prep_isi, prep_lrg1, prep_lrg2, prep_lc, tst_loc, tst_con, tst_glo, tst_tup, tst_lst, tst_bin, tst_neg, tst_not, tst_cmp, tst_cmp2, tst_isN, tst_notN, tst_and, tst_or, tst_ife, tst_sub, tst_slc, tst_call, tst_bi, tst_isi, tst_lrg1, tst_lrg2, tst_lc, evLoc, frz, rd, putO, loS, unS, kill, Res.bind, Res.st, ofO, AV.val, Sl.get, Sl.put, vals, binF, biF, cmpF, eqF, truF, isiF, ixF, cutF, setF, appF, augF, retLoc, items, litems, noneB, asB, O.toD, O.own, SR.sat_nx, SR.sat_rt, SR.sat_bk, SR.sat_ct, SR.sat_map, SR.sat_seq, sat_ite, Res.sat_ok, sat_cons, sat_nil, sat_kil, lend, called, back, hide, unhide, fins, wee, fits, exSs_cons, exSs_nil, seq_nx, seq_rt, ends_rt, GNOTE, GSTREAM, GASKING, isI, dgF, h1, h2, h3]
  have ck1 : ∀ n, CkF (callN T (n + 2)) F_law_check := fun n row hb hl => check_run hT row rfl hl (W_sum hb hl).1 (W_sum hb hl).2
  have ck2 : ∀ n, CkF (callN T (n + 2)) Fsum_of := fun n row hb hl => sumof_run hT row rfl hl
  have ln1 : ∀ n, LnF (callN T (n + 2)) F_law_length := fun n a b t k os is ps => by
    rw [callN_eq (n := n + 1) (d := ⟨"_law_length", ["packet"], 1, B_law_length⟩) (by rw [hT]; rfl) rfl]
    exact es_ret (ln_at (lsz n) []) (fun _ z => nomatch z)
  have ln2 : ∀ n, LnF (callN T (n + 2)) Flength_of := fun n a b t k os is ps => by
    rw [callN_eq (n := n + 1) (d := ⟨"length_of", ["packet"], 1, Blength_of⟩) (by rw [hT]; rfl) rfl]
    exact es_ret (ln_at (psz n) []) (fun _ z => nomatch z)
  have inb : ∀ (n : Nat) (a b t k : Int) (os is ps : List Int), PkOk a b t k os is ps → callN T (n + 2) Finner_bytes [.fz (PkD a b t k os is ps)] = .ok (.fz (TI (headI k is))) [none] := fun n a b t k os is ps ok => by
    rw [callN_eq (n := n + 1) (d := ⟨"inner_bytes", ["packet", "kind", "inner"], 1, Binner_bytes⟩) (by rw [hT]; rfl) rfl]
    exact inb_at (two2 n) ok
  have wri : ∀ (n : Nat) (a b t k : Int) (os is ps : List Int), PkOk a b t k os is ps → callN T (n + 3) Fwrite_inner [.fz (PkD a b t k os is ps)] = .ok (.fz (TI (innI a b k (headI k is) ps))) [none] := fun n a b t k os is ps ok => by
    rw [callN_eq (n := n + 2) (d := ⟨"write_inner", ["packet", "head", "many", "plain"], 1, Bwrite_inner⟩) (by rw [hT]; rfl) rfl]
    exact wri_at (two2 (n + 1)) (psz (n + 1)) (ck2 n) (inb n a b t k os is ps ok) ok
  have na : ∀ n, NaF (callN T (n + 1)) Fnumber_at := fun n row i u v h1 h2 => run_eq (n := n) (d := ⟨"number_at", ["row", "at"], 2, Bnumber_at⟩) (by rw [hT]; rfl) rfl (na_at row i u v h1 h2) (by rintro o ρ ⟨rfl, rfl⟩; exact ⟨rfl, fins2⟩)
  have rs : ∀ n, Rs (callN T (n + 1)) := fun n => ⟨fun row hl => words_run hT row rfl hl, fun ws => fold_run hT ws, psz n, two2 n⟩
  have rd : ∀ n, Rd (callN T (n + 2)) := fun n => ⟨
    fun h v => run_eq (n := n + 1) (d := ⟨"outer_fault", ["row", "head"], 1, Bouter_fault⟩) (by rw [hT]; rfl) rfl (of_run (rs n) (na n) h v) (by rintro o ρ ⟨rfl, r, rfl⟩; exact ⟨rfl, fins1⟩),
    fun h v => run_eq (n := n + 1) (d := ⟨"inner_fault", ["row", "kind", "rest", "plain"], 3, Binner_fault⟩) (by rw [hT]; rfl) rfl (if_run (rs n) h v) (by rintro o ρ ⟨rfl, r, rfl⟩; exact ⟨rfl, fins3⟩),
    fun hi => run_eq (n := n + 1) (d := ⟨"read_inner", ["kind", "rest"], 2, Bread_inner⟩) (by rw [hT]; rfl) rfl (ri_at (na n) _ _ _ hi) (by rintro o ρ ⟨rfl, rfl⟩; exact ⟨rfl, fins2⟩),
    na (n + 1), psz (n + 1)⟩
  refine ⟨P 14, lsz 18, two1 18, fun ws h0 h1 => lawfold_run hT ws h0 h1, fun a b t k os is ps ok => ?_, fun a b t k os is ps ok => ?_, fun a b t k c1 c2 os is ps h v => ?_, fun a b t k os is ps h => ?_, fun a b t k os is ps h => ?_⟩
  · rw [callN_eq (n := 18) (d := ⟨"write_packet", ["packet", "first", "last", "source", "destination", "kind", "ttl", "options"], 1, Bwrite_packet⟩) (by rw [hT]; rfl) rfl]
    exact writ_at (two2 17) (ck2 16) (ln2 16) (wri 15 a b t k os is ps ok) (by have := inn_len ok; omega) ok
  · rw [callN_eq (n := 18) (d := ⟨"_law_bytes", ["packet", "head", "ends", "outer", "inner", "rest", "check"], 1, B_law_bytes⟩) (by rw [hT]; rfl) rfl]
    exact lbyt_at (two1 17) (ck1 16) (lsz 17) (ln1 16) ok
  · exact run_eq (n := 18) (d := ⟨"read_packet", ["row", "reason", "head", "kind", "rest", "inner"], 1, Bread_packet⟩) (by rw [hT]; rfl) rfl (rp_at (rd 16) a b t k c1 c2 os is ps h v) (by rintro o ρ ⟨rfl, r, rfl⟩; exact ⟨rfl, fins1⟩)
  · exact same_eq (m := 2) (d := PkD a b t k os is ps) (by rw [hT]; rfl) rfl rfl (okP h) (by decide)
  · exact same_eq (m := 3) (d := .list [PkD a b t k os is ps, PkD a b t k os is ps]) (by rw [hT]; rfl) rfl rfl (okPP h) (by decide)
def depth : Nat := 20
theorem law_ok : ∀ ns : List Int, ns.length ≤ 63 → ∃ ps, callN prog depth Flaw [scr ns] = .ok (.fz (.bool true)) ps := fun ns _ => by
  obtain ⟨x, e⟩ := pool_eq (T := prog) (n := 18) (f := F_law_pool) rfl ns
  exact ⟨[none], run_eq (n := 19) (d := ⟨"law", ["script", "pool", "turn", "packet", "head", "row", "at", "word"], 1, Blaw⟩) rfl rfl (law_at (fk rfl) e) (by rintro o ρ ⟨rfl, r, rfl⟩; exact ⟨rfl, fins1⟩)⟩
end Law

open PySem PySem.W PyProof.Rows in  -- gw
set_option maxRecDepth 100000 in  -- gw
set_option maxHeartbeats 0 in
theorem PySem.Challenge.cw_gatewarden_k12_whole_packets_come_back_holds : PySem.Challenge.rw_gatewarden_k12_whole_packets_come_back.Holds := by
  w_on; o_law; k_head; (case hw => w_witness2)  -- gw
  k_fill
  refine GW.walk_g (l := PySem.Challenge.rw_gatewarden_k12_whole_packets_come_back) (T := Law.prog) (G := Law.glos) (n := Law.depth) (fi := Law.Flaw) rfl rfl ⟨rfl, by decide, by decide⟩ rfl rfl rfl (fun w h Y => PySem.W.kIn_of Y) ?F Law.law_ok
  case F =>
    intro w mg h KX G
    refine GW.facts_of Law.defs_ok KX G ?fk ?gk ?bk
    case fk =>
      refine' GW.FnsK.cons ?fa0 ?fl0 ?fc0 ?fk0 ?fr0
      (case fa0 => k_is)
      (case fl0 => k_is)
      (case fc0 => k_is)
      (case fk0 => k_is)
      refine' GW.FnsK.cons ?fa1 ?fl1 ?fc1 ?fk1 ?fr1
      (case fa1 => k_is)
      (case fl1 => k_is)
      (case fc1 => k_is)
      (case fk1 => k_is)
      refine' GW.FnsK.cons ?fa2 ?fl2 ?fc2 ?fk2 ?fr2
      (case fa2 => k_is)
      (case fl2 => k_is)
      (case fc2 => k_is)
      (case fk2 => k_is)
      refine' GW.FnsK.cons ?fa3 ?fl3 ?fc3 ?fk3 ?fr3
      (case fa3 => k_is)
      (case fl3 => k_is)
      (case fc3 => k_is)
      (case fk3 => k_is)
      refine' GW.FnsK.cons ?fa4 ?fl4 ?fc4 ?fk4 ?fr4
      (case fa4 => k_is)
      (case fl4 => k_is)
      (case fc4 => k_is)
      (case fk4 => k_is)
      refine' GW.FnsK.cons ?fa5 ?fl5 ?fc5 ?fk5 ?fr5
      (case fa5 => k_is)
      (case fl5 => k_is)
      (case fc5 => k_is)
      (case fk5 => k_is)
      refine' GW.FnsK.cons ?fa6 ?fl6 ?fc6 ?fk6 ?fr6
      (case fa6 => k_is)
      (case fl6 => k_is)
      (case fc6 => k_is)
      (case fk6 => k_is)
      refine' GW.FnsK.cons ?fa7 ?fl7 ?fc7 ?fk7 ?fr7
      (case fa7 => k_is)
      (case fl7 => k_is)
      (case fc7 => k_is)
      (case fk7 => k_is)
      refine' GW.FnsK.cons ?fa8 ?fl8 ?fc8 ?fk8 ?fr8
      (case fa8 => k_is)
      (case fl8 => k_is)
      (case fc8 => k_is)
      (case fk8 => k_is)
      refine' GW.FnsK.cons ?fa9 ?fl9 ?fc9 ?fk9 ?fr9
      (case fa9 => k_is)
      (case fl9 => k_is)
      (case fc9 => k_is)
      (case fk9 => k_is)
      refine' GW.FnsK.cons ?fa10 ?fl10 ?fc10 ?fk10 ?fr10
      (case fa10 => k_is)
      (case fl10 => k_is)
      (case fc10 => k_is)
      (case fk10 => k_is)
      refine' GW.FnsK.cons ?fa11 ?fl11 ?fc11 ?fk11 ?fr11
      (case fa11 => k_is)
      (case fl11 => k_is)
      (case fc11 => k_is)
      (case fk11 => k_is)
      refine' GW.FnsK.cons ?fa12 ?fl12 ?fc12 ?fk12 ?fr12
      (case fa12 => k_is)
      (case fl12 => k_is)
      (case fc12 => k_is)
      (case fk12 => k_is)
      refine' GW.FnsK.cons ?fa13 ?fl13 ?fc13 ?fk13 ?fr13
      (case fa13 => k_is)
      (case fl13 => k_is)
      (case fc13 => k_is)
      (case fk13 => k_is)
      refine' GW.FnsK.cons ?fa14 ?fl14 ?fc14 ?fk14 ?fr14
      (case fa14 => k_is)
      (case fl14 => k_is)
      (case fc14 => k_is)
      (case fk14 => k_is)
      refine' GW.FnsK.cons ?fa15 ?fl15 ?fc15 ?fk15 ?fr15
      (case fa15 => k_is)
      (case fl15 => k_is)
      (case fc15 => k_is)
      (case fk15 => k_is)
      refine' GW.FnsK.cons ?fa16 ?fl16 ?fc16 ?fk16 ?fr16
      (case fa16 => k_is)
      (case fl16 => k_is)
      (case fc16 => k_is)
      (case fk16 => k_is)
      refine' GW.FnsK.cons ?fa17 ?fl17 ?fc17 ?fk17 ?fr17
      (case fa17 => k_is)
      (case fl17 => k_is)
      (case fc17 => k_is)
      (case fk17 => k_is)
      refine' GW.FnsK.cons ?fa18 ?fl18 ?fc18 ?fk18 ?fr18
      (case fa18 => k_is)
      (case fl18 => k_is)
      (case fc18 => k_is)
      (case fk18 => k_is)
      refine' GW.FnsK.cons ?fa19 ?fl19 ?fc19 ?fk19 ?fr19
      (case fa19 => k_is)
      (case fl19 => k_is)
      (case fc19 => k_is)
      (case fk19 => k_is)
      refine' GW.FnsK.cons ?fa20 ?fl20 ?fc20 ?fk20 ?fr20
      (case fa20 => k_is)
      (case fl20 => k_is)
      (case fc20 => k_is)
      (case fk20 => k_is)
      refine' GW.FnsK.cons ?fa21 ?fl21 ?fc21 ?fk21 ?fr21
      (case fa21 => k_is)
      (case fl21 => k_is)
      (case fc21 => k_is)
      (case fk21 => k_is)
      refine' GW.FnsK.cons ?fa22 ?fl22 ?fc22 ?fk22 ?fr22
      (case fa22 => k_is)
      (case fl22 => k_is)
      (case fc22 => k_is)
      (case fk22 => k_is)
      refine' GW.FnsK.cons ?fa23 ?fl23 ?fc23 ?fk23 ?fr23
      (case fa23 => k_is)
      (case fl23 => k_is)
      (case fc23 => k_is)
      (case fk23 => k_is)
      refine' GW.FnsK.cons ?fa24 ?fl24 ?fc24 ?fk24 ?fr24
      (case fa24 => k_is)
      (case fl24 => k_is)
      (case fc24 => k_is)
      (case fk24 => k_is)
      refine' GW.FnsK.cons ?fa25 ?fl25 ?fc25 ?fk25 ?fr25
      (case fa25 => k_is)
      (case fl25 => k_is)
      (case fc25 => k_is)
      (case fk25 => k_is)
      refine' GW.FnsK.cons ?fa26 ?fl26 ?fc26 ?fk26 ?fr26
      (case fa26 => k_is)
      (case fl26 => k_is)
      (case fc26 => k_is)
      (case fk26 => k_is)
      refine' GW.FnsK.cons ?fa27 ?fl27 ?fc27 ?fk27 ?fr27
      (case fa27 => k_is)
      (case fl27 => k_is)
      (case fc27 => k_is)
      (case fk27 => k_is)
      refine' GW.FnsK.cons ?fa28 ?fl28 ?fc28 ?fk28 ?fr28
      (case fa28 => k_is)
      (case fl28 => k_is)
      (case fc28 => k_is)
      (case fk28 => k_is)
      refine' GW.FnsK.cons ?fa29 ?fl29 ?fc29 ?fk29 ?fr29
      (case fa29 => k_is)
      (case fl29 => k_is)
      (case fc29 => k_is)
      (case fk29 => k_is)
      refine' GW.FnsK.cons ?fa30 ?fl30 ?fc30 ?fk30 ?fr30
      (case fa30 => k_is)
      (case fl30 => k_is)
      (case fc30 => k_is)
      (case fk30 => k_is)
      exact GW.FnsK.nil
    case gk =>
      refine' GW.GlK.cons ?ga0 ?gc0 ?gr0
      (case ga0 => k_is)
      (case gc0 => kernel_rfl)
      refine' GW.GlK.cons ?ga1 ?gc1 ?gr1
      (case ga1 => k_is)
      (case gc1 => kernel_rfl)
      refine' GW.GlK.cons ?ga2 ?gc2 ?gr2
      (case ga2 => k_is)
      (case gc2 => kernel_rfl)
      refine' GW.GlK.cons ?ga3 ?gc3 ?gr3
      (case ga3 => k_is)
      (case gc3 => kernel_rfl)
      refine' GW.GlK.cons ?ga4 ?gc4 ?gr4
      (case ga4 => k_is)
      (case gc4 => kernel_rfl)
      exact GW.GlK.nil
    (case bk => kernel_rfl)
