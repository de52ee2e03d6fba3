import PyProof.Rows.All
import Wide.All
import OpenK.AllK
import Wide.FinOn
import HandS.ForMost
import PyProof.EqLayable
import PyProof.ReprReads
import KE.SortData
import KE.IntText
import HandS.TupAny
import HandS.Style
import HandS.Deep
import KE.KDictKeyed
import HandS.TupMul
import HandS.Steps
import HandS.More
import PyProof.StrOps2
import PyProof.Rows.StrMul
import PyProof.Rows.SeqMore
import HandS.TupLe
import HandS.Dict
import KE.DataCmp
import HandS.Flow
import PyProof.AutoSeq1
import KE.KDictCopyH
import HandS.IsInst
import HandS.RaiseMore
import PyProof.Rows.StrCase
import HandS.NoneIn
import HandS.Exc
import HandS.Iter
import HandS.Comp
import HandS.Words
import HandS.Ends
import HandS.Replace
import HandS.Strs
import HandS.SetFor
import KE.DataMinMax
import HandS.SortKw
import HandS.Codes
import KE.GoesEnum
import KE.GoesZip
import KE.GoesMore
import KE.KDictZip
import KE.KItemsList
import HandS.ListItems
import HandS.RevTup
import HandS.Rev
import PyProof.DictUpdate
import HandS.ExcOwn
import HandS.TryMany
import HandS.TryOnly
import HandS.WordsExc
import HandS.ExcIs
import KE.KDictDisplayH
import HandS.HotCalls
import HandS.Small
import PyProof.StrLawsRepr
import PyProof.ReprText
import PyProof.Rows.StrJoinMade
import HandS.Text
import PySem.Challenge.RW_beatboughs_k08_refusals_made
set_option autoImplicit false
set_option linter.all false
set_option maxRecDepth 100000
set_option maxHeartbeats 4000000
set_option Elab.async false
section
namespace Vm
open PySem
abbrev D := PyData

inductive Bop where | add | sub | mul | mod | fdiv | pow
inductive Cop where | eq | ne | lt | le | gt | ge | isin | notin | is | isnt
inductive Bm where | append | extend | pop | popk | insert | remove | count | index | tindex | sindex | get | update | join | split | upper
inductive Bf where | len | isinst | int | str | repr | bool | max2 | min2 | maxd | lenset | sortset | revl | lenseti | sortseti | dzip | lrng | dictn
  | list | tuple | dict | set | sorted | sum | sum2 | all | any | max | min
inductive Step where | one | rev | by (k : Nat)
inductive Tn where | nm (i : Nat) | tp (ts : List Tn)
mutual
inductive E where
  | var (i : Nat) (mv : Bool)
  | xis (i : Nat) (ks : List Nat)
  | con (x : D)
  | glo (g : Nat)
  | tup (es : Es)
  | lst (es : Es)
  | dct (kvs : Kv)
  | bin (op : Bop) (a b : E)
  | neg (a : E)
  | nt (a : E)
  | and (a b : E)
  | or (a b : E)
  | cmp (op : Cop) (a b : E)
  | cmp2 (op1 op2 : Cop) (a b c : E)
  | ite (c a b : E)
  | attr (a : E) (f : Nat)
  | sub (a i : E)
  | sli (a : E) (lo hi : OE) (st : Step)
  | call (f : Nat) (es : Es)
  | mk (c : Nat) (es : Es)
  | callv (f : E) (es : Es)
  | um (o : E) (m : Nat) (es : Es)
  | bm (o : E) (m : Bm) (es : Es)
  | bf (b : Bf) (es : Es)
  | bi (b : Bf) (it : It) (dflt : OE)
  | lc (elt : E) (t : Tn) (it : It) (cond : OE) (own : List Nat)
  | callg (f : Nat) (es : Es)
  | nox (e : E)
  | xcall (f : Nat) (es : Es)
  | xum (o : E) (m : Nat) (es : Es)
  | xmk (c : Nat) (es : Es)
  | xumr (o : E) (m : Nat) (es : Es)
  | xsub (a i : E)
  | xtup (a : E)
  | xtp (a : E) (es : Es)
  | lstm (i : Nat) (es : Es)
  | dnew
  | dct1 (k v : E)
inductive Es where | nil | cons (e : E) (es : Es)
inductive Kv where | nil | cons (k v : E) (r : Kv)
inductive OE where | none | some (e : E)
inductive It where
  | e (a : E)
  | rng (a : OE) (b : E)
  | rng3 (a b c : E)
  | enm (a : It)
  | zip (a b : It)
  | rev (a : It)
  | its (a : E)
end
inductive T where
  | nm (i : Nat)
  | attr (a : E) (f : Nat)
  | sub (a i : E)
  | tp (is : List Nat)
  | ns (i : Nat) (a ix : E)
mutual
inductive S where
  | asg (t : T) (e : E)
  | aug (i : Nat) (e : E)
  | augf (o : E) (f : Nat) (e : E)
  | ex (e : E)
  | ret (e : OE)
  | ite (c : E) (a b : Ss)
  | for (t : Tn) (it : It) (b : Ss)
  | whl (c : E) (b : Ss)
  | rais (c : Nat) (es : Es)
  | tr (b : Ss) (cs : List Nat) (nm : Option Nat) (h : Ss)
  | pass
  | brk
  | cont
  | asgd (i : Nat) (kv1 : Kv) (k : D) (j : Nat) (kv2 : Kv)
  | nox (s : S)
  | xasg (t : T) (e : E)
  | xex (e : E)
  | xret (e : E)
inductive Ss where | nil | cons (s : S) (ss : Ss)
end

inductive Acc where | ix (n : Nat) | ky (k : D) | fd (f : Nat)
abbrev Pth := Nat × List Acc
inductive M where
  | d (x : D)
  | fn (i : Nat)
  | cl (i : Nat)
  | bt (n : Nat)
  | set (xs : List D)
  | tab (kvs : List (D × Nat))
  | exc (c : Nat) (xs : List D)
  | lst (ms : List M)
  | dct (kvs : List (D × M))
  | obj (c : Nat) (fs : List (Nat × M))
  | dnn (kvs : List (D × D))
def M.isMut : M → Bool
  | .lst _ => true | .dct _ => true | .obj _ _ => true | .dnn _ => true | _ => false
mutual
def frz : M → Option D
  | .d x => some x
  | .lst ms => (frzs ms).map .list
  | .dct kvs => (frzk kvs).map .dict
  | .fn _ => none | .cl _ => none | .bt _ => none | .set _ => none | .tab _ => none | .exc _ _ => none | .obj _ _ => none | .dnn _ => none
def frzs : List M → Option (List D)
  | [] => some []
  | m :: ms => (frz m).bind fun x => (frzs ms).bind fun xs => some (x :: xs)
def frzk : List (D × M) → Option (List (D × D))
  | [] => some []
  | (k, m) :: ms => (frz m).bind fun x => (frzk ms).bind fun xs => some ((k, x) :: xs)
end
inductive Rv where | v (m : M) | p (p : Pth)
structure St where
  sl : List (Option M)
  rf : List (Nat × Pth)
  tm : List (Option Pth)
inductive Res (α : Type) where
  | ok (a : α) (s : St)
  | exc (x : M) (s : St)
  | no
inductive Fl where
  | nx (s : St)
  | rt (r : Rv) (s : St)
  | bk (s : St)
  | ct (s : St)
  | exc (x : M) (s : St)
  | no
inductive CRv where | v (m : M) | p (i : Nat) (q : List Acc)
inductive CRes where
  | ok (r : CRv) (fin : List M)
  | exc (x : M) (fin : List M)
  | no

def Res.bd {α β : Type} (r : Res α) (k : α → St → Res β) : Res β := match r with
  | .ok a s => k a s | .exc x s => .exc x s | .no => .no
def Res.fl {α : Type} (r : Res α) (k : α → St → Fl) : Fl := match r with
  | .ok a s => k a s | .exc _ _ => .no | .no => .no
def Res.flx {α : Type} (r : Res α) (k : α → St → Fl) : Fl := match r with
  | .ok a s => k a s | .exc x s => .exc x s | .no => .no

def Res.kill {α : Type} (r : Res α) : Res α := match r with
  | .ok a s => .ok a s | .exc _ _ => .no | .no => .no
def Fl.kill (f : Fl) : Fl := match f with
  | .nx s => .nx s | .rt r s => .rt r s | .bk s => .bk s | .ct s => .ct s | .exc _ _ => .no | .no => .no
def rs {α β : Type} (o : Option α) (k : α → Res β) : Res β := match o with | some a => k a | none => .no
def fs {α : Type} (o : Option α) (k : α → Fl) : Fl := match o with | some a => k a | none => .no
def ob {α β : Type} (o : Option α) (k : α → Option β) : Option β := match o with | some a => k a | none => none
def rif {α : Type} (c : Bool) (r : Res α) : Res α := match c with | true => r | false => .no
def fif (c : Bool) (r : Fl) : Fl := match c with | true => r | false => .no
def oif {α : Type} (c : Bool) (r : Option α) : Option α := match c with | true => r | false => none
def Fl.sq (f : Fl) (k : St → Fl) : Fl := match f with
  | .nx s => k s | .rt r s => .rt r s | .bk s => .bk s | .ct s => .ct s | .exc x s => .exc x s | .no => .no
def Fl.lp (f : Fl) (k e : St → Fl) : Fl := match f with
  | .nx s => k s | .ct s => k s | .bk s => e s | .rt r s => .rt r s | .exc x s => .exc x s | .no => .no
def asInt : D → Option Int | .int i => some i | _ => none
def asStr : D → Option Str | .str x => some x | _ => none
def Rv.mv : Rv → Option M | .v m => some m | .p _ => none
def Rv.dat : Rv → Option D | .v (.d x) => some x | _ => none
def M.dat : M → Option D | .d x => some x | _ => none
def M.lsts : M → Option (List M) | .lst ms => some ms | _ => none
def M.dcts : M → Option (List (D × M)) | .dct kvs => some kvs | _ => none
def topP : List (Option Pth) → Option (Pth × List (Option Pth)) | some p :: t => some (p, t) | _ => none

mutual
def isKey : D → Bool
  | .int _ => true | .str _ => true | .none => true | .tuple xs => isKeys xs
  | .bool _ => false | .list _ => false | .dict _ => false
def isKeys : List D → Bool
  | [] => true
  | x :: xs => isKey x && isKeys xs
end
def lkD {α : Type} (k : D) : List (D × α) → Option α
  | [] => none
  | (j, a) :: r => if PyData.eqv j k then some a else lkD k r
def lkN {α : Type} (k : Nat) : List (Nat × α) → Option α
  | [] => none
  | (j, a) :: r => if j = k then some a else lkN k r
def putD {α : Type} (k : D) (a : α) : List (D × α) → List (D × α)
  | [] => [(k, a)]
  | (j, b) :: r => if PyData.eqv j k then (j, a) :: r else (j, b) :: putD k a r
def delD {α : Type} (k : D) : List (D × α) → List (D × α)
  | [] => []
  | (j, b) :: r => if PyData.eqv j k then r else (j, b) :: delD k r
def putN {α : Type} (k : Nat) (a : α) : List (Nat × α) → List (Nat × α)
  | [] => [(k, a)]
  | (j, b) :: r => if j = k then (j, a) :: r else (j, b) :: putN k a r
def M.get : M → List Acc → Option M
  | m, [] => some m
  | .lst ms, .ix n :: p => (ms[n]?).bind fun m => m.get p
  | .dct kvs, .ky k :: p => (lkD k kvs).bind fun m => m.get p
  | .obj _ fs, .fd f :: p => (lkN f fs).bind fun m => m.get p
  | _, _ :: _ => none
def modN (n : Nat) (f : M → M) : List M → List M
  | [] => []
  | m :: ms => match n with | 0 => f m :: ms | n + 1 => m :: modN n f ms
def modD (k : D) (f : M → M) : List (D × M) → List (D × M)
  | [] => []
  | (j, m) :: r => if PyData.eqv j k then (j, f m) :: r else (j, m) :: modD k f r
def modF (k : Nat) (f : M → M) : List (Nat × M) → List (Nat × M)
  | [] => []
  | (j, m) :: r => if j = k then (j, f m) :: r else (j, m) :: modF k f r
def M.upd : List Acc → (M → M) → M → M
  | [], f, m => f m
  | .ix n :: p, f, .lst ms => .lst (modN n (M.upd p f) ms)
  | .ky k :: p, f, .dct kvs => .dct (modD k (M.upd p f) kvs)
  | .fd g :: p, f, .obj c fs => .obj c (modF g (M.upd p f) fs)
  | _ :: _, _, m => m
def joinO {α : Type} : Option (Option α) → Option α | some (some a) => some a | _ => none
def St.sget (s : St) (i : Nat) : Option M := joinO s.sl[i]?
def St.get (s : St) (p : Pth) : Option M := (s.sget p.1).bind fun m => m.get p.2
def St.put (s : St) (p : Pth) (v : M) : St := match s.sget p.1 with
  | some m => { s with sl := s.sl.set p.1 (some (m.upd p.2 fun _ => v)) }
  | none => s
def accEq : Acc → Acc → Bool
  | .ix a, .ix b => a == b
  | .ky a, .ky b => PyData.eqv a b
  | .fd a, .fd b => a == b
  | _, _ => false
def isPre : List Acc → List Acc → Bool
  | [], _ => true
  | a :: q, b :: r => accEq a b && isPre q r
  | _ :: _, [] => false
def atOrUnder (q r : Pth) : Bool := q.1 == r.1 && isPre q.2 r.2
def under (q r : Pth) : Bool := q.1 == r.1 && isPre q.2 r.2 && decide (q.2.length < r.2.length)
def killR (f : Pth → Bool) : List (Nat × Pth) → List (Nat × Pth)
  | [] => []
  | x :: r => if f x.2 then killR f r else x :: killR f r
def killT (f : Pth → Bool) : List (Option Pth) → List (Option Pth)
  | [] => []
  | some p :: r => (if f p then none else some p) :: killT f r
  | none :: r => none :: killT f r
def St.kill (s : St) (f : Pth → Bool) : St := { sl := s.sl, rf := killR f s.rf, tm := killT f s.tm }
def dropR (i : Nat) : List (Nat × Pth) → List (Nat × Pth)
  | [] => []
  | x :: r => if x.1 = i then dropR i r else x :: dropR i r
def St.slot (s : St) (i : Nat) (o : Option M) : St := { sl := s.sl.set i o, rf := s.rf, tm := s.tm }
def St.push (s : St) (p : Pth) : St := { sl := s.sl, rf := s.rf, tm := some p :: s.tm }
def St.tms (s : St) (t : List (Option Pth)) : St := { sl := s.sl, rf := s.rf, tm := t }
def rdM (s : St) (i : Nat) (mv : Bool) (m : M) : Bool → Res Rv
  | false => .ok (.v m) s
  | true => match mv with
    | true => .ok (.v m) ((s.slot i none).kill (fun r => r.1 == i))
    | false => .ok (.p (i, [])) s
def rd (np : Nat) (s : St) (i : Nat) (mv : Bool) : Res Rv := match s.sget i with
  | some m => rdM s i (mv && decide (np ≤ i)) m m.isMut
  | none => rs (lkN i s.rf) fun p => .ok (.p p) s
def St.val (s : St) (r : Rv) : Option M := match r with | .v m => some m | .p p => s.get p
def hold {α β : Type} (r : Rv) (s : St) (k : St → Res α) (fin : Rv → α → St → Res β) : Res β := match r with
  | .v m => (k s).bd (fin (.v m))
  | .p p => (k (s.push p)).bd fun a s => rs (topP s.tm) fun pt => fin (.p pt.1) a (s.tms pt.2)
def sto (r : Rv) (s : St) : Res M := match r with
  | .v m => .ok m s
  | .p p => rs ((s.get p).bind frz) fun x => .ok (.d x) ((s.put p (.d x)).kill (atOrUnder p))
def stoD (r : Rv) (s : St) : Res D := (sto r s).bd fun m s => rs (frz m) fun x => .ok x s
def asSeq : M → Option (List M)
  | .lst ms => some ms
  | .d (.list xs) => some (xs.map .d)
  | .d (.tuple xs) => some (xs.map .d)
  | _ => none
def allD : List M → Bool
  | [] => true
  | .d _ :: r => allD r
  | _ :: _ => false
def kidsM (p : Pth) (s : St) (ms : List M) : Bool → Res (List M)
  | true => .ok ms s
  | false => rs (frzs ms) fun xs => .ok (xs.map .d) ((s.put p (.lst (xs.map .d))).kill (under p))
def kids (r : Rv) (s : St) : Res (List M) := match r with
  | .v m => rs (asSeq m) fun ms => .ok ms s
  | .p p => rs ((s.get p).bind M.lsts) fun ms => kidsM p s ms (allD ms)

def line : Nat := 16777216
def small (i : Int) : Bool := decide (-(2 ^ 64) < i) && decide (i < 2 ^ 64)
def bopD : Bop → D → D → Option D
  | .add, .int i, .int j => some (.int (i + j))
  | .sub, .int i, .int j => some (.int (i - j))
  | .mul, .int i, .int j => oif (small i || small j) (some (.int (i * j)))
  | .mod, .int i, .int j => oif (decide (0 < j)) (some (.int (i % j)))
  | .fdiv, .int i, .int j => oif (decide (0 < j ∧ j < 1073741824)) (some (.int (i / j)))
  | .pow, .int i, .int j => oif (decide (0 ≤ j ∧ j ≤ 1000000 ∧ i.natAbs < 2 ^ 64)) (some (.int (i ^ j.toNat)))
  | .add, .str x, .str y => oif (decide (x.length + y.length ≤ line)) (some (.str (x ++ y)))
  | .add, .tuple xs, .tuple ys => oif (decide (xs.length + ys.length ≤ line)) (some (.tuple (xs ++ ys)))
  | .mul, .tuple xs, .int j => oif (decide (0 ≤ j ∧ j ≤ 1000 ∧ xs.length ≤ 1000)) (some (.tuple (List.replicate j.toNat xs).flatten))
  | .mul, .str x, .int j => oif (decide (x.length * j.toNat ≤ line ∧ -2 ^ 62 ≤ j ∧ j ≤ 16777216)) (some (.str ⟨(List.replicate j.toNat x.cps.toList).flatten.toArray⟩))
  | _, _, _ => none
def isSc : D → Bool
  | .none => true | .bool _ => true | .int _ => true | .str _ => true | _ => false
def shal (x : D) : Bool := decide (x.depth ≤ 64)
def emS : D → Bool | .list [] => true | .tuple [] => true | _ => false
def seS : D → Bool | .list _ => true | .tuple _ => true | _ => false
def eqOk (x y : D) : Bool := (isSc x && isSc y) || (!x.hasDict && !y.hasDict && (shal x || shal y)) || (seS x && emS y)
def isKK : D → Bool
  | .int _ => true | .str _ => true | _ => false
def isNK : D → Bool
  | .tuple xs => isKeys xs && decide ((PyData.tuple xs).depth ≤ 8) | _ => false
def hasN {α : Type} (x : D) (kvs : List (D × α)) : Option Bool := oif (isNK x) (some (lkD x kvs).isSome)
def ltOk (x y : D) : Bool := PySem.W.alike x y && !x.hasDict && !y.hasDict && decide (x.depth ≤ 64)
def ltD (x y : D) : Bool := PySem.W.dataLt x y
def subStr (z s : Str) : Bool := !(Builtin.Str.occurrences s z 0 s.length 1).isEmpty
def inList (x : D) (xs : List D) : Option Bool := oif (!x.hasDict && shal x && !PyData.hasDictAll xs) (some (xs.any fun y => PyData.eqv y x))
def inStr (s : Str) : D → Option Bool | .str z => some (subStr z s) | _ => none
def hasK {α : Type} (x : D) (kvs : List (D × α)) : Option Bool := oif (isKK x) (some (lkD x kvs).isSome)
def isinD (x : D) : M → Option Bool
  | .d (.str s) => inStr s x
  | .d (.list xs) => inList x xs
  | .d (.tuple xs) => inList x xs
  | .set xs => inList x xs
  | .lst ms => ob (frzs ms) (inList x)
  | .dct kvs => hasK x kvs
  | .d (.dict kvs) => hasK x kvs
  | .tab kvs => hasK x kvs
  | .dnn kvs => hasN x kvs
  | _ => none
def cmpD : Cop → D → D → Option Bool
  | .eq, x, y => oif (eqOk x y) (some (PyData.eqv x y))
  | .ne, x, y => oif (eqOk x y) (some (!PyData.eqv x y))
  | .lt, .int i, .int j => some (decide (i < j))
  | .le, .int i, .int j => some (decide (i ≤ j))
  | .gt, .int i, .int j => some (decide (j < i))
  | .ge, .int i, .int j => some (decide (j ≤ i))
  | .lt, .str x, .str y => some (decide (x.cps.toList < y.cps.toList))
  | .lt, .tuple xs, .tuple ys => oif (ltOk (.tuple xs) (.tuple ys)) (some (ltD (.tuple xs) (.tuple ys)))
  | _, _, _ => none
def isConst : D → D → Option Bool
  | .bool a, .bool b => some (a == b)
  | .none, .none => some true
  | .bool _, .none => some false
  | .int _, .none => some false
  | .str _, .none => some false
  | .list _, .none => some false
  | .tuple _, .none => some false
  | .dict _, .none => some false
  | _, _ => none
def isM : M → M → Option Bool
  | .d x, .d y => isConst x y
  | .lst _, .d y => isConst (.list []) y
  | .dct _, .d y => isConst (.list []) y
  | .obj _ _, .d y => isConst (.list []) y
  | _, _ => none
def cmpM : Cop → M → M → Option Bool
  | .isin, a, b => ob (frz a) fun x => isinD x b
  | .notin, a, b => ob (frz a) fun x => ob (isinD x b) fun k => some (!k)
  | .is, a, b => isM a b
  | .isnt, a, b => ob (isM a b) fun k => some (!k)
  | .eq, a, b => ob (frz a) fun x => ob (frz b) fun y => cmpD .eq x y
  | .ne, a, b => ob (frz a) fun x => ob (frz b) fun y => cmpD .ne x y
  | .lt, a, b => ob a.dat fun x => ob b.dat fun y => cmpD .lt x y
  | .le, a, b => ob a.dat fun x => ob b.dat fun y => cmpD .le x y
  | .gt, a, b => ob a.dat fun x => ob b.dat fun y => cmpD .gt x y
  | .ge, a, b => ob a.dat fun x => ob b.dat fun y => cmpD .ge x y
def truD : D → Bool
  | .none => false
  | .bool b => b
  | .int i => i != 0
  | .str x => x.length != 0
  | .list xs => !xs.isEmpty
  | .tuple xs => !xs.isEmpty
  | .dict xs => !xs.isEmpty
def truM : M → Option Bool
  | .d (.dict _) => none
  | .d x => some (truD x)
  | .lst ms => some (!ms.isEmpty)
  | .dct kvs => some (!kvs.isEmpty)
  | _ => none
def nix (n : Nat) (i : Int) : Option Nat := if 0 ≤ i then (if i < n then some i.toNat else none) else if -(n : Int) ≤ i then some (i + n).toNat else none
def six (n d : Nat) : Option Int → Nat
  | none => d
  | some v => if v < 0 then (v + (n : Int)).toNat else min v.toNat n
def cut {α : Type} (xs : List α) (lo hi : Option Int) : List α := (xs.drop (six xs.length 0 lo)).take (six xs.length xs.length hi - six xs.length 0 lo)
def every {α : Type} (k : Nat) : Nat → List α → List α
  | _, [] => []
  | 0, x :: xs => x :: every k (k - 1) xs
  | n + 1, _ :: xs => every k n xs
def slc {α : Type} (st : Step) (xs : List α) (lo hi : Option Int) : Option (List α) := match st with
  | .one => some (cut xs lo hi)
  | .rev => oif (lo.isNone && hi.isNone) (some xs.reverse)
  | .by k => oif (lo.isNone && hi.isNone && decide (0 < k)) (some (every k 0 xs))
def strL (x : Str) : List Nat := x.cps.toList
def mkStr (l : List Nat) : Str := ⟨l.toArray⟩
def chr1 (c : Nat) : D := .str ⟨#[c]⟩
def wtStr (x : Str) : Nat := 10 * x.length + 2
mutual
def wt : D → Nat
  | .none => 4 | .bool _ => 5
  | .int i => i.natAbs.log2 + 2
  | .str x => wtStr x
  | .list xs => wts xs + 3
  | .tuple xs => wts xs + 3
  | .dict kvs => wtk kvs + 3
def wts : List D → Nat
  | [] => 0
  | x :: xs => wt x + 2 + wts xs
def wtk : List (D × D) → Nat
  | [] => 0
  | (k, x) :: xs => wt k + wt x + 4 + wtk xs
end
def sokT (x : Str) : Bool := decide (x.length ≤ line) && (strL x).all fun c => decide (c < 0x110000)
def flatD : D → Bool
  | .dict kvs => kvs.all fun kv => isKK kv.1 && isSc kv.2
  | x => !x.hasDict
def rpOk (x : D) : Bool := decide (x.shown.length ≤ line) && x.showable && decide (x.depth ≤ 64) && flatD x && (strL x.shown).all fun c => decide (c < 0x110000)
def strsOf : List M → Option (List Str)
  | [] => some []
  | m :: r => (m.dat.bind asStr).bind fun x => (strsOf r).bind fun xs => some (x :: xs)
def joinL (z : Str) : List Str → List Nat
  | [] => []
  | [x] => strL x
  | x :: y :: r => strL x ++ strL z ++ joinL z (y :: r)
def joinLen (z : Str) (xs : List Str) : Nat := (joinL z xs).length
def splitL (c : Nat) : List Nat → List Nat → List Str
  | acc, [] => [mkStr acc.reverse]
  | acc, x :: xs => if x = c then mkStr acc.reverse :: splitL c [] xs else splitL c (x :: acc) xs
def upC (c : Nat) : Nat := if 97 ≤ c ∧ c ≤ 122 then c - 32 else c
def ascii (x : Str) : Bool := (strL x).all (· < 128)
def dedup : List D → List D → List D
  | acc, [] => acc.reverse
  | acc, x :: xs => if acc.any (fun y => PyData.eqv y x) then dedup acc xs else dedup (x :: acc) xs
def intsD : List D → Option (List Int)
  | [] => some []
  | x :: r => (asInt x).bind fun i => (intsD r).bind fun xs => some (i :: xs)
def asBool : D → Option Bool | .bool b => some b | _ => none
def boolsD : List D → Option (List Bool)
  | [] => some []
  | x :: r => (asBool x).bind fun i => (boolsD r).bind fun xs => some (i :: xs)
def asTup : D → Option (List D) | .tuple xs => some xs | _ => none
def flatT : List D → Option (List D)
  | [] => some []
  | x :: r => (asTup x).bind fun xs => (flatT r).bind fun ys => some (xs ++ ys)
def maxI : Int → List Int → Int
  | a, [] => a
  | a, x :: xs => maxI (if x > a then x else a) xs
def minI : Int → List Int → Int
  | a, [] => a
  | a, x :: xs => minI (if x < a then x else a) xs
def minT : Str → List Str → Str
  | a, [] => a
  | a, x :: xs => minT (if x.cps.toList < a.cps.toList then x else a) xs
def textsD : List D → Option (List Str)
  | [] => some []
  | x :: r => (asStr x).bind fun i => (textsD r).bind fun xs => some (i :: xs)
def minO : List D → Option D
  | .int i :: xs => (intsD xs).bind fun is => some (.int (minI i is))
  | .str i :: xs => (textsD xs).bind fun is => some (.str (minT i is))
  | _ => none
def asPair : D → Option (D × D) | .tuple [k, v] => some (k, v) | _ => none
def pairsOf : List D → Option (List (D × M))
  | [] => some []
  | x :: r => (asPair x).bind fun kv => oif (isKK kv.1) ((pairsOf r).bind fun xs => some ((kv.1, .d kv.2) :: xs))
def mergeD (a b : List (D × M)) : List (D × M) := b.foldl (fun acc kv => putD kv.1 kv.2 acc) a
def isTupC : D → Bool | .tuple (_ :: _) => true | _ => false
def isOth : D → Bool | .none => false | .tuple _ => false | _ => true
def sortOk (xs : List D) : Bool := !PyData.hasDictAll xs && decide (xs.length ≤ line) && xs.all (fun x => decide (x.depth ≤ 64) && xs.all (fun y => PySem.W.alike x y)) && (xs.all isTupC || xs.all isOth)
def sortD (xs : List D) : List D := xs.mergeSort (PySem.W.dataLe false id)
inductive Bt where | int | str | bool | tuple | list | dict
def kitT : Nat → Nat → Bool
  | 1, 0 => true | 1, 2 => true | 2, 0 => true | 3, 1 => true | 4, 4 => true | 5, 3 => true | 6, 5 => true
  | _, _ => false
def tyIx : M → Option Nat
  | .d .none => some 0 | .d (.bool _) => some 1 | .d (.int _) => some 2 | .d (.str _) => some 3 | .d (.list _) => some 4 | .d (.tuple _) => some 5 | .d (.dict _) => some 6
  | .lst _ => some 4 | .dct _ => some 6
  | _ => none
def isInst (m : M) (b : Nat) : Option Bool := ob (tyIx m) fun a => oif (decide (b < 6)) (some (kitT a b))

structure Ctx where
  np : Nat
  fr : Nat → Bool
  call : Nat → List M → CRes
  glo : List M
  sup : Nat → List Nat
  met : Nat → Nat → Option Nat
  ini : Nat → Option Nat
  kp : Nat → List Pth

def okV {α : Type} (o : Option α) (s : St) (f : α → M) : Res Rv := rs o fun a => .ok (.v (f a)) s
def okB (o : Option Bool) (s : St) : Res Rv := okV o s fun b => .d (.bool b)
def repL (j : Int) (xs : List M) : Option (List M) := (frzs xs).bind fun ds => oif (decide (ds.length * j.toNat ≤ line ∧ -2 ^ 62 ≤ j ∧ j < 2 ^ 62)) (some (((List.replicate j.toNat ds).flatten).map .d))
def kidsL (r : Rv) (s : St) : Res (List M) := match r with
  | .v (.lst ms) => .ok ms s
  | .p p => kids (.p p) s
  | _ => .no
def okTwo : Rv → Rv → Bool
  | .p p, .p q => (atOrUnder p q && atOrUnder q p) || (!atOrUnder p q && !atOrUnder q p)
  | _, _ => true
def datsM : List M → Option (List D)
  | [] => some []
  | .d x :: r => (datsM r).bind fun xs => some (x :: xs)
  | _ :: _ => none
def catD : Rv → Rv → Option (List M × List M)
  | .v (.d (.list xs)), .v (.lst ys) => some (xs.map .d, ys)
  | .v (.lst xs), .v (.d (.list ys)) => some (xs, ys.map .d)
  | _, _ => none
def addP (ra rb : Rv) (s : St) : Res Rv := rif (okTwo ra rb) ((kidsL ra s).bd fun xs s => (kidsL rb s).bd fun ys s => rif (decide (xs.length + ys.length ≤ line)) (.ok (.v (.lst (xs ++ ys))) s))
def catP (s : St) : Rv → Rv → Option (List D × List D)
  | .p p, .v (.d (.list ys)) => ob ((s.get p).bind M.lsts) fun ms => ob (datsM ms) fun xs => some (xs, ys)
  | .v (.d (.list xs)), .p p => ob ((s.get p).bind M.lsts) fun ms => ob (datsM ms) fun ys => some (xs, ys)
  | _, _ => none
def addQ (ra rb : Rv) (s : St) : Option (List D × List D) → Res Rv
  | some xy => rif (decide (xy.1.length + xy.2.length ≤ line)) (.ok (.v (.lst ((xy.1 ++ xy.2).map .d))) s)
  | none => addP ra rb s
def addL (ra rb : Rv) (s : St) : Option (List M × List M) → Res Rv
  | some xy => rif (decide (xy.1.length + xy.2.length ≤ line)) (.ok (.v (.lst (xy.1 ++ xy.2))) s)
  | none => addQ ra rb s (catP s ra rb)
def bopL : Bop → Rv → Rv → St → Res Rv
  | .add, ra, rb, s => addL ra rb s (catD ra rb)
  | .mul, ra, rb, s => (kidsL ra s).bd fun xs s => rs (rb.dat.bind asInt) fun j => rs (repL j xs) fun ys => .ok (.v (.lst ys)) s
  | _, _, _, _ => .no
def bopR : Bop → Rv → Rv → St → Res Rv
  | op, .v (.d x), .v (.d y), s => okV (bopD op x y) s .d
  | op, ra, rb, s => bopL op ra rb s
def item (ra : Rv) (a : Acc) (m : M) (s : St) : Res Rv := match ra with
  | .v _ => .ok (.v m) s
  | .p p => match m.isMut with | true => .ok (.p (p.1, p.2 ++ [a])) s | false => .ok (.v m) s
def atD (xs : List D) (i : D) : Option D := (asInt i).bind fun i => (nix xs.length i).bind fun n => xs[n]?
def subM (ra : Rv) (s : St) : M → D → Res Rv
  | .d (.tuple xs), i => okV (atD xs i) s .d
  | .d (.list xs), i => okV (atD xs i) s .d
  | .d (.str x), i => okV ((asInt i).bind fun i => (nix x.length i).bind fun n => (strL x)[n]?) s fun c => .d (chr1 c)
  | .d (.dict kvs), i => rif (isKK i) (okV (lkD i kvs) s .d)
  | .tab kvs, i => rif (isKK i) (okV (lkD i kvs) s .fn)
  | .lst ms, i => rs (asInt i) fun i => rs (nix ms.length i) fun n => rs ms[n]? fun m => item ra (.ix n) m s
  | .dct kvs, i => rif (isKK i) (rs (lkD i kvs) fun m => item ra (.ky i) m s)
  | .dnn kvs, i => rif (isNK i) (okV (lkD i kvs) s .d)
  | _, _ => .no
def subR (ra rb : Rv) (s : St) : Res Rv := rs rb.dat fun i => rs (s.val ra) fun m => subM ra s m i
def Step.isOne : Step → Bool | .one => true | _ => false
def Step.isTup : Step → Bool | .one => true | .rev => true | _ => false
def sliR (st : Step) (ra : Rv) (lo hi : Option Int) (s : St) : Res Rv := match ra with
  | .v (.d (.tuple xs)) => rif st.isTup (okV (slc st xs lo hi) s fun ys => .d (.tuple ys))
  | .v (.d (.str x)) => rif st.isOne (okV (slc st (strL x) lo hi) s fun ys => .d (.str (mkStr ys)))
  | .v (.d (.list xs)) => okV (slc st xs lo hi) s fun ys => .lst (ys.map .d)
  | .v (.lst ms) => okV (slc st ms lo hi) s .lst
  | .p p => (kids (.p p) s).bd fun ms s => okV (slc st ms lo hi) s .lst
  | _ => .no
def M.flds : M → Option (Nat × List (Nat × M)) | .obj c fs => some (c, fs) | _ => none
def attrR (ra : Rv) (f : Nat) (s : St) : Res Rv := rs ((s.val ra).bind M.flds) fun cf => rs (lkN f cf.2) fun m => item ra (.fd f) m s
def apR (i : Nat) : List Rv → Bool
  | [] => true
  | .v _ :: r => apR i r
  | .p p :: r => !(p.1 == i) && apR i r
def apart : List Rv → Bool
  | [] => true
  | .v _ :: r => apart r
  | .p p :: r => apR p.1 r && apart r
def vals (s : St) : List Rv → Option (List M)
  | [] => some []
  | r :: rs => (s.val r).bind fun m => (vals s rs).bind fun ms => some (m :: ms)
def back : List Rv → List M → St → St
  | .p p :: rs, m :: ms, s => back rs ms ((s.put p m).kill (under p))
  | .v _ :: rs, _ :: ms, s => back rs ms s
  | _, _, s => s
def retP (q : List Acc) (o : Option M) (s : St) : Rv → Res Rv
  | .p p => .ok (.p (p.1, p.2 ++ q)) s
  | .v _ => rs (o.bind fun m => m.get q) fun x => .ok (.v x) s
def cend (rv : List Rv) (s : St) : CRes → Res Rv
  | .ok (.v m) fin => .ok (.v m) (back rv fin s)
  | .ok (.p i q) fin => rs rv[i]? fun r => retP q fin[i]? (back rv fin s) r
  | .exc x fin => .exc x (back rv fin s)
  | .no => .no
def callR (C : Ctx) (f : Nat) (rv : List Rv) (s : St) : Res Rv := rif (apart rv) (rs (vals s rv) fun ms => cend rv s (C.call f ms))
def eqP : List Acc → List Acc → Bool
  | [], [] => true
  | a :: p, b :: q => accEq a b && eqP p q
  | _, _ => false
def ghAt (gh : List Pth) (i : Nat) (p q : Pth) : Bool := gh.any fun g => g.1 == i && q.1 == p.1 && eqP q.2 (p.2 ++ g.2)
def backg (gh : List Pth) : Nat → List Rv → List M → St → St
  | i, .p p :: rs, m :: ms, s => backg gh (i + 1) rs ms ((s.put p m).kill fun q => under p q && !ghAt gh i p q)
  | i, .v _ :: rs, _ :: ms, s => backg gh (i + 1) rs ms s
  | _, _, _, s => s
def cendg (gh : List Pth) (rv : List Rv) (s : St) : CRes → Res Rv
  | .ok (.v m) fin => .ok (.v m) (backg gh 0 rv fin s)
  | .exc x fin => .exc x (backg gh 0 rv fin s)
  | _ => .no
def callRg (C : Ctx) (f : Nat) (rv : List Rv) (s : St) : Res Rv := rif (apart rv) (rs (vals s rv) fun ms => cendg (C.kp f) rv s (C.call f ms))
def mend (rv : List Rv) (s : St) : CRes → Res Rv
  | .ok (.v (.d .none)) (o :: fin) => .ok (.v o) (back rv fin s)
  | .exc x (_ :: fin) => .exc x (back rv fin s)
  | _ => .no
def mkR (C : Ctx) (c : Nat) (rv : List Rv) (s : St) : Res Rv := rs (C.ini c) fun f => rif (apart rv) (rs (vals s rv) fun ms => mend rv s (C.call f (.obj c [] :: ms)))
def popAt {α : Type} (xs : List α) (i : Int) : Option (α × List α) := (nix xs.length i).bind fun n => (xs[n]?).bind fun x => some (x, xs.eraseIdx n)
def rmD (x : D) : List D → Option (List D)
  | [] => none
  | y :: r => if PyData.eqv y x then some r else (rmD x r).bind fun r' => some (y :: r')
def ixD (x : D) : List D → Nat → Option Nat
  | [], _ => none
  | y :: r, n => if PyData.eqv y x then some n else ixD x r (n + 1)
def ixN (x : Nat) : List Nat → Nat → Option Nat
  | [], _ => none
  | y :: r, n => if y = x then some n else ixN x r (n + 1)
def seqD : M → Option (List D)
  | .d (.list xs) => some xs
  | .d (.tuple xs) => some xs
  | .lst ms => frzs ms
  | _ => none
def tupM : M → Option (List D)
  | .d (.tuple xs) => some xs
  | _ => none
def nonM : M := .d .none
def getK (ro : Rv) (k : D) (dflt : Rv) (s : St) : Option M → Res Rv
  | some m => item ro (.ky k) m s
  | none => .ok dflt s
def getDk (dflt : Rv) (s : St) : Option D → Res Rv
  | some x => .ok (.v (.d x)) s
  | none => .ok dflt s
def one1 : List Nat → Option Nat | [c] => some c | _ => none
def allEq (x : D) (xs : List D) : Bool := !x.hasDict && shal x && !PyData.hasDictAll xs
def atP {α : Type} (ro : Rv) (s : St) (k : St → Res α) (fin : Pth → α → St → Res Rv) : Res Rv := match ro with
  | .p p => (k (s.push p)).bd fun a s => rs (topP s.tm) fun pt => fin pt.1 a (s.tms pt.2)
  | .v _ => .no
def onP (ro : Rv) (f : Pth → Res Rv) : Res Rv := match ro with | .p p => f p | .v _ => .no
def recv : Bm → M → Bool
  | .append, .lst _ => true | .extend, .lst _ => true | .pop, .lst _ => true | .insert, .lst _ => true | .remove, .lst _ => true | .count, .lst _ => true
  | .popk, .dct _ => true | .update, .dct _ => true | .get, .dct _ => true | .get, .d (.dict _) => true
  | .join, .d (.str _) => true | .split, .d (.str _) => true | .upper, .d (.str _) => true
  | .index, .lst _ => true | .index, .d (.list _) => true | .tindex, .d (.tuple _) => true | .sindex, .d (.str _) => true
  | _, _ => false
def bApp (ro : Rv) (s : St) : List Rv → Res Rv
  | [r] => atP ro s (sto r) fun p m s => rs ((s.get p).bind M.lsts) fun ms => rif (decide (ms.length < line)) (.ok (.v nonM) (s.put p (.lst (ms ++ [m]))))
  | _ => .no
def bExt (ro : Rv) (s : St) : List Rv → Res Rv
  | [r] => atP ro s (kids r) fun p xs s => rs ((s.get p).bind M.lsts) fun ms => rif (decide (ms.length + xs.length ≤ line)) (.ok (.v nonM) (s.put p (.lst (ms ++ xs))))
  | _ => .no
def bIns (ro : Rv) (s : St) : List Rv → Res Rv
  | [.v (.d (.int i)), r] => atP ro s (sto r) fun p m s => rs ((s.get p).bind M.lsts) fun ms => rif (decide (ms.length < line ∧ 0 ≤ i ∧ i < 2 ^ 62)) (.ok (.v nonM) ((s.put p (.lst (ms.take i.toNat ++ [m] ++ ms.drop i.toNat))).kill (under p)))
  | _ => .no
def popM (ro : Rv) (s : St) (ms : List M) (i : Int) : Res Rv := onP ro fun p => rs (popAt ms i) fun mr => .ok (.v mr.1) ((s.put p (.lst mr.2)).kill (under p))
def bPop (ro : Rv) (s : St) (ms : List M) : List Rv → Res Rv
  | [] => popM ro s ms (-1)
  | [.v (.d (.int i))] => rif (decide (-2 ^ 62 ≤ i ∧ i < 2 ^ 62)) (popM ro s ms i)
  | _ => .no
def bPopk (ro : Rv) (s : St) (kvs : List (D × M)) : List Rv → Res Rv
  | [.v (.d k)] => onP ro fun p => rif (isKK k) (rs (lkD k kvs) fun m => .ok (.v m) ((s.put p (.dct (delD k kvs))).kill (under p)))
  | _ => .no
def kq (k : D) (a b : Res Rv) : Res Rv := match k with
  | .none => b | .int _ => a | .str _ => a | .bool _ => .no | .list _ => .no | .tuple _ => .no | .dict _ => .no
def bGet (ro : Rv) (s : St) (kvs : List (D × M)) : List Rv → Res Rv
  | [.v (.d k)] => kq k (getK ro k (.v nonM) s (lkD k kvs)) (.ok (.v nonM) s)
  | [.v (.d k), r] => kq k (getK ro k r s (lkD k kvs)) (.ok r s)
  | _ => .no
def bGetD (s : St) (kvs : List (D × D)) : List Rv → Res Rv
  | [.v (.d k)] => kq k (getDk (.v nonM) s (lkD k kvs)) (.ok (.v nonM) s)
  | [.v (.d k), r] => kq k (getDk r s (lkD k kvs)) (.ok r s)
  | _ => .no
def bCount (s : St) (ms : List M) : List Rv → Res Rv
  | [.v (.d x)] => rs (frzs ms) fun xs => rif (allEq x xs) (.ok (.v (.d (.int (xs.countP fun y => PyData.eqv y x)))) s)
  | _ => .no
def bIndex (s : St) (o : M) : List Rv → Res Rv
  | [.v (.d x)] => rs (seqD o) fun xs => rif (allEq x xs && decide (xs.length ≤ line)) (rs (ixD x xs 0) fun n => .ok (.v (.d (.int n))) s)
  | _ => .no
def bSindex (s : St) (z : Str) : List Rv → Res Rv
  | [.v (.d (.str y))] => rs (Builtin.Str.occurrences z y 0 z.length 1).head? fun i => .ok (.v (.d (.int (i : Nat)))) s
  | _ => .no
def bJoin (s : St) (z : Str) : List Rv → Res Rv
  | [r] => rs (((s.val r).bind asSeq).bind strsOf) fun xs => rif (decide (joinLen z xs ≤ line ∧ xs.length * z.length + (xs.map Str.length).sum ≤ line)) (.ok (.v (.d (.str (mkStr (joinL z xs))))) s)
  | _ => .no
def bSplit (s : St) (x : Str) : List Rv → Res Rv
  | [.v (.d (.str z))] => rif (decide (0 < z.length ∧ x.length + 2 ≤ line) && (Txt.split x z).all sokT) (.ok (.v (.lst ((Txt.split x z).map fun y => .d (.str y)))) s)
  | _ => .no
def bUpper (s : St) (x : Str) : List Rv → Res Rv
  | [] => rif (ascii x && decide (x.length ≤ 5592405)) (.ok (.v (.d (.str (mkStr ((strL x).map upC))))) s)
  | _ => .no
def bUpd (ro : Rv) (s : St) (kvs : List (D × M)) : List Rv → Res Rv
  | [.v (.dct new)] => onP ro fun p => rif (decide (kvs.length + new.length ≤ line)) (.ok (.v nonM) ((s.put p (.dct (mergeD kvs new))).kill (under p)))
  | _ => .no
def bmM (ro : Rv) (s : St) (b : Bm) (o : M) (rv : List Rv) : Res Rv := match b with
  | .append => bApp ro s rv
  | .extend => bExt ro s rv
  | .insert => bIns ro s rv
  | .pop => rs o.lsts fun ms => bPop ro s ms rv
  | .popk => rs o.dcts fun kvs => bPopk ro s kvs rv
  | .get => (match o with
    | .dct kvs => bGet ro s kvs rv
    | .d (.dict kvs) => bGetD s kvs rv
    | _ => .no)
  | .count => rs o.lsts fun ms => bCount s ms rv
  | .index => rif (recv .index o) (bIndex s o rv)
  | .tindex => rif (recv .tindex o) (bIndex s o rv)
  | .sindex => rs (o.dat.bind asStr) fun z => bSindex s z rv
  | .join => rs (o.dat.bind asStr) fun z => bJoin s z rv
  | .split => rs (o.dat.bind asStr) fun z => bSplit s z rv
  | .upper => rs (o.dat.bind asStr) fun z => bUpper s z rv
  | .remove => .no
  | .update => rs o.dcts fun kvs => bUpd ro s kvs rv
def bmR (b : Bm) (ro : Rv) (rv : List Rv) (s : St) : Res Rv := rs (s.val ro) fun o => bmM ro s b o rv
def lenM : M → Option Nat
  | .d (.str x) => some x.length
  | .d (.list xs) => some xs.length
  | .d (.tuple xs) => some xs.length
  | .d (.dict xs) => some xs.length
  | .set xs => some xs.length
  | .lst ms => some ms.length
  | .dct kvs => some kvs.length
  | .dnn kvs => some kvs.length
  | _ => none
def isOne (C : Ctx) (m : M) : M → Option Bool
  | .bt b => isInst m b
  | _ => none
def xisB (C : Ctx) (ks : List Nat) : M → Option Bool
  | .exc c _ => some (ks.any fun k => (C.sup c).contains k)
  | _ => none
def kvD (kvs : List (D × D)) : List (D × M) := kvs.map fun kv => (kv.1, .d kv.2)
def fLen (s : St) : List Rv → Res Rv
  | [r] => rs ((s.val r).bind lenM) fun n => .ok (.v (.d (.int n))) s
  | _ => .no
def fIsi (C : Ctx) (s : St) : List Rv → Res Rv
  | [r, c] => rs (s.val r) fun m => rs c.mv fun c => okB (isOne C m c) s
  | _ => .no
def fInt (s : St) : List Rv → Res Rv
  | [.v (.d (.int i))] => .ok (.v (.d (.int i))) s
  | [.v (.d (.bool b))] => .ok (.v (.d (.int (if b then 1 else 0)))) s
  | [.v (.d (.str x))] => rif (decide (x.length ≤ 640)) (rs (PySem.intText? x) fun n => .ok (.v (.d (.int n))) s)
  | _ => .no
def fStr (s : St) : List Rv → Res Rv
  | [.v (.d (.int i))] => rif (decide (i.natAbs.log2 < 1920) && sokT (toString i)) (.ok (.v (.d (.str (toString i)))) s)
  | [.v (.d (.str x))] => .ok (.v (.d (.str x))) s
  | _ => .no
def fRepr (s : St) : List Rv → Res Rv
  | [r] => rs ((s.val r).bind frz) fun x => rif (rpOk x) (.ok (.v (.d (.str x.shown))) s)
  | _ => .no
def fMax2 (s : St) : List Rv → Res Rv
  | [.v (.d (.int i)), .v (.d (.int j))] => .ok (.v (.d (.int (if j > i then j else i)))) s
  | _ => .no
def fMin2 (s : St) : List Rv → Res Rv
  | [.v (.d (.int i)), .v (.d (.int j))] => .ok (.v (.d (.int (if j < i then j else i)))) s
  | _ => .no
def dctP : M → Option (List (D × M))
  | .dct kvs => oif (allD (kvs.map (·.2))) (some kvs)
  | .lst ms => ob ((datsM ms).bind pairsOf) fun kvs => some (mergeD [] kvs)
  | _ => none
def fDict (s : St) : List Rv → Res Rv
  | [.v (.lst ms)] => rs ((datsM ms).bind pairsOf) fun kvs => .ok (.v (.dct (mergeD [] kvs))) s
  | [.v (.dct kvs)] => .ok (.v (.dct kvs)) s
  | [.v (.d (.dict kvs))] => .ok (.v (.dct (kvD kvs))) s
  | [.p p] => rs ((s.get p).bind dctP) fun kvs => .ok (.v (.dct kvs)) s
  | _ => .no
def pairsN : List D → Option (List (D × D))
  | [] => some []
  | x :: r => (asPair x).bind fun kv => oif (isNK kv.1) ((pairsN r).bind fun xs => some (kv :: xs))
def mergeN (a b : List (D × D)) : List (D × D) := b.foldl (fun acc kv => putD kv.1 kv.2 acc) a
def fDictn (s : St) : List Rv → Res Rv
  | [.v (.lst ms)] => rs ((datsM ms).bind pairsN) fun kvs => .ok (.v (.dnn (mergeN [] kvs))) s
  | _ => .no
def mOr (s : St) (dflt : Option M) (f : Int → List Int → Int) : List Int → Res Rv
  | [] => rs dflt fun m => .ok (.v m) s
  | i :: is => .ok (.v (.d (.int (f i is)))) s
def biR (b : Bf) (ms : List M) (dflt : Option M) (s : St) : Res Rv := match b with
  | .list => .ok (.v (.lst ms)) s
  | .tuple => okV (frzs ms) s fun xs => .d (.tuple xs)
  | .dict => okV ((frzs ms).bind pairsOf) s fun kvs => .dct (mergeD [] kvs)
  | .sorted => okV ((frzs ms).bind fun xs => oif (sortOk xs) (some (sortD xs))) s fun xs => .lst (xs.map .d)
  | .sum => okV ((frzs ms).bind intsD) s fun is => .d (.int is.sum)
  | .all => okV ((frzs ms).bind boolsD) s fun xs => .d (.bool (xs.all id))
  | .any => okV ((frzs ms).bind boolsD) s fun xs => .d (.bool (xs.any id))
  | .max => rs ((frzs ms).bind intsD) fun is => mOr s dflt maxI is
  | .min => okV ((frzs ms).bind minO) s .d
  | _ => .no
def fSeq (b : Bf) (s : St) : List Rv → Res Rv
  | [r] => (kids r s).bd fun ms s => biR b ms none s
  | _ => .no
def isL : M → Bool | .lst _ => true | .d (.list _) => true | _ => false
def fSeqL (b : Bf) (s : St) : List Rv → Res Rv
  | [r] => rs (s.val r) fun m => rif (isL m) ((kids r s).bd fun ms s => biR b ms none s)
  | _ => .no
def fMaxd (s : St) : List Rv → Res Rv
  | [r, .v (.d (.int d))] => rs (s.val r) fun m => rif (isL m) ((kids r s).bd fun ms s => biR .max ms (some (.d (.int d))) s)
  | _ => .no
def isStrD : D → Bool | .str x => sokT x | _ => false
def setO (xs : List D) : Option (List D) := oif (xs.all isStrD && decide (xs.length < 4096)) (some (dedup [] xs))
def ltO : D → Option (List D) | .list xs => some xs | .tuple xs => some xs | _ => none
def fLset (s : St) : List Rv → Res Rv
  | [r] => (stoD r s).bd fun x s => rs ((ltO x).bind setO) fun ys => .ok (.v (.d (.int ys.length))) s
  | _ => .no
def fSset (s : St) : List Rv → Res Rv
  | [r] => (stoD r s).bd fun x s => rs ((ltO x).bind setO) fun ys => .ok (.v (.lst ((sortD ys).map .d))) s
  | _ => .no
def isIntD : D → Bool | .int _ => true | _ => false
def setI (xs : List D) : Option (List D) := oif (xs.all isIntD && decide (xs.length < 4096)) (some (dedup [] xs))
def seqV (s : St) (r : Rv) : Option (List D) := ob (s.val r) fun m => ob (asSeq m) frzs
def fLsetI (s : St) : List Rv → Res Rv
  | [r] => rs (ob (seqV s r) setI) fun ys => .ok (.v (.d (.int ys.length))) s
  | _ => .no
def fSsetI (s : St) : List Rv → Res Rv
  | [r] => rs (ob (seqV s r) setI) fun ys => .ok (.v (.lst ((sortD ys).map .d))) s
  | _ => .no
def dkeysS : M → Option (List D)
  | .dct kvs => some (kvs.map (·.1))
  | .d (.dict kvs) => some (kvs.map (·.1))
  | _ => none
def fSorted (s : St) : List Rv → Res Rv
  | [r] => rs (s.val r) fun m => match dkeysS m with
    | some ks => rif (ks.all isStrD && decide (ks.length < 64)) (.ok (.v (.lst ((sortD ks).map .d))) s)
    | none => rif (isL m) ((kids r s).bd fun ms s => biR .sorted ms none s)
  | _ => .no
def rngD (a : Int) (n : Nat) : List D := (List.range n).map fun (k : Nat) => .int (a + (k : Int))
def big (i : Int) : Bool := decide (-(2 ^ 62) ≤ i) && decide (i < 2 ^ 62)
def fLrng (s : St) : List Rv → Res Rv
  | [.v (.d (.int j))] => rif (big j && decide (j ≤ 16777216)) (.ok (.v (.lst ((rngD 0 j.toNat).map .d))) s)
  | [.v (.d (.int i)), .v (.d (.int j))] => rif (big i && big j && decide (j - i ≤ 16777216)) (.ok (.v (.lst ((rngD i (j - i).toNat).map .d))) s)
  | _ => .no
def fRevl (s : St) : List Rv → Res Rv
  | [.v (.lst ms)] => .ok (.v (.lst ms.reverse)) s
  | _ => .no
def zipD : List D → List D → List D
  | x :: xs, y :: ys => .tuple [x, y] :: zipD xs ys
  | _, _ => []
def seqW (s : St) (r : Rv) : Option (List D) := ob (s.val r) fun m => ob (asSeq m) datsM
def fDzip (s : St) : List Rv → Res Rv
  | [r1, r2] => rs (seqW s r1) fun xs => rs (seqW s r2) fun ys => rif (decide (xs.length ≤ line)) (rs (pairsOf (zipD xs ys)) fun kvs => .ok (.v (.dct (mergeD [] kvs))) s)
  | _ => .no
def bfR (C : Ctx) (s : St) (b : Bf) (rv : List Rv) : Res Rv := match b with
  | .len => fLen s rv
  | .isinst => fIsi C s rv
  | .int => fInt s rv
  | .str => fStr s rv
  | .repr => fRepr s rv
  | .max2 => fMax2 s rv
  | .min2 => fMin2 s rv
  | .maxd => fMaxd s rv
  | .lenset => fLset s rv
  | .sortset => fSset s rv
  | .lenseti => fLsetI s rv
  | .sortseti => fSsetI s rv
  | .revl => fRevl s rv
  | .lrng => fLrng s rv
  | .dzip => fDzip s rv
  | .dict => fDict s rv
  | .dictn => fDictn s rv
  | .list => fSeq .list s rv
  | .tuple => fSeq .tuple s rv
  | .sorted => fSorted s rv
  | .sum => fSeqL .sum s rv
  | .all => fSeqL .all s rv
  | .any => fSeqL .any s rv
  | .max => fSeqL .max s rv
  | .min => fSeqL .min s rv
  | _ => .no
inductive Pl where | ms (ms : List M) | pt (p : Pth)
def keysM {α : Type} (kvs : List (D × α)) : List M := kvs.map fun kv => .d kv.1
def plP (p : Pth) (s : St) : M → Res Pl
  | .lst _ => .ok (.pt p) s
  | _ => .no
def plOf (r : Rv) (s : St) : Res Pl := match r with
  | .v (.d (.tuple xs)) => .ok (.ms (xs.map .d)) s
  | .v (.d (.list xs)) => .ok (.ms (xs.map .d)) s
  | .v (.d (.str x)) => .ok (.ms ((strL x).map fun c => .d (chr1 c))) s
  | .v (.lst ms) => .ok (.ms ms) s
  | .p p => rs (s.get p) fun m => plP p s m
  | _ => .no
def plAll (p : Pl) (s : St) : Res (List M) := match p with
  | .ms ms => .ok ms s
  | .pt p => (sto (.p p) s).bd fun m s => rs (asSeq m) fun ms => .ok ms s
def enumD : Nat → List D → List D
  | _, [] => []
  | n, x :: xs => .tuple [.int n, x] :: enumD (n + 1) xs

def free (fr : Nat → Bool) (i : Nat) (s : St) : Bool := decide (i < s.sl.length) && fr i
def atRoot (i : Nat) (r : Pth) : Bool := r.1 == i
def bindN (fr : Nat → Bool) (i : Nat) (m : M) (s : St) : Option St :=
  oif (free fr i s) (some ({ sl := s.sl.set i (some m), rf := killR (atRoot i) (dropR i s.rf), tm := killT (atRoot i) s.tm }))
def bindP (fr : Nat → Bool) (i : Nat) (p : Pth) (s : St) : Option St :=
  oif (free fr i s && !(p.1 == i)) (some ({ sl := s.sl.set i none, rf := (i, p) :: killR (atRoot i) (dropR i s.rf), tm := killT (atRoot i) s.tm }))
mutual
def bindT (fr : Nat → Bool) : Tn → M → St → Option St
  | .nm i, m, s => bindN fr i m s
  | .tp ts, m, s => ob (tupM m) fun xs => bindTs fr ts xs s
def bindTs (fr : Nat → Bool) : List Tn → List D → St → Option St
  | [], [], s => some s
  | t :: ts, x :: xs, s => ob (bindT fr t (.d x) s) fun s => bindTs fr ts xs s
  | _, _, _ => none
end
def bindQ (fr : Nat → Bool) (p : Pth) (n : Nat) (s : St) : Tn → Option St
  | .nm i => bindP fr i (p.1, p.2 ++ [.ix n]) s
  | .tp _ => none
def bindI (fr : Nat → Bool) (t : Tn) (p : Pth) (n : Nat) (m : M) (s : St) : Option St := match m.isMut with
  | true => bindQ fr p n s t
  | false => bindT fr t m s

def forM (fr : Nat → Bool) (t : Tn) (body : St → Fl) : List M → St → Fl
  | [], s => .nx s
  | m :: ms, s => fs (bindT fr t m s) fun s => (body s).lp (forM fr t body ms) .nx
def popT (s : St) : Fl := fs s.tm.tail? fun t => .nx (s.tms t)
def topL (s : St) : Option (Pth × List M) := (topP s.tm).bind fun pt => ((s.get pt.1).bind M.lsts).bind fun ms => some (pt.1, ms)
def forP (fr : Nat → Bool) (t : Tn) (body : St → Fl) : Nat → Nat → St → Fl
  | 0, i, s => fs (topL s) fun pm => match pm.2[i]? with
    | none => popT s
    | some _ => .no
  | k + 1, i, s => fs (topL s) fun pm => match pm.2[i]? with
    | none => popT s
    | some m => fs (bindI fr t pm.1 i m s) fun s => (body s).lp (forP fr t body k (i + 1)) popT
def lenP (s : St) (p : Pth) : Nat := match (s.get p).bind M.lsts with | some ms => ms.length | none => 0
def forPl (fr : Nat → Bool) (t : Tn) (body : St → Fl) (p : Pl) (s : St) : Fl := match p with
  | .ms ms => forM fr t body ms s
  | .pt p => forP fr t body (lenP s p) 0 (s.push p)
def hideN {α : Type} : List Nat → List (Option α) → List (Option α)
  | [], l => l
  | i :: is, l => hideN is (l.set i none)
def showN {α : Type} (old : List (Option α)) : List Nat → List (Option α) → List (Option α)
  | [], l => l
  | i :: is, l => showN old is (l.set i (joinO old[i]?))
def inN (own : List Nat) (r : Pth) : Bool := own.contains r.1
def dropRs (own : List Nat) : List (Nat × Pth) → List (Nat × Pth)
  | [] => []
  | x :: r => if own.contains x.1 then dropRs own r else x :: dropRs own r
def hide (own : List Nat) (s : St) : St := { sl := hideN own s.sl, rf := killR (inN own) (dropRs own s.rf), tm := killT (inN own) s.tm }
def unhide (own : List Nat) (old s : St) : St := { sl := showN old.sl own s.sl, rf := killR (inN own) (dropRs own s.rf), tm := killT (inN own) s.tm }
def quiet (own : List Nat) (s : St) : Bool := own.all fun i => match s.sget i with | some m => !m.isMut | none => true
def ownF (own : List Nat) (i : Nat) : Bool := own.contains i
def lcM (own : List Nat) (t : Tn) (cond : St → Res Bool) (elt : St → Res M) : List M → St → List M → Res (List M)
  | [], s, acc => .ok acc s
  | m :: ms, s, acc => rs (bindT (ownF own) t m s) fun s => (cond s).bd fun c s => match c with
    | true => (elt s).bd fun m s => lcM own t cond elt ms (hide own s) (acc ++ [m])
    | false => lcM own t cond elt ms (hide own s) acc
def lcP (own : List Nat) (t : Tn) (cond : St → Res Bool) (elt : St → Res M) : Nat → Nat → St → List M → Res (List M)
  | 0, i, s, acc => rs (topL s) fun pm => match pm.2[i]? with
    | none => rs s.tm.tail? fun t => .ok acc (s.tms t)
    | some _ => .no
  | k + 1, i, s, acc => rs (topL s) fun pm => match pm.2[i]? with
    | none => rs s.tm.tail? fun t => .ok acc (s.tms t)
    | some m => rs (bindI (ownF own) t pm.1 i m s) fun s => (cond s).bd fun c s => match c with
      | true => (elt s).bd fun m s => lcP own t cond elt k (i + 1) (hide own s) (acc ++ [m])
      | false => lcP own t cond elt k (i + 1) (hide own s) acc
def lcPl (own : List Nat) (t : Tn) (cond : St → Res Bool) (elt : St → Res M) (p : Pl) (s : St) : Res (List M) := match p with
  | .ms ms => rif (decide (ms.length ≤ line)) (lcM own t cond elt ms (hide own s) [])
  | .pt p => rif (decide (lenP s p ≤ line)) (lcP own t cond elt (lenP s p) 0 (hide own (s.push p)) [])

def tr (r : Res Rv) : Res Bool := r.bd fun r s => rs ((s.val r).bind truM) fun k => .ok k s
def Res.both {α : Type} (r : Res Bool) (f g : St → Res α) : Res α := r.bd fun k s => match k with | true => f s | false => g s
def Res.fork (r : Res Bool) (f g : St → Fl) : Fl := r.fl fun k s => match k with | true => f s | false => g s
def pick {α : Type} (k : Bool) (a b : α) : α := match k with | true => a | false => b
def rngOf : Option M → D → Option (List M)
  | none, .int j => oif (big j) (some ((rngD 0 j.toNat).map .d))
  | some (.d (.int i)), .int j => oif (big i && big j) (some ((rngD i (j - i).toNat).map .d))
  | _, _ => none
def rngDn (a : Int) (n : Nat) : List D := (List.range n).map fun (k : Nat) => .int (a + (k : Int) * -1)
def rng3Of : D → D → D → Option (List M)
  | .int i, .int j, .int c => oif (decide (c = -1) && big i && big j) (some ((rngDn i (i - j).toNat).map .d))
  | _, _, _ => none
def itOk : D → Bool
  | .int _ => true | .str x => sokT x | _ => false
def itemsD : D → Option (List M)
  | .dict kvs => oif (kvs.all fun kv => itOk kv.1) (some (kvs.map fun kv => .d (.tuple [kv.1, kv.2])))
  | _ => none
def seqOf : D → Option (List D)
  | .list xs => some xs | .tuple xs => some xs | .str x => some ((strL x).map chr1) | _ => none
def negD : D → Option D | .int i => some (.int (-i)) | _ => none
def M.fnO : M → Option Nat | .fn f => some f | _ => none
mutual
def ev (C : Ctx) : E → St → Res Rv
  | .var i mv, s => rd C.np s i mv
  | .xis i ks, s => rs (s.sget i) fun m => rs (xisB C ks m) fun b => .ok (.v (.d (.bool b))) s
  | .con x, s => .ok (.v (.d x)) s
  | .glo g, s => rs C.glo[g]? fun m => .ok (.v m) s
  | .tup es, s => (evds C es s).bd fun xs s => .ok (.v (.d (.tuple xs))) s
  | .lst es, s => (evms C es s).bd fun ms s => .ok (.v (.lst ms)) s
  | .dct kvs, s => (evkv C kvs s []).bd fun kvs s => .ok (.v (.dct kvs)) s
  | .bin op a b, s => (ev C a s).bd fun ra s => hold ra s (ev C b) fun ra rb s => bopR op ra rb s
  | .neg a, s => (ev C a s).bd fun r s => okV (r.dat.bind negD) s .d
  | .nt a, s => (tr (ev C a s)).bd fun k s => .ok (.v (.d (.bool (!k)))) s
  | .and a b, s => (ev C a s).bd fun r s => rs ((s.val r).bind truM) fun k => match k with | true => ev C b s | false => .ok r s
  | .or a b, s => (ev C a s).bd fun r s => rs ((s.val r).bind truM) fun k => match k with | true => .ok r s | false => ev C b s
  | .cmp op a b, s => (ev C a s).bd fun ra s => hold ra s (ev C b) fun ra rb s => rs (s.val ra) fun x => rs (s.val rb) fun y => okB (cmpM op x y) s
  | .cmp2 op1 op2 a b c, s => (ev C a s).bd fun ra s => rs ra.dat fun x => (ev C b s).bd fun rb s => rs rb.dat fun y =>
    rs (cmpD op1 x y) fun k => match k with
    | true => (ev C c s).bd fun rc s => rs rc.dat fun z => okB (cmpD op2 y z) s
    | false => .ok (.v (.d (.bool false))) s
  | .ite c a b, s => (tr (ev C c s)).both (ev C a) (ev C b)
  | .attr a f, s => (ev C a s).bd fun r s => attrR r f s
  | .sub a i, s => (ev C a s).bd fun ra s => hold ra s (ev C i) fun ra rb s => subR ra rb s
  | .sli a lo hi st, s => (ev C a s).bd fun ra s => hold ra s (fun s => (evp C lo s).bd fun l s => (evp C hi s).bd fun h s => .ok (l, h) s) fun ra lh s => sliR st ra lh.1 lh.2 s
  | .call f es, s => (evs C es s).bd fun rv s => callR C f rv s
  | .mk c es, s => (evs C es s).bd fun rv s => mkR C c rv s
  | .callv f es, s => (ev C f s).bd fun rf s => rs (rf.mv.bind M.fnO) fun f => (evs C es s).bd fun rv s => callR C f rv s
  | .um o m es, s => (ev C o s).bd fun ro s => rs ((s.val ro).bind M.flds) fun cf => rs (C.met cf.1 m) fun f => hold ro s (evs C es) fun ro rv s => callR C f (ro :: rv) s
  | .bm o m es, s => (ev C o s).bd fun ro s => rs (s.val ro) fun m0 => rif (recv m m0) (hold ro s (evs C es) fun ro rv s => bmR m ro rv s)
  | .bf b es, s => (evs C es s).bd fun rv s => bfR C s b rv
  | .bi b it dflt, s => (evi C it s).bd fun p s => (plAll p s).bd fun ms s => (evo C dflt s).bd fun d s => biR b ms d s
  | .lc elt t it cond own, s => (evi C it s).bd fun p s0 => rif (quiet own s0)
    ((lcPl own t (fun s => evc C cond s) (fun s => (ev C elt s).bd fun r s => sto r s) p s0).bd fun ms s => .ok (.v (.lst ms)) (unhide own s0 s))
  | .callg f es, s => (evs C es s).bd fun rv s => callRg C f rv s
  | .nox e, s => (ev C e s).kill
  | .xcall f es, s => (evs C es s).kill.bd fun rv s => callR C f rv s
  | .xum o m es, s => (ev C o s).kill.bd fun ro s => rs ((s.val ro).bind M.flds) fun cf => rs (C.met cf.1 m) fun f => hold ro s (fun s => (evs C es s).kill) fun ro rv s => callR C f (ro :: rv) s
  | .xmk c es, s => (evs C es s).kill.bd fun rv s => mkR C c rv s
  | .xumr o m es, s => (ev C o s).bd fun ro s => Res.kill (rs ((s.val ro).bind M.flds) fun cf => rs (C.met cf.1 m) fun f => hold ro s (evs C es) fun ro rv s => callR C f (ro :: rv) s)
  | .xsub a i, s => (ev C a s).bd fun ra s => Res.kill (hold ra s (ev C i) fun ra rb s => subR ra rb s)
  | .xtup a, s => (ev C a s).bd fun ra s => Res.kill (bfR C s .tuple [ra])
  | .xtp a es, s => (ev C a s).bd fun ra s => Res.kill (rs ra.dat fun x => (evds C es s).bd fun xs s => .ok (.v (.d (.tuple (x :: xs)))) s)
  | .dnew, s => .ok (.v (.dnn [])) s
  | .dct1 k v, s => (ev C k s).bd fun rk s => rs rk.dat fun x => (ev C v s).bd fun rv s => (sto rv s).bd fun m s => match isKK x with
    | true => .ok (.v (.dct [(x, m)])) s
    | false => rs m.dat fun y => rif (isNK x) (.ok (.v (.dnn [(x, y)])) s)
  | .lstm i es, s => rs (s.sget i) fun _ => (evms C es s).bd fun ms s => (rd C.np s i true).bd fun r s => rs r.mv fun m => .ok (.v (.lst (m :: ms))) s
def evc (C : Ctx) : OE → St → Res Bool
  | .none, s => .ok true s
  | .some e, s => tr (ev C e s)
def evo (C : Ctx) : OE → St → Res (Option M)
  | .none, s => .ok none s
  | .some e, s => (ev C e s).bd fun r s => rs r.mv fun m => .ok (some m) s
def evp (C : Ctx) : OE → St → Res (Option Int)
  | .none, s => .ok none s
  | .some e, s => (ev C e s).bd fun r s => rs (r.dat.bind asInt) fun i => .ok (some i) s
def evds (C : Ctx) : Es → St → Res (List D)
  | .nil, s => .ok [] s
  | .cons e es, s => (ev C e s).bd fun r s => (stoD r s).bd fun x s => (evds C es s).bd fun xs s => .ok (x :: xs) s
def evms (C : Ctx) : Es → St → Res (List M)
  | .nil, s => .ok [] s
  | .cons e es, s => (ev C e s).bd fun r s => (sto r s).bd fun x s => (evms C es s).bd fun xs s => .ok (x :: xs) s
def evs (C : Ctx) : Es → St → Res (List Rv)
  | .nil, s => .ok [] s
  | .cons e es, s => (ev C e s).bd fun r s => hold r s (evs C es) fun r rv s => .ok (r :: rv) s
def evkv (C : Ctx) : Kv → St → List (D × M) → Res (List (D × M))
  | .nil, s, acc => .ok acc s
  | .cons k v r, s, acc => (ev C k s).bd fun rk s => rs rk.dat fun x => (ev C v s).bd fun rv s => (sto rv s).bd fun m s => rif (isKK x && (lkD x acc).isNone) (evkv C r s (acc ++ [(x, m)]))
def evi (C : Ctx) : It → St → Res Pl
  | .e a, s => (ev C a s).bd fun r s => plOf r s
  | .rng a b, s => (evo C a s).bd fun ma s => (ev C b s).bd fun rb s => rs (rb.dat.bind (rngOf ma)) fun ms => .ok (.ms ms) s
  | .rng3 a b c, s => (ev C a s).bd fun ra s => rs ra.dat fun x => (ev C b s).bd fun rb s => rs rb.dat fun y => (ev C c s).bd fun rc s => rs (rc.dat.bind (rng3Of x y)) fun ms => .ok (.ms ms) s
  | .enm a, s => (evt C a s).bd fun xs s => .ok (.ms ((enumD 0 xs).map .d)) s
  | .zip a b, s => (evt C a s).bd fun xs s => (evt C b s).bd fun ys s => rif (decide (xs.length ≤ line)) (.ok (.ms ((zipD xs ys).map .d)) s)
  | .rev a, s => (evt C a s).bd fun xs s => .ok (.ms (xs.reverse.map .d)) s
  | .its a, s => (ev C a s).bd fun r s => (stoD r s).bd fun x s => rs (itemsD x) fun ms => .ok (.ms ms) s
def evt (C : Ctx) : It → St → Res (List D)
  | .e a, s => (ev C a s).bd fun r s => (stoD r s).bd fun x s => rs (seqOf x) fun xs => .ok xs s
  | .rng _ _, _ => .no | .rng3 _ _ _, _ => .no | .enm _, _ => .no | .zip _ _, _ => .no | .rev _, _ => .no | .its _, _ => .no
end

def nmT (is : List Nat) : Tn := .tp (is.map .nm)
def Rv.pth : Rv → Option Pth | .p q => some q | .v _ => none
def setM (p : Pth) (v : M) (s : St) : M → D → Fl
  | .dct kvs, i => fif (isKK i && decide (kvs.length < line)) (.nx ((s.put p (.dct (putD i v kvs))).kill fun q => atOrUnder (p.1, p.2 ++ [.ky i]) q))
  | .lst ms, i => fs (asInt i) fun i => fs (nix ms.length i) fun n => .nx ((s.put p (.lst (ms.set n v))).kill fun q => atOrUnder (p.1, p.2 ++ [.ix n]) q)
  | .dnn kvs, i => fs v.dat fun x => fif (isNK i && decide (kvs.length < line)) (.nx ((s.put p (.dnn (putD i x kvs))).kill (under p)))
  | _, _ => .no
def setLs (p : Pth) (v : M) (s : St) : M → D → Fl
  | .lst ms, i => setM p v s (.lst ms) i
  | _, _ => .no
def twoM : M → Option (D × D)
  | .d (.tuple [x, y]) => some (x, y)
  | _ => none
def setF (ro : Rv) (f : Nat) (v : M) (s : St) (c : Nat) (fl : List (Nat × M)) : Fl := fs ro.pth fun p =>
  fif (decide (fl.length < 1000)) (.nx ((s.put p (.obj c (putN f v fl))).kill fun q => atOrUnder (p.1, p.2 ++ [.fd f]) q))
def conI : E → Option Int | .con (.int y) => some y | _ => none
def asgN (C : Ctx) (i : Nat) (s : St) : Rv → Fl
  | .v m => fs (bindN C.fr i m s) .nx
  | .p p => fs (bindP C.fr i p s) .nx
def asgR (C : Ctx) (t : T) (r : Rv) (s : St) : Fl := match t with
  | .nm i => asgN C i s r
  | .tp is => fs r.mv fun m => fs (bindT C.fr (nmT is) m s) .nx
  | .attr a f => (sto r s).fl fun m s => (ev C a s).fl fun ro s => fs ((s.val ro).bind M.flds) fun cf => setF ro f m s cf.1 cf.2
  | .sub a i => (sto r s).fl fun m s => (ev C a s).fl fun ro s => (hold ro s (ev C i) fun ro ri s => .ok (ro, ri) s).fl fun rr s =>
    fs rr.2.dat fun i => fs rr.1.pth fun p => fs (s.get p) fun o => setM p m s o i
  | .ns i a ix => fs r.mv fun m => fs (twoM m) fun xy => fs (bindT C.fr (.nm i) (.d xy.1) s) fun s => (ev C a s).fl fun ro s => (hold ro s (ev C ix) fun ro ri s => .ok (ro, ri) s).fl fun rr s =>
    fs rr.2.dat fun i => fs rr.1.pth fun p => fs (s.get p) fun o => setLs p (.d xy.2) s o i
def subEx (C : Ctx) (x : M) (cs : List Nat) : Bool := match x with
  | .exc c _ => cs.any fun k => (C.sup c).contains k
  | _ => false
def cutTm (n : Nat) (s : St) : St := s.tms (s.tm.drop (s.tm.length - n))
def whl (c : St → Res Bool) (b : St → Fl) : Nat → St → Fl
  | 0, _ => .no
  | k + 1, s => (c s).fork (fun s => (b s).lp (whl c b k) .nx) .nx
def nmIn (fr : Nat → Bool) (i : Nat) (k : D) (j : Nat) (out : List (D × M)) (s : St) : Option St :=
  oif (!(i == j)) (ob (bindN fr i (.dct out) s) fun s => some { sl := s.sl, rf := (j, (i, [.ky k])) :: s.rf, tm := s.tm })
def pureO : Option M → Bool
  | none => true
  | some m => (frz m).isSome
def pureS (l : List (Option M)) : Bool := l.all pureO
def undo (i : Nat) : Fl → Fl
  | .nx s => fif (pureS (s.sl.set i none)) (.nx { sl := s.sl.set i none, rf := killR (atRoot i) (dropR i s.rf), tm := killT (atRoot i) s.tm })
  | _ => .no
def tried (f : Fl) (k : M → St → Fl) : Fl := match f with
  | .exc x s => k x s
  | .nx s => .nx s | .rt r s => .rt r s | .bk s => .bk s | .ct s => .ct s | .no => .no
mutual
def ex (C : Ctx) : S → St → Fl
  | .asg t e, s => (ev C e s).fl fun r s => asgR C t r s
  | .aug i e, s => (rd C.np s i false).fl fun ra s => (ev C e s).fl fun rb s => fs (ra.dat.bind asInt) fun x => fs (rb.dat.bind asInt) fun y => fs (bindN C.fr i (.d (.int (x + y))) s) .nx
  | .augf o f e, s => fs (conI e) fun y => (ev C o s).fl fun ro s => (attrR ro f s).fl fun ra s => fs (ra.dat.bind asInt) fun x =>
    fs ((s.val ro).bind M.flds) fun cf => setF ro f (.d (.int (x + y))) s cf.1 cf.2
  | .ex e, s => (ev C e s).fl fun _ s => .nx s
  | .ret .none, s => .rt (.v nonM) s
  | .ret (.some e), s => (ev C e s).fl fun r s => .rt r s
  | .ite c a b, s => (tr (ev C c s)).fork (exs C a) (exs C b)
  | .for t it b, s => (evi C it s).fl fun p s => forPl C.fr t (exs C b) p s
  | .whl c b, s => whl (fun s => tr (ev C c s)) (exs C b) 100000 s
  | .rais c es, s => (evds C es s).fl fun xs s => .exc (.exc c xs) s
  | .tr b cs nm h, s => tried (exs C b s) fun x s1 => match subEx C x cs with
    | true => (match nm with
      | none => (exs C h (cutTm s.tm.length s1)).kill
      | some i => fs (bindN C.fr i x (cutTm s.tm.length s1)) fun s2 => undo i (exs C h s2).kill)
    | false => .exc x s1
  | .pass, s => .nx s
  | .brk, s => .bk s
  | .cont, s => .ct s
  | .asgd i kv1 k j kv2, s => (evkv C kv1 s []).fl fun acc s => fs (s.sget j) fun m => fif (m.isMut && decide (C.np ≤ j) && isKK k && (lkD k acc).isNone)
    ((evkv C kv2 ((s.slot j none).kill (atRoot j)) (acc ++ [(k, m)])).fl fun out s => fs (nmIn C.fr i k j out s) .nx)
  | .nox a, s => (ex C a s).kill
  | .xasg t e, s => (ev C e s).flx fun r s => asgR C t r s
  | .xex e, s => (ev C e s).flx fun _ s => .nx s
  | .xret e, s => (ev C e s).flx fun r s => .rt r s
def exs (C : Ctx) : Ss → St → Fl
  | .nil, s => .nx s
  | .cons a r, s => (ex C a s).sq (exs C r)
end

structure Fd where
  np : Nat
  n : Nat
  body : Ss
  rb : List Nat := []
  gh : List Pth := []
structure Prog where
  fns : List Fd
  glo : List M
  sup : List (List Nat)
  met : List (List (Nat × Nat))
  ini : List (Option Nat)
def Prog.ctx (P : Prog) (np : Nat) (rb : List Nat) (call : Nat → List M → CRes) : Ctx where
  np := np
  fr := fun i => decide (np ≤ i) || rb.contains i
  call := call
  glo := P.glo
  sup := fun c => (P.sup[c]?).getD []
  met := fun c m => (P.met[c]?).bind (lkN m)
  ini := fun c => (P.ini[c]?).getD none
  kp := fun f => ((P.fns[f]?).map Fd.gh).getD []
def finals (rb : List Nat) : Nat → List M → List (Option M) → Option (List M)
  | _, [], _ => some []
  | _, _ :: _, [] => none
  | i, m :: ms, o :: r => (if rb.contains i then some m else o).bind fun x => (finals rb (i + 1) ms r).bind fun xs => some (x :: xs)
def keptP (np : Nat) (rb : List Nat) (i : Nat) : Bool := decide (i < np) && !rb.contains i
def retC (np : Nat) (rb : List Nat) (s : St) (fin : List M) : Rv → CRes
  | .v m => .ok (.v m) fin
  | .p p => match keptP np rb p.1 with
    | true => .ok (.p p.1 p.2) fin
    | false => match s.get p with | some m => .ok (.v m) fin | none => .no
def cs {α : Type} (o : Option α) (k : α → CRes) : CRes := match o with | some a => k a | none => .no
def cif (c : Bool) (r : CRes) : CRes := match c with | true => r | false => .no
def endC (np : Nat) (rb : List Nat) (ms : List M) (f : Fl) : CRes := match f with
  | .nx s => cs (finals rb 0 ms s.sl) fun fin => .ok (.v nonM) fin
  | .rt r s => cs (finals rb 0 ms s.sl) fun fin => retC np rb s fin r
  | .exc x s => cs (finals rb 0 ms s.sl) fun fin => .exc x fin
  | .bk _ => .no | .ct _ => .no | .no => .no
def vst (n : Nat) (ms : List M) : St := { sl := ms.map some ++ List.replicate (n - ms.length) none, rf := [], tm := [] }
def okAb : Acc → Bool
  | .ky k => isKey k | _ => true
def ghOk (gh : List Pth) (ms : List M) : Bool := gh.all fun g => g.2.all okAb && ((ms[g.1]?).bind fun m => m.get g.2).isSome
def vstg (gh : List Pth) (n : Nat) (ms : List M) : St := (vst n ms).tms (gh.map some)
def sameT : List Pth → List (Option Pth) → Bool
  | [], [] => true
  | g :: gs, some p :: ts => g.1 == p.1 && eqP g.2 p.2 && sameT gs ts
  | _, _ => false
def ghEnd (gh : List Pth) (s : St) : Bool := sameT gh (s.tm.drop (s.tm.length - gh.length))
def ghF (gh : List Pth) : Fl → Fl
  | .nx s => fif (ghEnd gh s) (.nx s) | .rt r s => fif (ghEnd gh s) (.rt r s) | .exc x s => fif (ghEnd gh s) (.exc x s)
  | .bk s => .bk s | .ct s => .ct s | .no => .no
def datAt (ms : List M) (i : Nat) : Bool := match ms[i]? with | some (.d _) => true | _ => false
def vrun (P : Prog) : Nat → Nat → List M → CRes
  | 0, _, _ => .no
  | k + 1, f, ms => cs P.fns[f]? fun fd => cif (ms.length == fd.np && decide (fd.np ≤ fd.n) && fd.rb.all (datAt ms) && ghOk fd.gh ms) (endC fd.np fd.rb ms (ghF fd.gh (exs (P.ctx fd.np fd.rb (vrun P k)) fd.body (vstg fd.gh fd.n ms))))
end Vm
end
section
namespace Vm
open PySem L2 PySem.Spec PyProof.Rows
def SqB (K : PySem.W.Frag) (H : Hp) (a : Addr) (xs : List V) : Prop :=
  (∃ o : Obj, H a = some (.frz o (.tup xs)) ∧ o.dict = none) ∨ ∃ (o : Obj) (its : Array Value) (n : Nat), K.lookup a = some o ∧ o.cls = .type "tuple" ∧ o.data = .seq its n ∧ its.size ≤ sizeLine ∧ Vals xs its.toList ∧ o.dict = none
theorem SqB.sqt {K : PySem.W.Frag} {H : Hp} {a : Addr} {xs : List V} (h : SqB K H a xs) : SqT K H a xs := by
  rcases h with ⟨o, e, _⟩ | ⟨o, its, n, h1, h2, h3, h4, h5, _⟩
  · exact .inl (.inr ⟨o, e⟩)
  · exact .inr ⟨o, its, n, h1, h2, h3, h4, h5⟩
section
variable {X : Cx}
theorem SqB.ty {pins : List (Addr × Obj)} {σ : L2.St} {H : Hp} {s : Shared} {a : Addr} {xs : List V} (I : Inv X pins σ H s) (h : SqB X.K H a xs) : s.TypeIs (.ref a) "tuple" ∧ ∃ ob, s.heap.get? a = some ob ∧ ob.dict = none := by
  obtain ⟨its, r, ht, hz⟩ := I.tuple h.sqt
  refine ⟨ht.typeIs, ?_⟩
  rcases h with ⟨o, e, hd⟩ | ⟨o, its, n, h1, _, _, _, _, hd⟩
  · exact ⟨o, (I.hok a _ e).1, hd⟩
  · exact ⟨o, I.kIn _ _ h1, hd⟩
abbrev NewB (xs : List V) (H : Hp) (Q : VK) : Prop := ∀ (p : Addr) (o : Obj), H p = none → o.dict = none → Q (.ref p) (upd H p (.frz o (.tup xs)))
theorem newB_ok {P : Program} {w : World} {H : Hp} {h : Heap} {us : List Value} {xs : List V} (r : Vals xs us) (hz : xs.length ≤ sizeLine) :
    ObjOk P w H (h.push { cls := .type "tuple", data := .seq us.toArray }) h.objs.size (.frz { cls := .type "tuple", data := .seq us.toArray } (.tup xs)) :=
  ⟨Heap.get?_push_size _ rfl, hz, us, r, IsTup.new _ _⟩
theorem pe_tupB {es : List Expr} {t : TA} {pos : Pos} {x1 : Nat} (h : PA X es t) : PE X (.Tuple es x1 pos) (fun σ H Q => t σ H fun xs H1 => xs.length ≤ sizeLine ∧ NewB xs H1 Q) := by
  refine ⟨fun pins s σ H Q I hq => wpAny_Tuple_spliced (thn (h.run pos pins s σ H _ I hq) fun us s1 ⟨xs, H1, I1, r, z, q⟩ => ⟨by rw [← r.length]; exact z, ?_⟩)⟩
  exact ⟨.ref s1.heap.objs.size, _, I1.laid (t' := s1.toks) (fun b u e => Heap.get?_push_of_some _ e) (Nat.le_refl _) (newB_ok r z), rfl, q _ _ (I1.hok.fresh (Nat.le_refl _)) rfl⟩
theorem op_catB : OpR X (binaryOp .Add) (fun x y H Q => ∃ a b xs ys, x = .ref a ∧ y = .ref b ∧ SqT X.K H a xs ∧ SqT X.K H b ys ∧ xs.length + ys.length ≤ sizeLine ∧
    (xs = [] → Q (.ref b) H) ∧ (xs ≠ [] → ys = [] → Q (.ref a) H) ∧ (xs ≠ [] → ys ≠ [] → NewB (xs ++ ys) H Q)) := by
  intro pins s σ H x y v u Q I rx ry h
  obtain ⟨a, b, xs, ys, rfl, rfl, ha, hb, hz, q0, q1, q2⟩ := h
  by_cases hx : xs = []
  · exact op_catA pins s σ H _ _ v u Q I rx ry ⟨a, b, xs, ys, rfl, rfl, ha, hb, hz, q0, fun z => absurd hx z, fun z => absurd hx z⟩
  · by_cases hy : ys = []
    · exact op_catA pins s σ H _ _ v u Q I rx ry ⟨a, b, xs, ys, rfl, rfl, ha, hb, hz, fun z => absurd z hx, q1, fun _ z => absurd hy z⟩
    · cases rx
      cases ry
      obtain ⟨its, r1, p1, _⟩ := I.tuple ha
      obtain ⟨its2, r2, p2, _⟩ := I.tuple hb
      refine HT.cat_tup p1 p2 (fun z => hx (r1.nil_iff.mp z)) (fun z => absurd (r2.nil_iff.mp z) hy) (fun z => ?_) (by rw [← r1.length, ← r2.length]; exact hz)
      exact ⟨.ref s.heap.objs.size, _, I.laid (t' := s.toks) (fun b ob q => Heap.get?_push_of_some _ q) (Nat.le_refl _) (newB_ok (r1.append r2) (by rw [List.length_append]; exact hz)), rfl, q2 hx hy _ _ (I.hok.fresh (Nat.le_refl _)) rfl⟩
theorem sl_tupB : SlR X (fun x lo hi H Q => ∃ a xs, x = .ref a ∧ SqT X.K H a xs ∧
    (HT.sIx xs.length 0 lo = 0 ∧ HT.sIx xs.length xs.length hi = xs.length → Q (.ref a) H) ∧ (¬ (HT.sIx xs.length 0 lo = 0 ∧ HT.sIx xs.length xs.length hi = xs.length) → NewB (cutV xs lo hi) H Q)) := by
  intro pins s σ H x v vl vu lo hi sl Q I rx hs pl pu h
  obtain ⟨a, xs, rfl, hx, q1, q2⟩ := h
  by_cases hw : HT.sIx xs.length 0 lo = 0 ∧ HT.sIx xs.length xs.length hi = xs.length
  · exact sl_tupA pins s σ H _ v vl vu lo hi sl Q I rx hs pl pu ⟨a, xs, rfl, hx, q1, fun z => absurd hw z⟩
  · cases rx
    obtain ⟨its, r, ht, hz⟩ := I.tuple hx
    have hlen : its.toArray.size = xs.length := by rw [List.size_toArray]; exact r.length.symm
    refine ⟨"tuple", _, PyProof.Rows.slot_tuple_getitem.lookup, ht.typeIs, HT.getItem_tuple_cut ht hs pl pu (by rw [hlen]; exact hw) ?_ (by rw [hlen]; exact hz)⟩
    rw [hlen]
    exact ⟨.ref s.heap.objs.size, _, I.laid (t' := s.toks) (fun b ob q => Heap.get?_push_of_some _ q) (Nat.le_refl _) (newB_ok (xs := cutV xs lo hi) ((r.drop (HT.sIx xs.length 0 lo)).take (HT.sIx xs.length xs.length hi - HT.sIx xs.length 0 lo)) (Nat.le_trans (cutV_length xs lo hi) hz)), rfl, q2 hw _ _ (I.hok.fresh (Nat.le_refl _)) rfl⟩
theorem call_tupleB : CallR X (.type "tuple") (fun xs H Q => ∃ p ys, xs = [.ref p] ∧ ((SqL X.K H p ys ∧ NewB ys H Q) ∨ (SqT X.K H p ys ∧ Q (.ref p) H))) := by
  intro pins s σ H xs us Q I r h
  obtain ⟨p, ys, rfl, ⟨hq, q⟩ | h⟩ := h
  · obtain ⟨u, rfl, rx⟩ := vals1 r
    cases rx
    obtain ⟨its, r', pl, hz⟩ := I.list hq
    have hlen := r'.length
    refine call_tuple_list pl.isList (fun h' kp => ?_) (by simp only [List.size_toArray]; omega)
    have I1 : Inv X pins σ H { s with heap := h' } := I.kept (t' := s.toks) kp
    exact ⟨.ref h'.objs.size, _, I1.laid (t' := s.toks) (fun b o e => Heap.get?_push_of_some _ e) (Nat.le_refl _) (newB_ok r' hz), rfl, q _ _ (I1.hok.fresh (Nat.le_refl _)) rfl⟩
  · exact call_tuple_of pins s σ H [.ref p] us Q I r ⟨p, ys, rfl, .inr h⟩
end
end Vm
end
section
namespace Vm
open PySem L2

def Stb (H H' : Hp) : Prop := (∀ a xs, H a = some (.tup xs) → H' a = some (.tup xs)) ∧ ∀ a o u, H a = some (.frz o u) → H' a = some (.frz o u)
theorem Stb.refl (H : Hp) : Stb H H := ⟨fun _ _ h => h, fun _ _ _ h => h⟩
theorem Stb.trans {H H1 H2 : Hp} (a : Stb H H1) (b : Stb H1 H2) : Stb H H2 := ⟨fun x xs h => b.1 x xs (a.1 x xs h), fun x o u h => b.2 x o u (a.2 x o u h)⟩
def SqF (K : PySem.W.Frag) (H : Hp) (a : Addr) (xs : List V) : Prop :=
  (∃ o, H a = some (.frz o (.lst xs))) ∨
    ∃ (o : Obj) (its : Array Value) (n : Nat), K.lookup a = some o ∧ o.cls = .type "list" ∧ o.dict = none ∧ o.data = .seq its n ∧ its.size ≤ sizeLine ∧ Vals xs its.toList
theorem SqF.sql {K : PySem.W.Frag} {H : Hp} {a : Addr} {xs : List V} (h : SqF K H a xs) : SqL K H a xs := by
  rcases h with ⟨o, h⟩ | h
  · exact .inl (.inr ⟨o, h⟩)
  · exact .inr h
theorem SqF.mono {K : PySem.W.Frag} {H H' : Hp} (st : Stb H H') {a : Addr} {xs : List V} (h : SqF K H a xs) : SqF K H' a xs := by
  rcases h with ⟨o, h⟩ | h
  · exact .inl ⟨o, st.2 _ _ _ h⟩
  · exact .inr h
theorem SqT.mono {K : PySem.W.Frag} {H H' : Hp} (st : Stb H H') {a : Addr} {xs : List V} (h : SqT K H a xs) : SqT K H' a xs := by
  rcases h with h | h
  · rcases h with h | ⟨o, h⟩
    · exact .inl (.inl (st.1 _ _ h))
    · exact .inl (.inr ⟨o, st.2 _ _ _ h⟩)
  · exact .inr h
theorem SqB.mono {K : PySem.W.Frag} {H H' : Hp} (st : Stb H H') {a : Addr} {xs : List V} (h : SqB K H a xs) : SqB K H' a xs := by
  rcases h with ⟨o, h, hd⟩ | h
  · exact .inl ⟨o, st.2 _ _ _ h, hd⟩
  · exact .inr h
def sOk (x : Str) : Prop := x.length ≤ sizeLine ∧ ∀ c ∈ x.cps.toList, c < 0x110000
def toKey : D → Option Key
  | .int i => some (.inl i)
  | .str x => some (.inr x)
  | _ => none
mutual
inductive Rp (K : PySem.W.Frag) (H : Hp) : V → D → Prop
  | non : Rp K H .non .none
  | bl (b : Bool) : Rp K H (.bl b) (.bool b)
  | int (i : Int) : Rp K H (.int i) (.int i)
  | str (x : Str) : sOk x → Rp K H (.str x) (.str x)
  | lst {a : Addr} {xs : List V} {ds : List D} : SqF K H a xs → RpL K H xs ds → Rp K H (.ref a) (.list ds)
  | tup {a : Addr} {xs : List V} {ds : List D} : SqB K H a xs → RpL K H xs ds → Rp K H (.ref a) (.tuple ds)
  | dct {a : Addr} {o : Obj} {kvs : List (Key × V)} {ds : List (D × D)} : H a = some (.frz o (.dK kvs)) → RpK K H kvs ds → Rp K H (.ref a) (.dict ds)
inductive RpL (K : PySem.W.Frag) (H : Hp) : List V → List D → Prop
  | nil : RpL K H [] []
  | cons {v : V} {vs : List V} {d : D} {ds : List D} : Rp K H v d → RpL K H vs ds → RpL K H (v :: vs) (d :: ds)
inductive RpK (K : PySem.W.Frag) (H : Hp) : List (Key × V) → List (D × D) → Prop
  | nil : RpK K H [] []
  | cons {k : Key} {j : D} {v : V} {vs : List (Key × V)} {d : D} {ds : List (D × D)} : toKey j = some k → Rp K H v d → RpK K H vs ds → RpK K H ((k, v) :: vs) ((j, d) :: ds)
end
mutual
theorem Rp.mono {K : PySem.W.Frag} {H H' : Hp} (st : Stb H H') : ∀ {v : V} {d : D}, Rp K H v d → Rp K H' v d
  | _, _, .non => .non
  | _, _, .bl b => .bl b
  | _, _, .int i => .int i
  | _, _, .str x h => .str x h
  | _, _, .lst h r => .lst (h.mono st) (RpL.mono st r)
  | _, _, .tup h r => .tup (SqB.mono st h) (RpL.mono st r)
  | _, _, .dct h r => .dct (st.2 _ _ _ h) (RpK.mono st r)
theorem RpL.mono {K : PySem.W.Frag} {H H' : Hp} (st : Stb H H') : ∀ {v : List V} {d : List D}, RpL K H v d → RpL K H' v d
  | _, _, .nil => .nil
  | _, _, .cons h r => .cons (Rp.mono st h) (RpL.mono st r)
theorem RpK.mono {K : PySem.W.Frag} {H H' : Hp} (st : Stb H H') : ∀ {v : List (Key × V)} {d : List (D × D)}, RpK K H v d → RpK K H' v d
  | _, _, .nil => .nil
  | _, _, .cons e h r => .cons e (Rp.mono st h) (RpK.mono st r)
end
theorem RpL.length {K : PySem.W.Frag} {H : Hp} : ∀ {v : List V} {d : List D}, RpL K H v d → v.length = d.length
  | _, _, .nil => rfl
  | _, _, .cons _ r => by rw [List.length_cons, List.length_cons, r.length]
theorem RpL.get {K : PySem.W.Frag} {H : Hp} : ∀ {vs : List V} {ds : List D} {i : Nat} {d : D}, RpL K H vs ds → ds[i]? = some d → ∃ v, vs[i]? = some v ∧ Rp K H v d
  | _, _, _, _, .nil, e => by simp at e
  | _, _, 0, _, .cons h r, e => by simp at e; subst e; exact ⟨_, rfl, h⟩
  | _, _, i + 1, d, .cons h r, e => by
    obtain ⟨v, e1, h1⟩ := RpL.get (i := i) (d := d) r (by simpa using e)
    exact ⟨v, by simpa using e1, h1⟩
theorem RpL.append {K : PySem.W.Frag} {H : Hp} : ∀ {vs ws : List V} {ds es : List D}, RpL K H vs ds → RpL K H ws es → RpL K H (vs ++ ws) (ds ++ es)
  | _, _, _, _, .nil, s => s
  | _, _, _, _, .cons h r, s => .cons h (RpL.append r s)

mutual
theorem Rp.dp {K : PySem.W.Frag} {H : Hp} : ∀ {v : V} {d : D}, Rp K H v d → d.hasDict = false → Dp K H v d
  | _, _, .non, _ => .non
  | _, _, .bl b, _ => .bl b
  | _, _, .int i, _ => .int i
  | _, _, .str x _, _ => .str x
  | _, _, .lst h r, e => .lst h.sql (RpL.dp r (by simpa [PyData.hasDict] using e))
  | _, _, .tup h r, e => .tup h.sqt (RpL.dp r (by simpa [PyData.hasDict] using e))
  | _, _, .dct h r, e => by simp [PyData.hasDict] at e
theorem RpL.dp {K : PySem.W.Frag} {H : Hp} : ∀ {v : List V} {d : List D}, RpL K H v d → PyData.hasDictAll d = false → DpAll K H v d
  | _, _, .nil, _ => .nil
  | _, _, .cons h r, e => by
    have e' := e
    simp only [PyData.hasDictAll, Bool.or_eq_false_iff] at e'
    exact .cons (Rp.dp h e'.1) (RpL.dp r e'.2)
end

structure Lnk where
  K : PySem.W.Frag
  fa : Nat → Option Addr
  ca : Nat → Option Addr
  fl : Nat → Str
  ct : Nat → String
  gd : List (Addr × Obj × List (Key × V))
  xa : Nat → Option Addr := fun _ => none
  hw : NestedKey → Int := fun _ => 0
  cur : Option (Nat × V) := none
def GlOk (L : Lnk) (H : Hp) : Prop := ∀ p ∈ L.gd, H p.1 = some (.frz p.2.1 (.dK p.2.2))
theorem GlOk.mono {L : Lnk} {H H' : Hp} (st : Stb H H') (h : GlOk L H) : GlOk L H' := fun p hp => st.2 _ _ _ (h p hp)
inductive TabK (L : Lnk) : List (Key × V) → List (D × Nat) → Prop
  | nil : TabK L [] []
  | cons {k : Key} {j : D} {f : Addr} {n : Nat} {vs : List (Key × V)} {ds : List (D × Nat)} : toKey j = some k → L.fa n = some f → TabK L vs ds → TabK L ((k, .ref f) :: vs) ((j, n) :: ds)

mutual
def nkD : D → NestedKey
  | .none => .none | .int i => .num i | .str x => .text x | .tuple xs => .tup (nkDs xs)
  | .bool _ => .none | .list _ => .none | .dict _ => .none
def nkDs : List D → List NestedKey
  | [] => []
  | x :: xs => nkD x :: nkDs xs
end
def NEnt (hw : NestedKey → Int) (p : NestedKey × Addr × V) (e : DictEntry) : Prop := e.hash = hw p.1 ∧ e.key = .ref p.2.1 ∧ RelV p.2.2 e.val
def NRaw (hw : NestedKey → Int) (a : Addr) (l : List (NestedKey × Addr × V)) : HO := .ext fun h => (a == sysModules) = false ∧ ∃ o es ep, h.get? a = some o ∧ o.ExactDict ∧ o.data = .dict es ep ∧ Paired (NEnt hw) l es.toList
def NP (K : PySem.W.Frag) (H : Hp) : List (NestedKey × Addr × V) → List (D × D) → Prop := Paired fun p q => p.1 = nkD q.1 ∧ isNK q.1 = true ∧ Rp K H (.ref p.2.1) q.1 ∧ Rp K H p.2.2 q.2
theorem NP.mono {K : PySem.W.Frag} {H H' : Hp} (st : Stb H H') {l : List (NestedKey × Addr × V)} {kvs : List (D × D)} (h : NP K H l kvs) : NP K H' l kvs := Paired.mapP h fun p q x => ⟨x.1, x.2.1, x.2.2.1.mono st, x.2.2.2.mono st⟩
inductive MA where
  | im (m : M) (v : V)
  | lst (a : Addr) (ms : List MA)
  | dct (a : Addr) (kvs : List (D × MA))
  | obj (a : Addr) (c : Nat) (fs : List (Nat × MA))
  | dnn (a : Addr) (kvs : List (D × D))
def MA.v : MA → V
  | .im _ v => v | .lst a _ => .ref a | .dct a _ => .ref a | .obj a _ _ => .ref a | .dnn a _ => .ref a
mutual
def MA.er : MA → M
  | .im m _ => m
  | .lst _ ms => .lst (ers ms)
  | .dct _ kvs => .dct (erk kvs)
  | .obj _ c fs => .obj c (erf fs)
  | .dnn _ kvs => .dnn kvs
def ers : List MA → List M
  | [] => []
  | m :: ms => m.er :: ers ms
def erk : List (D × MA) → List (D × M)
  | [] => []
  | (k, m) :: ms => (k, m.er) :: erk ms
def erf : List (Nat × MA) → List (Nat × M)
  | [] => []
  | (k, m) :: ms => (k, m.er) :: erf ms
end
mutual
def MA.adr : MA → List Addr
  | .im _ _ => []
  | .lst a ms => a :: adrs ms
  | .dct a kvs => a :: adrk kvs
  | .obj a _ fs => a :: adrf fs
  | .dnn a _ => [a]
def adrs : List MA → List Addr
  | [] => []
  | m :: ms => m.adr ++ adrs ms
def adrk : List (D × MA) → List Addr
  | [] => []
  | (_, m) :: ms => m.adr ++ adrk ms
def adrf : List (Nat × MA) → List Addr
  | [] => []
  | (_, m) :: ms => m.adr ++ adrf ms
end
def vsOf (ms : List MA) : List V := ms.map MA.v
def kvOf : List (D × MA) → Option (List (Key × V))
  | [] => some []
  | (k, m) :: r => (toKey k).bind fun j => (kvOf r).bind fun l => some ((j, m.v) :: l)
def fvOf (L : Lnk) (fs : List (Nat × MA)) : List (Str × V) := fs.map fun km => (L.fl km.1, km.2.v)
def ImOk (L : Lnk) (H : Hp) : M → V → Prop
  | .d x, v => Rp L.K H v x
  | .fn i, v => ∃ f, L.fa i = some f ∧ v = .ref f
  | .cl i, v => ∃ f, L.ca i = some f ∧ v = .ref f
  | .bt n, v => v = .ty (L.ct n)
  | .tab kvs, v => ∃ a o l, v = .ref a ∧ H a = some (.frz o (.dK l)) ∧ TabK L l kvs
  | .exc c _, v => L.cur = some (c, v)
  | _, _ => False
mutual
def Hd (L : Lnk) (H : Hp) : MA → Prop
  | .im m v => ImOk L H m v
  | .lst a ms => H a = some (.lst (vsOf ms)) ∧ HdL L H ms
  | .dct a kvs => (∃ l, kvOf kvs = some l ∧ H a = some (.dK l)) ∧ HdK L H kvs
  | .obj a c fs => (∃ C dx, L.ca c = some C ∧ H a = some (.ins C dx (fvOf L fs))) ∧ HdF L H fs
  | .dnn a kvs => (∃ l, H a = some (NRaw L.hw a l) ∧ NP L.K H l kvs) ∧ (kvs.map (·.1)).Nodup ∧ kvs.length ≤ sizeLine
def HdL (L : Lnk) (H : Hp) : List MA → Prop
  | [] => True
  | m :: ms => Hd L H m ∧ HdL L H ms
def HdK (L : Lnk) (H : Hp) : List (D × MA) → Prop
  | [] => True
  | (_, m) :: ms => Hd L H m ∧ HdK L H ms
def HdF (L : Lnk) (H : Hp) : List (Nat × MA) → Prop
  | [] => True
  | (_, m) :: ms => Hd L H m ∧ HdF L H ms
end
theorem ImOk.mono {L : Lnk} {H H' : Hp} (st : Stb H H') : ∀ {m : M} {v : V}, ImOk L H m v → ImOk L H' m v
  | .d x, _, h => Rp.mono st h
  | .fn _, _, h => h
  | .cl _, _, h => h
  | .bt _, _, h => h
  | .set _, _, h => h.elim
  | .tab _, _, h => let ⟨a, o, l, e, q, r⟩ := h; ⟨a, o, l, e, st.2 _ _ _ q, r⟩
  | .exc _ _, _, h => h
  | .lst _, _, h => h.elim
  | .dct _, _, h => h.elim
  | .obj _ _, _, h => h.elim
  | .dnn _, _, h => h.elim
mutual
theorem Hd.mono {L : Lnk} {H H' : Hp} (st : Stb H H') : ∀ {m : MA}, Hd L H m → (∀ b ∈ m.adr, H' b = H b) → Hd L H' m
  | .im m v, h, _ => ImOk.mono st h
  | .lst a ms, h, k => by
    refine ⟨by rw [k a (by simp [MA.adr])]; exact h.1, HdL.mono st h.2 fun b hb => k b (by simp [MA.adr, hb])⟩
  | .dct a kvs, h, k => by
    refine ⟨?_, HdK.mono st h.2 fun b hb => k b (by simp [MA.adr, hb])⟩
    rw [k a (by simp [MA.adr])]; exact h.1
  | .obj a c fs, h, k => by
    refine ⟨?_, HdF.mono st h.2 fun b hb => k b (by simp [MA.adr, hb])⟩
    rw [k a (by simp [MA.adr])]; exact h.1
  | .dnn a kvs, h, k => by
    obtain ⟨⟨l, h1, h2⟩, h3⟩ := h
    exact ⟨⟨l, by rw [k a (by simp [MA.adr])]; exact h1, h2.mono st⟩, h3⟩
theorem HdL.mono {L : Lnk} {H H' : Hp} (st : Stb H H') : ∀ {ms : List MA}, HdL L H ms → (∀ b ∈ adrs ms, H' b = H b) → HdL L H' ms
  | [], _, _ => trivial
  | m :: ms, h, k => ⟨Hd.mono st h.1 fun b hb => k b (by simp [adrs, hb]), HdL.mono st h.2 fun b hb => k b (by simp [adrs, hb])⟩
theorem HdK.mono {L : Lnk} {H H' : Hp} (st : Stb H H') : ∀ {ms : List (D × MA)}, HdK L H ms → (∀ b ∈ adrk ms, H' b = H b) → HdK L H' ms
  | [], _, _ => trivial
  | (_, m) :: ms, h, k => ⟨Hd.mono st h.1 fun b hb => k b (by simp [adrk, hb]), HdK.mono st h.2 fun b hb => k b (by simp [adrk, hb])⟩
theorem HdF.mono {L : Lnk} {H H' : Hp} (st : Stb H H') : ∀ {ms : List (Nat × MA)}, HdF L H ms → (∀ b ∈ adrf ms, H' b = H b) → HdF L H' ms
  | [], _, _ => trivial
  | (_, m) :: ms, h, k => ⟨Hd.mono st h.1 fun b hb => k b (by simp [adrf, hb]), HdF.mono st h.2 fun b hb => k b (by simp [adrf, hb])⟩
end
mutual
theorem Hd.mut {L : Lnk} {H : Hp} : ∀ {m : MA}, Hd L H m → ∀ b ∈ m.adr, ∃ u, H b = some u ∧ Mut (some u)
  | .im _ _, _, b, hb => by simp [MA.adr] at hb
  | .lst a ms, h, b, hb => by
    simp only [MA.adr, List.mem_cons] at hb
    rcases hb with rfl | hb
    · exact ⟨_, h.1, True.intro⟩
    · exact HdL.mut h.2 b hb
  | .dct a kvs, h, b, hb => by
    simp only [MA.adr, List.mem_cons] at hb
    rcases hb with rfl | hb
    · obtain ⟨l, _, e⟩ := h.1; exact ⟨_, e, True.intro⟩
    · exact HdK.mut h.2 b hb
  | .obj a c fs, h, b, hb => by
    simp only [MA.adr, List.mem_cons] at hb
    rcases hb with rfl | hb
    · obtain ⟨C, dx, _, e⟩ := h.1; exact ⟨_, e, True.intro⟩
    · exact HdF.mut h.2 b hb
  | .dnn a kvs, h, b, hb => by
    simp only [MA.adr, List.mem_cons, List.not_mem_nil, or_false] at hb
    subst hb
    obtain ⟨l, h1, _⟩ := h.1; exact ⟨_, h1, True.intro⟩
theorem HdL.mut {L : Lnk} {H : Hp} : ∀ {ms : List MA}, HdL L H ms → ∀ b ∈ adrs ms, ∃ u, H b = some u ∧ Mut (some u)
  | [], _, b, hb => by simp [adrs] at hb
  | m :: ms, h, b, hb => by
    simp only [adrs, List.mem_append] at hb
    rcases hb with hb | hb
    · exact Hd.mut h.1 b hb
    · exact HdL.mut h.2 b hb
theorem HdK.mut {L : Lnk} {H : Hp} : ∀ {ms : List (D × MA)}, HdK L H ms → ∀ b ∈ adrk ms, ∃ u, H b = some u ∧ Mut (some u)
  | [], _, b, hb => by simp [adrk] at hb
  | (_, m) :: ms, h, b, hb => by
    simp only [adrk, List.mem_append] at hb
    rcases hb with hb | hb
    · exact Hd.mut h.1 b hb
    · exact HdK.mut h.2 b hb
theorem HdF.mut {L : Lnk} {H : Hp} : ∀ {ms : List (Nat × MA)}, HdF L H ms → ∀ b ∈ adrf ms, ∃ u, H b = some u ∧ Mut (some u)
  | [], _, b, hb => by simp [adrf] at hb
  | (_, m) :: ms, h, b, hb => by
    simp only [adrf, List.mem_append] at hb
    rcases hb with hb | hb
    · exact Hd.mut h.1 b hb
    · exact HdF.mut h.2 b hb
end
theorem ers_map (ms : List MA) : ers ms = ms.map MA.er := by
  induction ms with
  | nil => rfl
  | cons m ms ih => simp [ers, ih]
theorem ers_append (a b : List MA) : ers (a ++ b) = ers a ++ ers b := by simp [ers_map]
theorem adrs_append (a b : List MA) : adrs (a ++ b) = adrs a ++ adrs b := by
  induction a with
  | nil => rfl
  | cons m ms ih => simp [adrs, ih]
theorem HdL.append {L : Lnk} {H : Hp} : ∀ {a b : List MA}, HdL L H a → HdL L H b → HdL L H (a ++ b)
  | [], _, _, h => h
  | _ :: _, _, h, k => ⟨h.1, HdL.append h.2 k⟩
theorem HdL.get {L : Lnk} {H : Hp} : ∀ {ms : List MA} {i : Nat} {m : MA}, HdL L H ms → ms[i]? = some m → Hd L H m
  | [], _, _, _, e => by simp at e
  | _ :: _, 0, _, h, e => by simp at e; subst e; exact h.1
  | _ :: ms, i + 1, m, h, e => HdL.get (i := i) h.2 (by simpa using e)
theorem HdK.lk {L : Lnk} {H : Hp} {k : D} : ∀ {ms : List (D × MA)} {m : MA}, HdK L H ms → lkD k ms = some m → Hd L H m
  | [], _, _, e => by simp [lkD] at e
  | (j, x) :: ms, m, h, e => by
    simp only [lkD] at e
    split at e
    · cases e; exact h.1
    · exact HdK.lk h.2 e
theorem HdF.lk {L : Lnk} {H : Hp} {k : Nat} : ∀ {ms : List (Nat × MA)} {m : MA}, HdF L H ms → lkN k ms = some m → Hd L H m
  | [], _, _, e => by simp [lkN] at e
  | (j, x) :: ms, m, h, e => by
    simp only [lkN] at e
    split at e
    · cases e; exact h.1
    · exact HdF.lk h.2 e
theorem HdL.of {L : Lnk} {H : Hp} : ∀ {ms : List MA}, (∀ m ∈ ms, Hd L H m) → HdL L H ms
  | [], _ => trivial
  | m :: ms, h => ⟨h m (by simp), HdL.of fun x hx => h x (by simp [hx])⟩
theorem HdL.mem {L : Lnk} {H : Hp} : ∀ {ms : List MA}, HdL L H ms → ∀ m ∈ ms, Hd L H m
  | m :: ms, h, x, hx => by
    rcases List.mem_cons.mp hx with rfl | hx
    · exact h.1
    · exact HdL.mem h.2 x hx
theorem adrs_mem {ms : List MA} {m : MA} (h : m ∈ ms) : ∀ b ∈ m.adr, b ∈ adrs ms := by
  induction ms with
  | nil => simp at h
  | cons x xs ih =>
    intro b hb
    simp only [adrs, List.mem_append]
    rcases List.mem_cons.mp h with rfl | h
    · exact .inl hb
    · exact .inr (ih h b hb)
end Vm
end
section
namespace Vm
open PySem L2

mutual
theorem eqv_key : ∀ (x y : D), isKey x = true → isKey y = true → (PyData.eqv x y = true ↔ x = y)
  | .none, .none, _, _ => by simp [PyData.eqv]
  | .int i, .int j, _, _ => by simp [PyData.eqv]
  | .str i, .str j, _, _ => by simp [PyData.eqv]
  | .tuple xs, .tuple ys, h, k => by
    simp only [isKey] at h k
    simp only [PyData.eqv, PyData.tuple.injEq]
    exact eqv_keys xs ys h k
  | .none, .int _, _, _ => by simp [PyData.eqv]
  | .none, .str _, _, _ => by simp [PyData.eqv]
  | .none, .tuple _, _, _ => by simp [PyData.eqv]
  | .int _, .none, _, _ => by simp [PyData.eqv]
  | .int _, .str _, _, _ => by simp [PyData.eqv]
  | .int _, .tuple _, _, _ => by simp [PyData.eqv]
  | .str _, .none, _, _ => by simp [PyData.eqv]
  | .str _, .int _, _, _ => by simp [PyData.eqv]
  | .str _, .tuple _, _, _ => by simp [PyData.eqv]
  | .tuple _, .none, _, _ => by simp [PyData.eqv]
  | .tuple _, .int _, _, _ => by simp [PyData.eqv]
  | .tuple _, .str _, _, _ => by simp [PyData.eqv]
  | .bool _, _, h, _ => by simp [isKey] at h
  | .list _, _, h, _ => by simp [isKey] at h
  | .dict _, _, h, _ => by simp [isKey] at h
  | _, .bool _, _, h => by simp [isKey] at h
  | _, .list _, _, h => by simp [isKey] at h
  | _, .dict _, _, h => by simp [isKey] at h
theorem eqv_keys : ∀ (x y : List D), isKeys x = true → isKeys y = true → (PyData.eqvAll x y = true ↔ x = y)
  | [], [], _, _ => by simp [PyData.eqvAll]
  | [], _ :: _, _, _ => by simp [PyData.eqvAll]
  | _ :: _, [], _, _ => by simp [PyData.eqvAll]
  | x :: xs, y :: ys, h, k => by
    simp only [isKeys, Bool.and_eq_true] at h k
    simp only [PyData.eqvAll, Bool.and_eq_true, List.cons.injEq, eqv_key x y h.1 k.1, eqv_keys xs ys h.2 k.2]
end
theorem toKey_isKey {d : D} {k : Key} (h : toKey d = some k) : isKey d = true := by
  cases d <;> simp [toKey] at h <;> simp [isKey]
theorem toKey_inj {d e : D} {k : Key} (h : toKey d = some k) (h' : toKey e = some k) : d = e := by
  cases d <;> simp [toKey] at h <;> cases e <;> simp [toKey] at h' <;> subst h <;> simp at h' <;> rw [h']
def keyed {α : Type} (kvs : List (D × α)) : Prop := ∀ p ∈ kvs, isKey p.1 = true
def MA.getA : MA → List Acc → Option MA
  | m, [] => some m
  | .lst _ ms, .ix n :: p => (ms[n]?).bind fun m => m.getA p
  | .dct _ kvs, .ky k :: p => (lkD k kvs).bind fun m => m.getA p
  | .obj _ _ fs, .fd f :: p => (lkN f fs).bind fun m => m.getA p
  | _, _ :: _ => none
def modNA (n : Nat) (f : MA → MA) : List MA → List MA
  | [] => []
  | m :: ms => match n with | 0 => f m :: ms | n + 1 => m :: modNA n f ms
def modDA (k : D) (f : MA → MA) : List (D × MA) → List (D × MA)
  | [] => []
  | (j, m) :: r => if PyData.eqv j k then (j, f m) :: r else (j, m) :: modDA k f r
def modFA (k : Nat) (f : MA → MA) : List (Nat × MA) → List (Nat × MA)
  | [] => []
  | (j, m) :: r => if j = k then (j, f m) :: r else (j, m) :: modFA k f r
def MA.updA : List Acc → (MA → MA) → MA → MA
  | [], f, m => f m
  | .ix n :: p, f, .lst a ms => .lst a (modNA n (MA.updA p f) ms)
  | .ky k :: p, f, .dct a kvs => .dct a (modDA k (MA.updA p f) kvs)
  | .fd g :: p, f, .obj a c fs => .obj a c (modFA g (MA.updA p f) fs)
  | _ :: _, _, m => m
theorem ers_get (ms : List MA) (n : Nat) : (ers ms)[n]? = ms[n]?.map MA.er := by rw [ers_map, List.getElem?_map]
theorem erk_lk (k : D) : ∀ kvs : List (D × MA), lkD k (erk kvs) = (lkD k kvs).map MA.er
  | [] => rfl
  | (j, m) :: r => by
    simp only [erk, lkD]
    split
    · rfl
    · exact erk_lk k r
theorem erf_lk (k : Nat) : ∀ kvs : List (Nat × MA), lkN k (erf kvs) = (lkN k kvs).map MA.er
  | [] => rfl
  | (j, m) :: r => by
    simp only [erf, lkN]
    split
    · rfl
    · exact erf_lk k r
theorem get_er {L : Lnk} {H : Hp} : ∀ (p : List Acc) (m : MA), Hd L H m → m.er.get p = (m.getA p).map MA.er
  | [], m, _ => by simp [M.get, MA.getA]
  | a :: p, .im m v, h => by
    cases m with
    | lst _ => exact h.elim
    | dct _ => exact h.elim
    | obj _ _ => exact h.elim
    | dnn _ => exact h.elim
    | _ => cases a <;> simp [MA.er, M.get, MA.getA]
  | .ix n :: p, .lst a ms, h => by
    simp only [MA.er, M.get, MA.getA, ers_get]
    cases e : ms[n]? with
    | none => rfl
    | some x => simp; exact get_er p x (HdL.get h.2 e)
  | .ky k :: p, .dct a kvs, h => by
    simp only [MA.er, M.get, MA.getA, erk_lk]
    cases e : lkD k kvs with
    | none => rfl
    | some x => simp; exact get_er p x (HdK.lk h.2 e)
  | .fd f :: p, .obj a c fs, h => by
    simp only [MA.er, M.get, MA.getA, erf_lk]
    cases e : lkN f fs with
    | none => rfl
    | some x => simp; exact get_er p x (HdF.lk h.2 e)
  | .ky _ :: _, .lst _ _, _ => by simp [MA.er, M.get, MA.getA]
  | .fd _ :: _, .lst _ _, _ => by simp [MA.er, M.get, MA.getA]
  | .ix _ :: _, .dct _ _, _ => by simp [MA.er, M.get, MA.getA]
  | .fd _ :: _, .dct _ _, _ => by simp [MA.er, M.get, MA.getA]
  | .ix _ :: _, .obj _ _ _, _ => by simp [MA.er, M.get, MA.getA]
  | .ky _ :: _, .obj _ _ _, _ => by simp [MA.er, M.get, MA.getA]
  | a :: _, .dnn _ _, _ => by cases a <;> simp [MA.er, M.get, MA.getA]
theorem getA_hd {L : Lnk} {H : Hp} : ∀ (p : List Acc) (m x : MA), Hd L H m → m.getA p = some x → Hd L H x
  | [], m, x, h, e => by simp [MA.getA] at e; subst e; exact h
  | .ix n :: p, .lst a ms, x, h, e => by
    simp only [MA.getA, Option.bind_eq_some_iff] at e
    obtain ⟨y, e1, e2⟩ := e
    exact getA_hd p y x (HdL.get h.2 e1) e2
  | .ky k :: p, .dct a kvs, x, h, e => by
    simp only [MA.getA, Option.bind_eq_some_iff] at e
    obtain ⟨y, e1, e2⟩ := e
    exact getA_hd p y x (HdK.lk h.2 e1) e2
  | .fd f :: p, .obj a c fs, x, h, e => by
    simp only [MA.getA, Option.bind_eq_some_iff] at e
    obtain ⟨y, e1, e2⟩ := e
    exact getA_hd p y x (HdF.lk h.2 e1) e2
  | _ :: _, .im _ _, _, _, e => by simp [MA.getA] at e
  | .ky _ :: _, .lst _ _, _, _, e => by simp [MA.getA] at e
  | .fd _ :: _, .lst _ _, _, _, e => by simp [MA.getA] at e
  | .ix _ :: _, .dct _ _, _, _, e => by simp [MA.getA] at e
  | .fd _ :: _, .dct _ _, _, _, e => by simp [MA.getA] at e
  | .ix _ :: _, .obj _ _ _, _, _, e => by simp [MA.getA] at e
  | .ky _ :: _, .obj _ _ _, _, _, e => by simp [MA.getA] at e
  | _ :: _, .dnn _ _, _, _, e => by simp [MA.getA] at e

theorem er_modN {f : MA → MA} {g : M → M} : ∀ (n : Nat) (ms : List MA), (∀ m, ms[n]? = some m → (f m).er = g m.er) → ers (modNA n f ms) = modN n g (ers ms)
  | _, [], _ => by simp [modNA, ers, modN]
  | 0, m :: ms, h => by simp only [modNA, ers, modN, h m rfl]
  | n + 1, m :: ms, h => by
    simp only [modNA, ers, modN]
    rw [er_modN n ms fun x e => h x (by simpa using e)]
theorem er_modD {f : MA → MA} {g : M → M} (k : D) : ∀ (ms : List (D × MA)), (∀ m, lkD k ms = some m → (f m).er = g m.er) → erk (modDA k f ms) = modD k g (erk ms)
  | [], _ => rfl
  | (j, m) :: ms, h => by
    simp only [modDA, erk, modD]
    by_cases e : PyData.eqv j k = true
    · simp only [e, if_true, erk]
      rw [h m (by simp [lkD, e])]
    · simp only [e, if_false, erk, Bool.false_eq_true]
      rw [er_modD k ms fun x q => h x (by simp [lkD, e, q])]
theorem er_modF {f : MA → MA} {g : M → M} (k : Nat) : ∀ (ms : List (Nat × MA)), (∀ m, lkN k ms = some m → (f m).er = g m.er) → erf (modFA k f ms) = modF k g (erf ms)
  | [], _ => rfl
  | (j, m) :: ms, h => by
    simp only [modFA, erf, modF]
    by_cases e : j = k
    · simp only [e, if_true, erf]
      rw [h m (by simp [lkN, e])]
    · simp only [e, if_false, erf]
      rw [er_modF k ms fun x q => h x (by simp [lkN, e, q])]
theorem er_upd {x' : MA} : ∀ (p : List Acc) (m x : MA), m.getA p = some x → (m.updA p fun _ => x').er = m.er.upd p fun _ => x'.er
  | [], m, x, _ => by simp [MA.updA, M.upd]
  | .ix n :: p, .lst a ms, x, h => by
    simp only [MA.getA, Option.bind_eq_some_iff] at h
    obtain ⟨y, h1, h2⟩ := h
    simp only [MA.updA, MA.er, M.upd, M.lst.injEq]
    refine er_modN n ms fun m e => ?_
    rw [h1] at e; cases e
    exact er_upd p _ x h2
  | .ky k :: p, .dct a kvs, x, h => by
    simp only [MA.getA, Option.bind_eq_some_iff] at h
    obtain ⟨y, h1, h2⟩ := h
    simp only [MA.updA, MA.er, M.upd, M.dct.injEq]
    refine er_modD k kvs fun m e => ?_
    rw [h1] at e; cases e
    exact er_upd p _ x h2
  | .fd f :: p, .obj a c fs, x, h => by
    simp only [MA.getA, Option.bind_eq_some_iff] at h
    obtain ⟨y, h1, h2⟩ := h
    simp only [MA.updA, MA.er, M.upd, M.obj.injEq, true_and]
    refine er_modF f fs fun m e => ?_
    rw [h1] at e; cases e
    exact er_upd p _ x h2
  | _ :: _, .im _ _, _, e => by simp [MA.getA] at e
  | .ky _ :: _, .lst _ _, _, e => by simp [MA.getA] at e
  | .fd _ :: _, .lst _ _, _, e => by simp [MA.getA] at e
  | .ix _ :: _, .dct _ _, _, e => by simp [MA.getA] at e
  | .fd _ :: _, .dct _ _, _, e => by simp [MA.getA] at e
  | .ix _ :: _, .obj _ _ _, _, e => by simp [MA.getA] at e
  | .ky _ :: _, .obj _ _ _, _, e => by simp [MA.getA] at e
  | _ :: _, .dnn _ _, _, e => by simp [MA.getA] at e
theorem v_upd {x' : MA} : ∀ (p : List Acc) (m x : MA), m.getA p = some x → x'.v = x.v → (m.updA p fun _ => x').v = m.v
  | [], m, x, h, e => by simp [MA.getA] at h; subst h; simpa [MA.updA] using e
  | a :: p, .im _ _, _, h, _ => by simp [MA.getA] at h
  | a :: p, .lst _ _, _, h, _ => by cases a <;> simp [MA.updA, MA.v]
  | a :: p, .dct _ _, _, h, _ => by cases a <;> simp [MA.updA, MA.v]
  | a :: p, .obj _ _ _, _, h, _ => by cases a <;> simp [MA.updA, MA.v]
  | a :: p, .dnn _ _, _, h, _ => by cases a <;> simp [MA.updA, MA.v]
theorem adr_modN {f : MA → MA} {l r l' : List Addr} : ∀ (n : Nat) (ms : List MA) (m : MA), ms[n]? = some m → m.adr = l ++ l' ++ r → ∃ l2 r2, adrs ms = l2 ++ l' ++ r2 ∧ ∀ (g : MA → MA) (l'' : List Addr), (g m).adr = l ++ l'' ++ r → adrs (modNA n g ms) = l2 ++ l'' ++ r2
  | _, [], _, e, _ => by simp at e
  | 0, m0 :: ms, m, e, h => by
    simp at e; subst e
    exact ⟨l, r ++ adrs ms, by simp [adrs, h], fun g l'' q => by simp [modNA, adrs, q]⟩
  | n + 1, m0 :: ms, m, e, h => by
    obtain ⟨l2, r2, h1, h2⟩ := adr_modN (f := f) n ms m (by simpa using e) h
    exact ⟨m0.adr ++ l2, r2, by simp [adrs, h1], fun g l'' q => by simp [modNA, adrs, h2 g l'' q]⟩
theorem adr_modD {l r l' : List Addr} (k : D) : ∀ (ms : List (D × MA)) (m : MA), lkD k ms = some m → m.adr = l ++ l' ++ r → ∃ l2 r2, adrk ms = l2 ++ l' ++ r2 ∧ ∀ (g : MA → MA) (l'' : List Addr), (g m).adr = l ++ l'' ++ r → adrk (modDA k g ms) = l2 ++ l'' ++ r2
  | [], _, e, _ => by simp [lkD] at e
  | (j, m0) :: ms, m, e, h => by
    by_cases q : PyData.eqv j k = true
    · simp [lkD, q] at e; subst e
      exact ⟨l, r ++ adrk ms, by simp [adrk, h], fun g l'' z => by simp [modDA, q, adrk, z]⟩
    · simp [lkD, q] at e
      obtain ⟨l2, r2, h1, h2⟩ := adr_modD k ms m e h
      exact ⟨m0.adr ++ l2, r2, by simp [adrk, h1], fun g l'' z => by simp [modDA, q, adrk, h2 g l'' z]⟩
theorem adr_modF {l r l' : List Addr} (k : Nat) : ∀ (ms : List (Nat × MA)) (m : MA), lkN k ms = some m → m.adr = l ++ l' ++ r → ∃ l2 r2, adrf ms = l2 ++ l' ++ r2 ∧ ∀ (g : MA → MA) (l'' : List Addr), (g m).adr = l ++ l'' ++ r → adrf (modFA k g ms) = l2 ++ l'' ++ r2
  | [], _, e, _ => by simp [lkN] at e
  | (j, m0) :: ms, m, e, h => by
    by_cases q : j = k
    · simp [lkN, q] at e; subst e
      exact ⟨l, r ++ adrf ms, by simp [adrf, h], fun g l'' z => by simp [modFA, q, adrf, z]⟩
    · simp [lkN, q] at e
      obtain ⟨l2, r2, h1, h2⟩ := adr_modF k ms m e h
      exact ⟨m0.adr ++ l2, r2, by simp [adrf, h1], fun g l'' z => by simp [modFA, q, adrf, h2 g l'' z]⟩
theorem adr_upd : ∀ (p : List Acc) (m x : MA), m.getA p = some x → ∃ l r, m.adr = l ++ x.adr ++ r ∧ ∀ x', (m.updA p fun _ => x').adr = l ++ x'.adr ++ r
  | [], m, x, h => by simp [MA.getA] at h; subst h; exact ⟨[], [], by simp, fun x' => by simp [MA.updA]⟩
  | .ix n :: p, .lst a ms, x, h => by
    simp only [MA.getA, Option.bind_eq_some_iff] at h
    obtain ⟨y, h1, h2⟩ := h
    obtain ⟨l, r, e1, e2⟩ := adr_upd p y x h2
    obtain ⟨l2, r2, g1, g2⟩ := adr_modN (f := id) n ms y h1 e1
    exact ⟨a :: l2, r2, by simp [MA.adr, g1], fun x' => by simp [MA.updA, MA.adr, g2 _ x'.adr (e2 x')]⟩
  | .ky k :: p, .dct a kvs, x, h => by
    simp only [MA.getA, Option.bind_eq_some_iff] at h
    obtain ⟨y, h1, h2⟩ := h
    obtain ⟨l, r, e1, e2⟩ := adr_upd p y x h2
    obtain ⟨l2, r2, g1, g2⟩ := adr_modD k kvs y h1 e1
    exact ⟨a :: l2, r2, by simp [MA.adr, g1], fun x' => by simp [MA.updA, MA.adr, g2 _ x'.adr (e2 x')]⟩
  | .fd f :: p, .obj a c fs, x, h => by
    simp only [MA.getA, Option.bind_eq_some_iff] at h
    obtain ⟨y, h1, h2⟩ := h
    obtain ⟨l, r, e1, e2⟩ := adr_upd p y x h2
    obtain ⟨l2, r2, g1, g2⟩ := adr_modF f fs y h1 e1
    exact ⟨a :: l2, r2, by simp [MA.adr, g1], fun x' => by simp [MA.updA, MA.adr, g2 _ x'.adr (e2 x')]⟩
  | _ :: _, .im _ _, _, e => by simp [MA.getA] at e
  | .ky _ :: _, .lst _ _, _, e => by simp [MA.getA] at e
  | .fd _ :: _, .lst _ _, _, e => by simp [MA.getA] at e
  | .ix _ :: _, .dct _ _, _, e => by simp [MA.getA] at e
  | .fd _ :: _, .dct _ _, _, e => by simp [MA.getA] at e
  | .ix _ :: _, .obj _ _ _, _, e => by simp [MA.getA] at e
  | .ky _ :: _, .obj _ _ _, _, e => by simp [MA.getA] at e
  | _ :: _, .dnn _ _, _, e => by simp [MA.getA] at e

theorem vs_modN {f : MA → MA} : ∀ (n : Nat) (ms : List MA), (∀ m, ms[n]? = some m → (f m).v = m.v) → vsOf (modNA n f ms) = vsOf ms
  | _, [], _ => by simp [modNA, vsOf]
  | 0, m :: ms, h => by simp [modNA, vsOf, h m rfl]
  | n + 1, m :: ms, h => by
    have := vs_modN n ms fun x e => h x (by simpa using e)
    simp only [vsOf] at this
    simp [modNA, vsOf, this]
theorem kv_modD {f : MA → MA} (k : D) : ∀ (ms : List (D × MA)), (∀ m, lkD k ms = some m → (f m).v = m.v) → kvOf (modDA k f ms) = kvOf ms
  | [], _ => rfl
  | (j, m) :: ms, h => by
    simp only [modDA]
    by_cases e : PyData.eqv j k = true
    · simp only [e, if_true, kvOf]
      rw [h m (by simp [lkD, e])]
    · simp only [e, if_false, kvOf, Bool.false_eq_true]
      rw [kv_modD k ms fun x q => h x (by simp [lkD, e, q])]
theorem fv_modF {L : Lnk} {f : MA → MA} (k : Nat) : ∀ (ms : List (Nat × MA)), (∀ m, lkN k ms = some m → (f m).v = m.v) → fvOf L (modFA k f ms) = fvOf L ms
  | [], _ => rfl
  | (j, m) :: ms, h => by
    simp only [modFA]
    by_cases e : j = k
    · simp only [e, if_true, fvOf, List.map_cons]
      rw [h m (by simp [lkN, e])]
    · have := fv_modF (L := L) k ms fun x q => h x (by simp [lkN, e, q])
      simp only [fvOf] at this
      simp only [e, if_false, fvOf, List.map_cons, this]
theorem nd_left {l r : List Addr} (h : (l ++ r).Nodup) {b : Addr} (hb : b ∈ l) : b ∉ r := fun hr => (List.nodup_append.mp h).2.2 b hb b hr rfl
theorem hd_modN {L : Lnk} {H H' : Hp} {f : MA → MA} {X : List Addr} {y : MA} (st : Stb H H') (hf : Hd L H' (f y)) (hX : ∀ b ∈ X, b ∈ y.adr) : ∀ (n : Nat) (ms : List MA), ms[n]? = some y → (adrs ms).Nodup → HdL L H ms → (∀ b ∈ adrs ms, b ∉ X → H' b = H b) → HdL L H' (modNA n f ms)
  | _, [], e, _, _, _ => by simp at e
  | 0, m :: ms, e, nd, h, k => by
    simp at e; subst e
    simp only [adrs] at nd k
    exact ⟨hf, HdL.mono st h.2 fun b hb => k b (by simp [hb]) fun hx => nd_left nd (hX b hx) hb⟩
  | n + 1, m :: ms, e, nd, h, k => by
    simp only [adrs] at nd k
    refine ⟨Hd.mono st h.1 fun b hb => k b (by simp [hb]) fun hx => ?_, hd_modN st hf hX n ms (by simpa using e) (List.nodup_append.mp nd).2.1 h.2 fun b hb => k b (by simp [hb])⟩
    exact nd_left nd hb (adrs_mem (List.mem_of_getElem? (by simpa using e)) b (hX b hx))
theorem adrk_lk {k : D} : ∀ {ms : List (D × MA)} {m : MA}, lkD k ms = some m → ∀ b ∈ m.adr, b ∈ adrk ms
  | [], _, e, _, _ => by simp [lkD] at e
  | (j, x) :: ms, m, e, b, hb => by
    simp only [lkD] at e
    simp only [adrk, List.mem_append]
    split at e
    · cases e; exact .inl hb
    · exact .inr (adrk_lk e b hb)
theorem adrf_lk {k : Nat} : ∀ {ms : List (Nat × MA)} {m : MA}, lkN k ms = some m → ∀ b ∈ m.adr, b ∈ adrf ms
  | [], _, e, _, _ => by simp [lkN] at e
  | (j, x) :: ms, m, e, b, hb => by
    simp only [lkN] at e
    simp only [adrf, List.mem_append]
    split at e
    · cases e; exact .inl hb
    · exact .inr (adrf_lk e b hb)
theorem hd_modD {L : Lnk} {H H' : Hp} {f : MA → MA} {X : List Addr} {y : MA} (st : Stb H H') (hf : Hd L H' (f y)) (hX : ∀ b ∈ X, b ∈ y.adr) (k : D) : ∀ (ms : List (D × MA)), lkD k ms = some y → (adrk ms).Nodup → HdK L H ms → (∀ b ∈ adrk ms, b ∉ X → H' b = H b) → HdK L H' (modDA k f ms)
  | [], e, _, _, _ => by simp [lkD] at e
  | (j, m) :: ms, e, nd, h, q => by
    simp only [adrk] at nd q
    by_cases z : PyData.eqv j k = true
    · simp [lkD, z] at e; subst e
      simp only [modDA, z, if_true]
      exact ⟨hf, HdK.mono st h.2 fun b hb => q b (by simp [hb]) fun hx => nd_left nd (hX b hx) hb⟩
    · simp [lkD, z] at e
      simp only [modDA, z, if_false, Bool.false_eq_true]
      refine ⟨Hd.mono st h.1 fun b hb => q b (by simp [hb]) fun hx => ?_, hd_modD st hf hX k ms e (List.nodup_append.mp nd).2.1 h.2 fun b hb => q b (by simp [hb])⟩
      exact nd_left nd hb (adrk_lk e b (hX b hx))
theorem hd_modF {L : Lnk} {H H' : Hp} {f : MA → MA} {X : List Addr} {y : MA} (st : Stb H H') (hf : Hd L H' (f y)) (hX : ∀ b ∈ X, b ∈ y.adr) (k : Nat) : ∀ (ms : List (Nat × MA)), lkN k ms = some y → (adrf ms).Nodup → HdF L H ms → (∀ b ∈ adrf ms, b ∉ X → H' b = H b) → HdF L H' (modFA k f ms)
  | [], e, _, _, _ => by simp [lkN] at e
  | (j, m) :: ms, e, nd, h, q => by
    simp only [adrf] at nd q
    by_cases z : j = k
    · simp [lkN, z] at e; subst e
      simp only [modFA, z, if_true]
      exact ⟨hf, HdF.mono st h.2 fun b hb => q b (by simp [hb]) fun hx => nd_left nd (hX b hx) hb⟩
    · simp [lkN, z] at e
      simp only [modFA, z, if_false]
      refine ⟨Hd.mono st h.1 fun b hb => q b (by simp [hb]) fun hx => ?_, hd_modF st hf hX k ms e (List.nodup_append.mp nd).2.1 h.2 fun b hb => q b (by simp [hb])⟩
      exact nd_left nd hb (adrf_lk e b (hX b hx))
theorem getA_adr : ∀ (p : List Acc) (m x : MA), m.getA p = some x → ∀ b ∈ x.adr, b ∈ m.adr := fun p m x h b hb => by
  obtain ⟨l, r, e, _⟩ := adr_upd p m x h
  rw [e]; simp [hb]
theorem hd_upd {L : Lnk} {H H' : Hp} {x x' : MA} (st : Stb H H') (hv : x'.v = x.v) (hx : Hd L H' x') : ∀ (p : List Acc) (m : MA), m.getA p = some x → m.adr.Nodup → Hd L H m → (∀ b ∈ m.adr, b ∉ x.adr → H' b = H b) → Hd L H' (m.updA p fun _ => x')
  | [], m, h, _, _, _ => by simp [MA.updA]; exact hx
  | .ix n :: p, .lst a ms, h, nd, hd, k => by
    simp only [MA.getA, Option.bind_eq_some_iff] at h
    obtain ⟨y, h1, h2⟩ := h
    simp only [MA.adr, List.nodup_cons] at nd
    have hy := getA_adr p y x h2
    have ym := List.mem_of_getElem? h1
    have yn : y.adr.Nodup := by
      obtain ⟨l2, r2, e2, _⟩ := adr_modN (f := id) (l := []) (r := []) (l' := y.adr) n ms y h1 (by simp)
      rw [e2] at nd
      exact (List.nodup_append.mp (List.nodup_append.mp nd.2).1).2.1
    have hy' := hd_upd st hv hx p y h2 yn (HdL.get hd.2 h1) fun b hb => k b (by simp [MA.adr, adrs_mem ym b hb])
    refine ⟨?_, hd_modN st hy' hy n ms h1 nd.2 hd.2 fun b hb => k b (by simp [MA.adr, hb])⟩
    rw [vs_modN n ms fun m e => by rw [h1] at e; cases e; exact v_upd p _ x h2 hv, k a (by simp [MA.adr]) fun q => nd.1 (adrs_mem ym _ (hy _ q))]
    exact hd.1
  | .ky c :: p, .dct a kvs, h, nd, hd, k => by
    simp only [MA.getA, Option.bind_eq_some_iff] at h
    obtain ⟨y, h1, h2⟩ := h
    simp only [MA.adr, List.nodup_cons] at nd
    have hy := getA_adr p y x h2
    have yn : y.adr.Nodup := by
      obtain ⟨l2, r2, e2, _⟩ := adr_modD (l := []) (r := []) (l' := y.adr) c kvs y h1 (by simp)
      rw [e2] at nd
      exact (List.nodup_append.mp (List.nodup_append.mp nd.2).1).2.1
    have hy' := hd_upd st hv hx p y h2 yn (HdK.lk hd.2 h1) fun b hb => k b (by simp [MA.adr, adrk_lk h1 b hb])
    refine ⟨?_, hd_modD st hy' hy c kvs h1 nd.2 hd.2 fun b hb => k b (by simp [MA.adr, hb])⟩
    rw [kv_modD c kvs fun m e => by rw [h1] at e; cases e; exact v_upd p _ x h2 hv, k a (by simp [MA.adr]) fun q => nd.1 (adrk_lk h1 _ (hy _ q))]
    exact hd.1
  | .fd f :: p, .obj a c fs, h, nd, hd, k => by
    simp only [MA.getA, Option.bind_eq_some_iff] at h
    obtain ⟨y, h1, h2⟩ := h
    simp only [MA.adr, List.nodup_cons] at nd
    have hy := getA_adr p y x h2
    have yn : y.adr.Nodup := by
      obtain ⟨l2, r2, e2, _⟩ := adr_modF (l := []) (r := []) (l' := y.adr) f fs y h1 (by simp)
      rw [e2] at nd
      exact (List.nodup_append.mp (List.nodup_append.mp nd.2).1).2.1
    have hy' := hd_upd st hv hx p y h2 yn (HdF.lk hd.2 h1) fun b hb => k b (by simp [MA.adr, adrf_lk h1 b hb])
    refine ⟨?_, hd_modF st hy' hy f fs h1 nd.2 hd.2 fun b hb => k b (by simp [MA.adr, hb])⟩
    rw [fv_modF (L := L) f fs fun m e => by rw [h1] at e; cases e; exact v_upd p _ x h2 hv, k a (by simp [MA.adr]) fun q => nd.1 (adrf_lk h1 _ (hy _ q))]
    exact hd.1
  | _ :: _, .im _ _, e, _, _, _ => by simp [MA.getA] at e
  | .ky _ :: _, .lst _ _, e, _, _, _ => by simp [MA.getA] at e
  | .fd _ :: _, .lst _ _, e, _, _, _ => by simp [MA.getA] at e
  | .ix _ :: _, .dct _ _, e, _, _, _ => by simp [MA.getA] at e
  | .fd _ :: _, .dct _ _, e, _, _, _ => by simp [MA.getA] at e
  | .ix _ :: _, .obj _ _ _, e, _, _, _ => by simp [MA.getA] at e
  | .ky _ :: _, .obj _ _ _, e, _, _, _ => by simp [MA.getA] at e
end Vm
end
section
namespace Vm
open PySem L2

def okA : Acc → Bool
  | .ky k => isKey k | _ => true
def okP (p : List Acc) : Prop := ∀ a ∈ p, okA a = true
theorem okP.nil : okP [] := fun _ h => by simp at h
theorem okP.cons {a : Acc} {p : List Acc} (h : okP (a :: p)) : okA a = true ∧ okP p := ⟨h a (by simp), fun b hb => h b (by simp [hb])⟩
theorem okP.append {p q : List Acc} (h : okP p) (k : okP q) : okP (p ++ q) := fun a ha => by
  rcases List.mem_append.mp ha with ha | ha
  · exact h a ha
  · exact k a ha
theorem okP.drop {p : List Acc} (h : okP p) (n : Nat) : okP (p.drop n) := fun a ha => h a (List.mem_of_mem_drop ha)

theorem get_modN {f : MA → MA} : ∀ (n k : Nat) (ms : List MA), (modNA n f ms)[k]? = if n = k then ms[k]?.map f else ms[k]?
  | n, k, [] => by simp [modNA]
  | 0, 0, m :: ms => by simp [modNA]
  | 0, k + 1, m :: ms => by simp [modNA]
  | n + 1, 0, m :: ms => by simp [modNA]
  | n + 1, k + 1, m :: ms => by simp [modNA, get_modN n k ms]
theorem kvOf_keys : ∀ {kvs : List (D × MA)} {l : List (Key × V)}, kvOf kvs = some l → ∀ p ∈ kvs, isKey p.1 = true
  | [], _, _, p, hp => by simp at hp
  | (k, m) :: r, l, h, p, hp => by
    simp only [kvOf, Option.bind_eq_some_iff] at h
    obtain ⟨j, h1, l', h2, _⟩ := h
    rcases List.mem_cons.mp hp with rfl | hp
    · exact toKey_isKey h1
    · exact kvOf_keys h2 p hp
theorem lk_modD {f : MA → MA} {a b : D} (ha : isKey a = true) (hb : isKey b = true) : ∀ (kvs : List (D × MA)), (∀ p ∈ kvs, isKey p.1 = true) → lkD b (modDA a f kvs) = if PyData.eqv a b = true then (lkD b kvs).map f else lkD b kvs
  | [], _ => by simp [modDA, lkD]
  | (j, m) :: r, h => by
    have hj : isKey j = true := h (j, m) (by simp)
    have ih := lk_modD (f := f) ha hb r fun p hp => h p (by simp [hp])
    have e1 := eqv_key j a hj ha
    have e2 := eqv_key j b hj hb
    have e3 := eqv_key a b ha hb
    by_cases q : PyData.eqv j a = true
    · have := e1.mp q
      subst this
      simp only [modDA, q, if_true, lkD]
      by_cases z : PyData.eqv j b = true
      · simp [z]
      · simp [z]
    · simp only [modDA, q, if_false, lkD, Bool.false_eq_true]
      by_cases z : PyData.eqv j b = true
      · have := e2.mp z
        subst this
        have n : ¬ PyData.eqv a j = true := fun w => q (e1.mpr (e3.mp w).symm)
        simp [z, n]
      · simp only [z, if_false, Bool.false_eq_true]
        exact ih
theorem lk_modF {f : MA → MA} {a b : Nat} : ∀ (kvs : List (Nat × MA)), lkN b (modFA a f kvs) = if a = b then (lkN b kvs).map f else lkN b kvs
  | [] => by simp [modFA, lkN]
  | (j, m) :: r => by
    have ih := lk_modF (f := f) (a := a) (b := b) r
    by_cases q : j = a
    · subst q
      simp only [modFA, if_true, lkN]
      by_cases z : j = b <;> simp [z]
    · simp only [modFA, q, if_false, lkN]
      by_cases z : j = b
      · subst z
        have : ¬ a = j := fun w => q w.symm
        simp [this]
      · simp [z, ih]
def labA (m : MA) (r : List Acc) : Option V := (m.getA r).map MA.v
theorem get_upd {L : Lnk} {H : Hp} {x x' : MA} (hv : x'.v = x.v) : ∀ (p r : List Acc) (m : MA), Hd L H m → okP p → okP r → m.getA p = some x →
    (isPre p r = false → labA (m.updA p fun _ => x') r = labA m r) ∧
    (isPre p r = true → (m.updA p fun _ => x').getA r = x'.getA (r.drop p.length) ∧ m.getA r = x.getA (r.drop p.length))
  | [], r, m, _, _, _, h => by
    simp [MA.getA] at h; subst h
    simp [isPre, MA.updA]
  | a :: p, [], m, hd, hp, hr, h => by
    refine ⟨fun _ => ?_, fun e => by simp [isPre] at e⟩
    simp only [labA, MA.getA, Option.map_some, Option.some.injEq]
    exact v_upd (a :: p) m x h hv
  | .ix n :: p, .ix k :: r, .lst a ms, hd, hp, hr, h => by
    simp only [MA.getA, Option.bind_eq_some_iff] at h
    obtain ⟨y, h1, h2⟩ := h
    simp only [isPre, accEq, labA, MA.updA, MA.getA, get_modN]
    by_cases e : n = k
    · subst e
      have ih := get_upd hv p r y (HdL.get hd.2 h1) hp.cons.2 hr.cons.2 h2
      simp only [beq_self_eq_true, Bool.true_and, if_true, h1, Option.map_some, Option.bind_some, List.length_cons, List.drop_succ_cons]
      exact ih
    · simp [e]
  | .ky j :: p, .ky k :: r, .dct a kvs, hd, hp, hr, h => by
    simp only [MA.getA, Option.bind_eq_some_iff] at h
    obtain ⟨y, h1, h2⟩ := h
    obtain ⟨l, hl, _⟩ := hd.1
    have kk := kvOf_keys hl
    have hj : isKey j = true := hp.cons.1
    have hk : isKey k = true := hr.cons.1
    simp only [isPre, accEq, labA, MA.updA, MA.getA, lk_modD hj hk kvs kk]
    by_cases e : PyData.eqv j k = true
    · have := (eqv_key j k hj hk).mp e
      subst this
      have ih := get_upd hv p r y (HdK.lk hd.2 h1) hp.cons.2 hr.cons.2 h2
      simp only [e, Bool.true_and, if_true, h1, Option.map_some, Option.bind_some, List.length_cons, List.drop_succ_cons]
      exact ih
    · simp [e]
  | .fd n :: p, .fd k :: r, .obj a c fs, hd, hp, hr, h => by
    simp only [MA.getA, Option.bind_eq_some_iff] at h
    obtain ⟨y, h1, h2⟩ := h
    simp only [isPre, accEq, labA, MA.updA, MA.getA, lk_modF]
    by_cases e : n = k
    · subst e
      have ih := get_upd hv p r y (HdF.lk hd.2 h1) hp.cons.2 hr.cons.2 h2
      simp only [beq_self_eq_true, Bool.true_and, if_true, h1, Option.map_some, Option.bind_some, List.length_cons, List.drop_succ_cons]
      exact ih
    · simp [e]
  | .ix n :: p, .ky k :: r, m, _, _, _, h => by
    cases m <;> simp [MA.getA] at h <;> simp [isPre, accEq, labA, MA.updA, MA.getA]
  | .ix n :: p, .fd k :: r, m, _, _, _, h => by
    cases m <;> simp [MA.getA] at h <;> simp [isPre, accEq, labA, MA.updA, MA.getA]
  | .ky n :: p, .ix k :: r, m, _, _, _, h => by
    cases m <;> simp [MA.getA] at h <;> simp [isPre, accEq, labA, MA.updA, MA.getA]
  | .ky n :: p, .fd k :: r, m, _, _, _, h => by
    cases m <;> simp [MA.getA] at h <;> simp [isPre, accEq, labA, MA.updA, MA.getA]
  | .fd n :: p, .ix k :: r, m, _, _, _, h => by
    cases m <;> simp [MA.getA] at h <;> simp [isPre, accEq, labA, MA.updA, MA.getA]
  | .fd n :: p, .ky k :: r, m, _, _, _, h => by
    cases m <;> simp [MA.getA] at h <;> simp [isPre, accEq, labA, MA.updA, MA.getA]
  | .ix n :: p, .ix k :: r, .im _ _, _, _, _, h => by simp [MA.getA] at h
  | .ix n :: p, .ix k :: r, .dct _ _, _, _, _, h => by simp [MA.getA] at h
  | .ix n :: p, .ix k :: r, .obj _ _ _, _, _, _, h => by simp [MA.getA] at h
  | .ky n :: p, .ky k :: r, .im _ _, _, _, _, h => by simp [MA.getA] at h
  | .ky n :: p, .ky k :: r, .lst _ _, _, _, _, h => by simp [MA.getA] at h
  | .ky n :: p, .ky k :: r, .obj _ _ _, _, _, _, h => by simp [MA.getA] at h
  | .fd n :: p, .fd k :: r, .im _ _, _, _, _, h => by simp [MA.getA] at h
  | .fd n :: p, .fd k :: r, .lst _ _, _, _, _, h => by simp [MA.getA] at h
  | .fd n :: p, .fd k :: r, .dct _ _, _, _, _, h => by simp [MA.getA] at h

abbrev SA := List (Option MA)
def adrO : Option MA → List Addr | some m => m.adr | none => []
def adrS : SA → List Addr
  | [] => []
  | o :: r => adrO o ++ adrS r
def plA (A : SA) (p : Pth) : Option MA := (joinO A[p.1]?).bind fun m => m.getA p.2
def labS (A : SA) (p : Pth) : Option V := (plA A p).map MA.v
structure SR (L : Lnk) (H : Hp) (σ : L2.St) (A : SA) (s : St) (τ : List V) : Prop where
  gl : GlOk L H
  er : s.sl = A.map (Option.map MA.er)
  len : A.length = σ.length
  val : ∀ (i : Nat) (m : MA), A[i]? = some (some m) → σ[i]? = some (some m.v)
  hd : ∀ (i : Nat) (m : MA), A[i]? = some (some m) → Hd L H m
  nd : (adrS A).Nodup
  rf : ∀ (i : Nat) (p : Pth), (i, p) ∈ s.rf → okP p.2 ∧ ∃ v, σ[i]? = some (some v) ∧ labS A p = some v
  tl : s.tm.length = τ.length
  tm : ∀ (k : Nat) (p : Pth), s.tm[k]? = some (some p) → okP p.2 ∧ ∃ v, τ[k]? = some v ∧ labS A p = some v
theorem joinO_some {α : Type} {o : Option (Option α)} {a : α} : joinO o = some a ↔ o = some (some a) := by
  cases o with
  | none => simp [joinO]
  | some o => cases o <;> simp [joinO]
theorem adrS_mem : ∀ {A : SA} {i : Nat} {m : MA}, A[i]? = some (some m) → ∀ b ∈ m.adr, b ∈ adrS A
  | [], _, _, e, _, _ => by simp at e
  | o :: A, 0, m, e, b, hb => by simp at e; subst e; simp [adrS, adrO, hb]
  | o :: A, i + 1, m, e, b, hb => by simp [adrS]; exact .inr (adrS_mem (i := i) (by simpa using e) b hb)
theorem adrS_nd : ∀ {A : SA} {i : Nat} {m : MA}, A[i]? = some (some m) → (adrS A).Nodup → m.adr.Nodup
  | [], _, _, e, _ => by simp at e
  | o :: A, 0, m, e, h => by simp at e; subst e; exact (List.nodup_append.mp h).1
  | o :: A, i + 1, m, e, h => adrS_nd (i := i) (by simpa using e) (List.nodup_append.mp h).2.1
theorem adrS_apart : ∀ {A : SA} {i j : Nat} {m n : MA}, A[i]? = some (some m) → A[j]? = some (some n) → i ≠ j → (adrS A).Nodup → ∀ b ∈ m.adr, b ∉ n.adr
  | [], _, _, _, _, e, _, _, _, _, _ => by simp at e
  | o :: A, 0, 0, _, _, _, _, h, _, _, _ => absurd rfl h
  | o :: A, 0, j + 1, m, n, e, e', _, nd, b, hb => by
    simp at e; subst e
    exact fun hn => nd_left nd (by simpa [adrO] using hb) (adrS_mem (i := j) (by simpa using e') b hn)
  | o :: A, i + 1, 0, m, n, e, e', _, nd, b, hb => by
    simp at e'; subst e'
    exact fun hn => nd_left nd (by simpa [adrO] using hn) (adrS_mem (i := i) (by simpa using e) b hb)
  | o :: A, i + 1, j + 1, m, n, e, e', h, nd, b, hb => adrS_apart (i := i) (j := j) (by simpa using e) (by simpa using e') (by omega) (List.nodup_append.mp nd).2.1 b hb
theorem adrS_set : ∀ {A : SA} {i : Nat} {o : Option MA}, A[i]? = some o → ∃ l r, adrS A = l ++ adrO o ++ r ∧ ∀ o', adrS (A.set i o') = l ++ adrO o' ++ r
  | [], _, _, e => by simp at e
  | x :: A, 0, o, e => by simp at e; subst e; exact ⟨[], adrS A, by simp [adrS], fun o' => by simp [adrS]⟩
  | x :: A, i + 1, o, e => by
    obtain ⟨l, r, h1, h2⟩ := adrS_set (A := A) (i := i) (o := o) (by simpa using e)
    exact ⟨adrO x ++ l, r, by simp [adrS, h1], fun o' => by simp [adrS, h2]⟩
section
variable {L : Lnk} {H : Hp} {σ : L2.St} {A : SA} {s : St} {τ : List V}
theorem SR.sget (S : SR L H σ A s τ) (i : Nat) : s.sget i = (joinO A[i]?).map MA.er := by
  unfold St.sget
  rw [S.er, List.getElem?_map]
  cases A[i]? with
  | none => rfl
  | some o => cases o <;> rfl
theorem SR.get (S : SR L H σ A s τ) (p : Pth) : s.get p = (plA A p).map MA.er := by
  unfold St.get plA
  rw [S.sget]
  cases e : joinO A[p.1]? with
  | none => rfl
  | some m => simp; exact get_er p.2 m (S.hd _ _ (joinO_some.mp e))
theorem SR.pl_hd (S : SR L H σ A s τ) {p : Pth} {x : MA} (h : plA A p = some x) : Hd L H x := by
  unfold plA at h
  simp only [Option.bind_eq_some_iff] at h
  obtain ⟨m, h1, h2⟩ := h
  exact getA_hd p.2 m x (S.hd _ _ (joinO_some.mp h1)) h2
theorem SR.pl_adr {p : Pth} {x : MA} (h : plA A p = some x) : ∀ b ∈ x.adr, b ∈ adrS A := by
  unfold plA at h
  simp only [Option.bind_eq_some_iff] at h
  obtain ⟨m, h1, h2⟩ := h
  intro b hb
  exact adrS_mem (joinO_some.mp h1) b (getA_adr p.2 m x h2 b hb)
theorem SR.mut (S : SR L H σ A s τ) : ∀ b ∈ adrS A, ∃ u, H b = some u ∧ Mut (some u) := by
  have : ∀ (B : SA), (∀ (i : Nat) (m : MA), B[i]? = some (some m) → Hd L H m) → ∀ b ∈ adrS B, ∃ u, H b = some u ∧ Mut (some u) := by
    intro B
    induction B with
    | nil => intro _ b hb; simp [adrS] at hb
    | cons o B ih =>
      intro h b hb
      simp only [adrS, List.mem_append] at hb
      rcases hb with hb | hb
      · cases o with
        | none => simp [adrO] at hb
        | some m => exact Hd.mut (h 0 m rfl) b hb
      · exact ih (fun i m e => h (i + 1) m (by simpa using e)) b hb
  exact this A S.hd
end
def putA (A : SA) (p : Pth) (x' : MA) : SA := match joinO A[p.1]? with
  | some m => A.set p.1 (some (m.updA p.2 fun _ => x'))
  | none => A
theorem killR_mem {f : Pth → Bool} {i : Nat} {p : Pth} : ∀ {l : List (Nat × Pth)}, (i, p) ∈ killR f l → (i, p) ∈ l ∧ f p = false
  | [], h => by simp [killR] at h
  | x :: r, h => by
    simp only [killR] at h
    split at h
    · obtain ⟨h1, h2⟩ := killR_mem h
      exact ⟨by simp [h1], h2⟩
    · rename_i q
      rcases List.mem_cons.mp h with e | h
      · subst e
        exact ⟨by simp, by simpa using q⟩
      · obtain ⟨h1, h2⟩ := killR_mem h
        exact ⟨by simp [h1], h2⟩
theorem killT_get {f : Pth → Bool} : ∀ {l : List (Option Pth)} {k : Nat} {p : Pth}, (killT f l)[k]? = some (some p) → l[k]? = some (some p) ∧ f p = false
  | [], _, _, h => by simp [killT] at h
  | some x :: r, 0, p, h => by
    simp only [killT, List.getElem?_cons_zero, Option.some.injEq] at h
    split at h
    · cases h
    · rename_i q
      cases h
      exact ⟨rfl, by simpa using q⟩
  | none :: r, 0, p, h => by simp [killT] at h
  | some x :: r, k + 1, p, h => killT_get (l := r) (k := k) (by simpa [killT] using h)
  | none :: r, k + 1, p, h => killT_get (l := r) (k := k) (by simpa [killT] using h)
theorem killT_len {f : Pth → Bool} : ∀ (l : List (Option Pth)), (killT f l).length = l.length
  | [] => rfl
  | some _ :: r => by simp [killT, killT_len r]
  | none :: r => by simp [killT, killT_len r]
theorem dropR_mem {i j : Nat} {p : Pth} : ∀ {l : List (Nat × Pth)}, (j, p) ∈ dropR i l → (j, p) ∈ l ∧ j ≠ i
  | [], h => by simp [dropR] at h
  | x :: r, h => by
    simp only [dropR] at h
    split at h
    · obtain ⟨h1, h2⟩ := dropR_mem h
      exact ⟨by simp [h1], h2⟩
    · rename_i q
      rcases List.mem_cons.mp h with e | h
      · subst e
        exact ⟨by simp, q⟩
      · obtain ⟨h1, h2⟩ := dropR_mem h
        exact ⟨by simp [h1], h2⟩
theorem lkN_mem {α : Type} {i : Nat} {a : α} : ∀ {l : List (Nat × α)}, lkN i l = some a → (i, a) ∈ l
  | [], h => by simp [lkN] at h
  | (j, b) :: r, h => by
    simp only [lkN] at h
    split at h
    · rename_i q
      cases h; subst q; simp
    · simp [lkN_mem h]
theorem SR.write {L : Lnk} {H H' : Hp} {σ : L2.St} {A : SA} {s : St} {τ : List V} {p : Pth} {x x' : MA} {kf : Pth → Bool} (S : SR L H σ A s τ) (ok : okP p.2) (hp : plA A p = some x) (hv : x'.v = x.v)
    (st : Stb H H') (hx : Hd L H' x') (fr : ∀ b ∈ adrS A, b ∉ x.adr → H' b = H b) (nd : x'.adr.Nodup) (new : ∀ b ∈ x'.adr, b ∈ x.adr ∨ b ∉ adrS A)
    (hk : ∀ r : Pth, r.1 = p.1 → isPre p.2 r.2 = true → kf r = false → ∀ v, labA x (r.2.drop p.2.length) = some v → labA x' (r.2.drop p.2.length) = some v) :
    SR L H' σ (putA A p x') ((s.put p x'.er).kill kf) τ ∧ ∃ l r, adrS A = l ++ x.adr ++ r ∧ adrS (putA A p x') = l ++ x'.adr ++ r := by
  have hp' := hp
  unfold plA at hp
  simp only [Option.bind_eq_some_iff] at hp
  obtain ⟨m, h1, h2⟩ := hp
  have h1' := joinO_some.mp h1
  have eA : putA A p x' = A.set p.1 (some (m.updA p.2 fun _ => x')) := by unfold putA; rw [h1]
  have hl : p.1 < A.length := (List.getElem?_eq_some_iff.mp h1').1
  obtain ⟨l, r, a1, a2⟩ := adr_upd p.2 m x h2
  obtain ⟨l2, r2, b1, b2⟩ := adrS_set h1'
  have hdm := S.hd _ _ h1'
  have mnd := adrS_nd h1' S.nd
  have lab : ∀ q : Pth, okP q.2 → kf q = false → ∀ v, labS A q = some v → labS (putA A p x') q = some v := by
    intro q oq kq v e
    unfold labS plA at e ⊢
    rw [eA]
    by_cases z : q.1 = p.1
    · rw [z] at e ⊢
      rw [List.getElem?_set_self hl]
      rw [h1] at e
      simp only [joinO, Option.bind_some] at e ⊢
      obtain ⟨g1, g2⟩ := get_upd (x := x) (x' := x') hv p.2 q.2 m hdm ok oq h2
      by_cases w : isPre p.2 q.2 = true
      · obtain ⟨g3, g4⟩ := g2 w
        rw [g3]
        rw [g4] at e
        exact hk q z w kq v e
      · have := g1 (by simpa using w)
        unfold labA at this
        rw [this]; exact e
    · rw [List.getElem?_set_ne (Ne.symm z)]
      exact e
  refine ⟨⟨S.gl.mono st, ?_, ?_, ?_, ?_, ?_, ?_, ?_, ?_⟩, l2 ++ l, r ++ r2, ?_, ?_⟩
  · show (s.put p x'.er).sl = _
    unfold St.put
    rw [S.sget, h1, eA]
    simp only [Option.map_some]
    rw [S.er, List.map_set]
    simp only [Option.map_some]
    rw [er_upd p.2 m x h2]
  · rw [eA, List.length_set]; exact S.len
  · intro i n e
    rw [eA] at e
    by_cases z : i = p.1
    · subst z
      rw [List.getElem?_set_self hl] at e
      cases e
      rw [v_upd p.2 m x h2 hv]
      exact S.val _ _ h1'
    · rw [List.getElem?_set_ne (Ne.symm z)] at e
      exact S.val _ _ e
  · intro i n e
    rw [eA] at e
    by_cases z : i = p.1
    · subst z
      rw [List.getElem?_set_self hl] at e
      cases e
      exact hd_upd st hv hx p.2 m h2 mnd hdm fun b hb => fr b (adrS_mem h1' b hb)
    · rw [List.getElem?_set_ne (Ne.symm z)] at e
      refine Hd.mono st (S.hd _ _ e) fun b hb => fr b (adrS_mem e b hb) fun hx' => ?_
      exact adrS_apart e h1' z S.nd b hb (getA_adr p.2 m x h2 b hx')
  · rw [eA, b2]
    have n0 := S.nd
    rw [b1] at n0
    simp only [adrO, a1, a2] at n0 ⊢
    have e1 : l2 ++ (l ++ x.adr ++ r) ++ r2 = (l2 ++ l) ++ x.adr ++ (r ++ r2) := by simp
    have e2 : l2 ++ (l ++ x'.adr ++ r) ++ r2 = (l2 ++ l) ++ x'.adr ++ (r ++ r2) := by simp
    rw [e1] at n0
    rw [e2]
    have inA : ∀ b, b ∈ (l2 ++ l) ∨ b ∈ (r ++ r2) → b ∈ adrS A := by
      intro b hb
      rw [b1]
      simp only [adrO, a1]
      rw [e1]
      rcases hb with hb | hb
      · exact List.mem_append_left _ (List.mem_append_left _ hb)
      · exact List.mem_append_right _ hb
    rw [List.nodup_append] at n0 ⊢
    obtain ⟨n1, n2, n3⟩ := n0
    rw [List.nodup_append] at n1 ⊢
    obtain ⟨n4, n5, n6⟩ := n1
    refine ⟨⟨n4, nd, fun a ha b hb q => ?_⟩, n2, fun a ha b hb q => ?_⟩
    · subst q
      rcases new a hb with z | z
      · exact n6 a ha a z rfl
      · exact z (inA a (.inl ha))
    · subst q
      rcases List.mem_append.mp ha with ha | ha
      · exact n3 a (List.mem_append_left _ ha) a hb rfl
      · rcases new a ha with z | z
        · exact n3 a (List.mem_append_right _ z) a hb rfl
        · exact z (inA a (.inr hb))
  · intro i q e
    have e' : (i, q) ∈ killR kf s.rf := by
      have : ((s.put p x'.er).kill kf).rf = killR kf s.rf := by
        unfold St.put St.kill
        split <;> rfl
      rw [this] at e; exact e
    obtain ⟨e1, e2⟩ := killR_mem e'
    obtain ⟨oq, v, e3, e4⟩ := S.rf i q e1
    exact ⟨oq, v, e3, lab q oq e2 v e4⟩
  · have : ((s.put p x'.er).kill kf).tm = killT kf s.tm := by
      unfold St.put St.kill
      split <;> rfl
    rw [this, killT_len]; exact S.tl
  · intro k q e
    have e' : (killT kf s.tm)[k]? = some (some q) := by
      have : ((s.put p x'.er).kill kf).tm = killT kf s.tm := by
        unfold St.put St.kill
        split <;> rfl
      rw [this] at e; exact e
    obtain ⟨e1, e2⟩ := killT_get e'
    obtain ⟨oq, v, e3, e4⟩ := S.tm k q e1
    exact ⟨oq, v, e3, lab q oq e2 v e4⟩
  · rw [b1]; simp [adrO, a1]
  · rw [eA, b2]; simp [adrO, a2]
end Vm
end
section
namespace Vm
open PySem L2

structure Pst (H : Hp) (A : SA) (H' : Hp) (A' : SA) (F : List Addr) : Prop where
  ext : ∀ b o, H b = some o → b ∉ adrS A → H' b = some o
  new : ∀ b ∈ adrS A' ++ F, b ∈ adrS A ∨ H b = none
  nd : (adrS A' ++ F).Nodup
theorem Pst.refl {H : Hp} {A : SA} (nd : (adrS A).Nodup) : Pst H A H A [] := ⟨fun _ _ h _ => h, fun b hb => .inl (by simpa using hb), by simpa using nd⟩
theorem Pst.stb {L : Lnk} {H H' : Hp} {σ : L2.St} {A A' : SA} {s : St} {τ : List V} {F : List Addr} (P : Pst H A H' A' F) (S : SR L H σ A s τ) : Stb H H' := by
  constructor
  · intro a xs h
    refine P.ext a _ h fun hb => ?_
    obtain ⟨u, e, m⟩ := S.mut a hb
    rw [h] at e; cases e
    exact m
  · intro a o w h
    refine P.ext a _ h fun hb => ?_
    obtain ⟨u, e, m⟩ := S.mut a hb
    rw [h] at e; cases e
    exact m
theorem Pst.keep {L : Lnk} {H H1 H2 : Hp} {A A1 A2 : SA} {F1 F2 : List Addr} (P1 : Pst H A H1 A1 F1) (P2 : Pst H1 A1 H2 A2 F2) {b : Addr} (hb : b ∈ F1) {o : HO} (e : H1 b = some o) : H2 b = some o :=
  P2.ext b o e fun h => nd_left P1.nd h hb
theorem Pst.trans {H H1 H2 : Hp} {A A1 A2 : SA} {F1 F2 : List Addr} (P1 : Pst H A H1 A1 F1) (P2 : Pst H1 A1 H2 A2 F2) (t : ∀ b ∈ F1, ∃ u, H1 b = some u) : Pst H A H2 A2 (F1 ++ F2) := by
  have back : ∀ b, b ∈ adrS A1 ∨ H1 b = none → b ∈ adrS A ∨ H b = none := fun b h => by
    rcases h with h | h
    · exact P1.new b (by simp [h])
    · cases e : H b with
      | none => exact .inr rfl
      | some o =>
        by_cases q : b ∈ adrS A
        · exact .inl q
        · rw [P1.ext b o e q] at h; cases h
  refine ⟨fun b o e q => P2.ext b o (P1.ext b o e q) fun h => ?_, fun b hb => ?_, ?_⟩
  · rcases P1.new b (by simp [h]) with z | z
    · exact q z
    · rw [e] at z; cases z
  · simp only [List.mem_append] at hb
    rcases hb with hb | hb | hb
    · exact back b (P2.new b (by simp [hb]))
    · exact P1.new b (by simp [hb])
    · exact back b (P2.new b (by simp [hb]))
  · have n1 := P1.nd
    have n2 := P2.nd
    have dis : ∀ b ∈ F1, b ∉ adrS A2 ++ F2 := fun b hb h => by
      rcases P2.new b h with z | z
      · exact nd_left n1 z hb
      · obtain ⟨u, e⟩ := t b hb
        rw [e] at z; cases z
    rw [List.nodup_append] at n1 n2
    rw [← List.append_assoc]
    refine List.nodup_append.mpr ⟨List.nodup_append.mpr ⟨n2.1, n1.2.1, fun a ha b hb q => ?_⟩, n2.2.1, fun a ha b hb q => ?_⟩
    · subst q; exact dis a hb (by simp [ha])
    · subst q
      rcases List.mem_append.mp ha with ha | ha
      · exact n2.2.2 a ha a hb rfl
      · exact dis a ha (by simp [hb])
theorem Pst.less {H H' : Hp} {A A' : SA} {F G : List Addr} (P : Pst H A H' A' F) (h : ∀ b ∈ G, b ∈ F) (nd : G.Nodup) : Pst H A H' A' G := by
  refine ⟨P.ext, fun b hb => P.new b ?_, ?_⟩
  · rcases List.mem_append.mp hb with hb | hb
    · simp [hb]
    · simp [h b hb]
  · have n := List.nodup_append.mp P.nd
    exact List.nodup_append.mpr ⟨n.1, nd, fun a ha b hb q => n.2.2 a ha b (h b hb) q⟩

def RvOk (L : Lnk) (H : Hp) (A : SA) : Rv → Option MA → V → Prop
  | .v m, some y, v => y.er = m ∧ y.v = v ∧ Hd L H y
  | .p p, none, v => okP p.2 ∧ labS A p = some v
  | _, _, _ => False
theorem RvOk.trk {L : Lnk} {H : Hp} {A : SA} {r : Rv} {x : Option MA} {v : V} (h : RvOk L H A r x v) : ∀ b ∈ adrO x, ∃ u, H b = some u := by
  intro b hb
  cases x with
  | none => simp [adrO] at hb
  | some y =>
    cases r with
    | p _ => exact h.elim
    | v m => obtain ⟨u, e, _⟩ := Hd.mut h.2.2 b hb; exact ⟨u, e⟩
theorem Hd.over {L : Lnk} {H H1 H2 : Hp} {σ : L2.St} {A A1 A2 : SA} {s1 : St} {τ : List V} {F1 F2 : List Addr} {y : MA} (P1 : Pst H A H1 A1 F1) (S1 : SR L H1 σ A1 s1 τ) (P2 : Pst H1 A1 H2 A2 F2) (hy : Hd L H1 y) (hF : ∀ b ∈ y.adr, b ∈ F1) : Hd L H2 y := by
  refine Hd.mono (P2.stb S1) hy fun b hb => ?_
  obtain ⟨u, e, _⟩ := Hd.mut hy b hb
  rw [e]
  exact P2.ext b u e fun h => nd_left P1.nd h (hF b hb)

def TRes {α β : Type} (L : Lnk) (f : St → Res α) (ok : Hp → SA → α → β → V → Prop) (ad : β → List Addr) : TE := fun σ H Q =>
  ∃ A s τ a s', SR L H σ A s τ ∧ f s = .ok a s' ∧ ∀ v H' A' y, SR L H' σ A' s' τ → Pst H A H' A' (ad y) → ok H' A' a y v → Q v H'
abbrev TEv (L : Lnk) (C : Ctx) (e : E) : TE := TRes L (ev C e) (RvOk L) adrO
def MaOk (L : Lnk) (H : Hp) (_ : SA) (m : M) (y : MA) (v : V) : Prop := y.er = m ∧ y.v = v ∧ Hd L H y
abbrev TSto (L : Lnk) (C : Ctx) (e : E) : TE := TRes L (fun s => (ev C e s).bd sto) (MaOk L) MA.adr
def DaOk (L : Lnk) (H : Hp) (_ : SA) (d : D) (_ : Unit) (v : V) : Prop := Rp L.K H v d
abbrev TStD (L : Lnk) (C : Ctx) (e : E) : TE := TRes L (fun s => (ev C e s).bd stoD) (DaOk L) fun _ => []

theorem bd_ok {α β : Type} {r : Res α} {k : α → St → Res β} {b : β} {s' : St} (h : r.bd k = .ok b s') : ∃ a s, r = .ok a s ∧ k a s = .ok b s' := by
  cases r with
  | ok a s => exact ⟨a, s, rfl, h⟩
  | exc x s => cases h
  | no => cases h
theorem rs_ok {α β : Type} {o : Option α} {k : α → Res β} {b : β} {s' : St} (h : rs o k = .ok b s') : ∃ a, o = some a ∧ k a = .ok b s' := by
  cases o with
  | none => cases h
  | some a => exact ⟨a, rfl, h⟩
theorem rif_ok {α : Type} {c : Bool} {r : Res α} {b : α} {s' : St} (h : rif c r = .ok b s') : c = true ∧ r = .ok b s' := by
  cases c with
  | false => cases h
  | true => exact ⟨rfl, h⟩
theorem oif_ok {α : Type} {c : Bool} {r : Option α} {b : α} (h : oif c r = some b) : c = true ∧ r = some b := by
  cases c with
  | false => cases h
  | true => exact ⟨rfl, h⟩
theorem okV_ok {α : Type} {o : Option α} {s s' : St} {f : α → M} {r : Rv} (h : okV o s f = .ok r s') : ∃ a, o = some a ∧ r = .v (f a) ∧ s' = s := by
  obtain ⟨a, e, q⟩ := rs_ok h
  cases q
  exact ⟨a, e, rfl, rfl⟩

def Lockd (X : List Addr) (H1 H2 : Hp) : Prop := (∀ b, b ∉ X → H2 b = H1 b) ∧ ∀ b ∈ X, ∃ u o, H1 b = some u ∧ H2 b = some (.frz o u)
theorem Lockd.nil (H : Hp) : Lockd [] H H := ⟨fun _ _ => rfl, fun _ h => by simp at h⟩
theorem Inv.locks {X : Cx} {pins : List (Addr × Obj)} {σ : L2.St} {s : Shared} : ∀ {Y : List Addr} {H : Hp}, Inv X pins σ H s → (∀ b ∈ Y, ∃ u, H b = some u ∧ Mut (some u)) → Y.Nodup → ∃ H2, Inv X pins σ H2 s ∧ Lockd Y H H2
  | [], H, I, _, _ => ⟨H, I, Lockd.nil H⟩
  | a :: Y, H, I, h, nd => by
    obtain ⟨u, e, m⟩ := h a (by simp)
    obtain ⟨od, I1⟩ := I.lock e m
    have nd' := List.nodup_cons.mp nd
    have ne : ∀ b ∈ Y, b ≠ a := fun b hb q => nd'.1 (q ▸ hb)
    obtain ⟨H2, I2, k1, k2⟩ := Inv.locks (Y := Y) I1 (fun b hb => by rw [upd_ne (ne b hb)]; exact h b (by simp [hb])) nd'.2
    refine ⟨H2, I2, fun b hb => ?_, fun b hb => ?_⟩
    · simp at hb
      rw [k1 b hb.2, upd_ne hb.1]
    · rcases List.mem_cons.mp hb with rfl | hb
      · exact ⟨u, od, e, by rw [k1 b nd'.1, upd_same]⟩
      · obtain ⟨w, o, e1, e2⟩ := k2 b hb
        exact ⟨w, o, by rw [upd_ne (ne b hb)] at e1; exact e1, e2⟩
theorem pe_locks {X : Cx} {e : Expr} {t : TE} (h : PE X e t) : PE X e (fun σ H Q => t σ H fun v H1 => ∃ Y : List Addr, (∀ b ∈ Y, ∃ u, H1 b = some u ∧ Mut (some u)) ∧ Y.Nodup ∧ ∀ H2, Lockd Y H1 H2 → Q v H2) := by
  refine ⟨fun pins s σ H Q I hw => ?_⟩
  refine thn (h.run pins s σ H _ I hw) fun u s1 ⟨v, H1, I1, r, Y, hm, nd, q⟩ => ?_
  obtain ⟨H2, I2, k⟩ := Inv.locks I1 hm nd
  exact ⟨v, H2, I2, r, q H2 k⟩
theorem PE.mono {X : Cx} {e : Expr} {t t' : TE} (h : PE X e t) (k : ∀ σ H Q, t' σ H Q → t σ H Q) : PE X e t' := ⟨fun pins s σ H Q I hw => h.run pins s σ H Q I (k σ H Q hw)⟩
theorem Lockd.stb {Y : List Addr} {H1 H2 : Hp} (k : Lockd Y H1 H2) (m : ∀ b ∈ Y, ∃ u, H1 b = some u ∧ Mut (some u)) : Stb H1 H2 := by
  constructor
  · intro a xs h
    rw [k.1 a fun hb => ?_]; exact h
    obtain ⟨u, e, q⟩ := m a hb
    rw [h] at e; cases e; exact q
  · intro a o w h
    rw [k.1 a fun hb => ?_]; exact h
    obtain ⟨u, e, q⟩ := m a hb
    rw [h] at e; cases e; exact q
mutual

theorem Hd.frozen {L : Lnk} {H1 H2 : Hp} {Y : List Addr} (k : Lockd Y H1 H2) (st : Stb H1 H2) : ∀ {m : MA} {x : D}, Hd L H1 m → (∀ b ∈ m.adr, b ∈ Y) → frz m.er = some x → Rp L.K H2 m.v x
  | .im m v, x, h, _, e => by
    cases m with
    | d y =>
      simp only [MA.er, frz, Option.some.injEq] at e
      subst e
      exact Rp.mono st h
    | lst _ => exact h.elim
    | dct _ => exact h.elim
    | _ => simp [MA.er, frz] at e
  | .lst a ms, x, h, hy, e => by
    simp only [MA.er, frz, Option.map_eq_some_iff] at e
    obtain ⟨xs, e1, rfl⟩ := e
    obtain ⟨u, o, g1, g2⟩ := k.2 a (hy a (by simp [MA.adr]))
    rw [h.1] at g1; cases g1
    exact .lst (.inl ⟨o, g2⟩) (HdL.frozen k st h.2 (fun b hb => hy b (by simp [MA.adr, hb])) e1)
  | .dct a kvs, x, h, hy, e => by
    simp only [MA.er, frz, Option.map_eq_some_iff] at e
    obtain ⟨xs, e1, rfl⟩ := e
    obtain ⟨l, e2, e3⟩ := h.1
    obtain ⟨u, o, g1, g2⟩ := k.2 a (hy a (by simp [MA.adr]))
    rw [e3] at g1; cases g1
    exact .dct g2 (HdK.frozen k st h.2 (fun b hb => hy b (by simp [MA.adr, hb])) e1 e2)
  | .obj a c fs, x, h, hy, e => by simp [MA.er, frz] at e
theorem HdL.frozen {L : Lnk} {H1 H2 : Hp} {Y : List Addr} (k : Lockd Y H1 H2) (st : Stb H1 H2) : ∀ {ms : List MA} {xs : List D}, HdL L H1 ms → (∀ b ∈ adrs ms, b ∈ Y) → frzs (ers ms) = some xs → RpL L.K H2 (vsOf ms) xs
  | [], xs, _, _, e => by simp [ers, frzs] at e; subst e; exact .nil
  | m :: ms, xs, h, hy, e => by
    simp only [ers, frzs, Option.bind_eq_some_iff] at e
    obtain ⟨x, e1, xs', e2, e3⟩ := e
    simp at e3; subst e3
    exact .cons (Hd.frozen k st h.1 (fun b hb => hy b (by simp [adrs, hb])) e1) (HdL.frozen k st h.2 (fun b hb => hy b (by simp [adrs, hb])) e2)
theorem HdK.frozen {L : Lnk} {H1 H2 : Hp} {Y : List Addr} (k : Lockd Y H1 H2) (st : Stb H1 H2) : ∀ {ms : List (D × MA)} {xs : List (D × D)} {l : List (Key × V)}, HdK L H1 ms → (∀ b ∈ adrk ms, b ∈ Y) → frzk (erk ms) = some xs → kvOf ms = some l → RpK L.K H2 l xs
  | [], xs, l, _, _, e, e' => by simp [erk, frzk] at e; simp [kvOf] at e'; subst e; subst e'; exact .nil
  | (j, m) :: ms, xs, l, h, hy, e, e' => by
    simp only [erk, frzk, Option.bind_eq_some_iff] at e
    obtain ⟨x, e1, xs', e2, e3⟩ := e
    simp at e3; subst e3
    simp only [kvOf, Option.bind_eq_some_iff] at e'
    obtain ⟨k', f1, l', f2, f3⟩ := e'
    simp at f3; subst f3
    exact .cons f1 (Hd.frozen k st h.1 (fun b hb => hy b (by simp [adrk, hb])) e1) (HdK.frozen k st h.2 (fun b hb => hy b (by simp [adrk, hb])) e2 f2)
end
def XcOk (L : Lnk) (x : M) (cls : Value) (d : Option Addr) : Prop := ∃ c xs a, x = .exc c xs ∧ L.xa c = some a ∧ cls = .ref a ∧ d = none
end Vm
end
section
namespace Vm
open PySem L2

section
variable {L : Lnk} {H : Hp} {σ : L2.St} {A : SA} {s : St} {τ : List V}
theorem SR.push (S : SR L H σ A s τ) {p : Pth} {v : V} (ok : okP p.2) (h : labS A p = some v) : SR L H σ A (s.push p) (v :: τ) := by
  refine ⟨S.gl, S.er, S.len, S.val, S.hd, S.nd, S.rf, by simp [St.push, S.tl], ?_⟩
  intro k q e
  cases k with
  | zero =>
    simp only [St.push, List.getElem?_cons_zero, Option.some.injEq] at e
    subst e
    exact ⟨ok, v, rfl, h⟩
  | succ k =>
    obtain ⟨o, w, e1, e2⟩ := S.tm k q (by simpa [St.push] using e)
    exact ⟨o, w, by simpa using e1, e2⟩
theorem topP_some {l : List (Option Pth)} {p : Pth} {t : List (Option Pth)} (h : topP l = some (p, t)) : l = some p :: t := by
  unfold topP at h
  split at h
  · cases h; rfl
  · cases h
theorem SR.pop {v : V} {p : Pth} {t : List (Option Pth)} (S : SR L H σ A s (v :: τ)) (h : topP s.tm = some (p, t)) : SR L H σ A (s.tms t) τ ∧ okP p.2 ∧ labS A p = some v := by
  have e := topP_some h
  have h0 := S.tm 0 p (by rw [e]; rfl)
  obtain ⟨o, w, e1, e2⟩ := h0
  simp at e1; subst e1
  have tl := S.tl
  rw [e] at tl
  refine ⟨⟨S.gl, S.er, S.len, S.val, S.hd, S.nd, S.rf, by simpa [St.tms] using tl, ?_⟩, o, e2⟩
  intro k q e'
  obtain ⟨o, w, f1, f2⟩ := S.tm (k + 1) q (by rw [e]; simpa [St.tms] using e')
  exact ⟨o, w, by simpa using f1, f2⟩
theorem SR.heap {H' : Hp} (S : SR L H σ A s τ) (st : Stb H H') (fr : ∀ b ∈ adrS A, H' b = H b) : SR L H' σ A s τ :=
  ⟨S.gl.mono st, S.er, S.len, S.val, fun i m e => Hd.mono st (S.hd i m e) fun b hb => fr b (adrS_mem e b hb), S.nd, S.rf, S.tl, S.tm⟩
theorem labS_set {i : Nat} {o : Option MA} {p : Pth} (h : p.1 ≠ i) : labS (A.set i o) p = labS A p := by
  unfold labS plA
  rw [List.getElem?_set_ne (Ne.symm h)]
theorem mut_er {m : MA} (h : m.er.isMut = false) : m.adr = [] := by
  cases m with
  | im m v => rfl
  | lst a ms => simp [MA.er, M.isMut] at h
  | dct a ms => simp [MA.er, M.isMut] at h
  | obj a c ms => simp [MA.er, M.isMut] at h
  | dnn a ms => simp [MA.er, M.isMut] at h
theorem SR.away (S : SR L H σ A s τ) {i : Nat} {m : MA} (h : A[i]? = some (some m)) : SR L H σ (A.set i none) ((s.slot i none).kill fun r => r.1 == i) τ ∧ (adrS (A.set i none) ++ m.adr).Nodup ∧ ∀ b ∈ adrS (A.set i none), b ∈ adrS A := by
  have hl : i < A.length := (List.getElem?_eq_some_iff.mp h).1
  obtain ⟨l, r, a1, a2⟩ := adrS_set h
  have n0 := S.nd
  rw [a1] at n0
  simp only [adrO] at n0
  have e2 := a2 none
  simp only [adrO, List.append_nil] at e2
  have nd2 : (adrS (A.set i none) ++ m.adr).Nodup := by
    rw [e2]
    have : (l ++ m.adr ++ r).Perm (l ++ r ++ m.adr) := by
      rw [List.append_assoc, List.append_assoc]
      exact List.Perm.append_left l List.perm_append_comm
    exact this.nodup_iff.mp n0
  refine ⟨⟨S.gl, ?_, ?_, ?_, ?_, ?_, ?_, ?_, ?_⟩, nd2, ?_⟩
  · show s.sl.set i none = _
    rw [S.er, List.map_set]; rfl
  · rw [List.length_set]; exact S.len
  · intro j n e
    by_cases q : j = i
    · subst q; rw [List.getElem?_set_self hl] at e; cases e
    · rw [List.getElem?_set_ne (Ne.symm q)] at e; exact S.val j n e
  · intro j n e
    by_cases q : j = i
    · subst q; rw [List.getElem?_set_self hl] at e; cases e
    · rw [List.getElem?_set_ne (Ne.symm q)] at e; exact S.hd j n e
  · exact (List.nodup_append.mp nd2).1
  · intro j p e
    obtain ⟨e1, e2⟩ := killR_mem (f := fun r => r.1 == i) (l := s.rf) e
    obtain ⟨o, v, e3, e4⟩ := S.rf j p e1
    refine ⟨o, v, e3, ?_⟩
    rw [labS_set (by simpa using e2)]; exact e4
  · show (killT _ s.tm).length = _
    rw [killT_len]; exact S.tl
  · intro k p e
    obtain ⟨e1, e2⟩ := killT_get (f := fun r => r.1 == i) (l := s.tm) e
    obtain ⟨o, v, e3, e4⟩ := S.tm k p e1
    refine ⟨o, v, e3, ?_⟩
    rw [labS_set (by simpa using e2)]; exact e4
  · intro b hb
    rw [e2] at hb
    rw [a1]
    simp only [adrO, List.mem_append] at hb ⊢
    rcases hb with hb | hb
    · exact .inl (.inl hb)
    · exact .inr hb
end

theorem rd_ok {L : Lnk} {H : Hp} {σ : L2.St} {A : SA} {s s' : St} {τ : List V} {np i : Nat} {mv : Bool} {r : Rv} (S : SR L H σ A s τ) (e : rd np s i mv = .ok r s') :
    ∃ v, σ[i]? = some (some v) ∧ ∃ A' y, SR L H σ A' s' τ ∧ Pst H A H A' (adrO y) ∧ RvOk L H A' r y v := by
  unfold rd at e
  cases h : s.sget i with
  | some m =>
    rw [h] at e
    rw [S.sget, Option.map_eq_some_iff] at h
    obtain ⟨n, h1, h2⟩ := h
    have h1' := joinO_some.mp h1
    refine ⟨n.v, S.val i n h1', ?_⟩
    simp only [rdM] at e
    cases hm : m.isMut with
    | false =>
      rw [hm] at e
      cases e
      have z : n.adr = [] := mut_er (h2 ▸ hm)
      refine ⟨A, some n, S, ?_, h2, rfl, S.hd i n h1'⟩
      have : adrO (some n) = [] := z
      rw [this]
      exact Pst.refl S.nd
    | true =>
      rw [hm] at e
      cases hv : (mv && decide (np ≤ i)) with
      | true =>
        rw [hv] at e
        cases e
        obtain ⟨k1, k2, k3⟩ := S.away h1'
        refine ⟨A.set i none, some n, k1, ⟨fun _ _ h _ => h, fun b hb => .inl ?_, k2⟩, h2, rfl, S.hd i n h1'⟩
        rcases List.mem_append.mp hb with hb | hb
        · exact k3 b hb
        · exact adrS_mem h1' b hb
      | false =>
        rw [hv] at e
        cases e
        refine ⟨A, none, S, Pst.refl S.nd, okP.nil, ?_⟩
        unfold labS plA
        simp only [h1, Option.bind_some, MA.getA, Option.map_some]
  | none =>
    rw [h] at e
    obtain ⟨p, e1, e2⟩ := rs_ok e
    cases e2
    obtain ⟨o, v, e3, e4⟩ := S.rf i p (lkN_mem e1)
    exact ⟨v, e3, A, none, S, Pst.refl S.nd, o, e4⟩

theorem RvOk.v_inv {L : Lnk} {H : Hp} {A : SA} {m : M} {y : Option MA} {v : V} (h : RvOk L H A (.v m) y v) : ∃ n, y = some n ∧ n.er = m ∧ n.v = v ∧ Hd L H n := by
  cases y with
  | none => exact h.elim
  | some n => exact ⟨n, rfl, h⟩
theorem RvOk.p_inv {L : Lnk} {H : Hp} {A : SA} {p : Pth} {y : Option MA} {v : V} (h : RvOk L H A (.p p) y v) : y = none ∧ okP p.2 ∧ labS A p = some v := by
  cases y with
  | none => exact ⟨rfl, h⟩
  | some n => exact h.elim
theorem hold_ok {α β : Type} {L : Lnk} {H1 : Hp} {σ : L2.St} {A A1 : SA} {H : Hp} {s1 s' : St} {τ : List V} {ra : Rv} {ya : Option MA} {x : V} {k : St → Res α} {fin : Rv → α → St → Res β} {r : β}
    (S1 : SR L H1 σ A1 s1 τ) (P1 : Pst H A H1 A1 (adrO ya)) (K1 : RvOk L H1 A1 ra ya x) (e : hold ra s1 k fin = .ok r s') :
    ∃ τ1 s1' b s2, SR L H1 σ A1 s1' τ1 ∧ k s1' = .ok b s2 ∧ ∀ H2 A2 F2, SR L H2 σ A2 s2 τ1 → Pst H1 A1 H2 A2 F2 → ∃ ra' s2', fin ra' b s2' = .ok r s' ∧ SR L H2 σ A2 s2' τ ∧ RvOk L H2 A2 ra' ya x := by
  cases ra with
  | v m =>
    obtain ⟨b, s2, e1, e2⟩ := bd_ok e
    obtain ⟨n, rfl, h1, h2, h3⟩ := K1.v_inv
    refine ⟨τ, s1, b, s2, S1, e1, fun H2 A2 F2 S2 P2 => ⟨.v m, s2, e2, S2, h1, h2, ?_⟩⟩
    exact Hd.over P1 S1 P2 h3 fun b hb => hb
  | p p =>
    obtain ⟨rfl, o, h⟩ := K1.p_inv
    obtain ⟨b, s2, e1, e2⟩ := bd_ok e
    obtain ⟨pt, e3, e4⟩ := rs_ok e2
    refine ⟨x :: τ, s1.push p, b, s2, S1.push o h, e1, fun H2 A2 F2 S2 P2 => ?_⟩
    obtain ⟨S3, o2, h2⟩ := S2.pop (p := pt.1) (t := pt.2) e3
    exact ⟨.p pt.1, _, e4, S3, o2, h2⟩
theorem OpR.or {X : Cx} {f : Value → Value → Sem Value} {r1 r2 : R2} (h1 : OpR X f r1) (h2 : OpR X f r2) : OpR X f (fun x y H Q => r1 x y H Q ∨ r2 x y H Q) :=
  fun pins s σ H x y v u Q I a b w => by
    rcases w with w | w
    · exact h1 pins s σ H x y v u Q I a b w
    · exact h2 pins s σ H x y v u Q I a b w
theorem OpR.mono {X : Cx} {f : Value → Value → Sem Value} {r1 r2 : R2} (h1 : OpR X f r1) (k : ∀ x y H Q, r2 x y H Q → r1 x y H Q) : OpR X f r2 :=
  fun pins s σ H x y v u Q I a b w => h1 pins s σ H x y v u Q I a b (k x y H Q w)
theorem OpR.locks {X : Cx} {f : Value → Value → Sem Value} {r : R2} (h : OpR X f r) : OpR X f (fun x y H Q => ∃ Y : List Addr, (∀ b ∈ Y, ∃ u, H b = some u ∧ Mut (some u)) ∧ Y.Nodup ∧ ∀ H2, Lockd Y H H2 → r x y H2 Q) :=
  fun pins s σ H x y v u Q I a b ⟨Y, hm, nd, w⟩ => by
    obtain ⟨H2, I2, k⟩ := Inv.locks I hm nd
    exact h pins s σ H2 x y v u Q I2 a b (w H2 k)
end Vm
end
section
namespace Vm
open PySem L2

structure XO (L : Lnk) (X : Cx) (k : Nat) : Prop where
  hK : X.K = L.K
  un : X.A.units + 16 * k + 200 < cLine
  hw : L.hw = NestedKey.hash X.w

theorem Lockd.nil_eq {H1 H2 : Hp} (h : Lockd [] H1 H2) : H2 = H1 := funext fun b => h.1 b (by simp)
theorem Pst.write {H H1 H2 : Hp} {A A1 A2 : SA} {F G l r X X' : List Addr} (P : Pst H A H1 A1 F) (e1 : adrS A1 = l ++ X ++ r) (e2 : adrS A2 = l ++ X' ++ r)
    (fr : ∀ b, b ∉ X → (∃ o, H1 b = some o) → H2 b = H1 b) (new : ∀ b ∈ X' ++ G, b ∈ X ++ F ∨ H1 b = none) (nd : (l ++ X' ++ r ++ G).Nodup) : Pst H A H2 A2 G := by
  have back : ∀ b, b ∈ adrS A1 ++ F ∨ H1 b = none → b ∈ adrS A ∨ H b = none := fun b h => by
    rcases h with h | h
    · exact P.new b h
    · cases e : H b with
      | none => exact .inr rfl
      | some o =>
        by_cases q : b ∈ adrS A
        · exact .inl q
        · rw [P.ext b o e q] at h; cases h
  refine ⟨fun b o e q => ?_, fun b hb => back b ?_, by rw [e2]; exact nd⟩
  · have h1 := P.ext b o e q
    rw [fr b (fun hx => ?_) ⟨o, h1⟩]; exact h1
    rcases P.new b (by rw [e1]; simp [hx]) with z | z
    · exact q z
    · rw [e] at z; cases z
  · rw [e2] at hb
    simp only [List.mem_append] at hb
    rw [e1]
    simp only [List.mem_append]
    rcases hb with ((hb | hb) | hb) | hb
    · exact .inl (.inl (.inl (.inl hb)))
    · rcases new b (by simp [hb]) with z | z
      · rcases List.mem_append.mp z with z | z
        · exact .inl (.inl (.inl (.inr z)))
        · exact .inl (.inr z)
      · exact .inr z
    · exact .inl (.inl (.inr hb))
    · rcases new b (by simp [hb]) with z | z
      · rcases List.mem_append.mp z with z | z
        · exact .inl (.inl (.inl (.inr z)))
        · exact .inl (.inr z)
      · exact .inr z
theorem plA_nd {L : Lnk} {H : Hp} {σ : L2.St} {A : SA} {s : St} {τ : List V} {p : Pth} {x : MA} (S : SR L H σ A s τ) (h : plA A p = some x) : x.adr.Nodup := by
  unfold plA at h
  simp only [Option.bind_eq_some_iff] at h
  obtain ⟨m, h1, h2⟩ := h
  have n := adrS_nd (joinO_some.mp h1) S.nd
  obtain ⟨l, r, a1, _⟩ := adr_upd p.2 m x h2
  rw [a1] at n
  exact (List.nodup_append.mp (List.nodup_append.mp n).1).2.1
theorem labS_pl {A : SA} {p : Pth} {v : V} (h : labS A p = some v) : ∃ x, plA A p = some x ∧ x.v = v := by
  unfold labS at h
  exact Option.map_eq_some_iff.mp h
theorem sto_ok {L : Lnk} {H H1 : Hp} {σ : L2.St} {A A1 : SA} {s1 s' : St} {τ : List V} {r : Rv} {y : Option MA} {v : V} {m : M} {G : List Addr}
    (S1 : SR L H1 σ A1 s1 τ) (P1 : Pst H A H1 A1 (G ++ adrO y)) (tG : ∀ b ∈ G, ∃ u, H1 b = some u) (K1 : RvOk L H1 A1 r y v) (e : sto r s1 = .ok m s') :
    ∃ Y, (∀ b ∈ Y, ∃ u, H1 b = some u ∧ Mut (some u)) ∧ Y.Nodup ∧ (∀ b ∈ Y, b ∈ adrS A1) ∧ ∀ H2, Lockd Y H1 H2 → ∃ A2 z, SR L H2 σ A2 s' τ ∧ Pst H A H2 A2 (G ++ z.adr) ∧ MaOk L H2 A2 m z v := by
  cases r with
  | v m' =>
    cases e
    obtain ⟨n, rfl, h1, h2, h3⟩ := K1.v_inv
    refine ⟨[], fun b hb => by simp at hb, List.nodup_nil, fun b hb => by simp at hb, fun H2 k => ?_⟩
    cases Lockd.nil_eq k
    exact ⟨A1, n, S1, P1, h1, h2, h3⟩
  | p p =>
    obtain ⟨rfl, o, h⟩ := K1.p_inv
    obtain ⟨dx, e1, e2⟩ := rs_ok e
    cases e2
    obtain ⟨x, hx, rfl⟩ := labS_pl h
    rw [S1.get, hx] at e1
    simp only [Option.map_some, Option.bind_some] at e1
    have hm := fun b hb => S1.mut b (SR.pl_adr hx b hb)
    refine ⟨x.adr, hm, plA_nd S1 hx, SR.pl_adr hx, fun H2 k => ?_⟩
    have st := k.stb hm
    have rp := Hd.frozen k st (S1.pl_hd hx) (fun b hb => hb) e1
    obtain ⟨S2, l, r, a1, a2⟩ := S1.write (H' := H2) (x' := .im (.d dx) x.v) (kf := atOrUnder p) o hx rfl st rp (fun b hb hn => k.1 b hn) List.nodup_nil (fun b hb => by simp [MA.adr] at hb)
      (fun r h1 h2 h3 => by
        exfalso
        unfold atOrUnder at h3
        rw [h2, h1] at h3
        simp at h3)
    refine ⟨_, .im (.d dx) x.v, S2, ?_, rfl, rfl, rp⟩
    simp only [MA.adr, List.append_nil] at a2 ⊢
    have nd := P1.nd
    simp only [adrO, List.append_nil] at P1 nd
    refine P1.write (X' := []) a1 (by simpa using a2) (fun b hb _ => k.1 b hb) (fun b hb => .inl (by simp at hb; simp [hb])) ?_
    rw [a1] at nd
    have := List.nodup_append.mp nd
    have t2 := List.nodup_append.mp this.1
    have t3 := List.nodup_append.mp t2.1
    simp only [List.append_nil]
    refine List.nodup_append.mpr ⟨List.nodup_append.mpr ⟨t3.1, t2.2.1, fun a ha b hb q => t2.2.2 a (by simp [ha]) b hb q⟩, this.2.1, fun a ha b hb q => this.2.2 a ?_ b hb q⟩
    simp only [List.mem_append] at ha ⊢
    rcases ha with ha | ha
    · exact .inl (.inl ha)
    · exact .inr ha
theorem frz_ma {L : Lnk} {H : Hp} {z : MA} {d : D} (h : Hd L H z) (e : frz z.er = some d) (hz : z.adr = []) : Rp L.K H z.v d := by
  cases z with
  | im m v =>
    cases m with
    | d y => simp only [MA.er, frz, Option.some.injEq] at e; subst e; exact h
    | lst _ => exact h.elim
    | dct _ => exact h.elim
    | _ => simp [MA.er, frz] at e
  | lst a ms => simp [MA.adr] at hz
  | dct a ms => simp [MA.adr] at hz
  | obj a c ms => simp [MA.adr] at hz
  | dnn a ms => simp [MA.adr] at hz
theorem ma_nd {H : Hp} {A A' : SA} {H' : Hp} {G : List Addr} {z : List Addr} (P : Pst H A H' A' (G ++ z)) : z.Nodup := (List.nodup_append.mp (List.nodup_append.mp P.nd).2.1).2.1
theorem stoD_ok {L : Lnk} {H H1 : Hp} {σ : L2.St} {A A1 : SA} {s1 s' : St} {τ : List V} {r : Rv} {y : Option MA} {v : V} {d : D} {G : List Addr}
    (S1 : SR L H1 σ A1 s1 τ) (P1 : Pst H A H1 A1 (G ++ adrO y)) (tG : ∀ b ∈ G, ∃ u, H1 b = some u) (K1 : RvOk L H1 A1 r y v) (e : stoD r s1 = .ok d s') :
    ∃ Y, (∀ b ∈ Y, ∃ u, H1 b = some u ∧ Mut (some u)) ∧ Y.Nodup ∧ (∀ b ∈ Y, b ∉ G) ∧ ∀ H2, Lockd Y H1 H2 → ∃ A2, SR L H2 σ A2 s' τ ∧ Pst H A H2 A2 G ∧ Rp L.K H2 v d := by
  obtain ⟨m, s2, e1, e2⟩ := bd_ok e
  obtain ⟨x, e3, e4⟩ := rs_ok e2
  cases e4
  cases r with
  | v m' =>
    cases e1
    obtain ⟨n, rfl, h1, h2, h3⟩ := K1.v_inv
    have hm := Hd.mut h3
    have nn : ∀ b ∈ n.adr, b ∉ adrS A1 := fun b hb h => nd_left P1.nd h (by simp [adrO, hb])
    have nG : ∀ b ∈ n.adr, b ∉ G := fun b hb h => by
      have := (List.nodup_append.mp P1.nd).2.1
      exact nd_left this h (by simpa [adrO] using hb)
    refine ⟨n.adr, hm, ma_nd P1, nG, fun H2 k => ?_⟩
    have st := k.stb hm
    refine ⟨A1, S1.heap st fun b hb => k.1 b fun h => nn b h hb, ?_, ?_⟩
    · refine ⟨fun b o e q => ?_, fun b hb => P1.new b ?_, ?_⟩
      · have w := P1.ext b o e q
        rw [k.1 b fun h => ?_]; exact w
        rcases P1.new b (by simp [adrO, h]) with z | z
        · exact q z
        · rw [e] at z; cases z
      · rcases List.mem_append.mp hb with hb | hb
        · simp [hb]
        · simp [hb]
      · have := P1.nd
        rw [← List.append_assoc] at this
        exact (List.nodup_append.mp this).1
    · have := Hd.frozen k st h3 (fun b hb => hb) (h1 ▸ e3)
      rw [h2] at this; exact this
  | p p =>
    obtain ⟨Y, hm, nd, hA, q⟩ := sto_ok S1 P1 tG K1 e1
    obtain ⟨dx, _, e5⟩ := rs_ok e1
    cases e5
    simp only [frz, Option.some.injEq] at e3
    subst e3
    refine ⟨Y, hm, nd, fun b hb h => nd_left P1.nd (hA b hb) (by simp [h]), fun H2 k => ?_⟩
    obtain ⟨A2, z, S2, P2, h1, h2, h3⟩ := q H2 k
    have hz : z.adr = [] := mut_er (by rw [h1]; rfl)
    rw [hz, List.append_nil] at P2
    exact ⟨A2, S2, P2, h2 ▸ frz_ma h3 (by rw [h1]; rfl) hz⟩

theorem upd_stb {H : Hp} {p : Addr} (hp : H p = none) (o : HO) : Stb H (upd H p o) := by
  constructor
  · intro a xs h
    rw [upd_ne (fun e => by subst e; rw [hp] at h; cases h)]; exact h
  · intro a xs w h
    rw [upd_ne (fun e => by subst e; rw [hp] at h; cases h)]; exact h
theorem SR.new {L : Lnk} {H : Hp} {σ : L2.St} {A : SA} {s : St} {τ : List V} (S : SR L H σ A s τ) {p : Addr} (hp : H p = none) (o : HO) : SR L (upd H p o) σ A s τ :=
  S.heap (upd_stb hp o) fun b hb => upd_ne fun e => by
    subst e
    obtain ⟨u, e, _⟩ := S.mut b hb
    rw [hp] at e; cases e
theorem Pst.newO {L : Lnk} {H H1 : Hp} {σ : L2.St} {A A1 : SA} {s1 : St} {τ : List V} {F : List Addr} (P : Pst H A H1 A1 F) (S : SR L H1 σ A1 s1 τ) (tF : ∀ b ∈ F, ∃ u, H1 b = some u) {p : Addr} (hp : H1 p = none) (o : HO) : Pst H A (upd H1 p o) A1 (p :: F) := by
  have pA : p ∉ adrS A1 := fun h => by
    obtain ⟨u, e, _⟩ := S.mut p h
    rw [hp] at e; cases e
  have pF : p ∉ F := fun h => by
    obtain ⟨u, e⟩ := tF p h
    rw [hp] at e; cases e
  refine ⟨fun b u e q => ?_, fun b hb => ?_, ?_⟩
  · rw [upd_ne fun z => ?_]
    · exact P.ext b u e q
    · subst z
      have := P.ext b u e q
      rw [hp] at this; cases this
  · simp only [List.mem_append, List.mem_cons] at hb
    rcases hb with hb | rfl | hb
    · exact P.new b (by simp [hb])
    · cases e : H b with
      | none => exact .inr rfl
      | some o =>
        by_cases q : b ∈ adrS A
        · exact .inl q
        · rw [P.ext b o e q] at hp; cases hp
    · exact P.new b (by simp [hb])
  · have n := List.nodup_append.mp P.nd
    refine List.nodup_append.mpr ⟨n.1, List.nodup_cons.mpr ⟨pF, n.2.1⟩, fun a ha b hb q => ?_⟩
    subst q
    rcases List.mem_cons.mp hb with rfl | hb
    · exact pA ha
    · exact n.2.2 a ha a hb rfl
theorem upd_le {H : Hp} {p : Addr} (hp : H p = none) (o : HO) {b : Addr} (h : ∃ u, H b = some u) : upd H p o b = H b := upd_ne fun e => by
  subst e
  obtain ⟨u, e⟩ := h
  rw [hp] at e; cases e
theorem Hd.newL {L : Lnk} {H : Hp} {p : Addr} (hp : H p = none) {ms : List MA} (h : HdL L H ms) : Hd L (upd H p (.lst (vsOf ms))) (.lst p ms) :=
  ⟨upd_same, HdL.mono (upd_stb hp _) h fun b hb => upd_le hp _ (by obtain ⟨u, e, _⟩ := HdL.mut h b hb; exact ⟨u, e⟩)⟩
theorem SqT.newT {K : PySem.W.Frag} {H : Hp} {p : Addr} {xs : List V} : SqT K (upd H p (.tup xs)) p xs := .inl (.inl upd_same)
theorem SqB.newT {K : PySem.W.Frag} {H : Hp} {p : Addr} {xs : List V} {o : Obj} (hd : o.dict = none) : SqB K (upd H p (.frz o (.tup xs))) p xs := .inl ⟨o, upd_same, hd⟩

theorem Hd.d_inv {L : Lnk} {H : Hp} {n : MA} {x : D} (h : Hd L H n) (e : n.er = .d x) : Rp L.K H n.v x := by
  cases n with
  | im m v => simp only [MA.er] at e; subst e; exact h
  | lst a ms => simp [MA.er] at e
  | dct a ms => simp [MA.er] at e
  | obj a c ms => simp [MA.er] at e
  | dnn a ms => simp [MA.er] at e
theorem RvOk.d_inv {L : Lnk} {H : Hp} {A : SA} {x : D} {y : Option MA} {v : V} (h : RvOk L H A (.v (.d x)) y v) : Rp L.K H v x := by
  obtain ⟨n, rfl, h1, h2, h3⟩ := h.v_inv
  exact h2 ▸ h3.d_inv h1
theorem dat_some {r : Rv} {x : D} (h : r.dat = some x) : r = .v (.d x) := by
  unfold Rv.dat at h
  split at h
  · cases h; rfl
  · cases h
theorem mdat_some {r : M} {x : D} (h : r.dat = some x) : r = .d x := by
  unfold M.dat at h
  split at h
  · cases h; rfl
  · cases h
theorem asInt_some {r : D} {x : Int} (h : asInt r = some x) : r = .int x := by
  unfold asInt at h
  split at h
  · cases h; rfl
  · cases h
theorem asStr_some {r : D} {x : Str} (h : asStr r = some x) : r = .str x := by
  unfold asStr at h
  split at h
  · cases h; rfl
  · cases h
section
variable {K : PySem.W.Frag} {H : Hp} {v : V}
theorem Rp.int_inv {i : Int} (h : Rp K H v (.int i)) : v = .int i := by cases h; rfl
theorem Rp.bl_inv {i : Bool} (h : Rp K H v (.bool i)) : v = .bl i := by cases h; rfl
theorem Rp.non_inv (h : Rp K H v .none) : v = .non := by cases h; rfl
theorem Rp.str_inv {i : Str} (h : Rp K H v (.str i)) : v = .str i ∧ sOk i := by cases h; exact ⟨rfl, by assumption⟩
theorem Rp.tup_invB {ds : List D} (h : Rp K H v (.tuple ds)) : ∃ a xs, v = .ref a ∧ SqB K H a xs ∧ RpL K H xs ds := by cases h; exact ⟨_, _, rfl, by assumption, by assumption⟩
theorem Rp.tup_inv {ds : List D} (h : Rp K H v (.tuple ds)) : ∃ a xs, v = .ref a ∧ SqT K H a xs ∧ RpL K H xs ds := by
  obtain ⟨a, xs, e, h1, h2⟩ := h.tup_invB
  exact ⟨a, xs, e, h1.sqt, h2⟩
theorem Rp.lst_inv {ds : List D} (h : Rp K H v (.list ds)) : ∃ a xs, v = .ref a ∧ SqF K H a xs ∧ RpL K H xs ds := by cases h; exact ⟨_, _, rfl, by assumption, by assumption⟩
theorem Rp.dct_inv {ds : List (D × D)} (h : Rp K H v (.dict ds)) : ∃ a o kvs, v = .ref a ∧ H a = some (.frz o (.dK kvs)) ∧ RpK K H kvs ds := by cases h; exact ⟨_, _, _, rfl, by assumption, by assumption⟩
end
def Fin (L : Lnk) (σ : L2.St) (H : Hp) (A : SA) (τ : List V) (r : Rv) (s' : St) (Q : VK) : Prop := ∀ v H' A' y, SR L H' σ A' s' τ → Pst H A H' A' (adrO y) → RvOk L H' A' r y v → Q v H'
section
variable {L : Lnk} {σ : L2.St} {H H2 : Hp} {A A2 : SA} {τ : List V} {s : St} {F : List Addr} {Q : VK}
theorem Fin.im {m : M} {v : V} (q : Fin L σ H A τ (.v m) s Q) (S : SR L H2 σ A2 s τ) (P : Pst H A H2 A2 F) (h : ImOk L H2 m v) : Q v H2 :=
  q v H2 A2 (some (.im m v)) S (P.less (fun b hb => by simp [adrO, MA.adr] at hb) (by simp [adrO, MA.adr])) ⟨rfl, rfl, h⟩
theorem Fin.tup {ds : List D} {xs : List V} {p : Addr} (q : Fin L σ H A τ (.v (.d (.tuple ds))) s Q) (S : SR L H2 σ A2 s τ) (P : Pst H A H2 A2 F) (tF : ∀ b ∈ F, ∃ u, H2 b = some u) (h : RpL L.K H2 xs ds) {o : Obj} (hp : H2 p = none) (hd : o.dict = none) : Q (.ref p) (upd H2 p (.frz o (.tup xs))) :=
  q (.ref p) _ A2 (some (.im (.d (.tuple ds)) (.ref p))) (S.new hp _) ((P.newO S tF hp (.frz o (.tup xs))).less (fun b hb => by simp [adrO, MA.adr] at hb) (by simp [adrO, MA.adr])) ⟨rfl, rfl, .tup (SqB.newT hd) (h.mono (upd_stb hp _))⟩
theorem Fin.lst {ms : List MA} {p : Addr} (q : Fin L σ H A τ (.v (.lst (ers ms))) s Q) (S : SR L H2 σ A2 s τ) (P : Pst H A H2 A2 F) (tF : ∀ b ∈ F, ∃ u, H2 b = some u) (h : HdL L H2 ms) (sub : ∀ b ∈ adrs ms, b ∈ F) (nd : (adrs ms).Nodup) (hp : H2 p = none) : Q (.ref p) (upd H2 p (.lst (vsOf ms))) := by
  have P3 := P.newO S tF hp (.lst (vsOf ms))
  refine q (.ref p) _ A2 (some (.lst p ms)) (S.new hp _) (P3.less (fun b hb => ?_) ?_) ⟨rfl, rfl, Hd.newL hp h⟩
  · simp only [adrO, MA.adr, List.mem_cons] at hb ⊢
    rcases hb with hb | hb
    · exact .inl hb
    · exact .inr (sub b hb)
  · simp only [adrO, MA.adr]
    refine List.nodup_cons.mpr ⟨fun h => ?_, nd⟩
    obtain ⟨u, e⟩ := tF p (sub p h)
    rw [hp] at e; cases e
end
def imD (ds : List D) (xs : List V) : List MA := (ds.zip xs).map fun dv => .im (.d dv.1) dv.2
theorem imD_ok {L : Lnk} {H : Hp} : ∀ {xs : List V} {ds : List D}, RpL L.K H xs ds → vsOf (imD ds xs) = xs ∧ ers (imD ds xs) = ds.map .d ∧ adrs (imD ds xs) = [] ∧ HdL L H (imD ds xs)
  | _, _, .nil => ⟨rfl, rfl, rfl, trivial⟩
  | _, _, .cons h r => by
    obtain ⟨h1, h2, h3, h4⟩ := imD_ok (L := L) r
    refine ⟨?_, ?_, ?_, h, h4⟩
    · simp only [imD, vsOf, List.zip_cons_cons, List.map_cons, MA.v, List.cons.injEq, true_and]; exact h1
    · simp only [imD, List.zip_cons_cons, List.map_cons, ers, MA.er, List.cons.injEq, true_and]; exact h2
    · simp only [imD, List.zip_cons_cons, List.map_cons, adrs, MA.adr, List.nil_append]; exact h3
end Vm
end
section
namespace Vm
open PySem L2

theorem adrs_get {ms : List MA} {i : Nat} {m : MA} (h : ms[i]? = some m) : ∀ b ∈ m.adr, b ∈ adrs ms := adrs_mem (List.mem_of_getElem? h)
theorem adrs_apart : ∀ {ms : List MA} {i j : Nat} {m n : MA}, (adrs ms).Nodup → ms[i]? = some m → ms[j]? = some n → i ≠ j → ∀ b ∈ m.adr, b ∉ n.adr
  | [], _, _, _, _, _, e, _, _ => by simp at e
  | x :: ms, 0, 0, _, _, _, _, _, h => absurd rfl h
  | x :: ms, 0, j + 1, m, n, nd, e, e', _ => fun b hb hn => by
    simp at e; subst e
    exact nd_left nd hb (adrs_get (i := j) (by simpa using e') b hn)
  | x :: ms, i + 1, 0, m, n, nd, e, e', _ => fun b hb hn => by
    simp at e'; subst e'
    exact nd_left nd hn (adrs_get (i := i) (by simpa using e) b hb)
  | x :: ms, i + 1, j + 1, m, n, nd, e, e', h => adrs_apart (i := i) (j := j) (List.nodup_append.mp nd).2.1 (by simpa using e) (by simpa using e') (by omega)
theorem adrk_apart {j k : D} (hj : isKey j = true) (hk : isKey k = true) (hn : PyData.eqv j k = false) : ∀ {ms : List (D × MA)} {m n : MA}, (∀ p ∈ ms, isKey p.1 = true) → (adrk ms).Nodup → lkD j ms = some m → lkD k ms = some n → ∀ b ∈ m.adr, b ∉ n.adr
  | [], _, _, _, _, e, _ => by simp [lkD] at e
  | (i, x) :: ms, m, n, hy, nd, e, e' => fun b hb hq => by
    have hi : isKey i = true := hy (i, x) (by simp)
    simp only [lkD] at e e'
    by_cases q1 : PyData.eqv i j = true
    · have := (eqv_key i j hi hj).mp q1
      subst this
      rw [if_pos q1] at e
      cases e
      rw [if_neg (by rw [hn]; simp)] at e'
      exact nd_left nd hb (adrk_lk e' b hq)
    · rw [if_neg q1] at e
      by_cases q2 : PyData.eqv i k = true
      · rw [if_pos q2] at e'
        cases e'
        exact nd_left nd hq (adrk_lk e b hb)
      · rw [if_neg q2] at e'
        exact adrk_apart hj hk hn (fun p hp => hy p (by simp [hp])) (List.nodup_append.mp nd).2.1 e e' b hb hq
theorem adrf_apart {j k : Nat} (hn : j ≠ k) : ∀ {ms : List (Nat × MA)} {m n : MA}, (adrf ms).Nodup → lkN j ms = some m → lkN k ms = some n → ∀ b ∈ m.adr, b ∉ n.adr
  | [], _, _, _, e, _ => by simp [lkN] at e
  | (i, x) :: ms, m, n, nd, e, e' => fun b hb hq => by
    simp only [lkN] at e e'
    by_cases q1 : i = j
    · subst q1
      rw [if_pos rfl] at e
      cases e
      rw [if_neg hn] at e'
      exact nd_left nd hb (adrf_lk e' b hq)
    · rw [if_neg q1] at e
      by_cases q2 : i = k
      · rw [if_pos q2] at e'
        cases e'
        exact nd_left nd hq (adrf_lk e b hb)
      · rw [if_neg q2] at e'
        exact adrf_apart hn (List.nodup_append.mp nd).2.1 e e' b hb hq
theorem getA_nd {p : List Acc} {m x : MA} (nd : m.adr.Nodup) (h : m.getA p = some x) : x.adr.Nodup := by
  obtain ⟨l, r, e, _⟩ := adr_upd p m x h
  rw [e] at nd
  exact (List.nodup_append.mp (List.nodup_append.mp nd).1).2.1
theorem isKey_ix {j k : D} (hj : isKey j = true) (hk : isKey k = true) (e : PyData.eqv j k = true) : j = k := (eqv_key j k hj hk).mp e
theorem apart_getA {L : Lnk} {H : Hp} : ∀ (p q : List Acc) (m x z : MA), Hd L H m → m.adr.Nodup → okP p → okP q → m.getA p = some x → m.getA q = some z → isPre p q = false → isPre q p = false → ∀ b ∈ x.adr, b ∉ z.adr
  | [], q, m, x, z, _, _, _, _, _, _, e, _ => by simp [isPre] at e
  | a :: p, [], m, x, z, _, _, _, _, _, _, _, e => by simp [isPre] at e
  | .ix n :: p, .ix k :: q, .lst a ms, x, z, hd, nd, op, oq, h, h', e, e' => by
    simp only [MA.getA, Option.bind_eq_some_iff] at h h'
    obtain ⟨y, h1, h2⟩ := h
    obtain ⟨w, h3, h4⟩ := h'
    by_cases t : n = k
    · subst t
      rw [h1] at h3; cases h3
      simp only [isPre, accEq, beq_self_eq_true, Bool.true_and] at e e'
      have nd2 : y.adr.Nodup := getA_nd (p := [.ix n]) nd (by simp [MA.getA, h1])
      exact apart_getA p q y x z (HdL.get hd.2 h1) nd2 op.cons.2 oq.cons.2 h2 h4 e e'
    · intro b hb hq
      exact adrs_apart (List.nodup_cons.mp nd).2 h1 h3 t b (getA_adr p y x h2 b hb) (getA_adr q w z h4 b hq)
  | .ky n :: p, .ky k :: q, .dct a ms, x, z, hd, nd, op, oq, h, h', e, e' => by
    simp only [MA.getA, Option.bind_eq_some_iff] at h h'
    obtain ⟨y, h1, h2⟩ := h
    obtain ⟨w, h3, h4⟩ := h'
    obtain ⟨l, hl, _⟩ := hd.1
    have kk := kvOf_keys hl
    have hj : isKey n = true := op.cons.1
    have hk : isKey k = true := oq.cons.1
    by_cases t : PyData.eqv n k = true
    · have := isKey_ix hj hk t
      subst this
      rw [h1] at h3; cases h3
      simp only [isPre, accEq, t, Bool.true_and] at e e'
      have nd2 : y.adr.Nodup := getA_nd (p := [.ky n]) nd (by simp [MA.getA, h1])
      exact apart_getA p q y x z (HdK.lk hd.2 h1) nd2 op.cons.2 oq.cons.2 h2 h4 e e'
    · intro b hb hq
      exact adrk_apart hj hk (by simpa using t) kk (List.nodup_cons.mp nd).2 h1 h3 b (getA_adr p y x h2 b hb) (getA_adr q w z h4 b hq)
  | .fd n :: p, .fd k :: q, .obj a c ms, x, z, hd, nd, op, oq, h, h', e, e' => by
    simp only [MA.getA, Option.bind_eq_some_iff] at h h'
    obtain ⟨y, h1, h2⟩ := h
    obtain ⟨w, h3, h4⟩ := h'
    by_cases t : n = k
    · subst t
      rw [h1] at h3; cases h3
      simp only [isPre, accEq, beq_self_eq_true, Bool.true_and] at e e'
      have nd2 : y.adr.Nodup := getA_nd (p := [.fd n]) nd (by simp [MA.getA, h1])
      exact apart_getA p q y x z (HdF.lk hd.2 h1) nd2 op.cons.2 oq.cons.2 h2 h4 e e'
    · intro b hb hq
      exact adrf_apart t (List.nodup_cons.mp nd).2 h1 h3 b (getA_adr p y x h2 b hb) (getA_adr q w z h4 b hq)
  | .ix _ :: _, q, .im _ _, _, _, _, _, _, _, h, _, _, _ => by simp [MA.getA] at h
  | .ky _ :: _, q, .im _ _, _, _, _, _, _, _, h, _, _, _ => by simp [MA.getA] at h
  | .fd _ :: _, q, .im _ _, _, _, _, _, _, _, h, _, _, _ => by simp [MA.getA] at h
  | .ky _ :: _, q, .lst _ _, _, _, _, _, _, _, h, _, _, _ => by simp [MA.getA] at h
  | .fd _ :: _, q, .lst _ _, _, _, _, _, _, _, h, _, _, _ => by simp [MA.getA] at h
  | .ix _ :: _, q, .dct _ _, _, _, _, _, _, _, h, _, _, _ => by simp [MA.getA] at h
  | .fd _ :: _, q, .dct _ _, _, _, _, _, _, _, h, _, _, _ => by simp [MA.getA] at h
  | .ix _ :: _, q, .obj _ _ _, _, _, _, _, _, _, h, _, _, _ => by simp [MA.getA] at h
  | .ky _ :: _, q, .obj _ _ _, _, _, _, _, _, _, h, _, _, _ => by simp [MA.getA] at h
  | .ix _ :: _, .ky _ :: _, .lst _ _, _, _, _, _, _, _, _, h, _, _ => by simp [MA.getA] at h
  | .ix _ :: _, .fd _ :: _, .lst _ _, _, _, _, _, _, _, _, h, _, _ => by simp [MA.getA] at h
  | .ky _ :: _, .ix _ :: _, .dct _ _, _, _, _, _, _, _, _, h, _, _ => by simp [MA.getA] at h
  | .ky _ :: _, .fd _ :: _, .dct _ _, _, _, _, _, _, _, _, h, _, _ => by simp [MA.getA] at h
  | .fd _ :: _, .ix _ :: _, .obj _ _ _, _, _, _, _, _, _, _, h, _, _ => by simp [MA.getA] at h
  | .fd _ :: _, .ky _ :: _, .obj _ _ _, _, _, _, _, _, _, _, h, _, _ => by simp [MA.getA] at h
theorem SR.apart {L : Lnk} {H : Hp} {σ : L2.St} {A : SA} {s : St} {τ : List V} {p q : Pth} {x z : MA} (S : SR L H σ A s τ) (op : okP p.2) (oq : okP q.2) (hp : plA A p = some x) (hq : plA A q = some z)
    (n1 : atOrUnder p q = false) (n2 : atOrUnder q p = false) : ∀ b ∈ x.adr, b ∉ z.adr := by
  unfold plA at hp hq
  simp only [Option.bind_eq_some_iff] at hp hq
  obtain ⟨m, h1, h2⟩ := hp
  obtain ⟨n, h3, h4⟩ := hq
  have h1' := joinO_some.mp h1
  have h3' := joinO_some.mp h3
  by_cases t : p.1 = q.1
  · rw [t] at h1'
    rw [h1'] at h3'
    cases h3'
    simp only [atOrUnder, t, beq_self_eq_true, Bool.true_and] at n1 n2
    exact apart_getA p.2 q.2 m x z (S.hd _ _ h1') (adrS_nd h1' S.nd) op oq h2 h4 n1 n2
  · intro b hb hz
    exact adrS_apart h1' h3' t S.nd b (getA_adr p.2 m x h2 b hb) (getA_adr q.2 n z h4 b hz)
theorem same_getA {L : Lnk} {H : Hp} : ∀ (p q : List Acc) (m : MA), Hd L H m → okP p → okP q → isPre p q = true → isPre q p = true → m.getA p = m.getA q
  | [], [], _, _, _, _, _, _ => rfl
  | [], _ :: _, _, _, _, _, _, e => by simp [isPre] at e
  | _ :: _, [], _, _, _, _, e, _ => by simp [isPre] at e
  | .ix n :: p, .ix k :: q, m, hd, op, oq, e, e' => by
    simp only [isPre, accEq, Bool.and_eq_true, beq_iff_eq] at e e'
    obtain ⟨rfl, e⟩ := e
    cases m with
    | lst a ms =>
      simp only [MA.getA]
      cases h : ms[n]? with
      | none => rfl
      | some y => exact same_getA p q y (HdL.get hd.2 h) op.cons.2 oq.cons.2 e e'.2
    | _ => simp [MA.getA]
  | .ky n :: p, .ky k :: q, m, hd, op, oq, e, e' => by
    simp only [isPre, accEq, Bool.and_eq_true] at e e'
    have := isKey_ix op.cons.1 oq.cons.1 e.1
    subst this
    cases m with
    | dct a ms =>
      simp only [MA.getA]
      cases h : lkD n ms with
      | none => rfl
      | some y => exact same_getA p q y (HdK.lk hd.2 h) op.cons.2 oq.cons.2 e.2 e'.2
    | _ => simp [MA.getA]
  | .fd n :: p, .fd k :: q, m, hd, op, oq, e, e' => by
    simp only [isPre, accEq, Bool.and_eq_true, beq_iff_eq] at e e'
    obtain ⟨rfl, e⟩ := e
    cases m with
    | obj a c ms =>
      simp only [MA.getA]
      cases h : lkN n ms with
      | none => rfl
      | some y => exact same_getA p q y (HdF.lk hd.2 h) op.cons.2 oq.cons.2 e e'.2
    | _ => simp [MA.getA]
  | .ix _ :: _, .ky _ :: _, _, _, _, _, e, _ => by simp [isPre, accEq] at e
  | .ix _ :: _, .fd _ :: _, _, _, _, _, e, _ => by simp [isPre, accEq] at e
  | .ky _ :: _, .ix _ :: _, _, _, _, _, e, _ => by simp [isPre, accEq] at e
  | .ky _ :: _, .fd _ :: _, _, _, _, _, e, _ => by simp [isPre, accEq] at e
  | .fd _ :: _, .ix _ :: _, _, _, _, _, e, _ => by simp [isPre, accEq] at e
  | .fd _ :: _, .ky _ :: _, _, _, _, _, e, _ => by simp [isPre, accEq] at e
theorem SR.same {L : Lnk} {H : Hp} {σ : L2.St} {A : SA} {s : St} {τ : List V} {p q : Pth} (S : SR L H σ A s τ) (op : okP p.2) (oq : okP q.2) (n1 : atOrUnder p q = true) (n2 : atOrUnder q p = true) : plA A p = plA A q := by
  simp only [atOrUnder, Bool.and_eq_true, beq_iff_eq] at n1 n2
  unfold plA
  rw [n1.1]
  cases h : joinO A[q.1]? with
  | none => rfl
  | some m => exact same_getA p.2 q.2 m (S.hd _ _ (joinO_some.mp h)) op oq n1.2 n2.2
end Vm
end
section
namespace Vm
open PySem L2

theorem putA_eq {A : SA} {p : Pth} {x' m : MA} (h : joinO A[p.1]? = some m) : putA A p x' = A.set p.1 (some (m.updA p.2 fun _ => x')) := by unfold putA; rw [h]
theorem lab_putA {L : Lnk} {H : Hp} {σ : L2.St} {A : SA} {s : St} {τ : List V} (S : SR L H σ A s τ) {p q : Pth} {x x' : MA} (hv : x'.v = x.v) (op : okP p.2) (oq : okP q.2) (hp : plA A p = some x) (n : atOrUnder p q = false) :
    labS (putA A p x') q = labS A q := by
  unfold plA at hp
  simp only [Option.bind_eq_some_iff] at hp
  obtain ⟨m, h1, h2⟩ := hp
  have h1' := joinO_some.mp h1
  have hl : p.1 < A.length := (List.getElem?_eq_some_iff.mp h1').1
  rw [putA_eq h1]
  unfold labS plA
  by_cases z : q.1 = p.1
  · simp only [atOrUnder, z, beq_self_eq_true, Bool.true_and] at n
    rw [z, List.getElem?_set_self hl, h1]
    simp only [joinO, Option.bind_some]
    exact (get_upd hv p.2 q.2 m (S.hd _ _ h1') op oq h2).1 n
  · rw [List.getElem?_set_ne (Ne.symm z)]
theorem pl_putA {L : Lnk} {H : Hp} {σ : L2.St} {A : SA} {s : St} {τ : List V} (S : SR L H σ A s τ) {p : Pth} {x x' : MA} (hv : x'.v = x.v) (op : okP p.2) (hp : plA A p = some x) : plA (putA A p x') p = some x' := by
  unfold plA at hp
  simp only [Option.bind_eq_some_iff] at hp
  obtain ⟨m, h1, h2⟩ := hp
  have h1' := joinO_some.mp h1
  have hl : p.1 < A.length := (List.getElem?_eq_some_iff.mp h1').1
  rw [putA_eq h1]
  unfold plA
  rw [List.getElem?_set_self hl]
  simp only [joinO, Option.bind_some]
  have self : ∀ l : List Acc, okP l → isPre l l = true := by
    intro l
    induction l with
    | nil => intro _; rfl
    | cons a l ih =>
      intro o
      simp only [isPre, Bool.and_eq_true]
      refine ⟨?_, ih o.cons.2⟩
      cases a with
      | ix n => simp [accEq]
      | fd n => simp [accEq]
      | ky k => exact (eqv_key k k o.cons.1 o.cons.1).mpr rfl
  have := ((get_upd hv p.2 p.2 m (S.hd _ _ h1') op op h2).2 (self p.2 op)).1
  rw [this]
  simp [MA.getA]
theorem allD_adrs : ∀ {ns : List MA}, allD (ers ns) = true → adrs ns = []
  | [], _ => rfl
  | n :: ns, h => by
    cases n with
    | im m v =>
      cases m with
      | d x => simp only [ers, MA.er, allD] at h; simp only [adrs, MA.adr, List.nil_append]; exact allD_adrs h
      | _ => simp [ers, MA.er, allD] at h
    | lst a ms => simp [ers, MA.er, allD] at h
    | dct a ms => simp [ers, MA.er, allD] at h
    | obj a c ms => simp [ers, MA.er, allD] at h
    | dnn a ms => simp [ers, MA.er, allD] at h
theorem kidsP_ok {L : Lnk} {H H1 : Hp} {σ : L2.St} {A A1 : SA} {s1 s' : St} {τ : List V} {p : Pth} {v : V} {ms : List M} {G : List Addr}
    (S1 : SR L H1 σ A1 s1 τ) (P1 : Pst H A H1 A1 G) (o : okP p.2) (h : labS A1 p = some v) (e : kids (.p p) s1 = .ok ms s') :
    ∃ a ns, v = .ref a ∧ plA A1 p = some (.lst a ns) ∧ ∃ Y, (∀ b ∈ Y, ∃ u, H1 b = some u ∧ Mut (some u)) ∧ Y.Nodup ∧ (∀ b ∈ Y, b ∈ adrs ns) ∧ ∀ H2, Lockd Y H1 H2 →
      ∃ A2 ys, SR L H2 σ A2 s' τ ∧ Pst H A H2 A2 G ∧ ers ys = ms ∧ adrs ys = [] ∧ HdL L H2 ys ∧ H2 a = some (.lst (vsOf ys)) ∧ plA A2 p = some (.lst a ys) ∧ ∀ q : Pth, okP q.2 → atOrUnder p q = false → labS A2 q = labS A1 q := by
  obtain ⟨ms0, e1, e2⟩ := rs_ok e
  obtain ⟨x, hx, rfl⟩ := labS_pl h
  rw [S1.get, hx] at e1
  simp only [Option.map_some, Option.bind_some] at e1
  cases x with
  | im m v =>
    have hd := S1.pl_hd hx
    simp only [MA.er] at e1
    cases m <;> first | (simp [M.lsts] at e1; done) | exact hd.elim
  | dct a ns => simp [MA.er, M.lsts] at e1
  | obj a c ns => simp [MA.er, M.lsts] at e1
  | dnn a ns => simp [MA.er, M.lsts] at e1
  | lst a ns =>
    simp only [MA.er, M.lsts, Option.some.injEq] at e1
    subst e1
    have hd := S1.pl_hd hx
    refine ⟨a, ns, rfl, hx, ?_⟩
    cases hc : allD (ers ns) with
    | true =>
      rw [hc] at e2
      cases e2
      have z := allD_adrs hc
      refine ⟨[], fun b hb => by simp at hb, List.nodup_nil, fun b hb => by simp at hb, fun H2 k => ?_⟩
      cases Lockd.nil_eq k
      exact ⟨A1, ns, S1, P1, rfl, z, hd.2, hd.1, hx, fun q _ _ => rfl⟩
    | false =>
      rw [hc] at e2
      obtain ⟨ds, e3, e4⟩ := rs_ok e2
      cases e4
      have sub : ∀ b ∈ adrs ns, b ∈ adrS A1 := fun b hb => SR.pl_adr hx b (by simp [MA.adr, hb])
      have hm := fun b hb => S1.mut b (sub b hb)
      have xnd := plA_nd S1 hx
      simp only [MA.adr] at xnd
      have nda := List.nodup_cons.mp xnd
      refine ⟨adrs ns, hm, nda.2, fun b hb => hb, fun H2 k => ?_⟩
      have st := k.stb hm
      have rp := HdL.frozen k st hd.2 (fun b hb => hb) e3
      obtain ⟨i1, i2, i3, i4⟩ := imD_ok (L := L) rp
      have ha : H2 a = some (.lst (vsOf (imD ds (vsOf ns)))) := by rw [k.1 a nda.1, i1]; exact hd.1
      have hx' : Hd L H2 (.lst a (imD ds (vsOf ns))) := ⟨ha, i4⟩
      have er' : (MA.lst a (imD ds (vsOf ns))).er = .lst (ds.map .d) := by simp only [MA.er, i2]
      obtain ⟨S2, l, r, a1, a2⟩ := S1.write (H' := H2) (x' := .lst a (imD ds (vsOf ns))) (kf := under p) o hx rfl st hx' (fun b hb hn => k.1 b fun hb' => hn (by simp [MA.adr, hb'])) (by simp [MA.adr, i3])
        (fun b hb => by simp only [MA.adr, i3, List.mem_singleton] at hb; subst hb; exact .inl (by simp [MA.adr]))
        (fun r h1 h2 h3 v hv => by
          unfold under at h3
          rw [h2, h1] at h3
          simp only [beq_self_eq_true, Bool.true_and, decide_eq_false_iff_not, Nat.not_lt] at h3
          have hz : r.2.drop p.2.length = [] := List.drop_eq_nil_of_le h3
          rw [hz] at hv ⊢
          exact hv)
      rw [er'] at S2
      refine ⟨_, imD ds (vsOf ns), S2, ?_, i2, i3, i4, ha, pl_putA S1 (x := .lst a ns) (x' := .lst a (imD ds (vsOf ns))) rfl o hx, fun q oq n => lab_putA S1 (x := .lst a ns) rfl o oq hx n⟩
      simp only [MA.adr, i3] at a1 a2
      have nd := P1.nd
      refine P1.write a1 a2 (fun b hb _ => k.1 b fun hb' => hb (by simp [hb'])) (fun b hb => ?_) ?_
      · simp only [List.mem_append, List.mem_cons, List.mem_nil_iff, or_false] at hb
        rcases hb with rfl | hb
        · exact .inl (by simp)
        · exact .inl (by simp [hb])
      · rw [a1] at nd
        have e1 : l ++ a :: adrs ns ++ r ++ G = (l ++ [a]) ++ (adrs ns ++ (r ++ G)) := by simp
        have e2 : l ++ [a] ++ r ++ G = (l ++ [a]) ++ (r ++ G) := by simp
        rw [e1] at nd
        rw [e2]
        have t := List.nodup_append.mp nd
        refine List.nodup_append.mpr ⟨t.1, (List.nodup_append.mp t.2.1).2.1, fun a ha b hb q => t.2.2 a ha b ?_ q⟩
        exact List.mem_append_right _ hb
theorem Lockd.trk {Y : List Addr} {H1 H2 : Hp} (k : Lockd Y H1 H2) {b : Addr} (h : ∃ u, H1 b = some u) : ∃ u, H2 b = some u := by
  by_cases hb : b ∈ Y
  · obtain ⟨u, o, _, e⟩ := k.2 b hb
    exact ⟨_, e⟩
  · rw [k.1 b hb]; exact h
theorem kidsL_ok {L : Lnk} {H H1 : Hp} {σ : L2.St} {A A1 : SA} {s1 s' : St} {τ : List V} {r : Rv} {y : Option MA} {v : V} {ms : List M} {G : List Addr}
    (S1 : SR L H1 σ A1 s1 τ) (P1 : Pst H A H1 A1 (G ++ adrO y)) (K1 : RvOk L H1 A1 r y v) (e : kidsL r s1 = .ok ms s') :
    ∃ a ns, v = .ref a ∧ ∃ Y, (∀ b ∈ Y, ∃ u, H1 b = some u ∧ Mut (some u)) ∧ Y.Nodup ∧ (∀ b ∈ Y, b ∈ adrs ns) ∧ (∀ b ∈ Y, b ∉ G) ∧ (∀ p, r = .p p → plA A1 p = some (.lst a ns)) ∧ (∀ m, r = .v m → Y = [] ∧ y = some (.lst a ns)) ∧ ∀ H2, Lockd Y H1 H2 →
      ∃ A2 ys, SR L H2 σ A2 s' τ ∧ Pst H A H2 A2 (G ++ adrO y) ∧ ers ys = ms ∧ (∀ b ∈ adrs ys, b ∈ adrO y) ∧ (a :: adrs ys).Nodup ∧ HdL L H2 ys ∧ H2 a = some (.lst (vsOf ys)) ∧ (∀ p, r = .p p → plA A2 p = some (.lst a ys)) ∧
        ∀ q : Pth, okP q.2 → (∀ p, r = .p p → atOrUnder p q = false ∨ (atOrUnder p q = true ∧ atOrUnder q p = true)) → labS A2 q = labS A1 q := by
  unfold kidsL at e
  split at e
  · rename_i ms0
    cases e
    obtain ⟨n, rfl, h1, h2, h3⟩ := K1.v_inv
    cases n with
    | im m v =>
      simp only [MA.er] at h1
      subst h1
      exact h3.elim
    | dct a ns => simp [MA.er] at h1
    | obj a c ns => simp [MA.er] at h1
    | dnn a ns => simp [MA.er] at h1
    | lst a ns =>
      simp only [MA.er, M.lst.injEq] at h1
      refine ⟨a, ns, h2.symm, [], (fun b hb => by simp at hb), List.nodup_nil, (fun b hb => by simp at hb), (fun b hb => by simp at hb), (fun p h => by cases h), (fun n hn => ⟨rfl, rfl⟩), fun H2 k => ?_⟩
      cases Lockd.nil_eq k
      refine ⟨A1, ns, S1, P1, h1, fun b hb => by simp [adrO, MA.adr, hb], ?_, h3.2, h3.1, (fun p h => by cases h), fun q _ _ => rfl⟩
      have nd := (List.nodup_append.mp P1.nd).2.1
      simp only [adrO, MA.adr] at nd
      exact (List.nodup_append.mp nd).2.1
  · rename_i p
    obtain ⟨rfl, o, h⟩ := K1.p_inv
    obtain ⟨a, ns, e1, e2, Y, hm, nd, hy, q⟩ := kidsP_ok S1 P1 o h e
    refine ⟨a, ns, e1, Y, hm, nd, hy, (fun b hb hg => nd_left P1.nd (SR.pl_adr e2 b (by simp [MA.adr, hy b hb])) (by simp [hg])), (fun p h => by cases h; exact e2), (fun n hn => (by cases hn)), fun H2 k => ?_⟩
    obtain ⟨A2, ys, S2, P2, h1, h2, h3, h4, h5, h6⟩ := q H2 k
    refine ⟨A2, ys, S2, P2, h1, (fun b hb => by rw [h2] at hb; simp at hb), by rw [h2]; simp, h3, h4, (fun p h => by cases h; exact h5), fun q oq hq => ?_⟩
    rcases hq p rfl with hq | ⟨g1, g2⟩
    · exact h6 q oq hq
    · unfold labS
      rw [← S1.same o oq g1 g2, ← S2.same o oq g1 g2, e2, h5]
      rfl
  · cases e
end Vm
end
section
namespace Vm
open PySem L2

def RG (L : Lnk) (g : Rv → Rv → St → Res Rv) : R2 := fun x y H2 Q => ∃ (σ : L2.St) (H : Hp) (A A2 : SA) (s : St) (τ : List V) (ra rb : Rv) (ya yb : Option MA) (r : Rv) (s' : St),
  SR L H2 σ A2 s τ ∧ Pst H A H2 A2 (adrO ya ++ adrO yb) ∧ RvOk L H2 A2 ra ya x ∧ RvOk L H2 A2 rb yb y ∧ g ra rb s = .ok r s' ∧ Fin L σ H A τ r s' Q
theorem RvOk.trk2 {L : Lnk} {H : Hp} {A : SA} {ra rb : Rv} {ya yb : Option MA} {x y : V} (h : RvOk L H A ra ya x) (k : RvOk L H A rb yb y) : ∀ b ∈ adrO ya ++ adrO yb, ∃ u, H b = some u := fun b hb => by
  rcases List.mem_append.mp hb with hb | hb
  · exact h.trk b hb
  · exact k.trk b hb
theorem s_two {L : Lnk} {C : Ctx} {X : Cx} {ex : Expr} {e a b : E} {g : Rv → Rv → St → Res Rv} (he : ∀ s, ev C e s = (ev C a s).bd fun ra s => hold ra s (ev C b) g)
    (h : PE X ex (tOp (RG L g) (TEv L C a) (TEv L C b))) : PE X ex (TEv L C e) := by
  refine PE.mono h fun σ H Q ⟨A, s, τ, r, s', S, e0, q⟩ => ?_
  rw [he] at e0
  obtain ⟨ra, s1, e1, e2⟩ := bd_ok e0
  refine ⟨A, s, τ, ra, s1, S, e1, fun x H1 A1 ya S1 P1 K1 => ?_⟩
  obtain ⟨τ1, s1', b, s2, S1', e3, k⟩ := hold_ok S1 P1 K1 e2
  refine ⟨A1, s1', τ1, b, s2, S1', e3, fun y H2 A2 yb S2 P2 K2 => ?_⟩
  obtain ⟨ra', s2', e4, S2', K1'⟩ := k H2 A2 _ S2 P2
  exact ⟨σ, H, A, A2, s2', τ, ra', b, ya, yb, r, s', S2', P1.trans P2 K1.trk, K1', K2, e4, q⟩
def OpR.Lk (r : R2) : R2 := fun x y H Q => ∃ Y : List Addr, (∀ b ∈ Y, ∃ u, H b = some u ∧ Mut (some u)) ∧ Y.Nodup ∧ ∀ H2, Lockd Y H H2 → r x y H2 Q
theorem OpR.lk {X : Cx} {f : Value → Value → Sem Value} {r : R2} (h : OpR X f r) : OpR X f (OpR.Lk r) := OpR.locks h
theorem SqT.size {X : Cx} {pins : List (Addr × Obj)} {σ : L2.St} {H : Hp} {s : Shared} (I : Inv X pins σ H s) {a : Addr} {xs : List V} (h : SqT X.K H a xs) : xs.length ≤ sizeLine := by
  obtain ⟨its, h1, h2, h3⟩ := I.tuple h
  exact h3
theorem Pst.flip {H H2 : Hp} {A A2 : SA} {F G : List Addr} (P : Pst H A H2 A2 (F ++ G)) : Pst H A H2 A2 (G ++ F) := P.less (fun b hb => by simp only [List.mem_append] at hb ⊢; exact hb.symm) ((List.perm_append_comm.nodup_iff).mp (List.nodup_append.mp P.nd).2.1)
theorem str_app_len (u w : Str) : (u ++ w).length = u.length + w.length := by
  show (u.cps ++ w.cps).size = u.cps.size + w.cps.size
  simp
theorem sOk_app {u w : Str} (h : sOk u) (k : sOk w) (l : u.length + w.length ≤ sizeLine) : sOk (u ++ w) := by
  refine ⟨by rw [str_app_len]; exact l, fun c hc => ?_⟩
  have e : (u ++ w).cps.toList = u.cps.toList ++ w.cps.toList := by
    show (u.cps ++ w.cps).toList = _
    simp
  rw [e] at hc
  rcases List.mem_append.mp hc with hc | hc
  · exact h.2 c hc
  · exact k.2 c hc
theorem sOk_mk {l : List Nat} (h1 : l.length ≤ sizeLine) (h2 : ∀ c ∈ l, c < 0x110000) : sOk ⟨l.toArray⟩ := ⟨by simpa [Str.length] using h1, fun c hc => h2 c (by simpa using hc)⟩
theorem bopR_ok {op : Bop} {ra rb : Rv} {s s' : St} {r : Rv} (e : bopR op ra rb s = .ok r s') : (∃ a b z, ra = .v (.d a) ∧ rb = .v (.d b) ∧ bopD op a b = some z ∧ r = .v (.d z) ∧ s' = s) ∨ bopL op ra rb s = .ok r s' := by
  unfold bopR at e
  split at e
  · obtain ⟨z, h1, h2, h3⟩ := okV_ok e
    exact .inl ⟨_, _, z, rfl, rfl, h1, h2, h3⟩
  · exact .inr e
section
open PySem.Spec PyProof.Rows
variable {X : Cx}
def rCatS (K : PySem.W.Frag) : R2 := fun x y H Q => ∃ l b xs zs, x = .ref l ∧ y = .ref b ∧ SqL K H l xs ∧ SqL K H b zs ∧ xs.length + zs.length ≤ sizeLine ∧ ∀ p, H p = none → Q (.ref p) (upd H p (.lst (xs ++ zs)))
theorem op_catS : OpR X (binaryOp .Add) (rCatS X.K) := by
  intro pins s σ H x y v u Q I rx ry h
  obtain ⟨l, b, xs, zs, rfl, rfl, hH, hB, hz, q⟩ := h
  cases rx
  cases ry
  obtain ⟨its, r, pl, hl⟩ := I.list hH
  obtain ⟨its2, r2, pl2, hl2⟩ := I.list hB
  obtain ⟨⟨cls, dd, data, sl⟩, n, ho, hc, hdd, hd⟩ := pl
  obtain ⟨⟨cls2, dd2, data2, sl2⟩, n2, ho2, hc2, hdd2, hd2⟩ := pl2
  simp only at hc hd hc2 hd2
  subst hc hd hc2 hd2
  have e1 := r.length
  have e2 := r2.length
  have e : its.toArray ++ its2.toArray = (its ++ its2).toArray := by simp
  refine concat_meets ⟨_, ho, rfl⟩ ⟨_, ho2, rfl⟩ noFill_list_add seq_list_add PySem.F.slot_list_add PySem.F.entry_list_add (PySem.F.args_list_add_2 _ _) (list_addW l b its.toArray its2.toArray n n2 dd dd2 sl sl2 (by simp; omega)) ⟨ho, ho2, ?_⟩
  rw [e]
  exact ⟨.ref _, _, I.lnew (t' := s.toks) (r.append r2) (by rw [List.length_append]; omega), rfl, q _ I.fresh⟩
end
theorem catD_some {ra rb : Rv} {xs ys : List M} (h : catD ra rb = some (xs, ys)) : (∃ ds, ra = .v (.d (.list ds)) ∧ rb = .v (.lst ys) ∧ xs = ds.map .d) ∨ (∃ ds, ra = .v (.lst xs) ∧ rb = .v (.d (.list ds)) ∧ ys = ds.map .d) := by
  unfold catD at h
  split at h
  · cases h; exact .inl ⟨_, rfl, rfl, rfl⟩
  · cases h; exact .inr ⟨_, rfl, rfl, rfl⟩
  · cases h
theorem datsM_rp {L : Lnk} {H : Hp} : ∀ {ns : List MA} {xs : List D}, HdL L H ns → datsM (ers ns) = some xs → RpL L.K H (vsOf ns) xs
  | [], xs, _, e => by simp [ers, datsM] at e; subst e; exact .nil
  | n :: ns, xs, h, e => by
    cases n with
    | im m v =>
      cases m with
      | d y =>
        simp only [ers, MA.er, datsM, Option.bind_eq_some_iff] at e
        obtain ⟨zs, e1, e2⟩ := e
        simp at e2; subst e2
        exact .cons h.1 (datsM_rp h.2 e1)
      | _ => simp [ers, MA.er, datsM] at e
    | _ => simp [ers, MA.er, datsM] at e
theorem catP_ok {L : Lnk} {H : Hp} {σ : L2.St} {A : SA} {s : St} {τ : List V} {ra rb : Rv} {ya yb : Option MA} {x y : V} {xs ys : List D} (S : SR L H σ A s τ) (Ka : RvOk L H A ra ya x) (Kb : RvOk L H A rb yb y) (e : catP s ra rb = some (xs, ys)) :
    ∃ a b vs ws, x = .ref a ∧ y = .ref b ∧ SqL L.K H a vs ∧ SqL L.K H b ws ∧ RpL L.K H vs xs ∧ RpL L.K H ws ys := by
  have pl : ∀ {r : Rv} {p : Pth} {yo : Option MA} {v : V} {ms : List M} {zs : List D}, r = .p p → RvOk L H A r yo v → (s.get p).bind M.lsts = some ms → datsM ms = some zs → ∃ a vs, v = .ref a ∧ SqL L.K H a vs ∧ RpL L.K H vs zs := fun {r p yo v ms zs} er K e1 e2 => by
    subst er
    obtain ⟨rfl, o, hl⟩ := K.p_inv
    obtain ⟨m, hm, rfl⟩ := labS_pl hl
    rw [S.get, hm] at e1
    have hd := S.pl_hd hm
    cases m with
    | lst a ns =>
      simp only [Option.map_some, Option.bind_some, MA.er, M.lsts, Option.some.injEq] at e1
      subst e1
      exact ⟨a, _, rfl, .inl (.inl hd.1), datsM_rp hd.2 e2⟩
    | im m v =>
      cases m with
      | lst _ => exact hd.elim
      | _ => simp [MA.er, M.lsts] at e1
    | _ => simp [MA.er, M.lsts] at e1
  have fr : ∀ {r : Rv} {zs : List D} {yo : Option MA} {v : V}, r = .v (.d (.list zs)) → RvOk L H A r yo v → ∃ a vs, v = .ref a ∧ SqL L.K H a vs ∧ RpL L.K H vs zs := fun {r zs yo v} er K => by
    subst er
    obtain ⟨a, vs, rfl, g1, g2⟩ := K.d_inv.lst_inv
    exact ⟨a, vs, rfl, g1.sql, g2⟩
  unfold catP at e
  split at e
  · cases h1 : (s.get _).bind M.lsts with
    | none => rw [h1] at e; cases e
    | some ms =>
      rw [h1] at e
      cases h2 : datsM ms with
      | none => simp only [ob, h2] at e; cases e
      | some zs =>
        simp only [ob, h2] at e
        cases e
        obtain ⟨a, vs, e1, e2, e3⟩ := pl rfl Ka h1 h2
        obtain ⟨b, ws, e4, e5, e6⟩ := fr rfl Kb
        exact ⟨a, b, vs, ws, e1, e4, e2, e5, e3, e6⟩
  · cases h1 : (s.get _).bind M.lsts with
    | none => rw [h1] at e; cases e
    | some ms =>
      rw [h1] at e
      cases h2 : datsM ms with
      | none => simp only [ob, h2] at e; cases e
      | some zs =>
        simp only [ob, h2] at e
        cases e
        obtain ⟨a, vs, e1, e2, e3⟩ := fr rfl Ka
        obtain ⟨b, ws, e4, e5, e6⟩ := pl rfl Kb h1 h2
        exact ⟨a, b, vs, ws, e1, e4, e2, e5, e3, e6⟩
  · cases e
theorem op_add' {L : Lnk} {X : Cx} {k : Nat} (xo : XO L X k) : OpR X (binaryOp .Add) (RG L (bopR .add)) := by
  refine OpR.mono (OpR.or op_add (OpR.or op_add_str (OpR.or op_catB (OpR.or op_catS (OpR.lk (OpR.lk op_cat)))))) ?_
  rintro x y H2 Q ⟨σ, H, A, A2, s, τ, ra, rb, ya, yb, r, s', S, P, Ka, Kb, e, q⟩
  rcases bopR_ok e with ⟨a, b, z, rfl, rfl, e1, rfl, rfl⟩ | e
  · have ha := Ka.d_inv
    have hb := Kb.d_inv
    have q2 : ∀ v, Rp L.K H2 v z → Q v H2 := fun v h => q.im S P h
    cases a <;> cases b <;> simp only [bopD, reduceCtorEq] at e1
    · cases e1
      cases ha.int_inv; cases hb.int_inv
      exact .inl ⟨_, _, rfl, rfl, q2 _ (.int _)⟩
    · rename_i u w
      obtain ⟨c, e2⟩ := oif_ok e1
      cases e2
      obtain ⟨rfl, h1⟩ := ha.str_inv
      obtain ⟨rfl, h2⟩ := hb.str_inv
      have c' : u.length + w.length ≤ sizeLine := of_decide_eq_true c
      refine .inr (.inl ⟨_, _, rfl, rfl, c', q2 _ (.str _ ?_)⟩)
      exact sOk_app h1 h2 c'
    · rename_i u w
      obtain ⟨c, e2⟩ := oif_ok e1
      cases e2
      obtain ⟨a1, xs, rfl, h1, h2⟩ := ha.tup_inv
      obtain ⟨a2, ys, rfl, h3, h4⟩ := hb.tup_inv
      have c' : xs.length + ys.length ≤ sizeLine := by rw [h2.length, h4.length]; exact of_decide_eq_true c
      refine .inr (.inr (.inl ⟨a1, a2, xs, ys, rfl, rfl, xo.hK ▸ h1, xo.hK ▸ h3, c', ?_, ?_, ?_⟩))
      · intro z; subst z; cases h2; exact q2 _ hb
      · intro _ z; subst z; cases h4; exact q2 _ (by simpa using ha)
      · intro _ _ p o hp hd
        exact Fin.tup q S P (Ka.trk2 Kb) (h2.append h4) hp hd
  · replace e : addL ra rb s (catD ra rb) = .ok r s' := e
    cases hc : catD ra rb with
    | some xy =>
      obtain ⟨xs, ys⟩ := xy
      rw [hc] at e
      obtain ⟨c2, e6⟩ := rif_ok (show rif (decide (xs.length + ys.length ≤ line)) (.ok (.v (.lst (xs ++ ys))) s) = .ok r s' from e)
      cases e6
      refine .inr (.inr (.inr (.inl ?_)))
      have tF := Ka.trk2 Kb
      have c3 : xs.length + ys.length ≤ sizeLine := of_decide_eq_true c2
      rcases catD_some hc with ⟨ds, rfl, rfl, rfl⟩ | ⟨ds, rfl, rfl, rfl⟩
      · obtain ⟨a, vs, rfl, g1, g2⟩ := Ka.d_inv.lst_inv
        obtain ⟨i1, i2, i3, i4⟩ := imD_ok (L := L) g2
        obtain ⟨n, rfl, h1, h2, h3⟩ := Kb.v_inv
        cases n with
        | im m v => simp only [MA.er] at h1; subst h1; exact h3.elim
        | dct a ns => simp [MA.er] at h1
        | obj a c ns => simp [MA.er] at h1
        | dnn a ns => simp [MA.er] at h1
        | lst a2 ns =>
          simp only [MA.er, M.lst.injEq] at h1
          subst h1
          have e2 : ns.length = (ers ns).length := by rw [ers_map, List.length_map]
          have e3 : vs.length = ds.length := g2.length
          refine ⟨a, a2, vs, vsOf ns, rfl, h2.symm, xo.hK ▸ g1.sql, .inl (.inl h3.1), by simp only [vsOf, List.length_map] at c3 ⊢; omega, fun p hp => ?_⟩
          have er' : M.lst (ds.map .d ++ ers ns) = .lst (ers (imD ds vs ++ ns)) := by rw [ers_append, i2]
          rw [er'] at q
          have ad : adrs (imD ds vs ++ ns) = adrs ns := by rw [adrs_append, i3]; rfl
          have := Fin.lst (ms := imD ds vs ++ ns) q S P tF (i4.append h3.2) (fun b hb => ?_) ?_ hp
          · rw [show vsOf (imD ds vs ++ ns) = vs ++ vsOf ns by simp only [vsOf, List.map_append] at i1 ⊢; rw [i1]] at this
            exact this
          · rw [ad] at hb
            simp [adrO, MA.adr, hb]
          · rw [ad]
            have t := (List.nodup_append.mp (List.nodup_append.mp P.nd).2.1).2.1
            simp only [adrO, MA.adr] at t
            exact (List.nodup_cons.mp t).2
      · obtain ⟨a, vs, rfl, g1, g2⟩ := Kb.d_inv.lst_inv
        obtain ⟨i1, i2, i3, i4⟩ := imD_ok (L := L) g2
        obtain ⟨n, rfl, h1, h2, h3⟩ := Ka.v_inv
        cases n with
        | im m v => simp only [MA.er] at h1; subst h1; exact h3.elim
        | dct a ns => simp [MA.er] at h1
        | obj a c ns => simp [MA.er] at h1
        | dnn a ns => simp [MA.er] at h1
        | lst a2 ns =>
          simp only [MA.er, M.lst.injEq] at h1
          subst h1
          have e2 : ns.length = (ers ns).length := by rw [ers_map, List.length_map]
          have e3 : vs.length = ds.length := g2.length
          refine ⟨a2, a, vsOf ns, vs, h2.symm, rfl, .inl (.inl h3.1), xo.hK ▸ g1.sql, by simp only [vsOf, List.length_map] at c3 ⊢; omega, fun p hp => ?_⟩
          have er' : M.lst (ers ns ++ ds.map .d) = .lst (ers (ns ++ imD ds vs)) := by rw [ers_append, i2]
          rw [er'] at q
          have ad : adrs (ns ++ imD ds vs) = adrs ns := by rw [adrs_append, i3, List.append_nil]
          have := Fin.lst (ms := ns ++ imD ds vs) q S P tF (h3.2.append i4) (fun b hb => ?_) ?_ hp
          · rw [show vsOf (ns ++ imD ds vs) = vsOf ns ++ vs by simp only [vsOf, List.map_append] at i1 ⊢; rw [i1]] at this
            exact this
          · rw [ad] at hb
            simp [adrO, MA.adr, hb]
          · rw [ad]
            have t := (List.nodup_append.mp (List.nodup_append.mp P.nd).2.1).1
            simp only [adrO, MA.adr] at t
            exact (List.nodup_cons.mp t).2
    | none =>
    rw [hc] at e
    replace e : addQ ra rb s (catP s ra rb) = .ok r s' := e
    cases hcp : catP s ra rb with
    | some xy =>
      obtain ⟨xs, ys⟩ := xy
      rw [hcp] at e
      obtain ⟨c2, e6⟩ := rif_ok (show rif (decide (xs.length + ys.length ≤ line)) (.ok (.v (.lst ((xs ++ ys).map .d))) s) = .ok r s' from e)
      cases e6
      refine .inr (.inr (.inr (.inl ?_)))
      have tF := Ka.trk2 Kb
      have c3 : xs.length + ys.length ≤ sizeLine := of_decide_eq_true c2
      obtain ⟨a, a2, vs, ws, rfl, rfl, g1, g2, g3, g4⟩ := catP_ok S Ka Kb hcp
      refine ⟨a, a2, vs, ws, rfl, rfl, xo.hK ▸ g1, xo.hK ▸ g2, by rw [g3.length, g4.length]; exact c3, fun p hp => ?_⟩
      obtain ⟨i1, i2, i3, i4⟩ := imD_ok (L := L) (g3.append g4)
      rw [← i2] at q
      have := Fin.lst q S P tF i4 (fun b hb => by rw [i3] at hb; simp at hb) (by rw [i3]; simp) hp
      rw [i1] at this
      exact this
    | none =>
    rw [hcp] at e
    replace e : addP ra rb s = .ok r s' := e
    obtain ⟨c1, e1⟩ := rif_ok e
    obtain ⟨xs, s1, e2, e3⟩ := bd_ok e1
    obtain ⟨ys, s2, e4, e5⟩ := bd_ok e3
    obtain ⟨c2, e6⟩ := rif_ok e5
    cases e6
    refine .inr (.inr (.inr (.inr ?_)))
    obtain ⟨a, ns, rfl, Y, hm, nd, hy, hg, c0, cn, k1⟩ := kidsL_ok S P.flip Ka e2
    refine ⟨Y, hm, nd, fun H3 l3 => ?_⟩
    obtain ⟨A3, us, S3, P3, u1, u2, und, u3, u4, u6, u5⟩ := k1 H3 l3
    have Kb3 : RvOk L H3 A3 rb yb y := by
      cases rb with
      | v m =>
        obtain ⟨n, rfl, h1, h2, h3⟩ := Kb.v_inv
        refine ⟨h1, h2, Hd.mono (l3.stb hm) h3 fun b hb => l3.1 b fun h => hg b h hb⟩
      | p p =>
        obtain ⟨rfl, o, h⟩ := Kb.p_inv
        refine ⟨o, ?_⟩
        rw [u5 p o fun q hq => ?_]; exact h
        subst hq
        simp only [okTwo, Bool.or_eq_true, Bool.and_eq_true, Bool.not_eq_true'] at c1
        rcases c1 with c1 | c1
        · exact .inr c1
        · exact .inl c1.1
    obtain ⟨a2, ns2, rfl, Y2, hm2, nd2, hy2, hg2, c02, cn2, k2⟩ := kidsL_ok S3 P3.flip Kb3 e4
    refine ⟨Y2, hm2, nd2, fun H4 l4 => ?_⟩
    obtain ⟨A4, ws, S4, P4, w1, w2, wnd, w3, w4, w6, w5⟩ := k2 H4 l4
    have st4 := l4.stb hm2
    have us4 : HdL L H4 us := HdL.mono st4 u3 fun b hb => l4.1 b fun h => hg2 b h (u2 b hb)
    have hz : a ∉ Y2 := fun hz => by
      cases rb with
      | v m => rw [(cn2 m rfl).1] at hz; simp at hz
      | p q =>
        have hq := c02 q rfl
        obtain ⟨rfl, oq, _⟩ := Kb3.p_inv
        have hin : a ∈ (MA.lst a2 ns2).adr := by simp [MA.adr, hy2 a hz]
        cases ra with
        | v m =>
          obtain ⟨z0, z1⟩ := cn m rfl
          subst z1
          exact nd_left P3.nd (SR.pl_adr hq a hin) (by simp [adrO, MA.adr])
        | p p =>
          obtain ⟨rfl, op, _⟩ := Ka.p_inv
          have hp := u6 p rfl
          simp only [okTwo, Bool.or_eq_true, Bool.and_eq_true, Bool.not_eq_true'] at c1
          rcases c1 with c1 | c1
          · have := S3.same op oq c1.1 c1.2
            rw [hp, hq] at this
            cases this
            have := u2 a (hy2 a hz)
            simp [adrO] at this
          · exact S3.apart op oq hp hq c1.1 c1.2 a (by simp [MA.adr]) hin
    have ha4 : H4 a = some (.lst (vsOf us)) := by rw [l4.1 a hz]; exact u4
    have tF : ∀ b ∈ adrO ya ++ adrO yb, ∃ u, H4 b = some u := fun b hb => l4.trk (l3.trk (Ka.trk2 Kb b hb))
    have P4' := P4
    refine ⟨a, a2, vsOf us, vsOf ws, rfl, rfl, ha4, w4, ?_, fun p hp => ?_⟩
    · simp only [vsOf, List.length_map]
      have e1 : us.length = xs.length := by rw [← u1, ers_map, List.length_map]
      have e2 : ws.length = ys.length := by rw [← w1, ers_map, List.length_map]
      rw [e1, e2]; exact of_decide_eq_true c2
    · have er' : M.lst (xs ++ ys) = .lst (ers (us ++ ws)) := by rw [ers_append, u1, w1]
      rw [er'] at q
      have := Fin.lst (ms := us ++ ws) q S4 P4 tF (us4.append w3) (fun b hb => ?_) ?_ hp
      · simpa [vsOf] using this
      · rw [adrs_append] at hb
        rcases List.mem_append.mp hb with hb | hb
        · simp [u2 b hb]
        · simp [w2 b hb]
      · rw [adrs_append]
        have t := List.nodup_append.mp (List.nodup_append.mp P4.nd).2.1
        exact List.nodup_append.mpr ⟨(List.nodup_cons.mp und).2, (List.nodup_cons.mp wnd).2, fun a ha b hb q => t.2.2 a (u2 a ha) b (w2 b hb) q⟩
theorem op_int {L : Lnk} {X : Cx} {op : Bop} {f : Value → Value → Sem Value} {C : Int → Int → Prop} {g : Int → Int → V}
    (h : OpR X f (rI C g)) (hl : ∀ ra rb s, bopL op ra rb s = .no) (hd : ∀ x y z, bopD op x y = some z → ∃ i j, x = .int i ∧ y = .int j ∧ C i j ∧ ∀ K H, Rp K H (g i j) z) : OpR X f (RG L (bopR op)) := by
  refine OpR.mono h ?_
  rintro x y H2 Q ⟨σ, H, A, A2, s, τ, ra, rb, ya, yb, r, s', S, P, Ka, Kb, e, q⟩
  rcases bopR_ok e with ⟨a, b, z, rfl, rfl, e1, rfl, rfl⟩ | e
  · obtain ⟨i, j, rfl, rfl, c, rp⟩ := hd _ _ _ e1
    cases Ka.d_inv.int_inv; cases Kb.d_inv.int_inv
    exact ⟨_, _, rfl, rfl, c, q.im S P (rp _ _)⟩
  · rw [hl] at e; cases e
theorem op_sub' {L : Lnk} {X : Cx} : OpR X (binaryOp .Sub) (RG L (bopR .sub)) :=
  op_int (C := fun _ _ => True) (OpR.mono op_sub fun x y H Q ⟨i, j, h1, h2, _, h3⟩ => ⟨i, j, h1, h2, h3⟩) (fun _ _ _ => rfl) fun x y z h => by
    cases x <;> cases y <;> simp only [bopD, reduceCtorEq, Option.some.injEq] at h
    subst h
    exact ⟨_, _, rfl, rfl, trivial, fun _ _ => .int _⟩
theorem op_mod' {L : Lnk} {X : Cx} : OpR X (binaryOp .Mod) (RG L (bopR .mod)) :=
  op_int op_mod (fun _ _ _ => rfl) fun x y z h => by
    cases x <;> cases y <;> simp only [bopD, reduceCtorEq] at h
    obtain ⟨c, e⟩ := oif_ok h
    cases e
    have c' := of_decide_eq_true c
    exact ⟨_, _, rfl, rfl, c', fun _ _ => .int _⟩
theorem op_fdiv' {L : Lnk} {X : Cx} : OpR X (binaryOp .FloorDiv) (RG L (bopR .fdiv)) :=
  op_int op_fdiv (fun _ _ _ => rfl) fun x y z h => by
    cases x <;> cases y <;> simp only [bopD, reduceCtorEq] at h
    obtain ⟨c, e⟩ := oif_ok h
    cases e
    have c' := of_decide_eq_true c
    exact ⟨_, _, rfl, rfl, c', fun _ _ => .int _⟩
theorem op_pow' {L : Lnk} {X : Cx} : OpR X (binaryOp .Pow) (RG L (bopR .pow)) :=
  op_int op_pow (fun _ _ _ => rfl) fun x y z h => by
    cases x <;> cases y <;> simp only [bopD, reduceCtorEq] at h
    obtain ⟨c, e⟩ := oif_ok h
    cases e
    have c' := of_decide_eq_true c
    exact ⟨_, _, rfl, rfl, c', fun _ _ => .int _⟩
theorem RpL.rep {K : PySem.W.Frag} {H : Hp} {xs : List V} {ds : List D} (h : RpL K H xs ds) : ∀ n : Nat, RpL K H (List.replicate n xs).flatten (List.replicate n ds).flatten
  | 0 => .nil
  | n + 1 => by simpa [List.replicate_succ] using h.append (h.rep n)
theorem foldl_cps (c : Array Nat) : ∀ (k : Nat) (acc : List Nat), List.foldl (fun x1 x2 => x1 ++ x2) acc.toArray (List.replicate k c) = (acc ++ (List.replicate k c.toList).flatten).toArray
  | 0, acc => by simp
  | k + 1, acc => by
    have e : acc.toArray ++ c = (acc ++ c.toList).toArray := by simp
    rw [List.replicate_succ, List.foldl_cons, e, foldl_cps c k]
    simp [List.replicate_succ]
theorem op_repS {X : Cx} : OpR X (binaryOp .Mult) (fun x y H Q => ∃ z j, x = .str z ∧ y = .int j ∧ z.length ≤ sizeLine ∧ z.length * j.toNat ≤ line ∧ -2 ^ 62 ≤ j ∧ j ≤ 16777216 ∧ Q (.str ⟨(List.replicate j.toNat z.cps.toList).flatten.toArray⟩) H) := by
  intro pins s σ H x y v u Q I rx ry h
  obtain ⟨z, j, rfl, rfl, hz, hl, h1, h2, q⟩ := h
  obtain ⟨t, rfl⟩ := rx
  obtain ⟨t', rfl⟩ := ry
  have mo : PySem.MulOk z j := PyProof.Rows.mulOk_of z.length j.toNat (Nat.le_refl _) (by omega) (by omega) (by omega) hl
  refine PySem.P.mul_str mo.1 mo.2.1 mo.2.2 ?_
  by_cases c1 : j < 1
  · rw [if_pos c1]
    have e : j.toNat = 0 := by omega
    refine ⟨by decide, .str Str.empty, H, I.tok _, ⟨_, rfl⟩, ?_⟩
    rw [e] at q
    exact q
  · rw [if_neg c1]
    by_cases c2 : (j == 1 || z.length == 0) = true
    · rw [if_pos c2]
      refine ⟨.str z, H, I.tok _, ⟨_, rfl⟩, ?_⟩
      have e : (⟨(List.replicate j.toNat z.cps.toList).flatten.toArray⟩ : Str) = z := by
        simp only [Bool.or_eq_true, beq_iff_eq] at c2
        rcases c2 with rfl | c2
        · simp
        · obtain ⟨cps⟩ := z
          have e0 : cps = #[] := by simpa [Str.length] using c2
          subst e0
          simp
      rw [e] at q; exact q
    · rw [if_neg c2]
      have e := foldl_cps z.cps j.toNat []
      simp only [List.nil_append] at e
      refine ⟨?_, .str _, H, I.tok _, ⟨_, rfl⟩, ?_⟩
      · show (List.foldl (fun x1 x2 => x1 ++ x2) #[] (List.replicate j.toNat z.cps)).size ≤ sizeLine
        rw [PyProof.Rows.len_reps]
        simp only [Array.size_empty, Nat.zero_add]
        rw [Nat.mul_comm]; exact hl
      · rw [← e] at q; exact q
theorem tuple_mul1 (l : Addr) (items : Array Value) (n : Nat) (dd : Option Addr) (sl : Array (Option Value)) (x : Int) (u : Tok) (c0 : (decide (x < -(2 ^ 63)) || decide (x ≥ 2 ^ 63)) = false) (c1 : (items.isEmpty || x == 1) = true) :
    Meets (Builtin.«tuple.__mul__» ⟨[.ref l, .int x u], []⟩) (fun _ R s => s.heap.get? l = some { cls := .type "tuple", dict := dd, data := .seq items n, slots := sl } ∧ R (.ok (.ret (Value.ref l))) s) :=
  .of_wp fun prog w A R s h => by
    obtain ⟨hp, g, d, tk, os⟩ := s
    obtain ⟨hl, h⟩ := h
    have f1 := AutoSeq1.idx_int
    wp_walk using wpAny_loadPart' hl
    repeat (first
      | (refine wpAny_ite_false (decide_eq_false (by rw [c0]; exact Bool.false_ne_true)) ?_; wp_walk using wpAny_loadPart' hl)
      | (refine wpAny_ite_true (decide_eq_true c1) ?_; wp_walk using wpAny_loadPart' hl))
    exact ⟨_, rfl, h⟩
theorem tuple_mul0 (l : Addr) (items : Array Value) (n : Nat) (dd : Option Addr) (sl : Array (Option Value)) (x : Int) (u : Tok) (c0 : (decide (x < -(2 ^ 63)) || decide (x ≥ 2 ^ 63)) = false) (c1 : (items.isEmpty || x == 1) = false) (c2 : (decide (x ≤ 0) || items.isEmpty) = true) :
    Meets (Builtin.«tuple.__mul__» ⟨[.ref l, .int x u], []⟩) (fun _ R s => s.heap.get? l = some { cls := .type "tuple", dict := dd, data := .seq items n, slots := sl } ∧
      R (.ok (.ret (Value.ref s.heap.objs.size))) { s with heap := s.heap.push { cls := Value.type "tuple", data := Data.seq #[] }, toks := s.toks }) :=
  .of_wp fun prog w A R s h => by
    obtain ⟨hp, g, d, tk, os⟩ := s
    obtain ⟨hl, h⟩ := h
    have f1 := AutoSeq1.idx_int
    wp_walk using wpAny_loadPart' hl
    repeat (first
      | (refine wpAny_ite_false (decide_eq_false (by rw [c0]; exact Bool.false_ne_true)) ?_; wp_walk using wpAny_loadPart' hl)
      | (refine wpAny_ite_false (decide_eq_false (by rw [c1]; exact Bool.false_ne_true)) ?_; wp_walk using wpAny_loadPart' hl)
      | (refine wpAny_ite_true (decide_eq_true c2) ?_; wp_walk using wpAny_loadPart' hl))
    exact ⟨_, rfl, h⟩
def rRepT2 (K : PySem.W.Frag) : R2 := fun x y H Q => ∃ l k xs, x = .ref l ∧ y = .int k ∧ SqT K H l xs ∧ 0 ≤ k ∧ k ≤ 1000 ∧ xs.length ≤ 1000 ∧ ((xs = [] ∨ k = 1) → Q (.ref l) H) ∧ (¬ (xs = [] ∨ k = 1) → NewB (List.replicate k.toNat xs).flatten H Q)
theorem op_repT2 {X : Cx} : OpR X (binaryOp .Mult) (rRepT2 X.K) := by
  intro pins s σ H x y v u Q I rx ry h
  obtain ⟨l, k, xs, rfl, rfl, hT, h0, h1, hz, q1, q2⟩ := h
  by_cases c : xs = [] ∨ k = 1
  · cases rx
    obtain ⟨t, rfl⟩ := ry
    obtain ⟨its, r, ⟨⟨cls, dd, data, sl⟩, ho, hc, n, hd⟩, hs⟩ := I.tuple hT
    simp only at hc hd; subst hc hd
    have c0 : (decide (k < -(2 ^ 63)) || decide (k ≥ 2 ^ 63)) = false := by simp; omega
    have c1 : (its.toArray.isEmpty || k == 1) = true := by
      rcases c with rfl | rfl
      · have : its = [] := List.eq_nil_of_length_eq_zero r.length.symm
        subst this; rfl
      · simp
    refine wpAny_binaryOp_repeat_ref (T := "tuple") (U := "int") (by decide) ⟨_, ho, rfl⟩ (fun s' => typeIs_int s' k t) noFill_tuple_mul F.fills_int_mul F.slot_int_rmul repeat_tuple F.slot_int_index.lookup
      (call_meets F.slot_int_rmul (typeIs_int s k t) F.entry_int_rmul (F.args_int_rmul_2 _ _) (int_rmul_tuple k t l its.toArray n dd sl) ⟨ho, rfl, ⟨_, ho, rfl⟩, call_meets F.slot_tuple_mul ⟨_, ho, rfl⟩ F.entry_tuple_mul (F.args_tuple_mul_2 _ _) (tuple_mul1 l its.toArray n dd sl k t c0 c1) ⟨ho, ?_⟩⟩)
    exact ⟨.ref l, H, I.tok _, rfl, q1 c⟩
  · by_cases ck : k = 0
    · subst ck
      cases rx
      obtain ⟨t, rfl⟩ := ry
      obtain ⟨its, r, ⟨⟨cls, dd, data, sl⟩, ho, hc, n, hd⟩, hs⟩ := I.tuple hT
      simp only at hc hd; subst hc hd
      have hn : its.toArray.isEmpty = false := by
        cases its with
        | nil => exact absurd (.inl (List.eq_nil_of_length_eq_zero r.length)) c
        | cons a b => rfl
      refine wpAny_binaryOp_repeat_ref (T := "tuple") (U := "int") (by decide) ⟨_, ho, rfl⟩ (fun s' => typeIs_int s' 0 t) noFill_tuple_mul F.fills_int_mul F.slot_int_rmul repeat_tuple F.slot_int_index.lookup
        (call_meets F.slot_int_rmul (typeIs_int s 0 t) F.entry_int_rmul (F.args_int_rmul_2 _ _) (int_rmul_tuple 0 t l its.toArray n dd sl) ⟨ho, rfl, ⟨_, ho, rfl⟩, call_meets F.slot_tuple_mul ⟨_, ho, rfl⟩ F.entry_tuple_mul (F.args_tuple_mul_2 _ _) (tuple_mul0 l its.toArray n dd sl 0 t (by decide) (by rw [hn]; rfl) (by simp)) ⟨ho, ?_⟩⟩)
      exact ⟨.ref s.heap.objs.size, _, I.laid (t' := s.toks) (fun b ob q => Heap.get?_push_of_some _ q) (Nat.le_refl _) (newB_ok .nil (Nat.zero_le _)), rfl, by simpa using q2 c _ _ (I.hok.fresh (Nat.le_refl _)) rfl⟩
    · have hk2 : 2 ≤ k := by
        have : k ≠ 1 := fun e => c (.inr e)
        omega
      cases rx
      obtain ⟨t, rfl⟩ := ry
      obtain ⟨us, r, ⟨⟨cls, dd, data, sl⟩, ho, hc, n, hd⟩, hs⟩ := I.tuple hT
      simp only at hc hd; subst hc hd
      have hL : us.length = xs.length := r.length.symm
      have hi : us.toArray.isEmpty = false := by
        cases us with
        | nil => exact absurd (.inl (List.eq_nil_of_length_eq_zero hL.symm)) c
        | cons a b => rfl
      have hM : ((us.toArray.size : Nat) : Int) * k ≤ 1000000 := by
        rw [List.size_toArray, hL]
        have := Int.mul_le_mul_of_nonneg_right (a := (xs.length : Int)) (b := 1000) (c := k) (by omega) (by omega)
        omega
      have hF : ∀ m, m ≤ 1000 → m * xs.length ≤ sizeLine := fun m hm => by
        have := Nat.mul_le_mul hm hz
        rw [sizeLine_eq]; omega
      have g0 : (decide (k < -(2 ^ 63)) || decide (k ≥ 2 ^ 63)) = false := by simp; omega
      have g1 : (us.toArray.isEmpty || k == 1) = false := by rw [hi]; simp; omega
      have g2 : (decide (k ≤ 0) || us.toArray.isEmpty) = false := by rw [hi]; simp; omega
      have g4 : Builtin.Tuple.tupleTooMany (((us.toArray.size : Nat) : Int) * k) = false := by
        unfold Builtin.Tuple.tupleTooMany; rw [sizeLine_eq]
        exact decide_eq_false (by omega)
      refine wpAny_binaryOp_repeat_ref (T := "tuple") (U := "int") (by decide) ⟨_, ho, rfl⟩ (fun s' => typeIs_int s' k t) noFill_tuple_mul F.fills_int_mul F.slot_int_rmul repeat_tuple F.slot_int_index.lookup (call_meets F.slot_int_rmul (typeIs_int s k t) F.entry_int_rmul (F.args_int_rmul_2 _ _) (int_rmul_tuple k t l us.toArray n dd sl)
          ⟨ho, rfl, ⟨_, ho, rfl⟩, call_meets F.slot_tuple_mul ⟨_, ho, rfl⟩ F.entry_tuple_mul (F.args_tuple_mul_2 _ _) (tuple_mulW l us.toArray n dd sl k t g0 g1 g2 (by omega) g4 (by rw [size_rep, List.size_toArray, PyProof.Rows.lm_len_rep_flat, hL]; exact hF _ (by omega))) ⟨ho, ?_⟩⟩)
      rw [size_rep]
      exact ⟨.ref s.heap.objs.size, _, I.laid (t' := s.toks) (fun b ob q => Heap.get?_push_of_some _ q) (Nat.le_refl _) (newB_ok (r.rep k.toNat) (by rw [PyProof.Rows.lm_len_rep_flat]; exact hF _ (by omega))), rfl, q2 c _ _ (I.hok.fresh (Nat.le_refl _)) rfl⟩
theorem op_mul' {L : Lnk} {X : Cx} {k : Nat} (xo : XO L X k) : OpR X (binaryOp .Mult) (RG L (bopR .mul)) := by
  refine OpR.mono (OpR.or op_mul (OpR.or op_repT2 (OpR.or op_repS (OpR.lk (OpR.lk op_rep))))) ?_
  rintro x y H2 Q ⟨σ, H, A, A2, s, τ, ra, rb, ya, yb, r, s', S, P, Ka, Kb, e, q⟩
  rcases bopR_ok e with ⟨a, b, z, rfl, rfl, e1, rfl, rfl⟩ | e
  · have ha := Ka.d_inv
    have hb := Kb.d_inv
    have q2 : ∀ v, Rp L.K H2 v z → Q v H2 := fun v h => q.im S P h
    cases a <;> cases b <;> simp only [bopD, reduceCtorEq] at e1
    · obtain ⟨c, e2⟩ := oif_ok e1
      cases e2
      cases ha.int_inv; cases hb.int_inv
      refine .inl ⟨_, _, rfl, rfl, ?_, q2 _ (.int _)⟩
      simpa [CMul, small] using c
    · rename_i u w
      obtain ⟨c, e2⟩ := oif_ok e1
      cases e2
      obtain ⟨rfl, h1⟩ := ha.str_inv
      cases hb.int_inv
      have c' := of_decide_eq_true c
      refine .inr (.inr (.inl ⟨u, w, rfl, rfl, h1.1, c'.1, c'.2.1, c'.2.2, q2 _ (.str _ (sOk_mk ?_ fun c hc => ?_))⟩))
      · have : u.cps.toList.length = u.length := by simp [Str.length]
        simp only [List.length_flatten, List.map_replicate, List.sum_replicate_nat, this]
        rw [Nat.mul_comm]; exact c'.1
      · obtain ⟨l, hl, hc⟩ := List.mem_flatten.mp hc
        rw [(List.mem_replicate.mp hl).2] at hc
        exact h1.2 c hc
    · rename_i u w
      obtain ⟨c, e2⟩ := oif_ok e1
      cases e2
      obtain ⟨a1, xs, rfl, h1, h2⟩ := ha.tup_inv
      cases hb.int_inv
      simp only [decide_eq_true_eq] at c
      refine .inr (.inl ⟨a1, w, xs, rfl, rfl, xo.hK ▸ h1, c.1, c.2.1, by rw [h2.length]; exact c.2.2, fun h => ?_, fun _ p o hp hd => ?_⟩)
      · refine q2 _ ?_
        have e : (List.replicate w.toNat u).flatten = u := by
          rcases h with h | h
          · subst h; cases h2; simp
          · subst h; simp
        rw [e]; exact ha
      · exact Fin.tup q S P (Ka.trk2 Kb) (h2.rep _) hp hd
  · obtain ⟨xs, s1, e2, e3⟩ := bd_ok e
    obtain ⟨j, e4, e5⟩ := rs_ok e3
    obtain ⟨ys, e6, e7⟩ := rs_ok e5
    cases e7
    refine .inr (.inr (.inr ?_))
    obtain ⟨a, ns, rfl, Y, hm, nd, hy, hg, c0, cn, k1⟩ := kidsL_ok S P.flip Ka e2
    refine ⟨Y, hm, nd, fun H3 l3 => ?_⟩
    obtain ⟨A3, us, S3, P3, u1, u2, und, u3, u4, u6, u5⟩ := k1 H3 l3
    simp only [Option.bind_eq_some_iff] at e4
    obtain ⟨dj, f1, f2⟩ := e4
    cases dat_some f1
    cases asInt_some f2
    cases Kb.d_inv.int_inv
    unfold repL at e6
    simp only [Option.bind_eq_some_iff] at e6
    obtain ⟨ds, g1, g2⟩ := e6
    obtain ⟨c, g3⟩ := oif_ok g2
    cases g3
    have c' := of_decide_eq_true c
    have hm2 := HdL.mut u3
    refine ⟨adrs us, hm2, (List.nodup_cons.mp und).2, fun H4 l4 => ?_⟩
    have st4 := l4.stb hm2
    have rp : RpL L.K H4 (vsOf us) ds := HdL.frozen l4 st4 u3 (fun b hb => hb) (u1 ▸ g1)
    have hz : a ∉ adrs us := (List.nodup_cons.mp und).1
    have ha4 : H4 a = some (.lst (vsOf us)) := by rw [l4.1 a hz]; exact u4
    have nA : ∀ b ∈ adrs us, b ∉ adrS A3 := fun b hb h => nd_left P3.nd h (by simp [u2 b hb])
    have S4 : SR L H4 σ A3 s' τ := S3.heap st4 fun b hb => l4.1 b fun h => nA b h hb
    have P4 : Pst H A H4 A3 [] := by
      refine ⟨fun b o e q => ?_, fun b hb => P3.new b (by simp at hb; simp [hb]), by simpa using S3.nd⟩
      have w := P3.ext b o e q
      rw [l4.1 b fun h => ?_]; exact w
      rcases P3.new b (by simp [u2 b h]) with z | z
      · exact q z
      · rw [e] at z; cases z
    have rr := rp.rep j.toNat
    obtain ⟨i1, i2, i3, i4⟩ := imD_ok (L := L) rr
    refine ⟨a, _, vsOf us, rfl, rfl, ha4, by omega, by omega, ?_, fun p hp => ?_⟩
    · rw [rp.length]; exact c'.1
    · rw [← i2] at q
      have := Fin.lst q S4 P4 (fun b hb => by simp at hb) i4 (fun b hb => by rw [i3] at hb; simp at hb) (by rw [i3]; simp) hp
      rw [i1] at this
      exact this
end Vm
end
section
namespace Vm
open PySem L2

theorem val_ok {L : Lnk} {H : Hp} {σ : L2.St} {A : SA} {s : St} {τ : List V} {r : Rv} {y : Option MA} {v : V} {m : M} (S : SR L H σ A s τ) (K : RvOk L H A r y v) (e : s.val r = some m) : ∃ z : MA, z.er = m ∧ z.v = v ∧ Hd L H z := by
  cases r with
  | v m' =>
    obtain ⟨n, rfl, h1, h2, h3⟩ := K.v_inv
    cases e
    exact ⟨n, h1, h2, h3⟩
  | p p =>
    obtain ⟨rfl, o, h⟩ := K.p_inv
    obtain ⟨x, hx, hv⟩ := labS_pl h
    change s.get p = some m at e
    rw [S.get, hx] at e
    simp only [Option.map_some, Option.some.injEq] at e
    exact ⟨x, e, hv, S.pl_hd hx⟩
mutual
theorem Hd.dp {L : Lnk} {H : Hp} : ∀ {m : MA} {x : D}, Hd L H m → frz m.er = some x → x.hasDict = false → Dp L.K H m.v x
  | .im m v, x, h, e, n => by
    cases m with
    | d y => simp only [MA.er, frz, Option.some.injEq] at e; subst e; exact Rp.dp h n
    | lst _ => exact h.elim
    | dct _ => exact h.elim
    | _ => simp [MA.er, frz] at e
  | .lst a ms, x, h, e, n => by
    simp only [MA.er, frz, Option.map_eq_some_iff] at e
    obtain ⟨xs, e1, rfl⟩ := e
    exact .lst (.inl (.inl h.1)) (HdL.dp h.2 e1 (by simpa [PyData.hasDict] using n))
  | .dct a kvs, x, h, e, n => by
    simp only [MA.er, frz, Option.map_eq_some_iff] at e
    obtain ⟨xs, e1, rfl⟩ := e
    simp [PyData.hasDict] at n
  | .obj a c fs, x, h, e, n => by simp [MA.er, frz] at e
theorem HdL.dp {L : Lnk} {H : Hp} : ∀ {ms : List MA} {xs : List D}, HdL L H ms → frzs (ers ms) = some xs → PyData.hasDictAll xs = false → DpAll L.K H (vsOf ms) xs
  | [], xs, h, e, n => by simp [ers, frzs] at e; subst e; exact .nil
  | m :: ms, xs, h, e, n => by
    simp only [ers, frzs, Option.bind_eq_some_iff] at e
    obtain ⟨x, e1, xs', e2, e3⟩ := e
    simp at e3; subst e3
    simp only [PyData.hasDictAll, Bool.or_eq_false_iff] at n
    exact .cons (Hd.dp h.1 e1 n.1) (HdL.dp h.2 e2 n.2)
end
mutual
theorem Rp.lay {K : PySem.W.Frag} {H : Hp} : ∀ {v : V} {x : D}, Rp K H v x → x.hasDict = false → x.canLay0 = true
  | _, _, .non, _ => rfl
  | _, _, .bl _, _ => rfl
  | _, _, .int _, _ => rfl
  | _, _, .str x h, _ => by
    simp only [PyData.canLay0]
    unfold PyData.strOk
    rw [Array.all_eq_true']
    intro c hc
    exact decide_eq_true (h.2 c (by simpa using hc))
  | _, _, .lst _ r, n => by simp only [PyData.canLay0]; exact RpL.lay r (by simpa [PyData.hasDict] using n)
  | _, _, .tup _ r, n => by simp only [PyData.canLay0]; exact RpL.lay r (by simpa [PyData.hasDict] using n)
  | _, _, .dct _ _, n => by simp [PyData.hasDict] at n
theorem RpL.lay {K : PySem.W.Frag} {H : Hp} : ∀ {v : List V} {x : List D}, RpL K H v x → PyData.hasDictAll x = false → PyData.canLayAll0 x = true
  | _, _, .nil, _ => rfl
  | _, _, .cons h r, n => by
    simp only [PyData.hasDictAll, Bool.or_eq_false_iff] at n
    simp only [PyData.canLayAll0, Rp.lay h n.1, RpL.lay r n.2, Bool.and_self]
end
mutual
theorem Hd.lay {L : Lnk} {H : Hp} : ∀ {m : MA} {x : D}, Hd L H m → frz m.er = some x → x.hasDict = false → x.canLay0 = true
  | .im m v, x, h, e, n => by
    cases m with
    | d y => simp only [MA.er, frz, Option.some.injEq] at e; subst e; exact Rp.lay h n
    | lst _ => exact h.elim
    | dct _ => exact h.elim
    | _ => simp [MA.er, frz] at e
  | .lst a ms, x, h, e, n => by
    simp only [MA.er, frz, Option.map_eq_some_iff] at e
    obtain ⟨xs, e1, rfl⟩ := e
    simp only [PyData.canLay0]
    exact HdL.lay h.2 e1 (by simpa [PyData.hasDict] using n)
  | .dct a kvs, x, h, e, n => by
    simp only [MA.er, frz, Option.map_eq_some_iff] at e
    obtain ⟨xs, e1, rfl⟩ := e
    simp [PyData.hasDict] at n
  | .obj a c fs, x, h, e, n => by simp [MA.er, frz] at e
theorem HdL.lay {L : Lnk} {H : Hp} : ∀ {ms : List MA} {xs : List D}, HdL L H ms → frzs (ers ms) = some xs → PyData.hasDictAll xs = false → PyData.canLayAll0 xs = true
  | [], xs, h, e, n => by simp [ers, frzs] at e; subst e; rfl
  | m :: ms, xs, h, e, n => by
    simp only [ers, frzs, Option.bind_eq_some_iff] at e
    obtain ⟨x, e1, xs', e2, e3⟩ := e
    simp at e3; subst e3
    simp only [PyData.hasDictAll, Bool.or_eq_false_iff] at n
    simp only [PyData.canLayAll0, Hd.lay h.1 e1 n.1, HdL.lay h.2 e2 n.2, Bool.and_self]
end
theorem isSc_shal {x : D} (h : isSc x = true) : x.hasDict = false ∧ shal x = true := by
  cases x <;> simp [isSc] at h <;> exact ⟨by simp [PyData.hasDict], by simp [shal, PyData.depth]⟩
theorem eqOk_ok {x y : D} (h : eqOk x y = true) : (x.hasDict = false ∧ y.hasDict = false ∧ (x.depth ≤ 64 ∨ y.depth ≤ 64)) ∨ (seS x = true ∧ emS y = true) := by
  simp only [eqOk, Bool.or_eq_true, Bool.and_eq_true, Bool.not_eq_true'] at h
  rcases h with (⟨h1, h2⟩ | ⟨⟨h1, h2⟩, h3⟩) | ⟨h1, h2⟩
  · exact .inl ⟨(isSc_shal h1).1, (isSc_shal h2).1, .inl (of_decide_eq_true (isSc_shal h1).2)⟩
  · refine .inl ⟨h1, h2, ?_⟩
    rcases h3 with h3 | h3
    · exact .inl (of_decide_eq_true h3)
    · exact .inr (of_decide_eq_true h3)
  · exact .inr ⟨h1, h2⟩
def SqA (K : PySem.W.Frag) (H : Hp) (t : Bool) (a : Addr) (xs : List V) : Prop := match t with | true => SqT K H a xs | false => SqL K H a xs
def rEqS (K : PySem.W.Frag) (g : Bool → Bool) : R2 := fun x y H Q => ∃ (a b : Addr) (xs : List V) (t u : Bool), x = .ref a ∧ y = .ref b ∧ SqA K H t a xs ∧ SqA K H u b [] ∧ Q (.bl (g (t == u && xs.isEmpty))) H
theorem sq_size {xs : List V} {its : List Value} (h : Vals xs its) : its.toArray.size = xs.length := by simp [h.length]
theorem op_eqS {X : Cx} (hu : X.A.units + 64 < cLine) : OpR X (compareOp .Eq) (rEqS X.K id) := by
  intro pins s σ H x y v u Q I rx ry h
  obtain ⟨a, b, xs, t, u, rfl, rfl, h1, h2, q⟩ := h
  obtain rfl : v = .ref a := rx
  have eu : _ = Value.ref b := ry
  subst eu
  have hu' : X.A.units < cLine := by omega
  cases t <;> cases u
  · obtain ⟨i1, r1, p1, _⟩ := I.list h1
    obtain ⟨i2, r2, p2, _⟩ := I.list h2
    have s1 := sq_size r1
    have s2 : i2.toArray.size = 0 := sq_size r2
    cases xs with
    | nil =>
      have s1' : i1.toArray.size = 0 := s1
      have := SeqAt.RcAt.lists (A := X.A) (e := fun _ => true) p1.isList p2.isList (by omega) hu' (fun j j1 j2 => by omega)
      exact this X.prog X.w _ _ (by rw [s1']; exact ⟨.bl _, H, I, rfl, q⟩)
    | cons z zs =>
      have s1' : i1.toArray.size = zs.length + 1 := by simpa using s1
      exact SeqAt.RcAt.lists_lengths (A := X.A) p1.isList p2.isList (by rw [s1', s2]; rfl) hu' X.prog X.w _ _ ⟨.bl _, H, I, rfl, q⟩
  · obtain ⟨i1, r1, p1, _⟩ := I.list h1
    obtain ⟨i2, r2, p2, _⟩ := I.tuple h2
    exact SeqAt.RcAt.list_tuple p1.isList p2 hu' X.prog X.w _ _ ⟨.bl _, H, I, rfl, q⟩
  · obtain ⟨i1, r1, p1, _⟩ := I.tuple h1
    obtain ⟨i2, r2, p2, _⟩ := I.list h2
    exact SeqAt.RcAt.tuple_list p1 p2.isList hu' X.prog X.w _ _ ⟨.bl _, H, I, rfl, q⟩
  · obtain ⟨i1, r1, p1, _⟩ := I.tuple h1
    obtain ⟨i2, r2, p2, _⟩ := I.tuple h2
    have s1 := sq_size r1
    have s2 : i2.toArray.size = 0 := sq_size r2
    have := SeqAt.RcAt.tuples (A := X.A) (e := fun _ => true) p1 p2 hu' (fun j j1 j2 => by omega)
    refine this X.prog X.w _ _ ?_
    rw [s1, s2]
    cases xs with
    | nil => exact ⟨.bl _, H, I, rfl, q⟩
    | cons z zs => exact ⟨.bl _, H, I, rfl, q⟩
theorem op_neS {X : Cx} (hu : X.A.units + 64 < cLine) : OpR X (compareOp .NotEq) (rEqS X.K not) := by
  intro pins s σ H x y v u Q I rx ry h
  obtain ⟨a, b, xs, t, u, rfl, rfl, h1, h2, q⟩ := h
  obtain rfl : v = .ref a := rx
  have eu : _ = Value.ref b := ry
  subst eu
  have hu' : X.A.units < cLine := by omega
  cases t <;> cases u
  · obtain ⟨i1, r1, p1, _⟩ := I.list h1
    obtain ⟨i2, r2, p2, _⟩ := I.list h2
    have s1 := sq_size r1
    have s2 : i2.toArray.size = 0 := sq_size r2
    cases xs with
    | nil =>
      have s1' : i1.toArray.size = 0 := s1
      have := SeqAt.RcNeAt.lists (A := X.A) (e := fun _ => true) p1.isList p2.isList (by omega) hu' (fun j j1 j2 => by omega)
      exact this X.prog X.w _ _ (by rw [s1']; exact ⟨.bl _, H, I, rfl, q⟩)
    | cons z zs =>
      have s1' : i1.toArray.size = zs.length + 1 := by simpa using s1
      exact SeqAt.RcNeAt.lists_lengths (A := X.A) p1.isList p2.isList (by rw [s1', s2]; rfl) hu' X.prog X.w _ _ ⟨.bl _, H, I, rfl, q⟩
  · obtain ⟨i1, r1, p1, _⟩ := I.list h1
    obtain ⟨i2, r2, p2, _⟩ := I.tuple h2
    exact SeqAt.RcNeAt.list_tuple p1.isList p2 hu' X.prog X.w _ _ ⟨.bl _, H, I, rfl, q⟩
  · obtain ⟨i1, r1, p1, _⟩ := I.tuple h1
    obtain ⟨i2, r2, p2, _⟩ := I.list h2
    exact SeqAt.RcNeAt.tuple_list p1 p2.isList hu' X.prog X.w _ _ ⟨.bl _, H, I, rfl, q⟩
  · obtain ⟨i1, r1, p1, _⟩ := I.tuple h1
    obtain ⟨i2, r2, p2, _⟩ := I.tuple h2
    have s1 := sq_size r1
    have s2 : i2.toArray.size = 0 := sq_size r2
    have := SeqAt.RcNeAt.tuples (A := X.A) (e := fun _ => true) p1 p2 hu' (fun j j1 j2 => by omega)
    refine this X.prog X.w _ _ ?_
    rw [s1, s2]
    cases xs with
    | nil => exact ⟨.bl _, H, I, rfl, q⟩
    | cons z zs => exact ⟨.bl _, H, I, rfl, q⟩
theorem frzs_lenA : ∀ {ms : List MA} {xs : List D}, frzs (ers ms) = some xs → xs.length = (vsOf ms).length
  | [], xs, e => by simp [ers, frzs] at e; subst e; rfl
  | m :: ms, xs, e => by
    simp only [ers, frzs, Option.bind_eq_some_iff] at e
    obtain ⟨x, _, xs', e2, e3⟩ := e
    simp at e3; subst e3
    have := frzs_lenA e2
    simp only [vsOf, List.map_cons, List.length_cons, List.length_map] at this ⊢
    omega
theorem Hd.seq {L : Lnk} {H : Hp} {m : MA} {x : D} (h : Hd L H m) (e : frz m.er = some x) (hs : seS x = true) : ∃ (a : Addr) (xs : List V) (t : Bool), m.v = .ref a ∧ SqA L.K H t a xs ∧ ((t = true ∧ ∃ ds, x = .tuple ds ∧ ds.length = xs.length) ∨ (t = false ∧ ∃ ds, x = .list ds ∧ ds.length = xs.length)) := by
  cases m with
  | im m v =>
    cases m with
    | d y =>
      simp only [MA.er, frz, Option.some.injEq] at e
      subst e
      have h' : Rp L.K H v y := h
      cases h' with
      | lst s r => exact ⟨_, _, false, rfl, s.sql, .inr ⟨rfl, _, rfl, (RpL.length r).symm⟩⟩
      | tup s r => exact ⟨_, _, true, rfl, s.sqt, .inl ⟨rfl, _, rfl, (RpL.length r).symm⟩⟩
      | _ => simp [seS] at hs
    | lst _ => exact h.elim
    | dct _ => exact h.elim
    | _ => simp [MA.er, frz] at e
  | lst a ms =>
    simp only [MA.er, frz, Option.map_eq_some_iff] at e
    obtain ⟨xs, e1, rfl⟩ := e
    exact ⟨a, vsOf ms, false, rfl, .inl (.inl h.1), .inr ⟨rfl, xs, rfl, frzs_lenA e1⟩⟩
  | dct a ms =>
    simp only [MA.er, frz, Option.map_eq_some_iff] at e
    obtain ⟨xs, e1, rfl⟩ := e
    simp [seS] at hs
  | obj a c ms => simp [MA.er, frz] at e
  | dnn a ms => simp [MA.er, frz] at e
def rEqW (K : PySem.W.Frag) (g : Bool → Bool) : R2 := fun x y H Q => ∃ d e, Dp K H x d ∧ Dp K H y e ∧ d.canLay0 = true ∧ e.canLay0 = true ∧ (d.depth ≤ 64 ∨ e.depth ≤ 64) ∧ Q (.bl (g (PyData.eqv d e))) H
theorem op_eqW {X : Cx} (hu : X.A.units + 64 < cLine) : OpR X (compareOp .Eq) (rEqW X.K id) := by
  intro pins s σ H x y v u Q I rx ry h
  obtain ⟨d, e, hd, he, sd, se, hm, q⟩ := h
  obtain ⟨as, r1⟩ := Dp.reads I d x v hd rx
  obtain ⟨bs, r2⟩ := Dp.reads I e y u he ry
  exact SeqAt.compareEq_reads r1 r2 sd se (by omega) ⟨.bl _, H, I, rfl, q⟩
theorem op_neW {X : Cx} (hu : X.A.units + 64 < cLine) : OpR X (compareOp .NotEq) (rEqW X.K not) := by
  intro pins s σ H x y v u Q I rx ry h
  obtain ⟨d, e, hd, he, sd, se, hm, q⟩ := h
  obtain ⟨as, r1⟩ := Dp.reads I d x v hd rx
  obtain ⟨bs, r2⟩ := Dp.reads I e y u he ry
  exact SeqAt.compareNe_reads r1 r2 sd se (by omega) ⟨.bl _, H, I, rfl, q⟩
def rInW (K : PySem.W.Frag) (g : Bool → Bool) : R2 := fun x y H Q => ∃ d ds, Dp K H x d ∧ (Dp K H y (.list ds) ∨ Dp K H y (.tuple ds)) ∧ d.canLay0 = true ∧ PyData.canLayAll0 ds = true ∧ d.depth ≤ 64 ∧ Q (.bl (g (ds.any fun z => PyData.eqv z d))) H
theorem op_inW {X : Cx} (hu : X.A.units + 65 < cLine) : OpR X (compareOp .In) (rInW X.K id) := by
  intro pins s σ H x y v u Q I rx ry h
  obtain ⟨d, ds, hd, he, sd, se, hm, q⟩ := h
  obtain ⟨as, r1⟩ := Dp.reads I d x v hd rx
  rcases he with he | he
  · obtain ⟨bs, r2⟩ := Dp.reads I _ y u he ry
    exact SeqAt.in_list_reads r2 r1 se sd (by omega) ⟨.bl _, H, I, rfl, q⟩
  · obtain ⟨bs, r2⟩ := Dp.reads I _ y u he ry
    exact SeqAt.in_tuple_reads r2 r1 se sd (by omega) ⟨.bl _, H, I, rfl, q⟩
theorem op_notInW {X : Cx} (hu : X.A.units + 65 < cLine) : OpR X (compareOp .NotIn) (rInW X.K not) := by
  intro pins s σ H x y v u Q I rx ry h
  obtain ⟨d, ds, hd, he, sd, se, hm, q⟩ := h
  obtain ⟨as, r1⟩ := Dp.reads I d x v hd rx
  rcases he with he | he
  · obtain ⟨bs, r2⟩ := Dp.reads I _ y u he ry
    exact SeqAt.notIn_list_reads r2 r1 se sd (by omega) ⟨.bl _, H, I, rfl, q⟩
  · obtain ⟨bs, r2⟩ := Dp.reads I _ y u he ry
    exact SeqAt.notIn_tuple_reads r2 r1 se sd (by omega) ⟨.bl _, H, I, rfl, q⟩
theorem toKey_kV {K : PySem.W.Frag} {H : Hp} {v : V} {d : D} {k : Key} (h : Rp K H v d) (e : toKey d = some k) : v = kV k := by
  cases h <;> simp [toKey] at e <;> subst e <;> rfl
theorem isKK_to {d : D} (h : isKK d = true) : ∃ k, toKey d = some k := by
  cases d <;> simp [isKK] at h <;> exact ⟨_, rfl⟩
theorem eqv_toKey {j k : D} {a b : Key} (hj : toKey j = some a) (hk : toKey k = some b) : PyData.eqv j k = decide (a = b) := by
  have := eqv_key j k (toKey_isKey hj) (toKey_isKey hk)
  by_cases h : a = b
  · subst h
    rw [toKey_inj hj hk] at this ⊢
    rw [decide_eq_true rfl]
    exact (eqv_key k k (toKey_isKey hk) (toKey_isKey hk)).mpr rfl
  · rw [decide_eq_false h]
    cases e : PyData.eqv j k with
    | false => rfl
    | true =>
      have := this.mp e
      subst this
      rw [hj] at hk; cases hk
      exact absurd rfl h
theorem valV_cons {k a : Key} {v : V} {l : List (Key × V)} : valV ((a, v) :: l) k = if a = k then some v else valV l k := by
  unfold valV
  simp only [List.find?_cons]
  by_cases h : a = k
  · simp [h]
  · simp [h]
theorem lk_valK {K : PySem.W.Frag} {H : Hp} {d : D} {k : Key} (hk : toKey d = some k) : ∀ {kvs : List (Key × V)} {ds : List (D × D)}, RpK K H kvs ds → (∀ x, lkD d ds = some x → ∃ v, valV kvs k = some v ∧ Rp K H v x) ∧ (lkD d ds = none → valV kvs k = none)
  | _, _, .nil => ⟨fun x h => by simp [lkD] at h, fun _ => rfl⟩
  | _, _, .cons e h r => by
    obtain ⟨i1, i2⟩ := lk_valK hk r
    simp only [lkD, eqv_toKey e hk, valV_cons]
    split
    · rename_i q
      have q' := of_decide_eq_true q
      rw [if_pos q']
      exact ⟨fun x hx => by cases hx; exact ⟨_, rfl, h⟩, fun hx => by cases hx⟩
    · rename_i q
      have q' : ¬ _ = _ := fun e => q (decide_eq_true e)
      rw [if_neg q']
      exact ⟨i1, i2⟩
theorem lk_valT {L : Lnk} {d : D} {k : Key} (hk : toKey d = some k) : ∀ {kvs : List (Key × V)} {ds : List (D × Nat)}, TabK L kvs ds → (∀ n, lkD d ds = some n → ∃ f, L.fa n = some f ∧ valV kvs k = some (.ref f)) ∧ (lkD d ds = none → valV kvs k = none)
  | _, _, .nil => ⟨fun x h => by simp [lkD] at h, fun _ => rfl⟩
  | _, _, .cons e h r => by
    obtain ⟨i1, i2⟩ := lk_valT hk r
    simp only [lkD, eqv_toKey e hk, valV_cons]
    split
    · rename_i q
      have q' := of_decide_eq_true q
      rw [if_pos q']
      exact ⟨fun x hx => by cases hx; exact ⟨_, h, rfl⟩, fun hx => by cases hx⟩
    · rename_i q
      have q' : ¬ _ = _ := fun e => q (decide_eq_true e)
      rw [if_neg q']
      exact ⟨i1, i2⟩
theorem lk_valM {d : D} {k : Key} (hk : toKey d = some k) : ∀ {kvs : List (D × MA)} {l : List (Key × V)}, kvOf kvs = some l → valV l k = (lkD d kvs).map MA.v
  | [], l, e => by simp [kvOf] at e; subst e; rfl
  | (j, m) :: r, l, e => by
    simp only [kvOf, Option.bind_eq_some_iff] at e
    obtain ⟨a, h1, l', h2, h3⟩ := e
    simp at h3; subst h3
    simp only [lkD, eqv_toKey h1 hk, valV_cons]
    by_cases q : a = k
    · simp [q]
    · simp only [q, if_false, decide_false, Bool.false_eq_true]
      exact lk_valM hk h2
end Vm
end
section
namespace Vm
open PySem L2 PySem.Spec PyProof.Rows
mutual
theorem nk_data : ∀ x : D, isKey x = true → (nkD x).data = x
  | .none, _ => rfl | .int _, _ => rfl | .str _, _ => rfl
  | .tuple xs, h => by
    simp only [nkD, NestedKey.data]
    rw [nks_data xs (by simpa [isKey] using h)]
  | .bool _, h => by simp [isKey] at h
  | .list _, h => by simp [isKey] at h
  | .dict _, h => by simp [isKey] at h
theorem nks_data : ∀ xs : List D, isKeys xs = true → NestedKey.datas (nkDs xs) = xs
  | [], _ => rfl
  | x :: xs, h => by
    simp only [isKeys, Bool.and_eq_true] at h
    simp only [nkDs, NestedKey.datas]
    rw [nk_data x h.1, nks_data xs h.2]
end
theorem nk_inj {x y : D} (hx : isKey x = true) (hy : isKey y = true) (h : nkD x = nkD y) : x = y := by
  rw [← nk_data x hx, ← nk_data y hy, h]
mutual
theorem nk_depth : ∀ x : D, (nkD x).depth ≤ x.depth
  | .none => by simp [nkD, NestedKey.depth]
  | .int _ => by simp [nkD, NestedKey.depth]
  | .str _ => by simp [nkD, NestedKey.depth]
  | .tuple xs => by
    have := nks_depth xs
    simp only [nkD, NestedKey.depth, PyData.depth]
    omega
  | .bool _ => by simp [nkD, NestedKey.depth]
  | .list _ => by simp [nkD, NestedKey.depth]
  | .dict _ => by simp [nkD, NestedKey.depth]
theorem nks_depth : ∀ xs : List D, NestedKey.depthAll (nkDs xs) ≤ PyData.depthAll xs
  | [] => by simp [nkDs, NestedKey.depthAll]
  | x :: xs => by
    have h1 := nk_depth x
    have h2 := nks_depth xs
    simp only [nkDs, NestedKey.depthAll, PyData.depthAll]
    omega
end
theorem isNK_tup {x : D} (h : isNK x = true) : ∃ xs, x = .tuple xs ∧ isKey x = true ∧ (nkD x).depth ≤ 8 := by
  cases x with
  | tuple xs =>
    simp only [isNK, Bool.and_eq_true, decide_eq_true_eq] at h
    exact ⟨xs, rfl, by simpa [isKey] using h.1, Nat.le_trans (nk_depth _) h.2⟩
  | _ => simp [isNK] at h
theorem isNK_key {x : D} (h : isNK x = true) : isKey x = true := by obtain ⟨_, _, h, _⟩ := isNK_tup h; exact h
mutual
theorem Rp.nested {P : Program} {w : World} {K : PySem.W.Frag} {H : Hp} {h : Heap} (KX : K.In h) (ok : HOk P w H h) : ∀ {v : V} {d : D}, Rp K H v d → isKey d = true → ∀ {u : Value}, RelV v u → NestedIs h (nkD d) u
  | _, _, .non, _, u, r => by
    have : u = Value.none := r
    subst this; exact .none
  | _, _, .bl _, k, _, _ => by simp [isKey] at k
  | _, _, .int i, _, u, r => by
    obtain ⟨t, rfl⟩ := (show ∃ t, u = Value.int i t from r)
    exact .int i t
  | _, _, .str x _, _, u, r => by
    obtain ⟨t, rfl⟩ := (show ∃ t, u = Value.str x t from r)
    exact .text x t
  | _, _, .lst _ _, k, _, _ => by simp [isKey] at k
  | _, _, .dct _ _, k, _, _ => by simp [isKey] at k
  | _, .tuple ds, .tup (a := a) (xs := xs) hs hr, k, u, r => by
    have : u = Value.ref a := r
    subst this
    have k' : isKeys ds = true := by simpa [isKey] using k
    rcases hs with ⟨o, e, _⟩ | ⟨o, its, n, e1, e2, e3, _, e5, _⟩
    · obtain ⟨g, _, its, rv, o', q1, q2, n, q3⟩ := ok a _ e
      exact .tup q1 q2 q3 (RpL.nested KX ok hr k' (by simpa using rv))
    · exact .tup (KX a o e1) e2 e3 (RpL.nested KX ok hr k' e5)
theorem RpL.nested {P : Program} {w : World} {K : PySem.W.Frag} {H : Hp} {h : Heap} (KX : K.In h) (ok : HOk P w H h) : ∀ {vs : List V} {ds : List D}, RpL K H vs ds → isKeys ds = true → ∀ {us : List Value}, Vals vs us → NestedAll h (nkDs ds) us
  | _, _, .nil, _, _, r => by cases r; exact .nil
  | _, _, .cons x y, k, us, r => by
    simp only [isKeys, Bool.and_eq_true] at k
    cases r with
    | cons a b => exact .cons (Rp.nested KX ok x k.1 a) (RpL.nested KX ok y k.2 b)
end
abbrev NL := List (NestedKey × Addr × V)
abbrev XR (l : NL) (xs : List (NestedKey × Addr × Value)) : Prop := Paired (fun p q => q.1 = p.1 ∧ q.2.1 = p.2.1 ∧ RelV p.2.2 q.2.2) l xs
theorem ent_xr {P : Program} {w : World} : ∀ {l : NL} {es : List DictEntry}, Paired (NEnt (NestedKey.hash w)) l es → ∃ xs, es = xs.map (entryOfKey (nestedKind P w)) ∧ XR l xs
  | _, _, .nil => ⟨[], rfl, .nil⟩
  | _, _, .cons (a := p) (b := e) h t => by
    obtain ⟨xs, e1, e2⟩ := ent_xr (P := P) t
    obtain ⟨h1, h2, h3⟩ := h
    refine ⟨(p.1, p.2.1, e.val) :: xs, ?_, .cons ⟨rfl, rfl, h3⟩ e2⟩
    rw [List.map_cons, ← e1]
    congr 1
    obtain ⟨eh, ek, ev⟩ := e
    cases h1; cases h2
    rfl
theorem xr_ent {P : Program} {w : World} : ∀ {l : NL} {xs : List (NestedKey × Addr × Value)}, XR l xs → Paired (NEnt (NestedKey.hash w)) l (xs.map (entryOfKey (nestedKind P w)))
  | _, _, .nil => .nil
  | _, _, .cons (a := p) (b := q) h t => by
    obtain ⟨h1, h2, h3⟩ := h
    refine .cons ⟨?_, ?_, h3⟩ (xr_ent t)
    · show (nestedKind P w).hash q.1 = _
      rw [h1]; rfl
    · show Value.ref q.2.1 = _
      rw [h2]
theorem nraw_new {P : Program} {w : World} {H : Hp} {h : Heap} {a : Addr} {l : NL} {xs : List (NestedKey × Addr × Value)} (hd : (a == sysModules) = false) (m : h.DictOfH (nestedKind P w) a xs) (r : XR l xs) : ObjOk P w H h a (NRaw (NestedKey.hash w) a l) := by
  obtain ⟨o, es, ep, h1, h2, h3, h4, _⟩ := m
  refine ⟨⟨hd, o, es, ep, h1, h2, h3, by rw [h4]; exact xr_ent r⟩, ⟨o, h1⟩, ?_⟩
  rintro g1 g2 ⟨k0, o', es', ep', k1, k2, k3, k4⟩ st
  exact ⟨k0, o', es', ep', st _ k1, k2, k3, k4⟩
section
variable {L : Lnk} {X : Cx} {k : Nat}
theorem np_is {P : Program} {w : World} {K : PySem.W.Frag} {H : Hp} {h : Heap} (KX : K.In h) (ok : HOk P w H h) : ∀ {l : NL} {kvs : List (D × D)} {xs : List (NestedKey × Addr × Value)}, NP K H l kvs → XR l xs → ∀ x ∈ xs, (nestedKind P w).is h x.1 x.2.1
  | _, _, _, .nil, .nil, x, hx => by simp at hx
  | _, _, _, .cons (b := q) n t, .cons (b := y) r u, x, hx => by
    rcases List.mem_cons.mp hx with rfl | hx
    · obtain ⟨n1, n2, n3, _⟩ := n
      obtain ⟨r1, r2, _⟩ := r
      rw [r1, r2, n1]
      exact ⟨Rp.nested KX ok n3 (isNK_key n2) rfl, by obtain ⟨_, _, _, z⟩ := isNK_tup n2; exact z⟩
    · exact np_is KX ok t u x hx
theorem np_nodup {K : PySem.W.Frag} {H : Hp} : ∀ {l : NL} {kvs : List (D × D)} {xs : List (NestedKey × Addr × Value)}, NP K H l kvs → XR l xs → (kvs.map (·.1)).Nodup → (xs.map (·.1)).Nodup
  | _, _, _, .nil, .nil, _ => by simp
  | _, _, _, .cons (b := q) n t, .cons (b := y) r u, nd => by
    simp only [List.map_cons, List.nodup_cons] at nd ⊢
    refine ⟨fun h => nd.1 ?_, np_nodup t u nd.2⟩
    obtain ⟨n1, n2, _⟩ := n
    obtain ⟨r1, _⟩ := r
    rw [r1, n1] at h
    clear nd
    revert h t u
    intro t u h
    have go : ∀ {l : NL} {kvs : List (D × D)} {xs : List (NestedKey × Addr × Value)}, NP K H l kvs → XR l xs → nkD q.1 ∈ xs.map (·.1) → q.1 ∈ kvs.map (·.1) := by
      intro l kvs xs t
      induction t generalizing xs with
      | nil => intro u h; cases u; simp at h
      | cons a b ih =>
        intro u h
        cases u with
        | cons c d =>
          simp only [List.map_cons, List.mem_cons] at h ⊢
          rcases h with h | h
          · left
            rw [c.1, a.1] at h
            exact nk_inj (isNK_key n2) (isNK_key a.2.1) h
          · exact .inr (ih d h)
    exact go t u h
theorem nraw_rd {pins : List (Addr × Obj)} {σ : L2.St} {H : Hp} {s : Shared} {a : Addr} {l : NL} {kvs : List (D × D)} (xo : XO L X k) (I : Inv X pins σ H s) (e : H a = some (NRaw L.hw a l)) (n : NP L.K H l kvs) (nd : (kvs.map (·.1)).Nodup) :
    (a == sysModules) = false ∧ ∃ xs, s.heap.DictOfH (nestedKind X.prog X.w) a xs ∧ XR l xs := by
  obtain ⟨⟨hd, o, es, ep, h1, h2, h3, h4⟩, _, _⟩ := I.hok a _ e
  rw [xo.hw] at h4
  obtain ⟨xs, g1, g2⟩ := ent_xr (P := X.prog) h4
  have KX : L.K.In s.heap := xo.hK ▸ I.kIn
  exact ⟨hd, xs, ⟨o, es, ep, h1, h2, h3, g1, np_is KX I.hok n g2, np_nodup n g2 nd⟩, g2⟩
theorem np_lk {K : PySem.W.Frag} {H : Hp} {j : D} (hj : isNK j = true) : ∀ {l : NL} {kvs : List (D × D)} {xs : List (NestedKey × Addr × Value)}, NP K H l kvs → XR l xs →
    (lkD j kvs = none ∧ atKey xs (nkD j) = none) ∨ ∃ y b u v, lkD j kvs = some y ∧ atKey xs (nkD j) = some (b, u) ∧ RelV v u ∧ Rp K H v y
  | _, _, _, .nil, .nil => .inl ⟨rfl, rfl⟩
  | _, _, _, .cons (a := p) (b := q) n t, .cons (b := y) r u => by
    obtain ⟨n1, n2, n3, n4⟩ := n
    obtain ⟨r1, r2, r3⟩ := r
    have key : PyData.eqv q.1 j = decide (y.1 = nkD j) := by
      by_cases h : q.1 = j
      · rw [(eqv_key _ _ (isNK_key n2) (isNK_key hj)).mpr h, decide_eq_true]
        rw [r1, n1, h]
      · rw [decide_eq_false]
        · cases e : PyData.eqv q.1 j with
          | false => rfl
          | true => exact absurd ((eqv_key _ _ (isNK_key n2) (isNK_key hj)).mp e) h
        · intro z
          rw [r1, n1] at z
          exact h (nk_inj (isNK_key n2) (isNK_key hj) z)
    obtain ⟨qk, qv⟩ := q
    simp only [lkD, atKey, List.find?_cons]
    simp only at key
    rw [key]
    by_cases h : y.1 = nkD j
    · rw [decide_eq_true h]
      exact .inr ⟨qv, y.2.1, y.2.2, p.2.2, by simp, by simp, r3, n4⟩
    · rw [decide_eq_false h]
      simpa [atKey] using np_lk hj t u
def NAt (L : Lnk) (H : Hp) (a : Addr) (x : V) (j : D) (kvs : List (D × D)) : Prop := ∃ l, H a = some (NRaw L.hw a l) ∧ NP L.K H l kvs ∧ (kvs.map (·.1)).Nodup ∧ isNK j = true ∧ Rp L.K H x j
theorem nat_key {pins : List (Addr × Obj)} {σ : L2.St} {H : Hp} {s : Shared} {x : V} {j : D} {u : Value} (xo : XO L X k) (I : Inv X pins σ H s) (hj : isNK j = true) (hx : Rp L.K H x j) (r : RelV x u) : ∃ b, u = .ref b ∧ (nestedKind X.prog X.w).is s.heap (nkD j) b := by
  have KX : L.K.In s.heap := xo.hK ▸ I.kIn
  obtain ⟨xs, rfl, h2, h3⟩ := isNK_tup hj
  obtain ⟨b, vs, rfl, _, _⟩ := hx.tup_inv
  obtain rfl : u = Value.ref b := r
  exact ⟨b, rfl, Rp.nested KX I.hok hx h2 rfl, h3⟩
theorem xo_room {X : Cx} {k : Nat} {L : Lnk} (xo : XO L X k) : (nestedKind X.prog X.w).room X.A.in1 := by
  have := xo.un
  show X.A.in1.units + 8 < cLine
  rw [Around.in1_units]
  omega
def rInN (L : Lnk) (g : Bool → Bool) : R2 := fun x y H Q => ∃ a j kvs, y = .ref a ∧ NAt L H a x j kvs ∧ Q (.bl (g (lkD j kvs).isSome)) H
theorem op_inN (xo : XO L X k) : OpR X (compareOp .In) (rInN L id) := by
  intro pins s σ H x y v u Q I rx ry h
  obtain ⟨a, j, kvs, rfl, ⟨l, e, n, nd, hj, hx⟩, q⟩ := h
  cases ry
  obtain ⟨hd, xs, m, r⟩ := nraw_rd xo I e n nd
  obtain ⟨b, rfl, hk⟩ := nat_key xo I hj hx rx
  refine wpAny_in_heap (xo_room xo) hk hd m ⟨.bl (lkD j kvs).isSome, H, I.tok _, ?_, q⟩
  rcases np_lk hj n r with ⟨e1, e2⟩ | ⟨y, b', u', v', e1, e2, _⟩ <;> rw [e1, e2] <;> rfl
theorem op_notInN (xo : XO L X k) : OpR X (compareOp .NotIn) (rInN L not) := by
  intro pins s σ H x y v u Q I rx ry h
  obtain ⟨a, j, kvs, rfl, ⟨l, e, n, nd, hj, hx⟩, q⟩ := h
  cases ry
  obtain ⟨hd, xs, m, r⟩ := nraw_rd xo I e n nd
  obtain ⟨b, rfl, hk⟩ := nat_key xo I hj hx rx
  refine notIn_keyed (knd := nestedKind X.prog X.w) (xo_room xo) hk hd ⟨xs, m, rfl⟩ ⟨.bl (!(lkD j kvs).isSome), H, I.tok _, ?_, q⟩
  rw [valueAt_pairsH]
  rcases np_lk hj n r with ⟨e1, e2⟩ | ⟨y, b', u', v', e1, e2, _⟩ <;> rw [e1, e2] <;> rfl
def putL (l : NL) (k : NestedKey) (a : Addr) (v : V) : NL := if (l.any fun p => decide (p.1 = k)) = true then l.map (fun p => if p.1 = k then (p.1, p.2.1, v) else p) else l ++ [(k, a, v)]
theorem xr_any {l : NL} {xs : List (NestedKey × Addr × Value)} (r : XR l xs) (k : NestedKey) : (l.any fun p => decide (p.1 = k)) = (atKey xs k).isSome := by
  induction r with
  | nil => rfl
  | cons h t ih =>
    simp only [List.any_cons, atKey, List.find?_cons]
    rw [h.1]
    split <;> rename_i e
    · simp [e]
    · rw [e, Bool.false_or, ih]; rfl
theorem xr_map {k : NestedKey} {v : V} {u : Value} (rv : RelV v u) {l : NL} {xs : List (NestedKey × Addr × Value)} (r : XR l xs) : XR (l.map fun p => if p.1 = k then (p.1, p.2.1, v) else p) (xs.map (putAt k u)) := by
  induction r with
  | nil => exact .nil
  | @cons p q ps qs h t ih =>
    rw [List.map_cons, List.map_cons]
    refine .cons ?_ ih
    obtain ⟨p1, p2, p3⟩ := p
    obtain ⟨q1, q2, q3⟩ := q
    obtain ⟨h1, h2, h3⟩ := h
    simp only at h1 h2 h3
    subst h1 h2
    unfold putAt
    simp only
    split
    · exact ⟨rfl, rfl, rv⟩
    · exact ⟨rfl, rfl, h3⟩
theorem xr_put {l : NL} {xs : List (NestedKey × Addr × Value)} (r : XR l xs) (k : NestedKey) (a : Addr) {v : V} {u : Value} (rv : RelV v u) : XR (putL l k a v) (storedH xs k a u) := by
  unfold putL storedH
  rw [xr_any r k]
  split
  · exact xr_map rv r
  · exact Paired.snoc r ⟨rfl, rfl, rv⟩
theorem putL_cons_eq {p : NestedKey × Addr × V} {l : NL} {k : NestedKey} {a : Addr} {v : V} (h : p.1 = k) (hn : ∀ q ∈ l, q.1 ≠ k) : putL (p :: l) k a v = (p.1, p.2.1, v) :: l := by
  unfold putL
  rw [List.any_cons, decide_eq_true h, Bool.true_or, if_pos rfl, List.map_cons, if_pos h]
  congr 1
  conv => rhs; rw [← List.map_id l]
  refine List.map_congr_left fun q hq => ?_
  rw [if_neg (hn q hq)]; rfl
theorem putL_cons_ne {p : NestedKey × Addr × V} {l : NL} {k : NestedKey} {a : Addr} {v : V} (h : p.1 ≠ k) : putL (p :: l) k a v = p :: putL l k a v := by
  unfold putL
  rw [List.any_cons, decide_eq_false h, Bool.false_or]
  split
  · rw [List.map_cons, if_neg h]
  · rfl
theorem np_put {K : PySem.W.Frag} {H : Hp} {j z : D} {b : Addr} {v : V} (hj : isNK j = true) (hb : Rp K H (.ref b) j) (hv : Rp K H v z) : ∀ {l : NL} {kvs : List (D × D)}, NP K H l kvs → (kvs.map (·.1)).Nodup → NP K H (putL l (nkD j) b v) (putD j z kvs)
  | _, _, .nil, _ => .cons ⟨rfl, hj, hb, hv⟩ .nil
  | _, _, .cons (a := p) (b := q) (l₁ := l) n t, nd => by
    simp only [List.map_cons, List.nodup_cons] at nd
    obtain ⟨n1, n2, n3, n4⟩ := n
    obtain ⟨qk, qv⟩ := q
    simp only [putD]
    by_cases h : qk = j
    · have e : PyData.eqv qk j = true := (eqv_key _ _ (isNK_key n2) (isNK_key hj)).mpr h
      rw [if_pos e, putL_cons_eq (by rw [n1, h])]
      · exact .cons ⟨n1, n2, n3, hv⟩ t
      · intro x hx hq
        have go : ∀ {l : NL} {kvs : List (D × D)}, NP K H l kvs → ∀ x ∈ l, x.1 = nkD j → j ∈ kvs.map (·.1) := by
          intro l kvs t
          induction t with
          | nil => intro x hx; simp at hx
          | cons a c ih =>
            intro x hx hq
            rcases List.mem_cons.mp hx with rfl | hx
            · rw [a.1] at hq
              have := nk_inj (isNK_key a.2.1) (isNK_key hj) hq
              simp [this]
            · simp [ih x hx hq]
        have := go t x hx hq
        rw [← h] at this
        exact nd.1 this
    · have e : ¬ PyData.eqv qk j = true := fun z => h ((eqv_key _ _ (isNK_key n2) (isNK_key hj)).mp z)
      rw [if_neg e, putL_cons_ne]
      · exact .cons ⟨n1, n2, n3, n4⟩ (np_put hj hb hv t nd.2)
      · rw [n1]
        exact fun z => h (nk_inj (isNK_key n2) (isNK_key hj) z)
theorem putD_keys {j z : D} : ∀ {kvs : List (D × D)}, (∀ p ∈ kvs, isKey p.1 = true) → isKey j = true → ∀ i, i ∈ (putD j z kvs).map (·.1) ↔ i = j ∨ i ∈ kvs.map (·.1)
  | [], _, _, i => by simp [putD]
  | (q, w) :: kvs, hk, hj, i => by
    simp only [putD]
    split
    · rename_i e
      have := (eqv_key _ _ (hk (q, w) (by simp)) hj).mp e
      subst this
      simp
    · rw [List.map_cons, List.mem_cons, putD_keys (fun p hp => hk p (by simp [hp])) hj i, List.map_cons, List.mem_cons]
      constructor
      · rintro (h | h | h) <;> simp [h]
      · rintro (h | h | h) <;> simp [h]
theorem putD_nodup {j z : D} : ∀ {kvs : List (D × D)}, (∀ p ∈ kvs, isKey p.1 = true) → isKey j = true → (kvs.map (·.1)).Nodup → ((putD j z kvs).map (·.1)).Nodup
  | [], _, _, _ => by simp [putD]
  | (q, w) :: kvs, hk, hj, nd => by
    have nd' := nd
    simp only [List.map_cons, List.nodup_cons] at nd'
    simp only [putD]
    split
    · simpa using nd'
    · rename_i e
      simp only [List.map_cons, List.nodup_cons]
      refine ⟨fun h => ?_, putD_nodup (fun p hp => hk p (by simp [hp])) hj nd'.2⟩
      rcases (putD_keys (fun p hp => hk p (by simp [hp])) hj q).mp h with h | h
      · subst h
        exact e ((eqv_key _ _ hj hj).mpr rfl)
      · exact nd'.1 h
theorem putD_len {α : Type} {j : D} {z : α} : ∀ {kvs : List (D × α)}, (putD j z kvs).length ≤ kvs.length + 1
  | [] => by simp [putD]
  | (q, w) :: kvs => by
    simp only [putD]
    split
    · simp
    · have := putD_len (j := j) (z := z) (kvs := kvs)
      simp only [List.length_cons]; omega
theorem np_keys {K : PySem.W.Frag} {H : Hp} {l : NL} {kvs : List (D × D)} (n : NP K H l kvs) : ∀ p ∈ kvs, isKey p.1 = true := by
  induction n with
  | nil => intro p hp; simp at hp
  | cons a t ih =>
    intro p hp
    rcases List.mem_cons.mp hp with rfl | hp
    · exact isNK_key a.2.1
    · exact ih p hp
def rSetN (L : Lnk) : TSet := fun o i v H Q => ∃ a j z kvs l, o = .ref a ∧ H a = some (NRaw L.hw a l) ∧ NP L.K H l kvs ∧ (kvs.map (·.1)).Nodup ∧ kvs.length < sizeLine ∧ isNK j = true ∧ Rp L.K H i j ∧ Rp L.K H v z ∧
  ∀ l', NP L.K H l' (putD j z kvs) → Q (upd H a (NRaw L.hw a l'))
theorem set_N (xo : XO L X k) : PSet X (rSetN L) := by
  intro pins s σ H o i v ov iv u Q I ro ri rv h
  obtain ⟨a, j, z, kvs, l, rfl, e, n, nd, hl, hj, hi, hv, q⟩ := h
  cases (show ov = Value.ref a from ro)
  obtain ⟨hd, xs, m, r⟩ := nraw_rd xo I e n nd
  obtain ⟨b, rfl, hk⟩ := nat_key xo I hj hi ri
  have hb : Rp L.K H (.ref b) j := by
    obtain ⟨ys, rfl, _, _⟩ := isNK_tup hj
    obtain ⟨b', vs, e1, _, _⟩ := hi.tup_inv
    subst e1
    have : Value.ref b = Value.ref b' := ri
    cases this
    exact hi
  have hlen : xs.length ≤ sizeLine := by
    have h1 : kvs.length = l.length := (Paired.length n).symm
    have h2 : l.length = xs.length := Paired.length r
    omega
  refine wpAny_setItem_heap (hsz := hlen) (xo_room xo) hk m fun h' m' hs => ⟨upd H a (NRaw L.hw a (putL l (nkD j) b v)), ?_, q _ (np_put hj hb hv n nd)⟩
  have he : ∃ q, h'.get? a = some q := let ⟨q, _, _, hq, _⟩ := m'; ⟨q, hq⟩
  refine d_write I (by rw [e]; exact True.intro) hs he ?_
  rw [xo.hw]
  exact nraw_new hd m' (xr_put r (nkD j) b rv)
theorem ix_N (xo : XO L X k) : IxR X (fun x y H Q => ∃ a j kvs z, x = .ref a ∧ NAt L H a y j kvs ∧ lkD j kvs = some z ∧ ∀ v, Rp L.K H v z → Q v H) := by
  intro value slice pins s σ H x y v u Q I rx ry h hs
  obtain ⟨a, j, kvs, z, rfl, ⟨l, e, n, nd, hj, hx⟩, hz, q⟩ := h
  cases (show v = Value.ref a from rx)
  obtain ⟨hd, xs, m, r⟩ := nraw_rd xo I e n nd
  obtain ⟨b, rfl, hk⟩ := nat_key xo I hj hx ry
  rcases np_lk hj n r with ⟨e1, _⟩ | ⟨y', b', u', v', e1, e2, e3, e4⟩
  · rw [hz] at e1; cases e1
  · rw [hz] at e1; cases e1
    exact PyProof.Rows.tail_any m.typeIs PySem.F.slot_dict_getitem.lookup (wpAny_getItem_heap (xo_room xo) hk m e2 ⟨v', H, I.tok _, e3, q v' e4⟩) hs
end
end Vm
end
section
namespace Vm
open PySem L2

def copOf : Cop → CmpOp
  | .eq => .Eq | .ne => .NotEq | .lt => .Lt | .le => .LtE | .gt => .Gt | .ge => .GtE | .isin => .In | .notin => .NotIn | .is => .Is | .isnt => .IsNot
def gC (op : Cop) (ra rb : Rv) (s : St) : Res Rv := rs (s.val ra) fun x => rs (s.val rb) fun y => okB (cmpM op x y) s
theorem ob_ok {α β : Type} {o : Option α} {k : α → Option β} {b : β} (h : ob o k = some b) : ∃ a, o = some a ∧ k a = some b := by
  cases o with
  | none => cases h
  | some a => exact ⟨a, rfl, h⟩
theorem op_of {L : Lnk} {X : Cx} {f : Value → Value → Sem Value} {r : R2} {op : Cop} (h : OpR X f r)
    (hr : ∀ (H : Hp) (x y : MA) (k : Bool) (Q : VK), Hd L H x → Hd L H y → cmpM op x.er y.er = some k → Q (.bl k) H → r x.v y.v H Q) : OpR X f (RG L (gC op)) := by
  refine OpR.mono h ?_
  rintro x y H2 Q ⟨σ, H, A, A2, s, τ, ra, rb, ya, yb, r', s', S, P, Ka, Kb, e, q⟩
  obtain ⟨mx, e1, e2⟩ := rs_ok e
  obtain ⟨my, e3, e4⟩ := rs_ok e2
  obtain ⟨k, e5, rfl, rfl⟩ := okV_ok e4
  obtain ⟨zx, rfl, rfl, hx⟩ := val_ok S Ka e1
  obtain ⟨zy, rfl, rfl, hy⟩ := val_ok S Kb e3
  exact hr H2 zx zy k Q hx hy e5 (q.im S P (.bl k))
theorem Hd.dat {L : Lnk} {H : Hp} {z : MA} {x : D} (h : Hd L H z) (e : z.er.dat = some x) : Rp L.K H z.v x := h.d_inv (mdat_some e)
section
variable {L : Lnk} {X : Cx} {k : Nat}
theorem room65 (xo : XO L X k) : X.A.units + 65 < cLine := by have := xo.un; omega
theorem op_eq' (xo : XO L X k) : OpR X (compareOp .Eq) (RG L (gC .eq)) := by
  refine op_of (r := fun x y H Q => rEqW X.K id x y H Q ∨ rEqS X.K id x y H Q) (fun pins s σ H x y v u Q I rx ry h => ?_) fun H x y b Q hx hy e q => ?_
  · rcases h with h | h
    · exact op_eqW (by have := room65 xo; omega) pins s σ H x y v u Q I rx ry h
    · exact op_eqS (by have := room65 xo; omega) pins s σ H x y v u Q I rx ry h
  · simp only [cmpM] at e
    obtain ⟨dx, e1, e2⟩ := ob_ok e
    obtain ⟨dy, e3, e4⟩ := ob_ok e2
    simp only [cmpD] at e4
    obtain ⟨c, e5⟩ := oif_ok e4
    rcases eqOk_ok c with ⟨n1, n2, n3⟩ | ⟨n1, n2⟩
    · cases e5
      exact .inl ⟨dx, dy, xo.hK ▸ hx.dp e1 n1, xo.hK ▸ hy.dp e3 n2, hx.lay e1 n1, hy.lay e3 n2, n3, q⟩
    · have n2' : seS dy = true := by cases dy <;> simp [emS] at n2 <;> rfl
      obtain ⟨a, xs, t, ea, sa, ka⟩ := hx.seq e1 n1
      obtain ⟨b', ys, u, eb, sb, kb⟩ := hy.seq e3 n2'
      have hys : ys = [] := by
        rcases kb with ⟨_, ds, rfl, l⟩ | ⟨_, ds, rfl, l⟩ <;> cases ds <;> simp [emS] at n2 <;> exact List.eq_nil_of_length_eq_zero l.symm
      subst hys
      refine .inr ⟨a, b', xs, t, u, ea, eb, xo.hK ▸ sa, xo.hK ▸ sb, ?_⟩
      have : b = id (t == u && xs.isEmpty) := by
        cases e5
        rcases ka with ⟨rfl, ds, rfl, l⟩ | ⟨rfl, ds, rfl, l⟩ <;> rcases kb with ⟨rfl, es, rfl, l2⟩ | ⟨rfl, es, rfl, l2⟩
        all_goals have : es = [] := List.eq_nil_of_length_eq_zero l2
        all_goals subst this
        all_goals cases ds <;> cases xs <;> simp [PyData.eqv, PyData.eqvAll] at l ⊢
      rw [← this]
      exact q
theorem op_ne' (xo : XO L X k) : OpR X (compareOp .NotEq) (RG L (gC .ne)) := by
  refine op_of (r := fun x y H Q => rEqW X.K not x y H Q ∨ rEqS X.K not x y H Q) (fun pins s σ H x y v u Q I rx ry h => ?_) fun H x y b Q hx hy e q => ?_
  · rcases h with h | h
    · exact op_neW (by have := room65 xo; omega) pins s σ H x y v u Q I rx ry h
    · exact op_neS (by have := room65 xo; omega) pins s σ H x y v u Q I rx ry h
  · simp only [cmpM] at e
    obtain ⟨dx, e1, e2⟩ := ob_ok e
    obtain ⟨dy, e3, e4⟩ := ob_ok e2
    simp only [cmpD] at e4
    obtain ⟨c, e5⟩ := oif_ok e4
    rcases eqOk_ok c with ⟨n1, n2, n3⟩ | ⟨n1, n2⟩
    · cases e5
      exact .inl ⟨dx, dy, xo.hK ▸ hx.dp e1 n1, xo.hK ▸ hy.dp e3 n2, hx.lay e1 n1, hy.lay e3 n2, n3, q⟩
    · have n2' : seS dy = true := by cases dy <;> simp [emS] at n2 <;> rfl
      obtain ⟨a, xs, t, ea, sa, ka⟩ := hx.seq e1 n1
      obtain ⟨b', ys, u, eb, sb, kb⟩ := hy.seq e3 n2'
      have hys : ys = [] := by
        rcases kb with ⟨_, ds, rfl, l⟩ | ⟨_, ds, rfl, l⟩ <;> cases ds <;> simp [emS] at n2 <;> exact List.eq_nil_of_length_eq_zero l.symm
      subst hys
      refine .inr ⟨a, b', xs, t, u, ea, eb, xo.hK ▸ sa, xo.hK ▸ sb, ?_⟩
      have : b = not (t == u && xs.isEmpty) := by
        cases e5
        rcases ka with ⟨rfl, ds, rfl, l⟩ | ⟨rfl, ds, rfl, l⟩ <;> rcases kb with ⟨rfl, es, rfl, l2⟩ | ⟨rfl, es, rfl, l2⟩
        all_goals have : es = [] := List.eq_nil_of_length_eq_zero l2
        all_goals subst this
        all_goals cases ds <;> cases xs <;> simp [PyData.eqv, PyData.eqvAll] at l ⊢
      rw [← this]
      exact q
theorem op_ord {op : Cop} {f : Value → Value → Sem Value} {g : Int → Int → Bool} (h : OpR X f (rI0 fun i j => .bl (g i j)))
    (hc : ∀ x y, cmpM op x y = ob x.dat fun a => ob y.dat fun b => cmpD op a b) (hd : ∀ x y b, cmpD op x y = some b → ∃ i j, x = .int i ∧ y = .int j ∧ b = g i j) : OpR X f (RG L (gC op)) :=
  op_of h fun H x y b Q hx hy e q => by
    rw [hc] at e
    obtain ⟨dx, e1, e2⟩ := ob_ok e
    obtain ⟨dy, e3, e4⟩ := ob_ok e2
    obtain ⟨i, j, rfl, rfl, rfl⟩ := hd _ _ _ e4
    exact ⟨i, j, (hx.dat e1).int_inv, (hy.dat e3).int_inv, q⟩
theorem op_le' : OpR X (compareOp .LtE) (RG L (gC .le)) := op_ord op_le (fun _ _ => rfl) fun x y b h => by
  cases x <;> cases y <;> simp only [cmpD, reduceCtorEq, Option.some.injEq] at h
  exact ⟨_, _, rfl, rfl, h.symm⟩
theorem op_gt' : OpR X (compareOp .Gt) (RG L (gC .gt)) := op_ord op_gt (fun _ _ => rfl) fun x y b h => by
  cases x <;> cases y <;> simp only [cmpD, reduceCtorEq, Option.some.injEq] at h
  exact ⟨_, _, rfl, rfl, h.symm⟩
theorem op_ge' : OpR X (compareOp .GtE) (RG L (gC .ge)) := op_ord op_ge (fun _ _ => rfl) fun x y b h => by
  cases x <;> cases y <;> simp only [cmpD, reduceCtorEq, Option.some.injEq] at h
  exact ⟨_, _, rfl, rfl, h.symm⟩
def rLtD (K : PySem.W.Frag) : R2 := fun x y H Q => ∃ dx dy, Dp K H x dx ∧ Dp K H y dy ∧ PySem.W.alike dx dy = true ∧ dx ≠ .none ∧ dx.depth ≤ 64 ∧ Q (.bl (PySem.W.dataLt dx dy)) H
theorem op_ltD (hu : X.A.units + 65 < cLine) : OpR X (compareOp .Lt) (rLtD X.K) := by
  intro pins s σ H x y v u Q I rx ry h
  obtain ⟨dx, dy, h1, h2, h3, h4, h5, q⟩ := h
  obtain ⟨as, r1⟩ := Dp.reads I dx x v h1 rx
  obtain ⟨bs, r2⟩ := Dp.reads I dy y u h2 ry
  exact PySem.W.lt_data r1 r2 h3 h4 (by omega) ⟨.bl (PySem.W.dataLt dx dy), H, I, rfl, q⟩
theorem op_lt' (xo : XO L X k) : OpR X (compareOp .Lt) (RG L (gC .lt)) :=
  op_of (OpR.or op_lt (OpR.or op_lt_str (op_ltD (room65 xo)))) fun H x y b Q hx hy e q => by
    simp only [cmpM] at e
    obtain ⟨dx, e1, e2⟩ := ob_ok e
    obtain ⟨dy, e3, e4⟩ := ob_ok e2
    have h1 := hx.dat e1
    have h2 := hy.dat e3
    cases dx <;> cases dy <;> simp only [cmpD, reduceCtorEq, Option.some.injEq] at e4
    · subst e4
      exact .inl ⟨_, _, h1.int_inv, h2.int_inv, q⟩
    · subst e4
      exact .inr (.inl ⟨_, _, h1.str_inv.1, h2.str_inv.1, q⟩)
    · obtain ⟨c, e5⟩ := oif_ok e4
      cases e5
      simp only [ltOk, Bool.and_eq_true, Bool.not_eq_true', decide_eq_true_eq] at c
      exact .inr (.inr ⟨_, _, xo.hK ▸ h1.dp c.1.1.2, xo.hK ▸ h2.dp c.1.2, c.1.1.1, nofun, c.2, q⟩)
theorem frz_tup {H : Hp} {x : MA} {d : D} (hx : Hd L H x) (e : frz x.er = some d) (c : isNK d = true) : Rp L.K H x.v d := by
  obtain ⟨ys, rfl, _, _⟩ := isNK_tup c
  cases x with
  | im m v =>
    cases m with
    | d y => simp only [MA.er, frz, Option.some.injEq] at e; subst e; exact hx
    | lst _ => exact hx.elim
    | dct _ => exact hx.elim
    | _ => simp [MA.er, frz] at e
  | lst a ms => simp [MA.er, frz] at e
  | dct a ms => simp [MA.er, frz] at e
  | obj a c ms => simp [MA.er, frz] at e
  | dnn a ms => simp [MA.er, frz] at e
def rInK (g : Bool → Bool) : R2 := fun x y H Q => ∃ a o, y = .ref a ∧ DGet H a x o ∧ Q (.bl (g o.isSome)) H
theorem op_inK (hu : X.A.units + 65 < cLine) : OpR X (compareOp .In) (rInK id) := by
  intro pins s σ H x y v u Q I rx ry h
  obtain ⟨a, o, rfl, g, q⟩ := h
  cases ry
  exact d_in (by omega) I g rx fun s' I' => ⟨.bl _, H, I', rfl, q⟩
theorem op_notInK (hu : X.A.units + 65 < cLine) : OpR X (compareOp .NotIn) (rInK not) := by
  intro pins s σ H x y v u Q I rx ry h
  obtain ⟨a, o, rfl, g, q⟩ := h
  cases ry
  exact d_notIn (by omega) I g rx fun s' I' => ⟨.bl _, H, I', rfl, q⟩
def rInT (g : Bool → Bool) : R2 := fun x y H Q => ∃ i j, x = .str i ∧ y = .str j ∧ Q (.bl (g (!(Builtin.Str.occurrences j i 0 j.length 1).isEmpty))) H
theorem op_inT : OpR X (compareOp .In) (rInT id) := op_in_str
theorem op_notInT : OpR X (compareOp .NotIn) (rInT not) := op_notIn_str
theorem isin_ok {H : Hp} {x y : MA} {dx : D} {b : Bool} (g : Bool → Bool) {Q : VK} (hx : Hd L H x) (hy : Hd L H y) (e1 : frz x.er = some dx) (e : isinD dx y.er = some b) (q : Q (.bl (g b)) H) :
    rInW L.K g x.v y.v H Q ∨ rInT g x.v y.v H Q ∨ rInK g x.v y.v H Q ∨ rInN L g x.v y.v H Q := by
  have lst : ∀ ds, inList dx ds = some b → (Dp L.K H y.v (.list ds) ∨ Dp L.K H y.v (.tuple ds) ∨ True) → (PyData.hasDictAll ds = false → (Dp L.K H y.v (.list ds) ∨ Dp L.K H y.v (.tuple ds)) ∧ PyData.canLayAll0 ds = true) → rInW L.K g x.v y.v H Q := by
    intro ds hi _ hd
    obtain ⟨c, e5⟩ := oif_ok hi
    simp only [Bool.and_eq_true, Bool.not_eq_true'] at c
    cases e5
    obtain ⟨h1, h2⟩ := hd c.2
    exact ⟨dx, ds, hx.dp e1 c.1.1, h1, hx.lay e1 c.1.1, h2, of_decide_eq_true c.1.2, q⟩
  have key : ∀ (kk : isKK dx = true) a o, y.v = .ref a → (∀ k, toKey dx = some k → DGet H a (kV k) o) → o.isSome = b → rInK g x.v y.v H Q := by
    intro kk a o hv hg ho
    obtain ⟨k, hk⟩ := isKK_to kk
    have : x.v = kV k := by
      cases x with
      | im m v =>
        cases m with
        | d y => simp only [MA.er, frz, Option.some.injEq] at e1; subst e1; exact toKey_kV hx hk
        | lst _ => exact hx.elim
        | dct _ => exact hx.elim
        | _ => simp [MA.er, frz] at e1
      | lst a ms =>
        simp only [MA.er, frz, Option.map_eq_some_iff] at e1
        obtain ⟨_, _, rfl⟩ := e1
        simp [toKey] at hk
      | dct a ms =>
        simp only [MA.er, frz, Option.map_eq_some_iff] at e1
        obtain ⟨_, _, rfl⟩ := e1
        simp [toKey] at hk
      | obj a c ms => simp [MA.er, frz] at e1
      | dnn a ms => simp [MA.er, frz] at e1
    exact ⟨a, o, hv, this ▸ hg k hk, by rw [ho]; exact q⟩
  cases y with
  | im m v =>
    cases m with
    | d z =>
      have hz : Rp L.K H v z := hy
      cases z with
      | str t =>
        simp only [MA.er, isinD] at e
        cases dx <;> simp only [inStr, reduceCtorEq, Option.some.injEq] at e
        subst e
        rename_i w
        have : x.v = .str w := by
          cases x with
          | im m v =>
            cases m with
            | d y => simp only [MA.er, frz, Option.some.injEq] at e1; subst e1; exact hx.d_inv rfl |>.str_inv.1
            | lst _ => exact hx.elim
            | dct _ => exact hx.elim
            | _ => simp [MA.er, frz] at e1
          | lst a ms => simp [MA.er, frz] at e1
          | dct a ms => simp [MA.er, frz] at e1
          | obj a c ms => simp [MA.er, frz] at e1
          | dnn a ms => simp [MA.er, frz] at e1
        exact .inr (.inl ⟨_, _, this, hz.str_inv.1, q⟩)
      | list ds => exact .inl (lst ds e (.inr (.inr trivial)) fun n => ⟨.inl (hz.dp (by simpa [PyData.hasDict] using n)), by have := hz.lay (by simpa [PyData.hasDict] using n); simpa only [PyData.canLay0] using this⟩)
      | tuple ds => exact .inl (lst ds e (.inr (.inr trivial)) fun n => ⟨.inr (hz.dp (by simpa [PyData.hasDict] using n)), by have := hz.lay (by simpa [PyData.hasDict] using n); simpa only [PyData.canLay0] using this⟩)
      | dict ds =>
        simp only [MA.er, isinD, hasK] at e
        obtain ⟨c, e5⟩ := oif_ok e
        obtain ⟨a, o, kvs, rfl, hH, hr⟩ := hz.dct_inv
        have hk := isKK_to c
        obtain ⟨k, hk⟩ := hk
        obtain ⟨l1, l2⟩ := lk_valK hk hr
        refine .inr (.inr (.inl (key c a (valV kvs k) rfl (fun k' hk' => ?_) ?_)))
        · rw [hk] at hk'; cases hk'
          exact .inl ⟨kvs, k, .inr ⟨o, hH⟩, rfl, rfl⟩
        · cases hl : lkD dx ds with
          | none => rw [l2 hl]; rw [hl] at e5; simpa using e5
          | some w => obtain ⟨v, hv, _⟩ := l1 w hl; rw [hv]; rw [hl] at e5; simpa using e5
      | _ => simp [MA.er, isinD] at e
    | lst _ => exact hy.elim
    | dct _ => exact hy.elim
    | dnn _ => exact hy.elim
    | set _ => exact hy.elim
    | tab kvs =>
      simp only [MA.er, isinD, hasK] at e
      obtain ⟨c, e5⟩ := oif_ok e
      obtain ⟨a, o, l, rfl, hH, hr⟩ := hy
      obtain ⟨k, hk⟩ := isKK_to c
      obtain ⟨l1, l2⟩ := lk_valT hk hr
      refine .inr (.inr (.inl (key c a (valV l k) rfl (fun k' hk' => ?_) ?_)))
      · rw [hk] at hk'; cases hk'
        exact .inl ⟨l, k, .inr ⟨o, hH⟩, rfl, rfl⟩
      · cases hl : lkD dx kvs with
        | none => rw [l2 hl]; rw [hl] at e5; simpa using e5
        | some w => obtain ⟨v, _, hv⟩ := l1 w hl; rw [hv]; rw [hl] at e5; simpa using e5
    | _ => simp [MA.er, isinD] at e
  | lst a ms =>
    simp only [MA.er, isinD] at e
    obtain ⟨ds, e2, e3⟩ := ob_ok e
    refine .inl (lst ds e3 (.inr (.inr trivial)) fun n => ⟨.inl ?_, HdL.lay hy.2 e2 n⟩)
    exact .lst (.inl (.inl hy.1)) (HdL.dp hy.2 e2 n)
  | dct a kvs =>
    simp only [MA.er, isinD, hasK] at e
    obtain ⟨c, e5⟩ := oif_ok e
    obtain ⟨l, hl, hH⟩ := hy.1
    obtain ⟨k, hk⟩ := isKK_to c
    refine .inr (.inr (.inl (key c a (valV l k) rfl (fun k' hk' => ?_) ?_)))
    · rw [hk] at hk'; cases hk'
      exact .inl ⟨l, k, .inl hH, rfl, rfl⟩
    · rw [lk_valM hk hl]
      rw [erk_lk] at e5
      simpa using e5
  | obj a c fs => simp [MA.er, isinD] at e
  | dnn a kvs =>
    simp only [MA.er, isinD, hasN] at e
    obtain ⟨c, e5⟩ := oif_ok e
    cases e5
    obtain ⟨⟨l, h1, h2⟩, h3, h4⟩ := hy
    exact .inr (.inr (.inr ⟨a, dx, kvs, rfl, ⟨l, h1, h2, h3, c, frz_tup hx e1 c⟩, q⟩))
theorem op_in' (xo : XO L X k) : OpR X (compareOp .In) (RG L (gC .isin)) :=
  op_of (OpR.or (op_inW (room65 xo)) (OpR.or op_inT (OpR.or (op_inK (room65 xo)) (op_inN xo)))) fun H x y b Q hx hy e q => by
    simp only [cmpM] at e
    obtain ⟨dx, e1, e2⟩ := ob_ok e
    rw [xo.hK]
    exact isin_ok id hx hy e1 e2 q
theorem op_notIn' (xo : XO L X k) : OpR X (compareOp .NotIn) (RG L (gC .notin)) :=
  op_of (OpR.or (op_notInW (room65 xo)) (OpR.or op_notInT (OpR.or (op_notInK (room65 xo)) (op_notInN xo)))) fun H x y b Q hx hy e q => by
    simp only [cmpM] at e
    obtain ⟨dx, e1, e2⟩ := ob_ok e
    obtain ⟨k, e3, e4⟩ := ob_ok e2
    cases e4
    rw [xo.hK]
    exact isin_ok not hx hy e1 e3 q
def rIs (g : Bool → Bool) : R2 := fun x y H Q => (y = .non ∧ Q (.bl (g (decide (x = .non)))) H) ∨ ∃ a b, x = .bl a ∧ y = .bl b ∧ Q (.bl (g (decide (a = b)))) H
theorem op_is0 : OpR X (compareOp .Is) (rIs id) := OpR.or op_isN op_isBl
theorem op_isnt0 : OpR X (compareOp .IsNot) (rIs not) := OpR.or op_notN op_notBl
theorem is_ok {H : Hp} {x y : MA} {b : Bool} (g : Bool → Bool) {Q : VK} (hx : Hd L H x) (hy : Hd L H y) (e : isM x.er y.er = some b) (q : Q (.bl (g b)) H) : rIs g x.v y.v H Q := by
  have non : ∀ (dx dy : D), isConst dx dy = some b → Rp L.K H y.v dy → (∀ v, x.v = v → (dx = .none ↔ v = .non)) → (∀ a, dx = .bool a → x.v = .bl a) → rIs g x.v y.v H Q := by
    intro dx dy h1 h2 h3 h4
    cases dx <;> cases dy <;> simp only [isConst, reduceCtorEq, Option.some.injEq] at h1
    · subst h1
      refine .inl ⟨h2.non_inv, ?_⟩
      rw [(h3 _ rfl).mp rfl]; exact q
    · subst h1
      refine .inl ⟨h2.non_inv, ?_⟩
      have : ¬ x.v = .non := fun h => by have := (h3 _ rfl).mpr h; cases this
      rw [decide_eq_false this]; exact q
    · rename_i a c
      refine .inr ⟨a, c, h4 a rfl, h2.bl_inv, ?_⟩
      have : (decide (a = c)) = b := by rw [← h1]; cases a <;> cases c <;> rfl
      rw [this]; exact q
    all_goals
      subst h1
      refine .inl ⟨h2.non_inv, ?_⟩
      have : ¬ x.v = .non := fun h => by have := (h3 _ rfl).mpr h; cases this
      rw [decide_eq_false this]; exact q
  have hdy : ∀ dy, y.er = .d dy → Rp L.K H y.v dy := fun dy h => hy.d_inv h
  have ref : ∀ a, x.v = .ref a → (∀ v, x.v = v → ((PyData.list [] : D) = .none ↔ v = .non)) := fun a h v hv => by subst hv; rw [h]; constructor <;> intro z <;> cases z
  cases x with
  | im m v =>
    cases m with
    | d dx =>
      simp only [MA.er] at e
      unfold isM at e
      split at e
      · rename_i a c h1 h2
        obtain rfl : dx = a := by simpa using h1
        have hz : Rp L.K H v dx := hx
        refine non _ _ e (hdy _ h2) (fun w hw => ?_) fun a ha => ?_
        · subst hw
          constructor
          · intro h; subst h; exact hz.non_inv
          · intro h
            simp only [MA.v] at h
            subst h
            cases hz; rfl
        · subst ha; exact hz.bl_inv
      all_goals first | (rename_i h1 _; cases h1; done) | (cases e; done) | skip
    | lst _ => exact hx.elim
    | dct _ => exact hx.elim
    | obj _ _ => exact hx.elim
    | dnn _ => exact hx.elim
    | fn _ => cases hy' : y.er <;> simp [MA.er, isM, hy'] at e
    | cl _ => cases hy' : y.er <;> simp [MA.er, isM, hy'] at e
    | bt _ => cases hy' : y.er <;> simp [MA.er, isM, hy'] at e
    | set _ => exact hx.elim
    | tab _ => cases hy' : y.er <;> simp [MA.er, isM, hy'] at e
    | exc _ _ => cases hy' : y.er <;> simp [MA.er, isM, hy'] at e
  | lst a ms =>
    cases hy' : y.er <;> simp [MA.er, isM, hy'] at e
    exact non _ _ e (hdy _ hy') (ref a rfl) fun a h => by cases h
  | dct a ms =>
    cases hy' : y.er <;> simp [MA.er, isM, hy'] at e
    exact non _ _ e (hdy _ hy') (ref a rfl) fun a h => by cases h
  | obj a c ms =>
    cases hy' : y.er <;> simp [MA.er, isM, hy'] at e
    exact non _ _ e (hdy _ hy') (ref a rfl) fun a h => by cases h
  | dnn a ms => cases hy' : y.er <;> simp [MA.er, isM, hy'] at e
theorem op_is' : OpR X (compareOp .Is) (RG L (gC .is)) :=
  op_of op_is0 fun H x y b Q hx hy e q => is_ok id hx hy e q
theorem op_isnt' : OpR X (compareOp .IsNot) (RG L (gC .isnt)) :=
  op_of op_isnt0 fun H x y b Q hx hy e q => by
    simp only [cmpM] at e
    obtain ⟨k, e3, e4⟩ := ob_ok e
    cases e4
    exact is_ok not hx hy e3 q
theorem op_cmp (xo : XO L X k) (op : Cop) : OpR X (compareOp (copOf op)) (RG L (gC op)) := by
  cases op
  · exact op_eq' xo
  · exact op_ne' xo
  · exact op_lt' xo
  · exact op_le'
  · exact op_gt'
  · exact op_ge'
  · exact op_in' xo
  · exact op_notIn' xo
  · exact op_is'
  · exact op_isnt'
end
end Vm
end
section
namespace Vm
open PySem L2

theorem PT.mono {X : Cx} {e : Expr} {t t' : TT} (h : PT X e t) (k : ∀ σ H Q, t' σ H Q → t σ H Q) : PT X e t' := ⟨fun pins s σ H Q I hw => h.run pins s σ H Q I (k σ H Q hw)⟩
theorem PW.mono {X : Cx} {e : Expr} {t t' : TT} (h : PW X e t) (k : ∀ σ H Q, t' σ H Q → t σ H Q) : PW X e t' := ⟨fun wh pins s σ H Q I hw => h.run wh pins s σ H Q I (k σ H Q hw)⟩
theorem Pst.nil {H H' : Hp} {A A' : SA} {F : List Addr} (P : Pst H A H' A' F) : Pst H A H' A' [] := P.less (fun b hb => by simp at hb) List.nodup_nil
theorem Pst.fnd {H H' : Hp} {A A' : SA} {F : List Addr} (P : Pst H A H' A' F) : F.Nodup := (List.nodup_append.mp P.nd).2.1
theorem Pst.seq {H H1 H2 : Hp} {A A1 A2 : SA} {F1 F2 : List Addr} (P1 : Pst H A H1 A1 F1) (P2 : Pst H1 A1 H2 A2 F2) : Pst H A H2 A2 F2 := by
  have := P1.nil.trans P2 (fun b hb => by simp at hb)
  simpa using this
section
variable {L : Lnk} {C : Ctx} {X : Cx}
theorem TEv.fin {e : E} {σ : L2.St} {H : Hp} {Q : VK} {A : SA} {s s' : St} {τ : List V} {r : Rv} (S : SR L H σ A s τ) (h : ev C e s = .ok r s') (q : Fin L σ H A τ r s' Q) : TEv L C e σ H Q := ⟨A, s, τ, r, s', S, h, q⟩
theorem s_var {i : Nat} {mv : Bool} {x : Str} {pos : Pos} (hN : X.N[i]? = some x := by rfl) (hv : Vis X.env.scope x := by first | exact Or.inl rfl | exact Or.inr (Or.inl rfl) | exact Or.inr (Or.inr rfl))
    (hd : (x == ("__debug__" : Str)) = false := by decide) (hcd : (x == ("__classdict__" : Str)) = false := by decide) : PE X (.Name x pos) (TEv L C (.var i mv)) :=
  PE.mono (pe_var hN hv hd hcd) fun σ H Q ⟨A, s, τ, r, s', S, e, q⟩ => by
    obtain ⟨v, hσ, A', y, S', P, K⟩ := rd_ok S (show rd C.np s i mv = .ok r s' from e)
    exact ⟨v, hσ, q v H A' y S' P K⟩
theorem s_cst {x : D} {v : V} {ex : Expr} (h : PE X ex (tC v)) (hr : ∀ K H, Rp K H v x) : PE X ex (TEv L C (.con x)) :=
  PE.mono h fun σ H Q ⟨A, s, τ, r, s', S, e, q⟩ => by
    cases e
    exact Fin.im q S (Pst.refl S.nd) (hr _ _)
theorem s_int {i : Int} {j : Nat} {pos : Pos} : PE X (.Constant (.int i) j pos) (TEv L C (.con (.int i))) := s_cst pe_int fun _ _ => .int i
theorem s_bl {i : Bool} {j : Nat} {pos : Pos} : PE X (.Constant (.bool i) j pos) (TEv L C (.con (.bool i))) := s_cst pe_bl fun _ _ => .bl i
theorem s_non {j : Nat} {pos : Pos} : PE X (.Constant .none j pos) (TEv L C (.con .none)) := s_cst pe_non fun _ _ => .non
def sokB (x : Str) : Bool := decide (x.length ≤ 100000) && x.cps.toList.all fun c => decide (c < 0x110000)
theorem sokB_ok {x : Str} (h : sokB x = true) : sOk x := by
  simp only [sokB, Bool.and_eq_true, decide_eq_true_eq, List.all_eq_true] at h
  refine ⟨?_, h.2⟩
  have : sizeLine = 16777216 := sizeLine_eq
  omega
theorem s_str {x y : Str} {j : Nat} {pos : Pos} (h : x = y := by decide +kernel) (hx : sokB x = true := by decide +kernel) : PE X (.Constant (.str x) j pos) (TEv L C (.con (.str y))) := by
  subst h
  exact s_cst pe_str fun _ _ => .str x (sokB_ok hx)
theorem s_glo {g : Nat} {m : M} {v : V} {ex : Expr} (hg : C.glo[g]? = some m) (h : PE X ex (tC v)) (hi : ∀ H, GlOk L H → ImOk L H m v) : PE X ex (TEv L C (.glo g)) :=
  PE.mono h fun σ H Q ⟨A, s, τ, r, s', S, e, q⟩ => by
    obtain ⟨a, e1, e2⟩ := rs_ok (show (rs C.glo[g]? fun m => .ok (.v m) s) = .ok r s' from e)
    rw [hg] at e1
    cases e1
    cases e2
    exact Fin.im q S (Pst.refl S.nd) (hi H S.gl)
theorem tru_ma {H : Hp} {z : MA} {k : Bool} (hK : X.K = L.K) (h : Hd L H z) (e : truM z.er = some k) : TruV X.K z.v H k := by
  cases z with
  | im m v =>
    cases m with
    | d x =>
      have hz : Rp L.K H v x := h
      cases x with
      | none => cases hz.non_inv; simp only [MA.er, truM, Option.some.injEq] at e; exact e.symm
      | bool b => cases hz.bl_inv; simp only [MA.er, truM, truD, Option.some.injEq] at e; exact e.symm
      | int i => cases hz.int_inv; simp only [MA.er, truM, truD, Option.some.injEq] at e; exact e.symm
      | str x =>
        obtain ⟨rfl, ok⟩ := hz.str_inv
        simp only [MA.er, truM, truD, Option.some.injEq] at e
        refine ⟨ok.1, ?_⟩
        rw [← e, Bool.eq_iff_iff]
        simp
      | list xs =>
        obtain ⟨a, vs, rfl, h1, h2⟩ := hz.lst_inv
        simp only [MA.er, truM, truD, Option.some.injEq] at e
        refine .inl ⟨vs, hK ▸ h1.sql, ?_⟩
        subst e
        cases h2 <;> rfl
      | tuple xs =>
        obtain ⟨a, vs, rfl, h1, h2⟩ := hz.tup_inv
        simp only [MA.er, truM, truD, Option.some.injEq] at e
        refine .inr (.inl ⟨vs, hK ▸ h1, ?_⟩)
        subst e
        cases h2 <;> rfl
      | dict xs => simp [MA.er, truM] at e
    | lst _ => exact h.elim
    | dct _ => exact h.elim
    | _ => simp [MA.er, truM] at e
  | lst a ms =>
    simp only [MA.er, truM, Option.some.injEq] at e
    refine .inl ⟨vsOf ms, .inl (.inl h.1), ?_⟩
    subst e
    cases ms <;> rfl
  | dct a ms =>
    simp only [MA.er, truM, Option.some.injEq] at e
    obtain ⟨l, h1, h2⟩ := h.1
    refine .inr (.inr ⟨l, h2, ?_⟩)
    subst e
    cases ms with
    | nil => simp [kvOf] at h1; subst h1; rfl
    | cons p ms =>
      simp only [kvOf, Option.bind_eq_some_iff] at h1
      obtain ⟨j, _, l', _, h3⟩ := h1
      simp at h3; subst h3
      rfl
  | obj a c ms => simp [MA.er, truM] at e
  | dnn a ms => simp [MA.er, truM] at e
theorem tru_of {H : Hp} {σ : L2.St} {A : SA} {s : St} {τ : List V} {r : Rv} {y : Option MA} {v : V} {k : Bool} (hK : X.K = L.K) (S : SR L H σ A s τ) (K : RvOk L H A r y v) (e : (s.val r).bind truM = some k) : TruV X.K v H k := by
  simp only [Option.bind_eq_some_iff] at e
  obtain ⟨m, e1, e2⟩ := e
  obtain ⟨z, rfl, rfl, hz⟩ := val_ok S K e1
  exact tru_ma hK hz e2
def TTt (L : Lnk) (C : Ctx) (e : E) : TT := fun σ H Q => ∃ A s τ k s', SR L H σ A s τ ∧ tr (ev C e s) = .ok k s' ∧ ∀ H' A', SR L H' σ A' s' τ → Pst H A H' A' [] → Q k H'
theorem tr_ok {r : Res Rv} {k : Bool} {s' : St} (h : tr r = .ok k s') : ∃ x, r = .ok x s' ∧ (s'.val x).bind truM = some k := by
  obtain ⟨x, s1, e1, e2⟩ := bd_ok h
  obtain ⟨k', e3, e4⟩ := rs_ok e2
  cases e4
  exact ⟨x, e1, e3⟩
theorem t_val {ex : Expr} {e : E} (hK : X.K = L.K) (h : PE X ex (TEv L C e)) (he : ∀ whole, isTrue ex X.env whole = (do let v ← whole; standAt ex.pos; holding [v] (truthy v)) := by intro _; rfl) : PT X ex (TTt L C e) :=
  PT.mono (pt_truth h he) fun σ H Q ⟨A, s, τ, k, s', S, e, q⟩ => by
    obtain ⟨x, e1, e2⟩ := tr_ok e
    exact ⟨A, s, τ, x, s', S, e1, fun v H' A' y S' P K => ⟨k, tru_of hK S' K e2, q H' A' S' P.nil⟩⟩
theorem TTt.bl {e : E} (hb : ∀ s r s', ev C e s = .ok r s' → ∃ b, r = .v (.d (.bool b))) {σ : L2.St} {H : Hp} {Q : Bool → Hp → Prop} (h : TTt L C e σ H Q) : TEv L C e σ H fun x H' => ∃ k, x = .bl k ∧ Q k H' := by
  obtain ⟨A, s, τ, k, s', S, e, q⟩ := h
  obtain ⟨x, e1, e2⟩ := tr_ok e
  obtain ⟨b, rfl⟩ := hb _ _ _ e1
  simp [St.val, truM, truD] at e2
  subst e2
  exact ⟨A, s, τ, _, s', S, e1, fun v H' A' y S' P K => ⟨b, K.d_inv.bl_inv, q H' A' S' P.nil⟩⟩
theorem s_one {ex : Expr} {e : E} {op : BoolOp} {pos : Pos} (h : PE X ex (TEv L C e)) : PE X (.BoolOp op [ex] pos) (TEv L C e) := pe_one h
theorem s_and {ea eb : Expr} {a b : E} {rest : List Expr} {pos : Pos} (hK : X.K = L.K) (ha : PE X ea (TEv L C a)) (hb : PE X (.BoolOp .And (eb :: rest) pos) (TEv L C b)) : PE X (.BoolOp .And (ea :: eb :: rest) pos) (TEv L C (.and a b)) :=
  PE.mono (pe_andT ha hb) fun σ H Q ⟨A, s, τ, r, s', S, e, q⟩ => by
    obtain ⟨ra, s1, e1, e2⟩ := bd_ok (show ((ev C a s).bd fun r s => rs ((s.val r).bind truM) fun k => match k with | true => ev C b s | false => .ok r s) = .ok r s' from e)
    obtain ⟨k, e3, e4⟩ := rs_ok e2
    refine ⟨A, s, τ, ra, s1, S, e1, fun v H1 A1 y S1 P1 K1 => ⟨k, tru_of hK S1 K1 e3, ?_⟩⟩
    cases k with
    | true =>
      rw [if_pos rfl]
      exact ⟨A1, s1, τ, r, s', S1, e4, fun v H2 A2 y S2 P2 K2 => q v H2 A2 y S2 (P1.seq P2) K2⟩
    | false =>
      rw [if_neg Bool.false_ne_true]
      cases e4
      exact q v H1 A1 y S1 P1 K1
theorem s_or {ea eb : Expr} {a b : E} {rest : List Expr} {pos : Pos} (hK : X.K = L.K) (ha : PE X ea (TEv L C a)) (hb : PE X (.BoolOp .Or (eb :: rest) pos) (TEv L C b)) : PE X (.BoolOp .Or (ea :: eb :: rest) pos) (TEv L C (.or a b)) :=
  PE.mono (pe_orT ha hb) fun σ H Q ⟨A, s, τ, r, s', S, e, q⟩ => by
    obtain ⟨ra, s1, e1, e2⟩ := bd_ok (show ((ev C a s).bd fun r s => rs ((s.val r).bind truM) fun k => match k with | true => .ok r s | false => ev C b s) = .ok r s' from e)
    obtain ⟨k, e3, e4⟩ := rs_ok e2
    refine ⟨A, s, τ, ra, s1, S, e1, fun v H1 A1 y S1 P1 K1 => ⟨k, tru_of hK S1 K1 e3, ?_⟩⟩
    cases k with
    | false =>
      rw [if_neg Bool.false_ne_true]
      exact ⟨A1, s1, τ, r, s', S1, e4, fun v H2 A2 y S2 P2 K2 => q v H2 A2 y S2 (P1.seq P2) K2⟩
    | true =>
      rw [if_pos rfl]
      cases e4
      exact q v H1 A1 y S1 P1 K1
theorem s_nt {ea : Expr} {a : E} {pos : Pos} (hK : X.K = L.K) (ha : PE X ea (TEv L C a)) : PE X (.UnaryOp .Not ea pos) (TEv L C (.nt a)) :=
  PE.mono (pe_notT ha) fun σ H Q ⟨A, s, τ, r, s', S, e, q⟩ => by
    obtain ⟨k, s1, e1, e2⟩ := bd_ok (show ((tr (ev C a s)).bd fun k s => .ok (.v (.d (.bool (!k)))) s) = .ok r s' from e)
    cases e2
    obtain ⟨x, e3, e4⟩ := tr_ok e1
    exact ⟨A, s, τ, x, _, S, e3, fun v H1 A1 y S1 P1 K1 => ⟨k, tru_of hK S1 K1 e4, Fin.im q S1 P1 (.bl _)⟩⟩
theorem t_and1 {ex : Expr} {e : E} {pos : Pos} (h : PT X ex (TTt L C e)) : PW X (.BoolOp .And [ex] pos) (TTt L C e) := pw_and1 h
theorem t_or1 {ex : Expr} {e : E} {pos : Pos} (h : PT X ex (TTt L C e)) : PW X (.BoolOp .Or [ex] pos) (TTt L C e) := pw_or1 h
theorem t_and {ea eb : Expr} {a b : E} {rest : List Expr} {pos : Pos} (ha : PT X ea (TTt L C a)) (hb : PW X (.BoolOp .And (eb :: rest) pos) (TTt L C b)) : PW X (.BoolOp .And (ea :: eb :: rest) pos) (TTt L C (.and a b)) :=
  PW.mono (pw_and ha hb) fun σ H Q ⟨A, s, τ, k, s', S, e, q⟩ => by
    obtain ⟨r, e0, e5⟩ := tr_ok e
    obtain ⟨ra, s1, e1, e2⟩ := bd_ok (show ((ev C a s).bd fun r s => rs ((s.val r).bind truM) fun k => match k with | true => ev C b s | false => .ok r s) = .ok r s' from e0)
    obtain ⟨j, e3, e4⟩ := rs_ok e2
    refine ⟨A, s, τ, j, s1, S, by unfold tr; rw [e1]; show rs _ _ = _; rw [e3]; rfl, fun H1 A1 S1 P1 => ?_⟩
    cases j with
    | true =>
      rw [if_pos rfl]
      exact ⟨A1, s1, τ, k, s', S1, by unfold tr; rw [show ev C b s1 = .ok r s' from e4]; show rs _ _ = _; rw [e5]; rfl, fun H2 A2 S2 P2 => q H2 A2 S2 (P1.seq P2)⟩
    | false =>
      rw [if_neg Bool.false_ne_true]
      cases e4
      rw [e3] at e5; cases e5
      exact q H1 A1 S1 P1
theorem t_or {ea eb : Expr} {a b : E} {rest : List Expr} {pos : Pos} (ha : PT X ea (TTt L C a)) (hb : PW X (.BoolOp .Or (eb :: rest) pos) (TTt L C b)) : PW X (.BoolOp .Or (ea :: eb :: rest) pos) (TTt L C (.or a b)) :=
  PW.mono (pw_or ha hb) fun σ H Q ⟨A, s, τ, k, s', S, e, q⟩ => by
    obtain ⟨r, e0, e5⟩ := tr_ok e
    obtain ⟨ra, s1, e1, e2⟩ := bd_ok (show ((ev C a s).bd fun r s => rs ((s.val r).bind truM) fun k => match k with | true => .ok r s | false => ev C b s) = .ok r s' from e0)
    obtain ⟨j, e3, e4⟩ := rs_ok e2
    refine ⟨A, s, τ, j, s1, S, by unfold tr; rw [e1]; show rs _ _ = _; rw [e3]; rfl, fun H1 A1 S1 P1 => ?_⟩
    cases j with
    | false =>
      rw [if_neg Bool.false_ne_true]
      exact ⟨A1, s1, τ, k, s', S1, by unfold tr; rw [show ev C b s1 = .ok r s' from e4]; show rs _ _ = _; rw [e5]; rfl, fun H2 A2 S2 P2 => q H2 A2 S2 (P1.seq P2)⟩
    | true =>
      rw [if_pos rfl]
      cases e4
      rw [e3] at e5; cases e5
      exact q H1 A1 S1 P1
theorem t_nt {ea : Expr} {a : E} {pos : Pos} (ha : PT X ea (TTt L C a)) : PT X (.UnaryOp .Not ea pos) (TTt L C (.nt a)) :=
  PT.mono (pt_not ha) fun σ H Q ⟨A, s, τ, k, s', S, e, q⟩ => by
    obtain ⟨r, e0, e5⟩ := tr_ok e
    obtain ⟨j, s1, e1, e2⟩ := bd_ok (show ((tr (ev C a s)).bd fun k s => .ok (.v (.d (.bool (!k)))) s) = .ok r s' from e0)
    cases e2
    have e6 : (!j) = k := by simpa [St.val, truM, truD] using e5
    subst e6
    exact ⟨A, s, τ, j, _, S, e1, q⟩
def bopOf : Bop → Operator
  | .add => .Add | .sub => .Sub | .mul => .Mult | .mod => .Mod | .fdiv => .FloorDiv | .pow => .Pow
theorem op_bin' {k : Nat} (xo : XO L X k) (op : Bop) : OpR X (binaryOp (bopOf op)) (RG L (bopR op)) := by
  cases op
  · exact op_add' xo
  · exact op_sub'
  · exact op_mul' xo
  · exact op_mod'
  · exact op_fdiv'
  · exact op_pow'
theorem s_bin {k : Nat} {op : Bop} {o : Operator} {ea eb : Expr} {a b : E} {pos : Pos} (xo : XO L X k) (ho : o = bopOf op := by rfl) (ha : PE X ea (TEv L C a)) (hb : PE X eb (TEv L C b)) : PE X (.BinOp ea o eb pos) (TEv L C (.bin op a b)) := by
  subst ho
  exact s_two (g := bopR op) (fun s => by rw [ev]) (pe_op (op_bin' xo op) ha hb)
theorem two_red {e a b : E} {g : Rv → Rv → St → Res Rv} (he : ∀ s, ev C e s = (ev C a s).bd fun ra s => hold ra s (ev C b) g) {σ : L2.St} {H : Hp} {Q : VK} (h : TEv L C e σ H Q) : tOp (RG L g) (TEv L C a) (TEv L C b) σ H Q := by
  obtain ⟨A, s, τ, r, s', S, e0, q⟩ := h
  rw [he] at e0
  obtain ⟨ra, s1, e1, e2⟩ := bd_ok e0
  refine ⟨A, s, τ, ra, s1, S, e1, fun x H1 A1 ya S1 P1 K1 => ?_⟩
  obtain ⟨τ1, s1', b, s2, S1', e3, k⟩ := hold_ok S1 P1 K1 e2
  refine ⟨A1, s1', τ1, b, s2, S1', e3, fun y H2 A2 yb S2 P2 K2 => ?_⟩
  obtain ⟨ra', s2', e4, S2', K1'⟩ := k H2 A2 _ S2 P2
  exact ⟨σ, H, A, A2, s2', τ, ra', b, ya, yb, r, s', S2', P1.trans P2 K1.trk, K1', K2, e4, q⟩
theorem cmp_bool {op : Cop} {a b : E} : ∀ s r s', ev C (.cmp op a b) s = .ok r s' → ∃ b, r = .v (.d (.bool b)) := by
  intro s r s' e
  obtain ⟨ra, s1, e1, e2⟩ := bd_ok (show ((ev C a s).bd fun ra s => hold ra s (ev C b) (gC op)) = .ok r s' from e)
  have fin : ∀ ra rb s, gC op ra rb s = .ok r s' → ∃ b, r = .v (.d (.bool b)) := fun ra rb s h => by
    obtain ⟨x, _, h2⟩ := rs_ok h
    obtain ⟨y, _, h4⟩ := rs_ok h2
    obtain ⟨k, _, h5, _⟩ := okV_ok h4
    exact ⟨k, h5⟩
  cases ra with
  | v m =>
    obtain ⟨b, s2, _, e4⟩ := bd_ok e2
    exact fin _ _ _ e4
  | p p =>
    obtain ⟨b, s2, _, e4⟩ := bd_ok e2
    obtain ⟨pt, _, e6⟩ := rs_ok e4
    exact fin _ _ _ e6
theorem s_cmp {k : Nat} {op : Cop} {o : CmpOp} {ea eb : Expr} {a b : E} {pos : Pos} (xo : XO L X k) (ho : o = copOf op := by rfl) (ha : PE X ea (TEv L C a)) (hb : PE X eb (TEv L C b)) (hm : behindInMarks o eb = false := by first | exact nomark _ | with_unfolding_all rfl) : PE X (.Compare ea [o] [eb] pos) (TEv L C (.cmp op a b)) := by
  subst ho
  exact s_two (g := gC op) (fun s => by rw [ev]; rfl) (pe_cmpR (op_cmp xo op) ha hb hm)
theorem t_cmp {k : Nat} {op : Cop} {o : CmpOp} {ea eb : Expr} {a b : E} {pos : Pos} (xo : XO L X k) (ho : o = copOf op := by rfl) (ha : PE X ea (TEv L C a)) (hb : PE X eb (TEv L C b)) (hm : behindInMarks o eb = false := by first | exact nomark _ | with_unfolding_all rfl) : PT X (.Compare ea [o] [eb] pos) (TTt L C (.cmp op a b)) := by
  subst ho
  exact PT.mono (pt_cmpR (op_cmp xo op) ha hb hm) fun σ H Q h => two_red (g := gC op) (fun s => by rw [ev]; rfl) (h.bl cmp_bool)
theorem cmp_data {k : Nat} (xo : XO L X k) {op : Cop} {dx dy : D} {b : Bool} (e : cmpD op dx dy = some b) : cmpM op (.d dx) (.d dy) = some b := by
  cases op <;> simp only [cmpM, frz, ob, M.dat, e] <;> simp [cmpD] at e
theorem rg_data {op : Cop} {H : Hp} {σ : L2.St} {A : SA} {s : St} {τ : List V} {dx dy : D} {x y : V} {b : Bool} {Q : VK} (S : SR L H σ A s τ) (hx : Rp L.K H x dx) (hy : Rp L.K H y dy) (e : cmpM op (.d dx) (.d dy) = some b) (q : Q (.bl b) H) (q' : ∀ v H' A' y, SR L H' σ A' s τ → Pst H A H' A' (adrO y) → RvOk L H' A' (.v (.d (.bool b))) y v → Q v H') : RG L (gC op) x y H Q := by
  refine ⟨σ, H, A, A, s, τ, .v (.d dx), .v (.d dy), some (.im (.d dx) x), some (.im (.d dy) y), .v (.d (.bool b)), s, S, ?_, ⟨rfl, rfl, hx⟩, ⟨rfl, rfl, hy⟩, ?_, q'⟩
  · simpa [adrO, MA.adr] using Pst.refl S.nd
  · show (rs (s.val (.v (.d dx))) fun x => rs (s.val (.v (.d dy))) fun y => okB (cmpM op x y) s) = _
    simp only [St.val, rs, e, okB, okV]
theorem ch_red {k : Nat} (xo : XO L X k) {op1 op2 : Cop} {a b c : E} {σ : L2.St} {H : Hp} {Q : VK} (h : TEv L C (.cmp2 op1 op2 a b c) σ H Q) : tChain (RG L (gC op1)) (RG L (gC op2)) (TEv L C a) (TEv L C b) (TEv L C c) σ H Q := by
  obtain ⟨A, s, τ, r, s', S, e, q⟩ := h
  obtain ⟨ra, s1, e1, e2⟩ := bd_ok (show ((ev C a s).bd fun ra s => rs ra.dat fun x => (ev C b s).bd fun rb s => rs rb.dat fun y =>
    rs (cmpD op1 x y) fun k => match k with
    | true => (ev C c s).bd fun rc s => rs rc.dat fun z => okB (cmpD op2 y z) s
    | false => .ok (.v (.d (.bool false))) s) = .ok r s' from e)
  obtain ⟨x, e3, e4⟩ := rs_ok e2
  obtain ⟨rb, s2, e5, e6⟩ := bd_ok e4
  obtain ⟨y, e7, e8⟩ := rs_ok e6
  obtain ⟨j, e9, e10⟩ := rs_ok e8
  cases dat_some e3
  cases dat_some e7
  refine ⟨A, s, τ, _, s1, S, e1, fun v H1 A1 y1 S1 P1 K1 => ⟨A1, s1, τ, _, s2, S1, e5, fun u H2 A2 y2 S2 P2 K2 => ?_⟩⟩
  have hx := Rp.mono (P2.stb S1) K1.d_inv
  have hy := K2.d_inv
  have P12 := P1.seq P2
  have fin : ∀ H3 A3, SR L H3 σ A3 s2 τ → Pst H2 A2 H3 A3 [] → ∃ k, (V.bl j) = .bl k ∧ (if k = true then TEv L C c σ H3 fun w H4 => RG L (gC op2) u w H4 Q else Q (.bl false) H3) := fun H3 A3 S3 P3 => by
    refine ⟨j, rfl, ?_⟩
    have P13 := P12.seq P3
    cases j with
    | false =>
      rw [if_neg Bool.false_ne_true]
      cases e10
      exact Fin.im q S3 P13 (.bl false)
    | true =>
      rw [if_pos rfl]
      obtain ⟨rc, s3, e11, e12⟩ := bd_ok e10
      obtain ⟨z, e13, e14⟩ := rs_ok e12
      obtain ⟨i, e15, rfl, rfl⟩ := okV_ok e14
      cases dat_some e13
      refine ⟨A3, s2, τ, _, _, S3, e11, fun w H4 A4 y4 S4 P4 K4 => ?_⟩
      have hy4 := Rp.mono (P4.stb S3) (Rp.mono (P3.stb S2) hy)
      have P14 := P13.seq P4
      refine rg_data S4 hy4 K4.d_inv (cmp_data xo e15) (Fin.im q S4 P14 (.bl i)) fun v H' A' y S' P' K' => q v H' A' y S' (P14.seq P') K'
  refine rg_data S2 hx hy (cmp_data xo e9) (fin H2 A2 S2 (Pst.refl S2.nd)) fun v H' A' y S' P' K' => ?_
  cases K'.d_inv.bl_inv
  exact fin H' A' S' P'.nil
theorem s_cmp2 {k : Nat} {op1 op2 : Cop} {o1 o2 : CmpOp} {ea eb ec : Expr} {a b c : E} {pos : Pos} (xo : XO L X k) (h1 : o1 = copOf op1 := by rfl) (h2 : o2 = copOf op2 := by rfl) (ha : PE X ea (TEv L C a)) (hb : PE X eb (TEv L C b)) (hc : PE X ec (TEv L C c)) (hm : lastMarks [o1, o2] [eb, ec] = false := by with_unfolding_all rfl) :
    PE X (.Compare ea [o1, o2] [eb, ec] pos) (TEv L C (.cmp2 op1 op2 a b c)) := by
  subst h1 h2
  exact PE.mono (pe_chain (op_cmp xo op1) (op_cmp xo op2) ha hb hc hm) fun σ H Q h => ch_red xo h
theorem cmp2_bool {op1 op2 : Cop} {a b c : E} : ∀ s r s', ev C (.cmp2 op1 op2 a b c) s = .ok r s' → ∃ b, r = .v (.d (.bool b)) := by
  intro s r s' e
  obtain ⟨ra, s1, e1, e2⟩ := bd_ok (show ((ev C a s).bd fun ra s => rs ra.dat fun x => (ev C b s).bd fun rb s => rs rb.dat fun y =>
    rs (cmpD op1 x y) fun k => match k with
    | true => (ev C c s).bd fun rc s => rs rc.dat fun z => okB (cmpD op2 y z) s
    | false => .ok (.v (.d (.bool false))) s) = .ok r s' from e)
  obtain ⟨x, e3, e4⟩ := rs_ok e2
  obtain ⟨rb, s2, e5, e6⟩ := bd_ok e4
  obtain ⟨y, e7, e8⟩ := rs_ok e6
  obtain ⟨j, e9, e10⟩ := rs_ok e8
  cases j with
  | false => cases e10; exact ⟨_, rfl⟩
  | true =>
    obtain ⟨rc, s3, e11, e12⟩ := bd_ok e10
    obtain ⟨z, e13, e14⟩ := rs_ok e12
    obtain ⟨i, e15, h, _⟩ := okV_ok e14
    exact ⟨_, h⟩
theorem t_cmp2 {k : Nat} {op1 op2 : Cop} {o1 o2 : CmpOp} {ea eb ec : Expr} {a b c : E} {pos : Pos} (xo : XO L X k) (h1 : o1 = copOf op1 := by rfl) (h2 : o2 = copOf op2 := by rfl) (ha : PE X ea (TEv L C a)) (hb : PE X eb (TEv L C b)) (hc : PE X ec (TEv L C c)) (hm : lastMarks [o1, o2] [eb, ec] = false := by with_unfolding_all rfl) :
    PT X (.Compare ea [o1, o2] [eb, ec] pos) (TTt L C (.cmp2 op1 op2 a b c)) := by
  subst h1 h2
  exact PT.mono (pt_chain (op_cmp xo op1) (op_cmp xo op2) ha hb hc hm) fun σ H Q h => ch_red xo (h.bl cmp2_bool)
end
end Vm
end
section
namespace Vm
open PySem L2

theorem PA.mono {X : Cx} {es : List Expr} {t t' : TA} (h : PA X es t) (k : ∀ σ H Q, t' σ H Q → t σ H Q) : PA X es t' := ⟨fun pos pins s σ H Q I hw => h.run pos pins s σ H Q I (k σ H Q hw)⟩
section
variable {L : Lnk} {C : Ctx} {X : Cx}
theorem s_dat {ex : Expr} {e : E} (h : PE X ex (TEv L C e)) : PE X ex (TStD L C e) :=
  PE.mono (pe_locks h) fun σ H Q ⟨A, s, τ, d, s', S, e, q⟩ => by
    obtain ⟨r, s1, e1, e2⟩ := bd_ok e
    refine ⟨A, s, τ, r, s1, S, e1, fun v H1 A1 y S1 P1 K1 => ?_⟩
    obtain ⟨Y, hm, nd, hG, k⟩ := stoD_ok (G := []) S1 P1 (fun b hb => by simp at hb) K1 e2
    refine ⟨Y, hm, nd, fun H2 l => ?_⟩
    obtain ⟨A2, S2, P2, rp⟩ := k H2 l
    exact q v H2 A2 () S2 P2 rp
theorem s_sto {ex : Expr} {e : E} (h : PE X ex (TEv L C e)) : PE X ex (TSto L C e) :=
  PE.mono (pe_locks h) fun σ H Q ⟨A, s, τ, d, s', S, e, q⟩ => by
    obtain ⟨r, s1, e1, e2⟩ := bd_ok e
    refine ⟨A, s, τ, r, s1, S, e1, fun v H1 A1 y S1 P1 K1 => ?_⟩
    obtain ⟨Y, hm, nd, hG, k⟩ := sto_ok (G := []) S1 P1 (fun b hb => by simp at hb) K1 e2
    refine ⟨Y, hm, nd, fun H2 l => ?_⟩
    obtain ⟨A2, z, S2, P2, rp⟩ := k H2 l
    exact q v H2 A2 z S2 P2 rp
def TDs (L : Lnk) (C : Ctx) (es : Es) : TA := fun σ H Q => ∃ A s τ xs s', SR L H σ A s τ ∧ evds C es s = .ok xs s' ∧ ∀ vs H' A', SR L H' σ A' s' τ → Pst H A H' A' [] → RpL L.K H' vs xs → Q vs H'
theorem d_nil : PA X [] (TDs L C .nil) := PA.mono pa_nil fun σ H Q ⟨A, s, τ, xs, s', S, e, q⟩ => by
  cases e
  exact q [] H A S (Pst.refl S.nd) .nil
theorem d_cons {ex : Expr} {exs : List Expr} {e : E} {es : Es} (h : PE X ex (TEv L C e)) (hs : PA X exs (TDs L C es)) (hst : starEach (ex :: exs) X.env = (false, eval ex X.env) :: starEach exs X.env := by rfl) : PA X (ex :: exs) (TDs L C (.cons e es)) :=
  PA.mono (pa_cons (s_dat h) hs hst) fun σ H Q ⟨A, s, τ, xs, s', S, e0, q⟩ => by
    obtain ⟨r, s1, e1, e2⟩ := bd_ok (show ((ev C e s).bd fun r s => (stoD r s).bd fun x s => (evds C es s).bd fun xs s => .ok (x :: xs) s) = .ok xs s' from e0)
    obtain ⟨x, s2, e3, e4⟩ := bd_ok e2
    obtain ⟨ys, s3, e5, e6⟩ := bd_ok e4
    cases e6
    refine ⟨A, s, τ, x, s2, S, by show (ev C e s).bd stoD = _; rw [e1]; exact e3, fun v H1 A1 y S1 P1 K1 => ⟨A1, s2, τ, ys, _, S1, e5, fun vs H2 A2 S2 P2 K2 => ?_⟩⟩
    exact q (v :: vs) H2 A2 S2 (P1.seq P2) (.cons (Rp.mono (P2.stb S1) K1) K2)
def TMs (L : Lnk) (C : Ctx) (es : Es) : TA := fun σ H Q => ∃ A s τ ms s', SR L H σ A s τ ∧ evms C es s = .ok ms s' ∧ ∀ vs H' A' ys, SR L H' σ A' s' τ → Pst H A H' A' (adrs ys) → ers ys = ms → vsOf ys = vs → HdL L H' ys → Q vs H'
theorem m_nil : PA X [] (TMs L C .nil) := PA.mono pa_nil fun σ H Q ⟨A, s, τ, xs, s', S, e, q⟩ => by
  cases e
  exact q [] H A [] S (Pst.refl S.nd) rfl rfl trivial
theorem m_cons {ex : Expr} {exs : List Expr} {e : E} {es : Es} (h : PE X ex (TEv L C e)) (hs : PA X exs (TMs L C es)) (hst : starEach (ex :: exs) X.env = (false, eval ex X.env) :: starEach exs X.env := by rfl) : PA X (ex :: exs) (TMs L C (.cons e es)) :=
  PA.mono (pa_cons (s_sto h) hs hst) fun σ H Q ⟨A, s, τ, xs, s', S, e0, q⟩ => by
    obtain ⟨r, s1, e1, e2⟩ := bd_ok (show ((ev C e s).bd fun r s => (sto r s).bd fun x s => (evms C es s).bd fun xs s => .ok (x :: xs) s) = .ok xs s' from e0)
    obtain ⟨x, s2, e3, e4⟩ := bd_ok e2
    obtain ⟨ys, s3, e5, e6⟩ := bd_ok e4
    cases e6
    refine ⟨A, s, τ, x, s2, S, by show (ev C e s).bd sto = _; rw [e1]; exact e3, fun v H1 A1 y S1 P1 K1 => ⟨A1, s2, τ, ys, _, S1, e5, fun vs H2 A2 zs S2 P2 h1 h2 h3 => ?_⟩⟩
    obtain ⟨k1, k2, k3⟩ := K1
    refine q (v :: vs) H2 A2 (y :: zs) S2 ?_ ?_ ?_ ⟨Hd.over P1 S1 P2 k3 fun b hb => hb, h3⟩
    · simp only [adrs]
      exact P1.trans P2 fun b hb => by obtain ⟨u, e, _⟩ := Hd.mut k3 b hb; exact ⟨u, e⟩
    · simp only [ers, k1, h1]
    · simp only [vsOf, List.map_cons, k2]
      simp only [vsOf] at h2
      rw [h2]
def Es.len : Es → Nat
  | .nil => 0
  | .cons _ r => r.len + 1
theorem evms_len : ∀ {es : Es} {s s' : St} {ms : List M}, evms C es s = .ok ms s' → ms.length = es.len
  | .nil, s, s', ms, e => by cases e; rfl
  | .cons e es, s, s', ms, h => by
    obtain ⟨r, s1, e1, e2⟩ := bd_ok (show ((ev C e s).bd fun r s => (sto r s).bd fun x s => (evms C es s).bd fun xs s => .ok (x :: xs) s) = .ok ms s' from h)
    obtain ⟨x, s2, e3, e4⟩ := bd_ok e2
    obtain ⟨ys, s3, e5, e6⟩ := bd_ok e4
    cases e6
    simp only [List.length_cons, Es.len, evms_len e5]
theorem evds_len : ∀ {es : Es} {s s' : St} {ms : List D}, evds C es s = .ok ms s' → ms.length = es.len
  | .nil, s, s', ms, e => by cases e; rfl
  | .cons e es, s, s', ms, h => by
    obtain ⟨r, s1, e1, e2⟩ := bd_ok (show ((ev C e s).bd fun r s => (stoD r s).bd fun x s => (evds C es s).bd fun xs s => .ok (x :: xs) s) = .ok ms s' from h)
    obtain ⟨x, s2, e3, e4⟩ := bd_ok e2
    obtain ⟨ys, s3, e5, e6⟩ := bd_ok e4
    cases e6
    simp only [List.length_cons, Es.len, evds_len e5]
theorem line_100 {n : Nat} (h : n ≤ 100000) : n ≤ sizeLine := by have : sizeLine = 16777216 := sizeLine_eq; omega
theorem s_tup {exs : List Expr} {es : Es} {k : Nat} {pos : Pos} (h : PA X exs (TDs L C es)) (hl : es.len ≤ 100000 := by decide) : PE X (.Tuple exs k pos) (TEv L C (.tup es)) :=
  PE.mono (pe_tupB h) fun σ H Q ⟨A, s, τ, r, s', S, e, q⟩ => by
    obtain ⟨xs, s1, e1, e2⟩ := bd_ok (show ((evds C es s).bd fun xs s => .ok (.v (.d (.tuple xs))) s) = .ok r s' from e)
    cases e2
    refine ⟨A, s, τ, xs, _, S, e1, fun vs H1 A1 S1 P1 K1 => ⟨?_, fun p o hp hd => ?_⟩⟩
    · rw [K1.length, evds_len e1]; exact line_100 hl
    · exact Fin.tup q S1 P1 (fun b hb => by simp at hb) K1 hp hd
theorem s_lst {exs : List Expr} {es : Es} {pos : Pos} (h : PA X exs (TMs L C es)) (hl : es.len ≤ 100000 := by decide) : PE X (.List exs pos) (TEv L C (.lst es)) :=
  PE.mono (pe_lst h) fun σ H Q ⟨A, s, τ, r, s', S, e, q⟩ => by
    obtain ⟨ms, s1, e1, e2⟩ := bd_ok (show ((evms C es s).bd fun ms s => .ok (.v (.lst ms)) s) = .ok r s' from e)
    cases e2
    refine ⟨A, s, τ, ms, _, S, e1, fun vs H1 A1 ys S1 P1 h1 h2 h3 => ⟨?_, fun p hp => ?_⟩⟩
    · have : vs.length = ms.length := by rw [← h2, ← h1, ers_map, vsOf, List.length_map, List.length_map]
      rw [this, evms_len e1]; exact line_100 hl
    · rw [← h2]
      subst h1
      exact Fin.lst q S1 P1 (fun b hb => by obtain ⟨u, e, _⟩ := HdL.mut h3 b hb; exact ⟨u, e⟩) h3 (fun b hb => hb) P1.fnd hp

theorem getA_append : ∀ (p q : List Acc) (m : MA), m.getA (p ++ q) = (m.getA p).bind fun x => x.getA q
  | [], q, m => by simp [MA.getA]
  | a :: p, q, .im _ _ => by simp [MA.getA]
  | .ix n :: p, q, .lst a ms => by
    simp only [List.cons_append, MA.getA]
    cases ms[n]? with
    | none => rfl
    | some x => simp only [Option.bind_some]; exact getA_append p q x
  | .ky n :: p, q, .dct a ms => by
    simp only [List.cons_append, MA.getA]
    cases lkD n ms with
    | none => rfl
    | some x => simp only [Option.bind_some]; exact getA_append p q x
  | .fd n :: p, q, .obj a c ms => by
    simp only [List.cons_append, MA.getA]
    cases lkN n ms with
    | none => rfl
    | some x => simp only [Option.bind_some]; exact getA_append p q x
  | .ky _ :: p, q, .lst a ms => by simp [MA.getA]
  | .fd _ :: p, q, .lst a ms => by simp [MA.getA]
  | .ix _ :: p, q, .dct a ms => by simp [MA.getA]
  | .fd _ :: p, q, .dct a ms => by simp [MA.getA]
  | .ix _ :: p, q, .obj a c ms => by simp [MA.getA]
  | .ky _ :: p, q, .obj a c ms => by simp [MA.getA]
  | c :: p, q, .dnn a ms => by cases c <;> simp [MA.getA]
theorem plA_append {A : SA} {p : Pth} {q : List Acc} : plA A (p.1, p.2 ++ q) = (plA A p).bind fun x => x.getA q := by
  unfold plA
  simp only
  cases joinO A[p.1]? with
  | none => rfl
  | some m => simp only [Option.bind_some]; exact getA_append p.2 q m
def At (A : SA) (r : Rv) (y : Option MA) (z : MA) : Prop := (∃ m, r = .v m ∧ y = some z) ∨ ∃ p, r = .p p ∧ okP p.2 ∧ plA A p = some z
theorem val_at {H : Hp} {σ : L2.St} {A : SA} {s : St} {τ : List V} {r : Rv} {y : Option MA} {v : V} {m : M} (S : SR L H σ A s τ) (K : RvOk L H A r y v) (e : s.val r = some m) : ∃ z : MA, z.er = m ∧ z.v = v ∧ Hd L H z ∧ At A r y z := by
  cases r with
  | v m' =>
    obtain ⟨n, rfl, h1, h2, h3⟩ := K.v_inv
    cases e
    exact ⟨n, h1, h2, h3, .inl ⟨_, rfl, rfl⟩⟩
  | p p =>
    obtain ⟨rfl, o, h⟩ := K.p_inv
    obtain ⟨x, hx, hv⟩ := labS_pl h
    change s.get p = some m at e
    rw [S.get, hx] at e
    simp only [Option.map_some, Option.some.injEq] at e
    exact ⟨x, e, hv, S.pl_hd hx, .inr ⟨p, rfl, o, hx⟩⟩
theorem item_ok {H H2 : Hp} {σ : L2.St} {A A2 : SA} {s s' : St} {τ : List V} {ra r : Rv} {ya : Option MA} {a : Acc} {z w : MA} {G : List Addr} {Q : VK}
    (S : SR L H2 σ A2 s τ) (P : Pst H A H2 A2 (adrO ya ++ G)) (ht : At A2 ra ya z) (hz : Hd L H2 z) (hg : z.getA [a] = some w) (oka : okA a = true) (e : item ra a w.er s = .ok r s') (q : Fin L σ H A τ r s' Q) : Q w.v H2 := by
  have hw := getA_hd [a] z w hz hg
  rcases ht with ⟨m, rfl, rfl⟩ | ⟨p, rfl, op, hp⟩
  · cases e
    have nd : z.adr.Nodup := (List.nodup_append.mp P.fnd).1
    exact q w.v H2 A2 (some w) S (P.less (fun b hb => by have := getA_adr [a] z w hg b hb; simp [adrO, this]) (getA_nd nd hg)) ⟨rfl, rfl, hw⟩
  · simp only [item] at e
    cases hm : w.er.isMut with
    | true =>
      rw [hm] at e
      cases e
      refine q w.v H2 A2 none S P.nil ⟨?_, ?_⟩
      · exact op.append fun b hb => by simp at hb; subst hb; exact oka
      · unfold labS
        rw [plA_append, hp]
        simp only [Option.bind_some, hg, Option.map_some]
    | false =>
      rw [hm] at e
      cases e
      refine q w.v H2 A2 (some w) S ?_ ⟨rfl, rfl, hw⟩
      have : adrO (some w) = [] := mut_er hm
      rw [this]
      exact P.nil
theorem nix_eq (n : Nat) (i : Int) : nix n i = L2.ixN n i := rfl
theorem atI_of {α : Type} {xs : List α} {i : Int} {n : Nat} {x : α} (h : nix xs.length i = some n) (e : xs[n]? = some x) : atI xs i = some x := by
  unfold atI
  rw [← nix_eq, h]
  exact e
theorem atD_ok {K : PySem.W.Frag} {H : Hp} {vs : List V} {xs : List D} {j : Int} {w : D} (h : RpL K H vs xs) (e : atD xs (.int j) = some w) : ∃ v, atI vs j = some v ∧ Rp K H v w := by
  unfold atD at e
  simp only [asInt, Option.bind_some, Option.bind_eq_some_iff] at e
  obtain ⟨n, e1, e2⟩ := e
  obtain ⟨v, h1, h2⟩ := h.get e2
  exact ⟨v, atI_of (by rw [h.length]; exact e1) h1, h2⟩
theorem asInt_at {i : D} {α : Type} {f : Int → Option α} {w : α} (e : ((asInt i).bind f) = some w) : ∃ j, i = .int j ∧ f j = some w := by
  simp only [Option.bind_eq_some_iff] at e
  obtain ⟨j, h1, h2⟩ := e
  exact ⟨j, asInt_some h1, h2⟩
theorem IxR.mono {r r' : R2} (h : IxR X r) (k : ∀ x y H Q, r' x y H Q → r x y H Q) : IxR X r' :=
  fun value slice pins s σ H x y v u Q I rx ry q hs => h value slice pins s σ H x y v u Q I rx ry (k x y H Q q) hs
def rIxK : R2 := fun x y H Q => ∃ a v, x = .ref a ∧ DGet H a y (some v) ∧ Q v H
theorem ix_dict (hu : X.A.units + 1 < cLine) : IxR X rIxK := by
  intro value slice pins s σ H x y v u Q I rx ry h hs
  obtain ⟨a, w, rfl, g, q⟩ := h
  cases rx
  exact PyProof.Rows.tail_any (dict_typeIs I g) PySem.F.slot_dict_getitem.lookup (d_getItem hu I g ry fun w' s' I' r' => ⟨w, H, I', r', q⟩) hs
theorem Rp.kV {K : PySem.W.Frag} {H : Hp} {v : V} {d : D} (h : Rp K H v d) (kk : isKK d = true) : ∃ k, toKey d = some k ∧ v = L2.kV k := by
  obtain ⟨k, hk⟩ := isKK_to kk
  exact ⟨k, hk, toKey_kV h hk⟩
theorem ix_sub {k : Nat} (xo : XO L X k) : IxR X (RG L subR) := by
  have hu : X.A.units + 1 < cLine := by have := xo.un; omega
  refine IxR.mono (ix_list.or (ix_tup.or (ix_str.or ((ix_dict hu).or (ix_N xo))))) ?_
  rintro x y H2 Q ⟨σ, H, A, A2, s, τ, ra, rb, ya, yb, r, s', S, P, Ka, Kb, e, q⟩
  obtain ⟨i, e1, e2⟩ := rs_ok e
  cases dat_some e1
  have Ki := Kb.d_inv
  obtain ⟨m, e3, e4⟩ := rs_ok e2
  obtain ⟨z, rfl, rfl, hz, ht⟩ := val_at S Ka e3
  have im : ∀ {m : M} {v : V}, r = .v m → s' = s → ImOk L H2 m v → Q v H2 := fun {m v} h1 h2 h3 => by subst h1 h2; exact Fin.im q S P h3
  cases z with
  | im m v =>
    cases m with
    | d dx =>
      have hx : Rp L.K H2 v dx := hz
      cases dx with
      | tuple xs =>
        obtain ⟨w, f1, f2, f3⟩ := okV_ok (show okV (atD xs i) s .d = .ok r s' from e4)
        obtain ⟨j, rfl, _⟩ := asInt_at f1
        obtain ⟨a, vs, rfl, h1, h2⟩ := hx.tup_inv
        obtain ⟨u, g1, g2⟩ := atD_ok h2 f1
        exact .inr (.inl ⟨a, vs, j, u, rfl, Ki.int_inv, xo.hK ▸ h1, g1, im f2 f3 g2⟩)
      | list xs =>
        obtain ⟨w, f1, f2, f3⟩ := okV_ok (show okV (atD xs i) s .d = .ok r s' from e4)
        obtain ⟨j, rfl, _⟩ := asInt_at f1
        obtain ⟨a, vs, rfl, h1, h2⟩ := hx.lst_inv
        obtain ⟨u, g1, g2⟩ := atD_ok h2 f1
        exact .inl ⟨a, vs, j, u, rfl, Ki.int_inv, xo.hK ▸ h1.sql, g1, im f2 f3 g2⟩
      | str t =>
        obtain ⟨c, f1, f2, f3⟩ := okV_ok (show okV ((asInt i).bind fun i => (nix t.length i).bind fun n => (strL t)[n]?) s (fun c => M.d (chr1 c)) = .ok r s' from e4)
        obtain ⟨j, rfl, f4⟩ := asInt_at f1
        simp only [Option.bind_eq_some_iff] at f4
        obtain ⟨n, f5, f6⟩ := f4
        obtain ⟨rfl, ok⟩ := hx.str_inv
        have hl : t.cps.toList.length = t.length := by simp [Str.length]
        refine .inr (.inr (.inl ⟨t, j, c, rfl, Ki.int_inv, ok.1, atI_of (by rw [hl]; exact f5) f6, im f2 f3 (.str _ ?_)⟩))
        have h1 : (⟨#[c]⟩ : Str).length = 1 := rfl
        refine ⟨by rw [h1, sizeLine_eq]; decide, fun c' hc' => ?_⟩
        have : c' = c := by simpa using hc'
        subst this
        exact ok.2 c' (List.mem_of_getElem? f6)
      | dict kvs =>
        obtain ⟨c, e5⟩ := rif_ok (show rif (isKK i) (okV (lkD i kvs) s .d) = .ok r s' from e4)
        obtain ⟨w, f1, f2, f3⟩ := okV_ok e5
        obtain ⟨a, o, l, rfl, h1, h2⟩ := hx.dct_inv
        obtain ⟨k, hk, hv⟩ := Ki.kV c
        obtain ⟨u, g1, g2⟩ := (lk_valK hk h2).1 w f1
        exact .inr (.inr (.inr (.inl ⟨a, u, rfl, .inl ⟨l, k, .inr ⟨o, h1⟩, hv, g1.symm⟩, im f2 f3 g2⟩)))
      | _ => cases e4
    | tab kvs =>
      obtain ⟨c, e5⟩ := rif_ok (show rif (isKK i) (okV (lkD i kvs) s .fn) = .ok r s' from e4)
      obtain ⟨n, f1, f2, f3⟩ := okV_ok e5
      obtain ⟨a, o, l, hv0, h1, h2⟩ := hz
      simp only [MA.v] at hv0 ⊢
      subst hv0
      obtain ⟨k, hk, hv⟩ := Ki.kV c
      obtain ⟨f, g1, g2⟩ := (lk_valT hk h2).1 n f1
      exact .inr (.inr (.inr (.inl ⟨a, .ref f, rfl, .inl ⟨l, k, .inr ⟨o, h1⟩, hv, g2.symm⟩, im f2 f3 ⟨f, g1, rfl⟩⟩)))
    | lst _ => exact hz.elim
    | dct _ => exact hz.elim
    | obj _ _ => exact hz.elim
    | dnn _ => exact hz.elim
    | _ => cases e4
  | lst a ms =>
    obtain ⟨j, e5, e6⟩ := rs_ok (show (rs (asInt i) fun i => rs (nix (ers ms).length i) fun n => rs (ers ms)[n]? fun m => item ra (.ix n) m s) = .ok r s' from e4)
    cases asInt_some e5
    obtain ⟨n, e7, e8⟩ := rs_ok e6
    obtain ⟨m, e9, e10⟩ := rs_ok e8
    rw [ers_get, Option.map_eq_some_iff] at e9
    obtain ⟨w, g1, rfl⟩ := e9
    have hlen : (ers ms).length = ms.length := by rw [ers_map, List.length_map]
    refine .inl ⟨a, vsOf ms, j, w.v, rfl, Ki.int_inv, .inl (.inl hz.1), atI_of (n := n) (by rw [vsOf, List.length_map, ← hlen]; exact e7) (by rw [vsOf, List.getElem?_map, g1]; rfl), ?_⟩
    exact item_ok S P ht hz (by simp [MA.getA, g1]) rfl e10 q
  | dct a kvs =>
    obtain ⟨c, e5⟩ := rif_ok (show (rif (isKK i) (rs (lkD i (erk kvs)) fun m => item ra (.ky i) m s)) = .ok r s' from e4)
    obtain ⟨m, e6, e7⟩ := rs_ok e5
    rw [erk_lk, Option.map_eq_some_iff] at e6
    obtain ⟨w, g1, rfl⟩ := e6
    obtain ⟨l, hl, hH⟩ := hz.1
    obtain ⟨k, hk, hv⟩ := Ki.kV c
    refine .inr (.inr (.inr (.inl ⟨a, w.v, rfl, .inl ⟨l, k, .inl hH, hv, ?_⟩, ?_⟩)))
    · rw [lk_valM hk hl, g1]; rfl
    · exact item_ok S P ht hz (by simp [MA.getA, g1]) (show okA (.ky i) = true from toKey_isKey hk) e7 q
  | obj a c fs => cases e4
  | dnn a kvs =>
    obtain ⟨c, e5⟩ := rif_ok (show rif (isNK i) (okV (lkD i kvs) s .d) = .ok r s' from e4)
    obtain ⟨w, f1, f2, f3⟩ := okV_ok e5
    obtain ⟨⟨l, h1, h2⟩, h3, h4⟩ := hz
    exact .inr (.inr (.inr (.inr ⟨a, i, kvs, w, rfl, ⟨l, h1, h2, h3, c, Ki⟩, f1, fun v hv => im f2 f3 hv⟩)))
theorem s_sub {k : Nat} {ea eb : Expr} {a b : E} {pos : Pos} (xo : XO L X k) (ha : PE X ea (TEv L C a)) (hb : PE X eb (TEv L C b)) (hs : PlainIx eb := by intro _ _; rfl) : PE X (.Subscript ea eb pos) (TEv L C (.sub a b)) :=
  s_two (g := subR) (fun s => by rw [ev]) (pe_ix (ix_sub xo) ha hb hs)

theorem six_eq (n d : Nat) (o : Option Int) : six n d o = HT.sIx n d o := by cases o <;> rfl
def TOp (L : Lnk) (C : Ctx) (o : OE) : TO := fun σ H Q => ∃ A s τ l s', SR L H σ A s τ ∧ evp C o s = .ok l s' ∧ ∀ H' A', SR L H' σ A' s' τ → Pst H A H' A' [] → Q l H'
theorem PO.mono {e : Option Expr} {t t' : TO} (h : PO X e t) (k : ∀ σ H Q, t' σ H Q → t σ H Q) : PO X e t' := ⟨fun pins s σ H Q I hw => h.run pins s σ H Q I (k σ H Q hw)⟩
theorem o_none : PO X none (TOp L C .none) := PO.mono po_none fun σ H Q ⟨A, s, τ, l, s', S, e, q⟩ => by
  cases e
  exact q H A S (Pst.refl S.nd)
theorem o_some {ex : Expr} {e : E} (h : PE X ex (TEv L C e)) : PO X (some ex) (TOp L C (.some e)) := PO.mono (po_some h) fun σ H Q ⟨A, s, τ, l, s', S, e0, q⟩ => by
  obtain ⟨r, s1, e1, e3⟩ := bd_ok (show ((ev C e s).bd fun r s => rs (r.dat.bind asInt) fun i => .ok (some i) s) = .ok l s' from e0)
  obtain ⟨i, e4, e5⟩ := rs_ok e3
  cases e5
  simp only [Option.bind_eq_some_iff] at e4
  obtain ⟨x, e6, e7⟩ := e4
  cases dat_some e6
  cases asInt_some e7
  exact ⟨A, s, τ, _, _, S, e1, fun v H1 A1 y S1 P1 K1 => ⟨_, K1.d_inv.int_inv, q H1 A1 S1 P1.nil⟩⟩
theorem SlR.mono {r r' : V → Option Int → Option Int → Hp → VK → Prop} (h : SlR X r) (k : ∀ x lo hi H Q, r' x lo hi H Q → r x lo hi H Q) : SlR X r' :=
  fun pins s σ H x v vl vu lo hi sl Q I rx hs pl pu q => h pins s σ H x v vl vu lo hi sl Q I rx hs pl pu (k x lo hi H Q q)
def Lk3 (r : V → Option Int → Option Int → Hp → VK → Prop) : V → Option Int → Option Int → Hp → VK → Prop := fun x lo hi H Q => ∃ Y : List Addr, (∀ b ∈ Y, ∃ u, H b = some u ∧ Mut (some u)) ∧ Y.Nodup ∧ ∀ H2, Lockd Y H H2 → r x lo hi H2 Q
theorem SlR.lk {r : V → Option Int → Option Int → Hp → VK → Prop} (h : SlR X r) : SlR X (Lk3 r) :=
  fun pins s σ H x v vl vu lo hi sl Q I rx hs pl pu ⟨Y, hm, nd, q⟩ => by
    obtain ⟨H2, I2, k⟩ := Inv.locks I hm nd
    obtain ⟨T, id, h1, h2, h3⟩ := h pins s σ H2 x v vl vu lo hi sl Q I2 rx hs pl pu (q H2 k)
    exact ⟨T, id, h1, h2, h3⟩
def RSl (L : Lnk) : V → Option Int → Option Int → Hp → VK → Prop := fun x lo hi H2 Q => ∃ (σ : L2.St) (H : Hp) (A A2 : SA) (s : St) (τ : List V) (ra : Rv) (ya : Option MA) (r : Rv) (s' : St),
  SR L H2 σ A2 s τ ∧ Pst H A H2 A2 (adrO ya) ∧ RvOk L H2 A2 ra ya x ∧ sliR .one ra lo hi s = .ok r s' ∧ Fin L σ H A τ r s' Q
theorem RpL.take {K : PySem.W.Frag} {H : Hp} : ∀ {vs : List V} {ds : List D} (n : Nat), RpL K H vs ds → RpL K H (vs.take n) (ds.take n)
  | _, _, 0, _ => by simp; exact .nil
  | _, _, n + 1, .nil => by simp; exact .nil
  | _, _, n + 1, .cons h r => by simp; exact .cons h (RpL.take n r)
theorem RpL.drop {K : PySem.W.Frag} {H : Hp} : ∀ {vs : List V} {ds : List D} (n : Nat), RpL K H vs ds → RpL K H (vs.drop n) (ds.drop n)
  | _, _, 0, r => by simpa using r
  | _, _, n + 1, .nil => by simp; exact .nil
  | _, _, n + 1, .cons h r => by simp; exact RpL.drop n r
theorem RpL.cut {K : PySem.W.Frag} {H : Hp} {vs : List V} {ds : List D} (lo hi : Option Int) (h : RpL K H vs ds) : RpL K H (cutV vs lo hi) (cut ds lo hi) := by
  unfold cutV Vm.cut
  simp only [← six_eq, h.length]
  exact RpL.take _ (RpL.drop _ h)
theorem adrs_sub {ms : List MA} (n k : Nat) : (∀ b ∈ adrs ((ms.drop n).take k), b ∈ adrs ms) ∧ ((adrs ms).Nodup → (adrs ((ms.drop n).take k)).Nodup) := by
  have e : adrs ms = adrs (ms.take n) ++ (adrs ((ms.drop n).take k) ++ adrs ((ms.drop n).drop k)) := by
    rw [← adrs_append, ← adrs_append, List.take_append_drop, List.take_append_drop]
  rw [e]
  exact ⟨fun b hb => by simp [hb], fun h => (List.nodup_append.mp (List.nodup_append.mp h).2.1).1⟩
theorem HdL.subl {H : Hp} {ms : List MA} (n k : Nat) (h : HdL L H ms) : HdL L H ((ms.drop n).take k) :=
  .of fun m hm => h.mem m (List.mem_of_mem_drop (List.mem_of_mem_take hm))
theorem cut_ers (ms : List MA) (lo hi : Option Int) : cut (ers ms) lo hi = ers (cut ms lo hi) ∧ vsOf (cut ms lo hi) = cutV (vsOf ms) lo hi := by
  constructor
  · unfold cut
    simp only [ers_map, List.length_map, List.map_take, List.map_drop]
  · unfold cut cutV vsOf
    simp only [← six_eq, List.length_map, List.map_take, List.map_drop]
theorem sOk_sub {x : Str} (h : sOk x) {l : List Nat} (hl : ∀ c ∈ l, c ∈ strL x) (hn : l.length ≤ x.length) : sOk (mkStr l) :=
  sOk_mk (by have := h.1; omega) fun c hc => h.2 c (hl c hc)
theorem Rp.cutS {K : PySem.W.Frag} {H : Hp} {t : Str} (ok : sOk t) (lo hi : Option Int) : Rp K H (.str (L2.cutS t lo hi)) (.str (mkStr (cut (strL t) lo hi))) := by
  have e : L2.cutS t lo hi = mkStr (cut (strL t) lo hi) := by
    unfold L2.cutS mkStr cut strL
    simp only [← six_eq, Str.length, Array.length_toList]
  rw [e]
  refine .str _ (sOk_sub ok (fun c hc => ?_) ?_)
  · exact List.mem_of_mem_drop (List.mem_of_mem_take hc)
  · unfold cut
    have : (strL t).length = t.length := by simp [strL, Str.length]
    simp only [List.length_take, List.length_drop, this]
    omega
theorem sl_one (hK : X.K = L.K) : SlR X (RSl L) := by
  refine SlR.mono (SlR.or (SlR.lk sl_list) (SlR.or sl_tupB sl_str)) ?_
  rintro x lo hi H2 Q ⟨σ, H, A, A2, s, τ, ra, ya, r, s', S, P, Ka, e, q⟩
  unfold sliR at e
  split at e
  · rename_i xs
    obtain ⟨_, e⟩ := rif_ok e
    obtain ⟨ys, e1, rfl, rfl⟩ := okV_ok e
    cases e1
    obtain ⟨a, vs, rfl, h1, h2⟩ := Ka.d_inv.tup_inv
    refine .inr (.inl ⟨a, vs, rfl, hK ▸ h1, fun hw => ?_, fun _ p o hp hd => ?_⟩)
    · have : cut xs lo hi = xs := by
        unfold cut
        simp only [six_eq, ← h2.length, hw.1, hw.2]
        simp [h2.length]
      refine Fin.im q S P ?_
      rw [this]
      exact Ka.d_inv
    · exact Fin.tup q S P Ka.trk (h2.cut lo hi) hp hd
  · rename_i t
    obtain ⟨_, e⟩ := rif_ok e
    obtain ⟨ys, e1, rfl, rfl⟩ := okV_ok e
    cases e1
    obtain ⟨rfl, ok⟩ := Ka.d_inv.str_inv
    exact .inr (.inr ⟨t, rfl, ok.1, Fin.im q S P (Rp.cutS ok lo hi)⟩)
  · rename_i xs
    obtain ⟨ys, e1, rfl, rfl⟩ := okV_ok e
    cases e1
    obtain ⟨a, vs, rfl, h1, h2⟩ := Ka.d_inv.lst_inv
    refine .inl ⟨[], (fun b hb => by simp at hb), List.nodup_nil, fun H3 k => ?_⟩
    cases Lockd.nil_eq k
    refine ⟨a, vs, rfl, hK ▸ h1.sql, fun p hp => ?_⟩
    obtain ⟨i1, i2, i3, i4⟩ := imD_ok (L := L) (h2.cut lo hi)
    rw [← i2] at q
    have := Fin.lst q S P Ka.trk i4 (fun b hb => by rw [i3] at hb; simp at hb) (by rw [i3]; exact List.nodup_nil) hp
    rw [i1] at this
    exact this
  · rename_i ms
    obtain ⟨ys, e1, rfl, rfl⟩ := okV_ok e
    cases e1
    obtain ⟨n, rfl, h1, rfl, h3⟩ := Ka.v_inv
    cases n with
    | im m v => simp only [MA.er] at h1; subst h1; exact h3.elim
    | dct a ns => simp [MA.er] at h1
    | obj a c ns => simp [MA.er] at h1
    | dnn a ns => simp [MA.er] at h1
    | lst a ns =>
      simp only [MA.er, M.lst.injEq] at h1
      subst h1
      refine .inl ⟨[], (fun b hb => by simp at hb), List.nodup_nil, fun H3 k => ?_⟩
      cases Lockd.nil_eq k
      refine ⟨a, vsOf ns, rfl, .inl (.inl h3.1), fun p hp => ?_⟩
      obtain ⟨c1, c2⟩ := cut_ers ns lo hi
      rw [c1] at q
      rw [← c2]
      have sb := adrs_sub (ms := ns) (six ns.length 0 lo) (six ns.length ns.length hi - six ns.length 0 lo)
      have nd := (List.nodup_cons.mp P.fnd).2
      exact Fin.lst q S P Ka.trk (h3.2.subl _ _) (fun b hb => by simp [adrO, MA.adr, sb.1 b hb]) (sb.2 nd) hp
  · rename_i p
    obtain ⟨ms, s1, e1, e2⟩ := bd_ok e
    obtain ⟨ys, e3, rfl, rfl⟩ := okV_ok e2
    cases e3
    obtain ⟨rfl, o, h⟩ := Ka.p_inv
    obtain ⟨a, ns, rfl, hp, Y, hm, nd, hy, k1⟩ := kidsP_ok S P o h e1
    refine .inl ⟨Y, hm, nd, fun H3 k => ?_⟩
    obtain ⟨A3, zs, S3, P3, z1, z2, z3, z4, z5, z6⟩ := k1 H3 k
    refine ⟨a, vsOf zs, rfl, .inl (.inl z4), fun p hp => ?_⟩
    subst z1
    obtain ⟨c1, c2⟩ := cut_ers zs lo hi
    rw [c1] at q
    rw [← c2]
    have sb := adrs_sub (ms := zs) (six zs.length 0 lo) (six zs.length zs.length hi - six zs.length 0 lo)
    have nz : adrs (cut zs lo hi) = [] := List.eq_nil_iff_forall_not_mem.mpr fun b hb => by have := sb.1 b hb; rw [z2] at this; simp at this
    exact Fin.lst q S3 P3 (fun b hb => by simp [adrO] at hb) (z3.subl _ _) (fun b hb => by rw [nz] at hb; simp at hb) (by rw [nz]; exact List.nodup_nil) hp
  · cases e
theorem s_sli {ea : Expr} {elo ehi : Option Expr} {a : E} {lo hi : OE} {p2 pos : Pos} (hK : X.K = L.K) (ha : PE X ea (TEv L C a)) (hl : PO X elo (TOp L C lo)) (hh : PO X ehi (TOp L C hi)) : PE X (.Subscript ea (.Slice elo ehi none p2) pos) (TEv L C (.sli a lo hi .one)) :=
  PE.mono (pe_slice (sl_one hK) ha hl hh) fun σ H Q ⟨A, s, τ, r, s', S, e0, q⟩ => by
    obtain ⟨ra, s1, e1, e2⟩ := bd_ok (show ((ev C a s).bd fun ra s => hold ra s (fun s => (evp C lo s).bd fun l s => (evp C hi s).bd fun h s => .ok (l, h) s) fun ra lh s => sliR .one ra lh.1 lh.2 s) = .ok r s' from e0)
    refine ⟨A, s, τ, ra, s1, S, e1, fun x H1 A1 ya S1 P1 K1 => ?_⟩
    obtain ⟨τ1, s1', lh, s2, S1', e3, k⟩ := hold_ok S1 P1 K1 e2
    obtain ⟨l, s3, e4, e5⟩ := bd_ok e3
    obtain ⟨h, s4, e6, e7⟩ := bd_ok e5
    cases e7
    refine ⟨A1, s1', τ1, l, s3, S1', e4, fun H2 A2 S2 P2 => ⟨A2, s3, τ1, h, s2, S2, e6, fun H3 A3 S3 P3 => ?_⟩⟩
    have P13 := P2.seq P3
    obtain ⟨ra', s2', e8, S3', K3⟩ := k H3 A3 _ S3 P13
    have P03 := P1.trans P13 K1.trk
    rw [List.append_nil] at P03
    exact ⟨σ, H, A, A3, s2', τ, ra', ya, r, s', S3', P03, K3, e8, q⟩
theorem adrs_rev (ms : List MA) : (adrs ms.reverse).Perm (adrs ms) := by
  induction ms with
  | nil => exact List.Perm.refl _
  | cons m ms ih =>
    rw [List.reverse_cons, adrs_append]
    simp only [adrs, List.append_nil]
    exact (List.Perm.append_right _ ih).trans List.perm_append_comm
theorem rev_ers (ms : List MA) : (ers ms).reverse = ers ms.reverse ∧ vsOf ms.reverse = (vsOf ms).reverse := by simp [ers_map, vsOf]
theorem RpL.rev {K : PySem.W.Frag} {H : Hp} {vs : List V} {ds : List D} (h : RpL K H vs ds) : RpL K H vs.reverse ds.reverse := by
  induction vs generalizing ds with
  | nil => cases h; exact .nil
  | cons v vs ih =>
    cases h with
    | cons h r =>
      rw [List.reverse_cons, List.reverse_cons]
      exact (ih r).append (.cons h .nil)
end
end Vm
end
section
namespace Vm
open PySem L2

def adrOs : List (Option MA) → List Addr
  | [] => []
  | y :: ys => adrO y ++ adrOs ys
def RvsOk (L : Lnk) (H : Hp) (A : SA) : List Rv → List (Option MA) → List V → Prop
  | [], [], [] => True
  | r :: rs, y :: ys, v :: vs => RvOk L H A r y v ∧ RvsOk L H A rs ys vs
  | _, _, _ => False
theorem RvsOk.trk {L : Lnk} {H : Hp} {A : SA} : ∀ {rs : List Rv} {ys : List (Option MA)} {vs : List V}, RvsOk L H A rs ys vs → ∀ b ∈ adrOs ys, ∃ u, H b = some u
  | [], [], [], _, b, hb => by simp [adrOs] at hb
  | r :: rs, y :: ys, v :: vs, h, b, hb => by
    simp only [adrOs, List.mem_append] at hb
    rcases hb with hb | hb
    · exact h.1.trk b hb
    · exact RvsOk.trk h.2 b hb
  | [], [], _ :: _, h, _, _ => h.elim
  | [], _ :: _, [], h, _, _ => h.elim
  | [], _ :: _, _ :: _, h, _, _ => h.elim
  | _ :: _, [], [], h, _, _ => h.elim
  | _ :: _, [], _ :: _, h, _, _ => h.elim
  | _ :: _, _ :: _, [], h, _, _ => h.elim
theorem RvsOk.nil_inv {L : Lnk} {H : Hp} {A : SA} {ys : List (Option MA)} {vs : List V} (h : RvsOk L H A [] ys vs) : ys = [] ∧ vs = [] := by
  cases ys <;> cases vs <;> first | exact ⟨rfl, rfl⟩ | exact h.elim
theorem RvsOk.cons_inv {L : Lnk} {H : Hp} {A : SA} {r : Rv} {rs : List Rv} {ys : List (Option MA)} {vs : List V} (h : RvsOk L H A (r :: rs) ys vs) : ∃ y ys' v vs', ys = y :: ys' ∧ vs = v :: vs' ∧ RvOk L H A r y v ∧ RvsOk L H A rs ys' vs' := by
  cases ys with
  | nil => exact h.elim
  | cons y ys =>
    cases vs with
    | nil => exact h.elim
    | cons v vs => exact ⟨y, ys, v, vs, rfl, rfl, h.1, h.2⟩
section
variable {L : Lnk} {C : Ctx} {X : Cx}
def TRs (L : Lnk) (C : Ctx) (es : Es) : TA := fun σ H Q => ∃ A s τ rv s', SR L H σ A s τ ∧ evs C es s = .ok rv s' ∧ ∀ vs H' A' ys, SR L H' σ A' s' τ → Pst H A H' A' (adrOs ys) → RvsOk L H' A' rv ys vs → Q vs H'
theorem r_nil : PA X [] (TRs L C .nil) := PA.mono pa_nil fun σ H Q ⟨A, s, τ, xs, s', S, e, q⟩ => by
  cases e
  exact q [] H A [] S (Pst.refl S.nd) trivial
theorem r_cons {ex : Expr} {exs : List Expr} {e : E} {es : Es} (h : PE X ex (TEv L C e)) (hs : PA X exs (TRs L C es)) (hst : starEach (ex :: exs) X.env = (false, eval ex X.env) :: starEach exs X.env := by rfl) : PA X (ex :: exs) (TRs L C (.cons e es)) :=
  PA.mono (pa_cons h hs hst) fun σ H Q ⟨A, s, τ, rvs, s', S, e0, q⟩ => by
    obtain ⟨r, s1, e1, e2⟩ := bd_ok (show ((ev C e s).bd fun r s => hold r s (evs C es) fun r rv s => .ok (r :: rv) s) = .ok rvs s' from e0)
    refine ⟨A, s, τ, r, s1, S, e1, fun x H1 A1 y S1 P1 K1 => ?_⟩
    obtain ⟨τ1, s1', rv, s2, S1', e3, k⟩ := hold_ok S1 P1 K1 e2
    refine ⟨A1, s1', τ1, rv, s2, S1', e3, fun vs H2 A2 ys S2 P2 K2 => ?_⟩
    obtain ⟨r', s2', e4, S2', K1'⟩ := k H2 A2 _ S2 P2
    cases e4
    exact q (x :: vs) H2 A2 (y :: ys) S2' (P1.trans P2 K1.trk) ⟨K1', K2⟩
theorem perm_mid {l X r F : List Addr} : (l ++ X ++ r ++ F).Perm ((l ++ r) ++ (X ++ F)) := by
  have h1 : (l ++ X ++ r ++ F) = l ++ ((X ++ r) ++ F) := by simp
  have h2 : (l ++ r) ++ (X ++ F) = l ++ ((r ++ X) ++ F) := by simp
  rw [h1, h2]
  exact List.Perm.append_left l (List.Perm.append_right F List.perm_append_comm)
theorem nd_swap {l X r F X' G : List Addr} (h : (l ++ X ++ r ++ F).Nodup) (sub : ∀ b ∈ X' ++ G, b ∈ X ++ F) (nd : (X' ++ G).Nodup) : (l ++ X' ++ r ++ G).Nodup := by
  rw [perm_mid.nodup_iff] at h ⊢
  have t := List.nodup_append.mp h
  exact List.nodup_append.mpr ⟨t.1, nd, fun a ha b hb q => t.2.2 a ha b (sub b hb) q⟩
theorem kill_never {s : St} : s.kill (fun _ => false) = s := by
  have h1 : ∀ l : List (Nat × Pth), killR (fun _ => false) l = l := by
    intro l
    induction l with
    | nil => rfl
    | cons x l ih => simp [killR, ih]
  have h2 : ∀ l : List (Option Pth), killT (fun _ => false) l = l := by
    intro l
    induction l with
    | nil => rfl
    | cons x l ih => cases x <;> simp [killT, ih]
  unfold St.kill
  rw [h1, h2]
theorem upd_stb' {H : Hp} {a : Addr} {o : HO} (mu : ∃ u, H a = some u ∧ Mut (some u)) : Stb H (upd H a o) := by
  obtain ⟨u, e, m⟩ := mu
  constructor
  · intro b xs h
    rw [upd_ne fun z => ?_]; exact h
    subst z; rw [e] at h; cases h; exact m
  · intro b o w h
    rw [upd_ne fun z => ?_]; exact h
    subst z; rw [e] at h; cases h; exact m
theorem wr_any {H0 H : Hp} {σ : L2.St} {A0 A : SA} {s : St} {τ : List V} {p : Pth} {x x' : MA} {a : Addr} {o : HO} {kf : Pth → Bool} {F G : List Addr} (S : SR L H σ A s τ) (P : Pst H0 A0 H A F) (ok : okP p.2) (hp : plA A p = some x) (hv : x'.v = x.v) (ha : a ∈ x.adr)
    (hx : Hd L (upd H a o) x') (sub : ∀ b ∈ x'.adr ++ G, b ∈ x.adr ++ F) (nd : (x'.adr ++ G).Nodup)
    (hk : ∀ r : Pth, r.1 = p.1 → isPre p.2 r.2 = true → kf r = false → ∀ v, labA x (r.2.drop p.2.length) = some v → labA x' (r.2.drop p.2.length) = some v) :
    ∃ A', SR L (upd H a o) σ A' ((s.put p x'.er).kill kf) τ ∧ Pst H0 A0 (upd H a o) A' G ∧ plA A' p = some x' := by
  have mu : ∃ u, H a = some u ∧ Mut (some u) := S.mut a (SR.pl_adr hp a ha)
  obtain ⟨S2, l, r, a1, a2⟩ := S.write (H' := upd H a o) (x' := x') (kf := kf) ok hp hv (upd_stb' mu) hx (fun b _ hn => upd_ne fun z => hn (z ▸ ha)) (List.nodup_append.mp nd).1
    (fun b hb => by
      have := sub b (by simp [hb])
      rcases List.mem_append.mp this with h | h
      · exact .inl h
      · exact .inr fun hA => nd_left P.nd hA h) hk
  refine ⟨_, S2, ?_, pl_putA S hv ok hp⟩
  refine P.write a1 a2 (fun b hb _ => upd_ne fun z => hb (z ▸ ha)) (fun b hb => .inl (sub b hb)) ?_
  have n0 := P.nd
  rw [a1] at n0
  exact nd_swap n0 sub nd
theorem HdL.updA {H : Hp} {ns : List MA} {a : Addr} {o : HO} (mu : ∃ u, H a = some u ∧ Mut (some u)) (h : HdL L H ns) (ha : a ∉ adrs ns) : HdL L (upd H a o) ns :=
  HdL.mono (upd_stb' mu) h fun b hb => upd_ne fun z => ha (z ▸ hb)
theorem wr_list {H0 H : Hp} {σ : L2.St} {A0 A : SA} {s : St} {τ : List V} {p : Pth} {a : Addr} {ns ns' : List MA} {kf : Pth → Bool} {F G : List Addr} (S : SR L H σ A s τ) (P : Pst H0 A0 H A F) (ok : okP p.2) (hp : plA A p = some (.lst a ns))
    (h' : HdL L H ns') (sub : ∀ b ∈ adrs ns' ++ G, b ∈ adrs ns ++ F) (nd : (adrs ns' ++ G).Nodup) (na : a ∉ adrs ns' ++ G)
    (hk : ∀ r : Pth, r.1 = p.1 → isPre p.2 r.2 = true → kf r = false → ∀ v, labA (.lst a ns) (r.2.drop p.2.length) = some v → labA (.lst a ns') (r.2.drop p.2.length) = some v) :
    ∃ A', SR L (upd H a (.lst (vsOf ns'))) σ A' ((s.put p (.lst (ers ns'))).kill kf) τ ∧ Pst H0 A0 (upd H a (.lst (vsOf ns'))) A' G ∧ plA A' p = some (.lst a ns') := by
  have mu : ∃ u, H a = some u ∧ Mut (some u) := S.mut a (SR.pl_adr hp a (by simp [MA.adr]))
  exact wr_any (x' := .lst a ns') S P ok hp rfl (by simp [MA.adr]) ⟨upd_same, h'.updA mu fun h => na (by simp [h])⟩
    (fun b hb => by
      simp only [MA.adr, List.cons_append, List.mem_cons] at hb ⊢
      rcases hb with hb | hb
      · exact .inl hb
      · exact .inr (sub b hb))
    (by simp only [MA.adr, List.cons_append]; exact List.nodup_cons.mpr ⟨na, nd⟩) hk
theorem lab_more {a : Addr} {ns more : List MA} {r : List Acc} {v : V} (h : labA (.lst a ns) r = some v) : labA (.lst a (ns ++ more)) r = some v := by
  cases r with
  | nil => exact h
  | cons x r =>
    cases x with
    | ix n =>
      unfold labA at h ⊢
      simp only [MA.getA] at h ⊢
      cases e : ns[n]? with
      | none => rw [e] at h; cases h
      | some y =>
        have hl := (List.getElem?_eq_some_iff.mp e).1
        rw [List.getElem?_append_left hl, e]
        rw [e] at h; exact h
    | ky k => simp [labA, MA.getA] at h
    | fd k => simp [labA, MA.getA] at h
theorem lab_under {p r : Pth} {x x' : MA} (hv : x'.v = x.v) (h1 : r.1 = p.1) (h2 : isPre p.2 r.2 = true) (h3 : under p r = false) {v : V} (h : labA x (r.2.drop p.2.length) = some v) : labA x' (r.2.drop p.2.length) = some v := by
  unfold under at h3
  rw [h2, h1] at h3
  simp only [beq_self_eq_true, Bool.true_and, decide_eq_false_iff_not, Nat.not_lt] at h3
  have hz : r.2.drop p.2.length = [] := List.drop_eq_nil_of_le h3
  rw [hz] at h ⊢
  unfold labA at h ⊢
  simp only [MA.getA, Option.map_some] at h ⊢
  rw [hv]; exact h
def RM (L : Lnk) (g : Rv → List Rv → St → Res Rv) : V → List V → Hp → VK → Prop := fun x xs H2 Q => ∃ (σ : L2.St) (H : Hp) (A A2 : SA) (s : St) (τ : List V) (ro : Rv) (rv : List Rv) (yo : Option MA) (ys : List (Option MA)) (r : Rv) (s' : St),
  SR L H2 σ A2 s τ ∧ Pst H A H2 A2 (adrO yo ++ adrOs ys) ∧ RvOk L H2 A2 ro yo x ∧ RvsOk L H2 A2 rv ys xs ∧ g ro rv s = .ok r s' ∧ Fin L σ H A τ r s' Q
theorem MtR.mono {id : String} {r r' : V → List V → Hp → VK → Prop} (h : MtR X id r) (k : ∀ x xs H Q, r' x xs H Q → r x xs H Q) : MtR X id r' :=
  fun pins s σ H x xs v us Q I rx rs q => h pins s σ H x xs v us Q I rx rs (k x xs H Q q)
def Lk2 (r : V → List V → Hp → VK → Prop) : V → List V → Hp → VK → Prop := fun x xs H Q => ∃ Y : List Addr, (∀ b ∈ Y, ∃ u, H b = some u ∧ Mut (some u)) ∧ Y.Nodup ∧ ∀ H2, Lockd Y H H2 → r x xs H2 Q
theorem MtR.lk {id : String} {r : V → List V → Hp → VK → Prop} (h : MtR X id r) : MtR X id (Lk2 r) :=
  fun pins s σ H x xs v us Q I rx rs ⟨Y, hm, nd, q⟩ => by
    obtain ⟨H2, I2, k⟩ := Inv.locks I hm nd
    exact h pins s σ H2 x xs v us Q I2 rx rs (q H2 k)
theorem Fin.non {σ : L2.St} {H H2 : Hp} {A A2 : SA} {τ : List V} {s : St} {F : List Addr} {Q : VK} (q : Fin L σ H A τ (.v nonM) s Q) (S : SR L H2 σ A2 s τ) (P : Pst H A H2 A2 F) : Q .non H2 := Fin.im q S P .non
theorem lst_at {H : Hp} {σ : L2.St} {A : SA} {s : St} {τ : List V} {p : Pth} {v : V} {ms : List M} (S : SR L H σ A s τ) (h : labS A p = some v) (e : (s.get p).bind M.lsts = some ms) : ∃ a ns, v = .ref a ∧ plA A p = some (.lst a ns) ∧ ers ns = ms ∧ H a = some (.lst (vsOf ns)) ∧ HdL L H ns := by
  obtain ⟨x, hx, rfl⟩ := labS_pl h
  rw [S.get, hx] at e
  simp only [Option.map_some, Option.bind_some] at e
  have hd := S.pl_hd hx
  cases x with
  | im m v =>
    simp only [MA.er] at e
    cases m <;> first | (simp [M.lsts] at e; done) | exact hd.elim
  | dct a ns => simp [MA.er, M.lsts] at e
  | obj a c ns => simp [MA.er, M.lsts] at e
  | dnn a ns => simp [MA.er, M.lsts] at e
  | lst a ns =>
    simp only [MA.er, M.lsts, Option.some.injEq] at e
    exact ⟨a, ns, rfl, hx, e, hd.1, hd.2⟩
theorem atP_ok {α : Type} {ro : Rv} {s s' : St} {k : St → Res α} {fin : Pth → α → St → Res Rv} {r : Rv} (e : atP ro s k fin = .ok r s') : ∃ p a s1 q t, ro = .p p ∧ k (s.push p) = .ok a s1 ∧ topP s1.tm = some (q, t) ∧ fin q a (s1.tms t) = .ok r s' := by
  unfold atP at e
  cases ro with
  | v m => cases e
  | p p =>
    obtain ⟨a, s1, e1, e2⟩ := bd_ok e
    obtain ⟨pt, e3, e4⟩ := rs_ok e2
    exact ⟨p, a, s1, pt.1, pt.2, rfl, e1, e3, e4⟩
theorem mt_app : MtR X "list.append" (RM L (bmR .append)) := by
  refine MtR.mono (MtR.lk (show MtR X "list.append" rAppend from mt_append)) ?_
  rintro x xs H2 Q ⟨σ, H, A, A2, s, τ, ro, rv, yo, ys, r, s', S, P, Ko, Ks, e, q⟩
  obtain ⟨o, e1, e2⟩ := rs_ok e
  replace e2 : bApp ro s rv = .ok r s' := e2
  unfold bApp at e2
  split at e2
  rotate_left
  · cases e2
  rename_i r1
  obtain ⟨p, m, s1, p', t, rfl, e3, e4, e5⟩ := atP_ok e2
  obtain ⟨rfl, op, hl⟩ := Ko.p_inv
  obtain ⟨y1, ys', v1, vs', rfl, rfl, K1, Kn⟩ := Ks.cons_inv
  obtain ⟨rfl, rfl⟩ := Kn.nil_inv
  obtain ⟨ms, e6, e7⟩ := rs_ok e5
  obtain ⟨c, e8⟩ := rif_ok e7
  cases e8
  have S' := S.push op hl
  have P' : Pst H A H2 A2 ([] ++ adrO y1) := P.less (fun b hb => by simpa [adrOs, adrO] using hb) (by simpa [adrOs, adrO] using P.fnd)
  obtain ⟨Y, hm, nd, hA, k⟩ := sto_ok (G := []) S' P' (fun b hb => by simp at hb) K1 e3
  refine ⟨Y, hm, nd, fun H3 l => ?_⟩
  obtain ⟨A3, z, S3, P3, z1, z2, z3⟩ := k H3 l
  obtain ⟨S4, op', hl'⟩ := S3.pop e4
  obtain ⟨a, ns, rfl, hp, rfl, hH, hN⟩ := lst_at S4 hl' e6
  simp only [List.nil_append] at P3
  have inA : ∀ b ∈ (MA.lst a ns).adr, b ∈ adrS A3 := SR.pl_adr hp
  have nz : ∀ b ∈ z.adr, b ∉ (MA.lst a ns).adr := fun b hb h => nd_left P3.nd (inA b h) hb
  have nd0 := plA_nd S4 hp
  have w := wr_list (kf := fun _ => false) (ns' := ns ++ [z]) (G := []) S4 P3 op' hp (hN.append ⟨z3, trivial⟩)
    (fun b hb => by simpa [adrs_append, adrs] using hb)
    (by
      simp only [adrs_append, adrs, List.append_nil]
      exact List.nodup_append.mpr ⟨(List.nodup_cons.mp nd0).2, P3.fnd, fun a ha b hb q => by subst q; exact nz a hb (by simp [MA.adr, ha])⟩)
    (by
      simp only [adrs_append, adrs, List.append_nil, List.mem_append, not_or]
      exact ⟨(List.nodup_cons.mp nd0).1, fun h => nz a h (by simp [MA.adr])⟩)
    (fun r _ _ _ v h => lab_more h)
  obtain ⟨A4, S5, P5, _⟩ := w
  rw [kill_never, ers_append] at S5
  have lenE : (ers ns).length = (vsOf ns).length := by simp [ers_map, vsOf]
  refine ⟨a, vsOf ns, v1, rfl, rfl, hH, by rw [← lenE]; exact of_decide_eq_true c, ?_⟩
  have e9 : vsOf (ns ++ [z]) = vsOf ns ++ [v1] := by simp [vsOf, z2]
  rw [← e9]
  have e10 : M.lst (ers ns ++ [m]) = .lst (ers ns ++ ers [z]) := by simp [ers, z1]
  rw [e10] at q
  exact q.non S5 P5
end
end Vm
namespace Vm.Ext
open PySem PySem.Builtin PySem.AutoSeq1 PySem.MeetsSeq PySem.MeetsSeq2
end Vm.Ext
namespace Vm
open PySem L2
section
variable {L : Lnk} {C : Ctx} {X : Cx}
def rExt (K : PySem.W.Frag) : V → List V → Hp → VK → Prop := fun x vs H Q => ∃ l b xs zs, x = .ref l ∧ vs = [.ref b] ∧ H l = some (.lst xs) ∧ (SqL K H b zs ∨ SqT K H b zs) ∧ xs.length + zs.length ≤ sizeLine ∧ Q .non (upd H l (.lst (xs ++ zs)))
theorem kids_okB {H H1 : Hp} {σ : L2.St} {A A1 : SA} {s1 s' : St} {τ : List V} {r : Rv} {y : Option MA} {v : V} {ms : List M} {G : List Addr}
    (S1 : SR L H1 σ A1 s1 τ) (P1 : Pst H A H1 A1 (G ++ adrO y)) (K1 : RvOk L H1 A1 r y v) (e : kids r s1 = .ok ms s') :
    ∃ a, v = .ref a ∧ ∃ Y, (∀ b ∈ Y, ∃ u, H1 b = some u ∧ Mut (some u)) ∧ Y.Nodup ∧ ∀ H2, Lockd Y H1 H2 →
      ∃ A2 ys, SR L H2 σ A2 s' τ ∧ Pst H A H2 A2 (G ++ adrs ys) ∧ ers ys = ms ∧ HdL L H2 ys ∧ (SqL L.K H2 a (vsOf ys) ∨ SqB L.K H2 a (vsOf ys)) := by
  have dat : ∀ {a : Addr} {vs : List V} {ds : List D}, RpL L.K H1 vs ds → s' = s1 → ms = ds.map .d → (SqL L.K H1 a vs ∨ SqB L.K H1 a vs) → v = .ref a →
      ∃ a, v = .ref a ∧ ∃ Y, (∀ b ∈ Y, ∃ u, H1 b = some u ∧ Mut (some u)) ∧ Y.Nodup ∧ ∀ H2, Lockd Y H1 H2 →
      ∃ A2 ys, SR L H2 σ A2 s' τ ∧ Pst H A H2 A2 (G ++ adrs ys) ∧ ers ys = ms ∧ HdL L H2 ys ∧ (SqL L.K H2 a (vsOf ys) ∨ SqB L.K H2 a (vsOf ys)) := fun {a vs ds} h1 h2 h3 h4 h5 => by
    subst h2 h3
    refine ⟨a, h5, [], (fun b hb => by simp at hb), List.nodup_nil, fun H2 k => ?_⟩
    cases Lockd.nil_eq k
    obtain ⟨i1, i2, i3, i4⟩ := imD_ok (L := L) h1
    refine ⟨A1, imD ds vs, S1, ?_, i2, i4, by rw [i1]; exact h4⟩
    rw [i3, List.append_nil]
    exact P1.less (fun b hb => by simp [hb]) (List.nodup_append.mp P1.fnd).1
  cases r with
  | v m =>
    obtain ⟨n, rfl, h1, rfl, h3⟩ := K1.v_inv
    obtain ⟨ms', e1, e2⟩ := rs_ok (show (rs (asSeq m) fun ms => .ok ms s1) = .ok ms s' from e)
    cases e2
    unfold asSeq at e1
    split at e1
    · cases e1
      cases n with
      | im m v => simp only [MA.er] at h1; subst h1; exact h3.elim
      | dct a ns => simp [MA.er] at h1
      | obj a c ns => simp [MA.er] at h1
      | dnn a ns => simp [MA.er] at h1
      | lst a ns =>
        simp only [MA.er, M.lst.injEq] at h1
        refine ⟨a, rfl, [], (fun b hb => by simp at hb), List.nodup_nil, fun H2 k => ?_⟩
        cases Lockd.nil_eq k
        refine ⟨A1, ns, S1, P1.less (fun b hb => ?_) ?_, h1, h3.2, .inl (.inl (.inl h3.1))⟩
        · simp only [adrO, MA.adr, List.mem_append, List.mem_cons] at hb ⊢
          rcases hb with hb | hb
          · exact .inl hb
          · exact .inr (.inr hb)
        · have t := List.nodup_append.mp P1.fnd
          exact List.nodup_append.mpr ⟨t.1, (List.nodup_cons.mp t.2.1).2, fun a ha b hb q => t.2.2 a ha b (by simp [adrO, MA.adr, hb]) q⟩
    · cases e1
      obtain ⟨a, vs, hv, g1, g2⟩ := (h3.d_inv h1).lst_inv
      exact dat g2 rfl rfl (.inl g1.sql) hv
    · cases e1
      obtain ⟨a, vs, hv, g1, g2⟩ := (h3.d_inv h1).tup_invB
      exact dat g2 rfl rfl (.inr g1) hv
    · cases e1
  | p p =>
    obtain ⟨rfl, o, h⟩ := K1.p_inv
    simp only [adrO, List.append_nil] at P1
    obtain ⟨a, ns, rfl, hp, Y, hm, nd, hy, k1⟩ := kidsP_ok S1 P1 o h e
    refine ⟨a, rfl, Y, hm, nd, fun H2 k => ?_⟩
    obtain ⟨A3, zs, S3, P3, z1, z2, z3, z4, z5, z6⟩ := k1 H2 k
    exact ⟨A3, zs, S3, by rw [z2, List.append_nil]; exact P3, z1, z3, .inl (.inl (.inl z4))⟩
theorem map_erase {α β : Type} (f : α → β) : ∀ (l : List α) (n : Nat), (l.eraseIdx n).map f = (l.map f).eraseIdx n
  | [], _ => by simp
  | _ :: _, 0 => by simp
  | _ :: l, n + 1 => by simp [map_erase f l n]

theorem adrs_erase {ns : List MA} {n : Nat} {w : MA} (h : ns[n]? = some w) : (adrs (ns.eraseIdx n) ++ w.adr).Perm (adrs ns) := by
  induction ns generalizing n with
  | nil => simp at h
  | cons m ns ih =>
    cases n with
    | zero =>
      simp at h; subst h
      simp only [List.eraseIdx_zero, List.tail_cons, adrs]
      exact List.perm_append_comm
    | succ n =>
      simp only [List.eraseIdx_cons_succ, adrs]
      rw [List.append_assoc]
      exact List.Perm.append_left _ (ih (by simpa using h))
theorem onP_ok {ro : Rv} {f : Pth → Res Rv} {r : Rv} {s' : St} (e : onP ro f = .ok r s') : ∃ p, ro = .p p ∧ f p = .ok r s' := by
  unfold onP at e
  cases ro with
  | v m => cases e
  | p p => exact ⟨p, rfl, e⟩
theorem pop_ok {H H2 : Hp} {σ : L2.St} {A A2 : SA} {s s' : St} {τ : List V} {ro r : Rv} {yo : Option MA} {x : V} {G : List Addr} {Q : VK} {ms : List M} {i : Int}
    (S : SR L H2 σ A2 s τ) (P : Pst H A H2 A2 G) (Ko : RvOk L H2 A2 ro yo x) (e1 : (s.val ro).bind M.lsts = some ms) (e2 : popM ro s ms i = .ok r s') (q : Fin L σ H A τ r s' Q) :
    ∃ a ns n w, x = .ref a ∧ ers ns = ms ∧ H2 a = some (.lst (vsOf ns)) ∧ nix ns.length i = some n ∧ ns[n]? = some w ∧ Q w.v (upd H2 a (.lst ((vsOf ns).eraseIdx n))) := by
  obtain ⟨p, rfl, e3⟩ := onP_ok e2
  obtain ⟨rfl, op, hl⟩ := Ko.p_inv
  obtain ⟨mr, e4, e5⟩ := rs_ok e3
  cases e5
  obtain ⟨a, ns, rfl, hp, rfl, hH, hN⟩ := lst_at S hl e1
  unfold popAt at e4
  simp only [Option.bind_eq_some_iff] at e4
  obtain ⟨n, e5, m, e6, e7⟩ := e4
  simp at e7
  subst e7
  rw [ers_get, Option.map_eq_some_iff] at e6
  obtain ⟨w, hw, rfl⟩ := e6
  have hlen : (ers ns).length = ns.length := by rw [ers_map, List.length_map]
  rw [hlen] at e5
  refine ⟨a, ns, n, w, rfl, rfl, hH, e5, hw, ?_⟩
  have pm := adrs_erase hw
  have nd0 := plA_nd S hp
  have ndA := List.nodup_cons.mp nd0
  have P0 := P.nil
  have ww := wr_list (kf := under p) (ns' := ns.eraseIdx n) (F := []) (G := w.adr) S P0 op hp (.of fun m hm => hN.mem m (List.mem_of_mem_eraseIdx hm))
    (fun b hb => by rw [List.append_nil]; exact pm.mem_iff.mp hb) (pm.nodup_iff.mpr ndA.2) (fun h => ndA.1 (pm.mem_iff.mp h))
    (fun r h1 h2 h3 v h => lab_under (x := .lst a ns) (x' := .lst a (ns.eraseIdx n)) rfl h1 h2 h3 h)
  obtain ⟨A4, S5, P5, _⟩ := ww
  have e9 : vsOf (ns.eraseIdx n) = (vsOf ns).eraseIdx n := map_erase _ _ _
  have e10 : ers (ns.eraseIdx n) = (ers ns).eraseIdx n := by rw [ers_map, ers_map]; exact map_erase _ _ _
  rw [e9] at S5 P5
  rw [e10] at S5
  refine q w.v _ A4 (some w) S5 P5 ⟨rfl, rfl, ?_⟩
  refine Hd.mono (upd_stb' (S.mut a (SR.pl_adr hp a (by simp [MA.adr])))) (hN.get hw) fun b hb => upd_ne fun z => ?_
  subst z
  exact ndA.1 (pm.mem_iff.mp (by simp [hb]))
theorem rs_lst {ro : Rv} {s : St} {r : Rv} {s' : St} {k : List M → Res Rv} (e : (rs (s.val ro) fun o => rs o.lsts k) = .ok r s') : ∃ ms, (s.val ro).bind M.lsts = some ms ∧ k ms = .ok r s' := by
  obtain ⟨o, e1, e2⟩ := rs_ok e
  obtain ⟨ms, e3, e4⟩ := rs_ok e2
  exact ⟨ms, by rw [e1]; exact e3, e4⟩
theorem mt_pop' : MtR X "list.pop" (RM L (bmR .pop)) := by
  refine MtR.mono (MtR.or (show MtR X "list.pop" rPop from mt_pop) (show MtR X "list.pop" rPopAt from mt_popAt)) ?_
  rintro x xs H2 Q ⟨σ, H, A, A2, s, τ, ro, rv, yo, ys, r, s', S, P, Ko, Ks, e, q⟩
  obtain ⟨ms, e1, e2⟩ := rs_lst (show (rs (s.val ro) fun o => rs o.lsts fun ms => bPop ro s ms rv) = .ok r s' from e)
  unfold bPop at e2
  split at e2
  · obtain ⟨rfl, rfl⟩ := Ks.nil_inv
    obtain ⟨a, ns, n, w, rfl, rfl, hH, hn, hw, hq⟩ := pop_ok S P Ko e1 e2 q
    have hl : ns.length ≠ 0 := fun h => by
      have := (List.getElem?_eq_some_iff.mp hw).1
      omega
    have hn' : n = ns.length - 1 := by
      unfold nix at hn
      rw [if_neg (by decide)] at hn
      split at hn
      · have : (-1 + (ns.length : Int)).toNat = n := Option.some.inj hn
        omega
      · cases hn
    subst hn'
    refine .inl ⟨a, vsOf ns, w.v, rfl, rfl, hH, ?_, ?_⟩
    · rw [vsOf, List.length_map, List.getElem?_map, hw]; rfl
    · have e9 : (vsOf ns).eraseIdx (ns.length - 1) = (vsOf ns).dropLast := by
        have : ns.length - 1 = (vsOf ns).length - 1 := by rw [vsOf, List.length_map]
        rw [this, List.eraseIdx_eq_take_drop_succ, List.dropLast_eq_take]
        have : (vsOf ns).length - 1 + 1 = (vsOf ns).length := by rw [vsOf, List.length_map]; omega
        rw [this]
        simp
      rw [e9] at hq; exact hq
  · rename_i i
    obtain ⟨y1, ys', v1, vs', rfl, rfl, K1, Kn⟩ := Ks.cons_inv
    obtain ⟨rfl, rfl⟩ := Kn.nil_inv
    obtain ⟨c, e2⟩ := rif_ok e2
    have c' := of_decide_eq_true c
    obtain ⟨a, ns, n, w, rfl, rfl, hH, hn, hw, hq⟩ := pop_ok S P Ko e1 e2 q
    cases K1.d_inv.int_inv
    obtain ⟨h1, h2, h3, h4⟩ := ixN_seq (show L2.ixN ns.length i = some n from hn)
    exact .inr ⟨a, vsOf ns, i, n, w.v, rfl, rfl, hH, by omega, by omega, by rw [vsOf, List.length_map]; exact h1, by rw [vsOf, List.getElem?_map, hw]; rfl, hq⟩
  · cases e2
def rGetK : V → List V → Hp → VK → Prop := fun x xs H Q => ∃ a y o, x = .ref a ∧ DGet H a y o ∧ ((xs = [y] ∧ Q (o.getD .non) H) ∨ ∃ z, xs = [y, z] ∧ Q (o.getD z) H)
def leafOf : Key → Leaf | .inl i => .num i | .inr x => .text x
theorem keys_leaf {P : Program} {w : World} {es : Array DictEntry} (h : KeysOf (mixKind P w) es) : KeysOf (leafKind P w) es ∧ findBy (leafKind P w).is es Leaf.none = none := by
  refine ⟨fun e he => ?_, ?_⟩
  · obtain ⟨k, h1, h2⟩ := h e he
    rcases keyIs_shape h1 with ⟨i, t, rfl, e1⟩ | ⟨x, t, rfl, e1⟩
    · refine ⟨.num i, ?_, h2⟩
      rw [e1]
      show decide (i = i) = true
      simp
    · refine ⟨.text x, ?_, h2⟩
      rw [e1]
      show Value.isStrOf x (.str x t) = true
      simp [Value.isStrOf]
  · unfold findBy
    have : es.find? (fun e => (leafKind P w).is Leaf.none e.key) = none := by
      rw [Array.find?_eq_none]
      intro e he hh
      obtain ⟨k, h1, -⟩ := h e he
      rcases keyIs_shape h1 with ⟨i, t, rfl, e1⟩ | ⟨x, t, rfl, e1⟩ <;> (rw [e1] at hh; exact absurd hh Bool.false_ne_true)
    rw [this]; rfl
def rGetN : V → List V → Hp → VK → Prop := fun x xs H Q => ∃ a l, x = .ref a ∧ Rd H a (.dK l) ∧ ((xs = [.non] ∧ Q .non H) ∨ ∃ z, xs = [.non, z] ∧ Q z H)
theorem kq_ok {k : D} {a b : Res Rv} {r : Rv} {s' : St} (e : kq k a b = .ok r s') : (isKK k = true ∧ a = .ok r s') ∨ (k = .none ∧ b = .ok r s') := by
  cases k with
  | none => exact .inr ⟨rfl, e⟩
  | int i => exact .inl ⟨rfl, e⟩
  | str i => exact .inl ⟨rfl, e⟩
  | _ => cases e
def TyOk (X : Cx) (T : String) (ty : V → Hp → Prop) : Prop := ∀ (pins : List (Addr × Obj)) (s : Shared) (σ : L2.St) (H : Hp) (x : V) (v : Value), Inv X pins σ H s → RelV x v → ty x H → s.TypeIs v T ∧ ∀ a, v = .ref a → ∃ ob, s.heap.get? a = some ob ∧ ob.dict = none
theorem tyok_v {T : String} : TyOk X T (tyV X.K T) := fun _ _ _ _ _ _ I r ty => tyV_is I r ty
def tBMy (ty : V → Hp → Prop) (r : V → List V → Hp → VK → Prop) (to : TE) (t : TA) : TE := fun σ H Q => to σ H fun x H1 => ty x H1 ∧ t σ H1 fun xs H2 => r x xs H2 Q
theorem pe_bmy {T id : String} {name : Str} {o e : Expr} {es : List Expr} {to : TE} {t : TA} {apos cpos : Pos} {ty : V → Hp → Prop} {r : V → List V → Hp → VK → Prop} (hy : TyOk X T ty) (pa : PlainAttrs T) (slot : Slot T name id) (hty : typeOf (.builtin id) = pure (.type "method_descriptor")) (hm : MtR X id r) (ho : PE X o to) (ha : PA X (e :: es) t)
    (hbase : attributeBase o name X.env (eval o X.env) = eval o X.env)
    (hfew : ((backTo cpos (starEach (e :: es) X.env)).all (fun x => !x.1) && (backToKw cpos (keywordEach [] X.env)).all (fun x => x.1.isSome)
      && decide ((e :: es).length + ([] : List Keyword).length + (if ([] : List Keyword).isEmpty then 0 else 1) < 30)) = true)
    (hline : (apos.endLine == cpos.line) = true) (hs : starEach (e :: es) X.env = (false, eval e X.env) :: starEach es X.env) (hplain : (backTo cpos (starEach es X.env)).any (·.1) = false) :
    PE X (.Call (.Attribute o name apos) (e :: es) [] cpos) (tBMy ty r to t) := by
  refine ⟨fun pins s σ H Q I h => ?_⟩
  refine wpAny_Call_method_late hbase hfew hline rfl (thn (ho.run pins s σ H _ I h) fun v s1 ⟨x, H1, I1, r1, ty, q1⟩ => ?_)
  obtain ⟨h1, h2⟩ := hy pins s1 σ H1 x v I1 r1 ty
  refine ⟨T, id, pa, slot, hty, h1, h2, ?_⟩
  have hA := ha.run cpos pins s1 σ H1 _ I1 q1
  rw [hs] at hA ⊢
  refine Calls.callWith_builtin (by show (false || (backTo cpos (starEach es X.env)).any (·.1)) = false; rw [hplain] <;> rfl) (Calls.evalArgs_plain ?_)
  exact thn hA fun us s2 ⟨vs, H2, I2, r2, q2⟩ => hm pins s2 σ H2 x vs v us Q I2 r1 r2 q2
theorem pe_bmy0 {T id : String} {name : Str} {o : Expr} {to : TE} {t : TA} {apos cpos : Pos} {ty : V → Hp → Prop} {r : V → List V → Hp → VK → Prop} (hy : TyOk X T ty) (pa : PlainAttrs T) (slot : Slot T name id) (hty : typeOf (.builtin id) = pure (.type "method_descriptor")) (hm : MtR X id r) (ho : PE X o to) (ht : ∀ σ H Q, t σ H Q → Q [] H)
    (hbase : attributeBase o name X.env (eval o X.env) = eval o X.env) (hline : (apos.endLine == cpos.line) = true) : PE X (.Call (.Attribute o name apos) [] [] cpos) (tBMy ty r to t) := by
  refine ⟨fun pins s σ H Q I h => ?_⟩
  refine wpAny_Call_method0_late hbase hline (thn (ho.run pins s σ H _ I h) fun v s1 ⟨x, H1, I1, r1, ty, q1⟩ => ?_)
  obtain ⟨h1, h2⟩ := hy pins s1 σ H1 x v I1 r1 ty
  exact ⟨T, id, pa, slot, hty, h1, h2, Calls.callWith_builtin rfl (PySem.evalArgs_none (hm pins s1 σ H1 x [] v [] Q I1 r1 .nil (ht _ _ _ q1)))⟩
theorem bm_red {m : Bm} {ty : V → Hp → Prop} {eo : E} {as : Es} (hr : ∀ H z, Hd L H z → recv m z.er = true → ty z.v H) {σ : L2.St} {H : Hp} {Q : VK} (h : TEv L C (.bm eo m as) σ H Q) : tBMy ty (RM L (bmR m)) (TEv L C eo) (TRs L C as) σ H Q := by
  obtain ⟨A, s, τ, r, s', S, e0, q⟩ := h
  obtain ⟨ro, s1, e1, e2⟩ := bd_ok (show ((ev C eo s).bd fun ro s => rs (s.val ro) fun m0 => rif (recv m m0) (hold ro s (evs C as) fun ro rv s => bmR m ro rv s)) = .ok r s' from e0)
  obtain ⟨m0, e3, e4⟩ := rs_ok e2
  obtain ⟨c, e5⟩ := rif_ok e4
  refine ⟨A, s, τ, ro, s1, S, e1, fun x H1 A1 yo S1 P1 K1 => ?_⟩
  obtain ⟨z, rfl, rfl, hz, _⟩ := val_at S1 K1 e3
  refine ⟨hr H1 z hz c, ?_⟩
  obtain ⟨τ1, s1', rv, s2, S1', e6, k⟩ := hold_ok S1 P1 K1 e5
  refine ⟨A1, s1', τ1, rv, s2, S1', e6, fun vs H2 A2 ys S2 P2 K2 => ?_⟩
  obtain ⟨ro', s2', e7, S2', K1'⟩ := k H2 A2 _ S2 P2
  exact ⟨σ, H, A, A2, s2', τ, ro', rv, yo, ys, r, s', S2', P1.trans P2 K1.trk, K1', K2, e7, q⟩
theorem s_bm {T id : String} {name : Str} {o e : Expr} {es : List Expr} {m : Bm} {eo : E} {as : Es} {apos cpos : Pos} {ty : V → Hp → Prop} (hr : ∀ H z, Hd L H z → recv m z.er = true → ty z.v H) (hy : TyOk X T ty) (pa : PlainAttrs T) (slot : Slot T name id) (hty : typeOf (.builtin id) = pure (.type "method_descriptor")) (hm : MtR X id (RM L (bmR m))) (ho : PE X o (TEv L C eo)) (ha : PA X (e :: es) (TRs L C as))
    (hbase : attributeBase o name X.env (eval o X.env) = eval o X.env := by rfl)
    (hfew : ((backTo cpos (starEach (e :: es) X.env)).all (fun x => !x.1) && (backToKw cpos (keywordEach [] X.env)).all (fun x => x.1.isSome)
      && decide ((e :: es).length + ([] : List Keyword).length + (if ([] : List Keyword).isEmpty then 0 else 1) < 30)) = true := by rfl)
    (hline : (apos.endLine == cpos.line) = true := by rfl) (hs : starEach (e :: es) X.env = (false, eval e X.env) :: starEach es X.env := by rfl) (hplain : (backTo cpos (starEach es X.env)).any (·.1) = false := by rfl) :
    PE X (.Call (.Attribute o name apos) (e :: es) [] cpos) (TEv L C (.bm eo m as)) :=
  PE.mono (pe_bmy hy pa slot hty hm ho ha hbase hfew hline hs hplain) fun σ H Q h => bm_red hr h
theorem s_bm0 {T id : String} {name : Str} {o : Expr} {m : Bm} {eo : E} {apos cpos : Pos} {ty : V → Hp → Prop} (hr : ∀ H z, Hd L H z → recv m z.er = true → ty z.v H) (hy : TyOk X T ty) (pa : PlainAttrs T) (slot : Slot T name id) (hty : typeOf (.builtin id) = pure (.type "method_descriptor")) (hm : MtR X id (RM L (bmR m))) (ho : PE X o (TEv L C eo))
    (hbase : attributeBase o name X.env (eval o X.env) = eval o X.env := by rfl) (hline : (apos.endLine == cpos.line) = true := by rfl) :
    PE X (.Call (.Attribute o name apos) [] [] cpos) (TEv L C (.bm eo m .nil)) :=
  PE.mono (pe_bmy0 (t := TRs L C .nil) hy pa slot hty hm ho (fun σ H Q ⟨A, s, τ, xs, s', S, e, q⟩ => by cases e; exact q [] H A [] S (Pst.refl S.nd) trivial) hbase hline) fun σ H Q h => bm_red hr h
theorem recv_lst {m : Bm} (hm : ∀ o, recv m o = true → ∃ ms, o = .lst ms) (H : Hp) (z : MA) (hz : Hd L H z) (h : recv m z.er = true) : tyV X.K "list" z.v H := by
  obtain ⟨ms, hms⟩ := hm _ h
  cases z with
  | im m v => simp only [MA.er] at hms; subst hms; exact hz.elim
  | lst a ns => exact .inl ⟨rfl, _, .inl (.inl hz.1)⟩
  | dct a ns => simp [MA.er] at hms
  | obj a c ns => simp [MA.er] at hms
  | dnn a ns => simp [MA.er] at hms
theorem recv_str {m : Bm} (hm : ∀ o, recv m o = true → ∃ x, o = .d (.str x)) (H : Hp) (z : MA) (hz : Hd L H z) (h : recv m z.er = true) : tyV X.K "str" z.v H := by
  obtain ⟨x, hx⟩ := hm _ h
  rw [(hz.d_inv hx).str_inv.1]
  exact rfl
end
end Vm
end
section
namespace Vm.Rp
open PySem
section
variable {prog : Program} {w : World} {h₀ : Heap}
end
end Vm.Rp
namespace Vm
open PySem L2
section
variable {L : Lnk} {C : Ctx} {X : Cx}
def RC (L : Lnk) (g : List Rv → St → Res Rv) : List V → Hp → VK → Prop := fun xs H2 Q => ∃ (σ : L2.St) (H : Hp) (A A2 : SA) (s : St) (τ : List V) (rv : List Rv) (ys : List (Option MA)) (r : Rv) (s' : St),
  SR L H2 σ A2 s τ ∧ Pst H A H2 A2 (adrOs ys) ∧ RvsOk L H2 A2 rv ys xs ∧ g rv s = .ok r s' ∧ Fin L σ H A τ r s' Q
theorem CallR.mono {f : Value} {r r' : List V → Hp → VK → Prop} (h : CallR X f r) (k : ∀ xs H Q, r' xs H Q → r xs H Q) : CallR X f r' := fun pins s σ H xs us Q I rs q => h pins s σ H xs us Q I rs (k xs H Q q)
abbrev gBf (C : Ctx) (b : Bf) : List Rv → St → Res Rv := fun rv s => bfR C s b rv
theorem bf_red {b : Bf} {es : Es} {σ : L2.St} {H : Hp} {Q : VK} (h : TEv L C (.bf b es) σ H Q) : tCB (RC L (gBf C b)) (TRs L C es) σ H Q := by
  obtain ⟨A, s, τ, r, s', S, e0, q⟩ := h
  obtain ⟨rv, s1, e1, e2⟩ := bd_ok (show ((evs C es s).bd fun rv s => bfR C s b rv) = .ok r s' from e0)
  exact ⟨A, s, τ, rv, s1, S, e1, fun vs H1 A1 ys S1 P1 K1 => ⟨σ, H, A, A1, s1, τ, rv, ys, r, s', S1, P1, K1, e2, q⟩⟩
theorem s_bfB {b : Bf} {id : String} {x : Str} {e : Expr} {es : List Expr} {as : Es} {p pos : Pos} (hc : CallR X (.builtin id) (RC L (gBf C b))) (hm : X.mg x = none) (ha : PA X (e :: es) (TRs L C as)) (hg : Gl X x := by rfl) (hv : bootBuiltins x = some (.builtin id) := by kernel_rfl) (hn : x ≠ "__name__" := by decide) (hdb : (x == ("__debug__" : Str)) = false := by decide)
    (he : starEach (e :: es) X.env = (false, eval e X.env) :: starEach es X.env := by rfl) (hpl : (backTo pos (starEach es X.env)).any (·.1) = false := by rfl) : PE X (.Call (.Name x p) (e :: es) [] pos) (TEv L C (.bf b as)) :=
  PE.mono (pe_callB hc hg hm hv ha hn hdb he hpl) fun σ H Q h => bf_red h
theorem s_bfT {b : Bf} {T : String} {x : Str} {e : Expr} {es : List Expr} {as : Es} {p pos : Pos} (hc : CallR X (.type T) (RC L (gBf C b))) (hm : X.mg x = none) (ha : PA X (e :: es) (TRs L C as)) (hg : Gl X x := by rfl) (hv : bootBuiltins x = some (.type T) := by kernel_rfl) (hn : x ≠ "__name__" := by decide) (hdb : (x == ("__debug__" : Str)) = false := by decide)
    (he : starEach (e :: es) X.env = (false, eval e X.env) :: starEach es X.env := by rfl) (hpl : (backTo pos (starEach es X.env)).any (·.1) = false := by rfl) : PE X (.Call (.Name x p) (e :: es) [] pos) (TEv L C (.bf b as)) :=
  PE.mono (pe_callTy hc hg hm hv ha hn hdb he hpl) fun σ H Q h => bf_red h
theorem RvsOk.one {H : Hp} {A : SA} {r : Rv} {ys : List (Option MA)} {vs : List V} (h : RvsOk L H A [r] ys vs) : ∃ y v, ys = [y] ∧ vs = [v] ∧ RvOk L H A r y v := by
  obtain ⟨y, ys', v, vs', rfl, rfl, K1, Kn⟩ := h.cons_inv
  obtain ⟨rfl, rfl⟩ := Kn.nil_inv
  exact ⟨y, v, rfl, rfl, K1⟩
theorem RvsOk.two {H : Hp} {A : SA} {r r2 : Rv} {ys : List (Option MA)} {vs : List V} (h : RvsOk L H A [r, r2] ys vs) : ∃ y v y2 v2, ys = [y, y2] ∧ vs = [v, v2] ∧ RvOk L H A r y v ∧ RvOk L H A r2 y2 v2 := by
  obtain ⟨y, ys', v, vs', rfl, rfl, K1, Kn⟩ := h.cons_inv
  obtain ⟨y2, v2, rfl, rfl, K2⟩ := Kn.one
  exact ⟨y, v, y2, v2, rfl, rfl, K1, K2⟩
theorem RpK.length {K : PySem.W.Frag} {H : Hp} : ∀ {v : List (Key × V)} {d : List (D × D)}, RpK K H v d → v.length = d.length
  | _, _, .nil => rfl
  | _, _, .cons _ _ r => by rw [List.length_cons, List.length_cons, RpK.length r]
theorem erk_len : ∀ ms : List (D × MA), (erk ms).length = ms.length
  | [] => rfl
  | _ :: r => by simp only [erk, List.length_cons, erk_len r]
theorem len_dict {X : Cx} : CallR X (.builtin "len") (fun xs H Q => ∃ a kvs, xs = [V.ref a] ∧ Rd H a (.dK kvs) ∧ Q (.int kvs.length) H) := by
  intro pins s σ H xs us Q I r h
  obtain ⟨a, kvs, rfl, ha, q⟩ := h
  obtain ⟨u, rfl, ru⟩ := vals1 r
  cases ru
  exact d_len I ha fun t s' I' => ⟨.int kvs.length, H, I', ⟨t, rfl⟩, q⟩
theorem len_N {X : Cx} : CallR X (.builtin "len") (fun xs H Q => ∃ a hw l, xs = [V.ref a] ∧ H a = some (NRaw hw a l) ∧ l.length ≤ sizeLine ∧ Q (.int l.length) H) := by
  intro pins s σ H xs us Q I r h
  obtain ⟨a, hw, l, rfl, ha, hl, q⟩ := h
  obtain ⟨u, rfl, ru⟩ := vals1 r
  cases ru
  obtain ⟨⟨hd, o, es, ep, h1, h2, h3, h4⟩, _, _⟩ := I.hok a _ ha
  have hr : s.heap.DictRaw a es ep := ⟨o, h1, h2, h3⟩
  have hz : es.size = l.length := by rw [← Array.length_toList]; exact (Paired.length h4).symm
  refine PyProof.Rows.call_len_slot (n := l.length) hr.typeIs PySem.F.slot_dict_len (fun Q' hq => call_len_raw hd hr (by rw [hz]; exact hq)) (by omega) (by rw [sizeLine_eq] at hl; omega) ?_
  exact ⟨.int l.length, H, I.tok _, ⟨_, rfl⟩, q⟩
theorem c_len (hK : X.K = L.K) : CallR X (.builtin "len") (RC L (gBf C .len)) := by
  refine CallR.mono (CallR.or call_len_seq (CallR.or call_len_str (CallR.or len_dict len_N))) ?_
  rintro xs H2 Q ⟨σ, H, A, A2, s, τ, rv, ys, r, s', S, P, Ks, e, q⟩
  replace e : fLen s rv = .ok r s' := e
  unfold fLen at e
  split at e
  rotate_left
  · cases e
  rename_i r1
  obtain ⟨y, v, rfl, rfl, K⟩ := Ks.one
  obtain ⟨n, e1, e2⟩ := rs_ok e
  cases e2
  simp only [Option.bind_eq_some_iff] at e1
  obtain ⟨m, e3, e4⟩ := e1
  obtain ⟨z, rfl, rfl, hz, _⟩ := val_at S K e3
  have fin : Q (.int n) H2 := Fin.im q S P (Rp.int _)
  cases z with
  | im m v =>
    cases m with
    | d dx =>
      have hx : Rp L.K H2 v dx := hz
      cases dx with
      | str x =>
        obtain ⟨rfl, ok⟩ := hx.str_inv
        simp only [MA.er, lenM, Option.some.injEq] at e4
        subst e4
        exact .inr (.inl ⟨x, rfl, ok.1, fin⟩)
      | list xs =>
        obtain ⟨a, vs, rfl, h1, h2⟩ := hx.lst_inv
        simp only [MA.er, lenM, Option.some.injEq] at e4
        subst e4
        exact .inl ⟨a, vs, rfl, .inl (hK ▸ h1.sql), by rw [h2.length]; exact fin⟩
      | tuple xs =>
        obtain ⟨a, vs, rfl, h1, h2⟩ := hx.tup_inv
        simp only [MA.er, lenM, Option.some.injEq] at e4
        subst e4
        exact .inl ⟨a, vs, rfl, .inr (hK ▸ h1), by rw [h2.length]; exact fin⟩
      | dict xs =>
        obtain ⟨a, o, l, rfl, h1, h2⟩ := hx.dct_inv
        simp only [MA.er, lenM, Option.some.injEq] at e4
        subst e4
        have : l.length = xs.length := h2.length
        exact .inr (.inr (.inl ⟨a, l, rfl, .inr ⟨o, h1⟩, by rw [this]; exact fin⟩))
      | _ => simp [MA.er, lenM] at e4
    | lst _ => exact hz.elim
    | dct _ => exact hz.elim
    | dnn _ => exact hz.elim
    | set _ => exact hz.elim
    | _ => simp [MA.er, lenM] at e4
  | lst a ms =>
    simp only [MA.er, lenM, Option.some.injEq, ers_map, List.length_map] at e4
    subst e4
    exact .inl ⟨a, vsOf ms, rfl, .inl (.inl (.inl hz.1)), by rw [vsOf, List.length_map]; exact fin⟩
  | dct a ms =>
    obtain ⟨l, hl, hH⟩ := hz.1
    have h1 := erk_len ms
    have h2 : ∀ {ms : List (D × MA)} {l : List (Key × V)}, kvOf ms = some l → l.length = ms.length := by
      intro ms
      induction ms with
      | nil => intro l h; simp [kvOf] at h; subst h; rfl
      | cons x r ih =>
        intro l h
        simp only [kvOf, Option.bind_eq_some_iff] at h
        obtain ⟨j, _, l', h2, h3⟩ := h
        simp at h3; subst h3
        simp only [List.length_cons, ih h2]
    simp only [MA.er, lenM, Option.some.injEq, h1] at e4
    subst e4
    exact .inr (.inr (.inl ⟨a, l, rfl, .inl hH, by rw [h2 hl]; exact fin⟩))
  | obj a c fs => simp [MA.er, lenM] at e4
  | dnn a kvs =>
    simp only [MA.er, lenM, Option.some.injEq] at e4
    subst e4
    obtain ⟨⟨l, h1, h2⟩, _, h4⟩ := hz
    have h5 : l.length = kvs.length := Paired.length h2
    exact .inr (.inr (.inr ⟨a, _, l, rfl, h1, by rw [h5]; exact h4, by rw [h5]; exact fin⟩))
theorem c_int : CallR X (.type "int") (RC L (gBf C .int)) := by
  refine CallR.mono (CallR.or call_int1 call_int_str) ?_
  rintro xs H2 Q ⟨σ, H, A, A2, s, τ, rv, ys, r, s', S, P, Ks, e, q⟩
  replace e : fInt s rv = .ok r s' := e
  unfold fInt at e
  split at e
  · rename_i i
    cases e
    obtain ⟨y, v, rfl, rfl, K⟩ := Ks.one
    cases K.d_inv.int_inv
    exact .inl (.inl ⟨i, rfl, Fin.im q S P (Rp.int _)⟩)
  · rename_i b
    cases e
    obtain ⟨y, v, rfl, rfl, K⟩ := Ks.one
    cases K.d_inv.bl_inv
    exact .inl (.inr ⟨b, rfl, Fin.im q S P (Rp.int _)⟩)
  · rename_i x
    obtain ⟨c, e⟩ := rif_ok e
    obtain ⟨n, e1, e2⟩ := rs_ok e
    cases e2
    obtain ⟨y, v, rfl, rfl, K⟩ := Ks.one
    obtain ⟨hv, -⟩ := K.d_inv.str_inv
    exact .inr ⟨x, n, by rw [hv], e1, of_decide_eq_true c, Fin.im q S P (Rp.int _)⟩
  · cases e
theorem sokT_ok {x : Str} (h : sokT x = true) : sOk x := by
  simp only [sokT, Bool.and_eq_true, decide_eq_true_eq, List.all_eq_true] at h
  exact ⟨h.1, h.2⟩
inductive ScV : V → D → Prop
  | non : ScV .non .none
  | bl (b : Bool) : ScV (.bl b) (.bool b)
  | int (i : Int) : ScV (.int i) (.int i)
  | str (x : Str) : ScV (.str x) (.str x)
inductive KvS : List (Key × V) → List (D × D) → Prop
  | nil : KvS [] []
  | cons {k : Key} {v : V} {j d : D} {l : List (Key × V)} {kvs : List (D × D)} : toKey j = some k → ScV v d → KvS l kvs → KvS ((k, v) :: l) ((j, d) :: kvs)
theorem ScV.reads {h : Heap} {v : V} {d : D} {u : Value} (s : ScV v d) (r : RelV v u) : Reads h u d [] := by
  cases s with
  | non => cases r; exact .none
  | bl b => cases r; exact .bool b
  | int i => obtain ⟨t, rfl⟩ := r; exact .int i t
  | str x => obtain ⟨t, rfl⟩ := r; exact .str x t
theorem rmv_some {r : Rv} {m : M} (h : r.mv = some m) : r = .v m := by cases r <;> simp [Rv.mv] at h; rw [h]
def ctN : Nat → String
  | 0 => "int" | 1 => "str" | 2 => "bool" | 3 => "tuple" | 4 => "list" | 5 => "dict" | _ => ""
def tyS : Nat → String
  | 0 => "NoneType" | 1 => "bool" | 2 => "int" | 3 => "str" | 4 => "list" | 5 => "tuple" | _ => "dict"
theorem kit_tab : ∀ a, a < 7 → ∀ b, b < 6 → kitB (tyS a) (ctN b) = some (kitT a b) := by decide +kernel
theorem isInst_tab {m : M} {n : Nat} {b : Bool} (h : isInst m n = some b) : n < 6 ∧ ∃ a, tyIx m = some a ∧ a < 7 ∧ kitT a n = b := by
  obtain ⟨a, h1, h2⟩ := ob_ok h
  obtain ⟨c, h3⟩ := oif_ok h2
  refine ⟨of_decide_eq_true c, a, h1, ?_, by simpa using h3⟩
  unfold tyIx at h1
  split at h1 <;> cases h1 <;> decide
theorem tyx_of {H : Hp} {z : MA} {a : Nat} (hz : Hd L H z) (h : tyIx z.er = some a) : TyX L.K H z.v (.type (tyS a)) := by
  cases z with
  | im m v =>
    cases m with
    | d x =>
      have hx : Rp L.K H v x := hz
      cases x <;> simp [MA.er, tyIx] at h <;> subst h
      · cases hx.non_inv; exact .base .non
      · cases hx.bl_inv; exact .base (.bl _)
      · cases hx.int_inv; exact .base (.int _)
      · cases hx.str_inv.1; exact .base (.str _)
      · obtain ⟨p, vs, rfl, h1, h2⟩ := hx.lst_inv
        rcases h1 with ⟨o, h1⟩ | ⟨o, its, n, h1, h2, _⟩
        · exact .base (.frz h1)
        · exact .kList h1 h2
      · obtain ⟨p, vs, rfl, h1, h2⟩ := hx.tup_inv
        rcases h1 with (h1 | ⟨o, h1⟩) | ⟨o, its, n, h1, h2, _⟩
        · exact .base (.tup h1)
        · exact .fTuple h1
        · exact .kTuple h1 h2
      · obtain ⟨p, o, l, rfl, h1, h2⟩ := hx.dct_inv
        exact .fDict h1
    | lst _ => exact hz.elim
    | dct _ => exact hz.elim
    | _ => simp [MA.er, tyIx] at h
  | lst p ms => simp [MA.er, tyIx] at h; subst h; exact .base (.lst hz.1)
  | dct p ms => simp [MA.er, tyIx] at h; subst h; obtain ⟨l, _, hH⟩ := hz.1; exact .base (.dK hH)
  | obj p c fs => simp [MA.er, tyIx] at h
  | dnn p fs => simp [MA.er, tyIx] at h
theorem c_isi (hK : X.K = L.K) (hct : ∀ n, L.ct n = ctN n) : CallR X (.builtin "isinstance") (RC L (gBf C .isinst)) := by
  refine CallR.mono call_isi ?_
  rintro xs H2 Q ⟨σ, H, A, A2, s, τ, rv, ys, r, s', S, P, Ks, e, q⟩
  replace e : fIsi C s rv = .ok r s' := e
  unfold fIsi at e
  split at e
  rotate_left
  · cases e
  rename_i r1 r2
  obtain ⟨y, v, y2, v2, rfl, rfl, K, K2⟩ := Ks.two
  obtain ⟨m, e1, e2⟩ := rs_ok e
  obtain ⟨c, e3, e4⟩ := rs_ok e2
  obtain ⟨b, e5, rfl, rfl⟩ := okV_ok e4
  cases rmv_some e3
  obtain ⟨z, rfl, rfl, hz, _⟩ := val_at S K e1
  unfold isOne at e5
  split at e5
  · rename_i n
    obtain ⟨h1, a, h2, h3, h4⟩ := isInst_tab e5
    obtain ⟨n2, rfl, g1, g2, g3⟩ := K2.v_inv
    cases n2 with
    | im mm vv =>
      simp only [MA.er] at g1
      subst g1
      have g4 : vv = .ty (L.ct n) := g3
      subst g4
      simp only [MA.v] at g2
      subst g2
      refine ⟨z.v, .ty (L.ct n), _, _, b, rfl, .ty _, hK ▸ tyx_of hz h2, kit_ty ?_, Fin.im q S P (Rp.bl _)⟩
      rw [hct, ← h4]
      exact kit_tab a h3 n h1
    | lst _ _ => simp [MA.er] at g1
    | dct _ _ => simp [MA.er] at g1
    | obj _ _ _ => simp [MA.er] at g1
    | dnn _ _ => simp [MA.er] at g1
  · cases e5
end
end Vm
end
section
namespace Vm
open PySem L2
section
variable {L : Lnk} {C : Ctx} {X : Cx}
def Lk1 (r : List V → Hp → VK → Prop) : List V → Hp → VK → Prop := fun xs H Q => ∃ Y : List Addr, (∀ b ∈ Y, ∃ u, H b = some u ∧ Mut (some u)) ∧ Y.Nodup ∧ ∀ H2, Lockd Y H H2 → r xs H2 Q
theorem CallR.lk {f : Value} {r : List V → Hp → VK → Prop} (h : CallR X f r) : CallR X f (Lk1 r) :=
  fun pins s σ H xs us Q I rs ⟨Y, hm, nd, q⟩ => by
    obtain ⟨H2, I2, k⟩ := Inv.locks I hm nd
    exact h pins s σ H2 xs us Q I2 rs (q H2 k)
theorem not_mut_frz {o : Obj} {u : HO} : ¬ Mut (some (.frz o u)) := fun h => h
theorem SqL.lockd {K : PySem.W.Frag} {H1 H2 : Hp} {Y : List Addr} (k : Lockd Y H1 H2) (m : ∀ b ∈ Y, ∃ u, H1 b = some u ∧ Mut (some u)) {a : Addr} {xs : List V} (h : SqL K H1 a xs) : SqL K H2 a xs := by
  rcases h with (h | ⟨o, h⟩) | h
  · by_cases ha : a ∈ Y
    · obtain ⟨u, o, e1, e2⟩ := k.2 a ha
      rw [h] at e1; cases e1
      exact .inl (.inr ⟨o, e2⟩)
    · exact .inl (.inl (by rw [k.1 a ha]; exact h))
  · by_cases ha : a ∈ Y
    · obtain ⟨u, e1, e2⟩ := m a ha
      rw [h] at e1; cases e1
      exact (not_mut_frz e2).elim
    · exact .inl (.inr ⟨o, by rw [k.1 a ha]; exact h⟩)
  · exact .inr h
theorem c_seq {b : Bf} {f : Value} {r0 : List V → Hp → VK → Prop} (hb : ∀ s rv, bfR C s b rv = fSeq b s rv) (h : CallR X f r0)
    (hk : ∀ (σ : L2.St) (H : Hp) (A A3 : SA) (s1 s' : St) (τ : List V) (a : Addr) (ys : List MA) (r : Rv) (H3 : Hp) (Q : VK), SR L H3 σ A3 s1 τ → Pst H A H3 A3 (adrs ys) → HdL L H3 ys → (SqL L.K H3 a (vsOf ys) ∨ SqB L.K H3 a (vsOf ys)) → biR b (ers ys) none s1 = .ok r s' → Fin L σ H A τ r s' Q → r0 [.ref a] H3 Q) : CallR X f (RC L (gBf C b)) := by
  refine CallR.mono (CallR.lk h) ?_
  rintro xs H2 Q ⟨σ, H, A, A2, s, τ, rv, ys, r, s', S, P, Ks, e, q⟩
  replace e : fSeq b s rv = .ok r s' := by rw [← hb]; exact e
  unfold fSeq at e
  split at e
  rotate_left
  · cases e
  rename_i r1
  obtain ⟨y, v, rfl, rfl, K⟩ := Ks.one
  obtain ⟨ms, s1, e1, e2⟩ := bd_ok e
  simp only [adrOs, List.append_nil] at P
  obtain ⟨a, rfl, Y, hm, nd, k⟩ := kids_okB (G := []) S P K e1
  refine ⟨Y, hm, nd, fun H3 l => ?_⟩
  obtain ⟨A3, zs, S3, P3, rfl, z2, z3⟩ := k H3 l
  exact hk σ H A A3 s1 s' τ a zs r H3 Q S3 P3 z2 z3 e2 q
theorem HdL.trk {H : Hp} {ys : List MA} (h : HdL L H ys) : ∀ b ∈ adrs ys, ∃ u, H b = some u := fun b hb => by obtain ⟨u, e, _⟩ := HdL.mut h b hb; exact ⟨u, e⟩
theorem c_list (hK : X.K = L.K) : CallR X (.type "list") (RC L (gBf C .list)) :=
  c_seq (fun _ _ => rfl) call_list_of fun σ H A A3 s1 s' τ a ys r H3 Q S P hd hs e q => by
    cases (show Res.ok (Rv.v (.lst (ers ys))) s1 = .ok r s' from e)
    exact ⟨a, vsOf ys, rfl, hK ▸ hs.imp id SqB.sqt, fun p hp => Fin.lst q S P hd.trk hd (fun b hb => hb) P.fnd hp⟩
theorem intsD_ok {K : PySem.W.Frag} {H : Hp} : ∀ {vs : List V} {ds : List D} {is : List Int}, RpL K H vs ds → intsD ds = some is → vs = is.map V.int
  | _, _, _, .nil, e => by cases e; rfl
  | _, _, _, .cons h r, e => by
    simp only [intsD, Option.bind_eq_some_iff] at e
    obtain ⟨i, e1, is, e2, e3⟩ := e
    simp at e3; subst e3
    cases asInt_some e1
    rw [List.map_cons, ← intsD_ok r e2, h.int_inv]
theorem boolsD_ok {K : PySem.W.Frag} {H : Hp} : ∀ {vs : List V} {ds : List D} {is : List Bool}, RpL K H vs ds → boolsD ds = some is → vs = is.map V.bl
  | _, _, _, .nil, e => by cases e; rfl
  | _, _, _, .cons h r, e => by
    simp only [boolsD, Option.bind_eq_some_iff] at e
    obtain ⟨i, e1, is, e2, e3⟩ := e
    simp at e3; subst e3
    rw [List.map_cons, ← boolsD_ok r e2]
    rename_i d _
    cases d <;> simp [asBool] at e1
    subst e1
    rw [h.bl_inv]
theorem lk_items {H3 : Hp} {A A3 : SA} {H : Hp} {σ : L2.St} {s1 : St} {τ : List V} {ys : List MA} {xs : List D} (S : SR L H3 σ A3 s1 τ) (P : Pst H A H3 A3 (adrs ys)) (hd : HdL L H3 ys) (e : frzs (ers ys) = some xs) :
    (∀ b ∈ adrs ys, ∃ u, H3 b = some u ∧ Mut (some u)) ∧ (adrs ys).Nodup ∧ ∀ H4, Lockd (adrs ys) H3 H4 → SR L H4 σ A3 s1 τ ∧ Pst H A H4 A3 [] ∧ RpL L.K H4 (vsOf ys) xs := by
  have hm := HdL.mut hd
  refine ⟨hm, P.fnd, fun H4 l => ?_⟩
  have st := l.stb hm
  have nA : ∀ b ∈ adrs ys, b ∉ adrS A3 := fun b hb h => nd_left P.nd h hb
  refine ⟨S.heap st fun b hb => l.1 b fun h => nA b h hb, ?_, HdL.frozen l st hd (fun b hb => hb) e⟩
  refine ⟨fun b o e q => ?_, fun b hb => P.new b (by simp at hb; simp [hb]), by simpa using S.nd⟩
  have w := P.ext b o e q
  rw [l.1 b fun h => ?_]; exact w
  rcases P.new b (by simp [h]) with z | z
  · exact q z
  · rw [e] at z; cases z
theorem c_tuple (hK : X.K = L.K) : CallR X (.type "tuple") (RC L (gBf C .tuple)) :=
  c_seq (fun _ _ => rfl) (CallR.lk call_tupleB) fun σ H A A3 s1 s' τ a ys r H3 Q S P hd hs e q => by
    obtain ⟨xs, e1, rfl, rfl⟩ := okV_ok (show okV (frzs (ers ys)) s1 (fun xs => M.d (.tuple xs)) = .ok r s' from e)
    obtain ⟨hm, nd, k⟩ := lk_items S P hd e1
    refine ⟨adrs ys, hm, nd, fun H4 l => ?_⟩
    obtain ⟨S4, P4, rp⟩ := k H4 l
    refine ⟨a, vsOf ys, rfl, ?_⟩
    rcases hs with hs | hs
    · exact .inl ⟨hK ▸ Vm.SqL.lockd l hm hs, fun p o hp hd => Fin.tup q S4 P4 (fun b hb => by simp at hb) rp hp hd⟩
    · exact .inr ⟨hK ▸ (SqB.mono (l.stb hm) hs).sqt, Fin.im q S4 P4 (Rp.tup (SqB.mono (l.stb hm) hs) rp)⟩
end
end Vm
end
section
namespace Vm
open PySem L2

def Kp (fr : Nat → Bool) (σ σ' : L2.St) : Prop := σ'.length = σ.length ∧ ∀ i, fr i = false → σ'[i]? = σ[i]?
theorem Kp.refl {fr : Nat → Bool} (σ : L2.St) : Kp fr σ σ := ⟨rfl, fun _ _ => rfl⟩
theorem Kp.trans {fr : Nat → Bool} {σ σ1 σ2 : L2.St} (a : Kp fr σ σ1) (b : Kp fr σ1 σ2) : Kp fr σ σ2 := ⟨b.1.trans a.1, fun i h => (b.2 i h).trans (a.2 i h)⟩
theorem Kp.set {fr : Nat → Bool} {σ : L2.St} {i : Nat} {o : Option V} (h : fr i = true) : Kp fr σ (σ.set i o) := ⟨List.length_set, fun j hj => by
  rw [List.getElem?_set_ne]
  intro e; subst e; rw [h] at hj; cases hj⟩
def FlOk (L : Lnk) (C : Ctx) (Wx : WX) (f : Fl) (σ : L2.St) (H : Hp) (A : SA) (τ : List V) (D : Ends) : Prop := match f with
  | .nx s' => ∀ σ' H' A', SR L H' σ' A' s' τ → Pst H A H' A' [] → Kp C.fr σ σ' → D.nx σ' H'
  | .bk s' => ∀ σ' H' A', SR L H' σ' A' s' τ → Pst H A H' A' [] → Kp C.fr σ σ' → D.bk σ' H'
  | .ct s' => ∀ σ' H' A', SR L H' σ' A' s' τ → Pst H A H' A' [] → Kp C.fr σ σ' → D.ct σ' H'
  | .rt r s' => ∀ v σ' H' A' y τ', SR L H' σ' A' s' (τ' ++ τ) → Pst H A H' A' (adrO y) → Kp C.fr σ σ' → RvOk L H' A' r y v → D.rt v H'
  | .exc x s' => ∀ cls d σ' H' A' τ', SR L H' σ' A' s' (τ' ++ τ) → Pst H A H' A' [] → Kp C.fr σ σ' → XcOk L x cls d → Wx cls d σ' H'
  | .no => False
section
variable {L : Lnk} {C : Ctx} {X : Cx} {Wx : WX}
def TSt (L : Lnk) (C : Ctx) (Wx : WX) (a : S) : TS := fun D σ H => ∃ A s τ, SR L H σ A s τ ∧ FlOk L C Wx (ex C a s) σ H A τ D
def TSs (L : Lnk) (C : Ctx) (Wx : WX) (a : Ss) : TS := fun D σ H => ∃ A s τ, SR L H σ A s τ ∧ FlOk L C Wx (exs C a s) σ H A τ D
theorem PS.mono {st : Stmt} {t t' : TS} (h : PS X st t) (k : ∀ D σ H, t' D σ H → t D σ H) : PS X st t' := ⟨fun pins s σ H D I q => h.run pins s σ H D I (k D σ H q)⟩
theorem PSs.mono {st : List Stmt} {t t' : TS} (h : PSs X st t) (k : ∀ D σ H, t' D σ H → t D σ H) : PSs X st t' := ⟨fun pins s σ H D I q => h.run pins s σ H D I (k D σ H q)⟩
theorem PS.or {st : Stmt} {t u : TS} (h : PS X st t) (k : PS X st u) : PS X st (fun D σ H => t D σ H ∨ u D σ H) :=
  ⟨fun pins s σ H D I q => q.elim (h.run pins s σ H D I) (k.run pins s σ H D I)⟩
theorem PG.mono {e : Expr} {t t' : TG} (h : PG X e t) (k : ∀ v σ H Q, t' v σ H Q → t v σ H Q) : PG X e t' := ⟨fun pins s σ H v u Q I r q => h.run pins s σ H v u Q I r (k v σ H Q q)⟩
theorem PG.or {e : Expr} {t u : TG} (h : PG X e t) (k : PG X e u) : PG X e (fun v σ H Q => t v σ H Q ∨ u v σ H Q) :=
  ⟨fun pins s σ H v w Q I r q => q.elim (h.run pins s σ H v w Q I r) (k.run pins s σ H v w Q I r)⟩
theorem PGs.mono {e : List Expr} {t t' : TGs} (h : PGs X e t) (k : ∀ v σ H Q, t' v σ H Q → t v σ H Q) : PGs X e t' := ⟨fun pins s σ H v u Q I r q => h.run pins s σ H v u Q I r (k v σ H Q q)⟩
theorem FlOk.pst {f : Fl} {σ σ1 : L2.St} {H H1 : Hp} {A A1 : SA} {τ : List V} {D : Ends} (h : FlOk L C Wx f σ H A τ D) (P : Pst H A H1 A1 []) (K : Kp C.fr σ σ1) : FlOk L C Wx f σ1 H1 A1 τ D := by
  cases f with
  | nx s => exact fun σ' H' A' S P' K' => h σ' H' A' S (P.seq P') (K.trans K')
  | bk s => exact fun σ' H' A' S P' K' => h σ' H' A' S (P.seq P') (K.trans K')
  | ct s => exact fun σ' H' A' S P' K' => h σ' H' A' S (P.seq P') (K.trans K')
  | rt r s => exact fun v σ' H' A' y τ' S P' K' R => h v σ' H' A' y τ' S (P.seq P') (K.trans K') R
  | exc x s => exact fun cls d σ' H' A' τ' S P' K' X => h cls d σ' H' A' τ' S (P.seq P') (K.trans K') X
  | no => exact h
theorem fl_ok {α : Type} {r : Res α} {k : α → St → Fl} {σ : L2.St} {H : Hp} {A : SA} {τ : List V} {D : Ends} (h : FlOk L C Wx (r.fl k) σ H A τ D) : ∃ a s, r = .ok a s ∧ FlOk L C Wx (k a s) σ H A τ D := by
  cases r with
  | ok a s => exact ⟨a, s, rfl, h⟩
  | exc x s => exact h.elim
  | no => exact h.elim
theorem fs_ok {α : Type} {o : Option α} {k : α → Fl} {σ : L2.St} {H : Hp} {A : SA} {τ : List V} {D : Ends} (h : FlOk L C Wx (fs o k) σ H A τ D) : ∃ a, o = some a ∧ FlOk L C Wx (k a) σ H A τ D := by
  cases o with
  | some a => exact ⟨a, rfl, h⟩
  | none => exact h.elim
theorem fif_ok {c : Bool} {f : Fl} {σ : L2.St} {H : Hp} {A : SA} {τ : List V} {D : Ends} (h : FlOk L C Wx (fif c f) σ H A τ D) : c = true ∧ FlOk L C Wx f σ H A τ D := by
  cases c with
  | true => exact ⟨rfl, h⟩
  | false => exact h.elim
theorem ss_nil : PSs X [] (TSs L C Wx .nil) := PSs.mono pss_nil fun D σ H ⟨A, s, τ, S, q⟩ => by
  rw [exs] at q
  exact q σ H A S (Pst.refl S.nd) (Kp.refl σ)
theorem ss_cons {st : Stmt} {sts : List Stmt} {a : S} {b : Ss} (h1 : PS X st (TSt L C Wx a)) (h2 : PSs X sts (TSs L C Wx b)) : PSs X (st :: sts) (TSs L C Wx (.cons a b)) :=
  PSs.mono (pss_cons h1 h2) fun D σ H ⟨A, s, τ, S, q⟩ => by
    rw [exs] at q
    refine ⟨A, s, τ, S, ?_⟩
    cases e : ex C a s with
    | nx s1 => rw [e] at q; exact fun σ' H' A' S' P K => ⟨A', s1, τ, S', FlOk.pst (show FlOk L C Wx (exs C b s1) σ H A τ D from q) P K⟩
    | bk s1 => rw [e] at q; exact q
    | ct s1 => rw [e] at q; exact q
    | rt r s1 => rw [e] at q; exact q
    | exc x s1 => rw [e] at q; exact q
    | no => rw [e] at q; exact q
theorem st_ex {ee : Expr} {e : E} {pos : Pos} (h : PE X ee (TEv L C e)) (hs : swapsWith ee none pos.line X.env = pure false := by rfl) : PS X (.Expr ee pos) (TSt L C Wx (.ex e)) :=
  PS.mono (ps_expr h hs) fun D σ H ⟨A, s, τ, S, q⟩ => by
    rw [ex] at q
    obtain ⟨r, s1, e1, q⟩ := fl_ok q
    exact ⟨A, s, τ, r, s1, S, e1, fun v H1 A1 y S1 P1 _ => q σ H1 A1 S1 P1.nil (Kp.refl σ)⟩
theorem st_ret {ee : Expr} {e : E} {pos : Pos} (h : PE X ee (TEv L C e)) : PS X (.Return (some ee) pos) (TSt L C Wx (.ret (.some e))) :=
  PS.mono (ps_ret h) fun D σ H ⟨A, s, τ, S, q⟩ => by
    rw [ex] at q
    obtain ⟨r, s1, e1, q⟩ := fl_ok q
    exact ⟨A, s, τ, r, s1, S, e1, fun v H1 A1 y S1 P1 K => q v σ H1 A1 y [] S1 P1 (Kp.refl σ) K⟩
theorem st_ite {ec : Expr} {ea eb : List Stmt} {c : E} {a b : Ss} {pos : Pos} (hc : PT X ec (TTt L C c)) (ha : PSs X ea (TSs L C Wx a)) (hb : PSs X eb (TSs L C Wx b)) : PS X (.If ec ea eb pos) (TSt L C Wx (.ite c a b)) :=
  PS.mono (ps_if hc ha hb) fun D σ H ⟨A, s, τ, S, q⟩ => by
    rw [ex] at q
    unfold Res.fork at q
    obtain ⟨k, s1, e1, q⟩ := fl_ok q
    refine ⟨A, s, τ, k, s1, S, e1, fun H1 A1 S1 P1 => ?_⟩
    cases k with
    | true => rw [if_pos rfl]; exact ⟨A1, s1, τ, S1, FlOk.pst (show FlOk L C Wx (exs C a s1) σ H A τ D from q) P1 (Kp.refl σ)⟩
    | false => rw [if_neg Bool.false_ne_true]; exact ⟨A1, s1, τ, S1, FlOk.pst (show FlOk L C Wx (exs C b s1) σ H A τ D from q) P1 (Kp.refl σ)⟩
theorem SR.setO {H : Hp} {σ : L2.St} {A : SA} {s : St} {τ : List V} {i : Nat} {v : V} {o : Option MA} (S : SR L H σ A s τ) (hi : i < s.sl.length) (ho : ∀ n, o = some n → n.v = v ∧ Hd L H n) (nd : (adrS (A.set i o)).Nodup) :
    SR L H (σ.set i (some v)) (A.set i o) { sl := s.sl.set i (o.map MA.er), rf := killR (atRoot i) (dropR i s.rf), tm := killT (atRoot i) s.tm } τ := by
  have hA : i < A.length := by have := S.er; rw [this, List.length_map] at hi; exact hi
  have hσ : i < σ.length := S.len ▸ hA
  refine ⟨S.gl, ?_, by rw [List.length_set, List.length_set]; exact S.len, ?_, ?_, nd, ?_, ?_, ?_⟩
  · show s.sl.set i _ = _
    rw [S.er, List.map_set]
  · intro j n e
    by_cases q : j = i
    · subst q
      rw [List.getElem?_set_self hA] at e
      rw [List.getElem?_set_self hσ, (ho n (by simpa using e)).1]
    · rw [List.getElem?_set_ne (Ne.symm q)] at e ⊢; exact S.val j n e
  · intro j n e
    by_cases q : j = i
    · subst q
      rw [List.getElem?_set_self hA] at e
      exact (ho n (by simpa using e)).2
    · rw [List.getElem?_set_ne (Ne.symm q)] at e; exact S.hd j n e
  · intro j p e
    obtain ⟨e1, e2⟩ := killR_mem (f := atRoot i) e
    obtain ⟨e3, e4⟩ := dropR_mem e1
    obtain ⟨ok, w, e5, e6⟩ := S.rf j p e3
    refine ⟨ok, w, by rw [List.getElem?_set_ne (Ne.symm e4)]; exact e5, ?_⟩
    rw [labS_set (by simpa [atRoot] using e2)]; exact e6
  · show (killT _ s.tm).length = _
    rw [killT_len]; exact S.tl
  · intro k p e
    obtain ⟨e1, e2⟩ := killT_get (f := atRoot i) (l := s.tm) e
    obtain ⟨ok, w, e3, e4⟩ := S.tm k p e1
    refine ⟨ok, w, e3, ?_⟩
    rw [labS_set (by simpa [atRoot] using e2)]; exact e4
theorem set_pst {H0 H : Hp} {A0 A : SA} {i : Nat} {o : Option MA} {F G : List Addr} (hi : i < A.length) (P : Pst H0 A0 H A F) (hF : ∀ b ∈ adrO o ++ G, b ∈ F) (nd : (adrO o ++ G).Nodup) : Pst H0 A0 H (A.set i o) G := by
  obtain ⟨l, r, a1, a2⟩ := adrS_set (A := A) (i := i) (o := A[i]) (List.getElem?_eq_getElem hi)
  have sub : ∀ b ∈ adrS (A.set i o) ++ G, b ∈ adrS A ++ F := fun b hb => by
    rw [a2, List.mem_append, List.mem_append, List.mem_append] at hb
    rw [a1]
    simp only [List.mem_append]
    rcases hb with ((hb | hb) | hb) | hb
    · exact .inl (.inl (.inl hb))
    · exact .inr (hF b (by simp [hb]))
    · exact .inl (.inr hb)
    · exact .inr (hF b (by simp [hb]))
  refine ⟨P.ext, fun b hb => P.new b (sub b hb), ?_⟩
  have n0 := P.nd
  rw [a1] at n0
  rw [a2]
  rw [perm_mid.nodup_iff] at n0 ⊢
  have t := List.nodup_append.mp n0
  refine List.nodup_append.mpr ⟨t.1, nd, fun a ha b hb q => t.2.2 a ha b ?_ q⟩
  exact List.mem_append_right _ (hF b hb)
theorem bindN_ok {H0 H : Hp} {σ : L2.St} {A0 A : SA} {s s' : St} {τ : List V} {i : Nat} {n : MA} {fr : Nat → Bool} {F G : List Addr} (S : SR L H σ A s τ) (P : Pst H0 A0 H A F) (hF : ∀ b ∈ n.adr ++ G, b ∈ F) (nd : (n.adr ++ G).Nodup) (hn : Hd L H n) (e : bindN fr i n.er s = some s') :
    SR L H (σ.set i (some n.v)) (A.set i (some n)) s' τ ∧ Pst H0 A0 H (A.set i (some n)) G ∧ Kp fr σ (σ.set i (some n.v)) := by
  obtain ⟨c, e⟩ := oif_ok e
  cases e
  unfold free at c
  simp only [Bool.and_eq_true, decide_eq_true_eq] at c
  have hA : i < A.length := by have := S.er; have c1 := c.1; rw [this, List.length_map] at c1; exact c1
  have P' := set_pst (o := some n) hA P hF nd
  exact ⟨S.setO c.1 (fun m hm => by cases hm; exact ⟨rfl, hn⟩) (List.nodup_append.mp P'.nd).1, P', Kp.set c.2⟩
theorem bindP_ok {H0 H : Hp} {σ : L2.St} {A0 A : SA} {s s' : St} {τ : List V} {i : Nat} {p : Pth} {v : V} {fr : Nat → Bool} {F : List Addr} (S : SR L H σ A s τ) (P : Pst H0 A0 H A F) (ok : okP p.2) (hl : labS A p = some v) (e : bindP fr i p s = some s') :
    SR L H (σ.set i (some v)) (A.set i none) s' τ ∧ Pst H0 A0 H (A.set i none) F ∧ Kp fr σ (σ.set i (some v)) := by
  obtain ⟨c, e⟩ := oif_ok e
  cases e
  unfold free at c
  simp only [Bool.and_eq_true, decide_eq_true_eq, Bool.not_eq_true', beq_eq_false_iff_ne, ne_eq] at c
  have hA : i < A.length := by have := S.er; have c1 := c.1.1; rw [this, List.length_map] at c1; exact c1
  have P' := set_pst (o := none) (G := F) hA P (fun b hb => by simpa [adrO] using hb) (by simpa [adrO] using P.fnd)
  have S' := S.setO (v := v) (o := none) c.1.1 (fun m hm => by cases hm) (List.nodup_append.mp P'.nd).1
  refine ⟨⟨S'.gl, S'.er, S'.len, S'.val, S'.hd, S'.nd, ?_, S'.tl, S'.tm⟩, P', Kp.set c.1.2⟩
  intro j q hq
  rcases List.mem_cons.mp hq with hq | hq
  · cases hq
    refine ⟨ok, v, ?_, ?_⟩
    · rw [List.getElem?_set_self (S.len ▸ hA)]
    · rw [labS_set c.2]; exact hl
  · exact S'.rf j q hq
def TBn (L : Lnk) (fr : Nat → Bool) (t : Tn) : TG := fun v σ H Q => ∃ A s τ n H0 A0 F G s', SR L H σ A s τ ∧ Pst H0 A0 H A F ∧ (∀ b ∈ n.adr ++ G, b ∈ F) ∧ (n.adr ++ G).Nodup ∧ n.v = v ∧ Hd L H n ∧ bindT fr t n.er s = some s' ∧
  ∀ σ' A', SR L H σ' A' s' τ → Pst H0 A0 H A' G → Kp fr σ σ' → Q σ' H
def TBs (L : Lnk) (fr : Nat → Bool) (ts : List Tn) : TGs := fun vs σ H Q => ∃ A s τ xs H0 A0 F s', SR L H σ A s τ ∧ Pst H0 A0 H A F ∧ RpL L.K H vs xs ∧ bindTs fr ts xs s = some s' ∧
  ∀ σ' A', SR L H σ' A' s' τ → Pst H0 A0 H A' F → Kp fr σ σ' → Q σ' H
def TBp (L : Lnk) (fr : Nat → Bool) (t : Tn) : TG := fun v σ H Q => ∃ A s τ p H0 A0 F s' i, t = .nm i ∧ SR L H σ A s τ ∧ Pst H0 A0 H A F ∧ okP p.2 ∧ labS A p = some v ∧ bindP fr i p s = some s' ∧
  ∀ σ' A', SR L H σ' A' s' τ → Pst H0 A0 H A' F → Kp fr σ σ' → Q σ' H
def TBx (L : Lnk) (fr : Nat → Bool) (t : Tn) : TG := fun v σ H Q => TBn L fr t v σ H Q ∨ TBp L fr t v σ H Q
theorem gb_nm0 {fr : Nat → Bool} {i : Nat} {e : Expr} (h : PG X e (gName i)) : PG X e (TBn L fr (.nm i)) := PG.mono h fun v σ H Q ⟨A, s, τ, n, H0, A0, F, G, s', S, P, hF, nd, hv, hn, e, q⟩ => by
  subst hv
  rw [bindT] at e
  obtain ⟨S', P', K⟩ := bindN_ok S P hF nd hn e
  exact q _ _ S' P' K
theorem gb_nmp {fr : Nat → Bool} {i : Nat} {e : Expr} (h : PG X e (gName i)) : PG X e (TBp L fr (.nm i)) := PG.mono h fun v σ H Q ⟨A, s, τ, p, H0, A0, F, s', j, ej, S, P, ok, hl, e, q⟩ => by
  cases ej
  obtain ⟨S', P', K⟩ := bindP_ok S P ok hl e
  exact q _ _ S' P' K
theorem gb_x {fr : Nat → Bool} {i : Nat} {e : Expr} (h : PG X e (gName i)) : PG X e (TBx L fr (.nm i)) := PG.or (gb_nm0 h) (gb_nmp h)
theorem gb_y {fr : Nat → Bool} {ts : List Tn} {e : Expr} (h : PG X e (TBn L fr (.tp ts))) : PG X e (TBx L fr (.tp ts)) := PG.mono h fun v σ H Q q => q.elim id fun ⟨_, _, _, _, _, _, _, _, _, e, _⟩ => nomatch e
theorem gb_nil {fr : Nat → Bool} : PGs X [] (TBs L fr []) := PGs.mono pgs_nil fun vs σ H Q ⟨A, s, τ, xs, H0, A0, F, s', S, P, rp, e, q⟩ => by
  cases xs with
  | cons x xs => simp [bindTs] at e
  | nil =>
    cases rp
    simp only [bindTs, Option.some.injEq] at e
    subst e
    exact ⟨rfl, q σ A S P (Kp.refl σ)⟩
theorem gb_cons {fr : Nat → Bool} {e : Expr} {es : List Expr} {t : Tn} {ts : List Tn} (h1 : PG X e (TBn L fr t)) (h2 : PGs X es (TBs L fr ts)) (hs : (assignEach (e :: es) X.env).map (·.2) = assign e X.env :: (assignEach es X.env).map (·.2) := by rfl) : PGs X (e :: es) (TBs L fr (t :: ts)) :=
  PGs.mono (pgs_cons h1 h2 hs) fun vs σ H Q ⟨A, s, τ, xs, H0, A0, F, s', S, P, rp, e, q⟩ => by
    cases xs with
    | nil => simp [bindTs] at e
    | cons x xs =>
      cases rp with
      | cons r1 rr =>
        rw [bindTs] at e
        obtain ⟨s1, e1, e2⟩ := ob_ok e
        refine ⟨_, _, rfl, A, s, τ, .im (.d x) _, H0, A0, F, F, s1, S, P, (fun b hb => by simpa [MA.adr] using hb), by simpa [MA.adr] using P.fnd, rfl, r1, e1, fun σ1 A1 S1 P1 K1 => ?_⟩
        exact ⟨A1, s1, τ, xs, H0, A0, F, s', S1, P1, rr, e2, fun σ2 A2 S2 P2 K2 => q σ2 A2 S2 P2 (K1.trans K2)⟩
theorem gb_tup {fr : Nat → Bool} {es : List Expr} {k n : Nat} {pos : Pos} {ts : List Tn} (hK : X.K = L.K) (hc : X.calm = true) (h : PGs X es (TBs L fr ts)) (hl : ts.length = n := by rfl) (hn : (assignEach es X.env).length = n := by rfl) (hst : (assignEach es X.env).findIdx? (·.1) = none := by rfl) : PG X (.Tuple es k pos) (TBn L fr (.tp ts)) :=
  PG.mono (pg_tup hc h hn hst) fun v σ H Q ⟨A, s, τ, m, H0, A0, F, G, s', S, P, hF, nd, hv, hm, e, q⟩ => by
    rw [bindT] at e
    obtain ⟨xs, e1, e2⟩ := ob_ok e
    have e3 : m.er = .d (.tuple xs) := by
      unfold tupM at e1
      split at e1
      · cases e1; assumption
      · cases e1
    obtain ⟨a, vs, h1, h2, h3⟩ := (hm.d_inv e3).tup_inv
    rw [hv] at h1
    subst h1
    have ln : ∀ (ts : List Tn) (xs : List D) (s s' : St), bindTs fr ts xs s = some s' → ts.length = xs.length := by
      intro ts
      induction ts with
      | nil => intro xs s s' e; cases xs with
        | nil => rfl
        | cons x xs => simp [bindTs] at e
      | cons t ts ih => intro xs s s' e; cases xs with
        | nil => simp [bindTs] at e
        | cons x xs =>
          rw [bindTs] at e
          obtain ⟨s1, _, e2⟩ := ob_ok e
          simp [ih xs s1 s' e2]
    refine ⟨a, vs, rfl, hK ▸ h2, by rw [h3.length, ← ln ts xs s s' e2, hl], A, s, τ, xs, H0, A0, G, s', S, P.less (fun b hb => hF b (by simp [hb])) (List.nodup_append.mp nd).2.1, h3, e2, q⟩
theorem st_nm {i : Nat} {tg ee : Expr} {e : E} {pos : Pos} (he : PE X ee (TEv L C e)) (hg : PG X tg (gName i)) (hs : swapsWithSole [tg] ee pos.line X.env = pure false := by rfl) (hw : swappedStores [tg] ee X.env = pure none := by rfl)
    (h1 : (assignEach [tg] X.env).map (·.2) = [assign tg X.env] := by rfl) : PS X (.Assign [tg] ee pos) (TSt L C Wx (.asg (.nm i) e)) :=
  PS.mono (ps_asg he (PG.or (gb_nm0 (L := L) (fr := C.fr) hg) (gb_nmp hg)) hs hw h1) fun D σ H ⟨A, s, τ, S, q⟩ => by
    rw [ex] at q
    obtain ⟨r, s1, e1, q⟩ := fl_ok q
    refine ⟨A, s, τ, r, s1, S, e1, fun v H1 A1 y S1 P1 K => ?_⟩
    cases r with
    | v m =>
      obtain ⟨n, rfl, rfl, rfl, hn⟩ := K.v_inv
      obtain ⟨s2, e2, q⟩ := fs_ok (show FlOk L C Wx (fs (bindN C.fr i n.er s1) .nx) σ H A τ D from q)
      exact .inl ⟨A1, s1, τ, n, H, A, n.adr, [], s2, S1, P1, (fun b hb => by simpa using hb), by simpa [adrO] using P1.fnd, rfl, hn, by rw [bindT]; exact e2, fun σ' A' S' P' K' => q σ' H1 A' S' P' K'⟩
    | p p =>
      obtain ⟨rfl, o, h⟩ := K.p_inv
      obtain ⟨s2, e2, q⟩ := fs_ok (show FlOk L C Wx (fs (bindP C.fr i p s1) .nx) σ H A τ D from q)
      exact .inr ⟨A1, s1, τ, p, H, A, [], s2, i, rfl, S1, P1, o, h, e2, fun σ' A' S' P' K' => q σ' H1 A' S' P' K'⟩
end
end Vm
end
section
namespace Vm
open PySem L2
def ItOk (L : Lnk) (H1 : Hp) (J : L2.It) (Z : List Addr) (ys : List MA) : Prop :=
  ∀ H2, Stb H1 H2 → (∀ b ∈ Z, H2 b = H1 b) → J.stop ys.length H2 ∧ ∀ i y, ys[i]? = some y → (∀ b ∈ y.adr, H2 b = H1 b) →
    J.go i H2 ∧ ∀ x H3, J.yld i H2 x H3 → (∀ b o, H2 b = some o → H3 b = some o) ∧ ∃ z : MA, z.er = y.er ∧ z.adr = y.adr ∧ z.v = x ∧ Hd L H3 z
def PlOk (L : Lnk) (H1 : Hp) (A1 : SA) : Pl → List Addr → L2.It → Prop
  | .pt p, F, J => F = [] ∧ okP p.2 ∧ ∃ a, labS A1 p = some (.ref a) ∧ J = Itl L.K a
  | .ms ms, F, J => ∃ (ys : List MA) (Z : List Addr), ers ys = ms ∧ F = Z ++ adrs ys ∧ (∀ b ∈ F, ∃ u, H1 b = some u) ∧ ItOk L H1 J Z ys
def TPl (L : Lnk) (C : Ctx) (it : Vm.It) : TI := fun σ H R => ∃ A s τ p s', SR L H σ A s τ ∧ evi C it s = .ok p s' ∧ ∀ H' A' J F, SR L H' σ A' s' τ → Pst H A H' A' F → PlOk L H' A' p F J → R J H'
theorem PI.mono {X : Cx} {tg e : Expr} {t t' : TI} (h : PI X tg e t) (k : ∀ σ H R, t' σ H R → t σ H R) : PI X tg e t' := ⟨fun pins s σ H R I q => h.run pins s σ H R I (k σ H R q)⟩
theorem itOk_simple {L : Lnk} {H1 : Hp} {J : L2.It} {Z : List Addr} {ys : List MA} (hd : HdL L H1 ys) (hs : ∀ H2, Stb H1 H2 → (∀ b ∈ Z, H2 b = H1 b) → J.stop ys.length H2 ∧ ∀ i y, ys[i]? = some y → J.go i H2 ∧ ∀ x H3, J.yld i H2 x H3 → H3 = H2 ∧ y.v = x) : ItOk L H1 J Z ys := by
  intro H2 st hz
  obtain ⟨h1, h2⟩ := hs H2 st hz
  refine ⟨h1, fun i y e ha => ?_⟩
  obtain ⟨h3, h4⟩ := h2 i y e
  refine ⟨h3, fun x H3 yl => ?_⟩
  obtain ⟨rfl, rfl⟩ := h4 x H3 yl
  exact ⟨fun b o h => h, y, rfl, rfl, rfl, Hd.mono st (HdL.get hd e) ha⟩
theorem itl_ok {L : Lnk} {H1 : Hp} {a : Addr} {Z : List Addr} {ys : List MA} (hd : HdL L H1 ys) (hs : ∀ H2, Stb H1 H2 → (∀ b ∈ Z, H2 b = H1 b) → SqL L.K H2 a (vsOf ys)) : ItOk L H1 (Itl L.K a) Z ys :=
  itOk_simple hd fun H2 st hz => by
    have h := hs H2 st hz
    refine ⟨⟨vsOf ys, h, by simp [vsOf]⟩, fun i y e => ?_⟩
    have e' : (vsOf ys)[i]? = some y.v := by simp [vsOf, e]
    refine ⟨⟨vsOf ys, y.v, h, e'⟩, fun x H3 yl => ⟨yl.1, ?_⟩⟩
    have := yl.2 _ h
    rw [e'] at this
    exact Option.some.inj this
theorem itt_ok {L : Lnk} {H1 : Hp} {a : Addr} {Z : List Addr} {ys : List MA} (hd : HdL L H1 ys) (h0 : SqT L.K H1 a (vsOf ys)) : ItOk L H1 (Itt L.K a) Z ys :=
  itOk_simple hd fun H2 st hz => by
    have h := SqT.mono st h0
    refine ⟨⟨vsOf ys, h, by simp [vsOf]⟩, fun i y e => ?_⟩
    have e' : (vsOf ys)[i]? = some y.v := by simp [vsOf, e]
    refine ⟨⟨vsOf ys, y.v, h, e'⟩, fun x H3 yl => ⟨yl.1, ?_⟩⟩
    have := yl.2 _ h
    rw [e'] at this
    exact Option.some.inj this
section
variable {L : Lnk} {C : Ctx} {X : Cx}
def iAny (K : PySem.W.Frag) (tl : TE) : TI := fun σ H R => tl σ H fun x H1 => (∃ a, x = .ref a ∧ (∃ xs, SqL K H1 a xs) ∧ R (Itl K a) H1) ∨ (∃ a, x = .ref a ∧ (∃ xs, SqT K H1 a xs) ∧ R (Itt K a) H1) ∨ (∃ z, x = .str z ∧ R (Its z) H1)
theorem pi_any {tg l : Expr} {tl : TE} (hl : PE X l tl) : PI X tg l (iAny X.K tl) := by
  refine ⟨fun pins s σ H R I h => ?_⟩
  refine thn (hl.run pins s σ H _ I h) fun v s1 ⟨x, H1, I1, r1, q1⟩ => ?_
  rcases q1 with ⟨a, rfl, ⟨xs, hq⟩, q⟩ | ⟨a, rfl, ⟨xs, hq⟩, q⟩ | ⟨z, rfl, q⟩
  · cases r1
    obtain ⟨its, rv, p, hz⟩ := I1.list hq
    exact wpAny_pyIter_list p.isList (pi_one (tk := s1.toks) I1 _ (turn_list a _) ⟨_, Heap.get?_push_size _ rfl, rfl, rfl⟩ q)
  · cases r1
    obtain ⟨its, rv, p, hz⟩ := I1.tuple hq
    exact wpAny_pyIter_tuple (show s1.heap.IsTuple a its.toArray from p) (pi_one (tk := s1.toks) I1 _ (turn_tuple a _) ⟨_, Heap.get?_push_size _ rfl, rfl, rfl⟩ q)
  · obtain ⟨t, rfl⟩ := r1
    cases ha : z.cps.all (· < 128)
    · exact wpAny_pyIter_wide ha (pi_one (tk := s1.toks) I1 _ (turn_str _ z t "str_iterator" (.inr rfl)) ⟨_, Heap.get?_push_size _ rfl, rfl, rfl⟩ q)
    · exact wpAny_pyIter_ascii ha (pi_one (tk := s1.toks) I1 _ (turn_str _ z t "str_ascii_iterator" (.inl rfl)) ⟨_, Heap.get?_push_size _ rfl, rfl, rfl⟩ q)
theorem i_e {tg ee : Expr} {e : E} (hK : X.K = L.K) (h : PE X ee (TEv L C e)) : PI X tg ee (TPl L C (.e e)) :=
  PI.mono (pi_any h) fun σ H R ⟨A, s, τ, p, s', S, e0, q⟩ => by
    obtain ⟨r, s1, e1, e2⟩ := bd_ok (show ((ev C e s).bd fun r s => plOf r s) = .ok p s' from by rw [← e0, evi])
    refine ⟨A, s, τ, r, s1, S, e1, fun v H1 A1 y S1 P1 K => ?_⟩
    have dat : ∀ {a : Addr} {vs : List V} {ds : List D} {J : L2.It}, RpL L.K H1 vs ds → s' = s1 → p = .ms (ds.map .d) → (HdL L H1 (imD ds vs) → vsOf (imD ds vs) = vs → ItOk L H1 J [] (imD ds vs)) → R J H1 := fun {a vs ds J} h1 h2 h3 h4 => by
      subst h2 h3
      obtain ⟨i1, i2, i3, i4⟩ := imD_ok (L := L) h1
      exact q H1 A1 J [] S1 P1.nil ⟨imD ds vs, [], i2, by simp [i3], fun b hb => by simp at hb, h4 i4 i1⟩
    unfold plOf at e2
    split at e2
    · cases e2
      obtain ⟨a, vs, rfl, h1, h2⟩ := K.d_inv.tup_inv
      exact .inr (.inl ⟨a, rfl, ⟨vs, hK ▸ h1⟩, hK ▸ dat (a := a) h2 rfl rfl fun i4 i1 => itt_ok i4 (by rw [i1]; exact h1)⟩)
    · cases e2
      obtain ⟨a, vs, rfl, h1, h2⟩ := K.d_inv.lst_inv
      exact .inl ⟨a, rfl, ⟨vs, hK ▸ h1.sql⟩, hK ▸ dat (a := a) h2 rfl rfl fun i4 i1 => itl_ok i4 fun H2 st _ => by rw [i1]; exact (SqF.mono st h1).sql⟩
    · rename_i x
      cases e2
      obtain ⟨rfl, ok⟩ := K.d_inv.str_inv
      refine .inr (.inr ⟨x, rfl, ?_⟩)
      have hr : ∀ l : List Nat, (∀ c ∈ l, c < 0x110000) → RpL L.K H1 (l.map fun c => V.str ⟨#[c]⟩) (l.map chr1) := by
        intro l
        induction l with
        | nil => intro _; exact .nil
        | cons c l ih =>
          intro h
          refine .cons (.str _ ⟨by show 1 ≤ sizeLine; rw [sizeLine_eq]; decide, fun d hd => ?_⟩) (ih fun d hd => h d (by simp [hd]))
          simp at hd; subst hd; exact h _ (by simp)
      refine dat (a := 0) (hr (strL x) ok.2) rfl (by rw [List.map_map]; rfl) fun i4 i1 => ?_
      have hlen : (imD ((strL x).map chr1) ((strL x).map fun c => V.str ⟨#[c]⟩)).length = x.cps.size := by simp [imD, strL]
      refine itOk_simple i4 fun H2 st hz => ⟨by show x.cps.size ≤ _; rw [hlen]; exact Nat.le_refl _, fun i y e => ⟨?_, fun z H3 yl => ?_⟩⟩
      · have := (List.getElem?_eq_some_iff.mp e).1
        rw [hlen] at this
        exact this
      · obtain ⟨h3, c, hc, rfl⟩ := yl
        refine ⟨h3, ?_⟩
        have e' : (vsOf (imD ((strL x).map chr1) ((strL x).map fun c => V.str ⟨#[c]⟩)))[i]? = some y.v := by simp only [vsOf, List.getElem?_map, e, Option.map_some]
        rw [i1, List.getElem?_map] at e'
        have : (strL x)[i]? = some c := by unfold strL; rw [Array.getElem?_toList]; exact hc
        rw [this] at e'
        simpa using e'.symm
    · cases e2
      obtain ⟨n, rfl, h1, rfl, h3⟩ := K.v_inv
      cases n with
      | im m v => simp only [MA.er] at h1; subst h1; exact h3.elim
      | dct a ns => simp [MA.er] at h1
      | obj a c ns => simp [MA.er] at h1
      | dnn a ns => simp [MA.er] at h1
      | lst a ns =>
        simp only [MA.er, M.lst.injEq] at h1
        refine .inl ⟨a, rfl, ⟨vsOf ns, .inl (.inl h3.1)⟩, ?_⟩
        rw [hK]
        refine q H1 A1 _ (a :: adrs ns) S1 P1 ⟨ns, [a], h1, rfl, fun b hb => ?_, itl_ok h3.2 fun H2 st hz => .inl (.inl (by rw [hz a (by simp)]; exact h3.1))⟩
        obtain ⟨u, e, _⟩ := Hd.mut h3 b (by simpa [MA.adr] using hb)
        exact ⟨u, e⟩
    · rename_i p1
      obtain ⟨rfl, o, h⟩ := K.p_inv
      obtain ⟨m, e3, e4⟩ := rs_ok e2
      unfold plP at e4
      split at e4
      · cases e4
        rename_i ms
        obtain ⟨a, ns, rfl, hp, _, hH, _⟩ := lst_at (ms := ms) S1 h (by rw [e3]; rfl)
        refine .inl ⟨a, rfl, ⟨vsOf ns, .inl (.inl hH)⟩, ?_⟩
        rw [hK]
        exact q H1 A1 _ [] S1 P1.nil ⟨rfl, o, a, h, rfl⟩
      · cases e4
    · cases e2
theorem rng_ok {H1 : Hp} {lo : Int} {n : Nat} : ∃ ys : List MA, ers ys = (rngD lo n).map .d ∧ adrs ys = [] ∧ ItOk L H1 (Itr lo n) [] ys := by
  have hr : ∀ l : List Nat, RpL L.K H1 (l.map fun (k : Nat) => V.int (lo + (k : Int))) (l.map fun (k : Nat) => PyData.int (lo + (k : Int))) := by
    intro l
    induction l with
    | nil => exact .nil
    | cons c l ih => exact .cons (.int _) ih
  obtain ⟨i1, i2, i3, i4⟩ := imD_ok (L := L) (hr (List.range n))
  refine ⟨_, i2, i3, ?_⟩
  have hlen : (imD ((List.range n).map fun (k : Nat) => PyData.int (lo + (k : Int))) ((List.range n).map fun (k : Nat) => V.int (lo + (k : Int)))).length = n := by simp [imD]
  refine itOk_simple i4 fun H2 st hz => ⟨by show n ≤ _; rw [hlen]; exact Nat.le_refl _, fun i y e => ?_⟩
  have hi := (List.getElem?_eq_some_iff.mp e).1
  rw [hlen] at hi
  refine ⟨hi, fun z H3 yl => ⟨yl.1, ?_⟩⟩
  have e' : (vsOf (imD ((List.range n).map fun (k : Nat) => PyData.int (lo + (k : Int))) ((List.range n).map fun (k : Nat) => V.int (lo + (k : Int)))))[i]? = some y.v := by simp only [vsOf, List.getElem?_map, e, Option.map_some]
  rw [i1, List.getElem?_map, List.getElem?_range hi] at e'
  rw [yl.2]
  simpa using e'.symm
theorem big_ok {i : Int} (h : big i = true) : -(2 ^ 62) ≤ i ∧ i < 2 ^ 62 := by
  unfold big at h
  simpa using h
theorem i_rng1 {tg eb : Expr} {b : E} {p pos : Pos} (hb : PA X [eb] (TRs L C (.cons b .nil))) (hm : X.mg "range" = none) (hg : Gl X "range" := by rfl) (hs : starEach [eb] X.env = [(false, eval eb X.env)] := by rfl) : PI X tg (.Call (.Name "range" p) [eb] [] pos) (TPl L C (.rng .none b)) :=
  PI.mono (pi_range1 hg hm hb hs) fun σ H R ⟨A, s, τ, p, s', S, e0, q⟩ => by
    rw [evi] at e0
    obtain ⟨ma, s1, e1, e2⟩ := bd_ok e0
    rw [evo] at e1
    cases e1
    obtain ⟨rb, s2, e3, e4⟩ := bd_ok e2
    obtain ⟨ms, e5, e6⟩ := rs_ok e4
    cases e6
    refine ⟨A, s, τ, [rb], s', S, ?_, fun vs H1 A1 ys S1 P1 K => ?_⟩
    · rw [evs, e3]
      show hold rb s' (evs C .nil) (fun r rv s => Res.ok (r :: rv) s) = _
      cases rb with
      | v m => simp only [hold, evs, Res.bd]
      | p p => simp only [Option.bind_eq_some_iff, Rv.dat] at e5; obtain ⟨_, h, _⟩ := e5; cases h
    · obtain ⟨y, v, rfl, rfl, K1⟩ := K.one
      simp only [Option.bind_eq_some_iff] at e5
      obtain ⟨x, f1, f2⟩ := e5
      cases dat_some f1
      cases x <;> simp [rngOf] at f2
      rename_i j
      obtain ⟨c, f3⟩ := oif_ok f2
      cases f3
      obtain ⟨h1, h2⟩ := big_ok c
      refine ⟨j, by rw [K1.d_inv.int_inv], h1, h2, ?_⟩
      obtain ⟨zs, z1, z2, z3⟩ := rng_ok (L := L) (H1 := H1) (lo := 0) (n := j.toNat)
      exact q H1 A1 _ [] S1 (P1.nil) ⟨zs, [], z1, by simp [z2], fun b hb => by simp at hb, z3⟩
end
end Vm
end
section
namespace Vm
open PySem L2
theorem Pst.grow {H H2 H3 : Hp} {A A2 : SA} {F : List Addr} (P : Pst H A H2 A2 F) (g : ∀ b o, H2 b = some o → H3 b = some o) : Pst H A H3 A2 F :=
  ⟨fun b o e q => g b o (P.ext b o e q), P.new, P.nd⟩
theorem grow_stb {H2 H3 : Hp} (g : ∀ b o, H2 b = some o → H3 b = some o) : Stb H2 H3 := ⟨fun a xs h => g _ _ h, fun a o u h => g _ _ h⟩
theorem SR.grow {L : Lnk} {H2 H3 : Hp} {σ : L2.St} {A : SA} {s : St} {τ : List V} (S : SR L H2 σ A s τ) (g : ∀ b o, H2 b = some o → H3 b = some o) : SR L H3 σ A s τ :=
  S.heap (grow_stb g) fun b hb => by
    obtain ⟨u, e, _⟩ := S.mut b hb
    rw [e]; exact g b u e
theorem SR.tms {L : Lnk} {H : Hp} {σ : L2.St} {A : SA} {s : St} {τ : List V} {v : V} {t : List (Option Pth)} (S : SR L H σ A s (v :: τ)) (h : s.tm.tail? = some t) : SR L H σ A (s.tms t) τ := by
  cases hs : s.tm with
  | nil => rw [hs] at h; cases h
  | cons x r =>
    rw [hs] at h
    simp at h
    subst h
    have tl := S.tl
    rw [hs] at tl
    refine ⟨S.gl, S.er, S.len, S.val, S.hd, S.nd, S.rf, by simpa [St.tms] using tl, fun k q e => ?_⟩
    obtain ⟨o, w, f1, f2⟩ := S.tm (k + 1) q (by rw [hs]; simpa [St.tms] using e)
    exact ⟨o, w, by simpa using f1, f2⟩
section
variable {L : Lnk} {C : Ctx} {X : Cx} {Wx : WX}
theorem for_ms {t : Tn} {b : Ss} {D : Ends} {σ : L2.St} {H H1 : Hp} {A A1 : SA} {s1 : St} {τ : List V} {J : L2.It} {ys : List MA} {Z : List Addr} (S1 : SR L H1 σ A1 s1 τ) (P1 : Pst H A H1 A1 (Z ++ adrs ys)) (hF : ∀ b ∈ Z ++ adrs ys, ∃ u, H1 b = some u) (ok : ItOk L H1 J Z ys)
    (q : FlOk L C Wx (forM C.fr t (exs C b) (ers ys) s1) σ H A τ D) : ∃ W : Nat → Nat → L2.St → Hp → Prop, (∃ m, W 0 m σ H1) ∧ ∀ i m σ H, W i m σ H →
      (J.stop i H ∧ D.nx σ H) ∨ (J.go i H ∧ ∃ N : L2.St → Hp → Prop, (∀ σ' H', N σ' H' → ∃ m', m' < m ∧ W (i + 1) m' σ' H') ∧ ∀ x H', J.yld i H x H' → TBx L C.fr t x σ H' fun σ2 H2 => TSs L C Wx b { D with nx := N, ct := N, bk := D.nx } σ2 H2) := by
  refine ⟨fun i m σ' H' => m = ys.length - i ∧ i ≤ ys.length ∧ ∃ A' s', SR L H' σ' A' s' τ ∧ Pst H A H' A' (Z ++ adrs (ys.drop i)) ∧ (∀ b ∈ Z ++ adrs (ys.drop i), H' b = H1 b) ∧ Stb H1 H' ∧ Kp C.fr σ σ' ∧ FlOk L C Wx (forM C.fr t (exs C b) (ers (ys.drop i)) s') σ H A τ D,
    ⟨ys.length, by simp, Nat.zero_le _, A1, s1, S1, by simpa using P1, fun b hb => rfl, Stb.refl _, Kp.refl _, by simpa using q⟩, ?_⟩
  rintro i m σ2 H2 ⟨rfl, hi, A2, s2, S2, P2, F2, st2, K2, q2⟩
  obtain ⟨k1, k2⟩ := ok H2 st2 fun b hb => F2 b (by simp [hb])
  by_cases hlt : i < ys.length
  · right
    rw [List.drop_eq_getElem_cons hlt] at P2 F2 q2
    generalize hy : ys[i] = y at P2 F2 q2
    have ey : ys[i]? = some y := by rw [List.getElem?_eq_getElem hlt, hy]
    generalize hr : ys.drop (i + 1) = rest at P2 F2 q2
    obtain ⟨g1, g2⟩ := k2 i y ey fun b hb => F2 b (by simp [adrs, hb])
    simp only [ers, forM] at q2
    obtain ⟨s3, e3, q3⟩ := fs_ok q2
    refine ⟨g1, fun σ' H' => ∃ A' s', SR L H' σ' A' s' τ ∧ Pst H A H' A' (Z ++ adrs rest) ∧ (∀ b ∈ Z ++ adrs rest, H' b = H1 b) ∧ Stb H1 H' ∧ Kp C.fr σ σ' ∧ FlOk L C Wx (forM C.fr t (exs C b) (ers rest) s') σ H A τ D, fun σ' H' h => ⟨ys.length - (i + 1), by omega, rfl, hlt, by rw [hr]; exact h⟩, fun x H3 yl => ?_⟩
    obtain ⟨gr, z, z1, z2, z3, z4⟩ := g2 x H3 yl
    left
    have S3 := S2.grow gr
    have P3 := P2.grow gr
    have hF2 : ∀ b ∈ Z ++ adrs (y :: rest), H3 b = H1 b := fun b hb => by
      have : b ∈ Z ++ adrs ys := by
        rcases List.mem_append.mp hb with hb | hb
        · simp [hb]
        · refine List.mem_append_right _ ?_
          have e0 : ys = ys.take i ++ (y :: rest) := by rw [← hr, ← hy, ← List.drop_eq_getElem_cons hlt, List.take_append_drop]
          rw [e0, adrs_append]; simp [hb]
      obtain ⟨u, e⟩ := hF b this
      have e2 : H2 b = some u := (F2 b hb).trans e
      rw [gr b u e2, e]
    have nd0 := P3.fnd
    have sub : ∀ b ∈ z.adr ++ (Z ++ adrs rest), b ∈ Z ++ adrs (y :: rest) := fun b hb => by
      rw [z2] at hb
      simp only [adrs, List.mem_append] at hb ⊢
      rcases hb with hb | hb | hb
      · exact .inr (.inl hb)
      · exact .inl hb
      · exact .inr (.inr hb)
    have nd1 : (z.adr ++ (Z ++ adrs rest)).Nodup := by
      rw [z2]
      simp only [adrs] at nd0
      have : (Z ++ (y.adr ++ adrs rest)).Perm (y.adr ++ (Z ++ adrs rest)) := by
        rw [← List.append_assoc, ← List.append_assoc]
        exact List.Perm.append_right _ List.perm_append_comm
      exact this.nodup_iff.mp nd0
    refine ⟨A2, s2, τ, z, H, A, _, Z ++ adrs rest, s3, S3, P3, sub, nd1, z3, z4, by rw [z1]; exact e3, fun σ4 A4 S4 P4 K4 => ⟨A4, s3, τ, S4, ?_⟩⟩
    have tG : ∀ b ∈ Z ++ adrs rest, H3 b = H1 b := fun b hb => hF2 b (sub b (by simp only [List.mem_append] at hb ⊢; exact .inr hb))
    have again : ∀ {s5 : St}, FlOk L C Wx (forM C.fr t (exs C b) (ers rest) s5) σ H A τ D → ∀ σ' H' A', SR L H' σ' A' s5 τ → Pst H3 A4 H' A' [] → Kp C.fr σ4 σ' →
        ∃ A' s', SR L H' σ' A' s' τ ∧ Pst H A H' A' (Z ++ adrs rest) ∧ (∀ b ∈ Z ++ adrs rest, H' b = H1 b) ∧ Stb H1 H' ∧ Kp C.fr σ σ' ∧ FlOk L C Wx (forM C.fr t (exs C b) (ers rest) s') σ H A τ D := fun {s5} q5 σ' H' A' S' P' K' => by
      have trk : ∀ b ∈ Z ++ adrs rest, ∃ u, H3 b = some u := fun b hb => by
        have hb' : b ∈ Z ++ adrs ys := by
          rcases List.mem_append.mp hb with hb | hb
          · simp [hb]
          · refine List.mem_append_right _ ?_
            have e0 : ys = ys.take i ++ (y :: rest) := by rw [← hr, ← hy, ← List.drop_eq_getElem_cons hlt, List.take_append_drop]
            rw [e0, adrs_append]; simp [adrs, hb]
        obtain ⟨u, e⟩ := hF b hb'
        exact ⟨u, (tG b hb).trans e⟩
      refine ⟨A', s5, S', by simpa using P4.trans P' trk, fun b hb => ?_, (st2.trans (grow_stb gr)).trans (P'.stb S4), (K2.trans K4).trans K', q5⟩
      obtain ⟨u, e⟩ := trk b hb
      rw [P'.ext b u e fun h => nd_left P4.nd h hb, ← e, tG b hb]
    unfold Fl.lp at q3
    cases hb : exs C b s3 with
    | nx s5 => rw [hb] at q3; exact fun σ' H' A' S' P' K' => again q3 σ' H' A' S' P' K'
    | ct s5 => rw [hb] at q3; exact fun σ' H' A' S' P' K' => again q3 σ' H' A' S' P' K'
    | bk s5 => rw [hb] at q3; exact fun σ' H' A' S' P' K' => (show FlOk L C Wx (.nx s5) σ H A τ D from q3) σ' H' A' S' (P4.nil.seq P') ((K2.trans K4).trans K')
    | rt r s5 => rw [hb] at q3; exact fun v σ' H' A' y τ' S' P' K' R => (show FlOk L C Wx (.rt r s5) σ H A τ D from q3) v σ' H' A' y τ' S' (P4.nil.seq P') ((K2.trans K4).trans K') R
    | exc x s5 => rw [hb] at q3; exact fun cls d σ' H' A' τ' S' P' K' R => (show FlOk L C Wx (.exc x s5) σ H A τ D from q3) cls d σ' H' A' τ' S' (P4.nil.seq P') ((K2.trans K4).trans K') R
    | no => rw [hb] at q3; exact q3
  · left
    have e : i = ys.length := by omega
    subst e
    rw [List.drop_length] at q2 P2
    simp only [ers, forM] at q2
    exact ⟨k1, q2 σ2 H2 A2 S2 P2.nil K2⟩
theorem topL_ok {H : Hp} {σ : L2.St} {A : SA} {s : St} {a : Addr} {τ : List V} {pm : Pth × List M} (S : SR L H σ A s (.ref a :: τ)) (e : topL s = some pm) : okP pm.1.2 ∧ ∃ ns, plA A pm.1 = some (.lst a ns) ∧ ers ns = pm.2 ∧ H a = some (.lst (vsOf ns)) ∧ HdL L H ns := by
  unfold topL at e
  simp only [Option.bind_eq_some_iff] at e
  obtain ⟨pt, e1, ms, e2, e3⟩ := e
  cases e3
  obtain ⟨_, o, hl⟩ := S.pop e1
  obtain ⟨a', ns, hv, h2, h3, h4, h5⟩ := lst_at S hl (by simpa [Option.bind_eq_some_iff] using e2)
  cases hv
  exact ⟨o, ns, h2, h3, h4, h5⟩
theorem lab_item {A : SA} {p : Pth} {a : Addr} {ns : List MA} {i : Nat} {m : MA} (h : plA A p = some (.lst a ns)) (e : ns[i]? = some m) : labS A (p.1, p.2 ++ [.ix i]) = some m.v := by
  have get_app : ∀ (q : List Acc) (x y : MA), x.getA q = some y → x.getA (q ++ [.ix i]) = y.getA [.ix i] := by
    intro q
    induction q with
    | nil => intro x y h; simp [MA.getA] at h; subst h; rfl
    | cons c q ih =>
      intro x y h
      cases c <;> cases x <;> simp [MA.getA, Option.bind_eq_some_iff] at h
      all_goals
        obtain ⟨w, h1, h2⟩ := h
        simp only [List.cons_append, MA.getA, h1, Option.bind_some]
        exact ih w y h2
  unfold plA at h
  unfold labS plA
  simp only [Option.bind_eq_some_iff] at h
  obtain ⟨x, h1, h2⟩ := h
  rw [h1]
  simp only [Option.bind_some]
  rw [get_app p.2 x _ h2]
  simp [MA.getA, e]
theorem okP_ix {p : List Acc} {i : Nat} (h : okP p) : okP (p ++ [.ix i]) := h.append fun a ha => by simp at ha; subst ha; rfl
theorem bindI_ok {t : Tn} {H0 H : Hp} {σ : L2.St} {A0 A : SA} {s s' : St} {τ : List V} {p : Pth} {a : Addr} {ns : List MA} {i : Nat} {m : MA} {fr : Nat → Bool} {F : List Addr} {Q : L2.St → Hp → Prop} (S : SR L H σ A s τ) (P : Pst H0 A0 H A F) (o : okP p.2) (h : plA A p = some (.lst a ns)) (hN : HdL L H ns)
    (e : ns[i]? = some m) (eb : bindI fr t p i m.er s = some s') (q : ∀ σ' A', SR L H σ' A' s' τ → Pst H0 A0 H A' F → Kp fr σ σ' → Q σ' H) : TBx L fr t m.v σ H Q := by
  unfold bindI at eb
  split at eb
  · cases t with
    | nm j => exact .inr ⟨A, s, τ, (p.1, p.2 ++ [.ix i]), H0, A0, F, s', j, rfl, S, P, okP_ix o, lab_item h e, (show bindP fr j (p.1, p.2 ++ [.ix i]) s = some s' from eb), q⟩
    | tp ts => cases eb
  · rename_i hm
    have ha : m.adr = [] := mut_er hm
    exact .inl ⟨A, s, τ, m, H0, A0, F, F, s', S, P, (fun b hb => by simpa [ha] using hb), by simpa [ha] using P.fnd, rfl, HdL.get hN e, eb, q⟩
theorem for_pt {t : Tn} {b : Ss} {D : Ends} {σ : L2.St} {H H1 : Hp} {A A1 : SA} {s1 : St} {τ : List V} {a : Addr} {k : Nat} (S1 : SR L H1 σ A1 s1 (.ref a :: τ)) (P1 : Pst H A H1 A1 [])
    (q : FlOk L C Wx (forP C.fr t (exs C b) k 0 s1) σ H A τ D) : ∃ W : Nat → Nat → L2.St → Hp → Prop, (∃ m, W 0 m σ H1) ∧ ∀ i m σ H, W i m σ H →
      ((Itl L.K a).stop i H ∧ D.nx σ H) ∨ ((Itl L.K a).go i H ∧ ∃ N : L2.St → Hp → Prop, (∀ σ' H', N σ' H' → ∃ m', m' < m ∧ W (i + 1) m' σ' H') ∧ ∀ x H', (Itl L.K a).yld i H x H' → TBx L C.fr t x σ H' fun σ2 H2 => TSs L C Wx b { D with nx := N, ct := N, bk := D.nx } σ2 H2) := by
  refine ⟨fun i m σ' H' => ∃ A' s', SR L H' σ' A' s' (.ref a :: τ) ∧ Pst H A H' A' [] ∧ Kp C.fr σ σ' ∧ FlOk L C Wx (forP C.fr t (exs C b) m i s') σ H A τ D, ⟨k, A1, s1, S1, P1, Kp.refl _, q⟩, ?_⟩
  rintro i m σ2 H2 ⟨A2, s2, S2, P2, K2, q2⟩
  have stop : ∀ {pm : Pth × List M}, topL s2 = some pm → pm.2[i]? = none → FlOk L C Wx (popT s2) σ H A τ D → (Itl L.K a).stop i H2 ∧ D.nx σ2 H2 := fun {pm} e1 e2 q3 => by
    obtain ⟨o, ns, h1, h2, h3, h4⟩ := topL_ok S2 e1
    refine ⟨⟨vsOf ns, .inl (.inl h3), ?_⟩, ?_⟩
    · rw [List.getElem?_eq_none_iff, ← h2, ers_map, List.length_map] at e2
      simpa [vsOf] using e2
    · obtain ⟨t', e3, q4⟩ := fs_ok (show FlOk L C Wx (fs s2.tm.tail? fun t => .nx (s2.tms t)) σ H A τ D from q3)
      exact q4 σ2 H2 A2 (S2.tms e3) P2 K2
  cases m with
  | zero =>
    rw [forP] at q2
    obtain ⟨pm, e1, q3⟩ := fs_ok q2
    cases e2 : pm.2[i]? with
    | none => rw [e2] at q3; exact .inl (stop e1 e2 q3)
    | some m => rw [e2] at q3; exact q3.elim
  | succ m =>
    rw [forP] at q2
    obtain ⟨pm, e1, q3⟩ := fs_ok q2
    cases e2 : pm.2[i]? with
    | none => rw [e2] at q3; exact .inl (stop e1 e2 q3)
    | some m0 =>
      rw [e2] at q3
      right
      obtain ⟨s3, e3, q4⟩ := fs_ok q3
      obtain ⟨o, ns, h1, h2, h3, h4⟩ := topL_ok S2 e1
      rw [← h2, ers_get, Option.map_eq_some_iff] at e2
      obtain ⟨n, en, rfl⟩ := e2
      have ev : (vsOf ns)[i]? = some n.v := by simp [vsOf, en]
      refine ⟨⟨vsOf ns, n.v, .inl (.inl h3), ev⟩, fun σ' H' => ∃ A' s', SR L H' σ' A' s' (.ref a :: τ) ∧ Pst H A H' A' [] ∧ Kp C.fr σ σ' ∧ FlOk L C Wx (forP C.fr t (exs C b) m (i + 1) s') σ H A τ D, fun σ' H' h => ⟨m, Nat.lt_succ_self _, h⟩, fun x H3 yl => ?_⟩
      obtain ⟨rfl, y2⟩ := yl
      have := y2 _ (.inl (.inl h3))
      rw [ev] at this
      cases this
      refine bindI_ok S2 P2 o h1 h4 en e3 fun σ4 A4 S4 P4 K4 => ⟨A4, s3, _, S4, ?_⟩
      have again : ∀ {s5 : St}, FlOk L C Wx (forP C.fr t (exs C b) m (i + 1) s5) σ H A τ D → ∀ σ' H' A', SR L H' σ' A' s5 (.ref a :: τ) → Pst H3 A4 H' A' [] → Kp C.fr σ4 σ' →
        ∃ A' s', SR L H' σ' A' s' (.ref a :: τ) ∧ Pst H A H' A' [] ∧ Kp C.fr σ σ' ∧ FlOk L C Wx (forP C.fr t (exs C b) m (i + 1) s') σ H A τ D := fun {s5} q5 σ' H' A' S' P' K' => ⟨A', s5, S', P4.seq P', (K2.trans K4).trans K', q5⟩
      unfold Fl.lp at q4
      cases hb : exs C b s3 with
      | nx s5 => rw [hb] at q4; exact fun σ' H' A' S' P' K' => again q4 σ' H' A' S' P' K'
      | ct s5 => rw [hb] at q4; exact fun σ' H' A' S' P' K' => again q4 σ' H' A' S' P' K'
      | bk s5 =>
        rw [hb] at q4
        obtain ⟨t', e3, q6⟩ := fs_ok (show FlOk L C Wx (fs s5.tm.tail? fun t => .nx (s5.tms t)) σ H A τ D from q4)
        exact fun σ' H' A' S' P' K' => q6 σ' H' A' (S'.tms e3) (P4.seq P') ((K2.trans K4).trans K')
      | rt r s5 => rw [hb] at q4; exact fun v σ' H' A' y τ' S' P' K' R => (show FlOk L C Wx (.rt r s5) σ H A τ D from q4) v σ' H' A' y (τ' ++ [.ref a]) (by simpa using S') (P4.seq P') ((K2.trans K4).trans K') R
      | exc x s5 => rw [hb] at q4; exact fun cls d σ' H' A' τ' S' P' K' R => (show FlOk L C Wx (.exc x s5) σ H A τ D from q4) cls d σ' H' A' (τ' ++ [.ref a]) (by simpa using S') (P4.seq P') ((K2.trans K4).trans K') R
      | no => rw [hb] at q4; exact q4
theorem st_for {tg iter : Expr} {body : List Stmt} {t : Tn} {it : Vm.It} {b : Ss} {pos : Pos} (hK : X.K = L.K) (hp : PassesOwn (model X.prog X.w) X.A X.env X.xe) (hc : X.calm = true) (hi : PI X tg iter (TPl L C it)) (hg : PG X tg (TBx L C.fr t)) (hb : PSs X body (TSs L C Wx b))
    (hs : ∀ x, foldedSetIterable iter X.env x = pure x := by intro _; rfl) : PS X (.For tg iter body [] pos) (TSt L C Wx (.for t it b)) :=
  PS.mono (ps_for hp hc hi hg hb hs) fun D σ H ⟨A, s, τ, S, q⟩ => by
    rw [ex] at q
    obtain ⟨p, s1, e1, q⟩ := fl_ok q
    refine ⟨A, s, τ, p, s1, S, e1, fun H1 A1 J F S1 P1 K1 => ?_⟩
    cases p with
    | ms ms =>
      obtain ⟨ys, Z, rfl, rfl, h1, h2⟩ := K1
      exact for_ms S1 P1 h1 h2 q
    | pt p =>
      obtain ⟨rfl, o, a, hl, rfl⟩ := K1
      exact for_pt (S1.push o hl) P1 q
end
end Vm
end
section
namespace Vm
open PySem L2
section
variable {α : Type}
theorem hideN_len : ∀ (own : List Nat) (l : List (Option α)), (hideN own l).length = l.length
  | [], _ => rfl
  | i :: is, l => by rw [hideN, hideN_len is, List.length_set]
theorem hideN_out {j : Nat} : ∀ {own : List Nat} {l : List (Option α)}, j ∉ own → (hideN own l)[j]? = l[j]?
  | [], _, _ => rfl
  | i :: is, l, h => by
    simp only [List.mem_cons, not_or] at h
    rw [hideN, hideN_out h.2, List.getElem?_set_ne (Ne.symm h.1)]
theorem set_hide {i : Nat} : ∀ (own : List Nat) (l : List (Option α)), hideN own (l.set i none) = (hideN own l).set i none
  | [], _ => rfl
  | j :: is, l => by
    rw [hideN, hideN, ← set_hide is]
    by_cases h : i = j
    · subst h; rw [List.set_set]
    · rw [List.set_comm _ _ h]
theorem hideN_in {j : Nat} {x : α} : ∀ {own : List Nat} {l : List (Option α)}, (hideN own l)[j]? = some (some x) → j ∉ own
  | [], _, _ => by simp
  | i :: is, l, h => by
    rw [hideN, set_hide] at h
    have h1 : j ≠ i := fun e => by
      subst e
      by_cases hl : j < (hideN is l).length
      · rw [List.getElem?_set_self hl] at h; cases h
      · rw [List.getElem?_eq_none (by rw [List.length_set]; omega)] at h; cases h
    rw [List.getElem?_set_ne (Ne.symm h1)] at h
    simp only [List.mem_cons, not_or]
    exact ⟨h1, hideN_in h⟩
theorem showN_len (old : List (Option α)) : ∀ (own : List Nat) (l : List (Option α)), (showN old own l).length = l.length
  | [], _ => rfl
  | i :: is, l => by rw [showN, showN_len old is, List.length_set]
theorem showN_out {old : List (Option α)} {j : Nat} : ∀ {own : List Nat} {l : List (Option α)}, j ∉ own → (showN old own l)[j]? = l[j]?
  | [], _, _ => rfl
  | i :: is, l, h => by
    simp only [List.mem_cons, not_or] at h
    rw [showN, showN_out h.2, List.getElem?_set_ne (Ne.symm h.1)]
theorem showN_in {old : List (Option α)} {j : Nat} : ∀ {own : List Nat} {l : List (Option α)}, j ∈ own → j < l.length → (showN old own l)[j]? = some (joinO old[j]?)
  | i :: is, l, h, hl => by
    rw [showN]
    by_cases q : j ∈ is
    · exact showN_in q (by rw [List.length_set]; exact hl)
    · rw [showN_out q]
      rcases List.mem_cons.mp h with e | e
      · subst e; rw [List.getElem?_set_self hl]
      · exact absurd e q
theorem map_hide {β : Type} (f : α → β) : ∀ (own : List Nat) (l : List (Option α)), (hideN own l).map (Option.map f) = hideN own (l.map (Option.map f))
  | [], _ => rfl
  | i :: is, l => by rw [hideN, hideN, map_hide f is, List.map_set]; rfl
end
theorem wipe_hide (σ : L2.St) : ∀ vs : List Nat, wipe σ vs = hideN vs σ
  | [] => rfl
  | v :: vs => by rw [wipe, hideN, set_hide, wipe_hide σ vs]
theorem adr_hide : ∀ (own : List Nat) (A : SA), (adrS (hideN own A)).Sublist (adrS A)
  | [], _ => List.Sublist.refl _
  | i :: is, A => by
    rw [hideN]
    refine (adr_hide is _).trans ?_
    by_cases hi : i < A.length
    · obtain ⟨l, r, a1, a2⟩ := adrS_set (A := A) (i := i) (o := A[i]) (List.getElem?_eq_getElem hi)
      rw [a2, a1]
      simp only [adrO, List.append_nil]
      exact List.Sublist.append (List.sublist_append_left _ _) (List.Sublist.refl _)
    · rw [List.set_eq_of_length_le (by omega)]
      exact List.Sublist.refl _
theorem killR_own {own : List Nat} {j : Nat} {p : Pth} : ∀ {l : List (Nat × Pth)}, (j, p) ∈ dropRs own l → (j, p) ∈ l ∧ j ∉ own
  | [], h => by simp [dropRs] at h
  | x :: r, h => by
    simp only [dropRs] at h
    split at h
    · obtain ⟨h1, h2⟩ := killR_own h
      exact ⟨by simp [h1], h2⟩
    · rename_i q
      rcases List.mem_cons.mp h with e | h
      · subst e
        exact ⟨by simp, by simpa using q⟩
      · obtain ⟨h1, h2⟩ := killR_own h
        exact ⟨by simp [h1], h2⟩
section
variable {L : Lnk} {C : Ctx} {X : Cx}
theorem labS_out {A B : SA} {p : Pth} (h : B[p.1]? = A[p.1]?) : labS B p = labS A p := by
  unfold labS plA
  rw [h]
theorem hide_ok {H : Hp} {σ : L2.St} {A : SA} {s : St} {τ : List V} (S : SR L H σ A s τ) (own : List Nat) : SR L H (wipe σ own) (hideN own A) (hide own s) τ := by
  rw [wipe_hide]
  refine ⟨S.gl, ?_, by rw [hideN_len, hideN_len]; exact S.len, ?_, ?_, S.nd.sublist (adr_hide own A), ?_, ?_, ?_⟩
  · show hideN own s.sl = _
    rw [map_hide, S.er]
  · intro j m e
    have hj := hideN_in e
    rw [hideN_out hj] at e ⊢
    exact S.val j m e
  · intro j m e
    have hj := hideN_in e
    rw [hideN_out hj] at e
    exact S.hd j m e
  · intro j p e
    obtain ⟨e1, e2⟩ := killR_mem (f := inN own) e
    obtain ⟨e3, e4⟩ := killR_own e1
    obtain ⟨ok, v, e5, e6⟩ := S.rf j p e3
    refine ⟨ok, v, by rw [hideN_out e4]; exact e5, ?_⟩
    rw [labS_out (hideN_out (by simpa [inN] using e2))]; exact e6
  · show (killT _ s.tm).length = _
    rw [killT_len]; exact S.tl
  · intro k p e
    obtain ⟨e1, e2⟩ := killT_get (f := inN own) (l := s.tm) e
    obtain ⟨ok, v, e3, e4⟩ := S.tm k p e1
    refine ⟨ok, v, e3, ?_⟩
    rw [labS_out (hideN_out (by simpa [inN] using e2))]; exact e4
theorem hide_pst {H0 H : Hp} {A0 A : SA} {F : List Addr} (P : Pst H0 A0 H A F) (own : List Nat) : Pst H0 A0 H (hideN own A) F :=
  ⟨P.ext, fun b hb => P.new b (by
    rcases List.mem_append.mp hb with hb | hb
    · exact List.mem_append_left _ ((adr_hide own A).subset hb)
    · exact List.mem_append_right _ hb), P.nd.sublist (List.Sublist.append (adr_hide own A) (List.Sublist.refl _))⟩
theorem quiet_adr {H : Hp} {σ : L2.St} {A : SA} {s : St} {τ : List V} (S : SR L H σ A s τ) {own : List Nat} (h : quiet own s = true) {j : Nat} (hj : j ∈ own) {m : MA} (e : A[j]? = some (some m)) : m.adr = [] := by
  unfold quiet at h
  rw [List.all_eq_true] at h
  have := h j hj
  rw [S.sget, e] at this
  exact mut_er (by simpa [joinO] using this)
theorem adr_show {A : SA} : ∀ (own : List Nat) (B : SA), (∀ j ∈ own, adrO (joinO A[j]?) = []) → (adrS (showN A own B)).Sublist (adrS B)
  | [], _, _ => List.Sublist.refl _
  | i :: is, B, h => by
    rw [showN]
    refine (adr_show is _ fun j hj => h j (by simp [hj])).trans ?_
    by_cases hi : i < B.length
    · obtain ⟨l, r, a1, a2⟩ := adrS_set (A := B) (i := i) (o := B[i]) (List.getElem?_eq_getElem hi)
      rw [a2, a1, h i (by simp)]
      simp only [List.append_nil]
      exact List.Sublist.append (List.sublist_append_left _ _) (List.Sublist.refl _)
    · rw [List.set_eq_of_length_le (by omega)]
      exact List.Sublist.refl _
theorem unhide_ok {H1 H : Hp} {σ : L2.St} {A0 A : SA} {s0 s : St} {τ0 τ : List V} {own : List Nat} (S0 : SR L H1 σ A0 s0 τ0) (qu : quiet own s0 = true) (S : SR L H (wipe σ own) A s τ) (st : Stb H1 H) : SR L H σ (showN A0 own A) (unhide own s0 s) τ ∧ (adrS (showN A0 own A)).Sublist (adrS A) := by
  rw [wipe_hide] at S
  have hl : A.length = σ.length := by rw [S.len, hideN_len]
  have sub : (adrS (showN A0 own A)).Sublist (adrS A) := adr_show own A fun j hj => by
    cases e : joinO A0[j]? with
    | none => rfl
    | some m => exact quiet_adr S0 qu hj (joinO_some.mp e)
  have hin : ∀ {j : Nat} {m : MA}, j ∈ own → (showN A0 own A)[j]? = some (some m) → A0[j]? = some (some m) := fun {j m} hj e => by
    by_cases hlt : j < A.length
    · rw [showN_in hj hlt] at e
      exact joinO_some.mp (by simpa using e)
    · rw [List.getElem?_eq_none (by rw [showN_len]; omega)] at e; cases e
  refine ⟨⟨S.gl, ?_, by rw [showN_len]; exact hl, ?_, ?_, S.nd.sublist sub, ?_, ?_, ?_⟩, sub⟩
  · show showN s0.sl own s.sl = _
    apply List.ext_getElem?
    intro j
    by_cases hj : j ∈ own
    · by_cases hlt : j < A.length
      · rw [showN_in hj (by rw [S.er, List.length_map]; exact hlt), List.getElem?_map, showN_in hj hlt, S0.er, List.getElem?_map]
        cases A0[j]? with
        | none => rfl
        | some o => cases o <;> rfl
      · rw [List.getElem?_eq_none (by rw [showN_len, S.er, List.length_map]; omega), List.getElem?_eq_none (by rw [List.length_map, showN_len]; omega)]
    · rw [showN_out hj, List.getElem?_map, showN_out hj, S.er, List.getElem?_map]
  · intro j m e
    by_cases hj : j ∈ own
    · exact S0.val j m (hin hj e)
    · rw [showN_out hj] at e
      have := S.val j m e
      rw [hideN_out hj] at this; exact this
  · intro j m e
    by_cases hj : j ∈ own
    · have e' := hin hj e
      exact Hd.mono st (S0.hd j m e') fun b hb => by rw [quiet_adr S0 qu hj e'] at hb; simp at hb
    · rw [showN_out hj] at e
      exact S.hd j m e
  · intro j p e
    obtain ⟨e1, e2⟩ := killR_mem (f := inN own) e
    obtain ⟨e3, e4⟩ := killR_own e1
    obtain ⟨ok, v, e5, e6⟩ := S.rf j p e3
    refine ⟨ok, v, by rw [hideN_out e4] at e5; exact e5, ?_⟩
    rw [labS_out (showN_out (by simpa [inN] using e2))]; exact e6
  · show (killT _ s.tm).length = _
    rw [killT_len]; exact S.tl
  · intro k p e
    obtain ⟨e1, e2⟩ := killT_get (f := inN own) (l := s.tm) e
    obtain ⟨ok, v, e3, e4⟩ := S.tm k p e1
    refine ⟨ok, v, e3, ?_⟩
    rw [labS_out (showN_out (by simpa [inN] using e2))]; exact e4
theorem wipe_kp {own : List Nat} {σ σ' : L2.St} (K : Kp (ownF own) (wipe σ own) σ') : wipe σ' own = wipe σ own := by
  apply List.ext_getElem?
  intro j
  rw [wipe_hide, wipe_hide] at *
  have hl := K.1
  rw [hideN_len] at hl
  by_cases hj : j ∈ own
  · have none_at : ∀ l : L2.St, l.length = σ.length → (hideN own l)[j]? = if j < σ.length then some none else none := fun l h => by
      split
      · rename_i hlt
        cases e : (hideN own l)[j]? with
        | none => rw [List.getElem?_eq_none_iff, hideN_len] at e; omega
        | some o =>
          cases o with
          | none => rfl
          | some x => exact absurd hj (hideN_in e)
      · rw [List.getElem?_eq_none (by rw [hideN_len]; omega)]
    rw [none_at σ' hl, none_at σ rfl]
  · rw [hideN_out hj, hideN_out hj]
    have := K.2 j (by simpa [ownF] using hj)
    rw [hideN_out hj] at this
    exact this
def TCd (L : Lnk) (C : Ctx) (c : OE) : TT := fun σ H Q => ∃ A s τ k s', SR L H σ A s τ ∧ evc C c s = .ok k s' ∧ ∀ H' A', SR L H' σ A' s' τ → Pst H A H' A' [] → Q k H'
theorem c_none : PTs X [] (TCd L C .none) := ⟨fun pins s σ H Q I ⟨A, s1, τ, k, s', S, e, q⟩ => pts_nil.run pins s σ H Q I (by
  rw [evc] at e
  cases e
  exact q H A S (Pst.refl S.nd))⟩
def TEl (L : Lnk) (C : Ctx) (e : E) : TE := fun σ H Q => TEv L C e σ H fun v H1 => ∃ Y : List Addr, (∀ b ∈ Y, ∃ u, H1 b = some u ∧ Mut (some u)) ∧ Y.Nodup ∧ ∀ H2, Lockd Y H1 H2 → Q v H2
theorem s_el {ee : Expr} {e : E} (h : PE X ee (TEv L C e)) : PE X ee (TEl L C e) := pe_locks h
theorem Pst.updF {H0 H : Hp} {A0 A : SA} {F : List Addr} {b : Addr} {o : HO} (P : Pst H0 A0 H A F) (hb : b ∈ F) : Pst H0 A0 (upd H b o) A F := by
  refine ⟨fun c u e q => ?_, P.new, P.nd⟩
  rw [upd_ne fun z => ?_]
  · exact P.ext c u e q
  · subst z
    rcases P.new c (by simp [hb]) with h | h
    · exact q h
    · rw [e] at h; cases h
abbrev eltM (C : Ctx) (elt : E) : St → Res M := fun s => (ev C elt s).bd fun r s => sto r s
theorem lc_turn {own : List Nat} {cond : OE} {elt : E} {σ σ4 : L2.St} {H H3 : Hp} {A A4 : SA} {s3 sE : St} {τ : List V} {D : Addr} {zs : List MA} {R : List Addr} {ms' : List M} {K : St → List M → Res (List M)} {Nx : Hp → Prop}
    (S4 : SR L H3 σ4 A4 s3 τ) (P4 : Pst H A H3 A4 (D :: (adrs zs ++ R))) (tR : ∀ b ∈ R, ∃ u, H3 b = some u) (hD : H3 D = some (.lst (vsOf zs))) (hz : HdL L H3 zs) (hl : zs.length < sizeLine) (hw : wipe σ4 own = wipe σ own)
    (e : ((evc C cond s3).bd fun c s => match c with | true => (eltM C elt s).bd fun m s => K (hide own s) (ers zs ++ [m]) | false => K (hide own s) (ers zs)) = .ok ms' sE)
    (nx : ∀ H' A' s' zs', SR L H' (wipe σ own) A' s' τ → Pst H A H' A' (D :: (adrs zs' ++ R)) → H' D = some (.lst (vsOf zs')) → HdL L H' zs' → zs'.length ≤ zs.length + 1 → (∀ b ∈ R, H' b = H3 b) → Stb H3 H' → K s' (ers zs') = .ok ms' sE → Nx H') :
    TCd L C cond σ4 H3 fun b H5 => if b = true then TEl L C elt σ4 H5 fun y H6 => ∃ acc, H6 D = some (.lst acc) ∧ acc.length < sizeLine ∧ Nx (upd H6 D (.lst (acc ++ [y]))) else Nx H5 := by
  obtain ⟨k, s5, e1, e2⟩ := bd_ok e
  have tG : ∀ b ∈ D :: (adrs zs ++ R), ∃ u, H3 b = some u := fun b hb => by
    simp only [List.mem_cons, List.mem_append] at hb
    rcases hb with rfl | hb | hb
    · exact ⟨_, hD⟩
    · obtain ⟨u, q, _⟩ := HdL.mut hz b hb; exact ⟨u, q⟩
    · exact tR b hb
  refine ⟨A4, s3, τ, k, s5, S4, e1, fun H5 A5 S5 P5 => ?_⟩
  have P45 : Pst H A H5 A5 (D :: (adrs zs ++ R)) := by simpa using P4.trans P5 tG
  have k5 : ∀ b ∈ D :: (adrs zs ++ R), H5 b = H3 b := fun b hb => by
    obtain ⟨u, q⟩ := tG b hb
    rw [P5.ext b u q fun h => nd_left P4.nd h hb, q]
  have st5 := P5.stb S4
  have hz5 : HdL L H5 zs := HdL.mono st5 hz fun b hb => k5 b (by simp [hb])
  cases k with
  | false =>
    simp only [Bool.false_eq_true, if_false]
    exact nx H5 _ _ zs (hw ▸ hide_ok S5 own) (hide_pst P45 own) ((k5 D (by simp)).trans hD) hz5 (Nat.le_succ _) (fun b hb => k5 b (by simp [hb])) st5 e2
  | true =>
    simp only [if_true]
    obtain ⟨m, s7, e3, e4⟩ := bd_ok (show ((eltM C elt s5).bd fun m s => K (hide own s) (ers zs ++ [m])) = .ok ms' sE from e2)
    obtain ⟨r, s6, e5, e6⟩ := bd_ok e3
    refine ⟨A5, s5, τ, r, s6, S5, e5, fun v H6 A6 yo S6 P6 K6 => ?_⟩
    have tG5 : ∀ b ∈ D :: (adrs zs ++ R), ∃ u, H5 b = some u := fun b hb => by
      obtain ⟨u, q⟩ := tG b hb
      exact ⟨u, (k5 b hb).trans q⟩
    have P46 : Pst H A H6 A6 ((D :: (adrs zs ++ R)) ++ adrO yo) := P45.trans P6 tG5
    have k6 : ∀ b ∈ D :: (adrs zs ++ R), H6 b = H5 b := fun b hb => by
      obtain ⟨u, q⟩ := tG5 b hb
      rw [P6.ext b u q fun h => nd_left P45.nd h hb, q]
    obtain ⟨Y, hm, nd, hA, k⟩ := sto_ok S6 P46 (fun b hb => by
      obtain ⟨u, q⟩ := tG5 b hb
      exact ⟨u, (k6 b hb).trans q⟩) K6 e6
    refine ⟨Y, hm, nd, fun H7 l => ?_⟩
    obtain ⟨A7, z, S7, P7, z1, z2, z3⟩ := k H7 l
    have k7 : ∀ b ∈ D :: (adrs zs ++ R), H7 b = H6 b := fun b hb => l.1 b fun h => nd_left P46.nd (hA b h) (by
      rw [List.mem_append]; exact .inl hb)
    have st7 : Stb H3 H7 := (st5.trans (P6.stb S5)).trans (l.stb hm)
    have hD7 : H7 D = some (.lst (vsOf zs)) := by rw [k7 D (by simp), k6 D (by simp), k5 D (by simp)]; exact hD
    have hz7 : HdL L H7 zs := HdL.mono st7 hz fun b hb => by rw [k7 b (by simp [hb]), k6 b (by simp [hb]), k5 b (by simp [hb])]
    refine ⟨vsOf zs, hD7, by simpa [vsOf] using hl, ?_⟩
    have mu : ∃ u, H7 D = some u ∧ Mut (some u) := ⟨_, hD7, True.intro⟩
    have stU := upd_stb' (o := .lst (vsOf zs ++ [v])) mu
    have nA : D ∉ adrS A7 := fun h => nd_left P7.nd h (by simp)
    have nzz : D ∉ adrs zs ++ R ++ z.adr := by
      have t := (List.nodup_append.mp P7.nd).2.1
      rw [List.cons_append] at t
      exact (List.nodup_cons.mp t).1
    simp only [List.mem_append, not_or] at nzz
    have S8 := S7.heap (H' := upd H7 D (.lst (vsOf zs ++ [v]))) stU fun b hb => upd_ne fun q => nA (q ▸ hb)
    have P8 := P7.updF (b := D) (o := .lst (vsOf zs ++ [v])) (by simp)
    have ev : vsOf (zs ++ [z]) = vsOf zs ++ [v] := by simp [vsOf, z2]
    refine nx _ _ _ (zs ++ [z]) (hw ▸ hide_ok S8 own) (hide_pst (P8.less (fun b hb => ?_) ?_) own) (by rw [upd_same, ev]) ?_ (by simp) (fun b hb => ?_) (st7.trans stU) (by rw [ers_append]; simp only [ers]; rw [z1]; exact e4)
    · simp only [adrs_append, adrs, List.append_nil, List.mem_cons, List.mem_append] at hb ⊢
      rcases hb with hb | (hb | hb) | hb
      · exact .inl (.inl hb)
      · exact .inl (.inr (.inl hb))
      · exact .inr hb
      · exact .inl (.inr (.inr hb))
    · have t := P8.fnd
      have pm : ((D :: (adrs zs ++ R)) ++ z.adr).Perm (D :: (adrs (zs ++ [z]) ++ R)) := by
        rw [adrs_append]
        simp only [adrs, List.append_nil, List.cons_append, List.append_assoc]
        exact List.Perm.cons _ (List.Perm.append_left _ List.perm_append_comm)
      exact pm.nodup_iff.mp t
    · refine HdL.append (HdL.mono stU hz7 fun b hb => upd_ne fun q => nzz.1.1 (q ▸ hb)) ⟨Hd.mono stU z3 fun b hb => upd_ne fun q => nzz.2 (q ▸ hb), trivial⟩
    · rw [upd_ne (fun (q : b = D) => nzz.1.2 (q ▸ hb)), k7 b (by simp [hb]), k6 b (by simp [hb]), k5 b (by simp [hb])]
end
end Vm
end
section
namespace Vm
open PySem L2
section
variable {L : Lnk} {C : Ctx} {X : Cx} {Wx : WX}
theorem lc_ms {own : List Nat} {t : Tn} {cond : OE} {elt : E} {σ : L2.St} {H H1 : Hp} {A A1 : SA} {s1 sE : St} {τ : List V} {J : L2.It} {ys : List MA} {Z : List Addr} {ms' : List M} {D : Addr} {Qd : Hp → Prop}
    (S1 : SR L H1 σ A1 s1 τ) (P1 : Pst H A H1 A1 (Z ++ adrs ys)) (hF : ∀ b ∈ Z ++ adrs ys, ∃ u, H1 b = some u) (ok : ItOk L H1 J Z ys) (hD : H1 D = none) (hl : ys.length ≤ sizeLine)
    (e : lcM own t (fun s => evc C cond s) (eltM C elt) (ers ys) (hide own s1) [] = .ok ms' sE)
    (q : ∀ H' A' zs, SR L H' (wipe σ own) A' sE τ → Pst H A H' A' (D :: adrs zs) → H' D = some (.lst (vsOf zs)) → HdL L H' zs → Stb H1 H' → ms' = ers zs → Qd H') :
    ∃ W : Nat → Nat → Hp → Prop, (∃ m, W 0 m (upd H1 D (.lst []))) ∧ ∀ i m H, W i m H →
      (J.stop i H ∧ Qd H) ∨ (J.go i H ∧ ∃ Nx : Hp → Prop, (∀ H', Nx H' → ∃ m', m' < m ∧ W (i + 1) m' H') ∧ ∀ x H', J.yld i H x H' → TBx L (ownF own) t x (wipe σ own) H' fun σ2 H2 => wipe σ2 own = wipe σ own ∧ TCd L C cond σ2 H2 fun b H3 =>
        if b = true then TEl L C elt σ2 H3 fun y H4 => ∃ acc, H4 D = some (.lst acc) ∧ acc.length < sizeLine ∧ Nx (upd H4 D (.lst (acc ++ [y]))) else Nx H3) := by
  have st0 : Stb H1 (upd H1 D (.lst [])) := upd_stb hD _
  have k0 : ∀ b ∈ Z ++ adrs ys, upd H1 D (.lst []) b = H1 b := fun b hb => upd_le hD _ (hF b hb)
  refine ⟨fun i m H' => m = ys.length - i ∧ i ≤ ys.length ∧ ∃ A' s' zs, SR L H' (wipe σ own) A' s' τ ∧ Pst H A H' A' (D :: (adrs zs ++ (Z ++ adrs (ys.drop i)))) ∧ H' D = some (.lst (vsOf zs)) ∧ HdL L H' zs ∧ zs.length ≤ i ∧ (∀ b ∈ Z ++ adrs (ys.drop i), H' b = H1 b) ∧ Stb H1 H' ∧ lcM own t (fun s => evc C cond s) (eltM C elt) (ers (ys.drop i)) s' (ers zs) = .ok ms' sE,
    ⟨ys.length, by simp, Nat.zero_le _, _, _, [], hide_ok (S1.new hD _) own, hide_pst (by simpa [adrs] using P1.newO S1 hF hD (.lst [])) own, upd_same, trivial, Nat.le_refl _, by simpa using k0, st0, by simpa [ers] using e⟩, ?_⟩
  rintro i m H2 ⟨rfl, hi, A2, s2, zs, S2, P2, hD2, hz2, lz, F2, st2, e2⟩
  obtain ⟨k1, k2⟩ := ok H2 st2 fun b hb => F2 b (by simp [hb])
  by_cases hlt : i < ys.length
  · right
    have e0 : ys = ys.take i ++ ys.drop i := (List.take_append_drop i ys).symm
    have inF : ∀ b ∈ Z ++ adrs (ys.drop i), ∃ u, H1 b = some u := fun b hb => hF b (by
      rw [List.mem_append] at hb ⊢
      refine hb.imp id fun hb => ?_
      rw [e0, adrs_append]; exact List.mem_append_right _ hb)
    rw [List.drop_eq_getElem_cons hlt] at P2 F2 e2 inF
    generalize hy : ys[i] = y at P2 F2 e2 inF
    have ey : ys[i]? = some y := by rw [List.getElem?_eq_getElem hlt, hy]
    generalize hr : ys.drop (i + 1) = rest at P2 F2 e2 inF
    obtain ⟨g1, g2⟩ := k2 i y ey fun b hb => F2 b (by simp [adrs, hb])
    simp only [ers, lcM] at e2
    obtain ⟨s3, e3, e4⟩ := rs_ok e2
    refine ⟨g1, fun H' => ∃ A' s' zs, SR L H' (wipe σ own) A' s' τ ∧ Pst H A H' A' (D :: (adrs zs ++ (Z ++ adrs rest))) ∧ H' D = some (.lst (vsOf zs)) ∧ HdL L H' zs ∧ zs.length ≤ i + 1 ∧ (∀ b ∈ Z ++ adrs rest, H' b = H1 b) ∧ Stb H1 H' ∧ lcM own t (fun s => evc C cond s) (eltM C elt) (ers rest) s' (ers zs) = .ok ms' sE,
      fun H' h => ⟨ys.length - (i + 1), by omega, rfl, hlt, by rw [hr]; exact h⟩, fun x H3 yl => ?_⟩
    obtain ⟨gr, z, z1, z2, z3, z4⟩ := g2 x H3 yl
    left
    have S3 := S2.grow gr
    have P3 := P2.grow gr
    have hF3 : ∀ b ∈ Z ++ adrs (y :: rest), H3 b = H1 b := fun b hb => by
      obtain ⟨u, e⟩ := inF b hb
      rw [gr b u ((F2 b hb).trans e), e]
    have hz3 : HdL L H3 zs := HdL.mono (grow_stb gr) hz2 fun b hb => by
      obtain ⟨u, e, _⟩ := HdL.mut hz2 b hb
      rw [gr b u e, e]
    have hD3 : H3 D = some (.lst (vsOf zs)) := gr _ _ hD2
    have pm : (D :: (adrs zs ++ (Z ++ adrs (y :: rest)))).Perm (z.adr ++ (D :: (adrs zs ++ (Z ++ adrs rest)))) := by
      rw [z2]
      simp only [adrs]
      have h1 : D :: (adrs zs ++ (Z ++ (y.adr ++ adrs rest))) = (D :: (adrs zs ++ Z)) ++ (y.adr ++ adrs rest) := by simp
      have h2 : y.adr ++ (D :: (adrs zs ++ (Z ++ adrs rest))) = (y.adr ++ (D :: (adrs zs ++ Z))) ++ adrs rest := by simp
      rw [h1, h2, ← List.append_assoc]
      exact List.Perm.append_right _ List.perm_append_comm
    refine ⟨A2, s2, τ, z, H, A, _, D :: (adrs zs ++ (Z ++ adrs rest)), s3, S3, P3, fun b hb => pm.mem_iff.mpr hb, pm.nodup_iff.mp P3.fnd, z3, z4, by rw [z1]; exact e3, fun σ4 A4 S4 P4 K4 => ⟨wipe_kp K4, ?_⟩⟩
    have tR : ∀ b ∈ Z ++ adrs rest, H3 b = H1 b := fun b hb => hF3 b (by
      simp only [adrs, List.mem_append] at hb ⊢
      exact hb.imp id .inr)
    refine lc_turn (K := fun s acc => lcM own t (fun s => evc C cond s) (eltM C elt) (ers rest) s acc) S4 P4 (fun b hb => by
      obtain ⟨u, e⟩ := inF b (by
        simp only [adrs, List.mem_append] at hb ⊢
        exact hb.imp id .inr)
      exact ⟨u, (tR b hb).trans e⟩) hD3 hz3 (by omega) (wipe_kp K4) e4 fun H' A' s' zs' S' P' d' h' l' f' st' e' => ⟨A', s', zs', S', P', d', h', by omega, fun b hb => (f' b hb).trans (tR b hb), (st2.trans (grow_stb gr)).trans st', e'⟩
  · left
    have e : i = ys.length := by omega
    subst e
    rw [List.drop_length] at e2 P2
    simp only [ers, lcM] at e2
    cases e2
    refine ⟨k1, q H2 A2 zs S2 (P2.less (fun b hb => ?_) ?_) hD2 hz2 st2 rfl⟩
    · simp only [List.mem_cons, List.mem_append] at hb ⊢
      exact hb.imp id .inl
    · have t := P2.fnd
      rw [← List.cons_append] at t
      exact (List.nodup_append.mp t).1
theorem lc_pt {own : List Nat} {t : Tn} {cond : OE} {elt : E} {σ : L2.St} {H H1 : Hp} {A A1 : SA} {s1 sE : St} {τ : List V} {a : Addr} {k : Nat} {ms' : List M} {D : Addr} {Qd : Hp → Prop}
    (S1 : SR L H1 σ A1 s1 (.ref a :: τ)) (P1 : Pst H A H1 A1 []) (hD : H1 D = none) (hl : k ≤ sizeLine)
    (e : lcP own t (fun s => evc C cond s) (eltM C elt) k 0 (hide own s1) [] = .ok ms' sE)
    (q : ∀ H' A' zs, SR L H' (wipe σ own) A' sE τ → Pst H A H' A' (D :: adrs zs) → H' D = some (.lst (vsOf zs)) → HdL L H' zs → Stb H1 H' → ms' = ers zs → Qd H') :
    ∃ W : Nat → Nat → Hp → Prop, (∃ m, W 0 m (upd H1 D (.lst []))) ∧ ∀ i m H, W i m H →
      ((Itl L.K a).stop i H ∧ Qd H) ∨ ((Itl L.K a).go i H ∧ ∃ Nx : Hp → Prop, (∀ H', Nx H' → ∃ m', m' < m ∧ W (i + 1) m' H') ∧ ∀ x H', (Itl L.K a).yld i H x H' → TBx L (ownF own) t x (wipe σ own) H' fun σ2 H2 => wipe σ2 own = wipe σ own ∧ TCd L C cond σ2 H2 fun b H3 =>
        if b = true then TEl L C elt σ2 H3 fun y H4 => ∃ acc, H4 D = some (.lst acc) ∧ acc.length < sizeLine ∧ Nx (upd H4 D (.lst (acc ++ [y]))) else Nx H3) := by
  have st0 : Stb H1 (upd H1 D (.lst [])) := upd_stb hD _
  refine ⟨fun i m H' => i + m = k ∧ ∃ A' s' zs, SR L H' (wipe σ own) A' s' (.ref a :: τ) ∧ Pst H A H' A' (D :: (adrs zs ++ [])) ∧ H' D = some (.lst (vsOf zs)) ∧ HdL L H' zs ∧ zs.length ≤ i ∧ Stb H1 H' ∧ lcP own t (fun s => evc C cond s) (eltM C elt) m i s' (ers zs) = .ok ms' sE,
    ⟨k, by simp, _, _, [], hide_ok (S1.new hD _) own, hide_pst (by simpa [adrs] using P1.newO S1 (fun b hb => by simp at hb) hD (.lst [])) own, upd_same, trivial, Nat.le_refl _, st0, by simpa [ers] using e⟩, ?_⟩
  rintro i m H2 ⟨him, A2, s2, zs, S2, P2, hD2, hz2, lz, st2, e2⟩
  have stop : ∀ {pm : Pth × List M}, topL s2 = some pm → pm.2[i]? = none → (rs s2.tm.tail? fun t => Res.ok (ers zs) (s2.tms t)) = .ok ms' sE → (Itl L.K a).stop i H2 ∧ Qd H2 := fun {pm} e1 e2 q3 => by
    obtain ⟨o, ns, h1, h2, h3, h4⟩ := topL_ok S2 e1
    refine ⟨⟨vsOf ns, .inl (.inl h3), ?_⟩, ?_⟩
    · rw [List.getElem?_eq_none_iff, ← h2, ers_map, List.length_map] at e2
      simpa [vsOf] using e2
    · obtain ⟨t', e3, q4⟩ := rs_ok q3
      cases q4
      exact q H2 A2 zs (S2.tms e3) (by simpa using P2) hD2 hz2 st2 rfl
  cases m with
  | zero =>
    rw [lcP] at e2
    obtain ⟨pm, e1, q3⟩ := rs_ok e2
    cases e2 : pm.2[i]? with
    | none => rw [e2] at q3; exact .inl (stop e1 e2 q3)
    | some m => rw [e2] at q3; cases q3
  | succ m =>
    rw [lcP] at e2
    obtain ⟨pm, e1, q3⟩ := rs_ok e2
    cases e2 : pm.2[i]? with
    | none => rw [e2] at q3; exact .inl (stop e1 e2 q3)
    | some m0 =>
      rw [e2] at q3
      right
      obtain ⟨s3, e3, e4⟩ := rs_ok q3
      obtain ⟨o, ns, h1, h2, h3, h4⟩ := topL_ok S2 e1
      rw [← h2, ers_get, Option.map_eq_some_iff] at e2
      obtain ⟨n, en, rfl⟩ := e2
      have ev : (vsOf ns)[i]? = some n.v := by simp [vsOf, en]
      refine ⟨⟨vsOf ns, n.v, .inl (.inl h3), ev⟩, fun H' => ∃ A' s' zs, SR L H' (wipe σ own) A' s' (.ref a :: τ) ∧ Pst H A H' A' (D :: (adrs zs ++ [])) ∧ H' D = some (.lst (vsOf zs)) ∧ HdL L H' zs ∧ zs.length ≤ i + 1 ∧ Stb H1 H' ∧ lcP own t (fun s => evc C cond s) (eltM C elt) m (i + 1) s' (ers zs) = .ok ms' sE,
        fun H' h => ⟨m, Nat.lt_succ_self _, by omega, h⟩, fun x H3 yl => ?_⟩
      obtain ⟨rfl, y2⟩ := yl
      have := y2 _ (.inl (.inl h3))
      rw [ev] at this
      cases this
      refine bindI_ok S2 P2 o h1 h4 en e3 fun σ4 A4 S4 P4 K4 => ⟨wipe_kp K4, ?_⟩
      exact lc_turn (K := fun s acc => lcP own t (fun s => evc C cond s) (eltM C elt) m (i + 1) s acc) S4 P4 (fun b hb => by simp at hb) hD2 hz2 (by omega) (wipe_kp K4) e4 fun H' A' s' zs' S' P' d' h' l' f' st' e' => ⟨A', s', zs', S', P', d', h', by omega, st2.trans st', e'⟩
theorem lc_red {own : List Nat} {t : Tn} {it : Vm.It} {cond : OE} {elt : E} {σ : L2.St} {H : Hp} {Q : VK} (h : TEv L C (.lc elt t it cond own) σ H Q) : tLc (TPl L C it) (TBx L (ownF own) t) (TCd L C cond) (TEl L C elt) own σ H Q := by
  obtain ⟨A, s, τ, r, s', S, e0, q⟩ := h
  rw [ev] at e0
  obtain ⟨p, s1, e1, e2⟩ := bd_ok e0
  obtain ⟨qu, e3⟩ := rif_ok e2
  obtain ⟨ms', sE, e4, e5⟩ := bd_ok e3
  cases e5
  refine ⟨A, s, τ, p, s1, S, e1, fun H1 A1 J F S1 P1 K1 D hD => ?_⟩
  have line_eq : line = sizeLine := sizeLine_eq.symm
  have fin : ∀ H' A' zs, SR L H' (wipe σ own) A' sE τ → Pst H A H' A' (D :: adrs zs) → H' D = some (.lst (vsOf zs)) → HdL L H' zs → Stb H1 H' → ms' = ers zs → Q (.ref D) H' := fun H' A' zs S' P' d' h' st' e' => by
    subst e'
    obtain ⟨S2, sub⟩ := unhide_ok S1 qu S' st'
    refine q (.ref D) H' _ (some (.lst D zs)) S2 ?_ ⟨rfl, rfl, d', h'⟩
    exact ⟨P'.ext, fun b hb => P'.new b (by
      rcases List.mem_append.mp hb with hb | hb
      · exact List.mem_append_left _ (sub.subset hb)
      · exact List.mem_append_right _ hb), P'.nd.sublist (List.Sublist.append sub (List.Sublist.refl _))⟩
  cases p with
  | ms ms =>
    obtain ⟨ys, Z, rfl, rfl, h1, h2⟩ := K1
    obtain ⟨c, e6⟩ := rif_ok (show rif (decide ((ers ys).length ≤ line)) (lcM own t (fun s => evc C cond s) (eltM C elt) (ers ys) (hide own s1) []) = .ok ms' sE from e4)
    exact lc_ms S1 P1 h1 h2 hD (by rw [ers_map, List.length_map, line_eq] at c; exact of_decide_eq_true c) e6 fin
  | pt p =>
    obtain ⟨rfl, o, a, hl, rfl⟩ := K1
    obtain ⟨c, e6⟩ := rif_ok (show rif (decide (lenP s1 p ≤ line)) (lcP own t (fun s => evc C cond s) (eltM C elt) (lenP s1 p) 0 (hide own (s1.push p)) []) = .ok ms' sE from e4)
    exact lc_pt (S1.push o hl) P1 hD (by rw [line_eq] at c; exact of_decide_eq_true c) e6 fin
variable {elt tg iter : Expr} {ifs : List Expr} {scope : Scope} {own : List (Str × Nat)} {ns : List Nat} {pos : Pos} {t : Tn} {it : Vm.It} {cond : OE} {e : E}
theorem s_lc (hc : X.calm = true) (hN : X.N.Nodup) (hi : PI X tg iter (TPl L C it)) (ok : BlkOk X.N X.env.scope scope own) (hn : ns = own.map (·.2))
    (hg : ∀ (s : Shared) (H : Hp) (Cc : Addr) (cl : List (Str × Addr)) (fp : List Addr), PG (X.blk s H scope (compEnvC scope cl Cc X.env) fp) tg (TBx L (ownF ns) t)) (ht : ∀ (s : Shared) (H : Hp) (Cc : Addr) (cl : List (Str × Addr)) (fp : List Addr), PTs (X.blk s H scope (compEnvC scope cl Cc X.env) fp) ifs (TCd L C cond))
    (he : ∀ (s : Shared) (H : Hp) (Cc : Addr) (cl : List (Str × Addr)) (fp : List Addr), PE (X.blk s H scope (compEnvC scope cl Cc X.env) fp) elt (TEv L C e)) (hs : ∀ x, foldedSetIterable iter X.env x = pure x := by intro _; rfl) :
    PE X (.ListComp elt [⟨tg, iter, ifs, 0⟩] scope pos) (TEv L C (.lc e t it cond ns)) := by
  subst hn
  exact PE.mono (pe_lc hc hN hi ok hg ht (fun s H Cc cl fp => s_el (he s H Cc cl fp)) hs) fun σ H Q h => lc_red h
end
end Vm
end
section
namespace Vm
open PySem L2
theorem nodup_count {l : List Addr} : l.Nodup ↔ ∀ b, l.count b ≤ 1 := by
  induction l with
  | nil => simp
  | cons a l ih =>
    rw [List.nodup_cons, ih]
    constructor
    · rintro ⟨h1, h2⟩ b
      by_cases q : a = b
      · subst q; rw [List.count_cons_self, List.count_eq_zero_of_not_mem h1]; omega
      · rw [List.count_cons_of_ne q]; exact h2 b
    · intro h
      refine ⟨fun m => ?_, fun b => ?_⟩
      · have := h a
        rw [List.count_cons_self] at this
        have := List.count_pos_iff.mpr m
        omega
      · have := h b
        rw [List.count_cons] at this
        omega
def roots : List Rv → List Nat
  | [] => []
  | .v _ :: r => roots r
  | .p p :: r => p.1 :: roots r
theorem apR_roots {i : Nat} : ∀ {rv : List Rv}, apR i rv = true → i ∉ roots rv
  | [], _ => by simp [roots]
  | .v _ :: r, h => apR_roots (rv := r) h
  | .p p :: r, h => by
    simp only [apR, Bool.and_eq_true, Bool.not_eq_true', beq_eq_false_iff_ne, ne_eq] at h
    simp only [roots, List.mem_cons, not_or]
    exact ⟨fun e => h.1 e.symm, apR_roots h.2⟩
section
variable {L : Lnk} {C : Ctx} {X : Cx}
inductive ArgOk (A : SA) : List Rv → List (Option MA) → List MA → Prop
  | nil : ArgOk A [] [] []
  | v {m : M} {n : MA} {rv : List Rv} {yo : List (Option MA)} {ys : List MA} : ArgOk A rv yo ys → ArgOk A (.v m :: rv) (some n :: yo) (n :: ys)
  | p {p : Pth} {x : MA} {rv : List Rv} {yo : List (Option MA)} {ys : List MA} : okP p.2 → plA A p = some x → ArgOk A rv yo ys → ArgOk A (.p p :: rv) (none :: yo) (x :: ys)
def pls : List Rv → List MA → List MA
  | .p _ :: rv, m :: ms => m :: pls rv ms
  | .v _ :: rv, _ :: ms => pls rv ms
  | _, _ => []
theorem pls_sub : ∀ (rv : List Rv) (ms : List MA), ∀ b ∈ adrs (pls rv ms), b ∈ adrs ms
  | .p _ :: rv, m :: ms, b, hb => by
    simp only [pls, adrs, List.mem_append] at hb ⊢
    exact hb.imp id (pls_sub rv ms b)
  | .v _ :: rv, m :: ms, b, hb => by
    simp only [adrs, List.mem_append]
    exact .inr (pls_sub rv ms b hb)
  | [], _, b, hb => by simp [pls, adrs] at hb
  | .p _ :: _, [], b, hb => by simp [pls, adrs] at hb
  | .v _ :: _, [], b, hb => by simp [pls, adrs] at hb
theorem pls_cnt : ∀ (rv : List Rv) (ms : List MA) (b : Addr), (adrs (pls rv ms)).count b ≤ (adrs ms).count b
  | .p _ :: rv, m :: ms, b => by
    simp only [pls, adrs, List.count_append]
    have := pls_cnt rv ms b
    omega
  | .v _ :: rv, m :: ms, b => by
    simp only [pls, adrs, List.count_append]
    have := pls_cnt rv ms b
    omega
  | [], _, b => by simp [pls, adrs]
  | .p _ :: _, [], b => by simp [pls, adrs]
  | .v _ :: _, [], b => by simp [pls, adrs]
theorem args_ok {H : Hp} {σ : L2.St} {A : SA} {s : St} {τ : List V} (S : SR L H σ A s τ) : ∀ {rv : List Rv} {yo : List (Option MA)} {vs : List V} {ms : List M}, RvsOk L H A rv yo vs → vals s rv = some ms → ∃ ys, ArgOk A rv yo ys ∧ vsOf ys = vs ∧ ers ys = ms ∧ HdL L H ys
  | [], yo, vs, ms, h, e => by
    obtain ⟨rfl, rfl⟩ := h.nil_inv
    simp [vals] at e
    subst e
    exact ⟨[], .nil, rfl, rfl, trivial⟩
  | r :: rv, yo, vs, ms, h, e => by
    obtain ⟨y, yo', v, vs', rfl, rfl, K1, Kn⟩ := h.cons_inv
    simp only [vals, Option.bind_eq_some_iff] at e
    obtain ⟨m, e1, ms', e2, e3⟩ := e
    cases e3
    obtain ⟨ys, a1, a2, a3, a4⟩ := args_ok S Kn e2
    cases r with
    | v m' =>
      cases e1
      obtain ⟨n, rfl, rfl, rfl, hn⟩ := K1.v_inv
      exact ⟨n :: ys, .v a1, by simp [vsOf, ← a2], by simp [ers, a3], hn, a4⟩
    | p p =>
      obtain ⟨rfl, o, hl⟩ := K1.p_inv
      obtain ⟨x, hx, rfl⟩ := labS_pl hl
      have e1' : s.get p = some m := e1
      rw [S.get, hx] at e1'
      cases e1'
      exact ⟨x :: ys, .p o hx a1, by simp [vsOf, ← a2], by simp [ers, a3], S.pl_hd hx, a4⟩
theorem arg_root {A : SA} : ∀ {rv : List Rv} {yo : List (Option MA)} {ys : List MA}, ArgOk A rv yo ys → ∀ b ∈ adrs ys, b ∈ adrOs yo ∨ (∃ i ∈ roots rv, ∃ m, A[i]? = some (some m) ∧ b ∈ m.adr)
  | _, _, _, .nil, b, hb => by simp [adrs] at hb
  | _, _, _, .v h, b, hb => by
    simp only [adrs, List.mem_append] at hb
    simp only [adrOs, adrO, List.mem_append, roots]
    rcases hb with hb | hb
    · exact .inl (.inl hb)
    · exact (arg_root h b hb).imp .inr id
  | _, _, _, .p o hx h, b, hb => by
    simp only [adrs, List.mem_append] at hb
    simp only [adrOs, adrO, List.nil_append, roots]
    rcases hb with hb | hb
    · right
      unfold plA at hx
      simp only [Option.bind_eq_some_iff] at hx
      obtain ⟨m, h1, h2⟩ := hx
      exact ⟨_, List.mem_cons_self, m, joinO_some.mp h1, getA_adr _ m _ h2 b hb⟩
    · rcases arg_root h b hb with q | ⟨i, hi, m, e, q⟩
      · exact .inl q
      · exact .inr ⟨i, List.mem_cons_of_mem _ hi, m, e, q⟩
theorem arg_nd {H : Hp} {σ : L2.St} {A : SA} {s : St} {τ : List V} (S : SR L H σ A s τ) : ∀ {rv : List Rv} {yo : List (Option MA)} {ys : List MA}, ArgOk A rv yo ys → apart rv = true → (adrS A ++ adrOs yo).Nodup → (adrs ys).Nodup
  | _, _, _, .nil, _, _ => List.nodup_nil
  | _, _, _, .v (n := n) (yo := yo) h, ap, nd => by
    simp only [adrOs, adrO] at nd
    have t := List.nodup_append.mp nd
    have t2 := List.nodup_append.mp t.2.1
    have nd' : (adrS A ++ adrOs yo).Nodup := List.nodup_append.mpr ⟨t.1, t2.2.1, fun a ha b hb q => t.2.2 a ha b (by simp [hb]) q⟩
    refine List.nodup_append.mpr ⟨t2.1, arg_nd S h ap nd', fun a ha b hb q => ?_⟩
    subst q
    rcases arg_root h a hb with q | ⟨i, _, m, e, q⟩
    · exact t2.2.2 a ha a q rfl
    · exact t.2.2 a (adrS_mem e a q) a (by simp [ha]) rfl
  | _, _, _, .p (p := p) (x := x) (yo := yo) o hx h, ap, nd => by
    simp only [apart, Bool.and_eq_true] at ap
    simp only [adrOs, adrO, List.nil_append] at nd
    refine List.nodup_append.mpr ⟨plA_nd S hx, arg_nd S h ap.2 nd, fun a ha b hb q => ?_⟩
    subst q
    have hx' := hx
    unfold plA at hx'
    simp only [Option.bind_eq_some_iff] at hx'
    obtain ⟨m, h1, h2⟩ := hx'
    have ham := getA_adr _ m _ h2 a ha
    rcases arg_root h a hb with q | ⟨i, hi, m', e, q⟩
    · exact nd_left nd (adrS_mem (joinO_some.mp h1) a ham) q
    · exact adrS_apart (joinO_some.mp h1) e (fun z => apR_roots ap.1 (z ▸ hi)) S.nd a ham q
structure WR (L : Lnk) (H1 H' : Hp) (σ : L2.St) (A1 A : SA) (s : St) (τ : List V) (ro : List Nat) : Prop where
  er : s.sl = A.map (Option.map MA.er)
  len : A.length = σ.length
  val : ∀ (i : Nat) (m : MA), A[i]? = some (some m) → σ[i]? = some (some m.v)
  hd : ∀ (i : Nat) (m : MA), A[i]? = some (some m) → i ∉ ro → Hd L H' m
  same : ∀ i ∈ ro, A[i]? = A1[i]?
  rf : ∀ (i : Nat) (p : Pth), (i, p) ∈ s.rf → okP p.2 ∧ ∃ v, σ[i]? = some (some v) ∧ labS A p = some v
  tl : s.tm.length = τ.length
  tm : ∀ (k : Nat) (p : Pth), s.tm[k]? = some (some p) → okP p.2 ∧ ∃ v, τ[k]? = some v ∧ labS A p = some v
theorem WR.step {H1 H' : Hp} {σ : L2.St} {A1 A : SA} {s1 s : St} {τ τ1 : List V} {ro : List Nat} {p : Pth} {x x' : MA} (S1 : SR L H1 σ A1 s1 τ1) (W : WR L H1 H' σ A1 A s τ (p.1 :: ro)) (np : p.1 ∉ ro) (op : okP p.2) (hp : plA A1 p = some x) (hv : x'.v = x.v) (hx : Hd L H' x') (st : Stb H1 H')
    (fr : ∀ m, A1[p.1]? = some (some m) → ∀ b ∈ m.adr, b ∉ x.adr → H' b = H1 b) {kf : Pth → Bool} (fk : ∀ q : Pth, okP q.2 → kf q = false → under p q = false ∨ labA x' (q.2.drop p.2.length) = labA x (q.2.drop p.2.length)) :
    WR L H1 H' σ A1 (putA A p x') ((s.put p x'.er).kill kf) τ ro ∧ (∀ b, (adrS (putA A p x')).count b + x.adr.count b = (adrS A).count b + x'.adr.count b) ∧ (∀ j, j ≠ p.1 → (putA A p x')[j]? = A[j]?) ∧ plA (putA A p x') p = some x' := by
  have hp0 : plA A p = some x := by
    unfold plA at hp ⊢
    rw [W.same p.1 (by simp)]; exact hp
  have hp' := hp0
  unfold plA at hp'
  simp only [Option.bind_eq_some_iff] at hp'
  obtain ⟨m, h1, h2⟩ := hp'
  have h1' := joinO_some.mp h1
  have h3 : A1[p.1]? = some (some m) := by rw [← W.same p.1 (by simp)]; exact h1'
  have hdm := S1.hd _ _ h3
  have eA : putA A p x' = A.set p.1 (some (m.updA p.2 fun _ => x')) := by unfold putA; rw [h1]
  have hl : p.1 < A.length := (List.getElem?_eq_some_iff.mp h1').1
  have lab : ∀ q : Pth, okP q.2 → kf q = false → ∀ v, labS A q = some v → labS (putA A p x') q = some v := by
    intro q oq kq0 v e
    have kq1 := fk q oq kq0
    unfold labS plA at e ⊢
    rw [eA]
    by_cases z : q.1 = p.1
    · rw [z] at e ⊢
      rw [List.getElem?_set_self hl]
      rw [h1] at e
      simp only [joinO, Option.bind_some] at e ⊢
      obtain ⟨g1, g2⟩ := get_upd (x := x) (x' := x') hv p.2 q.2 m hdm op oq h2
      by_cases w : isPre p.2 q.2 = true
      · obtain ⟨g3, g4⟩ := g2 w
        rw [g3]
        rw [g4] at e
        rcases kq1 with kq | kq
        · exact lab_under (r := q) hv z w kq e
        · unfold labA at kq
          rw [kq]; exact e
      · have := g1 (by simpa using w)
        unfold labA at this
        rw [this]; exact e
    · rw [List.getElem?_set_ne (Ne.symm z)]
      exact e
  refine ⟨⟨?_, ?_, ?_, ?_, ?_, ?_, ?_, ?_⟩, ?_, ?_, ?_⟩
  · show (s.put p x'.er).sl = _
    unfold St.put
    have sg : s.sget p.1 = some m.er := by
      unfold St.sget
      rw [W.er, List.getElem?_map, h1']; rfl
    rw [sg, eA]
    simp only []
    rw [W.er, List.map_set]
    simp only [Option.map_some]
    rw [er_upd p.2 m x h2]
  · rw [eA, List.length_set]; exact W.len
  · intro i n e
    rw [eA] at e
    by_cases z : i = p.1
    · subst z
      rw [List.getElem?_set_self hl] at e
      cases e
      rw [v_upd p.2 m x h2 hv]
      exact W.val _ _ h1'
    · rw [List.getElem?_set_ne (Ne.symm z)] at e
      exact W.val _ _ e
  · intro i n e hi
    rw [eA] at e
    by_cases z : i = p.1
    · subst z
      rw [List.getElem?_set_self hl] at e
      cases e
      exact hd_upd st hv hx p.2 m h2 (adrS_nd h3 S1.nd) hdm (fr m h3)
    · rw [List.getElem?_set_ne (Ne.symm z)] at e
      exact W.hd _ _ e (by simp only [List.mem_cons, not_or]; exact ⟨z, hi⟩)
  · intro i hi
    rw [eA, List.getElem?_set_ne (fun (z : p.1 = i) => np (z ▸ hi))]
    exact W.same i (by simp [hi])
  · intro i q e
    have e' : (i, q) ∈ killR kf s.rf := by
      have : ((s.put p x'.er).kill kf).rf = killR kf s.rf := by
        unfold St.put St.kill
        split <;> rfl
      rw [this] at e; exact e
    obtain ⟨e1, e2⟩ := killR_mem e'
    obtain ⟨oq, v, e3, e4⟩ := W.rf i q e1
    exact ⟨oq, v, e3, lab q oq e2 v e4⟩
  · have : ((s.put p x'.er).kill kf).tm = killT kf s.tm := by
      unfold St.put St.kill
      split <;> rfl
    rw [this, killT_len]; exact W.tl
  · intro k q e
    have e' : (killT kf s.tm)[k]? = some (some q) := by
      have : ((s.put p x'.er).kill kf).tm = killT kf s.tm := by
        unfold St.put St.kill
        split <;> rfl
      rw [this] at e; exact e
    obtain ⟨e1, e2⟩ := killT_get e'
    obtain ⟨oq, v, e3, e4⟩ := W.tm k q e1
    exact ⟨oq, v, e3, lab q oq e2 v e4⟩
  · intro b
    obtain ⟨l2, r2, b1, b2⟩ := adrS_set h1'
    obtain ⟨l, r, a1, a2⟩ := adr_upd p.2 m x h2
    rw [eA, b2, b1]
    simp only [adrO, a1, a2, List.count_append]
    omega
  · intro j hj
    rw [eA, List.getElem?_set_ne (Ne.symm hj)]
  · unfold plA
    rw [eA, List.getElem?_set_self hl]
    simp only [joinO, Option.bind_some]
    obtain ⟨g1, g2⟩ := get_upd (x := x) (x' := x') hv p.2 p.2 m hdm op op h2
    have pre : ∀ q : List Acc, okP q → isPre q q = true := by
      intro q
      induction q with
      | nil => intro _; rfl
      | cons c q ih =>
        intro ok
        simp only [isPre, Bool.and_eq_true]
        refine ⟨?_, ih ok.cons.2⟩
        cases c with
        | ix n => simp [accEq]
        | fd n => simp [accEq]
        | ky n => simp only [accEq]; exact (eqv_key n n ok.cons.1 ok.cons.1).mpr rfl
    rw [(g2 (pre p.2 op)).1, List.drop_length]
    rfl
def backA : SA → List Rv → List MA → SA
  | A, .p p :: rs, m :: ms => backA (putA A p m) rs ms
  | A, .v _ :: rs, _ :: ms => backA A rs ms
  | A, _, _ => A
theorem eqP_eq : ∀ {p q : List Acc}, okP p → okP q → eqP p q = true → p = q
  | [], [], _, _, _ => rfl
  | [], _ :: _, _, _, e => by simp [eqP] at e
  | _ :: _, [], _, _, e => by simp [eqP] at e
  | a :: p, b :: q, h, k, e => by
    simp only [eqP, Bool.and_eq_true] at e
    have ih := eqP_eq h.cons.2 k.cons.2 e.2
    have e1 := e.1
    have : a = b := by
      cases a <;> cases b <;> simp [accEq] at e1
      · exact congrArg _ e1
      · rename_i x y; exact congrArg _ ((eqv_key x y h.cons.1 k.cons.1).mp e1)
      · exact congrArg _ e1
    rw [this, ih]
theorem backg_nil : ∀ (rv : List Rv) (ms : List M) (n : Nat) (s : St), backg [] n rv ms s = back rv ms s
  | [], _, _, _ => by simp [backg, back]
  | .p p :: rv, [], _, _ => by simp [backg, back]
  | .v _ :: rv, [], _, _ => by simp [backg, back]
  | .p p :: rv, m :: ms, n, s => by
    have : (fun q => under p q && !ghAt [] n p q) = under p := by funext q; simp [ghAt]
    simp only [backg, back, this]
    exact backg_nil rv ms _ _
  | .v _ :: rv, m :: ms, n, s => by simp only [backg, back]; exact backg_nil rv ms _ _
theorem back_go {gh : List Pth} {H1 H' : Hp} {σ : L2.St} {A1 : SA} {s1 : St} {τ τ1 : List V} (S1 : SR L H1 σ A1 s1 τ1) (st : Stb H1 H') : ∀ {rv : List Rv} {yo : List (Option MA)} {ys ys' : List MA} {A : SA} {s : St} (n : Nat), ArgOk A1 rv yo ys → (∀ g ∈ gh, okP g.2 ∧ ∀ i x x', g.1 = n + i → ys[i]? = some x → ys'[i]? = some x' → labA x' g.2 = labA x g.2) → apart rv = true → vsOf ys' = vsOf ys → HdL L H' ys' → WR L H1 H' σ A1 A s τ (roots rv) →
      (∀ (i : Nat) (m : MA) (p : Pth) (x : MA), Rv.p p ∈ rv → p.1 = i → plA A1 p = some x → A1[i]? = some (some m) → ∀ b ∈ m.adr, b ∉ x.adr → H' b = H1 b) →
      WR L H1 H' σ A1 (backA A rv ys') (backg gh n rv (ers ys') s) τ [] ∧ (∀ b, (adrS (backA A rv ys')).count b + (adrs (pls rv ys)).count b = (adrS A).count b + (adrs (pls rv ys')).count b) ∧ (∀ j, j ∉ roots rv → (backA A rv ys')[j]? = A[j]?) ∧ ∀ (i : Nat) (p : Pth) (m : MA), rv[i]? = some (Rv.p p) → ys'[i]? = some m → plA (backA A rv ys') p = some m
  | _, _, _, ys', A, s, n, .nil, _, _, ev, _, W, _ => by
    cases ys' with
    | cons y ys' => simp [vsOf] at ev
    | nil => exact ⟨W, fun b => rfl, fun _ _ => rfl, fun i p m e => by simp at e⟩
  | _, _, _, ys', A, s, n, .v h, hg, ap, ev, hd, W, fr => by
    cases ys' with
    | nil => simp [vsOf] at ev
    | cons y ys' =>
      simp only [vsOf, List.map_cons, List.cons.injEq] at ev
      obtain ⟨g1, g2, g3, g4⟩ := back_go (gh := gh) S1 st (n + 1) h (fun g hgm => ⟨(hg g hgm).1, fun i x x' e => by have := (hg g hgm).2 (i + 1) x x' (by omega); simpa using this⟩) ap ev.2 hd.2 W fun i m p x hp => fr i m p x (by simp [hp])
      refine ⟨g1, g2, g3, fun i p m e1 e2 => ?_⟩
      cases i with
      | zero => simp at e1
      | succ i => exact g4 i p m (by simpa using e1) (by simpa using e2)
  | _, _, _, ys', A, s, n, .p (p := p) (x := x) o hx h, hg, ap, ev, hd, W, fr => by
    cases ys' with
    | nil => simp [vsOf] at ev
    | cons y ys' =>
      simp only [vsOf, List.map_cons, List.cons.injEq] at ev
      simp only [apart, Bool.and_eq_true] at ap
      have np := apR_roots ap.1
      obtain ⟨W1, c1, k1, l1⟩ := W.step S1 np o hx ev.1 hd.1 st (fun m hm => fr p.1 m p x (by simp) rfl hx hm) (kf := fun q => under p q && !ghAt gh n p q) fun q oq kq => by
        rcases Bool.and_eq_false_iff.mp kq with k1 | k1
        · exact .inl k1
        · right
          simp only [Bool.not_eq_false', ghAt, List.any_eq_true, Bool.and_eq_true, beq_iff_eq] at k1
          obtain ⟨g, hgm, ⟨e1, e2⟩, e3⟩ := k1
          obtain ⟨og, hl⟩ := hg g hgm
          have e4 := eqP_eq oq (o.append og) e3
          rw [e4, List.drop_left]
          exact hl 0 x y (by omega) rfl rfl
      obtain ⟨g1, g2, g3, g4⟩ := back_go (gh := gh) S1 st (n + 1) h (fun g hgm => ⟨(hg g hgm).1, fun i x x' e => by have := (hg g hgm).2 (i + 1) x x' (by omega); simpa using this⟩) ap.2 ev.2 hd.2 W1 fun i m p x hp => fr i m p x (by simp [hp])
      refine ⟨g1, fun b => ?_, fun j hj => ?_, fun i q m e1 e2 => ?_⟩
      · have := g2 b
        have := c1 b
        simp only [backA, pls, adrs, List.count_append]
        omega
      · simp only [roots, List.mem_cons, not_or] at hj
        exact (g3 j hj.2).trans (k1 j hj.1)
      · cases i with
        | zero =>
          simp only [List.getElem?_cons_zero, Option.some.injEq, Rv.p.injEq] at e1 e2
          subst e1; subst e2
          show plA (backA (putA A p y) _ ys') p = _
          unfold plA
          rw [g3 p.1 np]
          exact l1
        | succ i => exact g4 i q m (by simpa using e1) (by simpa using e2)
end
end Vm
end
section
namespace Vm
open PySem L2
theorem apart_eq : ∀ {rv : List Rv} {p q : Pth}, apart rv = true → Rv.p p ∈ rv → Rv.p q ∈ rv → p.1 = q.1 → p = q
  | [], _, _, _, h, _, _ => by simp at h
  | .v _ :: rv, p, q, ap, h1, h2, e => apart_eq (rv := rv) ap (by simpa using h1) (by simpa using h2) e
  | .p r :: rv, p, q, ap, h1, h2, e => by
    simp only [apart, Bool.and_eq_true] at ap
    have mem : ∀ {p : Pth}, Rv.p p ∈ rv → p.1 ∈ roots rv := by
      intro p
      clear h1 h2 ap
      induction rv with
      | nil => intro h; simp at h
      | cons a rv ih =>
        intro h
        rcases List.mem_cons.mp h with h' | h'
        · subst h'; simp [roots]
        · clear h
          cases a with
          | v m => exact ih h'
          | p z => exact List.mem_cons_of_mem _ (ih h')
    have np := apR_roots ap.1
    rcases List.mem_cons.mp h1 with h1 | h1 <;> rcases List.mem_cons.mp h2 with h2 | h2
    · cases h1; cases h2; rfl
    · cases h1; exact absurd (e ▸ mem h2) np
    · cases h2; exact absurd (e ▸ mem h1) np
    · exact apart_eq ap.2 h1 h2 e
section
variable {L : Lnk} {C : Ctx} {X : Cx}
theorem arg_root2 {A : SA} : ∀ {rv : List Rv} {yo : List (Option MA)} {ys : List MA}, ArgOk A rv yo ys → ∀ b ∈ adrs ys, b ∈ adrOs yo ∨ (b ∈ adrs (pls rv ys) ∧ ∃ q x, Rv.p q ∈ rv ∧ plA A q = some x ∧ b ∈ x.adr)
  | _, _, _, .nil, b, hb => by simp [adrs] at hb
  | _, _, _, .v h, b, hb => by
    simp only [adrs, List.mem_append] at hb
    simp only [adrOs, adrO, List.mem_append, pls]
    rcases hb with hb | hb
    · exact .inl (.inl hb)
    · rcases arg_root2 h b hb with q | ⟨z, q, x, e1, e2, e3⟩
      · exact .inl (.inr q)
      · exact .inr ⟨z, q, x, by simp [e1], e2, e3⟩
  | _, _, _, .p (p := p) (x := x) o hx h, b, hb => by
    simp only [adrs, List.mem_append] at hb
    simp only [adrOs, adrO, List.nil_append, pls, adrs, List.mem_append]
    rcases hb with hb | hb
    · exact .inr ⟨.inl hb, p, x, by simp, hx, hb⟩
    · rcases arg_root2 h b hb with q | ⟨z, q, x, e1, e2, e3⟩
      · exact .inl q
      · exact .inr ⟨.inr z, q, x, by simp [e1], e2, e3⟩
theorem back_okg {gh : List Pth} {H H1 H' : Hp} {σ : L2.St} {A A1 : SA} {s1 : St} {τ : List V} {rv : List Rv} {yo : List (Option MA)} {ys ys' : List MA} (S1 : SR L H1 σ A1 s1 τ) (P1 : Pst H A H1 A1 (adrOs yo)) (G : ArgOk A1 rv yo ys) (hy : HdL L H1 ys) (ap : apart rv = true)
    (ev : vsOf ys' = vsOf ys) (hd : HdL L H' ys') (fr : ∀ b o, H1 b = some o → b ∉ adrs ys → H' b = some o) (nd' : (adrs ys').Nodup) (new' : ∀ b ∈ adrs ys', b ∈ adrs ys ∨ H1 b = none) (hg : ∀ g ∈ gh, okP g.2 ∧ ∀ i x x', g.1 = 0 + i → ys[i]? = some x → ys'[i]? = some x' → labA x' g.2 = labA x g.2) :
    SR L H' σ (backA A1 rv ys') (backg gh 0 rv (ers ys') s1) τ ∧ (∀ Z : List Addr, Z.Nodup → (∀ b ∈ Z, b ∉ adrs (pls rv ys') ∧ (b ∈ adrs ys ∨ H1 b = none)) → Pst H A H' (backA A1 rv ys') Z) ∧ ∀ (i : Nat) (p : Pth) (m : MA), rv[i]? = some (Rv.p p) → ys'[i]? = some m → plA (backA A1 rv ys') p = some m := by
  have hm := HdL.mut hy
  have st : Stb H1 H' := by
    constructor
    · intro a xs h
      refine fr a _ h fun hb => ?_
      obtain ⟨u, e, m⟩ := hm a hb
      rw [h] at e; cases e; exact m
    · intro a o w h
      refine fr a _ h fun hb => ?_
      obtain ⟨u, e, m⟩ := hm a hb
      rw [h] at e; cases e; exact m
  have ysA : ∀ b ∈ adrs ys, b ∈ adrS A1 ++ adrOs yo := fun b hb => by
    rcases arg_root G b hb with q | ⟨i, _, m, e, q⟩
    · exact List.mem_append_right _ q
    · exact List.mem_append_left _ (adrS_mem e b q)
  have frA : ∀ b ∈ adrS A1, b ∉ adrs ys → H' b = H1 b := fun b hb hn => by
    obtain ⟨u, e, _⟩ := S1.mut b hb
    rw [e]; exact fr b u e hn
  have W0 : WR L H1 H' σ A1 A1 s1 τ (roots rv) := by
    refine ⟨S1.er, S1.len, S1.val, fun i m e hi => Hd.mono st (S1.hd i m e) fun b hb => frA b (adrS_mem e b hb) fun hy => ?_, fun _ _ => rfl, S1.rf, S1.tl, S1.tm⟩
    rcases arg_root G b hy with q | ⟨j, hj, m', e', q⟩
    · exact nd_left P1.nd (adrS_mem e b hb) q
    · exact adrS_apart e e' (fun z => hi (z ▸ hj)) S1.nd b hb q
  obtain ⟨g1, g2, g3, g4⟩ := back_go (gh := gh) S1 st 0 G hg ap ev hd W0 fun i m p x hp ei hx hmi b hb hnx => by
    subst ei
    refine frA b (adrS_mem hmi b hb) fun hy => ?_
    rcases arg_root2 G b hy with q | ⟨_, q, x', h1, h2, h3⟩
    · exact nd_left P1.nd (adrS_mem hmi b hb) q
    · by_cases z : p.1 = q.1
      · have := apart_eq ap hp h1 z
        subst this
        rw [hx] at h2; cases h2
        exact hnx h3
      · have h2' := h2
        unfold plA at h2'
        simp only [Option.bind_eq_some_iff] at h2'
        obtain ⟨m', f1, f2⟩ := h2'
        exact adrS_apart hmi (joinO_some.mp f1) z S1.nd b hb (getA_adr _ _ _ f2 b h3)
  have cA : ∀ b, (adrS A1).count b ≤ 1 := nodup_count.mp S1.nd
  have cY : ∀ b, (adrs (pls rv ys')).count b ≤ 1 := fun b => Nat.le_trans (pls_cnt rv ys' b) (nodup_count.mp nd' b)
  have noneA : ∀ b, H1 b = none → (adrS A1).count b = 0 := fun b h => List.count_eq_zero_of_not_mem fun hb => by
    obtain ⟨u, e, _⟩ := S1.mut b hb
    rw [h] at e; cases e
  have key : ∀ b, b ∈ adrs ys ∨ H1 b = none → (adrS A1).count b ≤ (adrs (pls rv ys)).count b := fun b h => by
    rcases h with h | h
    · rcases arg_root2 G b h with q | ⟨q, _⟩
      · rw [List.count_eq_zero_of_not_mem fun hA => nd_left P1.nd hA q]; omega
      · have := List.count_pos_iff.mpr q
        have := cA b
        omega
    · rw [noneA b h]; omega
  have nd2 : ∀ Z : List Addr, Z.Nodup → (∀ b ∈ Z, b ∉ adrs (pls rv ys') ∧ (b ∈ adrs ys ∨ H1 b = none)) → (adrS (backA A1 rv ys') ++ Z).Nodup := fun Z nz hz => nodup_count.mpr fun b => by
    have e := g2 b
    have a1 := cA b
    have a2 := cY b
    rw [List.count_append]
    by_cases hb : b ∈ Z
    · obtain ⟨h1, h2⟩ := hz b hb
      have := List.count_eq_zero_of_not_mem h1
      have := key b h2
      have := nodup_count.mp nz b
      omega
    · rw [List.count_eq_zero_of_not_mem hb]
      by_cases hb' : b ∈ adrs (pls rv ys')
      · have := key b (new' b (pls_sub rv ys' b hb'))
        omega
      · have := List.count_eq_zero_of_not_mem hb'
        omega
  have back : ∀ b, b ∈ adrS A1 ++ adrOs yo ∨ H1 b = none → b ∈ adrS A ∨ H b = none := fun b h => by
    rcases h with h | h
    · exact P1.new b h
    · cases e : H b with
      | none => exact .inr rfl
      | some o =>
        by_cases q : b ∈ adrS A
        · exact .inl q
        · rw [P1.ext b o e q] at h; cases h
  have up : ∀ b, b ∈ adrs ys ∨ H1 b = none → b ∈ adrS A1 ++ adrOs yo ∨ H1 b = none := fun b h => h.imp (ysA b) id
  refine ⟨⟨S1.gl.mono st, g1.er, g1.len, g1.val, fun i m e => g1.hd i m e (by simp), ?_, g1.rf, g1.tl, g1.tm⟩, fun Z nz hz => ⟨fun b o e q => ?_, fun b hb => ?_, nd2 Z nz hz⟩, g4⟩
  · simpa using nd2 [] List.nodup_nil (fun b hb => by simp at hb)
  · refine fr b o (P1.ext b o e q) fun hy => ?_
    rcases P1.new b (ysA b hy) with z | z
    · exact q z
    · rw [e] at z; cases z
  · rcases List.mem_append.mp hb with hb | hb
    · have e := g2 b
      have := List.count_pos_iff.mpr hb
      by_cases hA : b ∈ adrS A1
      · exact back b (.inl (List.mem_append_left _ hA))
      · rw [List.count_eq_zero_of_not_mem hA] at e
        have : 0 < (adrs (pls rv ys')).count b := by omega
        exact back b (up b (new' b (pls_sub rv ys' b (List.count_pos_iff.mp this))))
    · exact back b (up b (hz b hb).2)
theorem back_ok {H H1 H' : Hp} {σ : L2.St} {A A1 : SA} {s1 : St} {τ : List V} {rv : List Rv} {yo : List (Option MA)} {ys ys' : List MA} (S1 : SR L H1 σ A1 s1 τ) (P1 : Pst H A H1 A1 (adrOs yo)) (G : ArgOk A1 rv yo ys) (hy : HdL L H1 ys) (ap : apart rv = true)
    (ev : vsOf ys' = vsOf ys) (hd : HdL L H' ys') (fr : ∀ b o, H1 b = some o → b ∉ adrs ys → H' b = some o) (nd' : (adrs ys').Nodup) (new' : ∀ b ∈ adrs ys', b ∈ adrs ys ∨ H1 b = none) :
    SR L H' σ (backA A1 rv ys') (back rv (ers ys') s1) τ ∧ (∀ Z : List Addr, Z.Nodup → (∀ b ∈ Z, b ∉ adrs (pls rv ys') ∧ (b ∈ adrs ys ∨ H1 b = none)) → Pst H A H' (backA A1 rv ys') Z) ∧ ∀ (i : Nat) (p : Pth) (m : MA), rv[i]? = some (Rv.p p) → ys'[i]? = some m → plA (backA A1 rv ys') p = some m := by
  have := back_okg (gh := []) S1 P1 G hy ap ev hd fr nd' new' fun g hg => by simp at hg
  rwa [backg_nil] at this
def CRok (L : Lnk) (H' : Hp) (ys' : List MA) : CRv → Option MA → V → Prop
  | .v m, some n, v => n.er = m ∧ n.v = v ∧ Hd L H' n
  | .p i q, none, v => okP q ∧ ∃ m, ys'[i]? = some m ∧ labA m q = some v
  | _, _, _ => False
def Prog.kp (P : Prog) (f : Nat) : List Pth := ((P.fns[f]?).map Fd.gh).getD []
def GhK (gh : List Pth) (ys ys' : List MA) : Prop := ∀ g ∈ gh, okP g.2 ∧ ∀ i x x', g.1 = 0 + i → ys[i]? = some x → ys'[i]? = some x' → labA x' g.2 = labA x g.2
def SpV (L : Lnk) (P : Prog) (k f : Nat) : List V → Hp → VK → Prop := fun vs H Q => ∃ (ys : List MA) (r : CRv) (fin : List M), vsOf ys = vs ∧ HdL L H ys ∧ (adrs ys).Nodup ∧ GlOk L H ∧ vrun P k f (ers ys) = .ok r fin ∧
  ∀ v H' ys' y, vsOf ys' = vs → ers ys' = fin → HdL L H' ys' → (∀ b o, H b = some o → b ∉ adrs ys → H' b = some o) → (adrs ys' ++ adrO y).Nodup → (∀ b ∈ adrs ys' ++ adrO y, b ∈ adrs ys ∨ H b = none) → CRok L H' ys' r y v → GhK (P.kp f) ys ys' → Q v H'
def SpX (L : Lnk) (P : Prog) (k f : Nat) : List V → Hp → VK → XK → Prop := fun vs H Q E => ∃ (ys : List MA), vsOf ys = vs ∧ HdL L H ys ∧ (adrs ys).Nodup ∧ GlOk L H ∧
  match vrun P k f (ers ys) with
  | .ok r fin => ∀ v H' ys' y, vsOf ys' = vs → ers ys' = fin → HdL L H' ys' → (∀ b o, H b = some o → b ∉ adrs ys → H' b = some o) → (adrs ys' ++ adrO y).Nodup → (∀ b ∈ adrs ys' ++ adrO y, b ∈ adrs ys ∨ H b = none) → CRok L H' ys' r y v → GhK (P.kp f) ys ys' → Q v H'
  | .exc x fin => ∀ cls d H' ys', vsOf ys' = vs → ers ys' = fin → HdL L H' ys' → (∀ b o, H b = some o → b ∉ adrs ys → H' b = some o) → (adrs ys').Nodup → (∀ b ∈ adrs ys', b ∈ adrs ys ∨ H b = none) → XcOk L x cls d → E cls d H'
  | .no => False
theorem SpV.toX {L : Lnk} {P : Prog} {k f : Nat} {vs : List V} {H : Hp} {Q : VK} {E : XK} (h : SpV L P k f vs H Q) : SpX L P k f vs H Q E := by
  obtain ⟨ys, r, fin, h1, h2, h3, h4, e, q⟩ := h
  refine ⟨ys, h1, h2, h3, h4, ?_⟩
  rw [e]; exact q
theorem getA_app {q : List Acc} : ∀ {p : List Acc} {x y : MA}, x.getA p = some y → x.getA (p ++ q) = y.getA q
  | [], x, y, h => by simp [MA.getA] at h; subst h; rfl
  | c :: p, x, y, h => by
    cases c <;> cases x <;> simp [MA.getA, Option.bind_eq_some_iff] at h
    all_goals
      obtain ⟨w, h1, h2⟩ := h
      simp only [List.cons_append, MA.getA, h1, Option.bind_some]
      exact getA_app h2
theorem callR_red {P : Prog} {k f : Nat} {rv : List Rv} {yo : List (Option MA)} {vs : List V} {σ : L2.St} {H H1 : Hp} {A A1 : SA} {s1 s' : St} {τ : List V} {r : Rv} {Q : VK} (hC : C.call = vrun P k) (S1 : SR L H1 σ A1 s1 τ) (P1 : Pst H A H1 A1 (adrOs yo)) (K1 : RvsOk L H1 A1 rv yo vs) (e2 : callR C f rv s1 = .ok r s') (q : Fin L σ H A τ r s' Q) : SpV L P k f vs H1 Q := by
  unfold callR at e2
  obtain ⟨ap, e3⟩ := rif_ok e2
  obtain ⟨ms, e4, e5⟩ := rs_ok e3
  obtain ⟨ys, G, rfl, rfl, hy⟩ := args_ok S1 K1 e4
  rw [hC] at e5
  cases ec : vrun P k f (ers ys) with
  | exc x fin => rw [ec] at e5; simp [cend] at e5
  | no => rw [ec] at e5; simp [cend] at e5
  | ok cr fin =>
    rw [ec] at e5
    refine ⟨ys, cr, fin, rfl, hy, arg_nd S1 G ap P1.nd, S1.gl, ec, fun v H' ys' y ev ef hd fr nd new K _ => ?_⟩
    subst ef
    have nd' := (List.nodup_append.mp nd).1
    obtain ⟨S2, P2, l2⟩ := back_ok S1 P1 G hy ap ev hd fr nd' fun b hb => new b (List.mem_append_left _ hb)
    cases cr with
    | v m =>
      cases y with
      | none => exact K.elim
      | some n =>
        cases e5
        refine q v H' _ (some n) S2 (P2 _ (List.nodup_append.mp nd).2.1 fun b hb => ⟨fun h => nd_left nd (pls_sub _ _ b h) hb, new b (List.mem_append_right _ hb)⟩) K
    | p i pq =>
      cases y with
      | some n => exact K.elim
      | none =>
        obtain ⟨oq, m, em, lm⟩ := K
        obtain ⟨r0, er, e6⟩ := rs_ok (show (rs rv[i]? fun r => retP pq (ers ys')[i]? (back rv (ers ys') s1) r) = .ok r s' from e5)
        cases r0 with
        | p p =>
          cases e6
          have hp := l2 i p m er em
          obtain ⟨op, _⟩ : okP p.2 ∧ True := by
            have : ∀ {rv : List Rv} {yo : List (Option MA)} {ys : List MA} {i : Nat}, ArgOk A1 rv yo ys → rv[i]? = some (Rv.p p) → okP p.2 := by
              intro rv yo ys i h
              induction h generalizing i with
              | nil => intro e; simp at e
              | v h ih => intro e; cases i with
                | zero => simp at e
                | succ i => exact ih (by simpa using e)
              | p o hx h ih => intro e; cases i with
                | zero => simp at e; subst e; exact o
                | succ i => exact ih (by simpa using e)
            exact ⟨this G er, trivial⟩
          refine q v H' _ none S2 (P2 [] List.nodup_nil fun b hb => by simp at hb) ⟨op.append oq, ?_⟩
          unfold plA at hp
          unfold labS plA
          simp only [Option.bind_eq_some_iff] at hp
          obtain ⟨z, h1, h2⟩ := hp
          rw [h1]
          simp only [Option.bind_some]
          rw [getA_app h2]
          exact lm
        | v m0 =>
          obtain ⟨x, e7, e8⟩ := rs_ok (show (rs ((ers ys')[i]?.bind fun m => m.get pq) fun x => .ok (.v x) (back rv (ers ys') s1)) = .ok r s' from e6)
          cases e8
          rw [ers_get, em] at e7
          simp only [Option.map_some, Option.bind_some] at e7
          have hdm := HdL.get hd em
          rw [get_er pq m hdm] at e7
          obtain ⟨n, g1, rfl⟩ := Option.map_eq_some_iff.mp e7
          unfold labA at lm
          rw [g1] at lm
          have nA : ∀ b ∈ n.adr, b ∈ m.adr := getA_adr _ _ _ g1
          have notp : ∀ {rv : List Rv} {ys' : List MA} {i : Nat}, rv[i]? = some (Rv.v m0) → ys'[i]? = some m → (adrs ys').Nodup → ∀ b ∈ m.adr, b ∉ adrs (pls rv ys') := by
            intro rv
            induction rv with
            | nil => intro ys' i e; simp at e
            | cons r rv ih =>
              intro ys' i e1 e2 nd b hb hp
              cases ys' with
              | nil => simp at e2
              | cons y ys' =>
                simp only [adrs] at nd
                have t := List.nodup_append.mp nd
                cases i with
                | zero =>
                  simp at e1 e2
                  subst e1; subst e2
                  exact t.2.2 b hb b (pls_sub _ _ b hp) rfl
                | succ i =>
                  have e1' : rv[i]? = some (Rv.v m0) := by simpa using e1
                  have e2' : ys'[i]? = some m := by simpa using e2
                  cases r with
                  | v _ => exact ih e1' e2' t.2.1 b hb hp
                  | p _ =>
                    simp only [pls, adrs, List.mem_append] at hp
                    rcases hp with hp | hp
                    · exact t.2.2 b hp b (adrs_mem (List.mem_of_getElem? e2') b hb) rfl
                    · exact ih e1' e2' t.2.1 b hb hp
          obtain ⟨l, r', a1, _⟩ := adr_upd pq m n g1
          have ndm : m.adr.Nodup := by
            have : ∀ {zs : List MA}, m ∈ zs → (adrs zs).Nodup → m.adr.Nodup := by
              intro zs
              induction zs with
              | nil => intro h; simp at h
              | cons z zs ih =>
                intro h nd
                simp only [adrs] at nd
                have t := List.nodup_append.mp nd
                rcases List.mem_cons.mp h with h | h
                · subst h; exact t.1
                · exact ih h t.2.1
            exact this (List.mem_of_getElem? em) nd'
          rw [a1] at ndm
          refine q v H' _ (some n) S2 (P2 _ (List.nodup_append.mp (List.nodup_append.mp ndm).1).2.1 fun b hb => ⟨notp er em nd' b (nA b hb), new b (List.mem_append_left _ (adrs_mem (List.mem_of_getElem? em) b (nA b hb)))⟩) ⟨rfl, by simpa using lm, getA_hd _ _ _ hdm g1⟩
theorem call_red {P : Prog} {k f : Nat} {es : Es} {σ : L2.St} {H : Hp} {Q : VK} (hC : C.call = vrun P k) (h : TEv L C (.call f es) σ H Q) : TRs L C es σ H fun vs H1 => SpV L P k f vs H1 Q := by
  obtain ⟨A, s, τ, r, s', S, e0, q⟩ := h
  rw [ev] at e0
  obtain ⟨rv, s1, e1, e2⟩ := bd_ok e0
  refine ⟨A, s, τ, rv, s1, S, e1, fun vs H1 A1 yo S1 P1 K1 => ?_⟩
  exact callR_red hC S1 P1 K1 e2 q
end
end Vm
end
section
namespace Vm
open PySem L2
section
variable {L : Lnk}
theorem fin_aux {rb : List Nat} : ∀ {ys : List MA} {B : SA} {i : Nat} {fin : List M}, finals rb i (ers ys) (B.map (Option.map MA.er)) = some fin → (∀ j y, ys[j]? = some y → rb.contains (i + j) = true → y.adr = []) →
    ∃ ys' : List MA, ers ys' = fin ∧ ys'.length = ys.length ∧ (adrs ys').Sublist (adrS B) ∧ ∀ j m, ys'[j]? = some m → (rb.contains (i + j) = true ∧ ys[j]? = some m) ∨ (rb.contains (i + j) = false ∧ B[j]? = some (some m))
  | [], B, i, fin, e, _ => by
    simp [ers, finals] at e
    subst e
    exact ⟨[], rfl, rfl, List.nil_sublist _, fun j m h => by simp at h⟩
  | y :: ys, [], i, fin, e, _ => by simp [ers, finals] at e
  | y :: ys, o :: B, i, fin, e, h => by
    simp only [ers, List.map_cons, finals, Option.bind_eq_some_iff] at e
    obtain ⟨x, e1, xs, e2, e3⟩ := e
    cases e3
    obtain ⟨ys', g1, g2, g3, g4⟩ := fin_aux (ys := ys) (B := B) (i := i + 1) e2 fun j z hz hr => h (j + 1) z (by simpa using hz) (by rw [← hr]; congr 1; omega)
    have tail : ∀ (z : MA) j m, (z :: ys')[j + 1]? = some m → (rb.contains (i + (j + 1)) = true ∧ (y :: ys)[j + 1]? = some m) ∨ (rb.contains (i + (j + 1)) = false ∧ (o :: B)[j + 1]? = some (some m)) := fun z j m hm => by
      have := g4 j m (by simpa using hm)
      rw [show i + (j + 1) = i + 1 + j from by omega]
      simpa using this
    by_cases c : rb.contains i = true
    · rw [if_pos c] at e1
      cases e1
      refine ⟨y :: ys', by simp [ers, g1], by simp [g2], ?_, fun j m hm => ?_⟩
      · simp only [adrs, adrS, h 0 y rfl (by simpa using c), List.nil_append]
        exact g3.trans (List.sublist_append_right _ _)
      · cases j with
        | zero => simp at hm; subst hm; exact .inl ⟨by simpa using c, rfl⟩
        | succ j => exact tail y j m hm
    · rw [if_neg c] at e1
      obtain ⟨z, rfl, rfl⟩ := Option.map_eq_some_iff.mp e1
      refine ⟨z :: ys', by simp [ers, g1], by simp [g2], ?_, fun j m hm => ?_⟩
      · simp only [adrs, adrS, adrO]
        exact List.Sublist.append (List.Sublist.refl _) g3
      · cases j with
        | zero => simp at hm; subst hm; exact .inr ⟨by simpa using c, rfl⟩
        | succ j => exact tail z j m hm
theorem fin_set {rb : List Nat} {d : Nat} : ∀ {ms : List M} {l : List (Option M)} {i : Nat}, rb.contains (i + d) = true ∨ ms.length ≤ d → finals rb i ms (l.set d none) = finals rb i ms l
  | [], _, _, _ => rfl
  | _ :: _, [], _, _ => by simp
  | m :: ms, o :: l, i, h => by
    cases d with
    | zero =>
      have c : rb.contains i = true := by
        rcases h with h | h
        · simpa using h
        · simp at h
      simp only [List.set_cons_zero, finals, c, if_true]
    | succ d =>
      simp only [List.set_cons_succ, finals]
      have e1 : i + (d + 1) = i + 1 + d := by omega
      rw [fin_set (d := d) (i := i + 1) (by rw [e1, List.length_cons] at h; exact h.imp id (by omega))]
theorem startA_get {ys : List MA} {k i : Nat} {m : MA} (h : (ys.map some ++ List.replicate k none : SA)[i]? = some (some m)) : ys[i]? = some m := by
  rw [List.getElem?_append] at h
  split at h
  · rw [List.getElem?_map] at h
    cases e : ys[i]? with
    | none => rw [e] at h; cases h
    | some z => rw [e] at h; simpa using h
  · rw [List.getElem?_replicate] at h
    split at h <;> cases h
theorem startA_adr {k : Nat} : ∀ (ys : List MA), adrS (ys.map some ++ List.replicate k none) = adrs ys
  | [] => by
    simp only [List.map_nil, List.nil_append, adrs]
    induction k with
    | zero => rfl
    | succ k ih => simp [List.replicate_succ, adrS, adrO, ih]
  | y :: ys => by simp only [List.map_cons, List.cons_append, adrS, adrO, adrs, startA_adr ys]
theorem okAb_ok {p : List Acc} (h : p.all okAb = true) : okP p := fun a ha => by
  have := List.all_eq_true.mp h a ha
  cases a <;> simpa [okAb, okA] using this
def ghLab (ys : List MA) (g : Pth) : V := ((ys[g.1]?).bind fun m => labA m g.2).getD .non
theorem ghOk_lab {gh : List Pth} {ys : List MA} {L : Lnk} {H : Hp} (hy : HdL L H ys) (h : ghOk gh (ers ys) = true) : ∀ g ∈ gh, okP g.2 ∧ ∃ m, ys[g.1]? = some m ∧ labA m g.2 = some (ghLab ys g) := fun g hg => by
  have := List.all_eq_true.mp h g hg
  simp only [Bool.and_eq_true] at this
  refine ⟨okAb_ok this.1, ?_⟩
  have h2 := this.2
  rw [ers_get] at h2
  cases e : ys[g.1]? with
  | none => rw [e] at h2; simp at h2
  | some m =>
    rw [e] at h2
    refine ⟨m, rfl, ?_⟩
    simp only [Option.map_some, Option.bind_some] at h2
    rw [get_er g.2 m (HdL.get hy e), Option.isSome_map] at h2
    obtain ⟨n, hn⟩ := Option.isSome_iff_exists.mp h2
    unfold ghLab
    rw [e]
    simp [labA, hn]
theorem sameT_get : ∀ {gs : List Pth} {ts : List (Option Pth)}, sameT gs ts = true → ∀ (k : Nat) (g : Pth), gs[k]? = some g → ∃ p : Pth, ts[k]? = some (some p) ∧ g.1 = p.1 ∧ eqP g.2 p.2 = true
  | [], _, _, k, g, e => by simp at e
  | _ :: _, [], h, _, _, _ => by simp [sameT] at h
  | _ :: _, none :: _, h, _, _, _ => by simp [sameT] at h
  | g0 :: gs, some p :: ts, h, 0, g, e => by
    simp at e; subst e
    simp only [sameT, Bool.and_eq_true, beq_iff_eq] at h
    exact ⟨p, rfl, h.1.1, h.1.2⟩
  | g0 :: gs, some p :: ts, h, k + 1, g, e => by
    simp only [sameT, Bool.and_eq_true] at h
    simpa using sameT_get h.2 k g (by simpa using e)
theorem body_okX {P : Prog} {k f : Nat} {fd : Fd} {N : List Str} {vs : List V} {H : Hp} {Q : VK} {E : XK} (hf : P.fns[f]? = some fd) (hn : N.length = fd.n) (h : SpX L P (k + 1) f vs H Q E) :
    TSs L (P.ctx fd.np fd.rb (vrun P k)) (fun cls d _ H => E cls d H) fd.body { nx := fun _ H' => Q .non H', rt := Q } (start N vs) H := by
  obtain ⟨ys, rfl, hy, nd, gl, e⟩ := h
  unfold vrun at e
  rw [hf] at e
  simp only [cs] at e
  cases c : ((ers ys).length == fd.np && decide (fd.np ≤ fd.n) && fd.rb.all (datAt (ers ys)) && ghOk fd.gh (ers ys)) with
  | false => rw [c] at e; simp [cif] at e
  | true =>
  rw [c] at e
  simp only [cif] at e
  simp only [Bool.and_eq_true, beq_iff_eq, decide_eq_true_eq, List.all_eq_true] at c
  obtain ⟨⟨⟨c1, c2⟩, c3⟩, c4⟩ := c
  have gl4 := ghOk_lab hy c4
  have kpE : P.kp f = fd.gh := by unfold Prog.kp; rw [hf]; rfl
  have c1' : ys.length = fd.np := by rw [← c1, ers_map, List.length_map]
  have rbA : ∀ j y, ys[j]? = some y → fd.rb.contains (0 + j) = true → y.adr = [] := fun j y hy' hr => by
    have := c3 j (by simpa using hr)
    unfold datAt at this
    rw [ers_get, hy'] at this
    cases y with
    | im m v => rfl
    | lst a ms => simp [MA.er] at this
    | dct a ms => simp [MA.er] at this
    | obj a cc ms => simp [MA.er] at this
    | dnn a ms => simp [MA.er] at this
  generalize hk : N.length - (vsOf ys).length = kk
  have hkk : fd.n - (ers ys).length = kk := by rw [← hk, hn, ers_map, vsOf, List.length_map, List.length_map]
  have eσ : start N (vsOf ys) = ys.map (fun y => some y.v) ++ List.replicate kk none := by
    unfold L2.start
    rw [hk, vsOf, List.map_map]; rfl
  have S0 : SR L H (start N (vsOf ys)) (ys.map some ++ List.replicate kk none) (vstg fd.gh fd.n (ers ys)) (fd.gh.map (ghLab ys)) := by
    refine ⟨gl, ?_, by rw [eσ]; simp, fun i m em => ?_, fun i m em => HdL.get hy (startA_get em), by rw [startA_adr]; exact nd, fun i p hp => by simp [vstg, St.tms, vst] at hp, by simp [vstg, St.tms], fun i p hp => ?_⟩
    · show (ers ys).map some ++ List.replicate (fd.n - (ers ys).length) none = _
      rw [hkk, List.map_append, List.map_replicate, ers_map, List.map_map, List.map_map]; rfl
    · have := startA_get em
      have hi := (List.getElem?_eq_some_iff.mp this).1
      rw [eσ, List.getElem?_append_left (by rw [List.length_map]; exact hi), List.getElem?_map, this]; rfl
    · have hp' : (fd.gh.map some)[i]? = some (some p) := hp
      rw [List.getElem?_map, Option.map_eq_some_iff] at hp'
      obtain ⟨g, e1, e2⟩ := hp'
      cases e2
      obtain ⟨og, m, e3, e4⟩ := gl4 p (List.mem_of_getElem? e1)
      refine ⟨og, ghLab ys p, by rw [List.getElem?_map, e1]; rfl, ?_⟩
      have hlt := (List.getElem?_eq_some_iff.mp e3).1
      unfold labS plA
      rw [List.getElem?_append_left (by rw [List.length_map]; exact hlt), List.getElem?_map, e3]
      exact e4
  refine ⟨_, _, fd.gh.map (ghLab ys), S0, ?_⟩
  generalize hC : P.ctx fd.np fd.rb (vrun P k) = C at e ⊢
  have hfr : C.fr = fun i => decide (fd.np ≤ i) || fd.rb.contains i := by rw [← hC]; rfl
  have fin_ok : ∀ {σ' : L2.St} {H' : Hp} {A' B : SA} {s' : St} {τ' : List V} {fin : List M}, SR L H' σ' A' s' τ' → Stb H H' → Kp C.fr (start N (vsOf ys)) σ' → (∀ j m, B[j]? = some (some m) → A'[j]? = some (some m)) → finals fd.rb 0 (ers ys) (B.map (Option.map MA.er)) = some fin →
      ∃ ys' : List MA, ers ys' = fin ∧ vsOf ys' = vsOf ys ∧ HdL L H' ys' ∧ (adrs ys').Sublist (adrS B) ∧ (∀ j m, ys'[j]? = some m → fd.rb.contains j = false → B[j]? = some (some m)) ∧ (ghEnd fd.gh s' = true → (∃ τ0, τ' = τ0 ++ fd.gh.map (ghLab ys)) → GhK (P.kp f) ys ys') := fun {σ' H' A' B s' τ' fin} S' st K' hB ef => by
    obtain ⟨ys', g1, g2, g3, g4⟩ := fin_aux ef rbA
    refine ⟨ys', g1, ?_, HdL.of fun m hm => ?_, g3, fun j m hm hr => ?_, fun he ht => ?_⟩
    · unfold vsOf
      apply List.ext_getElem?
      intro j
      rw [List.getElem?_map, List.getElem?_map]
      cases ej : ys'[j]? with
      | none =>
        rw [List.getElem?_eq_none_iff, g2] at ej
        rw [List.getElem?_eq_none ej]
      | some m =>
        have hj : j < ys.length := g2 ▸ (List.getElem?_eq_some_iff.mp ej).1
        rcases g4 j m ej with ⟨_, h2⟩ | ⟨h1, h2⟩
        · rw [h2]
        · rw [Nat.zero_add] at h1
          have h3 := S'.val j m (hB j m h2)
          have h4 := K'.2 j (by rw [hfr]; simp only [h1, Bool.or_false, decide_eq_false_iff_not]; omega)
          rw [h3, eσ, List.getElem?_append_left (by rw [List.length_map]; exact hj), List.getElem?_map] at h4
          rw [List.getElem?_eq_getElem hj] at h4 ⊢
          simp only [Option.map_some, Option.some.injEq] at h4 ⊢
          rw [h4]
    · obtain ⟨j, hj⟩ := List.mem_iff_getElem?.mp hm
      rcases g4 j m hj with ⟨h1, h2⟩ | ⟨_, h2⟩
      · exact Hd.mono st (HdL.get hy h2) fun b hb => by rw [rbA j m h2 h1] at hb; simp at hb
      · exact S'.hd j m (hB j m h2)
    · rcases g4 j m hm with ⟨h1, _⟩ | ⟨_, h2⟩
      · rw [Nat.zero_add, hr] at h1; cases h1
      · exact h2
    · obtain ⟨τ0, rfl⟩ := ht
      intro g hg
      rw [kpE] at hg
      obtain ⟨og, m0, e3, e4⟩ := gl4 g hg
      refine ⟨og, fun i x x' ei ex ex' => ?_⟩
      rw [Nat.zero_add] at ei
      subst ei
      rw [e3] at ex; cases ex
      rcases g4 g.1 x' ex' with ⟨_, h2⟩ | ⟨_, h2⟩
      · rw [e3] at h2; cases h2; rfl
      · have h3 := hB g.1 x' h2
        obtain ⟨k, hk⟩ := List.mem_iff_getElem?.mp hg
        have hl : s'.tm.length - fd.gh.length = τ0.length := by rw [S'.tl]; simp
        unfold ghEnd at he
        rw [hl] at he
        obtain ⟨p, q1, q2, q3⟩ := sameT_get he k g hk
        rw [List.getElem?_drop] at q1
        obtain ⟨op, v, q4, q5⟩ := S'.tm _ p q1
        have := eqP_eq og op q3
        have pg : p = g := by cases p; cases g; simp_all
        subst pg
        rw [List.getElem?_append_right (by omega), Nat.add_sub_cancel_left, List.getElem?_map, hk] at q4
        cases q4
        rw [e4, ← q5]
        unfold labS plA
        rw [h3]; rfl
  have ysA : adrS (ys.map some ++ List.replicate kk none) = adrs ys := startA_adr ys
  cases ef : exs C fd.body (vstg fd.gh fd.n (ers ys)) with
  | bk s' => rw [ef] at e; simp [ghF, endC] at e
  | ct s' => rw [ef] at e; simp [ghF, endC] at e
  | no => rw [ef] at e; simp [ghF, endC] at e
  | exc x s' =>
    rw [ef] at e
    simp only [ghF] at e
    cases ge : ghEnd fd.gh s' with
    | false => rw [ge] at e; simp [fif, endC] at e
    | true =>
    rw [ge] at e
    simp only [fif, endC] at e
    cases e1 : finals fd.rb 0 (ers ys) s'.sl with
    | none => rw [e1] at e; simp [cs] at e
    | some fin =>
      rw [e1] at e
      simp only [cs] at e
      intro cls d σ' H' A' τ' S' P' K' R
      rw [S'.er] at e1
      obtain ⟨ys', g1, g2, g3, g4, g5, g6⟩ := fin_ok S' (P'.stb S0) K' (fun _ _ h => h) e1
      exact e cls d H' ys' g2 g1 g3 (fun b o hb hn => P'.ext b o hb (by rw [ysA]; exact hn)) (S'.nd.sublist g4) (fun b hb => by rw [← ysA]; exact P'.new b (by simp [g4.subset hb])) R
  | nx s' =>
    rw [ef] at e
    simp only [ghF] at e
    cases ge : ghEnd fd.gh s' with
    | false => rw [ge] at e; simp [fif, endC] at e
    | true =>
    rw [ge] at e
    simp only [fif, endC] at e
    cases e1 : finals fd.rb 0 (ers ys) s'.sl with
    | none => rw [e1] at e; simp [cs] at e
    | some fin' =>
      rw [e1] at e
      simp only [cs] at e
      intro σ' H' A' S' P' K'
      rw [S'.er] at e1
      obtain ⟨ys', g1, g2, g3, g4, g5, g6⟩ := fin_ok S' (P'.stb S0) K' (fun _ _ h => h) e1
      refine e .non H' ys' (some (.im nonM .non)) g2 g1 g3 (fun b o hb hn => P'.ext b o hb (by rw [ysA]; exact hn)) ?_ (fun b hb => ?_) ⟨rfl, rfl, .non⟩ (g6 ge ⟨[], rfl⟩)
      · simp only [adrO, MA.adr, List.append_nil]
        exact S'.nd.sublist g4
      · simp only [adrO, MA.adr, List.append_nil] at hb
        rw [← ysA]
        exact P'.new b (by simp [g4.subset hb])
  | rt r s' =>
    rw [ef] at e
    simp only [ghF] at e
    cases ge : ghEnd fd.gh s' with
    | false => rw [ge] at e; simp [fif, endC] at e
    | true =>
    rw [ge] at e
    simp only [fif, endC] at e
    cases e1 : finals fd.rb 0 (ers ys) s'.sl with
    | none => rw [e1] at e; simp [cs] at e
    | some fin' =>
      rw [e1] at e
      simp only [cs] at e
      intro v σ' H' A' y τ' S' P' K' R
      rw [S'.er] at e1
      have st := P'.stb S0
      have fr : ∀ b o, H b = some o → b ∉ adrs ys → H' b = some o := fun b o hb hn => P'.ext b o hb (by rw [ysA]; exact hn)
      cases r with
      | v m =>
        simp only [retC] at e
        obtain ⟨n, rfl, h1, h2, h3⟩ := R.v_inv
        obtain ⟨ys', g1, g2, g3, g4, g5, g6⟩ := fin_ok S' st K' (fun _ _ h => h) e1
        refine e v H' ys' (some n) g2 g1 g3 fr (P'.nd.sublist (List.Sublist.append g4 (List.Sublist.refl _))) (fun b hb => ?_) ⟨h1, h2, h3⟩ (g6 ge ⟨_, rfl⟩)
        rw [← ysA]
        refine P'.new b ?_
        rcases List.mem_append.mp hb with hb | hb
        · exact List.mem_append_left _ (g4.subset hb)
        · exact List.mem_append_right _ hb
      | p p =>
        obtain ⟨rfl, o, hl⟩ := R.p_inv
        simp only [retC] at e
        cases kp : keptP fd.np fd.rb p.1 with
        | true =>
          rw [kp] at e
          simp only [] at e
          unfold keptP at kp
          simp only [Bool.and_eq_true, decide_eq_true_eq, Bool.not_eq_true'] at kp
          obtain ⟨ys', g1, g2, g3, g4, g5, g6⟩ := fin_ok S' st K' (fun _ _ h => h) e1
          refine e v H' ys' none g2 g1 g3 fr (by simpa [adrO] using S'.nd.sublist g4) (fun b hb => ?_) ⟨o, ?_⟩ (g6 ge ⟨_, rfl⟩)
          · rw [← ysA]
            exact P'.new b (by simp only [adrO, List.append_nil] at hb; simp [g4.subset hb])
          · have hlt : p.1 < ys'.length := by
              have := congrArg List.length g2
              simp only [vsOf, List.length_map] at this
              omega
            have e2 : ys'[p.1]? = some ys'[p.1] := List.getElem?_eq_getElem hlt
            have := g5 p.1 _ e2 kp.2
            refine ⟨_, e2, ?_⟩
            unfold labS plA at hl
            rw [this] at hl
            exact hl
        | false =>
          rw [kp] at e
          simp only [] at e
          obtain ⟨x, hx, rfl⟩ := labS_pl hl
          rw [S'.get, hx] at e
          simp only [Option.map_some] at e
          have hx' := hx
          unfold plA at hx'
          simp only [Option.bind_eq_some_iff] at hx'
          obtain ⟨m, h1, h2⟩ := hx'
          have h1' := joinO_some.mp h1
          have hlt : p.1 < A'.length := (List.getElem?_eq_some_iff.mp h1').1
          obtain ⟨_, nd2, sub2⟩ := S'.away h1'
          have kp' : fd.rb.contains (0 + p.1) = true ∨ (ers ys).length ≤ p.1 := by
            unfold keptP at kp
            simp only [Bool.and_eq_false_iff, decide_eq_false_iff_not, Bool.not_eq_false'] at kp
            rw [Nat.zero_add, c1]
            rcases kp with kp | kp
            · exact .inr (by omega)
            · exact .inl kp
          have e2 : finals fd.rb 0 (ers ys) ((A'.set p.1 none).map (Option.map MA.er)) = some fin' := by
            rw [List.map_set]
            show finals fd.rb 0 (ers ys) ((A'.map (Option.map MA.er)).set p.1 none) = _
            rw [fin_set kp']; exact e1
          obtain ⟨ys', g1, g2, g3, g4, g5, g6⟩ := fin_ok (B := A'.set p.1 none) S' st K' (fun j m hj => by
            by_cases z : j = p.1
            · subst z; rw [List.getElem?_set_self hlt] at hj; cases hj
            · rw [List.getElem?_set_ne (Ne.symm z)] at hj; exact hj) e2
          have xm : ∀ b ∈ x.adr, b ∈ m.adr := getA_adr _ _ _ h2
          refine e x.v H' ys' (some x) g2 g1 g3 fr ?_ (fun b hb => ?_) ⟨rfl, rfl, S'.pl_hd hx⟩ (g6 ge ⟨_, rfl⟩)
          · refine List.nodup_append.mpr ⟨(List.nodup_append.mp nd2).1.sublist g4, plA_nd S' hx, fun a ha b hb z => ?_⟩
            subst z
            exact nd_left nd2 (g4.subset ha) (xm a hb)
          · rw [← ysA]
            refine P'.new b (List.mem_append_left _ ?_)
            rcases List.mem_append.mp hb with hb | hb
            · exact sub2 b (g4.subset hb)
            · exact adrS_mem h1' b (xm b hb)
theorem body_ok {P : Prog} {k f : Nat} {fd : Fd} {N : List Str} {vs : List V} {H : Hp} {Q : VK} (hf : P.fns[f]? = some fd) (hn : N.length = fd.n) (h : SpV L P (k + 1) f vs H Q) :
    TSs L (P.ctx fd.np fd.rb (vrun P k)) (fun _ _ _ _ => False) fd.body { nx := fun _ H' => Q .non H', rt := Q } (start N vs) H := body_okX (E := fun _ _ _ => False) hf hn h.toX
end
end Vm
end
section
namespace Vm
open PySem L2 PySem.Spec PyProof.Rows
structure FnG (P : Program) (w : World) (K : PySem.W.Frag) (mg : Str → Option Value) (base : Heap) (k : Nat) (f : Addr) (fd : FuncData) (ps : List Str) (sp : List V → Hp → VK → Prop) : Prop where
  len : ∀ vs H Q, sp vs H Q → vs.length = ps.length
  run : ∀ (A : Around) (outer : List Env) (s : Shared) (H : Hp) (args : Args) (us : List Value) (vs : List V) (Q : VK), Room (2 * k) A → A.guards = some [] → Env0 P w K mg base A outer s H → BindsTo s fd args (ps.zip us) → Vals vs us → sp vs H Q →
    codeAny (model P w) A (.call (.ref f) args) (fun r s' => ∃ u, r = .ok (.ret u) ∧ CE outer P w H s Q u s') s
abbrev E00 : XK := fun _ _ _ => False
theorem fn_ofG {P : Program} {w : World} {K : PySem.W.Frag} {mg : Str → Option Value} {base : Heap} {k : Nat} {x qual : Str} {st : Stmt} {f : Addr} {fd : FuncData} {N ps : List Str} {sp : List V → Hp → VK → Prop} (F : Fun K x qual st f fd) (S : FnScope N ps (defScope st)) (len : ∀ vs H Q, sp vs H Q → vs.length = ps.length)
    (hbody : ∀ (cdv : Value) (A : Around) (outer : List Env) (s : Shared) (H : Hp) (vs : List V) (Q : VK), Room (2 * k + 1) (A.deeper (envOfC qual (defScope st) s.heap.objs.size f cdv)) → (A.deeper (envOfC qual (defScope st) s.heap.objs.size f cdv)).guards = some [] → sp vs H Q →
      ∃ t, PSs (cxOf CX0 P w K mg base N qual (defScope st) f cdv A outer s H E00).nox (defBody st) t ∧ t { nx := fun _ H' => Q .non H', rt := Q } (start N vs) H) : FnG P w K mg base (k + 1) f fd ps sp := by
  obtain ⟨oc, od, kV, doc, pm, an, cdv, ct, osl, rfl, lk, hcd⟩ := F.ex
  refine ⟨len, fun A outer s H args us vs Q hr hgd e0 hb r hsp => ?_⟩
  have KX : K.In s.heap := e0.mod.kin.keeps fun b o e => (e0.bs b o e).1
  have lim : s.heap.NoLimit := e0.mod.nolimit.keeps fun b o e => (e0.bs b o e).1
  have hkind : ∀ y ∈ ps.zip us, (defScope st).names.lookup y.1 = some .local ∨ ((defScope st).names.lookup y.1 = some .cell ∧ ((cellsFrom (s.heap.objs.size + 1) (defScope st).names []).lookup y.1).isSome = true) := fun ⟨n, v⟩ hy =>
    (S.par n (List.of_mem_zip hy).1).imp id fun q => ⟨q, PySem.W.cellsFrom_some _ _ _ (.inl q)⟩
  refine codeAny_call_function hr.depth (KX _ _ lk) rfl S.co S.gen rfl (PySem.W.codeRec_of KX hcd) (hb _ _ _ _ ?_)
  refine wpAny_newFunctionEnv_cells S.kind hkind fun env he s1 q1 => ?_
  subst he
  refine ⟨lim.keeps q1.toInCall.keep, codeAny_func ?_⟩
  obtain ⟨t, ht, hq⟩ := hbody cdv A outer s H vs Q (hr.deeper _) hgd hsp
  have I : Inv (cxOf CX0 P w K mg base N qual (defScope st) f cdv A outer s H E00) [] (start N vs) H s1 := inv_start S hr.hd e0 (len _ _ _ hsp) r q1
  refine wpAny_mono (ht.run [] s1 (start N vs) H _ (I.wish _) hq) (fun fl s' hs => ?_) fun e s' hs => False.elim hs
  have done : ∀ {σ' : L2.St} {H' : Hp} {v : V} {u : Value}, Inv (cxOf CX0 P w K mg base N qual (defScope st) f cdv A outer s H E00) [] σ' H' s' → RelV v u → Q v H' → CE outer P w H s Q u s' :=
    fun {σ' H' v u} J rv z => ⟨v, H', J.os, J.bare, J.base, J.hok, rv, z⟩
  cases fl with
  | ret u =>
    obtain ⟨v, σ', H', J, rv, z⟩ := hs
    exact ⟨u, rfl, done J.unwish rv z⟩
  | next =>
    obtain ⟨σ', H', J, z⟩ := hs
    exact ⟨Value.none, rfl, done (v := V.non) (u := Value.none) J.unwish rfl z⟩
  | brk => obtain ⟨_, _, _, z⟩ := hs; exact False.elim z
  | cont => obtain ⟨_, _, _, z⟩ := hs; exact False.elim z
def FnAt (P : Program) (w : World) (K : PySem.W.Frag) (mg : Str → Option Value) (base : Heap) (L : Lnk) (P0 : Prog) (k : Nat) (a : Addr) (f : Nat) : Prop :=
  ∃ (fd : FuncData) (ps : List Str), PySem.W.keepIn K (.ref a) = true ∧ Binds K fd ps [] ∧ FnG P w K mg base k a fd ps (SpV L P0 k f)
def CallAt (P : Program) (w : World) (K : PySem.W.Frag) (mg : Str → Option Value) (base : Heap) (L : Lnk) (P0 : Prog) (k : Nat) (x : Str) (f : Nat) : Prop :=
  ∃ (a : Addr) (fd : FuncData) (ps : List Str), mg x = some (.ref a) ∧ PySem.W.keepIn K (.ref a) = true ∧ Binds K fd ps [] ∧ FnG P w K mg base k a fd ps (SpV L P0 k f)
section
variable {L : Lnk} {C : Ctx} {X : Cx} {Wx : WX}
theorem run_G {pins : List (Addr × Obj)} {σ : L2.St} {H : Hp} {s : Shared} {Q : VK} {us : List Value} {vs : List V} {k : Nat} {a : Addr} {fd : FuncData} {ps : List Str} {sp : List V → Hp → VK → Prop} (F : FnG X.prog X.w X.K X.mg X.base k a fd ps sp) (hr : Room (2 * k) X.A) (hgd : X.A.guards = some []) (hb : Binds X.K fd ps [])
    (I : Inv X pins σ H s) (r : Vals vs us) (h : sp vs H Q) : wpAny (model X.prog X.w) X.A (call (.ref a) us) (EP X pins σ Q) X.xe s := by
  have hl : (us ++ []).length = ps.length := by rw [List.append_nil, ← r.length]; exact F.len _ _ _ h
  have hb' := hb s us I.kIn hl
  rw [List.append_nil] at hb'
  refine wpAny_call (codeAny_mono (F.run X.A X.stack s H ⟨us, []⟩ us vs Q hr hgd I.env0 hb' r h) fun r s' hq => ?_)
  obtain ⟨u, rfl, hq⟩ := hq
  exact I.after hq
variable {k f : Nat} {P0 : Prog} {x : Str} {p pos : Pos} {e : Expr} {es : List Expr} {as : Es}
theorem s_call (hc : CallAt X.prog X.w X.K X.mg X.base L P0 k x f) (hr : Room (2 * k + 1) X.A) (hgd : X.A.guards = some []) (ha : PA X (e :: es) (TRs L C as)) (hC : C.call = vrun P0 k := by rfl) (hg : Gl X x := by rfl) (hdb : (x == ("__debug__" : Str)) = false := by decide)
    (he : starEach (e :: es) X.env = (false, eval e X.env) :: starEach es X.env := by rfl) (hpl : (backTo pos (starEach es X.env)).any (·.1) = false := by rfl) : PE X (.Call (.Name x p) (e :: es) [] pos) (TEv L C (.call f as)) := by
  obtain ⟨a, fd, ps, hm, hk, hb, F⟩ := hc
  refine ⟨fun pins s σ H Q I h => ?_⟩
  refine wpAny_Call_Name_kw (ld_glob I hg hm ?_ hdb)
  refine PySem.W.callWith_K (h₀ := X.base) I.ok.mod.kin hk (thn (ha.run pos pins s σ H _ I (call_red hC h)) fun us s1 ⟨vs, H1, I1, r, q⟩ => ⟨I1.kIn, ?_⟩) he hpl
  exact run_G F (hr.mono (Nat.le_succ _)) hgd hb I1 r q
end
theorem spV_len {L : Lnk} {P0 : Prog} {k f n : Nat} {vs : List V} {H : Hp} {Q : VK} (hf : ∀ fd, P0.fns[f]? = some fd → fd.np = n) (h : SpV L P0 k f vs H Q) : vs.length = n := by
  obtain ⟨ys, r, fin, rfl, _, _, _, e, _⟩ := h
  cases k with
  | zero => simp [vrun] at e
  | succ k =>
    unfold vrun at e
    cases ef : P0.fns[f]? with
    | none => rw [ef] at e; simp [cs] at e
    | some fd =>
      rw [ef] at e
      simp only [cs] at e
      cases c : ((ers ys).length == fd.np && decide (fd.np ≤ fd.n) && fd.rb.all (datAt (ers ys)) && ghOk fd.gh (ers ys)) with
      | false => rw [c] at e; simp [cif] at e
      | true =>
        simp only [Bool.and_eq_true, beq_iff_eq] at c
        rw [← hf fd ef, ← c.1.1.1, ers_map, List.length_map, vsOf, List.length_map]
theorem def_ok {P : Program} {w : World} {K : PySem.W.Frag} {mg : Str → Option Value} {base : Heap} {k f : Nat} {x qual : Str} {st : Stmt} {a : Addr} {fd : FuncData} {N ps : List Str} {L : Lnk} {P0 : Prog} {fv : Fd} (F : Fun K x qual st a fd) (S : FnScope N ps (defScope st))
    (hf : P0.fns[f]? = some fv) (hn : N.length = fv.n) (hp : fv.np = ps.length)
    (hbody : ∀ (cdv : Value) (A : Around) (outer : List Env) (s : Shared) (H : Hp), Room (2 * k + 1) (A.deeper (envOfC qual (defScope st) s.heap.objs.size a cdv)) → (A.deeper (envOfC qual (defScope st) s.heap.objs.size a cdv)).guards = some [] →
      PSs (cxOf CX0 P w K mg base N qual (defScope st) a cdv A outer s H E00).nox (defBody st) (TSs L (P0.ctx fv.np fv.rb (vrun P0 k)) (fun _ _ _ _ => False) fv.body)) : FnG P w K mg base (k + 1) a fd ps (SpV L P0 (k + 1) f) :=
  fn_ofG F S (fun vs H Q h => spV_len (fun fd' e => by rw [hf] at e; cases e; exact hp) h) fun cdv A outer s H vs Q hr hgd h => ⟨_, hbody cdv A outer s H hr hgd, body_ok hf hn h⟩
theorem def_zero {P : Program} {w : World} {K : PySem.W.Frag} {mg : Str → Option Value} {base : Heap} {f : Nat} {a : Addr} {fd : FuncData} {ps : List Str} {L : Lnk} {P0 : Prog} : FnG P w K mg base 0 a fd ps (SpV L P0 0 f) := by
  refine ⟨fun vs H Q h => ?_, fun A outer s H args us vs Q _ _ _ _ _ h => ?_⟩ <;>
  · obtain ⟨ys, r, fin, _, _, _, _, e, _⟩ := h
    simp [vrun] at e
end Vm
end
section
namespace Vm
open PySem L2 PySem.Spec PyProof.Rows
section
variable {P : Program} {w : World} {K : PySem.W.Frag} {mg mb : Str → Option Value} {k : Nat} {fa a : Addr} {fd : FuncData} {x : Str} {sp : List V → Hp → VK → Prop} {s₁ : Shared} {vs : List Value} {ns : List Int}
theorem law_goG (KX : K.In s₁.heap) (hns : s₁.heap.Ns mainGlobals mg) (hb : s₁.heap.Ns builtinsNs mb) (hbb : ∀ x : Str, x ≠ "__name__" → mb x = bootBuiltins x) (hlim : s₁.heap.NoLimit) (hg : s₁.gens = #[])
    (ha : s₁.heap.get? a = some { cls := .type "list", data := .seq vs.toArray }) (hr : Room (2 * k) callerA) (F : ∀ base : Heap, K.In base → base.Ns mainGlobals mg → FnG P w K mg base k fa fd [x] sp) (hbind : ∀ (s : Shared) (u : Value), BindsTo s fd ⟨[u], []⟩ [(x, u)])
    {H : Hp} (hO : Only H) (hok : HOk P w H s₁.heap) (hA : ∀ b, H b ≠ none → b = a) (hK : H a ≠ none → K.lookup a = none) (hsp : sp [.ref a] H (fun v _ => v = .bl true)) :
    codeAny (model P w) callerA (.call (.ref fa) ⟨[.ref a], []⟩) (fun r s' => r = .ok (.ret (.bool true)) ∧ OldK s₁.heap s'.heap ∧ s'.os = s₁.os ∧ AllBare s'.gens) s₁ := by
  have free : ∀ {b : Addr} {o : Obj}, s₁.heap.get? b = some o → (∀ vs n, o.data ≠ .seq vs n) → H b = none := fun {b o} e hd => by
    cases q : H b with
    | none => rfl
    | some u =>
      have := hA b (by rw [q]; simp)
      subst this
      rw [ha] at e; cases e
      exact absurd rfl (hd _ _)
  have dct : ∀ {b : Addr} {m : Str → Option Value}, s₁.heap.Ns b m → (hidT s₁.heap H).Ns b m := fun {b m} ⟨o, es, ep, e, d, r⟩ => ⟨o, es, ep, hidT_get e (free e fun vs n z => by rw [d] at z; cases z), d, r⟩
  have KB : K.In (hidT s₁.heap H) := fun b o e => hidT_get (KX b o e) (by
    cases q : H b with
    | none => rfl
    | some u =>
      have := hA b (by rw [q]; simp)
      subst this
      rw [hK (by rw [q]; simp)] at e; cases e)
  have e0 : Env0 P w K mg (hidT s₁.heap H) callerA [] s₁ H :=
    ⟨rfl, ⟨KB, dct hns, ⟨mb, dct hb, hbb⟩, let ⟨mc, h1, h2⟩ := hlim; ⟨mc, dct h1, h2⟩⟩, fun b o e => of_hidT e, Nat.le_of_eq (hidT_size _ _), trivial, fun b hb => absurd (show b ∈ ([] : List Addr) from hb) (by simp), hok, .of_eq hg⟩
  refine codeAny_mono ((F _ KB (dct hns)).run callerA [] s₁ H ⟨[.ref a], []⟩ [.ref a] [.ref a] _ hr rfl e0 (hbind s₁ (.ref a)) (.cons rfl .nil) hsp) fun r s' h => ?_
  obtain ⟨u, rfl, v, H', os, bare, un, hok', r', q⟩ := h
  cases (show v = .bl true from q)
  obtain rfl : u = Value.bool true := r'
  refine ⟨rfl, OldK.of_keep fun b o e => ?_, os, bare⟩
  rcases hO b with z | ⟨ob, xs, z⟩
  · exact un.keep b o e z (by intro z; exact absurd (show b ∈ ([] : List Addr) from z) (by simp)) (by simp)
  · obtain ⟨e1, _⟩ := hok b _ z
    obtain ⟨e2, _⟩ := hok' b _ (un.frzs b ob _ z)
    rw [e] at e1; cases e1
    exact e2
theorem law_callG (KX : K.In s₁.heap) (hns : s₁.heap.Ns mainGlobals mg) (hb : s₁.heap.Ns builtinsNs mb) (hbb : ∀ x : Str, x ≠ "__name__" → mb x = bootBuiltins x) (hlim : s₁.heap.NoLimit) (hg : s₁.gens = #[])
    (ha : s₁.heap.get? a = some { cls := .type "list", data := .seq vs.toArray }) (hi : IntsAre vs ns) (hl : ns.length ≤ sizeLine) (hr : Room (2 * k) callerA) (F : ∀ base : Heap, K.In base → base.Ns mainGlobals mg → FnG P w K mg base k fa fd [x] sp) (hbind : ∀ (s : Shared) (u : Value), BindsTo s fd ⟨[u], []⟩ [(x, u)])
    (hsp : ∀ H : Hp, SqF K H a (ns.map V.int) → sp [.ref a] H (fun v _ => v = .bl true)) :
    codeAny (model P w) callerA (.call (.ref fa) ⟨[.ref a], []⟩) (fun r s' => r = .ok (.ret (.bool true)) ∧ OldK s₁.heap s'.heap ∧ s'.os = s₁.os ∧ AllBare s'.gens) s₁ := by
  have rv := vals_ints hi
  cases hk : K.lookup a with
  | some o =>
    have e := KX a o hk
    rw [ha] at e
    cases e
    exact law_goG KX hns hb hbb hlim hg ha hr F hbind (H := fun _ => none) (fun _ => .inl rfl) (fun b u z => nomatch z) (fun b z => absurd rfl z) (fun z => absurd rfl z) (hsp _ (.inr ⟨_, vs.toArray, _, hk, rfl, rfl, rfl, by rw [List.size_toArray, hi.length]; exact hl, by simpa using rv⟩))
  | none =>
    have hH : (fun b => if b = a then some (HO.frz { cls := .type "list", data := .seq vs.toArray } (.lst (ns.map V.int))) else none : Hp) a = some (.frz { cls := .type "list", data := .seq vs.toArray } (.lst (ns.map V.int))) := if_pos rfl
    refine law_goG KX hns hb hbb hlim hg ha hr F hbind (H := fun b => if b = a then some (.frz { cls := .type "list", data := .seq vs.toArray } (.lst (ns.map V.int))) else none) (fun b => ?_) (fun b u z => ?_) (fun b z => ?_) (fun _ => hk) (hsp _ (.inl ⟨_, hH⟩))
    · by_cases hb : b = a
      · exact .inr ⟨_, _, if_pos hb⟩
      · exact .inl (if_neg hb)
    · by_cases hb : b = a
      · subst hb
        cases hH.symm.trans z
        exact ⟨ha, by rw [List.length_map]; exact hl, vs, _, rv, ha⟩
      · cases (if_neg hb).symm.trans z
    · by_cases hb : b = a
      · exact hb
      · exact absurd (if_neg hb) z
end
theorem spV_law {L : Lnk} {P0 : Prog} {k f : Nat} {H : Hp} {a : Addr} {ns : List Int} (gd : L.gd = []) (hS : SqF L.K H a (ns.map V.int)) (h : ∃ fin, vrun P0 k f [.d (.list (ns.map .int))] = .ok (.v (.d (.bool true))) fin) : SpV L P0 k f [.ref a] H (fun v _ => v = .bl true) := by
  obtain ⟨fin, e⟩ := h
  have ri : ∀ l : List Int, RpL L.K H (l.map V.int) (l.map PyData.int) := by
    intro l
    induction l with
    | nil => exact .nil
    | cons i l ih => exact .cons (.int i) ih
  refine ⟨[.im (.d (.list (ns.map .int))) (.ref a)], _, fin, rfl, ⟨Rp.lst hS (ri ns), trivial⟩, by simp [adrs, MA.adr], fun p hp => by rw [gd] at hp; simp at hp, e, fun v H' ys' y _ _ _ _ _ _ K _ => ?_⟩
  cases y with
  | none => exact K.elim
  | some n =>
    obtain ⟨h1, rfl, h3⟩ := K
    exact (h3.d_inv h1).bl_inv
theorem walkV {l : PySem.W.OpenLaw} {n k f : Nat} {q : Program} {loose : List Str} {XP : (Str → Option Value) → Heap → Prop} {YP : World → Heap → Prop} {d : DefRec} {K : Params → PySem.W.Frag} {x : Str} {P0 : Prog}
    (hn : l.most = some n) (hn2 : n ≤ sizeLine) (hdf : d.params.defaults = []) (hr : Room (2 * k) callerA) (hY : ∀ (w : World) (h : Heap), YP w h → (K w.params).In h)
    (F : ∀ (w : World) (mg : Str → Option Value) (fa : Addr) (h : Heap), (K w.params).In h → h.Ns mainGlobals mg → mg d.name = some (.ref fa) →
      ∃ (fd : FuncData) (L : Lnk), (∀ (s : Shared) (u : Value), BindsTo s fd ⟨[u], []⟩ [(x, u)]) ∧ L.K = K w.params ∧ L.gd = [] ∧ ∀ base : Heap, (K w.params).In base → base.Ns mainGlobals mg → FnG l.prog w (K w.params) mg base k fa fd [x] (SpV L P0 k f))
    (hv : ∀ ns : List Int, ns.length ≤ n → ∃ fin, vrun P0 k f [.d (.list (ns.map .int))] = .ok (.v (.d (.bool true))) fin) :
    PySem.W.WalkO q loose XP YP l.row.toRowW d [] (fun f vs => PySem.call f vs) := by
  refine Att.attach_call hn hdf fun w s₀ s₁ mg mb fa o pm cd doc a vs ns G Y ho hd hcd hmg hobj hints hlen hg => ?_
  have KX := hY w _ Y
  obtain ⟨fd, L, hb, hL, gd, hF⟩ := F w mg fa _ KX G.T.g hmg
  exact law_callG KX G.T.g G.T.b G.T.builtins G.T.nolimit hg hobj hints (Nat.le_trans hlen hn2) hr hF hb fun H hS => spV_law gd (hL ▸ hS) (hv ns hlen)
end Vm
end
section
namespace Vm
open PySem L2
section
variable {L : Lnk} {C : Ctx} {X : Cx}
theorem kids_okL {H H1 : Hp} {σ : L2.St} {A A1 : SA} {s1 s' : St} {τ : List V} {r : Rv} {y : Option MA} {v : V} {ms : List M} {m0 : M}
    (S1 : SR L H1 σ A1 s1 τ) (P1 : Pst H A H1 A1 (adrO y)) (K1 : RvOk L H1 A1 r y v) (ev : s1.val r = some m0) (hl : isL m0 = true) (e : kids r s1 = .ok ms s') :
    ∃ a, v = .ref a ∧ ∃ Y, (∀ b ∈ Y, ∃ u, H1 b = some u ∧ Mut (some u)) ∧ Y.Nodup ∧ ∀ H2, Lockd Y H1 H2 →
      ∃ A2 ys, SR L H2 σ A2 s' τ ∧ Pst H A H2 A2 (adrs ys) ∧ ers ys = ms ∧ HdL L H2 ys ∧ SqL L.K H2 a (vsOf ys) := by
  cases r with
  | v m =>
    cases ev
    obtain ⟨n, rfl, h1, rfl, h3⟩ := K1.v_inv
    obtain ⟨ms', e1, e2⟩ := rs_ok (show (rs (asSeq m0) fun ms => .ok ms s1) = .ok ms s' from e)
    cases e2
    unfold asSeq at e1
    split at e1
    · cases e1
      cases n with
      | im m v => simp only [MA.er] at h1; subst h1; exact h3.elim
      | dct a ns => simp [MA.er] at h1
      | obj a c ns => simp [MA.er] at h1
      | dnn a ns => simp [MA.er] at h1
      | lst a ns =>
        simp only [MA.er, M.lst.injEq] at h1
        refine ⟨a, rfl, [], (fun b hb => by simp at hb), List.nodup_nil, fun H2 k => ?_⟩
        cases Lockd.nil_eq k
        refine ⟨A1, ns, S1, P1.less (fun b hb => by simp [adrO, MA.adr, hb]) ?_, h1, h3.2, .inl (.inl h3.1)⟩
        exact (List.nodup_cons.mp P1.fnd).2
    · rename_i xs
      cases e1
      obtain ⟨a, vs, hv, g1, g2⟩ := (h3.d_inv h1).lst_inv
      refine ⟨a, hv, [], (fun b hb => by simp at hb), List.nodup_nil, fun H2 k => ?_⟩
      cases Lockd.nil_eq k
      obtain ⟨i1, i2, i3, i4⟩ := imD_ok (L := L) g2
      exact ⟨A1, imD xs vs, S1, by rw [i3]; exact P1.nil, i2, i4, by rw [i1]; exact g1.sql⟩
    · simp [isL] at hl
    · cases e1
  | p p =>
    obtain ⟨rfl, o, h⟩ := K1.p_inv
    have P1' : Pst H A H1 A1 ([] ++ []) := by simpa [adrO] using P1
    obtain ⟨a, ns, rfl, hp, Y, hm, nd, hy, k1⟩ := kidsP_ok (G := []) S1 (by simpa [adrO] using P1) o h e
    refine ⟨a, rfl, Y, hm, nd, fun H2 k => ?_⟩
    obtain ⟨A3, zs, S3, P3, z1, z2, z3, z4, z5, z6⟩ := k1 H2 k
    exact ⟨A3, zs, S3, by rw [z2]; exact P3, z1, z3, .inl (.inl z4)⟩
theorem c_datL {b : Bf} {f : Value} {r0 : List V → Hp → VK → Prop} {g : List D → Option D} (hb : ∀ s rv, bfR C s b rv = fSeqL b s rv) (hg : ∀ ms s, biR b ms none s = okV ((frzs ms).bind g) s .d) (h : CallR X f r0)
    (hk : ∀ (a : Addr) (vs : List V) (xs : List D) (z : D) (H4 : Hp) (Q : VK), SqL L.K H4 a vs → RpL L.K H4 vs xs → g xs = some z → (∀ v, Rp L.K H4 v z → Q v H4) → r0 [.ref a] H4 Q) : CallR X f (RC L (gBf C b)) := by
  refine CallR.mono (CallR.lk (CallR.lk h)) ?_
  rintro xs H2 Q ⟨σ, H, A, A2, s, τ, rv, ys, r, s', S, P, Ks, e, q⟩
  replace e : fSeqL b s rv = .ok r s' := by rw [← hb]; exact e
  unfold fSeqL at e
  split at e
  rotate_left
  · cases e
  rename_i r1
  obtain ⟨y, v, rfl, rfl, K⟩ := Ks.one
  obtain ⟨m0, e0, e⟩ := rs_ok e
  obtain ⟨hl, e⟩ := rif_ok e
  obtain ⟨ms, s1, e1, e2⟩ := bd_ok e
  simp only [adrOs, List.append_nil] at P
  obtain ⟨a, rfl, Y, hm, nd, k⟩ := kids_okL S P K e0 hl e1
  refine ⟨Y, hm, nd, fun H3 l => ?_⟩
  obtain ⟨A3, zs, S3, P3, rfl, z2, z3⟩ := k H3 l
  rw [hg] at e2
  obtain ⟨z, t1, rfl, rfl⟩ := okV_ok e2
  simp only [Option.bind_eq_some_iff] at t1
  obtain ⟨ds, t2, t3⟩ := t1
  obtain ⟨hm, nd, k⟩ := lk_items S3 P3 z2 t2
  refine ⟨adrs zs, hm, nd, fun H4 l => ?_⟩
  obtain ⟨S4, P4, rp⟩ := k H4 l
  exact hk a (vsOf zs) ds z H4 Q (Vm.SqL.lockd l hm z3) rp t3 fun v hv => Fin.im q S4 P4 hv
theorem c_sum (hK : X.K = L.K) (hc : X.calm = true) : CallR X (.builtin "sum") (RC L (gBf C .sum)) :=
  c_datL (g := fun xs => (intsD xs).map fun is => .int is.sum) (fun _ _ => rfl) (fun ms s => by
    show okV ((frzs ms).bind intsD) s (fun is => M.d (.int is.sum)) = _
    cases frzs ms with
    | none => rfl
    | some xs =>
      simp only [Option.bind_some]
      cases intsD xs <;> rfl) (cr_sum hc) fun a vs xs z H4 Q hs rp e q => by
    obtain ⟨is, e1, rfl⟩ := Option.map_eq_some_iff.mp e
    have := intsD_ok rp e1
    subst this
    exact ⟨a, is, rfl, hK ▸ hs, q _ (.int _)⟩
theorem c_all (hK : X.K = L.K) (hc : X.calm = true) : CallR X (.builtin "all") (RC L (gBf C .all)) :=
  c_datL (g := fun xs => (boolsD xs).map fun is => .bool (is.all id)) (fun _ _ => rfl) (fun ms s => by
    show okV ((frzs ms).bind boolsD) s (fun is => M.d (.bool (is.all id))) = _
    cases frzs ms with
    | none => rfl
    | some xs =>
      simp only [Option.bind_some]
      cases boolsD xs <;> rfl) (cr_all hc) fun a vs xs z H4 Q hs rp e q => by
    obtain ⟨is, e1, rfl⟩ := Option.map_eq_some_iff.mp e
    have := boolsD_ok rp e1
    subst this
    exact ⟨a, is, rfl, hK ▸ hs, q _ (.bl _)⟩
theorem strs_ok {K : PySem.W.Frag} {H : Hp} : ∀ {ms : List M} {zs : List MA} {xs : List Str}, HdL L H zs → ers zs = ms → strsOf ms = some xs → vsOf zs = xs.map V.str ∧ ∀ x ∈ xs, sOk x
  | [], zs, xs, _, e, e2 => by
    cases zs with
    | cons z zs => simp [ers] at e
    | nil => simp [strsOf] at e2; subst e2; exact ⟨rfl, fun x hx => by simp at hx⟩
  | m :: ms, zs, xs, h, e, e2 => by
    cases zs with
    | nil => simp [ers] at e
    | cons z zs =>
      simp only [ers, List.cons.injEq] at e
      simp only [strsOf, Option.bind_eq_some_iff] at e2
      obtain ⟨x, ⟨d, f1, f2⟩, xs', f3, f4⟩ := e2
      cases f4
      obtain ⟨i1, i2⟩ := strs_ok (K := K) h.2 e.2 f3
      have hd := mdat_some f1
      cases asStr_some f2
      obtain ⟨h1, h2⟩ := (h.1.d_inv (e.1.trans hd)).str_inv
      refine ⟨by simp only [vsOf, List.map_cons, h1]; rw [← i1]; rfl, fun y hy => ?_⟩
      rcases List.mem_cons.mp hy with rfl | hy
      · exact h2
      · exact i2 y hy
theorem join_l (z : Str) : ∀ xs : List Str, (Str.join z xs).cps.toList = joinL z xs
  | [] => rfl
  | [x] => rfl
  | x :: y :: r => by
    show ((x ++ z ++ Str.join z (y :: r) : Str)).cps.toList = _
    simp only [joinL]
    rw [← join_l z (y :: r)]
    show (x.cps ++ z.cps ++ (Str.join z (y :: r)).cps).toList = _
    simp [strL]
theorem join_eq (z : Str) (xs : List Str) : PySem.Txt.join z xs = mkStr (joinL z xs) := by
  have h : PySem.Txt.join z xs = Str.join z xs := PySem.StrLaws.glued_eq_join z xs
  rw [h, ← join_l]
  rfl
theorem joinL_ok {z : Str} (hz : sOk z) : ∀ {xs : List Str}, (∀ x ∈ xs, sOk x) → ∀ c ∈ joinL z xs, c < 0x110000
  | [], _, c, hc => by simp [joinL] at hc
  | [x], h, c, hc => (h x (by simp)).2 c hc
  | x :: y :: r, h, c, hc => by
    simp only [joinL, List.mem_append] at hc
    rcases hc with (hc | hc) | hc
    · exact (h x (by simp)).2 c hc
    · exact hz.2 c hc
    · exact joinL_ok hz (fun w hw => h w (by simp only [List.mem_cons] at hw ⊢; exact .inr hw)) c hc
theorem mt_join' (hK : X.K = L.K) : MtR X "str.join" (RM L (bmR .join)) := by
  refine MtR.mono mt_join ?_
  rintro x xs H2 Q ⟨σ, H, A, A2, s, τ, ro, rv, yo, ys, r, s', S, P, Ko, Ks, e, q⟩
  obtain ⟨o, e1, e2⟩ := rs_ok e
  obtain ⟨z, e3, e4⟩ := rs_ok (show (rs (o.dat.bind asStr) fun z => bJoin s z rv) = .ok r s' from e2)
  simp only [Option.bind_eq_some_iff] at e3
  obtain ⟨d, f1, f2⟩ := e3
  cases mdat_some f1
  cases asStr_some f2
  obtain ⟨zo, hz1, rfl, hzo, _⟩ := val_at S Ko e1
  obtain ⟨hzv, zok⟩ := (hzo.d_inv hz1).str_inv
  unfold bJoin at e4
  split at e4
  rotate_left
  · cases e4
  rename_i r1
  obtain ⟨y1, v1, rfl, rfl, K1⟩ := Ks.one
  obtain ⟨ts, e5, e6⟩ := rs_ok e4
  obtain ⟨c, e7⟩ := rif_ok e6
  cases e7
  simp only [Option.bind_eq_some_iff] at e5
  obtain ⟨ms, ⟨m, g1, g2⟩, g3⟩ := e5
  simp only [decide_eq_true_eq] at c
  obtain ⟨zv, hz2, rfl, hzv2, _⟩ := val_at S K1 g1
  have fin : ∀ {p : Addr} {zs : List MA}, zv.v = .ref p → ers zs = ms → HdL L H2 zs → (SqL X.K H2 p (vsOf zs) ∨ SqT X.K H2 p (vsOf zs)) →
      ∃ a p, ∃ ys : List Str, zo.v = .str a ∧ [zv.v] = [.ref p] ∧ (SqL X.K H2 p (ys.map V.str) ∨ SqT X.K H2 p (ys.map V.str)) ∧ (ys.map (·.length)).sum + ys.length * a.length ≤ 16777216 ∧ Q (.str (PySem.Txt.join a ys)) H2 := fun {p zs} hp he hh hs => by
    obtain ⟨i1, i2⟩ := strs_ok (K := L.K) hh he g3
    refine ⟨z, p, ts, hzv, by rw [hp], by rw [← i1]; exact hs, by have := c.2; unfold line at this; have e9 : (ts.map (fun x => x.length)).sum = (ts.map Str.length).sum := rfl; omega, ?_⟩
    rw [join_eq]
    refine Fin.im q S P (Rp.str _ ⟨?_, joinL_ok zok i2⟩)
    have h1 := c.1
    have e8 : (mkStr (joinL z ts)).length = joinLen z ts := by unfold mkStr joinLen; simp [Str.length]
    rw [e8, sizeLine_eq]
    exact h1
  cases zv with
  | im mm v =>
    simp only [MA.er] at hz2
    subst hz2
    unfold asSeq at g2
    split at g2
    · exact hzv2.elim
    · cases g2
      obtain ⟨a, vs, hv, h1, h2⟩ := Rp.lst_inv hzv2
      obtain ⟨i1, i2, i3, i4⟩ := imD_ok (L := L) h2
      exact fin hv i2 i4 (.inl (by rw [i1, hK]; exact h1.sql))
    · cases g2
      obtain ⟨a, vs, hv, h1, h2⟩ := Rp.tup_inv hzv2
      obtain ⟨i1, i2, i3, i4⟩ := imD_ok (L := L) h2
      exact fin hv i2 i4 (.inr (by rw [i1, hK]; exact h1))
    · cases g2
  | lst a ns =>
    simp only [MA.er] at hz2
    subst hz2
    cases g2
    exact fin rfl rfl hzv2.2 (.inl (.inl (.inl hzv2.1)))
  | dct a ns => simp only [MA.er] at hz2; subst hz2; simp [asSeq] at g2
  | obj a c ns => simp only [MA.er] at hz2; subst hz2; simp [asSeq] at g2
  | dnn a ns => simp only [MA.er] at hz2; subst hz2; simp [asSeq] at g2
end
end Vm
end
section
namespace Vm
open PySem L2
theorem adrs_set : ∀ {ns : List MA} {n : Nat} {w : MA}, ns[n]? = some w → ∃ l r, adrs ns = l ++ w.adr ++ r ∧ ∀ y, adrs (ns.set n y) = l ++ y.adr ++ r
  | [], _, _, e => by simp at e
  | x :: ns, 0, w, e => by simp at e; subst e; exact ⟨[], adrs ns, by simp [adrs], fun y => by simp [adrs]⟩
  | x :: ns, n + 1, w, e => by
    obtain ⟨l, r, h1, h2⟩ := adrs_set (ns := ns) (n := n) (w := w) (by simpa using e)
    exact ⟨x.adr ++ l, r, by simp [adrs, h1], fun y => by simp [adrs, h2]⟩
theorem HdL.set {L : Lnk} {H : Hp} {z : MA} (hz : Hd L H z) : ∀ {ns : List MA} {n : Nat}, HdL L H ns → HdL L H (ns.set n z)
  | [], _, h => by simpa using h
  | _ :: _, 0, h => ⟨hz, h.2⟩
  | _ :: _, _ + 1, h => ⟨h.1, HdL.set hz h.2⟩
theorem isPre_drop {c : Acc} : ∀ {p r : List Acc}, isPre p r = true → isPre (p ++ [c]) r = isPre [c] (r.drop p.length)
  | [], r, _ => by simp
  | a :: p, [], h => by simp [isPre] at h
  | a :: p, b :: r, h => by
    simp only [isPre, Bool.and_eq_true] at h
    simp only [List.cons_append, isPre, h.1, Bool.true_and, List.length_cons, List.drop_succ_cons]
    rw [isPre_drop h.2]
theorem nix_ixN {n : Nat} {i : Int} {j : Nat} (h : nix n i = some j) : L2.ixN n i = some j := h
section
variable {L : Lnk} {C : Ctx} {X : Cx}
end
end Vm
end
section
namespace Vm
open PySem L2
theorem HdK.append {L : Lnk} {H : Hp} : ∀ {a b : List (D × MA)}, HdK L H a → HdK L H b → HdK L H (a ++ b)
  | [], _, _, h => h
  | _ :: _, _, h, k => ⟨h.1, HdK.append h.2 k⟩
def Kv.len : Kv → Nat | .nil => 0 | .cons _ _ r => r.len + 1
section
variable {L : Lnk} {C : Ctx} {X : Cx}
def trsOf (L : Lnk) (C : Ctx) : Kv → List (TE × TE)
  | .nil => []
  | .cons k v r => (TEv L C k, TEl L C v) :: trsOf L C r
end
end Vm
end
section
namespace Vm
open PySem L2
theorem rv_app : ∀ o, recv .append o = true → ∃ ms, o = .lst ms := fun o h => by cases o <;> first | exact ⟨_, rfl⟩ | cases h
theorem rv_pop : ∀ o, recv .pop o = true → ∃ ms, o = .lst ms := fun o h => by cases o <;> first | exact ⟨_, rfl⟩ | cases h
theorem rv_join : ∀ o, recv .join o = true → ∃ x, o = .d (.str x) := fun o h => by
  cases o with
  | d x => cases x <;> first | exact ⟨_, rfl⟩ | cases h
  | _ => cases h
def Lk (K : PySem.W.Frag) (w : World) : Lnk := { K := K, hw := NestedKey.hash w, fa := fun _ => none, ca := fun _ => none, fl := fun _ => Str.empty, ct := ctN, gd := [] }
end Vm
end
section
namespace Vm
open PySem L2
theorem erk_put (k : D) (z : MA) : ∀ ns : List (D × MA), erk (putD k z ns) = putD k z.er (erk ns)
  | [] => rfl
  | (j, m) :: r => by
    simp only [putD, erk]
    split
    · rfl
    · simp only [erk, erk_put k z r]
theorem kvOf_len : ∀ {ns : List (D × MA)} {l : List (Key × V)}, kvOf ns = some l → l.length = ns.length
  | [], _, h => by cases h; rfl
  | (k, m) :: r, l, h => by
    simp only [kvOf, Option.bind_eq_some_iff] at h
    obtain ⟨j, h1, l', h2, h3⟩ := h
    cases h3
    simp [kvOf_len h2]
theorem putK_ne {j k : Key} {v w : V} (h : j ≠ k) (l : List (Key × V)) : putK ((j, w) :: l) k v = (j, w) :: putK l k v := by
  unfold putK
  simp only [List.any_cons, h, decide_false, Bool.false_or, List.map_cons, if_false]
  split <;> rfl
theorem putK_eq {k : Key} {v w : V} {l : List (Key × V)} (h : k ∉ l.map (·.1)) : putK ((k, w) :: l) k v = (k, v) :: l := by
  unfold putK
  simp only [List.any_cons, decide_true, Bool.true_or, if_true, List.map_cons, List.cons.injEq, true_and]
  conv => rhs; rw [← List.map_id l]
  refine List.map_congr_left fun a ha => ?_
  have : ¬ a.1 = k := fun e => h (List.mem_map.mpr ⟨a, ha, e⟩)
  simp [this]
theorem kvOf_put {k : D} {kk : Key} {z : MA} (hk : toKey k = some kk) : ∀ {ns : List (D × MA)} {l : List (Key × V)}, kvOf ns = some l → (l.map (·.1)).Nodup → kvOf (putD k z ns) = some (putK l kk z.v)
  | [], l, h, _ => by cases h; simp [putD, kvOf, hk, putK]
  | (d, m) :: r, l, h, nd => by
    simp only [kvOf, Option.bind_eq_some_iff] at h
    obtain ⟨j, h1, l', h2, h3⟩ := h
    cases h3
    simp only [List.map_cons, List.nodup_cons] at nd
    simp only [putD]
    split
    · rename_i e
      have := (eqv_key d k (toKey_isKey h1) (toKey_isKey hk)).mp e
      subst this
      rw [hk] at h1; cases h1
      rw [putK_eq nd.1]
      simp [kvOf, hk, h2]
    · rename_i e
      have hjk : j ≠ kk := fun q => e ((eqv_key d k (toKey_isKey h1) (toKey_isKey hk)).mpr (toKey_inj h1 (q ▸ hk)))
      rw [putK_ne hjk]
      simp [kvOf, h1, kvOf_put hk h2 nd.2]
theorem adrk_put (k : D) (z : MA) : ∀ ns : List (D × MA), ∃ l w r, adrk ns = l ++ w ++ r ∧ adrk (putD k z ns) = l ++ z.adr ++ r
  | [] => ⟨[], [], [], rfl, by simp [putD, adrk]⟩
  | (j, m) :: ns => by
    simp only [putD]
    split
    · exact ⟨[], m.adr, adrk ns, by simp [adrk], by simp [adrk]⟩
    · obtain ⟨l, w, r, h1, h2⟩ := adrk_put k z ns
      exact ⟨m.adr ++ l, w, r, by simp [adrk, h1], by simp [adrk, h2]⟩
theorem HdK.put {L : Lnk} {H : Hp} {k : D} {z : MA} (hz : Hd L H z) : ∀ {ns : List (D × MA)}, HdK L H ns → HdK L H (putD k z ns)
  | [], _ => ⟨hz, trivial⟩
  | (j, m) :: ns, h => by
    simp only [putD]
    split
    · exact ⟨hz, h.2⟩
    · exact ⟨h.1, HdK.put hz h.2⟩
theorem lk_put {k c : D} {z : MA} (hk : isKey k = true) : ∀ {ns : List (D × MA)}, (∀ p ∈ ns, isKey p.1 = true) → PyData.eqv k c = false → lkD c (putD k z ns) = lkD c ns
  | [], _, h => by simp [putD, lkD, h]
  | (j, m) :: ns, hj, h => by
    simp only [putD]
    split
    · rename_i e
      have := (eqv_key j k (hj (j, m) (by simp)) hk).mp e
      subst this
      simp [lkD, h]
    · simp only [lkD]
      rw [lk_put hk (fun p hp => hj p (by simp [hp])) h]
theorem HdK.updA {L : Lnk} {H : Hp} {ns : List (D × MA)} {a : Addr} {o : HO} (mu : ∃ u, H a = some u ∧ Mut (some u)) (h : HdK L H ns) (ha : a ∉ adrk ns) : HdK L (upd H a o) ns :=
  HdK.mono (upd_stb' mu) h fun b hb => upd_ne fun z => ha (z ▸ hb)
section
variable {L : Lnk} {C : Ctx} {X : Cx} {Wx : WX}
theorem wr_dict {H0 H : Hp} {σ : L2.St} {A0 A : SA} {s : St} {τ : List V} {p : Pth} {a : Addr} {ns ns' : List (D × MA)} {l' : List (Key × V)} {kf : Pth → Bool} {F G : List Addr} (S : SR L H σ A s τ) (P : Pst H0 A0 H A F) (ok : okP p.2) (hp : plA A p = some (.dct a ns))
    (hl : kvOf ns' = some l') (h' : HdK L H ns') (sub : ∀ b ∈ adrk ns' ++ G, b ∈ adrk ns ++ F) (nd : (adrk ns' ++ G).Nodup) (na : a ∉ adrk ns' ++ G)
    (hk : ∀ r : Pth, r.1 = p.1 → isPre p.2 r.2 = true → kf r = false → ∀ v, labA (.dct a ns) (r.2.drop p.2.length) = some v → labA (.dct a ns') (r.2.drop p.2.length) = some v) :
    ∃ A', SR L (upd H a (.dK l')) σ A' ((s.put p (.dct (erk ns'))).kill kf) τ ∧ Pst H0 A0 (upd H a (.dK l')) A' G ∧ plA A' p = some (.dct a ns') := by
  have mu : ∃ u, H a = some u ∧ Mut (some u) := S.mut a (SR.pl_adr hp a (by simp [MA.adr]))
  exact wr_any (x' := .dct a ns') S P ok hp rfl (by simp [MA.adr]) ⟨⟨l', hl, upd_same⟩, h'.updA mu fun h => na (by simp [h])⟩
    (fun b hb => by
      simp only [MA.adr, List.cons_append, List.mem_cons] at hb ⊢
      rcases hb with hb | hb
      · exact .inl hb
      · exact .inr (sub b hb))
    (by simp only [MA.adr, List.cons_append]; exact List.nodup_cons.mpr ⟨na, nd⟩) hk
theorem dct_at {H : Hp} {σ : L2.St} {A : SA} {s : St} {τ : List V} {p : Pth} {v : V} {kvs : List (D × M)} (S : SR L H σ A s τ) (h : labS A p = some v) (e : (s.get p).bind M.dcts = some kvs) : ∃ a ns l, v = .ref a ∧ plA A p = some (.dct a ns) ∧ erk ns = kvs ∧ kvOf ns = some l ∧ H a = some (.dK l) ∧ HdK L H ns := by
  obtain ⟨x, hx, rfl⟩ := labS_pl h
  rw [S.get, hx] at e
  simp only [Option.map_some, Option.bind_some] at e
  have hd := S.pl_hd hx
  cases x with
  | im m v =>
    cases m with
    | dct _ => exact hd.elim
    | _ => simp [MA.er, M.dcts] at e
  | lst a ms => simp [MA.er, M.dcts] at e
  | obj a c fs => simp [MA.er, M.dcts] at e
  | dnn a fs => simp [MA.er, M.dcts] at e
  | dct a ns =>
    simp only [MA.er, M.dcts, Option.some.injEq] at e
    subst e
    obtain ⟨l, h1, h2⟩ := hd.1
    exact ⟨a, ns, l, rfl, hx, rfl, h1, h2, hd.2⟩
theorem dnn_at {H : Hp} {σ : L2.St} {A : SA} {s : St} {τ : List V} {p : Pth} {v : V} {kvs : List (D × D)} (S : SR L H σ A s τ) (h : labS A p = some v) (e : s.get p = some (.dnn kvs)) : ∃ a l, v = .ref a ∧ plA A p = some (.dnn a kvs) ∧ H a = some (NRaw L.hw a l) ∧ NP L.K H l kvs ∧ (kvs.map (·.1)).Nodup := by
  obtain ⟨x, hx, rfl⟩ := labS_pl h
  rw [S.get, hx] at e
  simp only [Option.map_some, Option.some.injEq] at e
  have hd := S.pl_hd hx
  cases x with
  | im m v =>
    cases m with
    | dnn _ => exact hd.elim
    | _ => simp [MA.er] at e
  | lst a ms => simp [MA.er] at e
  | obj a c fs => simp [MA.er] at e
  | dct a ns => simp [MA.er] at e
  | dnn a ns =>
    simp only [MA.er, M.dnn.injEq] at e
    subst e
    obtain ⟨⟨l, h1, h2⟩, h3, _⟩ := hd
    exact ⟨a, l, rfl, hx, h1, h2, h3⟩
def rSetDN : TSet := fun o i v H Q => ∃ a H', o = .ref a ∧ DPut H a i v H' ∧ ((∀ kvs, H a = some (.dK kvs) → (kvs.map (·.1)).Nodup) → Q H')
theorem set_dictN (hu : X.A.units + 1 < cLine) : PSet X rSetDN := by
  intro pins s σ H o i v ov iv u Q I ro ri rv h
  obtain ⟨a, H', eo, g, q⟩ := h
  subst eo
  cases (show ov = Value.ref a from ro)
  refine d_setItem hu I g ri rv fun s' I' => ⟨H', I', q fun kvs e => ?_⟩
  obtain ⟨_, _, vs, kv, _, _, _, _, _, _, _, _, nd⟩ := dk_of I.hok e
  rw [kv.keys]; exact nd
theorem st_subO (hu : X.A.units + 1 < cLine) {tg ee : Expr} {a ie e : E} {pos : Pos} (he : PE X ee (TEv L C e)) (htg : PG X tg (gSub (TEv L C a) (TEv L C ie) rSetL)) (htd : PG X tg (gSub (TEv L C a) (TEv L C ie) rSetDN)) (htn : PG X tg (gSub (TEv L C a) (TEv L C ie) (rSetN L))) (hs : swapsWithSole [tg] ee pos.line X.env = pure false := by rfl) (hw : swappedStores [tg] ee X.env = pure none := by rfl)
    (h1 : (assignEach [tg] X.env).map (·.2) = [assign tg X.env] := by rfl) : PS X (.Assign [tg] ee pos) (TSt L C Wx (.asg (.sub a ie) e)) :=
  PS.mono (ps_asg (s_el he) (PG.or htg (PG.or htd htn)) hs hw h1) fun D σ H ⟨A, s, τ, S, q⟩ => by
    rw [ex] at q
    obtain ⟨r, s1, e1, q⟩ := fl_ok q
    refine ⟨A, s, τ, r, s1, S, e1, fun v H1 A1 y S1 P1 K1 => ?_⟩
    obtain ⟨m, s2, e2, q1⟩ := fl_ok (show FlOk L C Wx ((sto r s1).fl fun m s => (ev C a s).fl fun ro s => (hold ro s (ev C ie) fun ro ri s => Res.ok (ro, ri) s).fl fun rr s => fs rr.2.dat fun i => fs rr.1.pth fun p => fs (s.get p) fun o => setM p m s o i) σ H A τ D from q)
    obtain ⟨ro, s3, e3, q2⟩ := fl_ok q1
    obtain ⟨rr, s4, e4, q3⟩ := fl_ok q2
    obtain ⟨Y, hm, nd, hA, k⟩ := sto_ok (G := []) S1 (by simpa using P1) (fun b hb => by simp at hb) K1 e2
    refine ⟨Y, hm, nd, fun H2 l => ?_⟩
    obtain ⟨A2, z, S2, P2, z1, z2, z3⟩ := k H2 l
    simp only [List.nil_append] at P2
    obtain ⟨di, f1, q4⟩ := fs_ok q3
    obtain ⟨p, f2, q5⟩ := fs_ok q4
    obtain ⟨om, f3, q6⟩ := fs_ok q5
    clear q3 q4 q5
    have kind : (∃ ms, om = .lst ms) ∨ (∃ kvs, om = .dct kvs) ∨ ∃ kvs, om = .dnn kvs := by
      cases om with
      | lst ms => exact .inl ⟨ms, rfl⟩
      | dct ms => exact .inr (.inl ⟨ms, rfl⟩)
      | dnn ms => exact .inr (.inr ⟨ms, rfl⟩)
      | _ => exact q6.elim
    rcases kind with ⟨ms, rfl⟩ | ⟨kvs, rfl⟩ | ⟨kvs, rfl⟩
    · refine .inl ⟨A2, s2, τ, ro, s3, S2, e3, fun o H3 A3 yo S3 P3 K3 => ?_⟩
      obtain ⟨τ1, s3', ri, s4', S3', e5, k⟩ := hold_ok S3 P3 K3 e4
      refine ⟨A3, s3', τ1, ri, s4', S3', e5, fun iv H4 A4 yi S4 P4 K4 => ?_⟩
      obtain ⟨ro', s5, e6, S5, K5⟩ := k H4 A4 _ S4 P4
      cases e6
      have f1' : ri.dat = some di := f1
      have f2' : ro'.pth = some p := f2
      cases ro' with
      | v m => cases f2'
      | p p' =>
      cases f2'
      cases dat_some f1'
      obtain ⟨rfl, op, hl⟩ := K5.p_inv
      have hz3 : Hd L H3 z := Hd.over P2 S2 P3 z3 fun b hb => hb
      have tz : ∀ b ∈ z.adr, ∃ u, H2 b = some u := fun b hb => by obtain ⟨u, e, _⟩ := Hd.mut z3 b hb; exact ⟨u, e⟩
      have P3n : Pst H2 A2 H3 A3 [] := P3.nil
      have P23 : Pst H A H3 A3 z.adr := by simpa using P2.trans P3n tz
      have hz4 : Hd L H4 z := Hd.over P23 S3 P4 hz3 fun b hb => hb
      have P24 : Pst H A H4 A4 z.adr := by
        have := P23.trans P4.nil fun b hb => by obtain ⟨u, e, _⟩ := Hd.mut hz3 b hb; exact ⟨u, e⟩
        simpa using this
      obtain ⟨i, g1, q7⟩ := fs_ok (show FlOk L C Wx (fs (asInt di) fun i => fs (nix ms.length i) fun n => .nx ((s4.put p (.lst (ms.set n m))).kill fun q => atOrUnder (p.1, p.2 ++ [.ix n]) q)) σ H A τ D from q6)
      obtain ⟨n, g2, q8⟩ := fs_ok q7
      have g1' := asInt_some g1
      subst g1'
      have hi := K4.d_inv.int_inv
      obtain ⟨ad, ns, rfl, hp, rfl, hH, hN⟩ := lst_at (ms := ms) S5 hl (by rw [f3]; rfl)
      have hlen : (ers ns).length = ns.length := by rw [ers_map, List.length_map]
      rw [hlen] at g2
      have hn : n < ns.length := by
        unfold nix at g2
        split at g2
        · split at g2
          · cases g2; omega
          · cases g2
        · split at g2
          · cases g2; omega
          · cases g2
      obtain ⟨l1, r1, a1, a2⟩ := adrs_set (ns := ns) (n := n) (List.getElem?_eq_getElem hn)
      have nd0 := plA_nd S5 hp
      have inA : ∀ b ∈ (MA.lst ad ns).adr, b ∈ adrS A4 := SR.pl_adr hp
      have nz : ∀ b ∈ z.adr, b ∉ (MA.lst ad ns).adr := fun b hb h => nd_left P24.nd (inA b h) hb
      have sub : ∀ b ∈ adrs (ns.set n z), b ∈ adrs ns ∨ b ∈ z.adr := fun b hb => by
        rw [a2] at hb
        rw [a1]
        simp only [List.mem_append] at hb ⊢
        rcases hb with (hb | hb) | hb
        · exact .inl (.inl (.inl hb))
        · exact .inr hb
        · exact .inl (.inr hb)
      have w := wr_list (kf := fun q => atOrUnder (p.1, p.2 ++ [.ix n]) q) (ns' := ns.set n z) (G := []) S5 P24 op hp (HdL.set hz4 hN)
        (fun b hb => by simp only [List.append_nil] at hb; exact List.mem_append.mpr (sub b hb))
        (by
          simp only [List.append_nil]
          rw [a2]
          have n1 := (List.nodup_cons.mp nd0).2
          rw [a1] at n1
          have t := nd_swap (l := l1) (X := ns[n].adr) (r := r1) (F := []) (X' := []) (G := []) (by simpa using n1) (fun b hb => by simp at hb) (by simp)
          simp only [List.append_nil] at t
          have t2 := List.nodup_append.mp t
          refine List.nodup_append.mpr ⟨List.nodup_append.mpr ⟨t2.1, P24.fnd, fun x hx b hb q => ?_⟩, t2.2.1, fun x hx b hb q => ?_⟩
          · subst q
            exact nz x hb (by simp only [MA.adr, a1, List.mem_cons, List.mem_append]; exact .inr (.inl (.inl hx)))
          · subst q
            rcases List.mem_append.mp hx with hx | hx
            · exact t2.2.2 x hx x hb rfl
            · exact nz x hx (by simp only [MA.adr, a1, List.mem_cons, List.mem_append]; exact .inr (.inr hb)))
        (by
          simp only [List.append_nil]
          intro h
          rcases sub ad h with h | h
          · exact (List.nodup_cons.mp nd0).1 h
          · exact nz ad h (by simp [MA.adr]))
        (fun r h1 h2 h3 v hv => by
          have h3' : isPre (p.2 ++ [.ix n]) r.2 = false := by
            unfold atOrUnder at h3
            simpa [h1] using h3
          rw [isPre_drop h2] at h3'
          generalize r.2.drop p.2.length = t at h3' hv ⊢
          cases t with
          | nil => exact hv
          | cons c t =>
            cases c with
            | ky k => simp [labA, MA.getA] at hv
            | fd k => simp [labA, MA.getA] at hv
            | ix j =>
              have hj : n ≠ j := by
                intro z
                subst z
                simp [isPre, accEq] at h3'
              unfold labA at hv ⊢
              simp only [MA.getA] at hv ⊢
              rw [List.getElem?_set_ne hj]
              exact hv)
      obtain ⟨A5, S6, P6, _⟩ := w
      refine ⟨ad, vsOf ns, i, n, rfl, hi, hH, nix_ixN (by simpa [vsOf] using g2), ?_⟩
      have e7 : vsOf (ns.set n z) = (vsOf ns).set n v := by simp [vsOf, List.map_set, z2]
      have e8 : ers (ns.set n z) = (ers ns).set n m := by simp [ers_map, List.map_set, z1]
      rw [← e7]
      rw [e8] at S6
      exact q8 _ _ _ S6 P6.nil (Kp.refl σ)
    · refine .inr (.inl ⟨A2, s2, τ, ro, s3, S2, e3, fun o H3 A3 yo S3 P3 K3 => ?_⟩)
      obtain ⟨τ1, s3', ri, s4', S3', e5, k⟩ := hold_ok S3 P3 K3 e4
      refine ⟨A3, s3', τ1, ri, s4', S3', e5, fun iv H4 A4 yi S4 P4 K4 => ?_⟩
      obtain ⟨ro', s5, e6, S5, K5⟩ := k H4 A4 _ S4 P4
      cases e6
      have f1' : ri.dat = some di := f1
      have f2' : ro'.pth = some p := f2
      cases ro' with
      | v m => cases f2'
      | p p' =>
      cases f2'
      cases dat_some f1'
      obtain ⟨rfl, op, hl⟩ := K5.p_inv
      have hz3 : Hd L H3 z := Hd.over P2 S2 P3 z3 fun b hb => hb
      have tz : ∀ b ∈ z.adr, ∃ u, H2 b = some u := fun b hb => by obtain ⟨u, e, _⟩ := Hd.mut z3 b hb; exact ⟨u, e⟩
      have P3n : Pst H2 A2 H3 A3 [] := P3.nil
      have P23 : Pst H A H3 A3 z.adr := by simpa using P2.trans P3n tz
      have hz4 : Hd L H4 z := Hd.over P23 S3 P4 hz3 fun b hb => hb
      have P24 : Pst H A H4 A4 z.adr := by
        have := P23.trans P4.nil fun b hb => by obtain ⟨u, e, _⟩ := Hd.mut hz3 b hb; exact ⟨u, e⟩
        simpa using this
      obtain ⟨c, q7⟩ := fif_ok (show FlOk L C Wx (fif (isKK di && decide (kvs.length < line)) (.nx ((s4.put p (.dct (putD di m kvs))).kill fun q => atOrUnder (p.1, p.2 ++ [.ky di]) q))) σ H A τ D from q6)
      simp only [Bool.and_eq_true, decide_eq_true_eq] at c
      obtain ⟨kk, hkk⟩ := isKK_to c.1
      have hki := toKey_isKey hkk
      have hiv : iv = kV kk := toKey_kV K4.d_inv hkk
      obtain ⟨ad, ns, l, rfl, hp, rfl, hl2, hH, hN⟩ := dct_at (kvs := kvs) S5 hl (by rw [f3]; rfl)
      have hlen : l.length = (erk ns).length := by rw [kvOf_len hl2, erk_len]
      refine ⟨ad, upd H4 ad (.dK (putK l kk v)), rfl, ?_, fun hnd => ?_⟩
      · rw [hiv]
        exact DPut.k hH (by rw [hlen]; unfold line at c; rw [sizeLine_eq]; exact c.2)
      have hndl := hnd l hH
      have nd0 := plA_nd S5 hp
      have inA : ∀ b ∈ (MA.dct ad ns).adr, b ∈ adrS A4 := SR.pl_adr hp
      have nz : ∀ b ∈ z.adr, b ∉ (MA.dct ad ns).adr := fun b hb h => nd_left P24.nd (inA b h) hb
      obtain ⟨l1, w1, r1, a1, a2⟩ := adrk_put di z ns
      have hput := kvOf_put hkk hl2 hndl (z := z)
      have w := wr_dict (kf := fun q => atOrUnder (p.1, p.2 ++ [.ky di]) q) (ns' := putD di z ns) (l' := putK l kk z.v) (G := []) S5 P24 op hp hput (HdK.put hz4 hN)
        (fun b hb => by
          simp only [List.append_nil] at hb
          rw [a2] at hb
          simp only [List.mem_append] at hb ⊢
          rw [a1]
          simp only [List.mem_append]
          rcases hb with (hb | hb) | hb
          · exact .inl (.inl (.inl hb))
          · exact .inr hb
          · exact .inl (.inr hb))
        (by
          simp only [List.append_nil]
          rw [a2]
          have n1 := (List.nodup_cons.mp nd0).2
          rw [a1] at n1
          have t := nd_swap (l := l1) (X := w1) (r := r1) (F := []) (X' := []) (G := []) (by simpa using n1) (fun b hb => by simp at hb) (by simp)
          simp only [List.append_nil] at t
          have t2 := List.nodup_append.mp t
          refine List.nodup_append.mpr ⟨List.nodup_append.mpr ⟨t2.1, P24.fnd, fun x hx b hb q => ?_⟩, t2.2.1, fun x hx b hb q => ?_⟩
          · subst q
            exact nz x hb (by simp only [MA.adr, a1, List.mem_cons, List.mem_append]; exact .inr (.inl (.inl hx)))
          · subst q
            rcases List.mem_append.mp hx with hx | hx
            · exact t2.2.2 x hx x hb rfl
            · exact nz x hx (by simp only [MA.adr, a1, List.mem_cons, List.mem_append]; exact .inr (.inr hb)))
        (by
          simp only [List.append_nil]
          intro h
          rw [a2] at h
          simp only [List.mem_append] at h
          rcases h with (h | h) | h
          · exact (List.nodup_cons.mp nd0).1 (by rw [a1]; simp [h])
          · exact nz ad h (by simp [MA.adr])
          · exact (List.nodup_cons.mp nd0).1 (by rw [a1]; simp [h]))
        (fun r h1 h2 h3 v hv => by
          have h3' : isPre (p.2 ++ [.ky di]) r.2 = false := by
            unfold atOrUnder at h3
            simpa [h1] using h3
          rw [isPre_drop h2] at h3'
          generalize r.2.drop p.2.length = t at h3' hv ⊢
          cases t with
          | nil => exact hv
          | cons c t =>
            cases c with
            | ix k => simp [labA, MA.getA] at hv
            | fd k => simp [labA, MA.getA] at hv
            | ky j =>
              have hj : PyData.eqv di j = false := by simpa [isPre, accEq] using h3'
              unfold labA at hv ⊢
              simp only [MA.getA] at hv ⊢
              rw [lk_put hki (kvOf_keys hl2) hj]
              exact hv)
      obtain ⟨A5, S6, P6, _⟩ := w
      have e8 : erk (putD di z ns) = putD di m (erk ns) := by rw [erk_put, z1]
      rw [z2] at S6 P6
      rw [e8] at S6
      exact q7 _ _ _ S6 P6.nil (Kp.refl σ)
    · refine .inr (.inr ⟨A2, s2, τ, ro, s3, S2, e3, fun o H3 A3 yo S3 P3 K3 => ?_⟩)
      obtain ⟨τ1, s3', ri, s4', S3', e5, k⟩ := hold_ok S3 P3 K3 e4
      refine ⟨A3, s3', τ1, ri, s4', S3', e5, fun iv H4 A4 yi S4 P4 K4 => ?_⟩
      obtain ⟨ro', s5, e6, S5, K5⟩ := k H4 A4 _ S4 P4
      cases e6
      have f1' : ri.dat = some di := f1
      have f2' : ro'.pth = some p := f2
      cases ro' with
      | v m => cases f2'
      | p p' =>
      cases f2'
      cases dat_some f1'
      obtain ⟨rfl, op, hl⟩ := K5.p_inv
      have hz3 : Hd L H3 z := Hd.over P2 S2 P3 z3 fun b hb => hb
      have tz : ∀ b ∈ z.adr, ∃ u, H2 b = some u := fun b hb => by obtain ⟨u, e, _⟩ := Hd.mut z3 b hb; exact ⟨u, e⟩
      have P3n : Pst H2 A2 H3 A3 [] := P3.nil
      have P23 : Pst H A H3 A3 z.adr := by simpa using P2.trans P3n tz
      have hz4 : Hd L H4 z := Hd.over P23 S3 P4 hz3 fun b hb => hb
      have P24 : Pst H A H4 A4 z.adr := by
        have := P23.trans P4.nil fun b hb => by obtain ⟨u, e, _⟩ := Hd.mut hz3 b hb; exact ⟨u, e⟩
        simpa using this
      obtain ⟨dz, g0, q7⟩ := fs_ok (show FlOk L C Wx (fs m.dat fun x => fif (isNK di && decide (kvs.length < line)) (.nx ((s4.put p (.dnn (putD di x kvs))).kill (under p)))) σ H A τ D from q6)
      obtain ⟨c, q8⟩ := fif_ok q7
      simp only [Bool.and_eq_true, decide_eq_true_eq] at c
      cases mdat_some g0
      obtain ⟨ad, l, rfl, hp, hH, hN, hnd⟩ := dnn_at (kvs := kvs) S5 hl f3
      have hv : Rp L.K H4 v dz := z2 ▸ hz4.d_inv z1
      have hz0 : z.adr = [] := mut_er (by rw [z1]; rfl)
      rw [hz0] at P24
      refine ⟨ad, di, dz, kvs, l, rfl, hH, hN, hnd, by unfold line at c; rw [sizeLine_eq]; exact c.2, c.1, K4.d_inv, hv, fun l' hl' => ?_⟩
      have mu : ∃ u, H4 ad = some u ∧ Mut (some u) := ⟨_, hH, True.intro⟩
      have st := upd_stb' (o := NRaw L.hw ad l') mu
      have w := wr_any (kf := under p) (x' := .dnn ad (putD di dz kvs)) (o := NRaw L.hw ad l') (G := []) S5 P24 op hp rfl (by simp [MA.adr])
        ⟨⟨l', upd_same, hl'.mono st⟩, putD_nodup (np_keys hN) (isNK_key c.1) hnd, by have := putD_len (j := di) (z := dz) (kvs := kvs); have c2 := c.2; unfold line at c2; rw [sizeLine_eq]; omega⟩
        (fun b hb => by simpa [MA.adr] using hb) (by simp [MA.adr])
        (fun r h1 h2 h3 v hv => by
          generalize r.2.drop p.2.length = t at hv ⊢
          cases t with
          | nil => exact hv
          | cons c t => simp [labA, MA.getA] at hv)
      obtain ⟨A5, S6, P6, _⟩ := w
      exact q8 _ _ _ S6 P6.nil (Kp.refl σ)
end
end Vm
end
section
namespace Vm
open PySem L2 PySem.Spec PyProof.Rows
section
variable {L : Lnk} {C : Ctx} {X : Cx}
def rIdxG (K : PySem.W.Frag) (mk : List D → D) : V → List V → Hp → VK → Prop := fun x xs H Q => ∃ (a : Addr) (y : V) (d : PyData) (ds : List PyData) (j : Nat) (z : PyData), x = V.ref a ∧ xs = [y] ∧ Dp K H (V.ref a) (mk ds) ∧ Dp K H y d ∧
  PyData.canLayAll0 ds = true ∧ d.canLay0 = true ∧ d.depth ≤ 64 ∧ ds.length ≤ sizeLine ∧ ds[j]? = some z ∧ PyData.eqv z d = true ∧ (∀ (m : Nat) (z' : PyData), m < j → ds[m]? = some z' → PyData.eqv z' d = false) ∧ Q (.int (j : Nat)) H
def rCntG (K : PySem.W.Frag) : V → List V → Hp → VK → Prop := fun x xs H Q => ∃ (a : Addr) (y : V) (d : PyData) (ds : List PyData), x = V.ref a ∧ xs = [y] ∧ Dp K H (V.ref a) (.list ds) ∧ Dp K H y d ∧
  PyData.canLayAll0 ds = true ∧ d.canLay0 = true ∧ d.depth ≤ 64 ∧ Q (.int (ds.countP fun z => PyData.eqv z d)) H
end
end Vm
end
section
namespace Vm
open PySem L2 PySem.Spec PyProof.Rows
section
variable {L : Lnk} {C : Ctx} {X : Cx}
def rMaxDf (K : PySem.W.Frag) : List V → List V → Hp → VK → Prop := fun xs zs H Q => ∃ (a : Addr) (is : List Int) (d : Int), xs = [.ref a] ∧ zs = [.int d] ∧ (SqL K H a (is.map V.int) ∨ SqT K H a (is.map V.int)) ∧ Q (.int (match is with | [] => d | i :: is => maxI i is)) H
theorem CallRK.lk {f : Value} {ks : List Str} {r : List V → List V → Hp → VK → Prop} (h : CallRK X f ks r) : CallRK X f ks (fun xs zs H Q => ∃ Y : List Addr, (∀ b ∈ Y, ∃ u, H b = some u ∧ Mut (some u)) ∧ Y.Nodup ∧ ∀ H2, Lockd Y H H2 → r xs zs H2 Q) :=
  fun pins s σ H xs zs us ws Q I r1 r2 ⟨Y, hm, nd, q⟩ => by
    obtain ⟨H2, I2, k⟩ := Inv.locks I hm nd
    exact h pins s σ H2 xs zs us ws Q I2 r1 r2 (q H2 k)
def rSortG (K : PySem.W.Frag) (w : V → D → Prop) : List V → Hp → VK → Prop := fun xs H Q => ∃ (a : Addr) (vs : List V) (ds : List D), xs = [.ref a] ∧ (SqL K H a vs) ∧ vs.length = ds.length ∧ (∀ p ∈ vs.zip ds, Dp K H p.1 p.2 ∧ w p.1 p.2) ∧
  ds.length ≤ sizeLine ∧ PySem.W.AllAlike ds ∧ PySem.W.Sortable ds ∧ (∀ d ∈ ds, d.depth ≤ 64) ∧ ∀ (ys : List V) (p : Addr), ys.length = ds.length → (∀ q ∈ ys.zip (sortD ds), w q.1 q.2) → H p = none → Q (.ref p) (upd H p (.lst ys))
end
end Vm
end
section
namespace Vm
open PySem L2 PySem.Spec PyProof.Rows
section
variable {L : Lnk} {C : Ctx} {X : Cx}
theorem RpL.zip {K : PySem.W.Frag} {H : Hp} : ∀ {vs : List V} {ds : List D}, RpL K H vs ds → ∀ q ∈ vs.zip ds, Rp K H q.1 q.2
  | _, _, .nil, q, hq => by simp at hq
  | _, _, .cons h r, q, hq => by
    simp only [List.zip_cons_cons, List.mem_cons] at hq
    rcases hq with rfl | hq
    · exact h
    · exact RpL.zip r q hq
def rSortDk : List V → Hp → VK → Prop := fun xs H Q => ∃ (a : Addr) (kvs : List (Key × V)) (ks : List Str), xs = [.ref a] ∧ Rd H a (.dK kvs) ∧ kvs.map (·.1) = ks.map Sum.inr ∧ ks.length < 64 ∧
    ∀ ys p, ys.Perm ks → sortedS ys = true → H p = none → Q (.ref p) (upd H p (.lst (ys.map V.str)))
end
end Vm
end
section
namespace Vm
open PySem L2
theorem hu1 {k : Nat} {A : Around} (hr : Room k A) : A.units + 1 < cLine := by have := hr.un; omega
end Vm
end
section
namespace Vm
open PySem L2 PySem.Spec PyProof.Rows
section
variable {L : Lnk} {C : Ctx} {X : Cx}
def rMinG (K : PySem.W.Frag) : List V → Hp → VK → Prop := fun xs H Q => ∃ (a : Addr) (vs : List V) (ds : List D) (z : D), xs = [.ref a] ∧ SqL K H a vs ∧ RpL K H vs ds ∧ minO ds = some z ∧ ∀ v, Rp K H v z → Q v H
end
end Vm
end
section
namespace Vm
open PySem L2 PySem.Spec PyProof.Rows
section
variable {L : Lnk} {C : Ctx} {X : Cx}
def TupAt (K : PySem.W.Frag) (u : Value) (vs : List V) : Prop := ∃ (a : Addr) (o : Obj) (its : Array Value) (n : Nat), u = .ref a ∧ K.lookup a = some o ∧ o.cls = .type "tuple" ∧ o.data = .seq its n ∧ its.size ≤ sizeLine ∧ Vals vs its.toList ∧ o.dict = none
theorem s_tupc {g : Nat} {x : Str} {u : Value} {vs : List V} {ds : List D} {p : Pos} (hg : C.glo[g]? = some (.d (.tuple ds))) (hm : X.mg x = some u) (ht : TupAt X.K u vs) (hr : ∀ H, RpL L.K H vs ds) (hK : X.K = L.K) (hgl : Gl X x := by rfl) (hd : (x == ("__debug__" : Str)) = false := by decide) :
    PE X (.Name x p) (TEv L C (.glo g)) := by
  obtain ⟨a, o, its, n, rfl, h1, h2, h3, h4, h5, h6⟩ := ht
  exact s_glo hg (pe_glob (v := .ref a) hgl hm rfl hd) fun H _ => Rp.tup (.inr ⟨o, its, n, hK ▸ h1, h2, h3, h4, h5, h6⟩) (hr H)
end
end Vm
end
section
namespace Vm
open PySem L2 PySem.Spec PyProof.Rows
theorem HdF.put {L : Lnk} {H : Hp} {f : Nat} {z : MA} (hz : Hd L H z) : ∀ {ns : List (Nat × MA)}, HdF L H ns → HdF L H (putN f z ns)
  | [], _ => ⟨hz, trivial⟩
  | (j, m) :: ns, h => by
    simp only [putN]
    split
    · exact ⟨hz, h.2⟩
    · exact ⟨h.1, HdF.put hz h.2⟩
theorem HdF.updA {L : Lnk} {H : Hp} {ns : List (Nat × MA)} {a : Addr} {o : HO} (mu : ∃ u, H a = some u ∧ Mut (some u)) (h : HdF L H ns) (ha : a ∉ adrf ns) : HdF L (upd H a o) ns :=
  HdF.mono (upd_stb' mu) h fun b hb => upd_ne fun z => ha (z ▸ hb)
section
variable {L : Lnk} {C : Ctx} {X : Cx} {Wx : WX}
structure ClOk (L : Lnk) : Prop where
  cls : ∀ c A, L.ca c = some A → Cls L.K A
  inj : ∀ i j, L.fl i = L.fl j → i = j
end
end Vm
end
section
namespace Vm
open PySem L2 PySem.Spec PyProof.Rows
section
variable {L : Lnk} {C : Ctx} {X : Cx}
variable {k : Nat} {P0 : Prog}
def MethAt (P : Program) (w : World) (K : PySem.W.Frag) (mg : Str → Option Value) (base : Heap) (L : Lnk) (P0 : Prog) (k : Nat) (c : Nat) (m : Str) (f : Nat) : Prop :=
  ∃ CA g, L.ca c = some CA ∧ Meth K CA m g ∧ FnAt P w K mg base L P0 k g f
def tMethG (C : Addr) (m : Str) (sp : List V → Hp → VK → Prop) (ta : TE) (t : TA) : TE := fun σ H Q => ta σ H fun x H1 => ∃ a dx fs, x = .ref a ∧ H1 a = some (.ins C dx fs) ∧ fs.lookup m = none ∧
  t σ H1 fun vs H2 => sp (x :: vs) H2 Q
end
end Vm
end
section
namespace Vm
open PySem L2 PySem.Spec PyProof.Rows
inductive Sk where | l (a : Addr) | t (a : Addr) | s (x : Str)
def Sk.v : Sk → V | .l a => .ref a | .t a => .ref a | .s x => .str x
def Sk.adr : Sk → List Addr | .l a => [a] | .t a => [a] | .s _ => []
def SkAt (K : PySem.W.Frag) (H : Hp) : Sk → List V → Prop
  | .l a, xs => SqL K H a xs
  | .t a, xs => SqT K H a xs
  | .s x, xs => xs = x.cps.toList.map fun c => V.str ⟨#[c]⟩
def SkIt (h : Heap) (it : Addr) : Sk → Tok → Nat → Prop
  | .l a, _, i => h.IsListIter it a i
  | .t a, _, i => h.IsTupleIter it a i
  | .s x, t, i => h.IsStrIter it (strIterType x) x t i
theorem SkIt.at {h h' : Heap} {it : Addr} {k : Sk} {t : Tok} {i : Nat} (x : SkIt h it k t i) (e : ∀ o, h.get? it = some o → h'.get? it = some o) : SkIt h' it k t i := by
  cases k with
  | l a => exact Heap.IsListIter.at x e
  | t a => exact Heap.IsTupleIter.at x e
  | s y => obtain ⟨o, a, b, c⟩ := x; exact ⟨o, e o a, b, c⟩
theorem SkIt.there {h : Heap} {it : Addr} {k : Sk} {t : Tok} {i : Nat} (x : SkIt h it k t i) : ∃ o, h.get? it = some o ∧ ∀ v, o.data ≠ .cell v := by
  cases k with
  | l a => obtain ⟨o, e, _, d⟩ := x; exact ⟨o, e, fun v q => by rw [d] at q; cases q⟩
  | t a => obtain ⟨o, e, _, d⟩ := x; exact ⟨o, e, fun v q => by rw [d] at q; cases q⟩
  | s y => obtain ⟨o, e, _, d⟩ := x; exact ⟨o, e, fun v q => by rw [d] at q; cases q⟩
section
variable {X : Cx} {pins : List (Addr × Obj)} {σ : L2.St} {H : Hp} {s : Shared}
theorem SkAt.inj (I : Inv X pins σ H s) {k : Sk} {xs ys : List V} (h : SkAt X.K H k xs) (h' : SkAt X.K H k ys) : xs = ys := by
  cases k with
  | l a => exact I.list_inj h h'
  | t a => exact I.tuple_inj h h'
  | s x => exact h.trans h'.symm
theorem Draws.weak {prog : Program} {w : World} {A : Around} {it : Addr} {fp : List Addr} {n : Nat} {P P' : Nat → Value → Prop} {St : Nat → Heap → Prop} (D : Draws prog w A it fp n P St) (h : ∀ i v, P i v → P' i v) : Draws prog w A it fp n P' St where
  live := D.live
  frame := D.frame
  item := fun i s Q E hi st hQ => D.item i s Q E hi st fun x h' tk p => hQ x h' tk (h _ _ p)
  done := D.done
theorem sk_draws {A : Around} (hh : A.handled = none) (I : Inv X pins σ H s) {k : Sk} {xs : List V} (h : SkAt X.K H k xs) (it : Addr) (t : Tok) (ne : ∀ b ∈ k.adr, b ≠ it) :
    ∃ St : Nat → Heap → Prop, Draws X.prog X.w A it (it :: k.adr) xs.length (fun i u => ∃ x, xs[i]? = some x ∧ RelV x u) St ∧ (∀ i, SkIt s.heap it k t i → St i s.heap) ∧ ∀ i h', St i h' → SkIt h' it k t i := by
  have get : ∀ {its : List Value} {i : Nat} {u : Value}, Vals xs its → its.toArray[i]? = some u → ∃ x, xs[i]? = some x ∧ RelV x u := fun {its i u} r e => by
    have e' : its[i]? = some u := by simpa using e
    cases q : xs[i]? with
    | none => rw [r.none_of q] at e'; cases e'
    | some x =>
      obtain ⟨u', h1, h2⟩ := r.get q
      rw [e'] at h1; cases h1
      exact ⟨x, rfl, h2⟩
  cases k with
  | l a =>
    obtain ⟨its, r, p, hz⟩ := I.list h
    have D := Draws.list (prog := X.prog) (w := X.w) (A := A) hh it a (ne a (by simp [Sk.adr])) its.toArray
    have hl : its.toArray.size = xs.length := by rw [List.size_toArray, r.length]
    rw [hl] at D
    exact ⟨_, Draws.weak D fun i u e => get r e, fun i hi => ⟨hi, p.isList⟩, fun i h' st => st.1⟩
  | t a =>
    obtain ⟨its, r, p, hz⟩ := I.tuple h
    have D := Draws.tuple (prog := X.prog) (w := X.w) (A := A) hh it a (ne a (by simp [Sk.adr])) its.toArray
    have hl : its.toArray.size = xs.length := by rw [List.size_toArray, r.length]
    rw [hl] at D
    exact ⟨_, Draws.weak D fun i u e => get r e, fun i hi => ⟨hi, p⟩, fun i h' st => st.1⟩
  | s x =>
    have D := Draws.text (prog := X.prog) (w := X.w) (A := A) hh it x t
    have h' : xs = x.cps.toList.map fun c => V.str ⟨#[c]⟩ := h
    have hl : x.cps.size = xs.length := by rw [h']; simp
    rw [hl] at D
    refine ⟨_, Draws.weak D fun i u e => ?_, fun i hi => hi, fun i h' st => st⟩
    obtain ⟨c, tk, e1, rfl⟩ := e
    refine ⟨.str ⟨#[c]⟩, ?_, ⟨tk, rfl⟩⟩
    rw [h', List.getElem?_map, Array.getElem?_toList, e1]; rfl
theorem SkAt.lt (I : Inv X pins σ H s) {k : Sk} {xs : List V} (h : SkAt X.K H k xs) : ∀ b ∈ k.adr, b < s.heap.objs.size := by
  cases k with
  | l a => intro b hb; simp [Sk.adr] at hb; subst hb; obtain ⟨_, _, p, _⟩ := I.list h; exact p.lt
  | t a => intro b hb; simp [Sk.adr] at hb; subst hb; obtain ⟨_, _, p, _⟩ := I.tuple h; obtain ⟨o, e, _⟩ := p; exact Heap.lt_size e
  | s x => intro b hb; simp [Sk.adr] at hb
theorem sk_begins (I : Inv X pins σ H s) {k : Sk} {xs : List V} {u : Value} (h : SkAt X.K H k xs) (r : RelV k.v u) : ∃ (o : Obj) (B : Heap → Prop) (t : Tok), Begins u o B ∧ B s.heap ∧ ∀ (h' : Heap) (it : Addr), h'.get? it = some o → SkIt h' it k t 0 := by
  cases k with
  | l a =>
    obtain ⟨its, rv, p, hz⟩ := I.list h
    cases r
    exact ⟨_, _, s.toks, begins_list a its.toArray, p.isList, fun h' it e => ⟨_, e, rfl, rfl⟩⟩
  | t a =>
    obtain ⟨its, rv, p, hz⟩ := I.tuple h
    cases r
    exact ⟨_, _, s.toks, begins_tuple a its.toArray, p, fun h' it e => ⟨_, e, rfl, rfl⟩⟩
  | s x =>
    obtain ⟨t, rfl⟩ := r
    exact ⟨_, _, t, begins_text x t, trivial, fun h' it e => ⟨_, e, rfl, rfl⟩⟩
end
def IteK (K : PySem.W.Frag) (k : Sk) : L2.It :=
  ⟨fun i H => ∃ (xs : List V) (x : V), SkAt K H k xs ∧ xs[i]? = some x, fun i H v H' => ∃ T x, ∃ o : Obj, v = .ref T ∧ H T = none ∧ o.dict = none ∧ H' = upd H T (.frz o (.tup [.int (i : Nat), x])) ∧ ∀ xs, SkAt K H k xs → xs[i]? = some x, fun i H => ∃ xs : List V, SkAt K H k xs ∧ xs.length = i⟩
def iEnumK (K : PySem.W.Frag) (ta : TA) : TI := fun σ H R => ta σ H fun vs H1 => ∃ k xs, vs = [Sk.v k] ∧ SkAt K H1 k xs ∧ R (IteK K k) H1
end Vm
end
section
namespace Vm
open PySem L2 PySem.Spec PyProof.Rows
def ItzK (K : PySem.W.Frag) (k1 k2 : Sk) : L2.It :=
  ⟨fun i H => ∃ (xs ys : List V) (x y : V), SkAt K H k1 xs ∧ SkAt K H k2 ys ∧ xs[i]? = some x ∧ ys[i]? = some y,
    fun i H v H' => ∃ T x y, ∃ o : Obj, v = .ref T ∧ H T = none ∧ o.dict = none ∧ H' = upd H T (.frz o (.tup [x, y])) ∧ (∀ xs, SkAt K H k1 xs → xs[i]? = some x) ∧ ∀ ys, SkAt K H k2 ys → ys[i]? = some y,
    fun i H => ∃ xs ys : List V, SkAt K H k1 xs ∧ SkAt K H k2 ys ∧ i ≤ xs.length ∧ i ≤ ys.length ∧ (i = xs.length ∨ i = ys.length)⟩
theorem mem5 {c a b d e f : Addr} : c ∈ [a, b, d, e, f] ↔ c = a ∨ c = b ∨ c = d ∨ c = e ∨ c = f := by simp
theorem turn_zipK {P : Program} {w : World} {K : PySem.W.Frag} {elts : List Expr} {kk : Nat} {tpos : Pos} (k1 k2 : Sk) (t1 t2 : Tok) (N : Nat) (h1 : ∀ b ∈ k1.adr, b < N) (h2 : ∀ b ∈ k2.adr, b < N) :
    Turn P w K (.Tuple elts kk tpos) (ItzK K k1 k2) [N + 4, N + 2, N + 3, N, N + 1] (N + 4) (fun i h => IsZip h (N + 4) (N + 2) (N + 3) .none ∧ IsTupOf2 h (N + 2) (.ref N) (.ref (N + 1)) ∧ (∃ x y, IsTupOf2 h (N + 3) x y) ∧ SkIt h N k1 t1 i ∧ SkIt h (N + 1) k2 t2 i) where
  mem := by simp
  obj := fun i h st c hc => by
    obtain ⟨hz, hTI, ⟨x, y, hTO⟩, i1, i2⟩ := st
    rcases mem5.mp hc with rfl | rfl | rfl | rfl | rfl
    · exact ⟨_, hz, fun v q => nomatch q⟩
    · exact ⟨_, hTI, fun v q => nomatch q⟩
    · exact ⟨_, hTO, fun v q => nomatch q⟩
    · exact i1.there
    · exact i2.there
  keep := fun i h h' st kp => by
    obtain ⟨hz, hTI, ⟨x, y, hTO⟩, i1, i2⟩ := st
    exact ⟨kp _ (by simp) _ hz, kp _ (by simp) _ hTI, ⟨x, y, kp _ (by simp) _ hTO⟩, i1.at fun o q => kp N (by simp) o q, i2.at fun o q => kp (N + 1) (by simp) o q⟩
  item := by
    intro X hP hw hK hc i pins s σ H E I hf st hg
    subst hP hw hK
    obtain ⟨hz, hTI, ⟨x0, y0, hTO⟩, i1, i2⟩ := st
    obtain ⟨xs, ys, x, y, hqx, hqy, hx, hy⟩ := hg
    obtain ⟨St1, D1, d1, d1'⟩ := sk_draws (A := X.A.in1) (I.ok.hd hc) I hqx N t1 fun b hb => Nat.ne_of_lt (h1 b hb)
    obtain ⟨St2, D2, d2, d2'⟩ := sk_draws (A := X.A.in1) (I.ok.hd hc) I hqy (N + 1) t2 fun b hb => Nat.ne_of_lt (Nat.lt_succ_of_lt (h2 b hb))
    have sep := zip_sep2 h1 h2
    have hzl : N + 4 < s.heap.objs.size := Heap.lt_size hz
    refine wpAny_pyNext_zipD2_item sep D1 D2 hz hTI hTO (d1 i i1) (d2 i i2) (List.getElem?_eq_some_iff.mp hx).1 (List.getElem?_eq_some_iff.mp hy).1 fun u u2 h' tk ⟨x', hx', ru⟩ ⟨y', hy', ru2⟩ z' TO' s1' s2' hT hsz hk => ?_
    rw [hx] at hx'; cases hx'
    rw [hy] at hy'; cases hy'
    refine ⟨_, rfl, wpAny_letOwnedTupleGo_zip (s := { s with heap := h', toks := tk }) z' fun h'' z'' sb => ?_⟩
    have hT2 : h''.get? s.heap.objs.size = some { cls := .type "tuple", data := .seq #[u, u2] } := (sb.2 _ (Nat.ne_of_gt hzl)).trans hT
    have new : ObjOk X.prog X.w (upd H s.heap.objs.size (.frz { cls := .type "tuple", data := .seq #[u, u2] } (.tup [x, y]))) h'' s.heap.objs.size (.frz { cls := .type "tuple", data := .seq #[u, u2] } (.tup [x, y])) :=
      ⟨hT2, by show 2 ≤ sizeLine; decide, [u, u2], .cons ru (.cons ru2 .nil), ⟨_, hT2, rfl, _, rfl⟩⟩
    have I1 : Inv X pins σ (upd H s.heap.objs.size (.frz { cls := .type "tuple", data := .seq #[u, u2] } (.tup [x, y]))) { s with heap := h'', toks := tk } :=
      I.turnedNew (ch := [N + 4, N + 2, N + 3, N, N + 1]) (fun c o hb q => by
        rw [mem5] at hb
        simp only [not_or] at hb
        exact (sb.2 c hb.1).trans (hk c o hb.1 hb.2.2.1 hb.2.2.2.1 hb.2.2.2.2 q)) hf (Nat.le_refl _) new
    have nz : ∀ m : Nat, m < 4 → N + m ≠ N + 4 := fun m h e => by omega
    refine ⟨.ref s.heap.objs.size, _, I1, rfl, ⟨_, x, y, _, rfl, I.hok.fresh (Nat.le_refl _), rfl, rfl, fun l hl => by rw [hl.inj I hqx]; exact hx, fun l hl => by rw [hl.inj I hqy]; exact hy⟩, ⟨z'', ?_, ⟨u, u2, (sb.2 _ (nz 3 (by decide))).trans TO'⟩, (d1' _ _ s1').at fun o q => (sb.2 _ (nz 0 (by decide))).trans q, (d2' _ _ s2').at fun o q => (sb.2 _ (nz 1 (by decide))).trans q⟩, fun c hcm => ?_⟩
    · exact (sb.2 _ (nz 2 (by decide))).trans (hk _ _ (nz 2 (by decide)) sep.TITO sep.TIi1 sep.TIi2 hTI)
    · have hlt : c < s.heap.objs.size := by
        have : ∀ m : Nat, m ≤ 4 → N + m < s.heap.objs.size := fun m h => Nat.lt_of_le_of_lt (Nat.add_le_add_left h N) hzl
        rcases mem5.mp hcm with rfl | rfl | rfl | rfl | rfl
        · exact hzl
        · exact this 2 (by decide)
        · exact this 3 (by decide)
        · exact this 0 (by decide)
        · exact this 1 (by decide)
      rw [upd_ne (Nat.ne_of_lt hlt)]
      exact (hf c hcm).1
  done := by
    intro X hP hw hK hc i pins s σ H E I hf st hg
    subst hP hw hK
    obtain ⟨hz, hTI, ⟨x0, y0, hTO⟩, i1, i2⟩ := st
    obtain ⟨xs, ys, hqx, hqy, l1, l2, hend⟩ := hg
    obtain ⟨St1, D1, d1, d1'⟩ := sk_draws (A := X.A.in1) (I.ok.hd hc) I hqx N t1 fun b hb => Nat.ne_of_lt (h1 b hb)
    obtain ⟨St2, D2, d2, d2'⟩ := sk_draws (A := X.A.in1) (I.ok.hd hc) I hqy (N + 1) t2 fun b hb => Nat.ne_of_lt (Nat.lt_succ_of_lt (h2 b hb))
    exact wpAny_pyNext_zipD2_end (zip_sep2 h1 h2) D1 D2 hz hTI hTO (d1 i i1) (d2 i i2) l1 l2 hend fun h' tk hk => ⟨rfl, I.turnedL (t' := tk) (ch := [N + 4, N + 2, N + 3, N, N + 1]) (fun c o hb q => by
      rw [mem5] at hb
      simp only [not_or] at hb
      exact hk c o hb.1 hb.2.2.1 hb.2.2.2.1 hb.2.2.2.2 q) hf⟩
  self := fun A i s Q E st h => wpAny_pyIter_zip st.1 h
def iZipK (K : PySem.W.Frag) (ta : TA) : TI := fun σ H R => ta σ H fun vs H1 => ∃ k1 k2 xs ys, vs = [Sk.v k1, Sk.v k2] ∧ SkAt K H1 k1 xs ∧ SkAt K H1 k2 ys ∧ R (ItzK K k1 k2) H1
theorem pi_zipK {X : Cx} {e e2 : Expr} {ta : TA} {p pos tpos : Pos} {elts : List Expr} {kk : Nat} (hg : Gl X "zip") (hm : X.mg "zip" = none) (ha : PA X [e, e2] ta)
    (hs : starEach [e, e2] X.env = (false, eval e X.env) :: starEach [e2] X.env := by rfl) (hpl : (backTo pos (starEach [e2] X.env)).any (·.1) = false := by rfl) :
    PI X (.Tuple elts kk tpos) (.Call (.Name "zip" p) [e, e2] [] pos) (iZipK X.K ta) := by
  refine ⟨fun pins s σ H R I h => ?_⟩
  refine Call_ (ld_blt I hg hm PyProof.Rows.boot_zip (PyProof.Rows.callWith_type1 (thn (ha.run pos pins s σ H _ I h) fun us s1 ⟨vs, H1, I1, r1, q1⟩ => ?_) hs hpl))
  obtain ⟨k1, k2, xs, ys, ex, hqx, hqy, q⟩ := q1
  subst ex
  cases r1 with
  | cons r rr =>
    cases rr with
    | cons r' rr =>
      cases rr
      obtain ⟨o1, B1, t1, b1, hb1, hi1⟩ := sk_begins I1 hqx r
      obtain ⟨o2, B2, t2, b2, hb2, hi2⟩ := sk_begins I1 hqy r'
      refine zip_begins2 b1 b2 hb1 hb2 fun h' hz hTI hTO g1 g2 hsz hk => wpAny_pyIter_zip hz ?_
      have I2 : Inv X pins σ H1 { s1 with heap := h' } := I1.kept (t' := s1.toks) hk
      refine ⟨s1.heap.objs.size + 4, [s1.heap.objs.size + 4, s1.heap.objs.size + 2, s1.heap.objs.size + 3, s1.heap.objs.size, s1.heap.objs.size + 1], _, _, H1, rfl, I2, turn_zipK k1 k2 t1 t2 s1.heap.objs.size (SkAt.lt I1 hqx) (SkAt.lt I1 hqy), ⟨hz, hTI, ⟨_, _, hTO⟩, hi1 _ _ g1, hi2 _ _ g2⟩, fun c hcm => ?_, q⟩
      have hle : s1.heap.objs.size ≤ c := by
        rcases mem5.mp hcm with rfl | rfl | rfl | rfl | rfl
        · exact Nat.le_add_right _ _
        · exact Nat.le_add_right _ _
        · exact Nat.le_add_right _ _
        · exact Nat.le_refl _
        · exact Nat.le_add_right _ _
      exact I1.fpOk hle (I1.hok.fresh hle)
section
variable {L : Lnk} {C : Ctx} {X : Cx}
theorem src_of {K : PySem.W.Frag} {H : Hp} {v : V} {x : D} {xs : List D} (h : Rp K H v x) (e : seqOf x = some xs) : ∃ k vs, Sk.v k = v ∧ RpL K H vs xs ∧ ∀ H2, Stb H H2 → SkAt K H2 k vs := by
  cases x with
  | list ds =>
    cases e
    obtain ⟨a, vs, rfl, h1, h2⟩ := h.lst_inv
    exact ⟨.l a, vs, rfl, h2, fun H2 st => (SqF.mono st h1).sql⟩
  | tuple ds =>
    cases e
    obtain ⟨a, vs, rfl, h1, h2⟩ := h.tup_inv
    exact ⟨.t a, vs, rfl, h2, fun H2 st => SqT.mono st h1⟩
  | str z =>
    cases e
    obtain ⟨rfl, ok⟩ := h.str_inv
    have hr : ∀ l : List Nat, (∀ c ∈ l, c < 0x110000) → RpL K H (l.map fun c => V.str ⟨#[c]⟩) (l.map chr1) := by
      intro l
      induction l with
      | nil => intro _; exact .nil
      | cons c l ih =>
        intro h
        refine .cons (.str _ ⟨by show 1 ≤ sizeLine; rw [sizeLine_eq]; decide, fun d hd => ?_⟩) (ih fun d hd => h d (by simp [hd]))
        simp at hd; subst hd; exact h _ (by simp)
    exact ⟨.s z, _, rfl, hr (strL z) ok.2, fun H2 st => rfl⟩
  | _ => cases e
theorem evt_ok {e : E} {s s' : St} {xs : List D} (h : evt C (.e e) s = .ok xs s') : ∃ x, ((ev C e s).bd stoD) = .ok x s' ∧ seqOf x = some xs := by
  rw [evt] at h
  obtain ⟨r, s1, e1, e2⟩ := bd_ok h
  obtain ⟨x, s2, e3, e4⟩ := bd_ok e2
  obtain ⟨ys, e5, e6⟩ := rs_ok e4
  cases e6
  exact ⟨x, by rw [e1]; exact e3, e5⟩
theorem zipD_get : ∀ (xs ys : List D) (i : Nat), (zipD xs ys)[i]? = xs[i]?.bind fun x => ys[i]?.map fun y => PyData.tuple [x, y]
  | [], ys, i => by simp [zipD]
  | x :: xs, [], i => by cases h : (x :: xs)[i]? <;> simp [zipD]
  | x :: xs, y :: ys, 0 => by simp [zipD]
  | x :: xs, y :: ys, i + 1 => by
    rw [zipD, List.getElem?_cons_succ, List.getElem?_cons_succ, List.getElem?_cons_succ, zipD_get xs ys i]
theorem zipD_len : ∀ (xs ys : List D), (zipD xs ys).length = min xs.length ys.length
  | [], ys => by simp [zipD]
  | x :: xs, [] => by simp [zipD]
  | x :: xs, y :: ys => by simp only [zipD, List.length_cons, zipD_len xs ys]; omega
def nons (ds : List D) : List MA := ds.map fun d => .im (.d d) .non
theorem nons_ers (ds : List D) : ers (nons ds) = ds.map .d := by simp [nons, ers_map, MA.er]
theorem nons_adr (ds : List D) : adrs (nons ds) = [] := by
  induction ds with
  | nil => rfl
  | cons d ds ih => simpa [nons, adrs, MA.adr] using ih
theorem nons_get {ds : List D} {i : Nat} {y : MA} (h : (nons ds)[i]? = some y) : ∃ d, ds[i]? = some d ∧ y = .im (.d d) .non := by
  rw [nons, List.getElem?_map, Option.map_eq_some_iff] at h
  obtain ⟨d, h1, rfl⟩ := h
  exact ⟨d, h1, rfl⟩
theorem upd_grow {H : Hp} {T : Addr} {o : HO} (h : H T = none) : ∀ b u, H b = some u → upd H T o b = some u := fun b u e => by
  rw [upd_ne (fun z => by rw [z, h] at e; cases e)]; exact e
theorem i_zip {ea eb : Expr} {a b : E} {p pos tpos : Pos} {elts : List Expr} {kk : Nat} (hK : X.K = L.K) (ha : PE X ea (TEv L C a)) (hb : PE X eb (TEv L C b)) (hm : X.mg "zip" = none) (hg : Gl X "zip" := by rfl)
    (hs : starEach [ea, eb] X.env = (false, eval ea X.env) :: starEach [eb] X.env := by rfl) (hs2 : starEach [eb] X.env = (false, eval eb X.env) :: starEach [] X.env := by rfl) (hpl : (backTo pos (starEach [eb] X.env)).any (·.1) = false := by rfl) :
    PI X (.Tuple elts kk tpos) (.Call (.Name "zip" p) [ea, eb] [] pos) (TPl L C (.zip (.e a) (.e b))) :=
  PI.mono (pi_zipK hg hm (pa_cons (s_dat ha) (pa_cons (s_dat hb) pa_nil hs2) hs) hs hpl) fun σ H R ⟨A, s, τ, p, s', S, e0, q⟩ => by
    rw [evi] at e0
    obtain ⟨xs, s1, e1, e2⟩ := bd_ok e0
    obtain ⟨ys, s2, e3, e4⟩ := bd_ok e2
    obtain ⟨_, e4⟩ := rif_ok e4
    cases e4
    obtain ⟨x, e5, e6⟩ := evt_ok e1
    obtain ⟨y, e7, e8⟩ := evt_ok e3
    refine ⟨A, s, τ, x, s1, S, e5, fun v H1 A1 _ S1 P1 K1 => ⟨A1, s1, τ, y, s', S1, e7, fun v2 H2 A2 _ S2 P2 K2 => ?_⟩⟩
    have st12 := P2.stb S1
    obtain ⟨k1, vs, rfl, rp1, sk1⟩ := src_of (Rp.mono st12 (show Rp L.K H1 v x from K1)) e6
    obtain ⟨k2, ws, rfl, rp2, sk2⟩ := src_of (show Rp L.K H2 v2 y from K2) e8
    refine ⟨k1, k2, vs, ws, rfl, hK ▸ sk1 H2 (Stb.refl _), hK ▸ sk2 H2 (Stb.refl _), ?_⟩
    rw [hK]
    refine q H2 A2 _ [] S2 (P1.seq P2) ⟨nons (zipD xs ys), [], nons_ers _, by rw [nons_adr]; rfl, fun b hb => by simp at hb, fun H3 st _ => ⟨⟨vs, ws, sk1 H3 st, sk2 H3 st, ?_⟩, fun i y ey _ => ?_⟩⟩
    · rw [rp1.length, rp2.length, nons, List.length_map, zipD_len]; omega
    · obtain ⟨d, h1, rfl⟩ := nons_get ey
      rw [zipD_get, Option.bind_eq_some_iff] at h1
      obtain ⟨dx, h2, h1⟩ := h1
      rw [Option.map_eq_some_iff] at h1
      obtain ⟨dy, h3, rfl⟩ := h1
      obtain ⟨w, h4, h5⟩ := rp1.get h2
      obtain ⟨w2, h6, h7⟩ := rp2.get h3
      refine ⟨⟨vs, ws, w, w2, sk1 H3 st, sk2 H3 st, h4, h6⟩, fun z H4 yl => ?_⟩
      obtain ⟨T, u, u2, o, rfl, hT, hdn, rfl, hw, hw2⟩ := yl
      have := hw vs (sk1 H3 st)
      rw [h4] at this; cases this
      have := hw2 ws (sk2 H3 st)
      rw [h6] at this; cases this
      refine ⟨upd_grow hT, .im (.d (.tuple [dx, dy])) (.ref T), by simp [MA.er], rfl, rfl, ?_⟩
      have st4 : Stb H2 (upd H3 T (.frz o (.tup [w, w2]))) := st.trans (grow_stb (upd_grow hT))
      exact Rp.tup (SqB.newT hdn) (.cons (Rp.mono st4 h5) (.cons (Rp.mono st4 h7) .nil))
end
end Vm
end
section
namespace Vm
open PySem L2 PySem.Spec PyProof.Rows
section
variable {prog : Program} {w : World} {A : Around} {E : Value → Shared → Prop} {s : Shared} {z TI TO T i1 i2 : Addr} {fp1 fp2 : List Addr} {n1 n2 i : Nat} {P1 P2 : Nat → Value → Prop} {St1 St2 : Nat → Heap → Prop} {f : Bool} {oT : Obj}
end
structure TW (prog : Program) (w : World) (A : Around) (S I : Addr) (wr : List Addr) (n : Nat) (Pr : Nat → Value → Value → Prop) (St : Nat → Heap → Prop) : Prop where
  away : S ∉ wr
  keep : ∀ i h h', St i h → (∀ b o, b ≠ S → h.get? b = some o → h'.get? b = some o) → St i h'
  item : ∀ i (s : Shared) (Q : Option Value → Shared → Prop) (E : Value → Shared → Prop), i < n → St i s.heap → S < s.heap.objs.size →
    (∀ x y h' tk, Pr i x y → St (i + 1) h' → IsTupOf2 h' s.heap.objs.size x y → h'.objs.size = s.heap.objs.size + 1 → (∀ b o, b ∉ wr → s.heap.get? b = some o → h'.get? b = some o) → Q (some (.ref s.heap.objs.size)) { s with heap := h', toks := tk }) → wpAny (model prog w) A (pyNext (.ref I)) Q E s
  done : ∀ (s : Shared) (Q : Option Value → Shared → Prop) (E : Value → Shared → Prop), St n s.heap →
    (∀ h' tk, (∀ b o, b ∉ wr → s.heap.get? b = some o → h'.get? b = some o) → Q none { s with heap := h', toks := tk }) → wpAny (model prog w) A (pyNext (.ref I)) Q E s
structure PG (Pr : Nat → Value → Value → Prop) (lo : Addr) (h : Heap) (as : List Addr) : Prop where
  rise : as.Pairwise (· < ·)
  above : ∀ a ∈ as, lo < a
  pairs : ∀ (j : Nat) (a : Addr), as[j]? = some a → ∃ x y, Pr j x y ∧ IsTupOf2 h a x y
theorem PG.there {Pr : Nat → Value → Value → Prop} {lo : Addr} {h : Heap} {as : List Addr} (g : PG Pr lo h as) {a : Addr} (ha : a ∈ as) : a < h.objs.size := by
  obtain ⟨j, hj⟩ := List.mem_iff_getElem?.mp ha
  obtain ⟨_, _, _, e⟩ := g.pairs j a hj
  exact Heap.lt_size e
theorem PG.keep {Pr : Nat → Value → Value → Prop} {lo : Addr} {h h' : Heap} {as : List Addr} (g : PG Pr lo h as) (k : ∀ a ∈ as, ∀ o, h.get? a = some o → h'.get? a = some o) : PG Pr lo h' as :=
  ⟨g.rise, g.above, fun j a hj => by obtain ⟨x, y, p, e⟩ := g.pairs j a hj; exact ⟨x, y, p, k a (List.mem_of_getElem? hj) _ e⟩⟩
abbrev lstO (acc : Array Value) (c : Nat) : Obj := { cls := .type "list", dict := none, data := .seq acc c, slots := #[] }
section
variable {prog : Program} {w : World} {A : Around} {s : Shared} {R : Result → Shared → Prop} {S I : Addr} {wr : List Addr} {n : Nat} {Pr : Nat → Value → Value → Prop} {St : Nat → Heap → Prop}
end
end Vm
end
section
namespace Vm
open PySem L2 PySem.Spec PyProof.Rows
section
variable {prog : Program} {w : World} {A : Around} {E : Value → Shared → Prop} {s : Shared}
def ZSt (z TI TO i1 i2 S : Addr) (St1 St2 : Nat → Heap → Prop) (i : Nat) (h : Heap) : Prop :=
  ((i = 0 ∧ IsZip h z TI TO .none) ∨ ∃ T f oT, IsZipHeld h z TI TO T f ∧ h.get? T = some oT ∧ T ≠ S ∧ T ≠ z ∧ T ≠ i1 ∧ T ≠ i2) ∧ IsTupOf2 h TI (.ref i1) (.ref i2) ∧ (∃ a b, IsTupOf2 h TO a b) ∧ St1 i h ∧ St2 i h
end
end Vm
end
section
namespace Vm
open PySem L2 PySem.Spec PyProof.Rows
def putV : Hp → List (Addr × HO) → Hp
  | H, [] => H
  | H, p :: r => putV (upd H p.1 p.2) r
section
variable {X : Cx}
def rPairs (H : Hp) (xs ys : List V) (Q : VK) : Prop := ∀ (H' : Hp) (p : Addr) (as : List Addr), (∀ b o, H b = some o → H' b = some o) → H p = none → (∀ t ∈ as, H t = none) → p ∉ as → as.Nodup → H' p = some (.lst (as.map V.ref)) → as.length = min xs.length ys.length →
  (∀ (j : Nat) (a : Addr), as[j]? = some a → ∃ (x y : V) (o : Obj), xs[j]? = some x ∧ ys[j]? = some y ∧ H' a = some (.frz o (.tup [x, y])) ∧ o.dict = none) → Q (.ref p) H'
def tListZip (K : PySem.W.Frag) (ta : TA) : TE := fun σ H Q => ta σ H fun vs H1 => ∃ k1 k2 xs ys, vs = [Sk.v k1, Sk.v k2] ∧ SkAt K H1 k1 xs ∧ SkAt K H1 k2 ys ∧ min xs.length ys.length ≤ sizeLine ∧ rPairs H1 xs ys Q
end
end Vm
end
section
namespace Vm
open PySem L2 PySem.Spec PyProof.Rows
section
variable {L : Lnk} {C : Ctx} {X : Cx}
end
end Vm
end
section
namespace Vm
open PySem L2 PySem.Spec PyProof.Rows
section
variable {L : Lnk} {C : Ctx} {X : Cx}
def kvM (kd : List (D × D)) : List (D × M) := kd.map fun p => (p.1, .d p.2)
theorem Fin.dct {σ : L2.St} {H H2 : Hp} {A A2 : SA} {τ : List V} {s : St} {F : List Addr} {Q : VK} {ns : List (D × MA)} {l : List (Key × V)} {p : Addr} (q : Fin L σ H A τ (.v (.dct (erk ns))) s Q) (S : SR L H2 σ A2 s τ) (P : Pst H A H2 A2 F) (hp : H2 p = none) (hl : kvOf ns = some l) (h : HdK L H2 ns) (na : adrk ns = []) : Q (.ref p) (upd H2 p (.dK l)) := by
  have g : ∀ b o, H2 b = some o → upd H2 p (.dK l) b = some o := upd_grow hp
  have S3 := S.grow g
  have P3 := P.nil.grow g
  have pA : p ∉ adrS A2 := fun hb => by obtain ⟨u, e, _⟩ := S.mut p hb; rw [hp] at e; cases e
  refine q (.ref p) _ A2 (some (.dct p ns)) S3 ⟨P3.ext, fun b hb => ?_, ?_⟩ ⟨rfl, rfl, ⟨l, hl, upd_same⟩, HdK.mono (grow_stb g) h fun b hb => by rw [na] at hb; simp at hb⟩
  · simp only [adrO, MA.adr, na, List.mem_append, List.mem_singleton] at hb
    rcases hb with hb | rfl
    · exact P3.new b (by simp [hb])
    · cases e : H b with
      | none => exact .inr rfl
      | some o =>
        by_cases z : b ∈ adrS A
        · exact .inl z
        · rw [P.ext b o e z] at hp; cases hp
  · simp only [adrO, MA.adr, na]
    exact List.nodup_append.mpr ⟨S.nd, by simp, fun x hx y hy e => by simp at hy; subst hy; subst e; exact pA hx⟩
def imK : List (Key × V) → List (D × D) → List (D × MA)
  | kv :: l, kd :: r => (kd.1, .im (.d kd.2) kv.2) :: imK l r
  | _, _ => []
end
end Vm
end
section
namespace Vm
open PySem L2 PySem.Spec PyProof.Rows
def txOf (e : Int × Value) : Str := match e.2 with | .str k _ => k | _ => Str.empty
def TxE (P : Program) (w : World) (e : Int × Value) : Prop := ∃ k tk, e.2 = Value.str k tk ∧ e.1 = (strKind P w).hash k
def SetT (P : Program) (w : World) (h : Heap) (a : Addr) (xs : List Str) : Prop :=
  ∃ u es ep tb, h.get? a = some u ∧ u.ExactSet ∧ u.data = .set es ep tb ∧ (∀ e ∈ es.toList, TxE P w e) ∧ (es.toList.map txOf).Perm xs ∧ xs.Nodup ∧ es.size < scanBound ∧ tb.fits es.size = true ∧ Ris tb.place.toList ∧ (w.params.followText "set-order" = true ∨ tb.led = true)
section
variable {P : Program} {w : World} {A : Around} {E : Value → Shared → Prop} {s : Shared} {a : Addr} {xs : List Str}
theorem SetT.at {h h' : Heap} (R : SetT P w h a xs) (k : ∀ u, h.get? a = some u → h'.get? a = some u) : SetT P w h' a xs := by
  obtain ⟨u, es, ep, tb, hu, r⟩ := R
  exact ⟨u, es, ep, tb, k u hu, r⟩
end
section
variable {prog : Program} {w : World} {A : Around} {R : Result → Shared → Prop} {I : Addr} {fp wr : List Addr} {G : Array GenState → Array GenState → Prop} {n : Nat} {P : Nat → Value → Prop} {St : Nat → Shared → Prop}
end
end Vm
end
section
namespace Vm
open PySem L2 PySem.Spec PyProof.Rows
def setO0 (w : World) : Obj := { cls := .type "set", dict := none, data := .set #[] 0 (.fresh 0 0 (!w.params.followText "set-order")) }
section
variable {prog : Program} {w : World} {A : Around} {E : Value → Shared → Prop} {s : Shared}
end
end Vm
end
section
namespace Vm
open PySem L2 PySem.Spec PyProof.Rows
def dedupS : List Str → List Str → List Str
  | acc, [] => acc.reverse
  | acc, x :: xs => if acc.contains x then dedupS acc xs else dedupS (x :: acc) xs
theorem eqv_strS (x y : Str) : PyData.eqv (.str x) (.str y) = decide (x = y) := by
  by_cases h : x = y
  · subst h
    rw [decide_eq_true rfl]
    exact (eqv_key (.str x) (.str x) rfl rfl).mpr rfl
  · rw [decide_eq_false h]
    cases e : PyData.eqv (.str x) (.str y)
    · rfl
    · exact absurd (PyData.str.inj ((eqv_key (.str x) (.str y) rfl rfl).mp e)) h
section
variable {P : Program} {w : World} {A : Around} {E : Value → Shared → Prop} {s : Shared} {a : Addr} {ks : List Str}
end
end Vm
end
section
namespace Vm
open PySem L2 PySem.Spec PyProof.Rows
section
variable {X : Cx}
def tSSet (K : PySem.W.Frag) (ta : TE) : TE := fun σ H Q => ta σ H fun x H1 => ∃ l, ∃ xs : List Str, x = .ref l ∧ (SqL K H1 l (xs.map V.str) ∨ SqT K H1 l (xs.map V.str)) ∧ xs.length < scanBound ∧
  ∀ (ks ys : List Str) (p : Addr), ks.Nodup → (∀ x, x ∈ ks ↔ x ∈ xs) → ys.Perm ks → ys.Pairwise (fun a b => PySem.W.dataLe false PyData.str a b = true) → H1 p = none → Q (.ref p) (upd H1 p (.lst (ys.map V.str)))
def tLSet (K : PySem.W.Frag) (ta : TE) : TE := fun σ H Q => ta σ H fun x H1 => ∃ l, ∃ xs : List Str, x = .ref l ∧ (SqL K H1 l (xs.map V.str) ∨ SqT K H1 l (xs.map V.str)) ∧ xs.length < scanBound ∧
  ∀ ks : List Str, ks.Nodup → (∀ x, x ∈ ks ↔ x ∈ xs) → Q (.int ks.length) H1
end
section
variable {L : Lnk} {C : Ctx} {X : Cx}
end
end Vm
end
section
namespace Vm
open PySem L2 PySem.Spec PyProof.Rows
section
variable {L : Lnk} {C : Ctx} {X : Cx} {Wx : WX}
end
end Vm
end
section
namespace Vm
open PySem L2 PySem.Spec PyProof.Rows
inductive EsIs (K : PySem.W.Frag) : List DictEntry → List (Str × D) → Prop
  | nil : EsIs K [] []
  | cons {e : DictEntry} {es : List DictEntry} {k : Str} {t : Tok} {x : D} {v : V} {kvs : List (Str × D)} : e.key = .str k t → RelV v e.val → (∀ H, Rp K H v x) → EsIs K es kvs → EsIs K (e :: es) ((k, x) :: kvs)
def dsS (kvs : List (Str × D)) : List (D × D) := kvs.map fun p => (.str p.1, p.2)
def DctAt (K : PySem.W.Frag) (w : World) (u : Value) (kvs : List (Str × D)) : Prop := ∃ d es n, u = .ref d ∧ KDict K w d es n ∧ EsIs K es.toList kvs
section
variable {X : Cx}
theorem kd_map {K : PySem.W.Frag} {w : World} {P : Program} {h : Heap} {d : Addr} {es : Array DictEntry} {n : Nat} (KX : K.In h) (D : KDict K w d es n) : h.MapOf (mixKind P w) d (fun k => findBy (mixKind P w).is es k) :=
  ⟨_, es, n, KX _ _ D.at_, ⟨rfl, rfl, rfl⟩, rfl, fun e he => by
    obtain ⟨x, t, e1, e2⟩ := D.lit.all e (Array.mem_toList_iff.mpr he)
    exact ⟨.inr x, by rw [e1]; exact mixKind_str P w x t, e2⟩, fun _ => rfl⟩
theorem keyIs_str_key {k x : Str} {t : Tok} : keyIs (.inr k) (.str x t) = decide (x = k) := by
  by_cases h : x = k
  · subst h; rw [decide_eq_true rfl]; exact keyIs_str x t
  · rw [decide_eq_false h]
    cases e : keyIs (.inr k) (.str x t) with
    | false => rfl
    | true =>
      rcases keyIs_shape e with ⟨i, u, e1, e2⟩ | ⟨y, u, e1, e2⟩
      · cases e2
      · cases e1; cases e2; exact absurd rfl h
theorem keyIs_int_key {i : Int} {x : Str} {t : Tok} : keyIs (.inl i) (.str x t) = false := by
  cases e : keyIs (.inl i) (.str x t) with
  | false => rfl
  | true =>
    rcases keyIs_shape e with ⟨j, u, e1, e2⟩ | ⟨y, u, e1, e2⟩
    · cases e2
    · cases e1
theorem find_esis {K : PySem.W.Frag} {j : D} {k : Key} (hk : toKey j = some k) : ∀ {es : List DictEntry} {kvs : List (Str × D)}, EsIs K es kvs →
    (∃ x v u, lkD j (dsS kvs) = some x ∧ (es.find? fun e => keyIs k e.key).map (·.val) = some u ∧ RelV v u ∧ ∀ H, Rp K H v x) ∨ (lkD j (dsS kvs) = none ∧ (es.find? fun e => keyIs k e.key).map (·.val) = none)
  | _, _, .nil => .inr ⟨rfl, rfl⟩
  | _, _, .cons (e := e) (es := es) (k := y) (x := x) (v := v) (kvs := kvs) hy hv hx r => by
    have key : keyIs k e.key = PyData.eqv (.str y) j := by
      rw [hy]
      cases j with
      | str z =>
        cases hk
        rw [keyIs_str_key, eqv_strS]
      | int i =>
        cases hk
        rw [keyIs_int_key]
        cases e : PyData.eqv (.str y) (.int i)
        · rfl
        · exact absurd ((eqv_key (.str y) (.int i) rfl rfl).mp e) (fun h => nomatch h)
      | _ => cases hk
    show (∃ x' v' u, lkD j ((.str y, x) :: dsS kvs) = some x' ∧ _) ∨ (lkD j ((.str y, x) :: dsS kvs) = none ∧ _)
    rw [lkD, List.find?_cons, key]
    cases hq : PyData.eqv (.str y) j with
    | true => exact .inl ⟨x, v, e.val, rfl, rfl, hv, hx⟩
    | false => exact find_esis hk r
theorem findBy_es {P : Program} {w : World} {es : Array DictEntry} {k : Key} : findBy (mixKind P w).is es k = (es.toList.find? fun e => keyIs k e.key).map (·.val) := by
  obtain ⟨l⟩ := es
  unfold findBy
  rw [List.find?_toArray]
  rfl
def gW (P : Program) (w : World) (es : Array DictEntry) (k : Key) : Option Value := findBy (mixKind P w).is es k
theorem op_notInKW {d : Addr} {es : Array DictEntry} {n : Nat} (D : KDict X.K X.w d es n) : OpR X (compareOp .NotIn) (fun x y H Q => ∃ k : Key, x = kV k ∧ y = .ref d ∧ Q (.bl (!(gW X.prog X.w es k).isSome)) H) := by
  intro pins s σ H x y v u Q I rx ry h
  obtain ⟨k, rfl, rfl, q⟩ := h
  cases ry
  exact wpAny_notIn_of (kV_is rx) D.low (kd_map I.kIn D) ⟨.bl (!(gW X.prog X.w es k).isSome), H, I.tok _, rfl, q⟩
theorem ix_W {d : Addr} {es : Array DictEntry} {n : Nat} (D : KDict X.K X.w d es n) : IxR X (fun x y H Q => ∃ (k : Key) (u : Value) (v : V), x = .ref d ∧ y = kV k ∧ gW X.prog X.w es k = some u ∧ RelV v u ∧ Q v H) := by
  intro value slice pins s σ H x y v u Q I rx ry h hs
  obtain ⟨k, u0, v0, rfl, rfl, e, ru, q⟩ := h
  obtain rfl : v = Value.ref d := rx
  have hm := kd_map (P := X.prog) I.kIn D
  exact tail_any hm.typeIs slot_dict_getitem.lookup (wpAny_getItem_of (kV_is ry) hm e ⟨v0, H, I.tok _, ru, q⟩) hs
theorem mt_getW (hu : X.A.units + 1 < cLine) {d : Addr} {es : Array DictEntry} {n : Nat} (D : KDict X.K X.w d es n) : MtR X "dict.get" (fun x xs H Q => ∃ (k : Key) (v : V), x = .ref d ∧ xs = [kV k] ∧ ((∃ u, gW X.prog X.w es k = some u ∧ RelV v u) ∨ (gW X.prog X.w es k = none ∧ v = .non)) ∧ Q v H) := by
  intro pins s σ H x xs v us Q I rx rs h
  obtain ⟨k, v0, rfl, rfl, g, q⟩ := h
  cases rx
  obtain ⟨u, rfl, ru⟩ := rs.one
  have hm := kd_map (P := X.prog) I.kIn D
  refine call_meetsIn PySem.F.slot_dict_get hm.typeIs PySem.F.entry_dict_get (PySem.F.args_dict_get_2 _ _) (meets_dict_get (mixKind X.prog X.w) d (kV_is ru) D.low) ⟨_, hm, v0, H, I.tok _, ?_, q⟩
  rcases g with ⟨u0, g1, g2⟩ | ⟨g1, g2⟩
  · show RelV v0 ((gW X.prog X.w es k).getD .none)
    rw [g1]; exact g2
  · show RelV v0 ((gW X.prog X.w es k).getD .none)
    rw [g1, g2]; rfl
end
section
variable {L : Lnk} {C : Ctx} {X : Cx}
theorem frz_key {H : Hp} {z : MA} {x : D} (h : Hd L H z) (e : frz z.er = some x) (hk : isKK x = true) : Rp L.K H z.v x := by
  cases z with
  | im m v =>
    cases m with
    | d y =>
      have : y = x := by simpa [MA.er, frz] using e
      subst this
      exact h
    | lst _ => exact h.elim
    | dct _ => exact h.elim
    | obj _ _ => exact h.elim
    | dnn _ => exact h.elim
    | _ => simp [MA.er, frz] at e
  | lst a ms =>
    revert e
    simp only [MA.er, frz]
    cases frzs (ers ms) with
    | none => intro e; cases e
    | some xs => intro e; cases e; cases hk
  | dct a ms =>
    revert e
    simp only [MA.er, frz]
    cases frzk (erk ms) with
    | none => intro e; cases e
    | some xs => intro e; cases e; cases hk
  | obj a c ms => simp [MA.er, frz] at e
  | dnn a ms => simp [MA.er, frz] at e
abbrev tRef (d : Addr) : TE := fun σ H Q => Q (.ref d) H
theorem pe_ref {x : Str} {p : Pos} {d : Addr} (hm : X.mg x = some (.ref d)) (hgl : Gl X x := by rfl) (hd : (x == ("__debug__" : Str)) = false := by decide) : PE X (.Name x p) (tRef d) :=
  PE.mono (pe_glob (v := .ref d) hgl hm rfl hd) fun σ H Q h => h
theorem s_subG {g : Nat} {kvs : List (Str × D)} {x : Str} {u : Value} {eb : Expr} {b : E} {p pos : Pos} (hg : C.glo[g]? = some (.d (.dict (dsS kvs)))) (hm : X.mg x = some u) (D : DctAt X.K X.w u kvs) (hK : X.K = L.K) (hb : PE X eb (TEv L C b)) (hgl : Gl X x := by rfl) (hd : (x == ("__debug__" : Str)) = false := by decide)
    (hs : PlainIx eb := by intro _ _; rfl) : PE X (.Subscript (.Name x p) eb pos) (TEv L C (.sub (.glo g) b)) := by
  obtain ⟨d, es, n, rfl, D, hes⟩ := D
  refine PE.mono (pe_ix (ix_W D) (pe_ref hm hgl hd) hb hs) fun σ H Q ⟨A, s, τ, r, s', S, e0, q⟩ => ?_
  rw [ev] at e0
  obtain ⟨ra, s1, e1, e2⟩ := bd_ok e0
  rw [ev, hg] at e1
  cases e1
  obtain ⟨rb, s2, e3, e4⟩ := bd_ok (show (ev C b s).bd (fun rb s => subR (.v (.d (.dict (dsS kvs)))) rb s) = .ok r s' from e2)
  refine ⟨A, s, τ, rb, s2, S, e3, fun v H1 A1 y S1 P1 K1 => ?_⟩
  obtain ⟨j, e5, e6⟩ := rs_ok e4
  obtain ⟨m, e7, e8⟩ := rs_ok e6
  cases e7
  obtain ⟨hk, e9⟩ := rif_ok (show rif (isKK j) (okV (lkD j (dsS kvs)) s2 .d) = .ok r s' from e8)
  obtain ⟨w, e10, rfl, rfl⟩ := okV_ok e9
  cases dat_some e5
  obtain ⟨kk, h1, h2⟩ := Rp.kV K1.d_inv hk
  rcases find_esis h1 hes with ⟨x, v0, u, f1, f2, f3, f4⟩ | ⟨f1, f2⟩
  · rw [f1] at e10
    cases e10
    exact ⟨kk, u, v0, rfl, h2, by rw [gW, findBy_es]; exact f2, f3, Fin.im q S1 P1.nil (show Rp L.K H1 v0 _ from hK ▸ f4 H1)⟩
  · rw [f1] at e10; cases e10
theorem tyok_W {d : Addr} {es : Array DictEntry} {n : Nat} (D : KDict X.K X.w d es n) : TyOk X "dict" (fun x _ => x = .ref d) := fun pins s σ H x v I r ty => by
  subst ty
  obtain rfl : v = Value.ref d := r
  refine ⟨(kd_map (P := X.prog) I.kIn D).typeIs, fun a e => ?_⟩
  cases e
  exact ⟨_, I.kIn _ _ D.at_, rfl⟩
theorem mt_getWN {d : Addr} {es : Array DictEntry} {n : Nat} (D : KDict X.K X.w d es n) : MtR X "dict.get" (fun x xs H Q => x = .ref d ∧ xs = [.non] ∧ Q .non H) := by
  intro pins s σ H x xs v us Q I rx rs h
  obtain ⟨rfl, rfl, q⟩ := h
  cases rx
  obtain ⟨u, rfl, ru⟩ := rs.one
  cases (show u = Value.none from ru)
  have hm0 := kd_map (P := X.prog) I.kIn D
  have hks : KeysOf (mixKind X.prog X.w) es := fun e he => by
    obtain ⟨x, t, e1, e2⟩ := D.lit.all e (Array.mem_toList_iff.mpr he)
    exact ⟨.inr x, by rw [e1]; exact mixKind_str X.prog X.w x t, e2⟩
  obtain ⟨hl, hn⟩ := keys_leaf hks
  have hm : s.heap.MapOf (leafKind X.prog X.w) d (findBy (leafKind X.prog X.w).is es) := ⟨_, es, n, I.kIn _ _ D.at_, ⟨rfl, rfl, rfl⟩, rfl, hl, fun _ => rfl⟩
  refine call_meetsIn PySem.F.slot_dict_get hm0.typeIs PySem.F.entry_dict_get (PySem.F.args_dict_get_2 _ _) (meets_dict_get (leafKind X.prog X.w) d (show (leafKind X.prog X.w).is Leaf.none Value.none = true from rfl) D.low) ⟨_, hm, ?_⟩
  rw [hn]
  exact ⟨.non, H, I.tok _, rfl, q⟩
theorem s_getG {k0 : Nat} {g : Nat} {kvs : List (Str × D)} {x : Str} {u : Value} {eb : Expr} {b : E} {p apos cpos : Pos} (xo : XO L X k0) (hg : C.glo[g]? = some (.d (.dict (dsS kvs)))) (hm : X.mg x = some u) (D : DctAt X.K X.w u kvs) (hK : X.K = L.K) (hb : PE X eb (TEv L C b)) (hgl : Gl X x := by rfl) (hd : (x == ("__debug__" : Str)) = false := by decide)
    (hbase : attributeBase (.Name x p) "get" X.env (eval (.Name x p) X.env) = eval (.Name x p) X.env := by rfl)
    (hfew : ((backTo cpos (starEach [eb] X.env)).all (fun x => !x.1) && (backToKw cpos (keywordEach [] X.env)).all (fun x => x.1.isSome)
      && decide (([eb] : List Expr).length + ([] : List Keyword).length + (if ([] : List Keyword).isEmpty then 0 else 1) < 30)) = true := by rfl)
    (hline : (apos.endLine == cpos.line) = true := by rfl) (hs : starEach [eb] X.env = (false, eval eb X.env) :: starEach [] X.env := by rfl) (hplain : (backTo cpos (starEach [] X.env)).any (·.1) = false := by rfl) :
    PE X (.Call (.Attribute (.Name x p) "get" apos) [eb] [] cpos) (TEv L C (.bm (.glo g) .get (.cons b .nil))) := by
  obtain ⟨d, es, n, rfl, D, hes⟩ := D
  have hu : X.A.units + 1 < cLine := by have := xo.un; omega
  refine PE.mono (pe_bmy (tyok_W D) PySem.F.plainAttrs_dict PySem.F.slot_dict_get PySem.F.type_dict_get (MtR.or (mt_getW hu D) (mt_getWN D)) (pe_ref hm hgl hd) (pa_cons hb pa_nil hs) hbase hfew hline hs hplain) fun σ H Q ⟨A, s, τ, r, s', S, e0, q⟩ => ?_
  rw [ev] at e0
  obtain ⟨ro, s1, e1, e2⟩ := bd_ok e0
  rw [ev, hg] at e1
  cases e1
  obtain ⟨m0, e3, e4⟩ := rs_ok e2
  cases e3
  obtain ⟨_, e5⟩ := rif_ok e4
  obtain ⟨rv, s2, e6, e7⟩ := bd_ok (show (evs C (.cons b .nil) s).bd (fun rv s => bmR .get (.v (.d (.dict (dsS kvs)))) rv s) = .ok r s' from e5)
  rw [evs] at e6
  obtain ⟨r1, s3, e8, e9⟩ := bd_ok e6
  have e10 : rv = [r1] ∧ s2 = s3 := by
    cases r1 with
    | v m =>
      simp only [hold, evs, Res.bd] at e9
      cases e9
      exact ⟨rfl, rfl⟩
    | p q =>
      simp only [hold, evs, Res.bd] at e9
      cases e9
      exact ⟨rfl, rfl⟩
  obtain ⟨rfl, rfl⟩ := e10
  refine ⟨rfl, A, s, τ, r1, _, S, e8, fun v H1 A1 y S1 P1 K1 => ?_⟩
  have e11 : bGetD _ (dsS kvs) [r1] = .ok r s' := e7
  unfold bGetD at e11
  split at e11
  · rename_i k hk0
    cases hk0
    rcases kq_ok e11 with ⟨hk, e12⟩ | ⟨rfl, e12⟩
    · obtain ⟨kk, h1, h2⟩ := Rp.kV K1.d_inv hk
      rcases find_esis h1 hes with ⟨x, v0, u, f1, f2, f3, f4⟩ | ⟨f1, f2⟩
      · rw [f1] at e12
        cases e12
        exact .inl ⟨kk, v0, rfl, by rw [h2], .inl ⟨u, by rw [gW, findBy_es]; exact f2, f3⟩, Fin.im q S1 P1.nil (show Rp L.K H1 v0 _ from hK ▸ f4 H1)⟩
      · rw [f1] at e12
        cases e12
        exact .inl ⟨kk, .non, rfl, by rw [h2], .inr ⟨by rw [gW, findBy_es]; exact f2, rfl⟩, Fin.non q S1 P1.nil⟩
    · cases e12
      cases K1.d_inv.non_inv
      exact .inr ⟨rfl, rfl, Fin.non q S1 P1.nil⟩
  · rename_i hk0; cases hk0
  · cases e11
end
end Vm
end
section
namespace Vm
open PySem L2 PySem.Spec PyProof.Rows
section
variable {prog : Program} {w : World} {A : Around} {E : Value → Shared → Prop} {s : Shared}
theorem adjust_rev (n : Nat) : Builtin.Slice.sliceAdjust none none (-1) (n : Int) = ((n : Int) - 1, -1) := by
  unfold Builtin.Slice.sliceAdjust
  simp
theorem places_rev (n : Nat) : Builtin.Slice.slicePlaces ((n : Int) - 1) (-1) (-1) = n := by
  unfold Builtin.Slice.slicePlaces
  simp
  omega
theorem sliceApplied_rev {sl : Addr} {vs : Value} {n : Nat} {Q : Int × Int × Nat → Shared → Prop} (hs : s.heap.IsSliceOf sl .none .none vs) (ps : IsPart vs (some (-1)))
    (h : Q ((n : Int) - 1, -1, n) s) : wpAny (model prog w) A (Builtin.Slice.sliceApplied (.ref sl) (pure (n : Int))) Q E s := by
  obtain ⟨os, hos, hcs, hds⟩ := id hs
  unfold Builtin.Slice.sliceApplied Builtin.Slice.sliceFields
  refine wpAny_bind (wpAny_bind (wpAny_field hos hds (x := .none) rfl (wpAny_bind (wpAny_field hos hds (x := .none) rfl (wpAny_bind (wpAny_field hos hds (x := vs) rfl (wpAny_pure ?_)))))))
  refine wpAny_bind (HT.slicePart_ ps ?_)
  show wpAny _ _ (if ((-1 : Int) == 0) = true then _ else _) _ _ s
  rw [if_neg (by decide)]
  refine wpAny_bind (slicePart_none (wpAny_bind (slicePart_none (wpAny_bind (wpAny_pure ?_)))))
  show wpAny _ _ (match Builtin.Slice.sliceAdjust none none (-1) (n : Int) with | (lo, hi) => pure (lo, (-1 : Int), Builtin.Slice.slicePlaces lo hi (-1))) _ _ s
  rw [adjust_rev n]
  show wpAny _ _ (pure ((n : Int) - 1, (-1 : Int), Builtin.Slice.slicePlaces ((n : Int) - 1) (-1) (-1))) _ _ s
  rw [places_rev]
  exact wpAny_pure h
theorem fm_congr {α β : Type} {f g : α → Option β} : ∀ {l : List α}, (∀ a ∈ l, f a = g a) → l.filterMap f = l.filterMap g
  | [], _ => rfl
  | a :: l, h => by rw [List.filterMap_cons, List.filterMap_cons, h a (by simp), fm_congr fun b hb => h b (by simp [hb])]
theorem pick_rev (xs : Array Value) : ((List.range xs.size).filterMap fun (m : Nat) => xs[(((xs.size : Int) - 1) + (m : Int) * (-1)).toNat]?).toArray = xs.toList.reverse.toArray := by
  have e : ∀ m ∈ List.range xs.size, (fun (m : Nat) => xs[(((xs.size : Int) - 1) + (m : Int) * (-1)).toNat]?) m = (fun m => xs[xs.size - 1 - m]?) m := by
    intro m hm
    have := List.mem_range.mp hm
    show xs[(((xs.size : Int) - 1) + (m : Int) * (-1)).toNat]? = xs[xs.size - 1 - m]?
    congr 1
    omega
  rw [fm_congr e]
  have := PySem.W.krv_all xs
  rw [show (fun m => xs[xs.size - 1 - m]?) = (fun m => xs[m]?) ∘ fun m => xs.size - 1 - m from rfl, ← List.filterMap_map, PySem.W.krv_range, List.filterMap_reverse, this]
theorem getItem_tuple_rev {t sl : Addr} {items : Array Value} {vs : Value} {Q : Value → Shared → Prop} (ht : IsTup s.heap t items) (hs : s.heap.IsSliceOf sl .none .none vs) (ps : IsPart vs (some (-1)))
    (h : Q (.ref s.heap.objs.size) { s with heap := s.heap.push { cls := .type "tuple", data := .seq items.toList.reverse.toArray } }) (hsz : items.size ≤ sizeLine) : wpAny (model prog w) A (getItem (.ref t) (.ref sl)) Q E s := by
  have hfit : sizeOk (.seq items.toList.reverse.toArray) := by
    show items.toList.reverse.toArray.size ≤ sizeLine
    rw [List.size_toArray, List.length_reverse]; exact hsz
  obtain ⟨os, hos, hcs, hds⟩ := id hs
  have hTs : s.TypeIs (.ref sl) "slice" := ⟨os, hos, hcs⟩
  unfold getItem
  try with_reducible refine wpAny_holding ?_
  first | refine wpAny_bind (wpAny_pure ?_) | skip
  refine wpAny_bind (wpAny_sequenceKey ht.typeIs (by decide) ?_)
  refine wpAny_bind (wpAny_callSpecial?_slot (name := Str.ofString "__getitem__") ht.typeIs PyProof.Rows.slot_tuple_getitem (wpAny_call_entry PyProof.Rows.slot_tuple_getitem ht.typeIs entry_tuple_getitem ?_ (args_tuple_getitem _ _)))
  show wpAny _ _ (Builtin.Tuple.tupleItemsOf (.ref t) >>= _) _ _ s
  refine wpAny_bind (tupleItemsOf_ ht (wpAny_bind (wpAny_typeOf hTs ?_)))
  rw [if_pos (by decide)]
  refine wpAny_bind (sliceApplied_rev hs ps ?_)
  have hno : ¬ ((((items.size : Int) - 1) == 0 && (-1 : Int) == 1 && items.size == items.size) = true) := by
    intro q
    rw [Bool.and_eq_true, Bool.and_eq_true] at q
    have q1 : (-1 : Int) = 1 := eq_of_beq q.1.2
    omega
  show wpAny _ _ (if ((((items.size : Int) - 1) == 0 && (-1 : Int) == 1 && items.size == items.size) = true) then _ else _) _ _ s
  rw [if_neg hno, pick_rev]
  first
    | exact wpAny_bind (m := Builtin.Tuple.tupleExact _) (wpAny_newObj_type (wpAny_pure ⟨_, rfl, wpAny_pure h⟩) hfit)
    | exact wpAny_bind (m := Builtin.Tuple.tupleExact _) (wpAny_newObj_type (wpAny_bind (wpAny_pure (wpAny_pure ⟨_, rfl, wpAny_pure h⟩))) hfit)
    | exact wpAny_bind (wpAny_bind (m := Builtin.Tuple.tupleExact _) (wpAny_newObj_type (wpAny_pure (wpAny_pure ⟨_, rfl, wpAny_pure h⟩)) hfit))
    | exact wpAny_bind (wpAny_bind (m := Builtin.Tuple.tupleExact _) (wpAny_newObj_type (wpAny_pure ⟨_, rfl, wpAny_pure h⟩) hfit))
end
section
variable {X : Cx}
def tRevT (K : PySem.W.Frag) (te : TE) : TE := fun σ H Q => te σ H fun x H1 => ∃ a xs, x = .ref a ∧ ((SqL K H1 a xs ∧ ∀ p, H1 p = none → Q (.ref p) (upd H1 p (.lst xs.reverse))) ∨ (SqT K H1 a xs ∧ NewB xs.reverse H1 Q))
theorem pe_revLT {e : Expr} {te : TE} {k : Nat} {p1 p2 p3 pos : Pos} (he : PE X e te) : PE X (.Subscript e (.Slice none none (some (.UnaryOp .USub (.Constant (.int 1) k p1) p2)) p3) pos) (tRevT X.K te) := by
  refine ⟨fun pins s σ H Q I h => Subscript_ (thn (he.run pins s σ H _ I h) fun v s1 ⟨x, H1, I1, r1, q1⟩ => ?_)⟩
  obtain ⟨a, xs, ex, hx⟩ := q1
  subst ex
  cases r1
  have hst : PO X (some (.UnaryOp .USub (.Constant (.int 1) k p1) p2)) (tPart (tUn (rU fun i => .int (-i)) (tC (.int 1)))) := po_some (pe_un un_neg pe_int)
  refine wpAny_Slice (thn (po_none.run pins s1 σ H1 (fun o H2 => o = none ∧ H2 = H1) I1 ⟨rfl, rfl⟩) fun vl s2 ⟨l, H2, I2, pl, el, e2⟩ => thn (po_none.run pins s2 σ H2 (fun o H3 => o = none ∧ H3 = H2) I2 ⟨rfl, rfl⟩) fun vu s3 ⟨u, H3, I3, pu, eu, e3⟩ => ?_)
  subst el e2 eu e3
  refine thn (hst.run pins s3 σ H3 (fun o H4 => o = some (-1) ∧ H4 = H3) I3 ⟨1, rfl, -1, rfl, rfl, rfl⟩) fun vs s4 ⟨o, H4, I4, ps, eo, e4⟩ => ?_
  subst eo e4
  have I5 : Inv X pins σ H4 { s4 with heap := s4.heap.push { cls := .type "slice", data := .fields #[vl, vu, vs] } } := I4.kept (t' := s4.toks) fun b ob q => Heap.get?_push_of_some _ q
  show wpAny (model X.prog X.w) X.A (subscriptTail e (.Slice none none (some (.UnaryOp .USub (.Constant (.int 1) k p1) p2)) p3) (.ref a) (.ref s4.heap.objs.size)) (EP X pins σ Q) X.xe { s4 with heap := s4.heap.push { cls := .type "slice", data := .fields #[vl, vu, vs] } }
  rcases hx with ⟨hx, q⟩ | ⟨hx, q⟩
  · obtain ⟨its, r, ht, hz⟩ := I5.list hx
    have hlen := r.length
    refine tail_any (ops := [.ref a, .ref s4.heap.objs.size]) ht.isList.typeIs (PySem.slot_list_getitem.lookup) ?_ (by with_unfolding_all rfl)
    refine wpAny_getItem_list_slice ht.isList (Heap.IsSliceOf.new _ vl vu vs) pl pu ps (by decide) ?_ (by rw [List.size_toArray]; omega)
    rw [PySem.W.krv_pick]
    exact ⟨.ref _, _, I5.laid (t' := s4.toks) (o := .lst xs.reverse) (fun b ob q => Heap.get?_push_of_some _ q) (Nat.le_refl _) ⟨by rw [List.length_reverse]; exact hz, _, 0, r.reverse, Heap.get?_push_size _ rfl⟩, rfl, q _ (I5.hok.fresh (Nat.le_refl _))⟩
  · obtain ⟨its, r, ht, hz⟩ := I5.tuple hx
    have hlen : its.toArray.size = xs.length := by rw [List.size_toArray]; exact r.length.symm
    cases pl
    cases pu
    refine tail_any (ops := [.ref a, .ref s4.heap.objs.size]) ht.typeIs (PyProof.Rows.slot_tuple_getitem.lookup) ?_ (by with_unfolding_all rfl)
    refine getItem_tuple_rev ht (Heap.IsSliceOf.new _ .none .none vs) ps ?_ (by rw [hlen]; exact hz)
    exact ⟨.ref _, _, I5.laid (t' := s4.toks) (fun b ob q => Heap.get?_push_of_some _ q) (Nat.le_refl _) (newB_ok r.reverse (by rw [List.length_reverse]; exact hz)), rfl, q _ _ (I5.hok.fresh (Nat.le_refl _)) rfl⟩
end
section
variable {L : Lnk} {C : Ctx} {X : Cx}
theorem s_rev {ea : Expr} {a : E} {k : Nat} {p1 p2 p3 pos : Pos} (hK : X.K = L.K) (ha : PE X ea (TEv L C a)) : PE X (.Subscript ea (.Slice none none (some (.UnaryOp .USub (.Constant (.int 1) k p1) p2)) p3) pos) (TEv L C (.sli a .none .none .rev)) :=
  PE.mono (pe_revLT (pe_locks ha)) fun σ H Q ⟨A, s, τ, r, s', S, e0, q⟩ => by
    obtain ⟨ra, s1, e1, e2⟩ := bd_ok (show ((ev C a s).bd fun ra s => hold ra s (fun s => (evp C .none s).bd fun l s => (evp C .none s).bd fun h s => .ok (l, h) s) fun ra lh s => sliR .rev ra lh.1 lh.2 s) = .ok r s' from e0)
    refine ⟨A, s, τ, ra, s1, S, e1, fun x H1 A1 ya S1 P1 K1 => ?_⟩
    obtain ⟨τ1, s1', lh, s2, S1', e3, k⟩ := hold_ok S1 P1 K1 e2
    obtain ⟨l, s3, e4, e5⟩ := bd_ok e3
    obtain ⟨h, s4, e6, e7⟩ := bd_ok e5
    cases e7
    cases e4
    cases e6
    obtain ⟨ra', s2', e8, S3', K3⟩ := k H1 A1 _ S1' (Pst.refl S1'.nd)
    simp only at e8
    unfold sliR at e8
    rw [hK]
    split at e8
    · rename_i xs
      obtain ⟨_, e9⟩ := rif_ok e8
      obtain ⟨ys, f1, rfl, rfl⟩ := okV_ok e9
      cases f1
      obtain ⟨a, vs, rfl, h1, h2⟩ := K3.d_inv.tup_inv
      refine ⟨[], (fun b hb => by simp at hb), List.nodup_nil, fun H3 k => ?_⟩
      cases Lockd.nil_eq k
      exact ⟨a, vs, rfl, .inr ⟨h1, fun p o hp hd => Fin.tup q S3' P1.nil (fun b hb => by simp at hb) h2.rev hp hd⟩⟩
    · obtain ⟨c, _⟩ := rif_ok e8; cases c
    · rename_i xs
      obtain ⟨ys, f1, rfl, rfl⟩ := okV_ok e8
      cases f1
      obtain ⟨a, vs, rfl, h1, h2⟩ := K3.d_inv.lst_inv
      refine ⟨[], (fun b hb => by simp at hb), List.nodup_nil, fun H3 k => ?_⟩
      cases Lockd.nil_eq k
      refine ⟨a, vs, rfl, .inl ⟨h1.sql, fun p hp => ?_⟩⟩
      obtain ⟨i1, i2, i3, i4⟩ := imD_ok (L := L) h2.rev
      rw [← i2] at q
      have := Fin.lst q S3' P1.nil (fun b hb => by simp at hb) i4 (fun b hb => by rw [i3] at hb; simp at hb) (by rw [i3]; exact List.nodup_nil) hp
      rw [i1] at this
      exact this
    · rename_i ms
      obtain ⟨ys, f1, rfl, rfl⟩ := okV_ok e8
      cases f1
      obtain ⟨n, rfl, h1, rfl, h3⟩ := K3.v_inv
      cases n with
      | im m v => simp only [MA.er] at h1; subst h1; exact h3.elim
      | dct a ns => simp [MA.er] at h1
      | obj a c ns => simp [MA.er] at h1
      | dnn a ns => simp [MA.er] at h1
      | lst a ns =>
        simp only [MA.er, M.lst.injEq] at h1
        subst h1
        refine ⟨[], (fun b hb => by simp at hb), List.nodup_nil, fun H3 k => ?_⟩
        cases Lockd.nil_eq k
        refine ⟨a, vsOf ns, rfl, .inl ⟨.inl (.inl h3.1), fun p hp => ?_⟩⟩
        obtain ⟨c1, c2⟩ := rev_ers ns
        rw [c1] at q
        rw [← c2]
        have pm := adrs_rev ns
        have nd := (List.nodup_cons.mp P1.fnd).2
        exact Fin.lst q S3' P1 K3.trk (.of fun m hm => h3.2.mem m (List.mem_reverse.mp hm)) (fun b hb => by simp [adrO, MA.adr, pm.mem_iff.mp hb]) (pm.nodup_iff.mpr nd) hp
    · rename_i p
      obtain ⟨ms, s5, f1, f2⟩ := bd_ok e8
      obtain ⟨ys, f3, rfl, rfl⟩ := okV_ok f2
      cases f3
      obtain ⟨rfl, o, h⟩ := K3.p_inv
      obtain ⟨a, ns, rfl, hp, Y, hm, nd, hy, k1⟩ := kidsP_ok S3' P1 o h f1
      refine ⟨Y, hm, nd, fun H3 k => ?_⟩
      obtain ⟨A3, zs, S3, P3, z1, z2, z3, z4, z5, z6⟩ := k1 H3 k
      refine ⟨a, vsOf zs, rfl, .inl ⟨.inl (.inl z4), fun p hp => ?_⟩⟩
      subst z1
      obtain ⟨c1, c2⟩ := rev_ers zs
      rw [c1] at q
      rw [← c2]
      have nz : adrs zs.reverse = [] := List.eq_nil_iff_forall_not_mem.mpr fun b hb => by have := (adrs_rev zs).mem_iff.mp hb; rw [z2] at this; simp at this
      exact Fin.lst q S3 P3 (fun b hb => by simp [adrO] at hb) (.of fun m hm => z3.mem m (List.mem_reverse.mp hm)) (fun b hb => by rw [nz] at hb; simp at hb) (by rw [nz]; exact List.nodup_nil) hp
    · cases e8
end
end Vm
end
section
namespace Vm
open PySem L2 PySem.Spec PyProof.Rows
def flOf (ns : List Str) (i : Nat) : Str := match ns[i]? with | some x => x | none => mkStr (List.replicate (i + 1) 48)
def flFree (x : Str) : Bool := !(x.cps.toList.head? == some 48)
def eqL (x y : Str) : Bool := x.cps.toList == y.cps.toList
def ndS : List Str → Bool
  | [] => true
  | x :: r => !(r.any (eqL x)) && ndS r
def flGood (ns : List Str) : Bool := ns.all flFree && ndS ns
def LkC (K : PySem.W.Frag) (w : World) (fs cs : List (Nat × Addr)) (ns : List Str) : Lnk := { K := K, hw := NestedKey.hash w, fa := fun n => lkN n fs, ca := fun n => lkN n cs, fl := flOf ns, ct := ctN, gd := [] }
def LkX (K : PySem.W.Frag) (w : World) (fs cs xs : List (Nat × Addr)) (ns : List Str) : Lnk := { LkC K w fs cs ns with xa := fun n => lkN n xs }
def AllI (P : Nat → Addr → Prop) : List (Nat × Addr) → Prop
  | [] => True
  | (i, a) :: r => P i a ∧ AllI P r
theorem allI {P : Nat → Addr → Prop} : ∀ {cs : List (Nat × Addr)}, AllI P cs → ∀ c A, lkN c cs = some A → P c A
  | [], _, c, A, e => by simp [lkN] at e
  | (i, a) :: r, h, c, A, e => by
    simp only [lkN] at e
    split at e
    · rename_i q
      cases e; subst q; exact h.1
    · exact allI h.2 c A e
def AllM (m : Nat) (Q : Nat → Nat → Prop) : Nat → List (List (Nat × Nat)) → Prop
  | _, [] => True
  | n, l :: r => (∀ f, lkN m l = some f → Q n f) ∧ AllM m Q (n + 1) r
def MkAt (P : Program) (w : World) (K : PySem.W.Frag) (mg : Str → Option Value) (base : Heap) (L : Lnk) (P0 : Prog) (k : Nat) (x : Str) (c f : Nat) : Prop :=
  ∃ CA g, L.ca c = some CA ∧ mg x = some (.ref CA) ∧ Mk K CA g ∧ FnAt P w K mg base L P0 k g f
section
variable {L : Lnk} {C : Ctx} {X : Cx}
variable {k : Nat} {P0 : Prog}
def tMethX (X : Cx) (k : Nat) (m : Str) (ta : TE) (t : TA) : TE := fun σ H Q => ta σ H fun x H1 => ∃ a CA dx fs g fd ps sp, x = .ref a ∧ H1 a = some (.ins CA dx fs) ∧ fs.lookup m = none ∧ Cls X.K CA ∧ Meth X.K CA m g ∧ FnG X.prog X.w X.K X.mg X.base k g fd ps sp ∧ Binds X.K fd ps [] ∧
  t σ H1 fun vs H2 => sp (x :: vs) H2 Q
end
inductive EsFn (L : Lnk) : List DictEntry → List (Str × Nat) → Prop
  | nil : EsFn L [] []
  | cons {e : DictEntry} {es : List DictEntry} {k : Str} {t : Tok} {f : Addr} {n : Nat} {kvs : List (Str × Nat)} : e.key = .str k t → L.fa n = some f → e.val = .ref f → EsFn L es kvs → EsFn L (e :: es) ((k, n) :: kvs)
def tbS (kvs : List (Str × Nat)) : List (D × Nat) := kvs.map fun p => (.str p.1, p.2)
def TabAt (L : Lnk) (w : World) (u : Value) (kvs : List (Str × Nat)) : Prop := ∃ d es n, u = .ref d ∧ KDict L.K w d es n ∧ EsFn L es.toList kvs
section
variable {L : Lnk} {C : Ctx} {X : Cx}
end
end Vm
end
section
namespace Vm
open PySem L2 PySem.Spec PyProof.Rows
section
variable {X : Cx}
end
section
variable {prog : Program} {w : World} {K : Type} [DecidableEq K] {knd : KeyKind prog w K} {A : Around} {E : Value → Shared → Prop} {s : Shared}
end
section
variable {X : Cx}
def rTupItems : V → Hp → VK → Prop := fun x H Q => ∃ (d : Addr) (o : Obj) (kvs : List (L2.Key × V)), x = .ref d ∧ H d = some (.frz o (.dK kvs)) ∧
  ∀ (H' : Hp) (ts : List Addr), (∀ b o, H b = some o → H' b = some o) → ts.length = kvs.length → (∀ (j : Nat) (t : Addr), ts[j]? = some t → ∃ (q : L2.Key × V) (o : Obj), kvs[j]? = some q ∧ H' t = some (.frz o (.tup [kV q.1, q.2])) ∧ o.dict = none) → NewB (ts.map V.ref) H' Q
end
section
variable {L : Lnk} {C : Ctx} {X : Cx}
end
end Vm
end
section
namespace Vm
open PySem L2 PySem.Spec PyProof.Rows
section
variable {prog : Program} {w : World} {A : Around} {E : Value → Shared → Prop} {s : Shared}
end
section
variable {X : Cx}
def tListRev (K : PySem.W.Frag) (te : TE) : TE := fun σ H Q => te σ H fun v H1 => ∃ (a : Addr) (xs : List V), v = .ref a ∧ SqL K H1 a xs ∧ ∀ q, H1 q = none → Q (.ref q) (upd H1 q (.lst xs.reverse))
end
section
variable {L : Lnk} {C : Ctx} {X : Cx}
end
end Vm
end
section
namespace Vm
open PySem L2 PySem.Spec PyProof.Rows
section
variable {L : Lnk} {C : Ctx} {X : Cx}
def maxO (xs : List D) : Option D := (intsD xs).bind fun is => match is with | [] => none | i :: is => some (.int (maxI i is))
def rMaxG (K : PySem.W.Frag) : List V → Hp → VK → Prop := fun xs H Q => ∃ (a : Addr) (vs : List V) (ds : List D) (z : D), xs = [.ref a] ∧ SqL K H a vs ∧ RpL K H vs ds ∧ maxO ds = some z ∧ ∀ v, Rp K H v z → Q v H
end
end Vm
end
section
namespace Vm
open PySem L2
section
variable {L : Lnk} {C : Ctx} {X : Cx} {Wx : WX}
end
end Vm
end
section
namespace Vm
open PySem L2 PySem.Spec PyProof.Rows
def inOf (e : Int × Value) : Int := match e.2 with | .int k _ => k | _ => 0
def InE (P : Program) (w : World) (e : Int × Value) : Prop := ∃ k tk, e.2 = Value.int k tk ∧ e.1 = (PySem.intKind P w).hash k
def SetI (P : Program) (w : World) (h : Heap) (a : Addr) (xs : List Int) : Prop :=
  ∃ u es ep tb, h.get? a = some u ∧ u.ExactSet ∧ u.data = .set es ep tb ∧ (∀ e ∈ es.toList, InE P w e) ∧ (es.toList.map inOf).Perm xs ∧ xs.Nodup ∧ es.size < scanBound ∧ tb.fits es.size = true ∧ Ris tb.place.toList ∧ (w.params.followText "set-order" = true ∨ tb.led = true)
section
variable {P : Program} {w : World} {A : Around} {E : Value → Shared → Prop} {s : Shared} {a : Addr} {xs : List Int}
theorem SetI.at {h h' : Heap} (R : SetI P w h a xs) (k : ∀ u, h.get? a = some u → h'.get? a = some u) : SetI P w h' a xs := by
  obtain ⟨u, es, ep, tb, hu, r⟩ := R
  exact ⟨u, es, ep, tb, k u hu, r⟩
end
section
variable {prog : Program} {w : World} {A : Around} {R : Result → Shared → Prop} {I : Addr} {fp wr : List Addr} {G : Array GenState → Array GenState → Prop} {n : Nat} {P : Nat → Value → Prop} {St : Nat → Shared → Prop}
end
end Vm
end
section
namespace Vm
open PySem L2 PySem.Spec PyProof.Rows
section
variable {prog : Program} {w : World} {A : Around} {E : Value → Shared → Prop} {s : Shared}
end
end Vm
end
section
namespace Vm
open PySem L2 PySem.Spec PyProof.Rows
def dedupI : List Int → List Int → List Int
  | acc, [] => acc.reverse
  | acc, x :: xs => if acc.contains x then dedupI acc xs else dedupI (x :: acc) xs
section
variable {P : Program} {w : World} {A : Around} {E : Value → Shared → Prop} {s : Shared} {a : Addr} {ks : List Int}
end
section
variable {X : Cx}
def tSSetI (K : PySem.W.Frag) (ta : TE) : TE := fun σ H Q => ta σ H fun x H1 => ∃ l, ∃ xs : List Int, x = .ref l ∧ (SqL K H1 l (xs.map V.int) ∨ SqT K H1 l (xs.map V.int)) ∧ xs.length < scanBound ∧
  ∀ (ks ys : List Int) (p : Addr), ks.Nodup → (∀ x, x ∈ ks ↔ x ∈ xs) → ys.Perm ks → ys.Pairwise (fun a b => PySem.W.dataLe false PyData.int a b = true) → H1 p = none → Q (.ref p) (upd H1 p (.lst (ys.map V.int)))
def tLSetI (K : PySem.W.Frag) (ta : TE) : TE := fun σ H Q => ta σ H fun x H1 => ∃ l, ∃ xs : List Int, x = .ref l ∧ (SqL K H1 l (xs.map V.int) ∨ SqT K H1 l (xs.map V.int)) ∧ xs.length < scanBound ∧
  ∀ ks : List Int, ks.Nodup → (∀ x, x ∈ ks ↔ x ∈ xs) → Q (.int ks.length) H1
end
section
variable {L : Lnk} {C : Ctx} {X : Cx}
end
end Vm
end
section
set_option maxHeartbeats 1000000
namespace Vm
open PySem L2 PySem.Spec PyProof.Rows
def Sk.isT : Sk → Bool | .s _ => true | _ => false
section
variable {X : Cx} {pins : List (Addr × Obj)} {σ : L2.St} {H : Hp} {s : Shared}
end
section
variable {prog : Program} {w : World}
end
end Vm
end
section
set_option maxHeartbeats 1000000
namespace Vm
open PySem L2 PySem.Spec PyProof.Rows
def tDictZip (K : PySem.W.Frag) (ta : TA) : TE := fun σ H Q => ta σ H fun vs H1 => ∃ k1 k2 xs ys l, vs = [Sk.v k1, Sk.v k2] ∧ k1.isT = false ∧ k2.isT = false ∧ SkAt K H1 k1 xs ∧ SkAt K H1 k2 ys ∧ min xs.length ys.length ≤ sizeLine ∧
  l.length = min xs.length ys.length ∧ (∀ (i : Nat) (p : Key × V), l[i]? = some p → xs[i]? = some (kV p.1) ∧ ys[i]? = some p.2) ∧ ∀ p, H1 p = none → Q (.ref p) (upd H1 p (.dK (mergeK [] l)))
section
variable {X : Cx}
end
end Vm
end
section
set_option maxHeartbeats 1000000
namespace Vm
open PySem L2 PySem.Spec PyProof.Rows
section
variable {L : Lnk} {C : Ctx} {X : Cx}
end
end Vm
end
section
set_option maxHeartbeats 1000000
namespace Vm
open PySem L2 PySem.Spec PyProof.Rows
def mergeA (a b : List (D × MA)) : List (D × MA) := b.foldl (fun acc kv => putD kv.1 kv.2 acc) a
theorem HdK.mergeA {L : Lnk} {H : Hp} : ∀ {b a : List (D × MA)}, HdK L H a → HdK L H b → HdK L H (mergeA a b)
  | [], a, ha, _ => ha
  | (k, z) :: b, a, ha, hb => HdK.mergeA (a := putD k z a) (HdK.put hb.1 ha) hb.2
def rUpd : V → List V → Hp → VK → Prop := fun x xs H Q => ∃ a b l l2, x = .ref a ∧ xs = [.ref b] ∧ a ≠ b ∧ H a = some (.dK l) ∧ H b = some (.dK l2) ∧ l.length + l2.length ≤ sizeLine ∧ ((l.map (·.1)).Nodup → Q .non (upd H a (.dK (mergeK l l2))))
section
variable {L : Lnk} {C : Ctx} {X : Cx}
end
end Vm
end
section
namespace Vm
open PySem L2 PySem.Spec PyProof.Rows
section
variable {L : Lnk} {C : Ctx} {X : Cx} {Wx : WX}
theorem rv_split : ∀ o, recv .split o = true → ∃ x, o = .d (.str x) := fun o h => by
  cases o with
  | d x => cases x <;> first | exact ⟨_, rfl⟩ | cases h
  | _ => cases h
theorem rpL_of_strs {K : PySem.W.Frag} {H : Hp} : ∀ {ys : List Str}, (∀ y ∈ ys, sOk y) → RpL K H (ys.map V.str) (ys.map PyData.str)
  | [], _ => .nil
  | y :: ys, h => .cons (Rp.str _ (h y (by simp))) (rpL_of_strs fun z hz => h z (by simp [hz]))
theorem mt_split' : MtR X "str.split" (RM L (bmR .split)) := by
  refine MtR.mono mt_split ?_
  rintro x xs H2 Q ⟨σ, H, A, A2, s, τ, ro, rv, yo, ys, r, s', S, P, Ko, Ks, e, q⟩
  obtain ⟨o, e1, e2⟩ := rs_ok e
  obtain ⟨z, e3, e4⟩ := rs_ok (show (rs (o.dat.bind asStr) fun z => bSplit s z rv) = .ok r s' from e2)
  simp only [Option.bind_eq_some_iff] at e3
  obtain ⟨d, f1, f2⟩ := e3
  cases mdat_some f1
  cases asStr_some f2
  obtain ⟨zo, hz1, rfl, hzo, _⟩ := val_at S Ko e1
  obtain ⟨hzv, zok⟩ := (hzo.d_inv hz1).str_inv
  unfold bSplit at e4
  split at e4
  rotate_left
  · cases e4
  rename_i b
  obtain ⟨c, e5⟩ := rif_ok e4
  cases e5
  obtain ⟨y1, v1, rfl, rfl, K1⟩ := Ks.one
  obtain ⟨hv, -⟩ := K1.d_inv.str_inv
  simp only [Bool.and_eq_true, decide_eq_true_eq, List.all_eq_true] at c
  obtain ⟨⟨c1, c2⟩, c3⟩ := c
  refine ⟨z, b, hzv, by rw [hv], ?_, c2, fun p hp => ?_⟩
  · have : b.length ≠ 0 := by omega
    simpa using this
  · obtain ⟨i1, i2, i3, i4⟩ := imD_ok (L := L) (rpL_of_strs (K := L.K) (H := H2) fun y hy => sokT_ok (c3 y hy))
    have e9 : (Txt.split z b).map (fun y => M.d (.str y)) = ers (imD ((Txt.split z b).map PyData.str) ((Txt.split z b).map V.str)) := by rw [i2, List.map_map]; rfl
    rw [e9] at q
    have := Fin.lst q S P.nil (fun b hb => by simp at hb) i4 (fun b hb => by rw [i3] at hb; simp at hb) (by rw [i3]; simp) hp
    rw [i1] at this
    exact this
end
end Vm
end
section
namespace Vm
open PySem L2 PySem.Spec PyProof.Rows
section
variable {L : Lnk} {C : Ctx} {X : Cx}
theorem t_notInG {g : Nat} {kvs : List (Str × D)} {x : Str} {u : Value} {ea : Expr} {a : E} {p pos : Pos} (hg : C.glo[g]? = some (.d (.dict (dsS kvs)))) (hm : X.mg x = some u) (D : DctAt X.K X.w u kvs) (hK : X.K = L.K) (ha : PE X ea (TEv L C a)) (hgl : Gl X x := by rfl) (hd : (x == ("__debug__" : Str)) = false := by decide)
    (hmk : behindInMarks .NotIn (.Name x p) = false := by first | exact nomark _ | with_unfolding_all rfl) : PT X (.Compare ea [.NotIn] [.Name x p] pos) (TTt L C (.cmp .notin a (.glo g))) := by
  obtain ⟨d, es, n, rfl, D, hes⟩ := D
  refine PT.mono (pt_cmpR (op_notInKW D) ha (pe_ref hm hgl hd) hmk) fun σ H Q h0 => ?_
  obtain ⟨A, s, τ, r, s', S, e0, q⟩ := h0.bl cmp_bool
  rw [ev] at e0
  obtain ⟨ra, s1, e1, e2⟩ := bd_ok e0
  refine ⟨A, s, τ, ra, s1, S, e1, fun v H1 A1 y S1 P1 K1 => ?_⟩
  obtain ⟨τ1, s1', b, s2, S1', e3, k⟩ := hold_ok S1 P1 K1 e2
  rw [ev, hg] at e3
  cases e3
  obtain ⟨ra', s2', e4, S2, K2⟩ := k H1 A1 [] S1' (Pst.refl S1'.nd)
  obtain ⟨m, e5, e6⟩ := rs_ok e4
  obtain ⟨m2, e7, e8⟩ := rs_ok e6
  cases e7
  obtain ⟨c, e9, rfl, rfl⟩ := okV_ok (show okV (cmpM .notin m (.d (.dict (dsS kvs)))) s2' (fun b => M.d (.bool b)) = .ok r s' from e8)
  obtain ⟨z, rfl, rfl, hz, _⟩ := val_at S2 K2 e5
  have e9 : ob (frz z.er) (fun x => ob (hasK x (dsS kvs)) fun k => some (!k)) = some c := e9
  cases e10 : frz z.er with
  | none => rw [e10] at e9; cases e9
  | some j =>
    rw [e10] at e9
    replace e9 : ob (hasK j (dsS kvs)) (fun k => some (!k)) = some c := e9
    cases e12 : hasK j (dsS kvs) with
    | none => rw [e12] at e9; cases e9
    | some cc =>
    rw [e12] at e9
    cases e9
    obtain ⟨hk, e11⟩ := oif_ok (show hasK j (dsS kvs) = some cc from e12)
    cases e11
    obtain ⟨kk, h1, h2⟩ := Rp.kV (frz_key hz e10 hk) hk
    refine ⟨kk, h2, rfl, ?_⟩
    have hb : (gW X.prog X.w es kk).isSome = (lkD j (dsS kvs)).isSome := by
      rw [gW, findBy_es]
      rcases find_esis h1 hes with ⟨x, v, u, f1, f2, _⟩ | ⟨f1, f2⟩ <;> rw [f1, f2] <;> rfl
    rw [hb]
    exact Fin.im q S2 P1.nil (Rp.bl _)
end
end Vm
end
section
namespace Vm
open PySem L2 PySem.Spec PyProof.Rows
section
variable {L : Lnk} {C : Ctx} {X : Cx} {Wx : WX}
end
end Vm
end
section
namespace Vm
open PySem L2 PySem.Spec PyProof.Rows
structure FnX (P : Program) (w : World) (K : PySem.W.Frag) (mg : Str → Option Value) (base : Heap) (k : Nat) (f : Addr) (fd : FuncData) (ps : List Str) (sp : Sp) : Prop where
  len : ∀ vs H Q E, sp vs H Q E → vs.length = ps.length
  run : ∀ (A : Around) (outer : List Env) (s : Shared) (H : Hp) (args : Args) (us : List Value) (vs : List V) (Q : VK) (E : XK), Room (2 * k) A → A.guards = some [] → Env0 P w K mg base A outer s H → BindsTo s fd args (ps.zip us) → Vals vs us → sp vs H Q E →
    codeAny (model P w) A (.call (.ref f) args) (fun r s' => (∃ u, r = .ok (.ret u) ∧ CE outer P w H s Q u s') ∨ ∃ e, r = .error e ∧ L2.CX P w outer H s E e s') s
theorem fn_ofX {P : Program} {w : World} {K : PySem.W.Frag} {mg : Str → Option Value} {base : Heap} {k : Nat} {x qual : Str} {st : Stmt} {f : Addr} {fd : FuncData} {N ps : List Str} {sp : Sp} (F : Fun K x qual st f fd) (S : FnScope N ps (defScope st)) (len : ∀ vs H Q E, sp vs H Q E → vs.length = ps.length)
    (hbody : ∀ (cdv : Value) (A : Around) (outer : List Env) (s : Shared) (H : Hp) (vs : List V) (Q : VK) (E : XK), Room (2 * k + 1) (A.deeper (envOfC qual (defScope st) s.heap.objs.size f cdv)) → (A.deeper (envOfC qual (defScope st) s.heap.objs.size f cdv)).guards = some [] → sp vs H Q E →
      ∃ t, PSs (cxOf (L2.CX P w) P w K mg base N qual (defScope st) f cdv A outer s H E) (defBody st) t ∧ t { nx := fun _ H' => Q .non H', rt := Q } (start N vs) H) : FnX P w K mg base (k + 1) f fd ps sp := by
  obtain ⟨oc, od, kV, doc, pm, an, cdv, ct, osl, rfl, lk, hcd⟩ := F.ex
  refine ⟨len, fun A outer s H args us vs Q E hr hgd e0 hb r hsp => ?_⟩
  have KX : K.In s.heap := e0.mod.kin.keeps fun b o e => (e0.bs b o e).1
  have lim : s.heap.NoLimit := e0.mod.nolimit.keeps fun b o e => (e0.bs b o e).1
  have hkind : ∀ y ∈ ps.zip us, (defScope st).names.lookup y.1 = some .local ∨ ((defScope st).names.lookup y.1 = some .cell ∧ ((cellsFrom (s.heap.objs.size + 1) (defScope st).names []).lookup y.1).isSome = true) := fun ⟨n, v⟩ hy =>
    (S.par n (List.of_mem_zip hy).1).imp id fun q => ⟨q, PySem.W.cellsFrom_some _ _ _ (.inl q)⟩
  refine codeAny_call_function hr.depth (KX _ _ lk) rfl S.co S.gen rfl (PySem.W.codeRec_of KX hcd) (hb _ _ _ _ ?_)
  refine wpAny_newFunctionEnv_cells S.kind hkind fun env he s1 q1 => ?_
  subst he
  refine ⟨lim.keeps q1.toInCall.keep, codeAny_func ?_⟩
  obtain ⟨t, ht, hq⟩ := hbody cdv A outer s H vs Q E (hr.deeper _) hgd hsp
  have I : Inv (cxOf (L2.CX P w) P w K mg base N qual (defScope st) f cdv A outer s H E) [] (start N vs) H s1 := inv_start S hr.hd e0 (len _ _ _ _ hsp) r q1
  have done : ∀ {σ' : L2.St} {H' : Hp} {v : V} {u : Value} {s' : Shared}, Inv (cxOf (L2.CX P w) P w K mg base N qual (defScope st) f cdv A outer s H E) [] σ' H' s' → RelV v u → Q v H' → CE outer P w H s Q u s' :=
    fun {σ' H' v u s'} J rv z => ⟨v, H', J.os, J.bare, J.base, J.hok, rv, z⟩
  refine wpAny_mono (ht.run [] s1 (start N vs) H _ I hq) (fun fl s' hs => ?_) fun e s' hs => ?_
  · cases fl with
    | ret u =>
      obtain ⟨v, σ', H', J, rv, z⟩ := hs
      exact .inl ⟨u, rfl, done J rv z⟩
    | next =>
      obtain ⟨σ', H', J, z⟩ := hs
      exact .inl ⟨Value.none, rfl, done (v := V.non) (u := Value.none) J rfl z⟩
    | brk => obtain ⟨_, _, _, z⟩ := hs; exact False.elim z
    | cont => obtain ⟨_, _, _, z⟩ := hs; exact False.elim z
  · exact wpAny_mono hs (fun _ s'' z => .inr ⟨e, rfl, z⟩) fun e' s'' z => .inr ⟨e', rfl, z⟩
def CallAtX (P : Program) (w : World) (K : PySem.W.Frag) (mg : Str → Option Value) (base : Heap) (L : Lnk) (P0 : Prog) (k : Nat) (x : Str) (f : Nat) : Prop :=
  ∃ (a : Addr) (fd : FuncData) (ps : List Str), mg x = some (.ref a) ∧ PySem.W.keepIn K (.ref a) = true ∧ Binds K fd ps [] ∧ FnX P w K mg base k a fd ps (SpX L P0 k f)
theorem spX_len {L : Lnk} {P0 : Prog} {k f n : Nat} {vs : List V} {H : Hp} {Q : VK} {E : XK} (hf : ∀ fd, P0.fns[f]? = some fd → fd.np = n) (h : SpX L P0 k f vs H Q E) : vs.length = n := by
  obtain ⟨ys, rfl, _, _, _, e⟩ := h
  cases k with
  | zero => simp [vrun] at e
  | succ k =>
    unfold vrun at e
    cases ef : P0.fns[f]? with
    | none => rw [ef] at e; simp [cs] at e
    | some fd =>
      rw [ef] at e
      simp only [cs] at e
      cases c : ((ers ys).length == fd.np && decide (fd.np ≤ fd.n) && fd.rb.all (datAt (ers ys)) && ghOk fd.gh (ers ys)) with
      | false => rw [c] at e; simp [cif] at e
      | true =>
        simp only [Bool.and_eq_true, beq_iff_eq] at c
        rw [← hf fd ef, ← c.1.1.1, ers_map, List.length_map, vsOf, List.length_map]
theorem def_okX {P : Program} {w : World} {K : PySem.W.Frag} {mg : Str → Option Value} {base : Heap} {k f : Nat} {x qual : Str} {st : Stmt} {a : Addr} {fd : FuncData} {N ps : List Str} {L : Lnk} {P0 : Prog} {fv : Fd} (F : Fun K x qual st a fd) (S : FnScope N ps (defScope st))
    (hf : P0.fns[f]? = some fv) (hn : N.length = fv.n) (hp : fv.np = ps.length)
    (hbody : ∀ (cdv : Value) (A : Around) (outer : List Env) (s : Shared) (H : Hp) (E : XK), Room (2 * k + 1) (A.deeper (envOfC qual (defScope st) s.heap.objs.size a cdv)) → (A.deeper (envOfC qual (defScope st) s.heap.objs.size a cdv)).guards = some [] →
      PSs (cxOf (L2.CX P w) P w K mg base N qual (defScope st) a cdv A outer s H E) (defBody st) (TSs L (P0.ctx fv.np fv.rb (vrun P0 k)) (fun cls d _ H => E cls d H) fv.body)) : FnX P w K mg base (k + 1) a fd ps (SpX L P0 (k + 1) f) :=
  fn_ofX F S (fun vs H Q E h => spX_len (fun fd' e => by rw [hf] at e; cases e; exact hp) h) fun cdv A outer s H vs Q E hr hgd h => ⟨_, hbody cdv A outer s H E hr hgd, body_okX hf hn h⟩
theorem def_zeroX {P : Program} {w : World} {K : PySem.W.Frag} {mg : Str → Option Value} {base : Heap} {f : Nat} {a : Addr} {fd : FuncData} {ps : List Str} {L : Lnk} {P0 : Prog} : FnX P w K mg base 0 a fd ps (SpX L P0 0 f) := by
  refine ⟨fun vs H Q E h => ?_, fun A outer s H args us vs Q E _ _ _ _ _ h => ?_⟩ <;>
  · obtain ⟨ys, _, _, _, e⟩ := h
    simp [vrun] at e
end Vm
end
section
namespace Vm
open PySem L2 PySem.Spec PyProof.Rows
section
variable {L : Lnk} {C : Ctx} {X : Cx} {Wx : WX}
def FinX (L : Lnk) (Wx : WX) (σ : L2.St) (H : Hp) (A : SA) (τ : List V) (R : Res Rv) (Q : VK) : Prop := match R with
  | .ok r s' => ∀ v H' A' y, SR L H' σ A' s' τ → Pst H A H' A' (adrO y) → RvOk L H' A' r y v → Q v H'
  | .exc x s' => ∀ cls d H' A', SR L H' σ A' s' τ → Pst H A H' A' [] → XcOk L x cls d → Wx cls d σ H'
  | .no => False
def TEx (L : Lnk) (C : Ctx) (Wx : WX) (e : E) : TE := fun σ H Q => ∃ A s τ, SR L H σ A s τ ∧ FinX L Wx σ H A τ (ev C e s) Q
theorem callR_redX {P : Prog} {k f : Nat} {rv : List Rv} {yo : List (Option MA)} {vs : List V} {σ : L2.St} {H H1 : Hp} {A A1 : SA} {s1 : St} {τ : List V} {Q : VK} (hC : C.call = vrun P k) (S1 : SR L H1 σ A1 s1 τ) (P1 : Pst H A H1 A1 (adrOs yo)) (K1 : RvsOk L H1 A1 rv yo vs)
    (m : FinX L Wx σ H A τ (callR C f rv s1) Q) : SpX L P k f vs H1 Q (fun cls d H' => Wx cls d σ H') := by
  cases hR : callR C f rv s1 with
  | no => rw [hR] at m; exact m.elim
  | ok r s' => rw [hR] at m; exact (callR_red hC S1 P1 K1 hR m).toX
  | exc x s' =>
    rw [hR] at m
    unfold callR at hR
    cases ap : apart rv with
    | false => rw [ap] at hR; cases hR
    | true =>
    rw [ap] at hR
    cases e4 : vals s1 rv with
    | none => rw [e4] at hR; cases hR
    | some ms =>
    rw [e4] at hR
    obtain ⟨ys, G, rfl, rfl, hy⟩ := args_ok S1 K1 e4
    rw [hC] at hR
    replace hR : cend rv s1 (vrun P k f (ers ys)) = .exc x s' := hR
    cases ec : vrun P k f (ers ys) with
    | no => rw [ec] at hR; cases hR
    | ok cr fin =>
      rw [ec] at hR
      cases cr with
      | v m => cases hR
      | p i pq =>
        replace hR : (rs rv[i]? fun r => retP pq fin[i]? (back rv fin s1) r) = .exc x s' := hR
        cases er : rv[i]? with
        | none => rw [er] at hR; cases hR
        | some r0 =>
          rw [er] at hR
          cases r0 with
          | p p => cases hR
          | v w =>
            replace hR : (rs (fin[i]?.bind fun m => m.get pq) fun x => Res.ok (Rv.v x) (back rv fin s1)) = .exc x s' := hR
            cases eb : (fin[i]?.bind fun m => m.get pq) with
            | none => rw [eb] at hR; cases hR
            | some z => rw [eb] at hR; cases hR
    | exc x0 fin =>
      rw [ec] at hR
      cases hR
      refine ⟨ys, rfl, hy, arg_nd S1 G ap P1.nd, S1.gl, ?_⟩
      rw [ec]
      intro cls d H' ys' ev ef hd fr nd new R
      subst ef
      obtain ⟨S2, P2, l2⟩ := back_ok S1 P1 G hy ap ev hd fr nd new
      exact m cls d H' _ S2 (P2 [] List.nodup_nil fun b hb => by simp at hb) R
theorem call_redX {P : Prog} {k f : Nat} {es : Es} {σ : L2.St} {H : Hp} {Q : VK} (hC : C.call = vrun P k) (h : TEx L C Wx (.xcall f es) σ H Q) : TRs L C es σ H fun vs H1 => SpX L P k f vs H1 Q (fun cls d H' => Wx cls d σ H') := by
  obtain ⟨A, s, τ, S, m⟩ := h
  rw [ev] at m
  cases e1 : evs C es s with
  | exc x s1 => rw [e1] at m; exact m.elim
  | no => rw [e1] at m; exact m.elim
  | ok rv s1 =>
    rw [e1] at m
    exact ⟨A, s, τ, rv, s1, S, e1, fun vs H1 A1 yo S1 P1 K1 => callR_redX hC S1 P1 K1 m⟩
theorem run_X {pins : List (Addr × Obj)} {σ : L2.St} {H : Hp} {s : Shared} {Q : VK} {us : List Value} {vs : List V} {k : Nat} {a : Addr} {fd : FuncData} {ps : List Str} {sp : Sp} (F : FnX X.prog X.w X.K X.mg X.base k a fd ps sp) (tk : Takes X Wx) (hr : Room (2 * k) X.A) (hgd : X.A.guards = some []) (hb : Binds X.K fd ps [])
    (I : Inv X pins σ H s) (r : Vals vs us) (h : sp vs H Q (fun cls d H' => Wx cls d σ H')) : wpAny (model X.prog X.w) X.A (call (.ref a) us) (EP X pins σ Q) X.xe s := by
  have hl : (us ++ []).length = ps.length := by rw [List.append_nil, ← r.length]; exact F.len _ _ _ _ h
  have hb' := hb s us I.kIn hl
  rw [List.append_nil] at hb'
  refine wpAny_call (codeAny_mono (F.run X.A X.stack s H ⟨us, []⟩ us vs Q _ hr hgd I.env0 hb' r h) fun r s' hq => ?_)
  rcases hq with ⟨u, rfl, hq⟩ | ⟨e, rfl, hq⟩
  · exact I.after hq
  · exact tk e s' (XE.of_call I (fun _ _ _ h => h) hq)
variable {k f : Nat} {P0 : Prog} {x : Str} {p pos : Pos} {e : Expr} {es : List Expr} {as : Es}
theorem s_callX (tk : Takes X Wx) (hc : CallAtX X.prog X.w X.K X.mg X.base L P0 k x f) (hr : Room (2 * k + 1) X.A) (hgd : X.A.guards = some []) (ha : PA X (e :: es) (TRs L C as)) (hC : C.call = vrun P0 k := by rfl) (hg : Gl X x := by rfl) (hdb : (x == ("__debug__" : Str)) = false := by decide)
    (he : starEach (e :: es) X.env = (false, eval e X.env) :: starEach es X.env := by rfl) (hpl : (backTo pos (starEach es X.env)).any (·.1) = false := by rfl) : PE X (.Call (.Name x p) (e :: es) [] pos) (TEx L C Wx (.xcall f as)) := by
  obtain ⟨a, fd, ps, hm, hk, hb, F⟩ := hc
  refine ⟨fun pins s σ H Q I h => ?_⟩
  refine wpAny_Call_Name_kw (ld_glob I hg hm ?_ hdb)
  refine PySem.W.callWith_K (h₀ := X.base) I.ok.mod.kin hk (thn (ha.run pos pins s σ H _ I (call_redX hC h)) fun us s1 ⟨vs, H1, I1, r, q⟩ => ⟨I1.kIn, ?_⟩) he hpl
  exact run_X F tk (hr.mono (Nat.le_succ _)) hgd hb I1 r q
theorem flx_ok {α : Type} {r : Res α} {g : α → St → Fl} {σ : L2.St} {H : Hp} {A : SA} {τ : List V} {D : Ends} (h : FlOk L C Wx (r.flx g) σ H A τ D) : (∃ a s, r = .ok a s ∧ FlOk L C Wx (g a s) σ H A τ D) ∨ ∃ x s, r = .exc x s ∧ FlOk L C Wx (.exc x s) σ H A τ D := by
  cases r with
  | ok a s => exact .inl ⟨a, s, rfl, h⟩
  | exc x s => exact .inr ⟨x, s, rfl, h⟩
  | no => exact h.elim
theorem exc_fin {x : M} {s : St} {σ : L2.St} {H : Hp} {A : SA} {τ : List V} {D : Ends} {Q : VK} (h : FlOk L C Wx (.exc x s) σ H A τ D) : FinX L Wx σ H A τ (.exc x s) Q := fun cls d H' A' S' P' R => h cls d σ H' A' [] S' P' (Kp.refl σ) R
theorem st_xex {ee : Expr} {e : Vm.E} {pos : Pos} (h : PE X ee (TEx L C Wx e)) (hs : swapsWith ee none pos.line X.env = pure false := by rfl) : PS X (.Expr ee pos) (TSt L C Wx (.xex e)) :=
  PS.mono (ps_expr h hs) fun D σ H ⟨A, s, τ, S, q⟩ => by
    rw [ex] at q
    refine ⟨A, s, τ, S, ?_⟩
    rcases flx_ok q with ⟨r, s1, e1, q⟩ | ⟨x, s1, e1, q⟩
    · rw [e1]; exact fun v H1 A1 y S1 P1 _ => q σ H1 A1 S1 P1.nil (Kp.refl σ)
    · rw [e1]; exact exc_fin q
theorem st_xret {ee : Expr} {e : Vm.E} {pos : Pos} (h : PE X ee (TEx L C Wx e)) : PS X (.Return (some ee) pos) (TSt L C Wx (.xret e)) :=
  PS.mono (ps_ret h) fun D σ H ⟨A, s, τ, S, q⟩ => by
    rw [ex] at q
    refine ⟨A, s, τ, S, ?_⟩
    rcases flx_ok q with ⟨r, s1, e1, q⟩ | ⟨x, s1, e1, q⟩
    · rw [e1]; exact fun v H1 A1 y S1 P1 K => q v σ H1 A1 y [] S1 P1 (Kp.refl σ) K
    · rw [e1]; exact exc_fin q
theorem st_xnm {i : Nat} {tg ee : Expr} {e : Vm.E} {pos : Pos} (he : PE X ee (TEx L C Wx e)) (hg : L2.PG X tg (gName i)) (hs : swapsWithSole [tg] ee pos.line X.env = pure false := by rfl) (hw : swappedStores [tg] ee X.env = pure none := by rfl)
    (h1 : (assignEach [tg] X.env).map (·.2) = [assign tg X.env] := by rfl) : PS X (.Assign [tg] ee pos) (TSt L C Wx (.xasg (.nm i) e)) :=
  PS.mono (ps_asg he (PG.or (gb_nm0 (L := L) (fr := C.fr) hg) (gb_nmp hg)) hs hw h1) fun D σ H ⟨A, s, τ, S, q⟩ => by
    rw [ex] at q
    refine ⟨A, s, τ, S, ?_⟩
    rcases flx_ok q with ⟨r, s1, e1, q⟩ | ⟨x, s1, e1, q⟩
    · rw [e1]
      intro v H1 A1 y S1 P1 K
      cases r with
      | v m =>
        obtain ⟨n, rfl, rfl, rfl, hn⟩ := K.v_inv
        obtain ⟨s2, e2, q⟩ := fs_ok (show FlOk L C Wx (fs (bindN C.fr i n.er s1) .nx) σ H A τ D from q)
        exact .inl ⟨A1, s1, τ, n, H, A, n.adr, [], s2, S1, P1, (fun b hb => by simpa using hb), by simpa [adrO] using P1.fnd, rfl, hn, by rw [bindT]; exact e2, fun σ' A' S' P' K' => q σ' H1 A' S' P' K'⟩
      | p p =>
        obtain ⟨rfl, o, h⟩ := K.p_inv
        obtain ⟨s2, e2, q⟩ := fs_ok (show FlOk L C Wx (fs (bindP C.fr i p s1) .nx) σ H A τ D from q)
        exact .inr ⟨A1, s1, τ, p, H, A, [], s2, i, rfl, S1, P1, o, h, e2, fun σ' A' S' P' K' => q σ' H1 A' S' P' K'⟩
    · rw [e1]; exact exc_fin q
theorem st_xtp {is : List Nat} {tg ee : Expr} {e : Vm.E} {pos : Pos} (he : PE X ee (TEx L C Wx e)) (hg : L2.PG X tg (TBn L C.fr (nmT is))) (hs : swapsWithSole [tg] ee pos.line X.env = pure false := by rfl) (hw : swappedStores [tg] ee X.env = pure none := by rfl)
    (h1 : (assignEach [tg] X.env).map (·.2) = [assign tg X.env] := by rfl) : PS X (.Assign [tg] ee pos) (TSt L C Wx (.xasg (.tp is) e)) :=
  PS.mono (ps_asg he hg hs hw h1) fun D σ H ⟨A, s, τ, S, q⟩ => by
    rw [ex] at q
    refine ⟨A, s, τ, S, ?_⟩
    rcases flx_ok q with ⟨r, s1, e1, q⟩ | ⟨x, s1, e1, q⟩
    · rw [e1]
      intro v H1 A1 y S1 P1 K
      obtain ⟨m, e3, q⟩ := fs_ok (show FlOk L C Wx (fs r.mv fun m => fs (bindT C.fr (nmT is) m s1) .nx) σ H A τ D from q)
      cases rmv_some e3
      obtain ⟨n, rfl, rfl, rfl, hn⟩ := K.v_inv
      obtain ⟨s2, e2, q⟩ := fs_ok q
      exact ⟨A1, s1, τ, n, H, A, n.adr, [], s2, S1, P1, (fun b hb => by simpa using hb), by simpa [adrO] using P1.fnd, rfl, hn, e2, fun σ' A' S' P' K' => q σ' H1 A' S' P' K'⟩
    · rw [e1]; exact exc_fin q
theorem st_rais {c : Nat} {CA : Addr} {B newId initId : String} {bmB : List Value} {y : Str} {mm : Str} {j : Nat} {p1 p2 p3 pos' : Pos} (hc : X.calm = true) (tk : Takes X Wx) (F : ExcBaseFacts B newId initId bmB) (q : PySem.W.excIn X.K CA bmB newId = true) (gC : X.mg y = some (.ref CA)) (kC : PySem.W.keepIn X.K (.ref CA) = true) (r : Raises X (.ref CA)) (hca : L.xa c = some CA) (hg : Gl X y := by rfl)
    (hdb : (y == ("__debug__" : Str)) = false := by decide) : PS X (.Raise (some (.Call (.Name y p1) [.Constant (.str mm) j p2] [] p3)) none pos') (TSt L C Wx (.rais c .nil)) :=
  PS.mono (ps_raise hc tk (pmk_own F q gC kC r hg hdb)) fun D σ H ⟨A, s, τ, S, q⟩ => by
    rw [ex, evds] at q
    exact (show FlOk L C Wx (.exc (.exc c []) s) σ H A τ D from q) (.ref CA) none σ H A [] S (Pst.refl S.nd) (Kp.refl σ) ⟨c, [], CA, rfl, hca, rfl, rfl⟩
def XcAt (K : PySem.W.Frag) (mg : Str → Option Value) (sup : Nat → List Nat) (xs : List (Nat × Addr)) (y : Str) (c : Nat) : Prop :=
  ∃ a, lkN c xs = some a ∧ mg y = some (.ref a) ∧ PySem.W.excIn K a [.type "ValueError", .type "Exception", .type "BaseException", .type "object"] "ValueError.__new__" = true ∧ PySem.W.keepIn K (.ref a) = true ∧
    PySem.W.subIn K (.ref a) (.type "BaseException") = some true ∧ PySem.W.typeIn K (.ref a) = some (.type "type") ∧ ∀ n b, lkN n xs = some b → PySem.W.exmOne K (.ref b) (.ref a) = some ((sup n).contains c)
theorem st_raisX {c : Nat} {y : Str} {mm : Str} {j : Nat} {p1 p2 p3 pos' : Pos} {sup : Nat → List Nat} {xs : List (Nat × Addr)} (hx : XcAt X.K X.mg sup xs y c) (hl : ∀ n, L.xa n = lkN n xs) (tk : Takes X Wx) (hc : X.calm = true := by rfl) (hg : Gl X y := by rfl)
    (hdb : (y == ("__debug__" : Str)) = false := by decide) : PS X (.Raise (some (.Call (.Name y p1) [.Constant (.str mm) j p2] [] p3)) none pos') (TSt L C Wx (.rais c .nil)) := by
  obtain ⟨a, h1, h2, h3, h4, h5, h6, _⟩ := hx
  exact st_rais hc tk PySem.F.excBase_ValueError h3 h2 h4 (raises_own h5 h6) ((hl c).trans h1) hg hdb
theorem SR.cut {H : Hp} {σ : L2.St} {A : SA} {s : St} {τ' τ : List V} {n : Nat} (S : SR L H σ A s (τ' ++ τ)) (hn : n = τ.length) : SR L H σ A (cutTm n s) τ := by
  have tl := S.tl
  rw [List.length_append] at tl
  have e : s.tm.length - n = τ'.length := by omega
  unfold cutTm
  rw [e]
  refine ⟨S.gl, S.er, S.len, S.val, S.hd, S.nd, S.rf, by simp only [St.tms, List.length_drop]; omega, fun k q e' => ?_⟩
  obtain ⟨o, w, f1, f2⟩ := S.tm (τ'.length + k) q (by simpa [St.tms] using e')
  exact ⟨o, w, by rw [List.getElem?_append_right (by omega)] at f1; simpa using f1, f2⟩
theorem FnX.toG {P : Program} {w : World} {K : PySem.W.Frag} {mg : Str → Option Value} {base : Heap} {k : Nat} {f : Addr} {fd : FuncData} {ps : List Str} {L : Lnk} {P0 : Prog} {j g : Nat} (F : FnX P w K mg base k f fd ps (SpX L P0 j g)) : FnG P w K mg base k f fd ps (SpV L P0 j g) := by
  refine ⟨fun vs H Q h => F.len vs H Q (fun _ _ _ => False) h.toX, fun A outer s H args us vs Q hr hgd e0 hb r h => ?_⟩
  refine codeAny_mono (F.run A outer s H args us vs Q (fun _ _ _ => False) hr hgd e0 hb r h.toX) fun r s' hq => ?_
  rcases hq with q | ⟨e, _, hq⟩
  · exact q
  · obtain ⟨_, _, _, _, _, _, _, _, _, _, _, _, z⟩ := hq
    exact z.elim
end
end Vm
end
section
namespace Vm
open PySem L2 PySem.Spec PyProof.Rows
def MethAtX (P : Program) (w : World) (K : PySem.W.Frag) (mg : Str → Option Value) (base : Heap) (L : Lnk) (P0 : Prog) (k : Nat) (c : Nat) (m : Str) (f : Nat) : Prop :=
  ∃ CA g, L.ca c = some CA ∧ Meth K CA m g ∧ ∃ (fd : FuncData) (ps : List Str), PySem.W.keepIn K (.ref g) = true ∧ Binds K fd ps [] ∧ FnX P w K mg base k g fd ps (SpX L P0 k f)
section
variable {L : Lnk} {C : Ctx} {X : Cx} {Wx : WX} {k : Nat} {P0 : Prog}
def tMethXX (X : Cx) (k : Nat) (m : Str) (ta : TE) (t : TA) (Wx : WX) : TE := fun σ H Q => ta σ H fun x H1 => ∃ a CA dx fs g fd ps sp, x = .ref a ∧ H1 a = some (.ins CA dx fs) ∧ fs.lookup m = none ∧ Cls X.K CA ∧ Meth X.K CA m g ∧ FnX X.prog X.w X.K X.mg X.base k g fd ps sp ∧ Binds X.K fd ps [] ∧
  t σ H1 fun vs H2 => sp (x :: vs) H2 Q (fun cls d H' => Wx cls d σ H')
end
end Vm
end
section
namespace Vm
open PySem L2
section
variable {L : Lnk} {C : Ctx} {X : Cx}
end
end Vm
end
section
namespace Vm
open PySem L2 PySem.Spec PyProof.Rows
section
variable {X : Cx}
def rngV (lo : Int) (n : Nat) : List V := (List.range n).map fun (k : Nat) => V.int (lo + (k : Int))
def tListRng (te : TA) (f : List V → Int → Int → Prop) : TE := fun σ H Q => te σ H fun vs H1 => ∃ lo hi, f vs lo hi ∧ -(2 ^ 62) ≤ lo ∧ lo < 2 ^ 62 ∧ -(2 ^ 62) ≤ hi ∧ hi < 2 ^ 62 ∧ hi - lo ≤ 16777216 ∧ ∀ q, H1 q = none → Q (.ref q) (upd H1 q (.lst (rngV lo (hi - lo).toNat)))
end
section
variable {L : Lnk} {C : Ctx} {X : Cx}
end
end Vm
end
section
namespace Vm
open PySem L2 PySem.Spec PyProof.Rows
section
variable {L : Lnk} {C : Ctx} {X : Cx} {k0 : Nat}
theorem PE.or {e : Expr} {t u : TE} (h : PE X e t) (h' : PE X e u) : PE X e (fun σ H Q => t σ H Q ∨ u σ H Q) := ⟨fun pins s σ H Q I q => q.elim (h.run pins s σ H Q I) (h'.run pins s σ H Q I)⟩
def tDispN (L : Lnk) (tk tv : TE) : TE := fun σ H Q => ∀ p, H p = none → tk σ (upd H p (.dK [])) fun x H1 => tv σ H1 fun y H2 => H2 p = some (.dK []) ∧ ∃ j, isNK j = true ∧ Rp L.K H2 x j ∧ ∀ b, x = .ref b → Q (.ref p) (upd H2 p (NRaw L.hw p [(nkD j, b, y)]))
end
end Vm
end
section
namespace Vm
open PySem L2 PySem.Spec PyProof.Rows
def Lnk.wc (L : Lnk) (c : Option (Nat × V)) : Lnk := { L with cur := c }
section
variable {L : Lnk} {c c' : Option (Nat × V)} {H : Hp}
theorem TabK.wc {l : List (Key × V)} {kvs : List (D × Nat)} (h : TabK (L.wc c) l kvs) : TabK (L.wc c') l kvs := by
  induction h with
  | nil => exact .nil
  | cons a b _ ih => exact .cons a b ih
theorem ImOk.wcn : ∀ {m : M} {v : V}, ImOk (L.wc none) H m v → ImOk (L.wc c) H m v
  | .d _, _, h => h
  | .fn _, _, h => h
  | .cl _, _, h => h
  | .bt _, _, h => h
  | .tab _, _, h => let ⟨a, o, l, e, q, r⟩ := h; ⟨a, o, l, e, q, r.wc⟩
  | .exc _ _, _, h => by cases h
  | .set _, _, h => h.elim
  | .lst _, _, h => h.elim
  | .dct _, _, h => h.elim
  | .obj _ _, _, h => h.elim
  | .dnn _, _, h => h.elim
mutual
theorem Hd.wcn : ∀ {m : MA}, Hd (L.wc none) H m → Hd (L.wc c) H m
  | .im m v, h => ImOk.wcn h
  | .lst a ms, h => ⟨h.1, HdL.wcn h.2⟩
  | .dct a kvs, h => ⟨h.1, HdK.wcn h.2⟩
  | .obj a k fs, h => ⟨h.1, HdF.wcn h.2⟩
  | .dnn a kvs, h => h
theorem HdL.wcn : ∀ {ms : List MA}, HdL (L.wc none) H ms → HdL (L.wc c) H ms
  | [], _ => trivial
  | m :: ms, h => ⟨Hd.wcn h.1, HdL.wcn h.2⟩
theorem HdK.wcn : ∀ {ms : List (D × MA)}, HdK (L.wc none) H ms → HdK (L.wc c) H ms
  | [], _ => trivial
  | (_, m) :: ms, h => ⟨Hd.wcn h.1, HdK.wcn h.2⟩
theorem HdF.wcn : ∀ {ms : List (Nat × MA)}, HdF (L.wc none) H ms → HdF (L.wc c) H ms
  | [], _ => trivial
  | (_, m) :: ms, h => ⟨Hd.wcn h.1, HdF.wcn h.2⟩
end
theorem ImOk.wcp : ∀ {m : M} {v : V}, (frz m).isSome = true → ImOk (L.wc c) H m v → ImOk (L.wc c') H m v
  | .d _, _, _, h => h
  | .fn _, _, e, _ => by simp [frz] at e
  | .cl _, _, e, _ => by simp [frz] at e
  | .bt _, _, e, _ => by simp [frz] at e
  | .tab _, _, e, _ => by simp [frz] at e
  | .exc _ _, _, e, _ => by simp [frz] at e
  | .set _, _, _, h => h.elim
  | .lst _, _, _, h => h.elim
  | .dct _, _, _, h => h.elim
  | .obj _ _, _, _, h => h.elim
  | .dnn _, _, _, h => h.elim
theorem frzs_cons {m : M} {ms : List M} (h : (frzs (m :: ms)).isSome = true) : (frz m).isSome = true ∧ (frzs ms).isSome = true := by
  rw [frzs] at h
  cases h1 : frz m with
  | none => rw [h1] at h; simp at h
  | some x =>
    cases h2 : frzs ms with
    | none => rw [h1, h2] at h; simp at h
    | some y => exact ⟨rfl, rfl⟩
theorem frzk_cons {k : D} {m : M} {ms : List (D × M)} (h : (frzk ((k, m) :: ms)).isSome = true) : (frz m).isSome = true ∧ (frzk ms).isSome = true := by
  rw [frzk] at h
  cases h1 : frz m with
  | none => rw [h1] at h; simp at h
  | some x =>
    cases h2 : frzk ms with
    | none => rw [h1, h2] at h; simp at h
    | some y => exact ⟨rfl, rfl⟩
mutual
theorem Hd.wcp : ∀ {m : MA}, (frz m.er).isSome = true → Hd (L.wc c) H m → Hd (L.wc c') H m
  | .im m v, e, h => ImOk.wcp e h
  | .lst a ms, e, h => ⟨h.1, HdL.wcp (by simpa [MA.er, frz] using e) h.2⟩
  | .dct a kvs, e, h => ⟨h.1, HdK.wcp (by simpa [MA.er, frz] using e) h.2⟩
  | .obj a k fs, e, h => by simp [MA.er, frz] at e
  | .dnn a kvs, e, h => by simp [MA.er, frz] at e
theorem HdL.wcp : ∀ {ms : List MA}, (frzs (ers ms)).isSome = true → HdL (L.wc c) H ms → HdL (L.wc c') H ms
  | [], _, _ => trivial
  | m :: ms, e, h => ⟨Hd.wcp (frzs_cons e).1 h.1, HdL.wcp (frzs_cons e).2 h.2⟩
theorem HdK.wcp : ∀ {ms : List (D × MA)}, (frzk (erk ms)).isSome = true → HdK (L.wc c) H ms → HdK (L.wc c') H ms
  | [], _, _ => trivial
  | (_, m) :: ms, e, h => ⟨Hd.wcp (frzk_cons e).1 h.1, HdK.wcp (frzk_cons e).2 h.2⟩
end
theorem SR.wcn {σ : L2.St} {A : SA} {s : St} {τ : List V} (S : SR (L.wc none) H σ A s τ) : SR (L.wc c) H σ A s τ := ⟨S.gl, S.er, S.len, S.val, fun i m h => (S.hd i m h).wcn, S.nd, S.rf, S.tl, S.tm⟩
theorem SR.wcp {σ : L2.St} {A : SA} {s : St} {τ : List V} (S : SR (L.wc c) H σ A s τ) (h : pureS s.sl = true) : SR (L.wc c') H σ A s τ :=
  ⟨S.gl, S.er, S.len, S.val, fun i m h' => (S.hd i m h').wcp (by
    have h1 : s.sl[i]? = some (some m.er) := by rw [S.er, List.getElem?_map, h']; rfl
    exact List.all_eq_true.mp h _ (List.mem_of_getElem? h1)), S.nd, S.rf, S.tl, S.tm⟩
end
section
variable {L : Lnk} {C : Ctx} {X : Cx} {Wx : WX}
theorem SR.setN {H : Hp} {σ : L2.St} {A : SA} {s : St} {τ : List V} {i : Nat} (S : SR L H σ A s τ) (hA : i < A.length) (nd : (adrS (A.set i none)).Nodup) :
    SR L H (σ.set i none) (A.set i none) { sl := s.sl.set i none, rf := killR (atRoot i) (dropR i s.rf), tm := killT (atRoot i) s.tm } τ := by
  refine ⟨S.gl, ?_, by rw [List.length_set, List.length_set]; exact S.len, ?_, ?_, nd, ?_, ?_, ?_⟩
  · show s.sl.set i _ = _
    rw [S.er, List.map_set]
    rfl
  · intro j n e
    by_cases q : j = i
    · subst q
      rw [List.getElem?_set_self hA] at e
      cases e
    · rw [List.getElem?_set_ne (Ne.symm q)] at e ⊢; exact S.val j n e
  · intro j n e
    by_cases q : j = i
    · subst q
      rw [List.getElem?_set_self hA] at e
      cases e
    · rw [List.getElem?_set_ne (Ne.symm q)] at e; exact S.hd j n e
  · intro j p e
    obtain ⟨e1, e2⟩ := killR_mem (f := atRoot i) e
    obtain ⟨e3, e4⟩ := dropR_mem e1
    obtain ⟨ok, w, e5, e6⟩ := S.rf j p e3
    refine ⟨ok, w, by rw [List.getElem?_set_ne (Ne.symm e4)]; exact e5, ?_⟩
    rw [labS_set (by simpa [atRoot] using e2)]; exact e6
  · show (killT _ s.tm).length = _
    rw [killT_len]; exact S.tl
  · intro k p e
    obtain ⟨e1, e2⟩ := killT_get (f := atRoot i) (l := s.tm) e
    obtain ⟨ok, w, e3, e4⟩ := S.tm k p e1
    refine ⟨ok, w, e3, ?_⟩
    rw [labS_set (by simpa [atRoot] using e2)]; exact e4
theorem st_tryN {y nm : Str} {kc i : Nat} {body suite : List Stmt} {b0 : Stmt} {np pos pos' : Pos} {b h : Ss} {xs : List (Nat × Addr)} (hx : XcAt X.K X.mg C.sup xs y kc) (hl : ∀ n, L.xa n = lkN n xs) (h0 : L.wc none = L) (tk : Takes X Wx)
    (hN : X.N.Nodup) (hi : X.N[i]? = some nm) (hln : X.env.kindOf nm = some .local)
    (hb : ∀ (W : WX) (pn : List (Addr × Obj)) (xe : Value → Shared → Prop), Takes (X.tr pn xe) W → PassesOwn (model X.prog X.w) X.A X.env xe → PSs (X.tr pn xe) body (TSs L C W b))
    (hsu : ∀ (n : Nat) (D0 a : Addr) (oe : Obj) (pn : List (Addr × Obj)), lkN n xs = some D0 → Zc (.ref D0) none oe → (∃ vs, oe.data = .fields vs) → PSs (X.suite a ((a, oe) :: pn)) (b0 :: suite) (TSs (L.wc (some (n, .ref a))) C (fun _ _ _ _ => False) h))
    (hs : X.stack = X.env :: X.outer := by rfl) (hf : X.env.frame = some X.env.locals := by rfl) (hg : Gl X y := by rfl) (hdb : (y == ("__debug__" : Str)) = false := by decide) :
    PS X (.Try body [.ExceptHandler (some (.Name y np)) (some nm) (b0 :: suite) pos'] [] [] pos) (TSt L C Wx (.tr b [kc] (some i) h)) := by
  obtain ⟨ca, h1, h2, h3, h4, h5, h6, h7⟩ := hx
  refine PS.mono (ps_try_as (c := .ref ca) (tb := fun W => TSs L C W b) (ts := fun a cls d D σ H => ∃ n D0, cls = .ref D0 ∧ d = none ∧ lkN n xs = some D0 ∧ TSs (L.wc (some (n, .ref a))) C (fun _ _ _ _ => False) h D σ H) hs hf hN hi hln ⟨hg, hdb, .inl h2⟩ tk hb
    (fun a oe cls d pn hz hv => ⟨fun pins s σ H D I q => by
      obtain ⟨n, D0, rfl, rfl, e3, q⟩ := q
      exact (hsu n D0 a oe pn e3 hz hv).run pins s σ H D I q⟩)) fun D σ H ⟨A, s, τ, S, q⟩ => ?_
  rw [ex] at q
  refine ⟨A, s, τ, S, ?_⟩
  cases hb : exs C b s with
  | nx s1 => rw [hb] at q; exact q
  | bk s1 => rw [hb] at q; exact q
  | ct s1 => rw [hb] at q; exact q
  | rt r s1 => rw [hb] at q; exact q
  | no => rw [hb] at q; exact q
  | exc x s1 =>
    rw [hb] at q
    intro cls d σ' H' A' τ' S' P' K' R
    obtain ⟨n, ys, a, rfl, ha, rfl, rfl⟩ := id R
    have ha' : lkN n xs = some a := (hl n).symm.trans ha
    refine ⟨(C.sup n).contains kc, h7 n a ha', fun hbt a' _ => ?_, fun hbf => ?_⟩
    · have e1 : subEx C (.exc n ys) [kc] = true := by simp only [subEx, List.any_cons, List.any_nil, hbt, Bool.true_or]
      simp only [tried, e1] at q
      obtain ⟨s2, e2, q2⟩ := fs_ok (show FlOk L C Wx (fs (bindN C.fr i (.exc n ys) (cutTm s.tm.length s1)) fun s2 => undo i (exs C h s2).kill) σ H A τ D from q)
      have S1 : SR (L.wc none) H' σ' A' (cutTm s.tm.length s1) τ := by rw [h0]; exact SR.cut S' S.tl
      have S1' : SR (L.wc (some (n, .ref a'))) H' σ' A' (cutTm s.tm.length s1) τ := S1.wcn
      have hfr : C.fr i = true := by
        obtain ⟨c1, _⟩ := oif_ok e2
        unfold free at c1
        simp only [Bool.and_eq_true] at c1
        exact c1.2
      obtain ⟨S2, P2, K2⟩ := bindN_ok (n := .im (.exc n ys) (.ref a')) (F := []) (G := []) S1' P' (fun b hb => by simp [MA.adr] at hb) (by simp [MA.adr]) (show Hd (L.wc (some (n, V.ref a'))) H' (.im (.exc n ys) (.ref a')) from rfl) e2
      refine ⟨n, a, rfl, rfl, ha', A'.set i (some (.im (.exc n ys) (.ref a'))), s2, τ, S2, ?_⟩
      have hA : i < A'.length := by
        obtain ⟨c1, _⟩ := oif_ok e2
        unfold free at c1
        simp only [Bool.and_eq_true, decide_eq_true_eq] at c1
        have := S1.er
        have c2 := c1.1
        rw [this, List.length_map] at c2
        exact c2
      cases hh : exs C h s2 with
      | nx s3 =>
        rw [hh] at q2
        obtain ⟨hp, q3⟩ : pureS (s3.sl.set i none) = true ∧ FlOk L C Wx (.nx { sl := s3.sl.set i none, rf := killR (atRoot i) (dropR i s3.rf), tm := killT (atRoot i) s3.tm }) σ H A τ D := by
          replace q2 : FlOk L C Wx (fif (pureS (s3.sl.set i none)) (.nx { sl := s3.sl.set i none, rf := killR (atRoot i) (dropR i s3.rf), tm := killT (atRoot i) s3.tm })) σ H A τ D := q2
          cases hp : pureS (s3.sl.set i none) with
          | true => rw [hp] at q2; exact ⟨rfl, q2⟩
          | false => rw [hp] at q2; exact q2.elim
        intro σ4 H4 A4 S4 P4 K4
        have hA4 : i < A4.length := by
          rw [S4.len, K4.1, List.length_set, ← S'.len]; exact hA
        have P5 := set_pst (o := none) (F := []) (G := []) hA4 (P2.seq P4) (fun b hb => by simpa [adrO] using hb) (by simp [adrO])
        have S5 := S4.setN hA4 (List.nodup_append.mp P5.nd).1
        have S6 : SR (L.wc none) H4 (σ4.set i none) (A4.set i none) { sl := s3.sl.set i none, rf := killR (atRoot i) (dropR i s3.rf), tm := killT (atRoot i) s3.tm } τ := S5.wcp hp
        rw [h0] at S6
        exact q3 _ _ _ S6 P5 (K'.trans (K2.trans (K4.trans (Kp.set hfr))))
      | bk s3 => rw [hh] at q2; exact q2.elim
      | ct s3 => rw [hh] at q2; exact q2.elim
      | rt r s3 => rw [hh] at q2; exact q2.elim
      | exc x s3 => rw [hh] at q2; exact q2.elim
      | no => rw [hh] at q2; exact q2.elim
    · have e1 : subEx C (.exc n ys) [kc] = false := by simp only [subEx, List.any_cons, List.any_nil, hbf, Bool.false_or]
      have q' : FlOk L C Wx (.exc (.exc n ys) s1) σ H A τ D := by
        have := q
        simp only [tried, e1] at this
        exact this
      exact q' _ none σ' H' A' τ' S' P' K' ⟨n, ys, a, rfl, ha, rfl, rfl⟩
end
def rIsET (K : PySem.W.Frag) (D a : Addr) : List V → Hp → VK → Prop := fun xs H Q => ∃ (tp : Addr) (cs : List V) (us : List Value) (b : Bool), xs = [.ref a, .ref tp] ∧ H tp = some (.tup cs) ∧ Paired ClsV cs us ∧ PySem.W.kitAny K (.ref D) us = some b ∧ Q (.bl b) H
def NmAt (mg : Str → Option Value) (y : Str) (c : V) (u : Value) : Prop := ClsV c u ∧ ((y == ("__debug__" : Str)) = false ∧ (mg y = some u ∧ RelV c u ∨ mg y = none ∧ bootBuiltins y = some u ∧ RelV c u ∧ y ≠ "__name__"))
def XiAt (K : PySem.W.Frag) (mg : Str → Option Value) (sup : Nat → List Nat) (xs : List (Nat × Addr)) (y : Str) (kc : Nat) : Prop :=
  ∃ c u, NmAt mg y c u ∧ ∀ n b, lkN n xs = some b → PySem.W.kitOne K (.ref b) u = some ((sup n).contains kc)
def XiAll (K : PySem.W.Frag) (xs : List (Nat × Addr)) : Prop := ∀ n b, lkN n xs = some b → ExcC K b
section
variable {L : Lnk} {C : Ctx} {X : Cx}
theorem pe_cls {y : Str} {c : V} {u : Value} {p : Pos} (h : NmAt X.mg y c u) (hg : Gl X y) : PE X (.Name y p) (tC c) := by
  obtain ⟨_, hd, ⟨h1, h2⟩ | ⟨h1, h2, h3, h4⟩⟩ := h
  · exact pe_glob hg h1 h2 hd
  · exact pe_bltn hg h1 h2 h3 h4 hd
theorem xis_red {n i : Nat} {ks : List Nat} {a : Addr} {σ : L2.St} {H : Hp} {Q : VK} (h : TEv (L.wc (some (n, .ref a))) C (.xis i ks) σ H Q) :
    σ[i]? = some (some (.ref a)) ∧ ∃ A s τ, SR (L.wc (some (n, .ref a))) H σ A s τ ∧ Fin (L.wc (some (n, .ref a))) σ H A τ (.v (.d (.bool (ks.any fun k => (C.sup n).contains k)))) s Q := by
  obtain ⟨A, s, τ, r, s', S, e, q⟩ := h
  obtain ⟨m, e1, e2⟩ := rs_ok (show (rs (s.sget i) fun m => rs (xisB C ks m) fun b => .ok (.v (.d (.bool b))) s) = .ok r s' from e)
  obtain ⟨b, e3, e4⟩ := rs_ok e2
  cases e4
  unfold xisB at e3
  split at e3
  · rename_i k ys
    cases e3
    have e5 : s.sl[i]? = some (some (.exc k ys)) := joinO_some.mp e1
    rw [S.er, List.getElem?_map] at e5
    cases hA : A[i]? with
    | none => rw [hA] at e5; cases e5
    | some o =>
      cases o with
      | none => rw [hA] at e5; cases e5
      | some z =>
        rw [hA] at e5
        have e6 : z.er = .exc k ys := by simpa using e5
        have hz := S.hd i z hA
        have hv := S.val i z hA
        cases z with
        | im m v =>
          simp only [MA.er] at e6
          subst e6
          have hc : some (n, V.ref a) = some (k, v) := hz
          cases hc
          exact ⟨hv, A, _, τ, S, q⟩
        | lst _ _ => simp [MA.er] at e6
        | dct _ _ => simp [MA.er] at e6
        | obj _ _ _ => simp [MA.er] at e6
        | dnn _ _ => simp [MA.er] at e6
  · cases e3
variable {n i kc : Nat} {D0 a : Addr} {oe : Obj} {pn : List (Addr × Obj)} {xs : List (Nat × Addr)} {e y : Str} {p pe py pt pos : Pos} {tk : Nat}
inductive XisL (K : PySem.W.Frag) (X : Cx) (sup : Nat → List Nat) (xs : List (Nat × Addr)) : List Expr → List Nat → Prop
  | nil : XisL K X sup xs [] []
  | cons {y : Str} {kc : Nat} {p : Pos} {es : List Expr} {ks : List Nat} : XiAt K X.mg sup xs y kc → Gl X y → XisL K X sup xs es ks → XisL K X sup xs (.Name y p :: es) (kc :: ks)
def tAll (cs : List V) : TA := fun σ H Q => Q cs H
end
end Vm
end
section
namespace Vm
open PySem L2 PySem.Spec PyProof.Rows
section
variable {L : Lnk} {C : Ctx} {X : Cx} {Wx : WX} {k : Nat} {P0 : Prog}
def MkAtX (P : Program) (w : World) (K : PySem.W.Frag) (mg : Str → Option Value) (base : Heap) (L : Lnk) (P0 : Prog) (k : Nat) (x : Str) (c f : Nat) : Prop :=
  ∃ CA g, L.ca c = some CA ∧ mg x = some (.ref CA) ∧ Mk K CA g ∧ ∃ (fd : FuncData) (ps : List Str), PySem.W.keepIn K (.ref g) = true ∧ Binds K fd ps [] ∧ FnX P w K mg base k g fd ps (SpX L P0 k f)
theorem finx_bd {e0 : E} {h : Rv → St → Res Rv} {σ : L2.St} {H : Hp} {A : SA} {τ : List V} {s : St} {Q Q' : VK} (m : FinX L Wx σ H A τ ((ev C e0 s).bd fun r s => Res.kill (h r s)) Q)
    (k : ∀ r s1, ev C e0 s = .ok r s1 → ∀ z s2, h r s1 = .ok z s2 → Fin L σ H A τ z s2 Q → ∀ v H1 A1 y, SR L H1 σ A1 s1 τ → Pst H A H1 A1 (adrO y) → RvOk L H1 A1 r y v → Q' v H1) : FinX L Wx σ H A τ (ev C e0 s) Q' := by
  cases e1 : ev C e0 s with
  | no => rw [e1] at m; exact m.elim
  | exc x s1 => rw [e1] at m; exact m
  | ok r s1 =>
    rw [e1] at m
    replace m : FinX L Wx σ H A τ (Res.kill (h r s1)) Q := m
    cases e2 : h r s1 with
    | no => rw [e2] at m; exact m.elim
    | exc x s2 => rw [e2] at m; exact m.elim
    | ok z s2 =>
      rw [e2] at m
      exact fun v H1 A1 y S1 P1 K1 => k r s1 e1 z s2 e2 m v H1 A1 y S1 P1 K1
end
end Vm
end
section
namespace Vm
open PySem L2 PySem.Spec PyProof.Rows
section
variable {L : Lnk} {C : Ctx} {X : Cx} {Wx : WX}
theorem st_raisA {c : Nat} {y : Str} {e : Expr} {es : List Expr} {as : Es} {p1 p3 pos' : Pos} {sup : Nat → List Nat} {xs : List (Nat × Addr)} (hx : XcAt X.K X.mg sup xs y c) (hl : ∀ n, L.xa n = lkN n xs) (tk : Takes X Wx) (ha : PA X (e :: es) (TDs L C as)) (hc : X.calm = true := by rfl) (hg : Gl X y := by rfl)
    (hdb : (y == ("__debug__" : Str)) = false := by decide) (hle : as.len ≤ 100000 := by decide) (he : starEach (e :: es) X.env = (false, eval e X.env) :: starEach es X.env := by rfl) (hpl : (backTo p3 (starEach es X.env)).any (·.1) = false := by rfl) :
    PS X (.Raise (some (.Call (.Name y p1) (e :: es) [] p3)) none pos') (TSt L C Wx (.rais c as)) := by
  obtain ⟨CA, h1, h2, h3, h4, h5, h6, _⟩ := hx
  refine PS.mono (ps_raise hc tk (pmk_ownA PySem.F.excBase_ValueError h3 h2 h4 (raises_own h5 h6) hg ha hdb he hpl)) fun D σ H ⟨A, s, τ, S, q⟩ => ?_
  rw [ex] at q
  obtain ⟨xs, s1, e1, q⟩ := fl_ok q
  refine ⟨A, s, τ, xs, s1, S, e1, fun vs H1 A1 S1 P1 K1 => ⟨?_, q _ none σ H1 A1 [] S1 P1 (Kp.refl σ) ⟨c, xs, CA, rfl, (hl c).trans h1, rfl, rfl⟩⟩⟩
  rw [K1.length, evds_len e1]; exact line_100 hle
end
section
variable {L : Lnk} {C : Ctx} {X : Cx} {Wx : WX}
theorem s_tpX {ex : Expr} {exs : List Expr} {a : E} {es : Es} {k : Nat} {pos : Pos} (ha : PE X ex (TEx L C Wx a)) (hs : PA X exs (TDs L C es)) (hst : starEach (ex :: exs) X.env = (false, eval ex X.env) :: starEach exs X.env := by rfl) (hl : es.len ≤ 10000 := by decide) :
    PE X (.Tuple (ex :: exs) k pos) (TEx L C Wx (.xtp a es)) := by
  refine PE.mono (pe_tupB (pa_cons ha hs hst)) fun σ H Q ⟨A, s, τ, S, q⟩ => ?_
  rw [ev] at q
  refine ⟨A, s, τ, S, finx_bd q fun ra s1 e1 r s' e2 q v H1 A1 ya S1 P1 K1 => ?_⟩
  obtain ⟨x, e3, e4⟩ := rs_ok e2
  obtain ⟨xs, s2, e5, e6⟩ := bd_ok e4
  cases e6
  cases ra with
  | p p => cases e3
  | v m =>
    cases m with
    | d y =>
      cases e3
      obtain ⟨n, rfl, h1, rfl, hn⟩ := K1.v_inv
      cases n with
      | im m u =>
        simp only [MA.er] at h1
        subst h1
        have P1' : Pst H A H1 A1 [] := by simpa [adrO, MA.adr] using P1
        refine ⟨A1, s1, τ, xs, s', S1, e5, fun vs H2 A2 S2 P2 K2 => ⟨?_, fun p o hp hd => Fin.tup q S2 (P1'.seq P2) (fun b hb => by simp at hb) (.cons (Rp.mono (P2.stb S1) hn) K2) hp hd⟩⟩
        rw [List.length_cons, K2.length, evds_len e5]
        exact line_100 (by omega)
      | _ => simp [MA.er] at h1
    | _ => cases e3
end
theorem call_isEP {X : Cx} {a D : Addr} {oe : Obj} (hp : (a, oe) ∈ X.pn) (C : ExcC X.K D) (hz : Zc (.ref D) none oe) (hf : ∃ vs, oe.data = .fields vs) : CallR X (.builtin "isinstance") (rIsE X.K D a) := by
  intro pins s σ H xs us Q I r h
  obtain ⟨c, cv, b, rfl, hcv, e, q⟩ := h
  cases r with
  | cons rx rr =>
    cases rr with
    | cons rt rr =>
      cases rr
      cases rx
      have ec := hcv _ rt
      subst ec
      obtain ⟨hget, _⟩ := I.pin (a, oe) (List.mem_append.mpr (.inl hp))
      obtain ⟨vs, hv⟩ := hf
      have J : PySem.W.InstAt s.heap a oe D none := by
        obtain ⟨oc, od, oda, osl⟩ := oe
        obtain ⟨h1, h2⟩ := hz
        dsimp only at h1 h2 hv
        subst h1 h2 hv
        exact ⟨hget, rfl, rfl, trivial⟩
      exact PySem.W.kia_one (PySem.W.handS_kitx_exc C.hg C.hk C.hs C.hd C.ha C.hn C.ht C.hm) I.kIn J e (fun z => nomatch z) fun tk => ⟨.bl b, H, I.kept (t' := tk) fun _ _ z => z, rfl, q⟩
section
variable {L : Lnk} {C : Ctx} {X : Cx} {n i kc : Nat} {D0 a : Addr} {oe : Obj} {xs : List (Nat × Addr)} {e y : Str} {p pe py pt pos : Pos} {tk : Nat}
theorem s_xisP1 (hp : (a, oe) ∈ X.pn) (hX : XiAll X.K xs) (hn : lkN n xs = some D0) (hz : Zc (.ref D0) none oe) (hf : ∃ vs, oe.data = .fields vs) (hm : X.mg "isinstance" = none) (hy : XiAt X.K X.mg C.sup xs y kc) (hN : X.N[i]? = some e := by rfl)
    (hv : Vis X.env.scope e := by first | exact Or.inl rfl | exact Or.inr (Or.inl rfl) | exact Or.inr (Or.inr rfl)) (hd : (e == ("__debug__" : Str)) = false := by decide) (hcd : (e == ("__classdict__" : Str)) = false := by decide) (hg : Gl X "isinstance" := by rfl) (hgy : Gl X y := by rfl) :
    PE X (.Call (.Name "isinstance" p) [.Name e pe, .Name y py] [] pos) (TEv (L.wc (some (n, .ref a))) C (.xis i [kc])) := by
  obtain ⟨c, u, hc, hk⟩ := hy
  refine PE.mono (pe_callB (call_isEP hp (hX n D0 hn) hz hf) hg hm (by kernel_rfl) (pa_cons (pe_var hN hv hd hcd) (pa_cons (pe_cls hc hgy) pa_nil))) fun σ H Q h => ?_
  obtain ⟨h1, A, s, τ, S, q⟩ := xis_red h
  refine ⟨.ref a, h1, c, u, (C.sup n).contains kc, rfl, fun w r => hc.1.eq r, hk n D0 hn, ?_⟩
  have := Fin.im q S (Pst.refl S.nd) (Rp.bl _)
  simpa using this
end
structure FnT (P : Program) (w : World) (K : PySem.W.Frag) (mg : Str → Option Value) (base : Heap) (L : Lnk) (P0 : Prog) (xs : List (Nat × Addr)) (k : Nat) (a : Addr) (fd : FuncData) (ps : List Str) (f : Nat) : Prop where
  len : ∀ c vs H Q, SpV (L.wc c) P0 k f vs H Q → vs.length = ps.length
  run : ∀ (A : Around) (outer : List Env) (s : Shared) (H : Hp) (args : Args) (us : List Value) (vs : List V) (Q : VK) (n : Nat) (D0 : Addr) (p : Addr × Obj), L2H.RoomH (2 * k) A → L2H.PinOk outer H s p → lkN n xs = some D0 → Zc (.ref D0) none p.2 → (∃ vs, p.2.data = .fields vs) →
    Env0 P w K mg base A outer s H → BindsTo s fd args (ps.zip us) → Vals vs us → SpV (L.wc (some (n, .ref p.1))) P0 k f vs H Q →
    codeAny (model P w) A (.call (.ref a) args) (fun r s' => ∃ u, r = .ok (.ret u) ∧ CE outer P w H s Q u s') s
theorem def_okT {P : Program} {w : World} {K : PySem.W.Frag} {mg : Str → Option Value} {base : Heap} {k f : Nat} {x qual : Str} {st : Stmt} {a : Addr} {fd : FuncData} {N ps : List Str} {L : Lnk} {P0 : Prog} {xs : List (Nat × Addr)} {fv : Fd} (F : Fun K x qual st a fd) (S : FnScope N ps (defScope st))
    (hf : P0.fns[f]? = some fv) (hn : N.length = fv.n) (hp : fv.np = ps.length)
    (hbody : ∀ (cdv : Value) (A : Around) (outer : List Env) (s : Shared) (H : Hp) (n : Nat) (D0 e : Addr) (oe : Obj), L2H.RoomH (2 * k + 1) (A.deeper (envOfC qual (defScope st) s.heap.objs.size a cdv)) → lkN n xs = some D0 → Zc (.ref D0) none oe → (∃ vs, oe.data = .fields vs) →
      PSs (L2H.cxH CX0 P w K mg base N qual (defScope st) a cdv A outer s H E00 (e, oe)).nox (defBody st) (TSs (L.wc (some (n, .ref e))) (P0.ctx fv.np fv.rb (vrun P0 k)) (fun _ _ _ _ => False) fv.body)) : FnT P w K mg base L P0 xs (k + 1) a fd ps f := by
  obtain ⟨oc, od, kV, doc, pm, an, cdv, ct, osl, rfl, lk, hcd⟩ := F.ex
  have len : ∀ c vs H Q, SpV (L.wc c) P0 (k + 1) f vs H Q → vs.length = ps.length := fun c vs H Q h => spV_len (fun fd' e => by rw [hf] at e; cases e; exact hp) h
  refine ⟨len, fun A outer s H args us vs Q n D0 p hr hpin hn0 hz hv e0 hb r hsp => ?_⟩
  have KX : K.In s.heap := e0.mod.kin.keeps fun b o e => (e0.bs b o e).1
  have lim : s.heap.NoLimit := e0.mod.nolimit.keeps fun b o e => (e0.bs b o e).1
  have hkind : ∀ y ∈ ps.zip us, (defScope st).names.lookup y.1 = some .local ∨ ((defScope st).names.lookup y.1 = some .cell ∧ ((cellsFrom (s.heap.objs.size + 1) (defScope st).names []).lookup y.1).isSome = true) := fun ⟨n, v⟩ hy =>
    (S.par n (List.of_mem_zip hy).1).imp id fun q => ⟨q, PySem.W.cellsFrom_some _ _ _ (.inl q)⟩
  refine codeAny_call_function hr.depth (KX _ _ lk) rfl S.co S.gen rfl (PySem.W.codeRec_of KX hcd) (hb _ _ _ _ ?_)
  refine wpAny_newFunctionEnv_cells S.kind hkind fun env he s1 q1 => ?_
  subst he
  refine ⟨lim.keeps q1.toInCall.keep, codeAny_func ?_⟩
  have ht := hbody cdv A outer s H n D0 p.1 p.2 (L2H.RoomH.deeper (k := 2 * k + 1) hr _) hn0 hz hv
  have hq := body_ok (N := N) hf hn hsp
  have I : Inv (L2H.cxH CX0 P w K mg base N qual (defScope st) a cdv A outer s H E00 p) [] (start N vs) H s1 := L2H.inv_startH S hpin e0 (len _ _ _ _ hsp) r q1
  refine wpAny_mono (ht.run [] s1 (start N vs) H _ (I.wish _) hq) (fun fl s' hs => ?_) fun e s' hs => False.elim hs
  have done : ∀ {σ' : L2.St} {H' : Hp} {v : V} {u : Value}, Inv (L2H.cxH CX0 P w K mg base N qual (defScope st) a cdv A outer s H E00 p) [] σ' H' s' → RelV v u → Q v H' → CE outer P w H s Q u s' :=
    fun {σ' H' v u} J rv z => ⟨v, H', J.os, J.bare, J.base, J.hok, rv, z⟩
  cases fl with
  | ret u =>
    obtain ⟨v, σ', H', J, rv, z⟩ := hs
    exact ⟨u, rfl, done J.unwish rv z⟩
  | next =>
    obtain ⟨σ', H', J, z⟩ := hs
    exact ⟨Value.none, rfl, done (v := V.non) (u := Value.none) J.unwish rfl z⟩
  | brk => obtain ⟨_, _, _, z⟩ := hs; exact False.elim z
  | cont => obtain ⟨_, _, _, z⟩ := hs; exact False.elim z
theorem def_zeroT {P : Program} {w : World} {K : PySem.W.Frag} {mg : Str → Option Value} {base : Heap} {f : Nat} {a : Addr} {fd : FuncData} {ps : List Str} {L : Lnk} {P0 : Prog} {xs : List (Nat × Addr)} : FnT P w K mg base L P0 xs 0 a fd ps f := by
  refine ⟨fun c vs H Q h => ?_, fun A outer s H args us vs Q n D0 p _ _ _ _ _ _ _ _ h => ?_⟩ <;>
  · obtain ⟨ys, r, fin, _, _, _, _, e, _⟩ := h
    simp [vrun] at e
def CallAtT (P : Program) (w : World) (K : PySem.W.Frag) (mg : Str → Option Value) (base : Heap) (L : Lnk) (P0 : Prog) (xs : List (Nat × Addr)) (k : Nat) (x : Str) (f : Nat) : Prop :=
  ∃ (a : Addr) (fd : FuncData) (ps : List Str), mg x = some (.ref a) ∧ PySem.W.keepIn K (.ref a) = true ∧ Binds K fd ps [] ∧ FnT P w K mg base L P0 xs k a fd ps f
section
variable {L : Lnk} {C : Ctx} {X : Cx}
theorem run_T {pins : List (Addr × Obj)} {σ : L2.St} {H : Hp} {s : Shared} {Q : VK} {us : List Value} {vs : List V} {k n f : Nat} {a D0 : Addr} {fd : FuncData} {ps : List Str} {P0 : Prog} {xs : List (Nat × Addr)} {p : Addr × Obj} (F : FnT X.prog X.w X.K X.mg X.base L P0 xs k a fd ps f) (hr : L2H.RoomH (2 * k) X.A) (hp : p ∈ X.pn)
    (hn : lkN n xs = some D0) (hz : Zc (.ref D0) none p.2) (hv : ∃ vs, p.2.data = .fields vs) (hb : Binds X.K fd ps []) (I : Inv X pins σ H s) (r : Vals vs us) (h : SpV (L.wc (some (n, .ref p.1))) P0 k f vs H Q) : wpAny (model X.prog X.w) X.A (call (.ref a) us) (EP X pins σ Q) X.xe s := by
  have hl : (us ++ []).length = ps.length := by rw [List.append_nil, ← r.length]; exact F.len _ _ _ _ h
  have hb' := hb s us I.kIn hl
  rw [List.append_nil] at hb'
  have P1 := I.pin p (List.mem_append_left _ hp)
  have hpin : L2H.PinOk X.stack H s p := ⟨P1.1, P1.2.1, fun hm => (List.mem_cons.mp (I.stkSub p.1 hm)).elim P1.2.2.1 P1.2.2.2.1, P1.2.2.2.2⟩
  refine wpAny_call (codeAny_mono (F.run X.A X.stack s H ⟨us, []⟩ us vs Q n D0 p hr hpin hn hz hv I.env0 hb' r h) fun r s' hq => ?_)
  obtain ⟨u, rfl, hq⟩ := hq
  exact I.after hq
variable {k f n : Nat} {P0 : Prog} {x : Str} {p pos : Pos} {e : Expr} {es : List Expr} {as : Es} {D0 a : Addr} {oe : Obj} {pn : List (Addr × Obj)} {xs : List (Nat × Addr)}
theorem s_callT (hc : CallAtT X.prog X.w X.K X.mg X.base L P0 xs k x f) (hr : Room (2 * k + 1) X.A) (hn : lkN n xs = some D0) (hz : Zc (.ref D0) none oe) (hv : ∃ vs, oe.data = .fields vs) (ha : PA (X.suite a ((a, oe) :: pn)) (e :: es) (TRs (L.wc (some (n, .ref a))) C as)) (hC : C.call = vrun P0 k := by rfl) (hg : Gl X x := by rfl)
    (hdb : (x == ("__debug__" : Str)) = false := by decide) (he : starEach (e :: es) X.env = (false, eval e X.env) :: starEach es X.env := by rfl) (hpl : (backTo pos (starEach es X.env)).any (·.1) = false := by rfl) : PE (X.suite a ((a, oe) :: pn)) (.Call (.Name x p) (e :: es) [] pos) (TEv (L.wc (some (n, .ref a))) C (.call f as)) := by
  obtain ⟨fa, fd, ps, hm, hk, hb, F⟩ := hc
  refine ⟨fun pins s σ H Q I h => ?_⟩
  refine wpAny_Call_Name_kw (ld_glob (X := X.suite a ((a, oe) :: pn)) I hg hm ?_ hdb)
  refine PySem.W.callWith_K (h₀ := X.base) I.ok.mod.kin hk (thn (ha.run pos pins s σ H _ I (call_red hC h)) fun us s1 ⟨vs, H1, I1, r, q⟩ => ⟨I1.kIn, ?_⟩) he hpl
  exact run_T (X := X.suite a ((a, oe) :: pn)) (p := (a, oe)) F ⟨(hr.mono (Nat.le_succ _)).dp, (hr.mono (Nat.le_succ _)).un⟩ List.mem_cons_self hn hz hv hb I1 r q
end
end Vm
end
section
open PySem Vm
namespace R_k08
def f_is_whole : Fd := { np := 1, n := 1, rb := [], body := (.cons (.ret (.some (.and (.bf .isinst (.cons (.var 0 false) (.cons (.glo 1) .nil))) (.nt (.bf .isinst (.cons (.var 0 false) (.cons (.glo 0) .nil)))))))
  .nil) }
def f_is_between : Fd := { np := 3, n := 3, rb := [], body := (.cons (.ret (.some (.and (.call 0 (.cons (.var 0 false) .nil)) (.cmp2 .le .le (.var 1 false) (.var 0 false) (.var 2 false)))))
  .nil) }
def f_is_name : Fd := { np := 1, n := 2, rb := [], body := (.cons (.ret (.some (.and (.bf .isinst (.cons (.var 0 false) (.cons (.glo 4) .nil))) (.and (.cmp2 .le .le (.con (.int 1)) (.bf .len (.cons (.var 0 false) .nil)) (.glo 3)) (.bf .all (.cons (.lc (.cmp .isin (.var 1 false) (.glo 2)) (.nm 1) (.e (.var 0 false)) .none [1]) .nil))))))
  .nil) }
def f_is_one_of : Fd := { np := 2, n := 2, rb := [], body := (.cons (.ret (.some (.and (.bf .isinst (.cons (.var 0 false) (.cons (.glo 4) .nil))) (.cmp .isin (.var 0 false) (.var 1 false)))))
  .nil) }
def f_are_trees : Fd := { np := 1, n := 2, rb := [], body := (.cons (.ret (.some (.and (.bf .isinst (.cons (.var 0 false) (.cons (.glo 5) .nil))) (.and (.cmp .gt (.bf .len (.cons (.var 0 false) .nil)) (.con (.int 0))) (.bf .all (.cons (.lc (.call 6 (.cons (.var 1 false) .nil)) (.nm 1) (.e (.var 0 false)) .none [1]) .nil))))))
  .nil) }
def f_is_part : Fd := { np := 2, n := 2, rb := [], body := (.cons (.ite (.cmp .eq (.var 0 false) (.con (.str ⟨#[120]⟩))) (.cons (.ret (.some (.call 2 (.cons (.var 1 false) .nil))))
  .nil) .nil)
  (.cons (.ite (.cmp .eq (.var 0 false) (.con (.str ⟨#[110]⟩))) (.cons (.ret (.some (.call 1 (.cons (.var 1 false) (.cons (.con (.int 1)) (.cons (.glo 9) .nil))))))
  .nil) .nil)
  (.cons (.ite (.cmp .eq (.var 0 false) (.con (.str ⟨#[107]⟩))) (.cons (.ret (.some (.call 1 (.cons (.var 1 false) (.cons (.con (.int 0)) (.cons (.glo 8) .nil))))))
  .nil) .nil)
  (.cons (.ite (.cmp .eq (.var 0 false) (.con (.str ⟨#[97]⟩))) (.cons (.ret (.some (.call 3 (.cons (.var 1 false) (.cons (.glo 7) .nil)))))
  .nil) .nil)
  (.cons (.ite (.cmp .eq (.var 0 false) (.con (.str ⟨#[101]⟩))) (.cons (.ret (.some (.call 3 (.cons (.var 1 false) (.cons (.glo 6) .nil)))))
  .nil) .nil)
  (.cons (.ite (.cmp .eq (.var 0 false) (.con (.str ⟨#[98]⟩))) (.cons (.ret (.some (.call 6 (.cons (.var 1 false) .nil))))
  .nil) .nil)
  (.cons (.ite (.cmp .eq (.var 0 false) (.con (.str ⟨#[109]⟩))) (.cons (.ret (.some (.and (.call 0 (.cons (.var 1 false) .nil)) (.cmp .ge (.var 1 false) (.con (.int 1))))))
  .nil) .nil)
  (.cons (.ret (.some (.call 4 (.cons (.var 1 false) .nil))))
  .nil)))))))) }
def f_is_tree : Fd := { np := 1, n := 4, rb := [], body := (.cons (.ite (.or (.nt (.bf .isinst (.cons (.var 0 false) (.cons (.glo 5) .nil)))) (.or (.cmp .eq (.bf .len (.cons (.var 0 false) .nil)) (.con (.int 0))) (.nt (.bf .isinst (.cons (.sub (.var 0 false) (.con (.int 0))) (.cons (.glo 4) .nil)))))) (.cons (.ret (.some (.con (.bool false))))
  .nil) .nil)
  (.cons (.asg (.nm 1) (.bm (.glo 10) .get (.cons (.sub (.var 0 false) (.con (.int 0))) .nil)))
  (.cons (.ite (.or (.cmp .is (.var 1 false) (.con .none)) (.cmp .ne (.bf .len (.cons (.var 0 false) .nil)) (.bin .add (.con (.int 1)) (.bf .len (.cons (.var 1 false) .nil))))) (.cons (.ret (.some (.con (.bool false))))
  .nil) .nil)
  (.cons (.ite (.nt (.bf .all (.cons (.lc (.call 5 (.cons (.var 2 false) (.cons (.var 3 false) .nil))) (.tp [(.nm 2), (.nm 3)]) (.zip (.e (.var 1 false)) (.e (.sli (.var 0 false) (.some (.con (.int 1))) .none .one))) .none [2, 3]) .nil))) (.cons (.ret (.some (.con (.bool false))))
  .nil) .nil)
  (.cons (.ret (.some (.or (.cmp .ne (.sub (.var 0 false) (.con (.int 0))) (.con (.str ⟨#[98, 101, 115, 105, 100, 101]⟩))) (.cmp .le (.sub (.var 0 false) (.con (.int 1))) (.bf .len (.cons (.sub (.var 0 false) (.con (.int 2))) .nil))))))
  .nil))))) }
def f_word_at : Fd := { np := 2, n := 2, rb := [], body := (.cons (.ite (.cmp .ge (.var 1 false) (.bf .len (.cons (.var 0 false) .nil))) (.cons (.rais 1 .nil)
  .nil) .nil)
  (.cons (.ret (.some (.sub (.var 0 false) (.var 1 false))))
  .nil)) }
def f_number_at : Fd := { np := 2, n := 4, rb := [], body := (.cons (.xasg (.nm 2) (.xcall 7 (.cons (.var 0 false) (.cons (.var 1 false) .nil))))
  (.cons (.ite (.or (.nt (.cmp2 .le .le (.con (.int 1)) (.bf .len (.cons (.var 2 false) .nil)) (.glo 12))) (.nt (.bf .all (.cons (.lc (.cmp .isin (.var 3 false) (.glo 11)) (.nm 3) (.e (.var 2 false)) .none [3]) .nil)))) (.cons (.rais 1 .nil)
  .nil) .nil)
  (.cons (.ite (.and (.cmp .eq (.sub (.var 2 false) (.con (.int 0))) (.con (.str ⟨#[48]⟩))) (.cmp .ne (.var 2 false) (.con (.str ⟨#[48]⟩)))) (.cons (.rais 1 .nil)
  .nil) .nil)
  (.cons (.ret (.some (.bf .int (.cons (.var 2 false) .nil))))
  .nil)))) }
def f_some_from : Fd := { np := 3, n := 8, rb := [], body := (.cons (.xasg (.nm 3) (.xcall 8 (.cons (.var 0 false) (.cons (.var 1 false) .nil))))
  (.cons (.ite (.cmp .gt (.var 3 false) (.bf .len (.cons (.var 0 false) .nil))) (.cons (.rais 1 .nil)
  .nil) .nil)
  (.cons (.asg (.nm 4) (.lst .nil))
  (.cons (.asg (.nm 5) (.bin .add (.var 1 false) (.con (.int 1))))
  (.cons (.for (.nm 6) (.rng .none (.var 3 false)) (.cons (.xasg (.tp [7, 5]) (.xcall 11 (.cons (.var 0 false) (.cons (.var 5 false) (.cons (.var 2 false) .nil)))))
  (.cons (.ex (.bm (.var 4 false) .append (.cons (.var 7 true) .nil)))
  .nil)))
  (.cons (.ret (.some (.tup (.cons (.bf .tuple (.cons (.var 4 false) .nil)) (.cons (.var 5 true) .nil)))))
  .nil)))))) }
def f_part_from : Fd := { np := 4, n := 4, rb := [], body := (.cons (.ite (.cmp .eq (.var 0 false) (.con (.str ⟨#[98]⟩))) (.cons (.xret (.xcall 11 (.cons (.var 1 false) (.cons (.var 2 false) (.cons (.var 3 false) .nil)))))
  .nil) .nil)
  (.cons (.ite (.cmp .eq (.var 0 false) (.con (.str ⟨#[115]⟩))) (.cons (.xret (.xcall 9 (.cons (.var 1 false) (.cons (.var 2 false) (.cons (.var 3 false) .nil)))))
  .nil) .nil)
  (.cons (.ite (.cmp .isin (.var 0 false) (.con (.str ⟨#[120, 97, 101]⟩))) (.cons (.xret (.xtp (.xcall 7 (.cons (.var 1 false) (.cons (.var 2 false) .nil))) (.cons (.bin .add (.var 2 false) (.con (.int 1))) .nil)))
  .nil) .nil)
  (.cons (.xret (.xtp (.xcall 8 (.cons (.var 1 false) (.cons (.var 2 false) .nil))) (.cons (.bin .add (.var 2 false) (.con (.int 1))) .nil)))
  .nil)))) }
def f_tree_from : Fd := { np := 3, n := 8, rb := [], body := (.cons (.xasg (.nm 3) (.xcall 7 (.cons (.var 0 false) (.cons (.var 1 false) .nil))))
  (.cons (.ite (.or (.cmp .notin (.var 3 false) (.glo 10)) (.cmp .eq (.var 2 false) (.glo 13))) (.cons (.rais 1 .nil)
  .nil) .nil)
  (.cons (.asg (.nm 4) (.lst (.cons (.var 3 false) .nil)))
  (.cons (.asg (.nm 5) (.bin .add (.var 1 false) (.con (.int 1))))
  (.cons (.for (.nm 6) (.e (.sub (.glo 10) (.var 3 false))) (.cons (.xasg (.tp [7, 5]) (.xcall 10 (.cons (.var 6 false) (.cons (.var 0 false) (.cons (.var 5 false) (.cons (.bin .add (.var 2 false) (.con (.int 1))) .nil))))))
  (.cons (.ex (.bm (.var 4 false) .append (.cons (.var 7 true) .nil)))
  .nil)))
  (.cons (.ret (.some (.tup (.cons (.bf .tuple (.cons (.var 4 false) .nil)) (.cons (.var 5 true) .nil)))))
  .nil)))))) }
def f_read_tree : Fd := { np := 1, n := 4, rb := [], body := (.cons (.ite (.nt (.bf .isinst (.cons (.var 0 false) (.cons (.glo 4) .nil)))) (.cons (.rais 1 .nil)
  .nil) .nil)
  (.cons (.asg (.nm 1) (.bm (.var 0 false) .split (.cons (.con (.str ⟨#[32]⟩)) .nil)))
  (.cons (.xasg (.tp [2, 3]) (.xcall 11 (.cons (.var 1 false) (.cons (.con (.int 0)) (.cons (.con (.int 0)) .nil)))))
  (.cons (.ite (.or (.cmp .ne (.var 3 false) (.bf .len (.cons (.var 1 false) .nil))) (.nt (.call 6 (.cons (.var 2 false) .nil)))) (.cons (.rais 1 .nil)
  .nil) .nil)
  (.cons (.ret (.some (.var 2 false)))
  .nil))))) }
def f_l_deck : Fd := { np := 1, n := 2, rb := [], body := (.cons (.asg (.nm 1) (.bf .list (.cons (.sli (.var 0 false) .none (.some (.con (.int 63))) .one) .nil)))
  (.cons (.ret (.some (.lst (.cons (.sli (.var 1 false) .none .none .rev) (.cons (.bin .add (.bin .mod (.bf .sum (.cons (.var 1 false) .nil)) (.con (.int 2147483629))) (.bin .mul (.con (.int 7)) (.bf .len (.cons (.var 1 false) .nil)))) (.cons (.con (.int 0)) .nil))))))
  .nil)) }
def f_l_draw : Fd := { np := 2, n := 4, rb := [], body := (.cons (.asg (.sub (.var 0 false) (.con (.int 2))) (.bin .add (.sub (.var 0 false) (.con (.int 2))) (.con (.int 1))))
  (.cons (.asg (.nm 2) (.sub (.var 0 false) (.con (.int 1))))
  (.cons (.ite (.cmp .ne (.sub (.var 0 false) (.con (.int 0))) (.lst .nil)) (.cons (.asg (.nm 2) (.bm (.sub (.var 0 false) (.con (.int 0))) .pop .nil))
  (.cons (.ite (.cmp .ge (.var 2 false) (.bin .pow (.con (.int 10)) (.con (.int 18)))) (.cons (.ex (.bm (.sub (.var 0 false) (.con (.int 0))) .append (.cons (.bin .fdiv (.var 2 false) (.var 1 false)) .nil)))
  (.cons (.ret (.some (.bin .mod (.var 2 false) (.var 1 false))))
  .nil)) .nil)
  .nil)) .nil)
  (.cons (.asg (.nm 3) (.bin .mod (.bin .mul (.bin .add (.bin .add (.bin .mod (.var 2 false) (.con (.int 2147483629))) (.bin .mul (.bin .mul (.con (.int 7919)) (.sub (.var 0 false) (.con (.int 2)))) (.sub (.var 0 false) (.con (.int 2))))) (.con (.int 1))) (.con (.int 48271))) (.con (.int 2147483647))))
  (.cons (.asg (.nm 3) (.bin .mod (.bin .add (.bin .add (.bin .mul (.var 3 false) (.var 3 false)) (.bin .mul (.con (.int 69621)) (.var 3 false))) (.sub (.var 0 false) (.con (.int 2)))) (.con (.int 2147483587))))
  (.cons (.ret (.some (.bin .mod (.bin .fdiv (.bin .mod (.bin .mul (.var 3 false) (.bin .add (.bin .fdiv (.var 3 false) (.con (.int 5))) (.con (.int 39373)))) (.con (.int 2147483579))) (.con (.int 64))) (.var 1 false))))
  .nil)))))) }
def f_l_some_text : Fd := { np := 1, n := 3, rb := [], body := (.cons (.asg (.nm 1) (.con (.str ⟨#[32, 97, 98, 99, 100, 101, 102, 103, 104, 105, 106, 107, 108, 109, 110, 111, 112, 113, 114, 115, 116, 117, 118, 119, 120, 121, 122, 65, 66, 67, 68, 69, 70, 71, 72, 73, 74, 75, 76, 77, 78, 79, 80, 81, 82, 83, 84, 85, 86, 87, 88, 89, 90, 48, 49, 50, 51, 52, 53, 54, 55, 56, 57, 46, 44, 58, 59, 33, 63, 45, 95, 47, 40, 41]⟩)))
  (.cons (.ret (.some (.bm (.con (.str ⟨#[]⟩)) .join (.cons (.lc (.sub (.var 1 false) (.call 14 (.cons (.var 0 false) (.cons (.bf .len (.cons (.var 1 false) .nil)) .nil)))) (.nm 2) (.rng .none (.bin .add (.con (.int 1)) (.call 14 (.cons (.var 0 false) (.cons (.con (.int 30)) .nil))))) .none [2]) .nil))))
  .nil)) }
def f_l_classes : Fd := { np := 1, n := 2, rb := [], body := (.cons (.asg (.nm 1) (.lst (.cons (.xis 0 [1]) (.cons (.xis 0 [2]) (.cons (.xis 0 [3]) (.cons (.xis 0 [4]) .nil))))))
  (.cons (.asg (.nm 1) (.bin .add (.var 1 false) (.lst (.cons (.xis 0 [5]) (.cons (.xis 0 [6]) (.cons (.xis 0 [7]) (.cons (.xis 0 [8]) .nil)))))))
  (.cons (.ret (.some (.bin .add (.var 1 false) (.lst (.cons (.xis 0 [9]) .nil)))))
  .nil))) }
def f_l_raise : Fd := { np := 2, n := 2, rb := [], body := (.cons (.ite (.cmp .eq (.var 0 false) (.con (.int 0))) (.cons (.rais 1 (.cons (.var 1 false) .nil))
  .nil) .nil)
  (.cons (.ite (.cmp .eq (.var 0 false) (.con (.int 1))) (.cons (.rais 2 (.cons (.var 1 false) .nil))
  .nil) .nil)
  (.cons (.ite (.cmp .eq (.var 0 false) (.con (.int 2))) (.cons (.rais 3 (.cons (.var 1 false) .nil))
  .nil) .nil)
  (.cons (.ite (.cmp .eq (.var 0 false) (.con (.int 3))) (.cons (.rais 4 (.cons (.var 1 false) .nil))
  .nil) .nil)
  (.cons (.ite (.cmp .eq (.var 0 false) (.con (.int 4))) (.cons (.rais 5 (.cons (.var 1 false) .nil))
  .nil) .nil)
  (.cons (.ite (.cmp .eq (.var 0 false) (.con (.int 5))) (.cons (.rais 6 (.cons (.var 1 false) .nil))
  .nil) .nil)
  (.cons (.ite (.cmp .eq (.var 0 false) (.con (.int 6))) (.cons (.rais 7 (.cons (.var 1 false) .nil))
  .nil) .nil)
  (.cons (.ite (.cmp .eq (.var 0 false) (.con (.int 7))) (.cons (.rais 8 (.cons (.var 1 false) .nil))
  .nil) .nil)
  (.cons (.ite (.cmp .eq (.var 0 false) (.con (.int 8))) (.cons (.rais 0 (.cons (.var 1 false) .nil))
  .nil) .nil)
  (.cons (.xex (.xcall 12 (.cons (.bin .add (.var 1 false) (.con (.str ⟨#[32, 59]⟩))) .nil)))
  .nil)))))))))) }
def f_l_caught : Fd := { np := 2, n := 4, rb := [], body := (.cons (.asg (.nm 2) (.lst .nil))
  (.cons (.tr (.cons (.xex (.xcall 17 (.cons (.var 0 false) (.cons (.var 1 false) .nil))))
  .nil) [0] (some 3) (.cons (.asg (.nm 2) (.call 16 (.cons (.var 3 false) .nil)))
  .nil))
  (.cons (.ret (.some (.var 2 false)))
  .nil))) }
def f_law : Fd := { np := 1, n := 8, rb := [], body := (.cons (.asg (.nm 1) (.call 13 (.cons (.var 0 false) .nil)))
  (.cons (.asg (.nm 2) (.call 15 (.cons (.var 1 false) .nil)))
  (.cons (.asg (.nm 3) (.call 14 (.cons (.var 1 false) (.cons (.con (.int 10)) .nil))))
  (.cons (.for (.nm 4) (.rng .none (.con (.int 10))) (.cons (.asg (.nm 5) (.bin .mod (.bin .add (.var 3 false) (.bin .mul (.con (.int 3)) (.var 4 false))) (.con (.int 10))))
  (.cons (.asg (.nm 6) (.bin .add (.lc (.or (.cmp .eq (.var 5 false) (.var 7 false)) (.and (.cmp .eq (.var 5 false) (.con (.int 9))) (.cmp .eq (.var 7 false) (.con (.int 0))))) (.nm 7) (.rng .none (.con (.int 8))) .none [7]) (.lst (.cons (.con (.bool true)) .nil))))
  (.cons (.ite (.cmp .ne (.call 18 (.cons (.var 5 false) (.cons (.var 2 false) .nil))) (.var 6 false)) (.cons (.ret (.some (.con (.bool false))))
  .nil) .nil)
  .nil))))
  (.cons (.ret (.some (.con (.bool true))))
  .nil))))) }
abbrev g0 : M := .bt 2
abbrev gl_bool : M := g0
abbrev g1 : M := .bt 0
abbrev gl_int : M := g1
abbrev g2 : M := .d (.str ⟨#[97, 98, 99, 100, 101, 102, 103, 104, 105, 106, 107, 108, 109, 110, 111, 112, 113, 114, 115, 116, 117, 118, 119, 120, 121, 122]⟩)
abbrev gl_LETTERS : M := g2
abbrev g3 : M := .d (.int 8)
abbrev gl_MOST_LETTERS : M := g3
abbrev g4 : M := .bt 1
abbrev gl_str : M := g4
abbrev g5 : M := .bt 3
abbrev gl_tuple : M := g5
abbrev g6 : M := .d (.tuple [(.str ⟨#[121, 101, 115]⟩), (.str ⟨#[110, 111]⟩)])
abbrev gl_ENDS : M := g6
abbrev g7 : M := .d (.tuple [(.str ⟨#[121, 101, 115]⟩), (.str ⟨#[110, 111]⟩), (.str ⟨#[111, 110]⟩)])
abbrev gl_ANSWERS : M := g7
abbrev g8 : M := .d (.int 99)
abbrev gl_MOST_NOTE : M := g8
abbrev g9 : M := .d (.int 4)
abbrev gl_MOST_TURNS : M := g9
abbrev g10 : M := .d (.dict [((.str ⟨#[108, 101, 97, 102]⟩), (.str ⟨#[120, 110]⟩)), ((.str ⟨#[110, 111, 116, 101]⟩), (.str ⟨#[120, 107]⟩)), ((.str ⟨#[115, 97, 121]⟩), (.str ⟨#[97]⟩)), ((.str ⟨#[116, 117, 114, 110]⟩), (.str ⟨#[98]⟩)), ((.str ⟨#[97, 103, 97, 105, 110]⟩), (.str ⟨#[110, 98]⟩)), ((.str ⟨#[116, 105, 108, 108]⟩), (.str ⟨#[101, 98]⟩)), ((.str ⟨#[103, 117, 97, 114, 100]⟩), (.str ⟨#[120, 107, 98]⟩)), ((.str ⟨#[114, 111, 119]⟩), (.str ⟨#[115]⟩)), ((.str ⟨#[102, 105, 114, 115, 116]⟩), (.str ⟨#[115]⟩)), ((.str ⟨#[98, 101, 115, 105, 100, 101]⟩), (.str ⟨#[109, 115]⟩))])
abbrev gl_FORMS : M := g10
abbrev g11 : M := .d (.str ⟨#[48, 49, 50, 51, 52, 53, 54, 55, 56, 57]⟩)
abbrev gl_FIGURES : M := g11
abbrev g12 : M := .d (.int 9)
abbrev gl_MOST_FIGURES : M := g12
abbrev g13 : M := .d (.int 100)
abbrev gl_DEEPEST : M := g13
def P : Prog where
  fns := [f_is_whole, f_is_between, f_is_name, f_is_one_of, f_are_trees, f_is_part, f_is_tree, f_word_at, f_number_at, f_some_from, f_part_from, f_tree_from, f_read_tree, f_l_deck, f_l_draw, f_l_some_text, f_l_classes, f_l_raise, f_l_caught, f_law]
  glo := [g0, g1, g2, g3, g4, g5, g6, g7, g8, g9, g10, g11, g12, g13]
  sup := [[0, 9, 10], [1, 0, 9, 10], [2, 0, 9, 10], [3, 0, 9, 10], [4, 0, 9, 10], [5, 0, 9, 10], [6, 0, 9, 10], [7, 0, 9, 10], [8, 0, 9, 10], [9, 10], [10]]
  met := [[], [], [], [], [], [], [], [], [], [], []]
  ini := [none, none, none, none, none, none, none, none, none, none, none]
/- fields: ; methods: ; classes: 0 BoughError, 1 NoText, 2 TooMany, 3 NoChange, 4 TooGreat, 5 NoName, 6 Taken, 7 NoRow, 8 NoBack, 9 ValueError, 10 Exception -/
abbrev i_is_whole : Nat := 0
theorem pf_is_whole : P.fns[i_is_whole]? = some f_is_whole := rfl
@[scoped simp] theorem rb_is_whole : f_is_whole.rb = [] := rfl
@[scoped simp] theorem np_is_whole : f_is_whole.np = 1 := rfl
abbrev i_is_between : Nat := 1
theorem pf_is_between : P.fns[i_is_between]? = some f_is_between := rfl
@[scoped simp] theorem rb_is_between : f_is_between.rb = [] := rfl
@[scoped simp] theorem np_is_between : f_is_between.np = 3 := rfl
abbrev i_is_name : Nat := 2
theorem pf_is_name : P.fns[i_is_name]? = some f_is_name := rfl
@[scoped simp] theorem rb_is_name : f_is_name.rb = [] := rfl
@[scoped simp] theorem np_is_name : f_is_name.np = 1 := rfl
abbrev i_is_one_of : Nat := 3
theorem pf_is_one_of : P.fns[i_is_one_of]? = some f_is_one_of := rfl
@[scoped simp] theorem rb_is_one_of : f_is_one_of.rb = [] := rfl
@[scoped simp] theorem np_is_one_of : f_is_one_of.np = 2 := rfl
abbrev i_are_trees : Nat := 4
theorem pf_are_trees : P.fns[i_are_trees]? = some f_are_trees := rfl
@[scoped simp] theorem rb_are_trees : f_are_trees.rb = [] := rfl
@[scoped simp] theorem np_are_trees : f_are_trees.np = 1 := rfl
abbrev i_is_part : Nat := 5
theorem pf_is_part : P.fns[i_is_part]? = some f_is_part := rfl
@[scoped simp] theorem rb_is_part : f_is_part.rb = [] := rfl
@[scoped simp] theorem np_is_part : f_is_part.np = 2 := rfl
abbrev i_is_tree : Nat := 6
theorem pf_is_tree : P.fns[i_is_tree]? = some f_is_tree := rfl
@[scoped simp] theorem rb_is_tree : f_is_tree.rb = [] := rfl
@[scoped simp] theorem np_is_tree : f_is_tree.np = 1 := rfl
abbrev i_word_at : Nat := 7
theorem pf_word_at : P.fns[i_word_at]? = some f_word_at := rfl
@[scoped simp] theorem rb_word_at : f_word_at.rb = [] := rfl
@[scoped simp] theorem np_word_at : f_word_at.np = 2 := rfl
abbrev i_number_at : Nat := 8
theorem pf_number_at : P.fns[i_number_at]? = some f_number_at := rfl
@[scoped simp] theorem rb_number_at : f_number_at.rb = [] := rfl
@[scoped simp] theorem np_number_at : f_number_at.np = 2 := rfl
abbrev i_some_from : Nat := 9
theorem pf_some_from : P.fns[i_some_from]? = some f_some_from := rfl
@[scoped simp] theorem rb_some_from : f_some_from.rb = [] := rfl
@[scoped simp] theorem np_some_from : f_some_from.np = 3 := rfl
abbrev i_part_from : Nat := 10
theorem pf_part_from : P.fns[i_part_from]? = some f_part_from := rfl
@[scoped simp] theorem rb_part_from : f_part_from.rb = [] := rfl
@[scoped simp] theorem np_part_from : f_part_from.np = 4 := rfl
abbrev i_tree_from : Nat := 11
theorem pf_tree_from : P.fns[i_tree_from]? = some f_tree_from := rfl
@[scoped simp] theorem rb_tree_from : f_tree_from.rb = [] := rfl
@[scoped simp] theorem np_tree_from : f_tree_from.np = 3 := rfl
abbrev i_read_tree : Nat := 12
theorem pf_read_tree : P.fns[i_read_tree]? = some f_read_tree := rfl
@[scoped simp] theorem rb_read_tree : f_read_tree.rb = [] := rfl
@[scoped simp] theorem np_read_tree : f_read_tree.np = 1 := rfl
abbrev i_l_deck : Nat := 13
theorem pf_l_deck : P.fns[i_l_deck]? = some f_l_deck := rfl
@[scoped simp] theorem rb_l_deck : f_l_deck.rb = [] := rfl
@[scoped simp] theorem np_l_deck : f_l_deck.np = 1 := rfl
abbrev i_l_draw : Nat := 14
theorem pf_l_draw : P.fns[i_l_draw]? = some f_l_draw := rfl
@[scoped simp] theorem rb_l_draw : f_l_draw.rb = [] := rfl
@[scoped simp] theorem np_l_draw : f_l_draw.np = 2 := rfl
abbrev i_l_some_text : Nat := 15
theorem pf_l_some_text : P.fns[i_l_some_text]? = some f_l_some_text := rfl
@[scoped simp] theorem rb_l_some_text : f_l_some_text.rb = [] := rfl
@[scoped simp] theorem np_l_some_text : f_l_some_text.np = 1 := rfl
abbrev i_l_classes : Nat := 16
theorem pf_l_classes : P.fns[i_l_classes]? = some f_l_classes := rfl
@[scoped simp] theorem rb_l_classes : f_l_classes.rb = [] := rfl
@[scoped simp] theorem np_l_classes : f_l_classes.np = 1 := rfl
abbrev i_l_raise : Nat := 17
theorem pf_l_raise : P.fns[i_l_raise]? = some f_l_raise := rfl
@[scoped simp] theorem rb_l_raise : f_l_raise.rb = [] := rfl
@[scoped simp] theorem np_l_raise : f_l_raise.np = 2 := rfl
abbrev i_l_caught : Nat := 18
theorem pf_l_caught : P.fns[i_l_caught]? = some f_l_caught := rfl
@[scoped simp] theorem rb_l_caught : f_l_caught.rb = [] := rfl
@[scoped simp] theorem np_l_caught : f_l_caught.np = 2 := rfl
abbrev i_law : Nat := 19
theorem pf_law : P.fns[i_law]? = some f_law := rfl
@[scoped simp] theorem rb_law : f_law.rb = [] := rfl
@[scoped simp] theorem np_law : f_law.np = 1 := rfl
@[scoped simp] theorem geq_0 : g0 = .bt 2 := rfl
@[scoped simp] theorem geq_1 : g1 = .bt 0 := rfl
@[scoped simp] theorem geq_2 : g2 = .d (.str ⟨#[97, 98, 99, 100, 101, 102, 103, 104, 105, 106, 107, 108, 109, 110, 111, 112, 113, 114, 115, 116, 117, 118, 119, 120, 121, 122]⟩) := rfl
@[scoped simp] theorem geq_3 : g3 = .d (.int 8) := rfl
@[scoped simp] theorem geq_4 : g4 = .bt 1 := rfl
@[scoped simp] theorem geq_5 : g5 = .bt 3 := rfl
@[scoped simp] theorem geq_6 : g6 = .d (.tuple [(.str ⟨#[121, 101, 115]⟩), (.str ⟨#[110, 111]⟩)]) := rfl
@[scoped simp] theorem geq_7 : g7 = .d (.tuple [(.str ⟨#[121, 101, 115]⟩), (.str ⟨#[110, 111]⟩), (.str ⟨#[111, 110]⟩)]) := rfl
@[scoped simp] theorem geq_8 : g8 = .d (.int 99) := rfl
@[scoped simp] theorem geq_9 : g9 = .d (.int 4) := rfl
@[scoped simp] theorem geq_10 : g10 = .d (.dict [((.str ⟨#[108, 101, 97, 102]⟩), (.str ⟨#[120, 110]⟩)), ((.str ⟨#[110, 111, 116, 101]⟩), (.str ⟨#[120, 107]⟩)), ((.str ⟨#[115, 97, 121]⟩), (.str ⟨#[97]⟩)), ((.str ⟨#[116, 117, 114, 110]⟩), (.str ⟨#[98]⟩)), ((.str ⟨#[97, 103, 97, 105, 110]⟩), (.str ⟨#[110, 98]⟩)), ((.str ⟨#[116, 105, 108, 108]⟩), (.str ⟨#[101, 98]⟩)), ((.str ⟨#[103, 117, 97, 114, 100]⟩), (.str ⟨#[120, 107, 98]⟩)), ((.str ⟨#[114, 111, 119]⟩), (.str ⟨#[115]⟩)), ((.str ⟨#[102, 105, 114, 115, 116]⟩), (.str ⟨#[115]⟩)), ((.str ⟨#[98, 101, 115, 105, 100, 101]⟩), (.str ⟨#[109, 115]⟩))]) := rfl
@[scoped simp] theorem geq_11 : g11 = .d (.str ⟨#[48, 49, 50, 51, 52, 53, 54, 55, 56, 57]⟩) := rfl
@[scoped simp] theorem geq_12 : g12 = .d (.int 9) := rfl
@[scoped simp] theorem geq_13 : g13 = .d (.int 100) := rfl
abbrev cl_BoughError : Nat := 0
abbrev cl_NoText : Nat := 1
abbrev cl_TooMany : Nat := 2
abbrev cl_NoChange : Nat := 3
abbrev cl_TooGreat : Nat := 4
abbrev cl_NoName : Nat := 5
abbrev cl_Taken : Nat := 6
abbrev cl_NoRow : Nat := 7
abbrev cl_NoBack : Nat := 8
abbrev cl_ValueError : Nat := 9
abbrev cl_Exception : Nat := 10
@[scoped simp] theorem pglo : P.glo = [g0, g1, g2, g3, g4, g5, g6, g7, g8, g9, g10, g11, g12, g13] := rfl
end R_k08
end
section
open PySem Vm
namespace P_k08
def f0 : Fd := R_k08.f_is_whole
def f1 : Fd := R_k08.f_is_between
def f2 : Fd := R_k08.f_is_name
def f3 : Fd := R_k08.f_is_one_of
def f4 : Fd := R_k08.f_are_trees
def f5 : Fd := R_k08.f_is_part
def f6 : Fd := R_k08.f_is_tree
def f7 : Fd := R_k08.f_word_at
def f8 : Fd := R_k08.f_number_at
def f9 : Fd := R_k08.f_some_from
def f10 : Fd := R_k08.f_part_from
def f11 : Fd := R_k08.f_tree_from
def f12 : Fd := R_k08.f_read_tree
def f13 : Fd := R_k08.f_l_deck
def f14 : Fd := R_k08.f_l_draw
def f15 : Fd := R_k08.f_l_some_text
def f16 : Fd := R_k08.f_l_classes
def f17 : Fd := R_k08.f_l_raise
def f18 : Fd := R_k08.f_l_caught
def f19 : Fd := R_k08.f_law
abbrev g0 : M := .bt 2
abbrev gl_bool : M := g0
abbrev g1 : M := .bt 0
abbrev gl_int : M := g1
abbrev g2 : M := .d (.str ⟨#[97, 98, 99, 100, 101, 102, 103, 104, 105, 106, 107, 108, 109, 110, 111, 112, 113, 114, 115, 116, 117, 118, 119, 120, 121, 122]⟩)
abbrev gl_LETTERS : M := g2
abbrev g3 : M := .d (.int 8)
abbrev gl_MOST_LETTERS : M := g3
abbrev g4 : M := .bt 1
abbrev gl_str : M := g4
abbrev g5 : M := .bt 3
abbrev gl_tuple : M := g5
abbrev g6 : M := .d (.tuple [(.str ⟨#[121, 101, 115]⟩), (.str ⟨#[110, 111]⟩)])
abbrev gl_ENDS : M := g6
abbrev g7 : M := .d (.tuple [(.str ⟨#[121, 101, 115]⟩), (.str ⟨#[110, 111]⟩), (.str ⟨#[111, 110]⟩)])
abbrev gl_ANSWERS : M := g7
abbrev g8 : M := .d (.int 99)
abbrev gl_MOST_NOTE : M := g8
abbrev g9 : M := .d (.int 4)
abbrev gl_MOST_TURNS : M := g9
abbrev g10 : M := .d (.dict [((.str ⟨#[108, 101, 97, 102]⟩), (.str ⟨#[120, 110]⟩)), ((.str ⟨#[110, 111, 116, 101]⟩), (.str ⟨#[120, 107]⟩)), ((.str ⟨#[115, 97, 121]⟩), (.str ⟨#[97]⟩)), ((.str ⟨#[116, 117, 114, 110]⟩), (.str ⟨#[98]⟩)), ((.str ⟨#[97, 103, 97, 105, 110]⟩), (.str ⟨#[110, 98]⟩)), ((.str ⟨#[116, 105, 108, 108]⟩), (.str ⟨#[101, 98]⟩)), ((.str ⟨#[103, 117, 97, 114, 100]⟩), (.str ⟨#[120, 107, 98]⟩)), ((.str ⟨#[114, 111, 119]⟩), (.str ⟨#[115]⟩)), ((.str ⟨#[102, 105, 114, 115, 116]⟩), (.str ⟨#[115]⟩)), ((.str ⟨#[98, 101, 115, 105, 100, 101]⟩), (.str ⟨#[109, 115]⟩))])
abbrev gl_FORMS : M := g10
abbrev g11 : M := .d (.str ⟨#[48, 49, 50, 51, 52, 53, 54, 55, 56, 57]⟩)
abbrev gl_FIGURES : M := g11
abbrev g12 : M := .d (.int 9)
abbrev gl_MOST_FIGURES : M := g12
abbrev g13 : M := .d (.int 100)
abbrev gl_DEEPEST : M := g13
def P : Prog where
  fns := [f0, f1, f2, f3, f4, f5, f6, f7, f8, f9, f10, f11, f12, f13, f14, f15, f16, f17, f18, f19]
  glo := [g0, g1, g2, g3, g4, g5, g6, g7, g8, g9, g10, g11, g12, g13]
  sup := [[0, 9, 10], [1, 0, 9, 10], [2, 0, 9, 10], [3, 0, 9, 10], [4, 0, 9, 10], [5, 0, 9, 10], [6, 0, 9, 10], [7, 0, 9, 10], [8, 0, 9, 10], [9, 10], [10]]
  met := [[], [], [], [], [], [], [], [], [], [], []]
  ini := [none, none, none, none, none, none, none, none, none, none, none]
/- fields: ; methods: ; classes: 0 BoughError, 1 NoText, 2 TooMany, 3 NoChange, 4 TooGreat, 5 NoName, 6 Taken, 7 NoRow, 8 NoBack, 9 ValueError, 10 Exception -/
end P_k08
namespace P_k08
open PySem L2 Vm PySem.Spec PyProof.Rows
def top (i : Nat) : Stmt := PySem.Challenge.pw_beatboughs_k08_refusals_made.main.body.getD i (.Pass ⟨0, 0, 0, 0⟩)
abbrev fln : List Str := []
abbrev st0 : Stmt := top 18
theorem sc0 : FnScope ["thing"] ["thing"] (defScope st0) := ⟨rfl, rfl, rfl, by decide +kernel, rfl, by decide +kernel, by decide +kernel⟩
abbrev st1 : Stmt := top 19
theorem sc1 : FnScope ["thing", "low", "high"] ["thing", "low", "high"] (defScope st1) := ⟨rfl, rfl, rfl, by decide +kernel, rfl, by decide +kernel, by decide +kernel⟩
abbrev st2 : Stmt := top 20
theorem sc2 : FnScope ["thing", "sign"] ["thing"] (defScope st2) := ⟨rfl, rfl, rfl, by decide +kernel, rfl, by decide +kernel, by decide +kernel⟩
abbrev st3 : Stmt := top 21
theorem sc3 : FnScope ["thing", "texts"] ["thing", "texts"] (defScope st3) := ⟨rfl, rfl, rfl, by decide +kernel, rfl, by decide +kernel, by decide +kernel⟩
abbrev st4 : Stmt := top 22
theorem sc4 : FnScope ["thing", "one"] ["thing"] (defScope st4) := ⟨rfl, rfl, rfl, by decide +kernel, rfl, by decide +kernel, by decide +kernel⟩
abbrev st5 : Stmt := top 23
theorem sc5 : FnScope ["sign", "thing"] ["sign", "thing"] (defScope st5) := ⟨rfl, rfl, rfl, by decide +kernel, rfl, by decide +kernel, by decide +kernel⟩
abbrev st6 : Stmt := top 24
theorem sc6 : FnScope ["thing", "form", "sign", "part"] ["thing"] (defScope st6) := ⟨rfl, rfl, rfl, by decide +kernel, rfl, by decide +kernel, by decide +kernel⟩
abbrev st7 : Stmt := top 29
theorem sc7 : FnScope ["words", "at"] ["words", "at"] (defScope st7) := ⟨rfl, rfl, rfl, by decide +kernel, rfl, by decide +kernel, by decide +kernel⟩
abbrev st8 : Stmt := top 30
theorem sc8 : FnScope ["words", "at", "word", "sign"] ["words", "at"] (defScope st8) := ⟨rfl, rfl, rfl, by decide +kernel, rfl, by decide +kernel, by decide +kernel⟩
abbrev st9 : Stmt := top 31
theorem sc9 : FnScope ["words", "at", "deep", "many", "found", "behind", "turn", "one"] ["words", "at", "deep"] (defScope st9) := ⟨rfl, rfl, rfl, by decide +kernel, rfl, by decide +kernel, by decide +kernel⟩
abbrev st10 : Stmt := top 32
theorem sc10 : FnScope ["sign", "words", "at", "deep"] ["sign", "words", "at", "deep"] (defScope st10) := ⟨rfl, rfl, rfl, by decide +kernel, rfl, by decide +kernel, by decide +kernel⟩
abbrev st11 : Stmt := top 33
theorem sc11 : FnScope ["words", "at", "deep", "word", "found", "behind", "sign", "part"] ["words", "at", "deep"] (defScope st11) := ⟨rfl, rfl, rfl, by decide +kernel, rfl, by decide +kernel, by decide +kernel⟩
abbrev st12 : Stmt := top 34
theorem sc12 : FnScope ["text", "words", "tree", "behind"] ["text"] (defScope st12) := ⟨rfl, rfl, rfl, by decide +kernel, rfl, by decide +kernel, by decide +kernel⟩
abbrev st13 : Stmt := top 36
theorem sc13 : FnScope ["_law_script", "_law_cells"] ["_law_script"] (defScope st13) := ⟨rfl, rfl, rfl, by decide +kernel, rfl, by decide +kernel, by decide +kernel⟩
abbrev st14 : Stmt := top 37
theorem sc14 : FnScope ["_law_deck_here", "_law_most", "_law_cell", "_law_number"] ["_law_deck_here", "_law_most"] (defScope st14) := ⟨rfl, rfl, rfl, by decide +kernel, rfl, by decide +kernel, by decide +kernel⟩
abbrev st15 : Stmt := top 38
theorem sc15 : FnScope ["_law_deck_here", "_law_signs", "_law_k"] ["_law_deck_here"] (defScope st15) := ⟨rfl, rfl, rfl, by decide +kernel, rfl, by decide +kernel, by decide +kernel⟩
abbrev st16 : Stmt := top 39
theorem sc16 : FnScope ["_law_e", "_law_some"] ["_law_e"] (defScope st16) := ⟨rfl, rfl, rfl, by decide +kernel, rfl, by decide +kernel, by decide +kernel⟩
abbrev st17 : Stmt := top 40
theorem sc17 : FnScope ["_law_number", "_law_text"] ["_law_number", "_law_text"] (defScope st17) := ⟨rfl, rfl, rfl, by decide +kernel, rfl, by decide +kernel, by decide +kernel⟩
abbrev st18 : Stmt := top 41
theorem sc18 : FnScope ["_law_number", "_law_text", "_law_found", "_law_e"] ["_law_number", "_law_text"] (defScope st18) := ⟨rfl, rfl, rfl, by decide +kernel, rfl, by decide +kernel, by decide +kernel⟩
abbrev st19 : Stmt := top 42
theorem sc19 : FnScope ["_law_script", "_law_deck_here", "_law_text", "_law_begin", "_law_k", "_law_at", "_law_due", "_law_one"] ["_law_script"] (defScope st19) := ⟨rfl, rfl, rfl, by decide +kernel, rfl, by decide +kernel, by decide +kernel⟩
structure Txt (w : World) (K : PySem.W.Frag) (mg : Str → Option Value) (fs cs xs : List (Nat × Addr)) : Prop where
  n_isinstance : mg "isinstance" = none
  n_bool : mg "bool" = none
  n_int : mg "int" = none
  n_all : mg "all" = none
  n_len : mg "len" = none
  n_str : mg "str" = none
  n_tuple : mg "tuple" = none
  n_zip : mg "zip" = none
  n_range : mg "range" = none
  n_sum : mg "sum" = none
  n_list : mg "list" = none
  g_LETTERS : ∃ t, mg "LETTERS" = some (.str ⟨#[97, 98, 99, 100, 101, 102, 103, 104, 105, 106, 107, 108, 109, 110, 111, 112, 113, 114, 115, 116, 117, 118, 119, 120, 121, 122]⟩ t)
  g_MOST_LETTERS : ∃ t, mg "MOST_LETTERS" = some (.int 8 t)
  g_ENDS : ∃ t, mg "ENDS" = some t ∧ TupAt K t [.str ⟨#[121, 101, 115]⟩, .str ⟨#[110, 111]⟩]
  g_ANSWERS : ∃ t, mg "ANSWERS" = some t ∧ TupAt K t [.str ⟨#[121, 101, 115]⟩, .str ⟨#[110, 111]⟩, .str ⟨#[111, 110]⟩]
  g_MOST_NOTE : ∃ t, mg "MOST_NOTE" = some (.int 99 t)
  g_MOST_TURNS : ∃ t, mg "MOST_TURNS" = some (.int 4 t)
  g_FORMS : ∃ t, mg "FORMS" = some t ∧ DctAt K w t [(⟨#[108, 101, 97, 102]⟩, (.str ⟨#[120, 110]⟩)), (⟨#[110, 111, 116, 101]⟩, (.str ⟨#[120, 107]⟩)), (⟨#[115, 97, 121]⟩, (.str ⟨#[97]⟩)), (⟨#[116, 117, 114, 110]⟩, (.str ⟨#[98]⟩)), (⟨#[97, 103, 97, 105, 110]⟩, (.str ⟨#[110, 98]⟩)), (⟨#[116, 105, 108, 108]⟩, (.str ⟨#[101, 98]⟩)), (⟨#[103, 117, 97, 114, 100]⟩, (.str ⟨#[120, 107, 98]⟩)), (⟨#[114, 111, 119]⟩, (.str ⟨#[115]⟩)), (⟨#[102, 105, 114, 115, 116]⟩, (.str ⟨#[115]⟩)), (⟨#[98, 101, 115, 105, 100, 101]⟩, (.str ⟨#[109, 115]⟩))]
  g_FIGURES : ∃ t, mg "FIGURES" = some (.str ⟨#[48, 49, 50, 51, 52, 53, 54, 55, 56, 57]⟩ t)
  g_MOST_FIGURES : ∃ t, mg "MOST_FIGURES" = some (.int 9 t)
  g_DEEPEST : ∃ t, mg "DEEPEST" = some (.int 100 t)
  e_NoText : XcAt K mg (fun c => (P.sup[c]?).getD []) xs "NoText" 1
  e_BoughError : XcAt K mg (fun c => (P.sup[c]?).getD []) xs "BoughError" 0
  e_NoBack : XcAt K mg (fun c => (P.sup[c]?).getD []) xs "NoBack" 8
  e_NoRow : XcAt K mg (fun c => (P.sup[c]?).getD []) xs "NoRow" 7
  e_Taken : XcAt K mg (fun c => (P.sup[c]?).getD []) xs "Taken" 6
  e_NoName : XcAt K mg (fun c => (P.sup[c]?).getD []) xs "NoName" 5
  e_TooGreat : XcAt K mg (fun c => (P.sup[c]?).getD []) xs "TooGreat" 4
  e_NoChange : XcAt K mg (fun c => (P.sup[c]?).getD []) xs "NoChange" 3
  e_TooMany : XcAt K mg (fun c => (P.sup[c]?).getD []) xs "TooMany" 2
  i_ValueError : XiAt K mg (fun c => (P.sup[c]?).getD []) xs "ValueError" 9
  i_NoBack : XiAt K mg (fun c => (P.sup[c]?).getD []) xs "NoBack" 8
  i_NoRow : XiAt K mg (fun c => (P.sup[c]?).getD []) xs "NoRow" 7
  i_Taken : XiAt K mg (fun c => (P.sup[c]?).getD []) xs "Taken" 6
  i_NoName : XiAt K mg (fun c => (P.sup[c]?).getD []) xs "NoName" 5
  i_TooGreat : XiAt K mg (fun c => (P.sup[c]?).getD []) xs "TooGreat" 4
  i_NoChange : XiAt K mg (fun c => (P.sup[c]?).getD []) xs "NoChange" 3
  i_TooMany : XiAt K mg (fun c => (P.sup[c]?).getD []) xs "TooMany" 2
  i_NoText : XiAt K mg (fun c => (P.sup[c]?).getD []) xs "NoText" 1
  xall : XiAll K xs
structure Cs (Pr : Program) (w : World) (K : PySem.W.Frag) (mg : Str → Option Value) (base : Heap) (fs cs xs : List (Nat × Addr)) (k : Nat) : Prop where
  c0 : CallAt Pr w K mg base (LkX K w fs cs xs fln) P k "is_whole" 0
  c1 : CallAt Pr w K mg base (LkX K w fs cs xs fln) P k "is_between" 1
  c2 : CallAt Pr w K mg base (LkX K w fs cs xs fln) P k "is_name" 2
  c3 : CallAt Pr w K mg base (LkX K w fs cs xs fln) P k "is_one_of" 3
  c4 : CallAt Pr w K mg base (LkX K w fs cs xs fln) P k "are_trees" 4
  c5 : CallAt Pr w K mg base (LkX K w fs cs xs fln) P k "is_part" 5
  c6 : CallAt Pr w K mg base (LkX K w fs cs xs fln) P k "is_tree" 6
  c7 : CallAt Pr w K mg base (LkX K w fs cs xs fln) P k "word_at" 7
  c8 : CallAt Pr w K mg base (LkX K w fs cs xs fln) P k "number_at" 8
  c9 : CallAt Pr w K mg base (LkX K w fs cs xs fln) P k "some_from" 9
  c10 : CallAt Pr w K mg base (LkX K w fs cs xs fln) P k "part_from" 10
  c11 : CallAt Pr w K mg base (LkX K w fs cs xs fln) P k "tree_from" 11
  c12 : CallAt Pr w K mg base (LkX K w fs cs xs fln) P k "read_tree" 12
  c13 : CallAt Pr w K mg base (LkX K w fs cs xs fln) P k "_law_deck" 13
  c14 : CallAt Pr w K mg base (LkX K w fs cs xs fln) P k "_law_draw" 14
  c15 : CallAt Pr w K mg base (LkX K w fs cs xs fln) P k "_law_some_text" 15
  c17 : CallAt Pr w K mg base (LkX K w fs cs xs fln) P k "_law_raise" 17
  c18 : CallAt Pr w K mg base (LkX K w fs cs xs fln) P k "_law_caught" 18
  c19 : CallAt Pr w K mg base (LkX K w fs cs xs fln) P k "law" 19
  x7 : CallAtX Pr w K mg base (LkX K w fs cs xs fln) P k "word_at" 7
  x11 : CallAtX Pr w K mg base (LkX K w fs cs xs fln) P k "tree_from" 11
  x8 : CallAtX Pr w K mg base (LkX K w fs cs xs fln) P k "number_at" 8
  x9 : CallAtX Pr w K mg base (LkX K w fs cs xs fln) P k "some_from" 9
  x10 : CallAtX Pr w K mg base (LkX K w fs cs xs fln) P k "part_from" 10
  x12 : CallAtX Pr w K mg base (LkX K w fs cs xs fln) P k "read_tree" 12
  x17 : CallAtX Pr w K mg base (LkX K w fs cs xs fln) P k "_law_raise" 17
  t16 : CallAtT Pr w K mg base (LkX K w fs cs xs fln) P xs k "_law_classes" 16
theorem ok0 {Pr : Program} {w : World} {K : PySem.W.Frag} {mg : Str → Option Value} {base : Heap} {fs cs xs : List (Nat × Addr)} {k : Nat} {a : Addr} {fd : FuncData} (F : Fun K "is_whole" "is_whole" st0 a fd) (T : Txt w K mg fs cs xs) (G : Cs Pr w K mg base fs cs xs k) : FnG Pr w K mg base (k + 1) a fd ["thing"] (SpV (LkX K w fs cs xs fln) P (k + 1) 0) := by
  obtain ⟨t_LETTERS, gh_LETTERS⟩ := T.g_LETTERS
  obtain ⟨t_MOST_LETTERS, gh_MOST_LETTERS⟩ := T.g_MOST_LETTERS
  obtain ⟨u_ENDS, gh_ENDS, t_ENDS⟩ := T.g_ENDS
  obtain ⟨u_ANSWERS, gh_ANSWERS, t_ANSWERS⟩ := T.g_ANSWERS
  obtain ⟨t_MOST_NOTE, gh_MOST_NOTE⟩ := T.g_MOST_NOTE
  obtain ⟨t_MOST_TURNS, gh_MOST_TURNS⟩ := T.g_MOST_TURNS
  obtain ⟨u_FORMS, gh_FORMS, t_FORMS⟩ := T.g_FORMS
  obtain ⟨t_FIGURES, gh_FIGURES⟩ := T.g_FIGURES
  obtain ⟨t_MOST_FIGURES, gh_MOST_FIGURES⟩ := T.g_MOST_FIGURES
  obtain ⟨t_DEEPEST, gh_DEEPEST⟩ := T.g_DEEPEST
  exact def_ok F sc0 (fv := f0) rfl rfl rfl fun cdv A outer s H hr hg =>
    (Vm.ss_cons (Vm.st_ret (Vm.s_and rfl (Vm.s_bfB (Vm.c_isi rfl fun _ => rfl) T.n_isinstance (Vm.r_cons Vm.s_var (Vm.r_cons (Vm.s_glo rfl (pe_bltn (v := V.ty "int") (u := Value.type "int") rfl T.n_int (by kernel_rfl) rfl) fun _ _ => rfl) Vm.r_nil))) (Vm.s_one (Vm.s_nt rfl (Vm.s_bfB (Vm.c_isi rfl fun _ => rfl) T.n_isinstance (Vm.r_cons Vm.s_var (Vm.r_cons (Vm.s_glo rfl (pe_bltn (v := V.ty "bool") (u := Value.type "bool") rfl T.n_bool (by kernel_rfl) rfl) fun _ _ => rfl) Vm.r_nil)))))))
    Vm.ss_nil)
theorem ok1 {Pr : Program} {w : World} {K : PySem.W.Frag} {mg : Str → Option Value} {base : Heap} {fs cs xs : List (Nat × Addr)} {k : Nat} {a : Addr} {fd : FuncData} (F : Fun K "is_between" "is_between" st1 a fd) (T : Txt w K mg fs cs xs) (G : Cs Pr w K mg base fs cs xs k) : FnG Pr w K mg base (k + 1) a fd ["thing", "low", "high"] (SpV (LkX K w fs cs xs fln) P (k + 1) 1) := by
  obtain ⟨t_LETTERS, gh_LETTERS⟩ := T.g_LETTERS
  obtain ⟨t_MOST_LETTERS, gh_MOST_LETTERS⟩ := T.g_MOST_LETTERS
  obtain ⟨u_ENDS, gh_ENDS, t_ENDS⟩ := T.g_ENDS
  obtain ⟨u_ANSWERS, gh_ANSWERS, t_ANSWERS⟩ := T.g_ANSWERS
  obtain ⟨t_MOST_NOTE, gh_MOST_NOTE⟩ := T.g_MOST_NOTE
  obtain ⟨t_MOST_TURNS, gh_MOST_TURNS⟩ := T.g_MOST_TURNS
  obtain ⟨u_FORMS, gh_FORMS, t_FORMS⟩ := T.g_FORMS
  obtain ⟨t_FIGURES, gh_FIGURES⟩ := T.g_FIGURES
  obtain ⟨t_MOST_FIGURES, gh_MOST_FIGURES⟩ := T.g_MOST_FIGURES
  obtain ⟨t_DEEPEST, gh_DEEPEST⟩ := T.g_DEEPEST
  exact def_ok F sc1 (fv := f1) rfl rfl rfl fun cdv A outer s H hr hg =>
    (Vm.ss_cons (Vm.st_ret (Vm.s_and rfl (Vm.s_call G.c0 hr hg (Vm.r_cons Vm.s_var Vm.r_nil)) (Vm.s_one (Vm.s_cmp2 ⟨rfl, hr.un, rfl⟩ (ha := Vm.s_var) (hb := Vm.s_var) (hc := Vm.s_var)))))
    Vm.ss_nil)
theorem ok2 {Pr : Program} {w : World} {K : PySem.W.Frag} {mg : Str → Option Value} {base : Heap} {fs cs xs : List (Nat × Addr)} {k : Nat} {a : Addr} {fd : FuncData} (F : Fun K "is_name" "is_name" st2 a fd) (T : Txt w K mg fs cs xs) (G : Cs Pr w K mg base fs cs xs k) : FnG Pr w K mg base (k + 1) a fd ["thing"] (SpV (LkX K w fs cs xs fln) P (k + 1) 2) := by
  obtain ⟨t_LETTERS, gh_LETTERS⟩ := T.g_LETTERS
  obtain ⟨t_MOST_LETTERS, gh_MOST_LETTERS⟩ := T.g_MOST_LETTERS
  obtain ⟨u_ENDS, gh_ENDS, t_ENDS⟩ := T.g_ENDS
  obtain ⟨u_ANSWERS, gh_ANSWERS, t_ANSWERS⟩ := T.g_ANSWERS
  obtain ⟨t_MOST_NOTE, gh_MOST_NOTE⟩ := T.g_MOST_NOTE
  obtain ⟨t_MOST_TURNS, gh_MOST_TURNS⟩ := T.g_MOST_TURNS
  obtain ⟨u_FORMS, gh_FORMS, t_FORMS⟩ := T.g_FORMS
  obtain ⟨t_FIGURES, gh_FIGURES⟩ := T.g_FIGURES
  obtain ⟨t_MOST_FIGURES, gh_MOST_FIGURES⟩ := T.g_MOST_FIGURES
  obtain ⟨t_DEEPEST, gh_DEEPEST⟩ := T.g_DEEPEST
  exact def_ok F sc2 (fv := f2) rfl rfl rfl fun cdv A outer s H hr hg =>
    (Vm.ss_cons (Vm.st_ret (Vm.s_and rfl (Vm.s_bfB (Vm.c_isi rfl fun _ => rfl) T.n_isinstance (Vm.r_cons Vm.s_var (Vm.r_cons (Vm.s_glo rfl (pe_bltn (v := V.ty "str") (u := Value.type "str") rfl T.n_str (by kernel_rfl) rfl) fun _ _ => rfl) Vm.r_nil))) (Vm.s_and rfl (Vm.s_cmp2 ⟨rfl, hr.un, rfl⟩ (ha := Vm.s_int) (hb := (Vm.s_bfB (Vm.c_len rfl) T.n_len (Vm.r_cons Vm.s_var Vm.r_nil))) (hc := (Vm.s_glo rfl (pe_glob (v := V.int 8) rfl gh_MOST_LETTERS ⟨_, rfl⟩) fun _ _ => .int _))) (Vm.s_one (Vm.s_bfB (Vm.c_all rfl rfl) T.n_all (Vm.r_cons (Vm.s_lc rfl sc2.nd (Vm.i_e rfl Vm.s_var) (blkOk_by (own := [("sign", 1)]) (by kernel_rfl)) rfl (fun _ _ _ _ _ => (Vm.gb_x (pg_name (i := 1) sc2.nd rfl (by first | exact Or.inl rfl | exact Or.inr rfl)))) (fun _ _ _ _ _ => Vm.c_none) (fun _ _ _ _ _ => (Vm.s_cmp ⟨rfl, hr.un, rfl⟩ (ha := Vm.s_var) (hb := (Vm.s_glo rfl (pe_glob (v := V.str ⟨#[97, 98, 99, 100, 101, 102, 103, 104, 105, 106, 107, 108, 109, 110, 111, 112, 113, 114, 115, 116, 117, 118, 119, 120, 121, 122]⟩) rfl gh_LETTERS ⟨_, rfl⟩) fun _ _ => .str _ (sokB_ok (by decide +kernel))))))) Vm.r_nil))))))
    Vm.ss_nil)
theorem ok3 {Pr : Program} {w : World} {K : PySem.W.Frag} {mg : Str → Option Value} {base : Heap} {fs cs xs : List (Nat × Addr)} {k : Nat} {a : Addr} {fd : FuncData} (F : Fun K "is_one_of" "is_one_of" st3 a fd) (T : Txt w K mg fs cs xs) (G : Cs Pr w K mg base fs cs xs k) : FnG Pr w K mg base (k + 1) a fd ["thing", "texts"] (SpV (LkX K w fs cs xs fln) P (k + 1) 3) := by
  obtain ⟨t_LETTERS, gh_LETTERS⟩ := T.g_LETTERS
  obtain ⟨t_MOST_LETTERS, gh_MOST_LETTERS⟩ := T.g_MOST_LETTERS
  obtain ⟨u_ENDS, gh_ENDS, t_ENDS⟩ := T.g_ENDS
  obtain ⟨u_ANSWERS, gh_ANSWERS, t_ANSWERS⟩ := T.g_ANSWERS
  obtain ⟨t_MOST_NOTE, gh_MOST_NOTE⟩ := T.g_MOST_NOTE
  obtain ⟨t_MOST_TURNS, gh_MOST_TURNS⟩ := T.g_MOST_TURNS
  obtain ⟨u_FORMS, gh_FORMS, t_FORMS⟩ := T.g_FORMS
  obtain ⟨t_FIGURES, gh_FIGURES⟩ := T.g_FIGURES
  obtain ⟨t_MOST_FIGURES, gh_MOST_FIGURES⟩ := T.g_MOST_FIGURES
  obtain ⟨t_DEEPEST, gh_DEEPEST⟩ := T.g_DEEPEST
  exact def_ok F sc3 (fv := f3) rfl rfl rfl fun cdv A outer s H hr hg =>
    (Vm.ss_cons (Vm.st_ret (Vm.s_and rfl (Vm.s_bfB (Vm.c_isi rfl fun _ => rfl) T.n_isinstance (Vm.r_cons Vm.s_var (Vm.r_cons (Vm.s_glo rfl (pe_bltn (v := V.ty "str") (u := Value.type "str") rfl T.n_str (by kernel_rfl) rfl) fun _ _ => rfl) Vm.r_nil))) (Vm.s_one (Vm.s_cmp ⟨rfl, hr.un, rfl⟩ (ha := Vm.s_var) (hb := Vm.s_var)))))
    Vm.ss_nil)
theorem ok4 {Pr : Program} {w : World} {K : PySem.W.Frag} {mg : Str → Option Value} {base : Heap} {fs cs xs : List (Nat × Addr)} {k : Nat} {a : Addr} {fd : FuncData} (F : Fun K "are_trees" "are_trees" st4 a fd) (T : Txt w K mg fs cs xs) (G : Cs Pr w K mg base fs cs xs k) : FnG Pr w K mg base (k + 1) a fd ["thing"] (SpV (LkX K w fs cs xs fln) P (k + 1) 4) := by
  obtain ⟨t_LETTERS, gh_LETTERS⟩ := T.g_LETTERS
  obtain ⟨t_MOST_LETTERS, gh_MOST_LETTERS⟩ := T.g_MOST_LETTERS
  obtain ⟨u_ENDS, gh_ENDS, t_ENDS⟩ := T.g_ENDS
  obtain ⟨u_ANSWERS, gh_ANSWERS, t_ANSWERS⟩ := T.g_ANSWERS
  obtain ⟨t_MOST_NOTE, gh_MOST_NOTE⟩ := T.g_MOST_NOTE
  obtain ⟨t_MOST_TURNS, gh_MOST_TURNS⟩ := T.g_MOST_TURNS
  obtain ⟨u_FORMS, gh_FORMS, t_FORMS⟩ := T.g_FORMS
  obtain ⟨t_FIGURES, gh_FIGURES⟩ := T.g_FIGURES
  obtain ⟨t_MOST_FIGURES, gh_MOST_FIGURES⟩ := T.g_MOST_FIGURES
  obtain ⟨t_DEEPEST, gh_DEEPEST⟩ := T.g_DEEPEST
  exact def_ok F sc4 (fv := f4) rfl rfl rfl fun cdv A outer s H hr hg =>
    (Vm.ss_cons (Vm.st_ret (Vm.s_and rfl (Vm.s_bfB (Vm.c_isi rfl fun _ => rfl) T.n_isinstance (Vm.r_cons Vm.s_var (Vm.r_cons (Vm.s_glo rfl (pe_bltn (v := V.ty "tuple") (u := Value.type "tuple") rfl T.n_tuple (by kernel_rfl) rfl) fun _ _ => rfl) Vm.r_nil))) (Vm.s_and rfl (Vm.s_cmp ⟨rfl, hr.un, rfl⟩ (ha := (Vm.s_bfB (Vm.c_len rfl) T.n_len (Vm.r_cons Vm.s_var Vm.r_nil))) (hb := Vm.s_int)) (Vm.s_one (Vm.s_bfB (Vm.c_all rfl rfl) T.n_all (Vm.r_cons (Vm.s_lc rfl sc4.nd (Vm.i_e rfl Vm.s_var) (blkOk_by (own := [("one", 1)]) (by kernel_rfl)) rfl (fun _ _ _ _ _ => (Vm.gb_x (pg_name (i := 1) sc4.nd rfl (by first | exact Or.inl rfl | exact Or.inr rfl)))) (fun _ _ _ _ _ => Vm.c_none) (fun _ _ _ _ _ => (Vm.s_call G.c6 hr hg (Vm.r_cons Vm.s_var Vm.r_nil)))) Vm.r_nil))))))
    Vm.ss_nil)
theorem ok5 {Pr : Program} {w : World} {K : PySem.W.Frag} {mg : Str → Option Value} {base : Heap} {fs cs xs : List (Nat × Addr)} {k : Nat} {a : Addr} {fd : FuncData} (F : Fun K "is_part" "is_part" st5 a fd) (T : Txt w K mg fs cs xs) (G : Cs Pr w K mg base fs cs xs k) : FnG Pr w K mg base (k + 1) a fd ["sign", "thing"] (SpV (LkX K w fs cs xs fln) P (k + 1) 5) := by
  obtain ⟨t_LETTERS, gh_LETTERS⟩ := T.g_LETTERS
  obtain ⟨t_MOST_LETTERS, gh_MOST_LETTERS⟩ := T.g_MOST_LETTERS
  obtain ⟨u_ENDS, gh_ENDS, t_ENDS⟩ := T.g_ENDS
  obtain ⟨u_ANSWERS, gh_ANSWERS, t_ANSWERS⟩ := T.g_ANSWERS
  obtain ⟨t_MOST_NOTE, gh_MOST_NOTE⟩ := T.g_MOST_NOTE
  obtain ⟨t_MOST_TURNS, gh_MOST_TURNS⟩ := T.g_MOST_TURNS
  obtain ⟨u_FORMS, gh_FORMS, t_FORMS⟩ := T.g_FORMS
  obtain ⟨t_FIGURES, gh_FIGURES⟩ := T.g_FIGURES
  obtain ⟨t_MOST_FIGURES, gh_MOST_FIGURES⟩ := T.g_MOST_FIGURES
  obtain ⟨t_DEEPEST, gh_DEEPEST⟩ := T.g_DEEPEST
  exact def_ok F sc5 (fv := f5) rfl rfl rfl fun cdv A outer s H hr hg =>
    (Vm.ss_cons (Vm.st_ite (Vm.t_cmp ⟨rfl, hr.un, rfl⟩ (ha := Vm.s_var) (hb := Vm.s_str))
    (Vm.ss_cons (Vm.st_ret (Vm.s_call G.c2 hr hg (Vm.r_cons Vm.s_var Vm.r_nil)))
    Vm.ss_nil)
    Vm.ss_nil)
    (Vm.ss_cons (Vm.st_ite (Vm.t_cmp ⟨rfl, hr.un, rfl⟩ (ha := Vm.s_var) (hb := Vm.s_str))
    (Vm.ss_cons (Vm.st_ret (Vm.s_call G.c1 hr hg (Vm.r_cons Vm.s_var (Vm.r_cons Vm.s_int (Vm.r_cons (Vm.s_glo rfl (pe_glob (v := V.int 4) rfl gh_MOST_TURNS ⟨_, rfl⟩) fun _ _ => .int _) Vm.r_nil)))))
    Vm.ss_nil)
    Vm.ss_nil)
    (Vm.ss_cons (Vm.st_ite (Vm.t_cmp ⟨rfl, hr.un, rfl⟩ (ha := Vm.s_var) (hb := Vm.s_str))
    (Vm.ss_cons (Vm.st_ret (Vm.s_call G.c1 hr hg (Vm.r_cons Vm.s_var (Vm.r_cons Vm.s_int (Vm.r_cons (Vm.s_glo rfl (pe_glob (v := V.int 99) rfl gh_MOST_NOTE ⟨_, rfl⟩) fun _ _ => .int _) Vm.r_nil)))))
    Vm.ss_nil)
    Vm.ss_nil)
    (Vm.ss_cons (Vm.st_ite (Vm.t_cmp ⟨rfl, hr.un, rfl⟩ (ha := Vm.s_var) (hb := Vm.s_str))
    (Vm.ss_cons (Vm.st_ret (Vm.s_call G.c3 hr hg (Vm.r_cons Vm.s_var (Vm.r_cons (Vm.s_tupc rfl gh_ANSWERS t_ANSWERS (fun _ => (.cons (.str _ (sokB_ok (by decide +kernel))) (.cons (.str _ (sokB_ok (by decide +kernel))) (.cons (.str _ (sokB_ok (by decide +kernel))) .nil)))) rfl) Vm.r_nil))))
    Vm.ss_nil)
    Vm.ss_nil)
    (Vm.ss_cons (Vm.st_ite (Vm.t_cmp ⟨rfl, hr.un, rfl⟩ (ha := Vm.s_var) (hb := Vm.s_str))
    (Vm.ss_cons (Vm.st_ret (Vm.s_call G.c3 hr hg (Vm.r_cons Vm.s_var (Vm.r_cons (Vm.s_tupc rfl gh_ENDS t_ENDS (fun _ => (.cons (.str _ (sokB_ok (by decide +kernel))) (.cons (.str _ (sokB_ok (by decide +kernel))) .nil))) rfl) Vm.r_nil))))
    Vm.ss_nil)
    Vm.ss_nil)
    (Vm.ss_cons (Vm.st_ite (Vm.t_cmp ⟨rfl, hr.un, rfl⟩ (ha := Vm.s_var) (hb := Vm.s_str))
    (Vm.ss_cons (Vm.st_ret (Vm.s_call G.c6 hr hg (Vm.r_cons Vm.s_var Vm.r_nil)))
    Vm.ss_nil)
    Vm.ss_nil)
    (Vm.ss_cons (Vm.st_ite (Vm.t_cmp ⟨rfl, hr.un, rfl⟩ (ha := Vm.s_var) (hb := Vm.s_str))
    (Vm.ss_cons (Vm.st_ret (Vm.s_and rfl (Vm.s_call G.c0 hr hg (Vm.r_cons Vm.s_var Vm.r_nil)) (Vm.s_one (Vm.s_cmp ⟨rfl, hr.un, rfl⟩ (ha := Vm.s_var) (hb := Vm.s_int)))))
    Vm.ss_nil)
    Vm.ss_nil)
    (Vm.ss_cons (Vm.st_ret (Vm.s_call G.c4 hr hg (Vm.r_cons Vm.s_var Vm.r_nil)))
    Vm.ss_nil))))))))
theorem ok6 {Pr : Program} {w : World} {K : PySem.W.Frag} {mg : Str → Option Value} {base : Heap} {fs cs xs : List (Nat × Addr)} {k : Nat} {a : Addr} {fd : FuncData} (F : Fun K "is_tree" "is_tree" st6 a fd) (T : Txt w K mg fs cs xs) (G : Cs Pr w K mg base fs cs xs k) : FnG Pr w K mg base (k + 1) a fd ["thing"] (SpV (LkX K w fs cs xs fln) P (k + 1) 6) := by
  obtain ⟨t_LETTERS, gh_LETTERS⟩ := T.g_LETTERS
  obtain ⟨t_MOST_LETTERS, gh_MOST_LETTERS⟩ := T.g_MOST_LETTERS
  obtain ⟨u_ENDS, gh_ENDS, t_ENDS⟩ := T.g_ENDS
  obtain ⟨u_ANSWERS, gh_ANSWERS, t_ANSWERS⟩ := T.g_ANSWERS
  obtain ⟨t_MOST_NOTE, gh_MOST_NOTE⟩ := T.g_MOST_NOTE
  obtain ⟨t_MOST_TURNS, gh_MOST_TURNS⟩ := T.g_MOST_TURNS
  obtain ⟨u_FORMS, gh_FORMS, t_FORMS⟩ := T.g_FORMS
  obtain ⟨t_FIGURES, gh_FIGURES⟩ := T.g_FIGURES
  obtain ⟨t_MOST_FIGURES, gh_MOST_FIGURES⟩ := T.g_MOST_FIGURES
  obtain ⟨t_DEEPEST, gh_DEEPEST⟩ := T.g_DEEPEST
  exact def_ok F sc6 (fv := f6) rfl rfl rfl fun cdv A outer s H hr hg =>
    (Vm.ss_cons (Vm.st_ite (PW.pt (Vm.t_or (Vm.t_nt (Vm.t_val rfl (Vm.s_bfB (Vm.c_isi rfl fun _ => rfl) T.n_isinstance (Vm.r_cons Vm.s_var (Vm.r_cons (Vm.s_glo rfl (pe_bltn (v := V.ty "tuple") (u := Value.type "tuple") rfl T.n_tuple (by kernel_rfl) rfl) fun _ _ => rfl) Vm.r_nil))))) (Vm.t_or (Vm.t_cmp ⟨rfl, hr.un, rfl⟩ (ha := (Vm.s_bfB (Vm.c_len rfl) T.n_len (Vm.r_cons Vm.s_var Vm.r_nil))) (hb := Vm.s_int)) (Vm.t_or1 (Vm.t_nt (Vm.t_val rfl (Vm.s_bfB (Vm.c_isi rfl fun _ => rfl) T.n_isinstance (Vm.r_cons (Vm.s_sub ⟨rfl, hr.un, rfl⟩ Vm.s_var Vm.s_int) (Vm.r_cons (Vm.s_glo rfl (pe_bltn (v := V.ty "str") (u := Value.type "str") rfl T.n_str (by kernel_rfl) rfl) fun _ _ => rfl) Vm.r_nil)))))))))
    (Vm.ss_cons (Vm.st_ret Vm.s_bl)
    Vm.ss_nil)
    Vm.ss_nil)
    (Vm.ss_cons (Vm.st_nm (Vm.s_getG ⟨rfl, hr.un, rfl⟩ rfl gh_FORMS t_FORMS rfl (Vm.s_sub ⟨rfl, hr.un, rfl⟩ Vm.s_var Vm.s_int)) (pg_name (i := 1) sc6.nd rfl (by first | exact Or.inl rfl | exact Or.inr rfl)))
    (Vm.ss_cons (Vm.st_ite (PW.pt (Vm.t_or (Vm.t_cmp ⟨rfl, hr.un, rfl⟩ (ha := Vm.s_var) (hb := Vm.s_non)) (Vm.t_or1 (Vm.t_cmp ⟨rfl, hr.un, rfl⟩ (ha := (Vm.s_bfB (Vm.c_len rfl) T.n_len (Vm.r_cons Vm.s_var Vm.r_nil))) (hb := (Vm.s_bin ⟨rfl, hr.un, rfl⟩ (ha := Vm.s_int) (hb := (Vm.s_bfB (Vm.c_len rfl) T.n_len (Vm.r_cons Vm.s_var Vm.r_nil)))))))))
    (Vm.ss_cons (Vm.st_ret Vm.s_bl)
    Vm.ss_nil)
    Vm.ss_nil)
    (Vm.ss_cons (Vm.st_ite (Vm.t_nt (Vm.t_val rfl (Vm.s_bfB (Vm.c_all rfl rfl) T.n_all (Vm.r_cons (Vm.s_lc rfl sc6.nd (Vm.i_zip rfl Vm.s_var (Vm.s_sli rfl Vm.s_var (Vm.o_some Vm.s_int) Vm.o_none) T.n_zip) (blkOk_by (own := [("sign", 2), ("part", 3)]) (by kernel_rfl)) rfl (fun _ _ _ _ _ => (Vm.gb_y (Vm.gb_tup rfl rfl (Vm.gb_cons (Vm.gb_nm0 (pg_name (i := 2) sc6.nd rfl (by first | exact Or.inl rfl | exact Or.inr rfl))) (Vm.gb_cons (Vm.gb_nm0 (pg_name (i := 3) sc6.nd rfl (by first | exact Or.inl rfl | exact Or.inr rfl))) Vm.gb_nil))))) (fun _ _ _ _ _ => Vm.c_none) (fun _ _ _ _ _ => (Vm.s_call G.c5 hr hg (Vm.r_cons Vm.s_var (Vm.r_cons Vm.s_var Vm.r_nil))))) Vm.r_nil))))
    (Vm.ss_cons (Vm.st_ret Vm.s_bl)
    Vm.ss_nil)
    Vm.ss_nil)
    (Vm.ss_cons (Vm.st_ret (Vm.s_or rfl (Vm.s_cmp ⟨rfl, hr.un, rfl⟩ (ha := (Vm.s_sub ⟨rfl, hr.un, rfl⟩ Vm.s_var Vm.s_int)) (hb := Vm.s_str)) (Vm.s_one (Vm.s_cmp ⟨rfl, hr.un, rfl⟩ (ha := (Vm.s_sub ⟨rfl, hr.un, rfl⟩ Vm.s_var Vm.s_int)) (hb := (Vm.s_bfB (Vm.c_len rfl) T.n_len (Vm.r_cons (Vm.s_sub ⟨rfl, hr.un, rfl⟩ Vm.s_var Vm.s_int) Vm.r_nil)))))))
    Vm.ss_nil)))))
theorem okX7 {Pr : Program} {w : World} {K : PySem.W.Frag} {mg : Str → Option Value} {base : Heap} {fs cs xs : List (Nat × Addr)} {k : Nat} {a : Addr} {fd : FuncData} (F : Fun K "word_at" "word_at" st7 a fd) (T : Txt w K mg fs cs xs) (G : Cs Pr w K mg base fs cs xs k) : FnX Pr w K mg base (k + 1) a fd ["words", "at"] (SpX (LkX K w fs cs xs fln) P (k + 1) 7) := by
  obtain ⟨t_LETTERS, gh_LETTERS⟩ := T.g_LETTERS
  obtain ⟨t_MOST_LETTERS, gh_MOST_LETTERS⟩ := T.g_MOST_LETTERS
  obtain ⟨u_ENDS, gh_ENDS, t_ENDS⟩ := T.g_ENDS
  obtain ⟨u_ANSWERS, gh_ANSWERS, t_ANSWERS⟩ := T.g_ANSWERS
  obtain ⟨t_MOST_NOTE, gh_MOST_NOTE⟩ := T.g_MOST_NOTE
  obtain ⟨t_MOST_TURNS, gh_MOST_TURNS⟩ := T.g_MOST_TURNS
  obtain ⟨u_FORMS, gh_FORMS, t_FORMS⟩ := T.g_FORMS
  obtain ⟨t_FIGURES, gh_FIGURES⟩ := T.g_FIGURES
  obtain ⟨t_MOST_FIGURES, gh_MOST_FIGURES⟩ := T.g_MOST_FIGURES
  obtain ⟨t_DEEPEST, gh_DEEPEST⟩ := T.g_DEEPEST
  exact def_okX F sc7 (fv := f7) rfl rfl rfl fun cdv A outer s H E hr hg =>
    (Vm.ss_cons (Vm.st_ite (Vm.t_cmp ⟨rfl, hr.un, rfl⟩ (ha := Vm.s_var) (hb := (Vm.s_bfB (Vm.c_len rfl) T.n_len (Vm.r_cons Vm.s_var Vm.r_nil))))
    (Vm.ss_cons (Vm.st_raisX T.e_NoText (fun _ => rfl) (takes_of rfl rfl rfl rfl))
    Vm.ss_nil)
    Vm.ss_nil)
    (Vm.ss_cons (Vm.st_ret (Vm.s_sub ⟨rfl, hr.un, rfl⟩ Vm.s_var Vm.s_var))
    Vm.ss_nil))
theorem ok7 {Pr : Program} {w : World} {K : PySem.W.Frag} {mg : Str → Option Value} {base : Heap} {fs cs xs : List (Nat × Addr)} {k : Nat} {a : Addr} {fd : FuncData} (F : Fun K "word_at" "word_at" st7 a fd) (T : Txt w K mg fs cs xs) (G : Cs Pr w K mg base fs cs xs k) : FnG Pr w K mg base (k + 1) a fd ["words", "at"] (SpV (LkX K w fs cs xs fln) P (k + 1) 7) := (okX7 F T G).toG
theorem okX8 {Pr : Program} {w : World} {K : PySem.W.Frag} {mg : Str → Option Value} {base : Heap} {fs cs xs : List (Nat × Addr)} {k : Nat} {a : Addr} {fd : FuncData} (F : Fun K "number_at" "number_at" st8 a fd) (T : Txt w K mg fs cs xs) (G : Cs Pr w K mg base fs cs xs k) : FnX Pr w K mg base (k + 1) a fd ["words", "at"] (SpX (LkX K w fs cs xs fln) P (k + 1) 8) := by
  obtain ⟨t_LETTERS, gh_LETTERS⟩ := T.g_LETTERS
  obtain ⟨t_MOST_LETTERS, gh_MOST_LETTERS⟩ := T.g_MOST_LETTERS
  obtain ⟨u_ENDS, gh_ENDS, t_ENDS⟩ := T.g_ENDS
  obtain ⟨u_ANSWERS, gh_ANSWERS, t_ANSWERS⟩ := T.g_ANSWERS
  obtain ⟨t_MOST_NOTE, gh_MOST_NOTE⟩ := T.g_MOST_NOTE
  obtain ⟨t_MOST_TURNS, gh_MOST_TURNS⟩ := T.g_MOST_TURNS
  obtain ⟨u_FORMS, gh_FORMS, t_FORMS⟩ := T.g_FORMS
  obtain ⟨t_FIGURES, gh_FIGURES⟩ := T.g_FIGURES
  obtain ⟨t_MOST_FIGURES, gh_MOST_FIGURES⟩ := T.g_MOST_FIGURES
  obtain ⟨t_DEEPEST, gh_DEEPEST⟩ := T.g_DEEPEST
  exact def_okX F sc8 (fv := f8) rfl rfl rfl fun cdv A outer s H E hr hg =>
    (Vm.ss_cons (Vm.st_xnm (Vm.s_callX (takes_of rfl rfl rfl rfl) G.x7 hr hg (Vm.r_cons Vm.s_var (Vm.r_cons Vm.s_var Vm.r_nil))) (pg_name (i := 2) sc8.nd rfl (by first | exact Or.inl rfl | exact Or.inr rfl)))
    (Vm.ss_cons (Vm.st_ite (PW.pt (Vm.t_or (Vm.t_nt (Vm.t_cmp2 ⟨rfl, hr.un, rfl⟩ (ha := Vm.s_int) (hb := (Vm.s_bfB (Vm.c_len rfl) T.n_len (Vm.r_cons Vm.s_var Vm.r_nil))) (hc := (Vm.s_glo rfl (pe_glob (v := V.int 9) rfl gh_MOST_FIGURES ⟨_, rfl⟩) fun _ _ => .int _)))) (Vm.t_or1 (Vm.t_nt (Vm.t_val rfl (Vm.s_bfB (Vm.c_all rfl rfl) T.n_all (Vm.r_cons (Vm.s_lc rfl sc8.nd (Vm.i_e rfl Vm.s_var) (blkOk_by (own := [("sign", 3)]) (by kernel_rfl)) rfl (fun _ _ _ _ _ => (Vm.gb_x (pg_name (i := 3) sc8.nd rfl (by first | exact Or.inl rfl | exact Or.inr rfl)))) (fun _ _ _ _ _ => Vm.c_none) (fun _ _ _ _ _ => (Vm.s_cmp ⟨rfl, hr.un, rfl⟩ (ha := Vm.s_var) (hb := (Vm.s_glo rfl (pe_glob (v := V.str ⟨#[48, 49, 50, 51, 52, 53, 54, 55, 56, 57]⟩) rfl gh_FIGURES ⟨_, rfl⟩) fun _ _ => .str _ (sokB_ok (by decide +kernel))))))) Vm.r_nil)))))))
    (Vm.ss_cons (Vm.st_raisX T.e_NoText (fun _ => rfl) (takes_of rfl rfl rfl rfl))
    Vm.ss_nil)
    Vm.ss_nil)
    (Vm.ss_cons (Vm.st_ite (PW.pt (Vm.t_and (Vm.t_cmp ⟨rfl, hr.un, rfl⟩ (ha := (Vm.s_sub ⟨rfl, hr.un, rfl⟩ Vm.s_var Vm.s_int)) (hb := Vm.s_str)) (Vm.t_and1 (Vm.t_cmp ⟨rfl, hr.un, rfl⟩ (ha := Vm.s_var) (hb := Vm.s_str)))))
    (Vm.ss_cons (Vm.st_raisX T.e_NoText (fun _ => rfl) (takes_of rfl rfl rfl rfl))
    Vm.ss_nil)
    Vm.ss_nil)
    (Vm.ss_cons (Vm.st_ret (Vm.s_bfT Vm.c_int T.n_int (Vm.r_cons Vm.s_var Vm.r_nil)))
    Vm.ss_nil))))
theorem ok8 {Pr : Program} {w : World} {K : PySem.W.Frag} {mg : Str → Option Value} {base : Heap} {fs cs xs : List (Nat × Addr)} {k : Nat} {a : Addr} {fd : FuncData} (F : Fun K "number_at" "number_at" st8 a fd) (T : Txt w K mg fs cs xs) (G : Cs Pr w K mg base fs cs xs k) : FnG Pr w K mg base (k + 1) a fd ["words", "at"] (SpV (LkX K w fs cs xs fln) P (k + 1) 8) := (okX8 F T G).toG
theorem okX9 {Pr : Program} {w : World} {K : PySem.W.Frag} {mg : Str → Option Value} {base : Heap} {fs cs xs : List (Nat × Addr)} {k : Nat} {a : Addr} {fd : FuncData} (F : Fun K "some_from" "some_from" st9 a fd) (T : Txt w K mg fs cs xs) (G : Cs Pr w K mg base fs cs xs k) : FnX Pr w K mg base (k + 1) a fd ["words", "at", "deep"] (SpX (LkX K w fs cs xs fln) P (k + 1) 9) := by
  obtain ⟨t_LETTERS, gh_LETTERS⟩ := T.g_LETTERS
  obtain ⟨t_MOST_LETTERS, gh_MOST_LETTERS⟩ := T.g_MOST_LETTERS
  obtain ⟨u_ENDS, gh_ENDS, t_ENDS⟩ := T.g_ENDS
  obtain ⟨u_ANSWERS, gh_ANSWERS, t_ANSWERS⟩ := T.g_ANSWERS
  obtain ⟨t_MOST_NOTE, gh_MOST_NOTE⟩ := T.g_MOST_NOTE
  obtain ⟨t_MOST_TURNS, gh_MOST_TURNS⟩ := T.g_MOST_TURNS
  obtain ⟨u_FORMS, gh_FORMS, t_FORMS⟩ := T.g_FORMS
  obtain ⟨t_FIGURES, gh_FIGURES⟩ := T.g_FIGURES
  obtain ⟨t_MOST_FIGURES, gh_MOST_FIGURES⟩ := T.g_MOST_FIGURES
  obtain ⟨t_DEEPEST, gh_DEEPEST⟩ := T.g_DEEPEST
  exact def_okX F sc9 (fv := f9) rfl rfl rfl fun cdv A outer s H E hr hg =>
    (Vm.ss_cons (Vm.st_xnm (Vm.s_callX (takes_of rfl rfl rfl rfl) G.x8 hr hg (Vm.r_cons Vm.s_var (Vm.r_cons Vm.s_var Vm.r_nil))) (pg_name (i := 3) sc9.nd rfl (by first | exact Or.inl rfl | exact Or.inr rfl)))
    (Vm.ss_cons (Vm.st_ite (Vm.t_cmp ⟨rfl, hr.un, rfl⟩ (ha := Vm.s_var) (hb := (Vm.s_bfB (Vm.c_len rfl) T.n_len (Vm.r_cons Vm.s_var Vm.r_nil))))
    (Vm.ss_cons (Vm.st_raisX T.e_NoText (fun _ => rfl) (takes_of rfl rfl rfl rfl))
    Vm.ss_nil)
    Vm.ss_nil)
    (Vm.ss_cons (Vm.st_nm (Vm.s_lst Vm.m_nil) (pg_name (i := 4) sc9.nd rfl (by first | exact Or.inl rfl | exact Or.inr rfl)))
    (Vm.ss_cons (Vm.st_nm (Vm.s_bin ⟨rfl, hr.un, rfl⟩ (ha := Vm.s_var) (hb := Vm.s_int)) (pg_name (i := 5) sc9.nd rfl (by first | exact Or.inl rfl | exact Or.inr rfl)))
    (Vm.ss_cons (Vm.st_for rfl (L2.passes_of rfl) rfl (Vm.i_rng1 (Vm.r_cons Vm.s_var Vm.r_nil) T.n_range) (Vm.gb_x (pg_name (i := 6) sc9.nd rfl (by first | exact Or.inl rfl | exact Or.inr rfl)))
    (Vm.ss_cons (Vm.st_xtp (Vm.s_callX (takes_of rfl rfl rfl rfl) G.x11 hr hg (Vm.r_cons Vm.s_var (Vm.r_cons Vm.s_var (Vm.r_cons Vm.s_var Vm.r_nil)))) (Vm.gb_tup rfl rfl (Vm.gb_cons (Vm.gb_nm0 (pg_name (i := 7) sc9.nd rfl (by first | exact Or.inl rfl | exact Or.inr rfl))) (Vm.gb_cons (Vm.gb_nm0 (pg_name (i := 5) sc9.nd rfl (by first | exact Or.inl rfl | exact Or.inr rfl))) Vm.gb_nil))))
    (Vm.ss_cons (Vm.st_ex (Vm.s_bm (Vm.recv_lst Vm.rv_app) Vm.tyok_v PySem.F.plainAttrs_list PySem.F.slot_list_append PySem.F.type_list_append Vm.mt_app Vm.s_var (Vm.r_cons Vm.s_var Vm.r_nil)))
    Vm.ss_nil)))
    (Vm.ss_cons (Vm.st_ret (Vm.s_tup (Vm.d_cons (Vm.s_bfT (Vm.c_tuple rfl) T.n_tuple (Vm.r_cons Vm.s_var Vm.r_nil)) (Vm.d_cons Vm.s_var Vm.d_nil))))
    Vm.ss_nil))))))
theorem ok9 {Pr : Program} {w : World} {K : PySem.W.Frag} {mg : Str → Option Value} {base : Heap} {fs cs xs : List (Nat × Addr)} {k : Nat} {a : Addr} {fd : FuncData} (F : Fun K "some_from" "some_from" st9 a fd) (T : Txt w K mg fs cs xs) (G : Cs Pr w K mg base fs cs xs k) : FnG Pr w K mg base (k + 1) a fd ["words", "at", "deep"] (SpV (LkX K w fs cs xs fln) P (k + 1) 9) := (okX9 F T G).toG
theorem okX10 {Pr : Program} {w : World} {K : PySem.W.Frag} {mg : Str → Option Value} {base : Heap} {fs cs xs : List (Nat × Addr)} {k : Nat} {a : Addr} {fd : FuncData} (F : Fun K "part_from" "part_from" st10 a fd) (T : Txt w K mg fs cs xs) (G : Cs Pr w K mg base fs cs xs k) : FnX Pr w K mg base (k + 1) a fd ["sign", "words", "at", "deep"] (SpX (LkX K w fs cs xs fln) P (k + 1) 10) := by
  obtain ⟨t_LETTERS, gh_LETTERS⟩ := T.g_LETTERS
  obtain ⟨t_MOST_LETTERS, gh_MOST_LETTERS⟩ := T.g_MOST_LETTERS
  obtain ⟨u_ENDS, gh_ENDS, t_ENDS⟩ := T.g_ENDS
  obtain ⟨u_ANSWERS, gh_ANSWERS, t_ANSWERS⟩ := T.g_ANSWERS
  obtain ⟨t_MOST_NOTE, gh_MOST_NOTE⟩ := T.g_MOST_NOTE
  obtain ⟨t_MOST_TURNS, gh_MOST_TURNS⟩ := T.g_MOST_TURNS
  obtain ⟨u_FORMS, gh_FORMS, t_FORMS⟩ := T.g_FORMS
  obtain ⟨t_FIGURES, gh_FIGURES⟩ := T.g_FIGURES
  obtain ⟨t_MOST_FIGURES, gh_MOST_FIGURES⟩ := T.g_MOST_FIGURES
  obtain ⟨t_DEEPEST, gh_DEEPEST⟩ := T.g_DEEPEST
  exact def_okX F sc10 (fv := f10) rfl rfl rfl fun cdv A outer s H E hr hg =>
    (Vm.ss_cons (Vm.st_ite (Vm.t_cmp ⟨rfl, hr.un, rfl⟩ (ha := Vm.s_var) (hb := Vm.s_str))
    (Vm.ss_cons (Vm.st_xret (Vm.s_callX (takes_of rfl rfl rfl rfl) G.x11 hr hg (Vm.r_cons Vm.s_var (Vm.r_cons Vm.s_var (Vm.r_cons Vm.s_var Vm.r_nil)))))
    Vm.ss_nil)
    Vm.ss_nil)
    (Vm.ss_cons (Vm.st_ite (Vm.t_cmp ⟨rfl, hr.un, rfl⟩ (ha := Vm.s_var) (hb := Vm.s_str))
    (Vm.ss_cons (Vm.st_xret (Vm.s_callX (takes_of rfl rfl rfl rfl) G.x9 hr hg (Vm.r_cons Vm.s_var (Vm.r_cons Vm.s_var (Vm.r_cons Vm.s_var Vm.r_nil)))))
    Vm.ss_nil)
    Vm.ss_nil)
    (Vm.ss_cons (Vm.st_ite (Vm.t_cmp ⟨rfl, hr.un, rfl⟩ (ha := Vm.s_var) (hb := Vm.s_str))
    (Vm.ss_cons (Vm.st_xret (Vm.s_tpX (Vm.s_callX (takes_of rfl rfl rfl rfl) G.x7 hr hg (Vm.r_cons Vm.s_var (Vm.r_cons Vm.s_var Vm.r_nil))) (Vm.d_cons (Vm.s_bin ⟨rfl, hr.un, rfl⟩ (ha := Vm.s_var) (hb := Vm.s_int)) Vm.d_nil)))
    Vm.ss_nil)
    Vm.ss_nil)
    (Vm.ss_cons (Vm.st_xret (Vm.s_tpX (Vm.s_callX (takes_of rfl rfl rfl rfl) G.x8 hr hg (Vm.r_cons Vm.s_var (Vm.r_cons Vm.s_var Vm.r_nil))) (Vm.d_cons (Vm.s_bin ⟨rfl, hr.un, rfl⟩ (ha := Vm.s_var) (hb := Vm.s_int)) Vm.d_nil)))
    Vm.ss_nil))))
theorem ok10 {Pr : Program} {w : World} {K : PySem.W.Frag} {mg : Str → Option Value} {base : Heap} {fs cs xs : List (Nat × Addr)} {k : Nat} {a : Addr} {fd : FuncData} (F : Fun K "part_from" "part_from" st10 a fd) (T : Txt w K mg fs cs xs) (G : Cs Pr w K mg base fs cs xs k) : FnG Pr w K mg base (k + 1) a fd ["sign", "words", "at", "deep"] (SpV (LkX K w fs cs xs fln) P (k + 1) 10) := (okX10 F T G).toG
theorem okX11 {Pr : Program} {w : World} {K : PySem.W.Frag} {mg : Str → Option Value} {base : Heap} {fs cs xs : List (Nat × Addr)} {k : Nat} {a : Addr} {fd : FuncData} (F : Fun K "tree_from" "tree_from" st11 a fd) (T : Txt w K mg fs cs xs) (G : Cs Pr w K mg base fs cs xs k) : FnX Pr w K mg base (k + 1) a fd ["words", "at", "deep"] (SpX (LkX K w fs cs xs fln) P (k + 1) 11) := by
  obtain ⟨t_LETTERS, gh_LETTERS⟩ := T.g_LETTERS
  obtain ⟨t_MOST_LETTERS, gh_MOST_LETTERS⟩ := T.g_MOST_LETTERS
  obtain ⟨u_ENDS, gh_ENDS, t_ENDS⟩ := T.g_ENDS
  obtain ⟨u_ANSWERS, gh_ANSWERS, t_ANSWERS⟩ := T.g_ANSWERS
  obtain ⟨t_MOST_NOTE, gh_MOST_NOTE⟩ := T.g_MOST_NOTE
  obtain ⟨t_MOST_TURNS, gh_MOST_TURNS⟩ := T.g_MOST_TURNS
  obtain ⟨u_FORMS, gh_FORMS, t_FORMS⟩ := T.g_FORMS
  obtain ⟨t_FIGURES, gh_FIGURES⟩ := T.g_FIGURES
  obtain ⟨t_MOST_FIGURES, gh_MOST_FIGURES⟩ := T.g_MOST_FIGURES
  obtain ⟨t_DEEPEST, gh_DEEPEST⟩ := T.g_DEEPEST
  exact def_okX F sc11 (fv := f11) rfl rfl rfl fun cdv A outer s H E hr hg =>
    (Vm.ss_cons (Vm.st_xnm (Vm.s_callX (takes_of rfl rfl rfl rfl) G.x7 hr hg (Vm.r_cons Vm.s_var (Vm.r_cons Vm.s_var Vm.r_nil))) (pg_name (i := 3) sc11.nd rfl (by first | exact Or.inl rfl | exact Or.inr rfl)))
    (Vm.ss_cons (Vm.st_ite (PW.pt (Vm.t_or (Vm.t_notInG rfl gh_FORMS t_FORMS rfl Vm.s_var) (Vm.t_or1 (Vm.t_cmp ⟨rfl, hr.un, rfl⟩ (ha := Vm.s_var) (hb := (Vm.s_glo rfl (pe_glob (v := V.int 100) rfl gh_DEEPEST ⟨_, rfl⟩) fun _ _ => .int _))))))
    (Vm.ss_cons (Vm.st_raisX T.e_NoText (fun _ => rfl) (takes_of rfl rfl rfl rfl))
    Vm.ss_nil)
    Vm.ss_nil)
    (Vm.ss_cons (Vm.st_nm (Vm.s_lst (Vm.m_cons Vm.s_var Vm.m_nil)) (pg_name (i := 4) sc11.nd rfl (by first | exact Or.inl rfl | exact Or.inr rfl)))
    (Vm.ss_cons (Vm.st_nm (Vm.s_bin ⟨rfl, hr.un, rfl⟩ (ha := Vm.s_var) (hb := Vm.s_int)) (pg_name (i := 5) sc11.nd rfl (by first | exact Or.inl rfl | exact Or.inr rfl)))
    (Vm.ss_cons (Vm.st_for rfl (L2.passes_of rfl) rfl (Vm.i_e rfl (Vm.s_subG rfl gh_FORMS t_FORMS rfl Vm.s_var)) (Vm.gb_x (pg_name (i := 6) sc11.nd rfl (by first | exact Or.inl rfl | exact Or.inr rfl)))
    (Vm.ss_cons (Vm.st_xtp (Vm.s_callX (takes_of rfl rfl rfl rfl) G.x10 hr hg (Vm.r_cons Vm.s_var (Vm.r_cons Vm.s_var (Vm.r_cons Vm.s_var (Vm.r_cons (Vm.s_bin ⟨rfl, hr.un, rfl⟩ (ha := Vm.s_var) (hb := Vm.s_int)) Vm.r_nil))))) (Vm.gb_tup rfl rfl (Vm.gb_cons (Vm.gb_nm0 (pg_name (i := 7) sc11.nd rfl (by first | exact Or.inl rfl | exact Or.inr rfl))) (Vm.gb_cons (Vm.gb_nm0 (pg_name (i := 5) sc11.nd rfl (by first | exact Or.inl rfl | exact Or.inr rfl))) Vm.gb_nil))))
    (Vm.ss_cons (Vm.st_ex (Vm.s_bm (Vm.recv_lst Vm.rv_app) Vm.tyok_v PySem.F.plainAttrs_list PySem.F.slot_list_append PySem.F.type_list_append Vm.mt_app Vm.s_var (Vm.r_cons Vm.s_var Vm.r_nil)))
    Vm.ss_nil)))
    (Vm.ss_cons (Vm.st_ret (Vm.s_tup (Vm.d_cons (Vm.s_bfT (Vm.c_tuple rfl) T.n_tuple (Vm.r_cons Vm.s_var Vm.r_nil)) (Vm.d_cons Vm.s_var Vm.d_nil))))
    Vm.ss_nil))))))
theorem ok11 {Pr : Program} {w : World} {K : PySem.W.Frag} {mg : Str → Option Value} {base : Heap} {fs cs xs : List (Nat × Addr)} {k : Nat} {a : Addr} {fd : FuncData} (F : Fun K "tree_from" "tree_from" st11 a fd) (T : Txt w K mg fs cs xs) (G : Cs Pr w K mg base fs cs xs k) : FnG Pr w K mg base (k + 1) a fd ["words", "at", "deep"] (SpV (LkX K w fs cs xs fln) P (k + 1) 11) := (okX11 F T G).toG
theorem okX12 {Pr : Program} {w : World} {K : PySem.W.Frag} {mg : Str → Option Value} {base : Heap} {fs cs xs : List (Nat × Addr)} {k : Nat} {a : Addr} {fd : FuncData} (F : Fun K "read_tree" "read_tree" st12 a fd) (T : Txt w K mg fs cs xs) (G : Cs Pr w K mg base fs cs xs k) : FnX Pr w K mg base (k + 1) a fd ["text"] (SpX (LkX K w fs cs xs fln) P (k + 1) 12) := by
  obtain ⟨t_LETTERS, gh_LETTERS⟩ := T.g_LETTERS
  obtain ⟨t_MOST_LETTERS, gh_MOST_LETTERS⟩ := T.g_MOST_LETTERS
  obtain ⟨u_ENDS, gh_ENDS, t_ENDS⟩ := T.g_ENDS
  obtain ⟨u_ANSWERS, gh_ANSWERS, t_ANSWERS⟩ := T.g_ANSWERS
  obtain ⟨t_MOST_NOTE, gh_MOST_NOTE⟩ := T.g_MOST_NOTE
  obtain ⟨t_MOST_TURNS, gh_MOST_TURNS⟩ := T.g_MOST_TURNS
  obtain ⟨u_FORMS, gh_FORMS, t_FORMS⟩ := T.g_FORMS
  obtain ⟨t_FIGURES, gh_FIGURES⟩ := T.g_FIGURES
  obtain ⟨t_MOST_FIGURES, gh_MOST_FIGURES⟩ := T.g_MOST_FIGURES
  obtain ⟨t_DEEPEST, gh_DEEPEST⟩ := T.g_DEEPEST
  exact def_okX F sc12 (fv := f12) rfl rfl rfl fun cdv A outer s H E hr hg =>
    (Vm.ss_cons (Vm.st_ite (Vm.t_nt (Vm.t_val rfl (Vm.s_bfB (Vm.c_isi rfl fun _ => rfl) T.n_isinstance (Vm.r_cons Vm.s_var (Vm.r_cons (Vm.s_glo rfl (pe_bltn (v := V.ty "str") (u := Value.type "str") rfl T.n_str (by kernel_rfl) rfl) fun _ _ => rfl) Vm.r_nil)))))
    (Vm.ss_cons (Vm.st_raisX T.e_NoText (fun _ => rfl) (takes_of rfl rfl rfl rfl))
    Vm.ss_nil)
    Vm.ss_nil)
    (Vm.ss_cons (Vm.st_nm (Vm.s_bm (Vm.recv_str Vm.rv_split) Vm.tyok_v PySem.F.plainAttrs_str PySem.F.slot_str_split PySem.F.type_str_split Vm.mt_split' Vm.s_var (Vm.r_cons Vm.s_str Vm.r_nil)) (pg_name (i := 1) sc12.nd rfl (by first | exact Or.inl rfl | exact Or.inr rfl)))
    (Vm.ss_cons (Vm.st_xtp (Vm.s_callX (takes_of rfl rfl rfl rfl) G.x11 hr hg (Vm.r_cons Vm.s_var (Vm.r_cons Vm.s_int (Vm.r_cons Vm.s_int Vm.r_nil)))) (Vm.gb_tup rfl rfl (Vm.gb_cons (Vm.gb_nm0 (pg_name (i := 2) sc12.nd rfl (by first | exact Or.inl rfl | exact Or.inr rfl))) (Vm.gb_cons (Vm.gb_nm0 (pg_name (i := 3) sc12.nd rfl (by first | exact Or.inl rfl | exact Or.inr rfl))) Vm.gb_nil))))
    (Vm.ss_cons (Vm.st_ite (PW.pt (Vm.t_or (Vm.t_cmp ⟨rfl, hr.un, rfl⟩ (ha := Vm.s_var) (hb := (Vm.s_bfB (Vm.c_len rfl) T.n_len (Vm.r_cons Vm.s_var Vm.r_nil)))) (Vm.t_or1 (Vm.t_nt (Vm.t_val rfl (Vm.s_call G.c6 hr hg (Vm.r_cons Vm.s_var Vm.r_nil)))))))
    (Vm.ss_cons (Vm.st_raisX T.e_NoText (fun _ => rfl) (takes_of rfl rfl rfl rfl))
    Vm.ss_nil)
    Vm.ss_nil)
    (Vm.ss_cons (Vm.st_ret Vm.s_var)
    Vm.ss_nil)))))
theorem ok12 {Pr : Program} {w : World} {K : PySem.W.Frag} {mg : Str → Option Value} {base : Heap} {fs cs xs : List (Nat × Addr)} {k : Nat} {a : Addr} {fd : FuncData} (F : Fun K "read_tree" "read_tree" st12 a fd) (T : Txt w K mg fs cs xs) (G : Cs Pr w K mg base fs cs xs k) : FnG Pr w K mg base (k + 1) a fd ["text"] (SpV (LkX K w fs cs xs fln) P (k + 1) 12) := (okX12 F T G).toG
theorem ok13 {Pr : Program} {w : World} {K : PySem.W.Frag} {mg : Str → Option Value} {base : Heap} {fs cs xs : List (Nat × Addr)} {k : Nat} {a : Addr} {fd : FuncData} (F : Fun K "_law_deck" "_law_deck" st13 a fd) (T : Txt w K mg fs cs xs) (G : Cs Pr w K mg base fs cs xs k) : FnG Pr w K mg base (k + 1) a fd ["_law_script"] (SpV (LkX K w fs cs xs fln) P (k + 1) 13) := by
  obtain ⟨t_LETTERS, gh_LETTERS⟩ := T.g_LETTERS
  obtain ⟨t_MOST_LETTERS, gh_MOST_LETTERS⟩ := T.g_MOST_LETTERS
  obtain ⟨u_ENDS, gh_ENDS, t_ENDS⟩ := T.g_ENDS
  obtain ⟨u_ANSWERS, gh_ANSWERS, t_ANSWERS⟩ := T.g_ANSWERS
  obtain ⟨t_MOST_NOTE, gh_MOST_NOTE⟩ := T.g_MOST_NOTE
  obtain ⟨t_MOST_TURNS, gh_MOST_TURNS⟩ := T.g_MOST_TURNS
  obtain ⟨u_FORMS, gh_FORMS, t_FORMS⟩ := T.g_FORMS
  obtain ⟨t_FIGURES, gh_FIGURES⟩ := T.g_FIGURES
  obtain ⟨t_MOST_FIGURES, gh_MOST_FIGURES⟩ := T.g_MOST_FIGURES
  obtain ⟨t_DEEPEST, gh_DEEPEST⟩ := T.g_DEEPEST
  exact def_ok F sc13 (fv := f13) rfl rfl rfl fun cdv A outer s H hr hg =>
    (Vm.ss_cons (Vm.st_nm (Vm.s_bfT (Vm.c_list rfl) T.n_list (Vm.r_cons (Vm.s_sli rfl Vm.s_var Vm.o_none (Vm.o_some Vm.s_int)) Vm.r_nil)) (pg_name (i := 1) sc13.nd rfl (by first | exact Or.inl rfl | exact Or.inr rfl)))
    (Vm.ss_cons (Vm.st_ret (Vm.s_lst (Vm.m_cons (Vm.s_rev rfl Vm.s_var) (Vm.m_cons (Vm.s_bin ⟨rfl, hr.un, rfl⟩ (ha := (Vm.s_bin ⟨rfl, hr.un, rfl⟩ (ha := (Vm.s_bfB (Vm.c_sum rfl rfl) T.n_sum (Vm.r_cons Vm.s_var Vm.r_nil))) (hb := Vm.s_int))) (hb := (Vm.s_bin ⟨rfl, hr.un, rfl⟩ (ha := Vm.s_int) (hb := (Vm.s_bfB (Vm.c_len rfl) T.n_len (Vm.r_cons Vm.s_var Vm.r_nil)))))) (Vm.m_cons Vm.s_int Vm.m_nil)))))
    Vm.ss_nil))
theorem ok14 {Pr : Program} {w : World} {K : PySem.W.Frag} {mg : Str → Option Value} {base : Heap} {fs cs xs : List (Nat × Addr)} {k : Nat} {a : Addr} {fd : FuncData} (F : Fun K "_law_draw" "_law_draw" st14 a fd) (T : Txt w K mg fs cs xs) (G : Cs Pr w K mg base fs cs xs k) : FnG Pr w K mg base (k + 1) a fd ["_law_deck_here", "_law_most"] (SpV (LkX K w fs cs xs fln) P (k + 1) 14) := by
  obtain ⟨t_LETTERS, gh_LETTERS⟩ := T.g_LETTERS
  obtain ⟨t_MOST_LETTERS, gh_MOST_LETTERS⟩ := T.g_MOST_LETTERS
  obtain ⟨u_ENDS, gh_ENDS, t_ENDS⟩ := T.g_ENDS
  obtain ⟨u_ANSWERS, gh_ANSWERS, t_ANSWERS⟩ := T.g_ANSWERS
  obtain ⟨t_MOST_NOTE, gh_MOST_NOTE⟩ := T.g_MOST_NOTE
  obtain ⟨t_MOST_TURNS, gh_MOST_TURNS⟩ := T.g_MOST_TURNS
  obtain ⟨u_FORMS, gh_FORMS, t_FORMS⟩ := T.g_FORMS
  obtain ⟨t_FIGURES, gh_FIGURES⟩ := T.g_FIGURES
  obtain ⟨t_MOST_FIGURES, gh_MOST_FIGURES⟩ := T.g_MOST_FIGURES
  obtain ⟨t_DEEPEST, gh_DEEPEST⟩ := T.g_DEEPEST
  exact def_ok F sc14 (fv := f14) rfl rfl rfl fun cdv A outer s H hr hg =>
    (Vm.ss_cons (Vm.st_subO (hu1 hr) (Vm.s_bin ⟨rfl, hr.un, rfl⟩ (ha := (Vm.s_sub ⟨rfl, hr.un, rfl⟩ Vm.s_var Vm.s_int)) (hb := Vm.s_int)) (pg_sub Vm.s_var Vm.s_int set_list) (pg_sub Vm.s_var Vm.s_int (set_dictN (hu1 hr))) (pg_sub Vm.s_var Vm.s_int (set_N ⟨rfl, hr.un, rfl⟩)))
    (Vm.ss_cons (Vm.st_nm (Vm.s_sub ⟨rfl, hr.un, rfl⟩ Vm.s_var Vm.s_int) (pg_name (i := 2) sc14.nd rfl (by first | exact Or.inl rfl | exact Or.inr rfl)))
    (Vm.ss_cons (Vm.st_ite (Vm.t_cmp ⟨rfl, hr.un, rfl⟩ (ha := (Vm.s_sub ⟨rfl, hr.un, rfl⟩ Vm.s_var Vm.s_int)) (hb := (Vm.s_lst Vm.m_nil)))
    (Vm.ss_cons (Vm.st_nm (Vm.s_bm0 (Vm.recv_lst Vm.rv_pop) Vm.tyok_v PySem.F.plainAttrs_list PySem.F.slot_list_pop PySem.F.type_list_pop Vm.mt_pop' (Vm.s_sub ⟨rfl, hr.un, rfl⟩ Vm.s_var Vm.s_int)) (pg_name (i := 2) sc14.nd rfl (by first | exact Or.inl rfl | exact Or.inr rfl)))
    (Vm.ss_cons (Vm.st_ite (Vm.t_cmp ⟨rfl, hr.un, rfl⟩ (ha := Vm.s_var) (hb := (Vm.s_bin ⟨rfl, hr.un, rfl⟩ (ha := Vm.s_int) (hb := Vm.s_int))))
    (Vm.ss_cons (Vm.st_ex (Vm.s_bm (Vm.recv_lst Vm.rv_app) Vm.tyok_v PySem.F.plainAttrs_list PySem.F.slot_list_append PySem.F.type_list_append Vm.mt_app (Vm.s_sub ⟨rfl, hr.un, rfl⟩ Vm.s_var Vm.s_int) (Vm.r_cons (Vm.s_bin ⟨rfl, hr.un, rfl⟩ (ha := Vm.s_var) (hb := Vm.s_var)) Vm.r_nil)))
    (Vm.ss_cons (Vm.st_ret (Vm.s_bin ⟨rfl, hr.un, rfl⟩ (ha := Vm.s_var) (hb := Vm.s_var)))
    Vm.ss_nil))
    Vm.ss_nil)
    Vm.ss_nil))
    Vm.ss_nil)
    (Vm.ss_cons (Vm.st_nm (Vm.s_bin ⟨rfl, hr.un, rfl⟩ (ha := (Vm.s_bin ⟨rfl, hr.un, rfl⟩ (ha := (Vm.s_bin ⟨rfl, hr.un, rfl⟩ (ha := (Vm.s_bin ⟨rfl, hr.un, rfl⟩ (ha := (Vm.s_bin ⟨rfl, hr.un, rfl⟩ (ha := Vm.s_var) (hb := Vm.s_int))) (hb := (Vm.s_bin ⟨rfl, hr.un, rfl⟩ (ha := (Vm.s_bin ⟨rfl, hr.un, rfl⟩ (ha := Vm.s_int) (hb := (Vm.s_sub ⟨rfl, hr.un, rfl⟩ Vm.s_var Vm.s_int)))) (hb := (Vm.s_sub ⟨rfl, hr.un, rfl⟩ Vm.s_var Vm.s_int)))))) (hb := Vm.s_int))) (hb := Vm.s_int))) (hb := Vm.s_int)) (pg_name (i := 3) sc14.nd rfl (by first | exact Or.inl rfl | exact Or.inr rfl)))
    (Vm.ss_cons (Vm.st_nm (Vm.s_bin ⟨rfl, hr.un, rfl⟩ (ha := (Vm.s_bin ⟨rfl, hr.un, rfl⟩ (ha := (Vm.s_bin ⟨rfl, hr.un, rfl⟩ (ha := (Vm.s_bin ⟨rfl, hr.un, rfl⟩ (ha := Vm.s_var) (hb := Vm.s_var))) (hb := (Vm.s_bin ⟨rfl, hr.un, rfl⟩ (ha := Vm.s_int) (hb := Vm.s_var))))) (hb := (Vm.s_sub ⟨rfl, hr.un, rfl⟩ Vm.s_var Vm.s_int)))) (hb := Vm.s_int)) (pg_name (i := 3) sc14.nd rfl (by first | exact Or.inl rfl | exact Or.inr rfl)))
    (Vm.ss_cons (Vm.st_ret (Vm.s_bin ⟨rfl, hr.un, rfl⟩ (ha := (Vm.s_bin ⟨rfl, hr.un, rfl⟩ (ha := (Vm.s_bin ⟨rfl, hr.un, rfl⟩ (ha := (Vm.s_bin ⟨rfl, hr.un, rfl⟩ (ha := Vm.s_var) (hb := (Vm.s_bin ⟨rfl, hr.un, rfl⟩ (ha := (Vm.s_bin ⟨rfl, hr.un, rfl⟩ (ha := Vm.s_var) (hb := Vm.s_int))) (hb := Vm.s_int))))) (hb := Vm.s_int))) (hb := Vm.s_int))) (hb := Vm.s_var)))
    Vm.ss_nil))))))
theorem ok15 {Pr : Program} {w : World} {K : PySem.W.Frag} {mg : Str → Option Value} {base : Heap} {fs cs xs : List (Nat × Addr)} {k : Nat} {a : Addr} {fd : FuncData} (F : Fun K "_law_some_text" "_law_some_text" st15 a fd) (T : Txt w K mg fs cs xs) (G : Cs Pr w K mg base fs cs xs k) : FnG Pr w K mg base (k + 1) a fd ["_law_deck_here"] (SpV (LkX K w fs cs xs fln) P (k + 1) 15) := by
  obtain ⟨t_LETTERS, gh_LETTERS⟩ := T.g_LETTERS
  obtain ⟨t_MOST_LETTERS, gh_MOST_LETTERS⟩ := T.g_MOST_LETTERS
  obtain ⟨u_ENDS, gh_ENDS, t_ENDS⟩ := T.g_ENDS
  obtain ⟨u_ANSWERS, gh_ANSWERS, t_ANSWERS⟩ := T.g_ANSWERS
  obtain ⟨t_MOST_NOTE, gh_MOST_NOTE⟩ := T.g_MOST_NOTE
  obtain ⟨t_MOST_TURNS, gh_MOST_TURNS⟩ := T.g_MOST_TURNS
  obtain ⟨u_FORMS, gh_FORMS, t_FORMS⟩ := T.g_FORMS
  obtain ⟨t_FIGURES, gh_FIGURES⟩ := T.g_FIGURES
  obtain ⟨t_MOST_FIGURES, gh_MOST_FIGURES⟩ := T.g_MOST_FIGURES
  obtain ⟨t_DEEPEST, gh_DEEPEST⟩ := T.g_DEEPEST
  exact def_ok F sc15 (fv := f15) rfl rfl rfl fun cdv A outer s H hr hg =>
    (Vm.ss_cons (Vm.st_nm Vm.s_str (pg_name (i := 1) sc15.nd rfl (by first | exact Or.inl rfl | exact Or.inr rfl)))
    (Vm.ss_cons (Vm.st_ret (Vm.s_bm (Vm.recv_str Vm.rv_join) Vm.tyok_v PySem.F.plainAttrs_str PySem.F.slot_str_join PySem.F.type_str_join (Vm.mt_join' rfl) Vm.s_str (Vm.r_cons (Vm.s_lc rfl sc15.nd (Vm.i_rng1 (Vm.r_cons (Vm.s_bin ⟨rfl, hr.un, rfl⟩ (ha := Vm.s_int) (hb := (Vm.s_call G.c14 hr hg (Vm.r_cons Vm.s_var (Vm.r_cons Vm.s_int Vm.r_nil))))) Vm.r_nil) T.n_range) (blkOk_by (own := [("_law_k", 2)]) (by kernel_rfl)) rfl (fun _ _ _ _ _ => (Vm.gb_x (pg_name (i := 2) sc15.nd rfl (by first | exact Or.inl rfl | exact Or.inr rfl)))) (fun _ _ _ _ _ => Vm.c_none) (fun _ _ _ _ _ => (Vm.s_sub ⟨rfl, hr.un, rfl⟩ Vm.s_var (Vm.s_call G.c14 hr hg (Vm.r_cons Vm.s_var (Vm.r_cons (Vm.s_bfB (Vm.c_len rfl) T.n_len (Vm.r_cons Vm.s_var Vm.r_nil)) Vm.r_nil)))))) Vm.r_nil)))
    Vm.ss_nil))
theorem okT16 {Pr : Program} {w : World} {K : PySem.W.Frag} {mg : Str → Option Value} {base : Heap} {fs cs xs : List (Nat × Addr)} {k : Nat} {a : Addr} {fd : FuncData} (F : Fun K "_law_classes" "_law_classes" st16 a fd) (T : Txt w K mg fs cs xs) (G : Cs Pr w K mg base fs cs xs k) : FnT Pr w K mg base (LkX K w fs cs xs fln) P xs (k + 1) a fd ["_law_e"] 16 := by
  obtain ⟨t_LETTERS, gh_LETTERS⟩ := T.g_LETTERS
  obtain ⟨t_MOST_LETTERS, gh_MOST_LETTERS⟩ := T.g_MOST_LETTERS
  obtain ⟨u_ENDS, gh_ENDS, t_ENDS⟩ := T.g_ENDS
  obtain ⟨u_ANSWERS, gh_ANSWERS, t_ANSWERS⟩ := T.g_ANSWERS
  obtain ⟨t_MOST_NOTE, gh_MOST_NOTE⟩ := T.g_MOST_NOTE
  obtain ⟨t_MOST_TURNS, gh_MOST_TURNS⟩ := T.g_MOST_TURNS
  obtain ⟨u_FORMS, gh_FORMS, t_FORMS⟩ := T.g_FORMS
  obtain ⟨t_FIGURES, gh_FIGURES⟩ := T.g_FIGURES
  obtain ⟨t_MOST_FIGURES, gh_MOST_FIGURES⟩ := T.g_MOST_FIGURES
  obtain ⟨t_DEEPEST, gh_DEEPEST⟩ := T.g_DEEPEST
  exact def_okT F sc16 (fv := f16) rfl rfl rfl fun cdv A outer s H n D0 e oe hr hnT hzT hvT =>
    (Vm.ss_cons (Vm.st_nm (Vm.s_lst (Vm.m_cons (Vm.s_xisP1 List.mem_cons_self T.xall hnT hzT hvT T.n_isinstance T.i_NoText) (Vm.m_cons (Vm.s_xisP1 List.mem_cons_self T.xall hnT hzT hvT T.n_isinstance T.i_TooMany) (Vm.m_cons (Vm.s_xisP1 List.mem_cons_self T.xall hnT hzT hvT T.n_isinstance T.i_NoChange) (Vm.m_cons (Vm.s_xisP1 List.mem_cons_self T.xall hnT hzT hvT T.n_isinstance T.i_TooGreat) Vm.m_nil))))) (pg_name (i := 1) sc16.nd rfl (by first | exact Or.inl rfl | exact Or.inr rfl)))
    (Vm.ss_cons (Vm.st_nm (Vm.s_bin ⟨rfl, hr.un, rfl⟩ (ha := Vm.s_var) (hb := (Vm.s_lst (Vm.m_cons (Vm.s_xisP1 List.mem_cons_self T.xall hnT hzT hvT T.n_isinstance T.i_NoName) (Vm.m_cons (Vm.s_xisP1 List.mem_cons_self T.xall hnT hzT hvT T.n_isinstance T.i_Taken) (Vm.m_cons (Vm.s_xisP1 List.mem_cons_self T.xall hnT hzT hvT T.n_isinstance T.i_NoRow) (Vm.m_cons (Vm.s_xisP1 List.mem_cons_self T.xall hnT hzT hvT T.n_isinstance T.i_NoBack) Vm.m_nil))))))) (pg_name (i := 1) sc16.nd rfl (by first | exact Or.inl rfl | exact Or.inr rfl)))
    (Vm.ss_cons (Vm.st_ret (Vm.s_bin ⟨rfl, hr.un, rfl⟩ (ha := Vm.s_var) (hb := (Vm.s_lst (Vm.m_cons (Vm.s_xisP1 List.mem_cons_self T.xall hnT hzT hvT T.n_isinstance T.i_ValueError) Vm.m_nil)))))
    Vm.ss_nil)))
theorem okX17 {Pr : Program} {w : World} {K : PySem.W.Frag} {mg : Str → Option Value} {base : Heap} {fs cs xs : List (Nat × Addr)} {k : Nat} {a : Addr} {fd : FuncData} (F : Fun K "_law_raise" "_law_raise" st17 a fd) (T : Txt w K mg fs cs xs) (G : Cs Pr w K mg base fs cs xs k) : FnX Pr w K mg base (k + 1) a fd ["_law_number", "_law_text"] (SpX (LkX K w fs cs xs fln) P (k + 1) 17) := by
  obtain ⟨t_LETTERS, gh_LETTERS⟩ := T.g_LETTERS
  obtain ⟨t_MOST_LETTERS, gh_MOST_LETTERS⟩ := T.g_MOST_LETTERS
  obtain ⟨u_ENDS, gh_ENDS, t_ENDS⟩ := T.g_ENDS
  obtain ⟨u_ANSWERS, gh_ANSWERS, t_ANSWERS⟩ := T.g_ANSWERS
  obtain ⟨t_MOST_NOTE, gh_MOST_NOTE⟩ := T.g_MOST_NOTE
  obtain ⟨t_MOST_TURNS, gh_MOST_TURNS⟩ := T.g_MOST_TURNS
  obtain ⟨u_FORMS, gh_FORMS, t_FORMS⟩ := T.g_FORMS
  obtain ⟨t_FIGURES, gh_FIGURES⟩ := T.g_FIGURES
  obtain ⟨t_MOST_FIGURES, gh_MOST_FIGURES⟩ := T.g_MOST_FIGURES
  obtain ⟨t_DEEPEST, gh_DEEPEST⟩ := T.g_DEEPEST
  exact def_okX F sc17 (fv := f17) rfl rfl rfl fun cdv A outer s H E hr hg =>
    (Vm.ss_cons (Vm.st_ite (Vm.t_cmp ⟨rfl, hr.un, rfl⟩ (ha := Vm.s_var) (hb := Vm.s_int))
    (Vm.ss_cons (Vm.st_raisA T.e_NoText (fun _ => rfl) (takes_of rfl rfl rfl rfl) (Vm.d_cons Vm.s_var Vm.d_nil))
    Vm.ss_nil)
    Vm.ss_nil)
    (Vm.ss_cons (Vm.st_ite (Vm.t_cmp ⟨rfl, hr.un, rfl⟩ (ha := Vm.s_var) (hb := Vm.s_int))
    (Vm.ss_cons (Vm.st_raisA T.e_TooMany (fun _ => rfl) (takes_of rfl rfl rfl rfl) (Vm.d_cons Vm.s_var Vm.d_nil))
    Vm.ss_nil)
    Vm.ss_nil)
    (Vm.ss_cons (Vm.st_ite (Vm.t_cmp ⟨rfl, hr.un, rfl⟩ (ha := Vm.s_var) (hb := Vm.s_int))
    (Vm.ss_cons (Vm.st_raisA T.e_NoChange (fun _ => rfl) (takes_of rfl rfl rfl rfl) (Vm.d_cons Vm.s_var Vm.d_nil))
    Vm.ss_nil)
    Vm.ss_nil)
    (Vm.ss_cons (Vm.st_ite (Vm.t_cmp ⟨rfl, hr.un, rfl⟩ (ha := Vm.s_var) (hb := Vm.s_int))
    (Vm.ss_cons (Vm.st_raisA T.e_TooGreat (fun _ => rfl) (takes_of rfl rfl rfl rfl) (Vm.d_cons Vm.s_var Vm.d_nil))
    Vm.ss_nil)
    Vm.ss_nil)
    (Vm.ss_cons (Vm.st_ite (Vm.t_cmp ⟨rfl, hr.un, rfl⟩ (ha := Vm.s_var) (hb := Vm.s_int))
    (Vm.ss_cons (Vm.st_raisA T.e_NoName (fun _ => rfl) (takes_of rfl rfl rfl rfl) (Vm.d_cons Vm.s_var Vm.d_nil))
    Vm.ss_nil)
    Vm.ss_nil)
    (Vm.ss_cons (Vm.st_ite (Vm.t_cmp ⟨rfl, hr.un, rfl⟩ (ha := Vm.s_var) (hb := Vm.s_int))
    (Vm.ss_cons (Vm.st_raisA T.e_Taken (fun _ => rfl) (takes_of rfl rfl rfl rfl) (Vm.d_cons Vm.s_var Vm.d_nil))
    Vm.ss_nil)
    Vm.ss_nil)
    (Vm.ss_cons (Vm.st_ite (Vm.t_cmp ⟨rfl, hr.un, rfl⟩ (ha := Vm.s_var) (hb := Vm.s_int))
    (Vm.ss_cons (Vm.st_raisA T.e_NoRow (fun _ => rfl) (takes_of rfl rfl rfl rfl) (Vm.d_cons Vm.s_var Vm.d_nil))
    Vm.ss_nil)
    Vm.ss_nil)
    (Vm.ss_cons (Vm.st_ite (Vm.t_cmp ⟨rfl, hr.un, rfl⟩ (ha := Vm.s_var) (hb := Vm.s_int))
    (Vm.ss_cons (Vm.st_raisA T.e_NoBack (fun _ => rfl) (takes_of rfl rfl rfl rfl) (Vm.d_cons Vm.s_var Vm.d_nil))
    Vm.ss_nil)
    Vm.ss_nil)
    (Vm.ss_cons (Vm.st_ite (Vm.t_cmp ⟨rfl, hr.un, rfl⟩ (ha := Vm.s_var) (hb := Vm.s_int))
    (Vm.ss_cons (Vm.st_raisA T.e_BoughError (fun _ => rfl) (takes_of rfl rfl rfl rfl) (Vm.d_cons Vm.s_var Vm.d_nil))
    Vm.ss_nil)
    Vm.ss_nil)
    (Vm.ss_cons (Vm.st_xex (Vm.s_callX (takes_of rfl rfl rfl rfl) G.x12 hr hg (Vm.r_cons (Vm.s_bin ⟨rfl, hr.un, rfl⟩ (ha := Vm.s_var) (hb := Vm.s_str)) Vm.r_nil)))
    Vm.ss_nil))))))))))
theorem ok17 {Pr : Program} {w : World} {K : PySem.W.Frag} {mg : Str → Option Value} {base : Heap} {fs cs xs : List (Nat × Addr)} {k : Nat} {a : Addr} {fd : FuncData} (F : Fun K "_law_raise" "_law_raise" st17 a fd) (T : Txt w K mg fs cs xs) (G : Cs Pr w K mg base fs cs xs k) : FnG Pr w K mg base (k + 1) a fd ["_law_number", "_law_text"] (SpV (LkX K w fs cs xs fln) P (k + 1) 17) := (okX17 F T G).toG
theorem ok18 {Pr : Program} {w : World} {K : PySem.W.Frag} {mg : Str → Option Value} {base : Heap} {fs cs xs : List (Nat × Addr)} {k : Nat} {a : Addr} {fd : FuncData} (F : Fun K "_law_caught" "_law_caught" st18 a fd) (T : Txt w K mg fs cs xs) (G : Cs Pr w K mg base fs cs xs k) : FnG Pr w K mg base (k + 1) a fd ["_law_number", "_law_text"] (SpV (LkX K w fs cs xs fln) P (k + 1) 18) := by
  obtain ⟨t_LETTERS, gh_LETTERS⟩ := T.g_LETTERS
  obtain ⟨t_MOST_LETTERS, gh_MOST_LETTERS⟩ := T.g_MOST_LETTERS
  obtain ⟨u_ENDS, gh_ENDS, t_ENDS⟩ := T.g_ENDS
  obtain ⟨u_ANSWERS, gh_ANSWERS, t_ANSWERS⟩ := T.g_ANSWERS
  obtain ⟨t_MOST_NOTE, gh_MOST_NOTE⟩ := T.g_MOST_NOTE
  obtain ⟨t_MOST_TURNS, gh_MOST_TURNS⟩ := T.g_MOST_TURNS
  obtain ⟨u_FORMS, gh_FORMS, t_FORMS⟩ := T.g_FORMS
  obtain ⟨t_FIGURES, gh_FIGURES⟩ := T.g_FIGURES
  obtain ⟨t_MOST_FIGURES, gh_MOST_FIGURES⟩ := T.g_MOST_FIGURES
  obtain ⟨t_DEEPEST, gh_DEEPEST⟩ := T.g_DEEPEST
  exact def_ok F sc18 (fv := f18) rfl rfl rfl fun cdv A outer s H hr hg =>
    (Vm.ss_cons (Vm.st_nm (Vm.s_lst Vm.m_nil) (pg_name (i := 2) sc18.nd rfl (by first | exact Or.inl rfl | exact Or.inr rfl)))
    (Vm.ss_cons (Vm.st_tryN T.e_BoughError (fun _ => rfl) rfl takes0 sc18.nd rfl rfl (fun W1 pn1 xe1 tk1 po1 =>
    (Vm.ss_cons (Vm.st_xex (Vm.s_callX tk1 G.x17 hr hg (Vm.r_cons Vm.s_var (Vm.r_cons Vm.s_var Vm.r_nil))))
    Vm.ss_nil)) (fun n1 D1 a1 oe1 pm1 hn1 hz1 hv1 =>
    (Vm.ss_cons (Vm.st_nm (Vm.s_callT G.t16 hr hn1 hz1 hv1 (Vm.r_cons Vm.s_var Vm.r_nil)) (pg_name (i := 2) sc18.nd rfl (by first | exact Or.inl rfl | exact Or.inr rfl)))
    Vm.ss_nil)))
    (Vm.ss_cons (Vm.st_ret Vm.s_var)
    Vm.ss_nil)))
theorem ok19 {Pr : Program} {w : World} {K : PySem.W.Frag} {mg : Str → Option Value} {base : Heap} {fs cs xs : List (Nat × Addr)} {k : Nat} {a : Addr} {fd : FuncData} (F : Fun K "law" "law" st19 a fd) (T : Txt w K mg fs cs xs) (G : Cs Pr w K mg base fs cs xs k) : FnG Pr w K mg base (k + 1) a fd ["_law_script"] (SpV (LkX K w fs cs xs fln) P (k + 1) 19) := by
  obtain ⟨t_LETTERS, gh_LETTERS⟩ := T.g_LETTERS
  obtain ⟨t_MOST_LETTERS, gh_MOST_LETTERS⟩ := T.g_MOST_LETTERS
  obtain ⟨u_ENDS, gh_ENDS, t_ENDS⟩ := T.g_ENDS
  obtain ⟨u_ANSWERS, gh_ANSWERS, t_ANSWERS⟩ := T.g_ANSWERS
  obtain ⟨t_MOST_NOTE, gh_MOST_NOTE⟩ := T.g_MOST_NOTE
  obtain ⟨t_MOST_TURNS, gh_MOST_TURNS⟩ := T.g_MOST_TURNS
  obtain ⟨u_FORMS, gh_FORMS, t_FORMS⟩ := T.g_FORMS
  obtain ⟨t_FIGURES, gh_FIGURES⟩ := T.g_FIGURES
  obtain ⟨t_MOST_FIGURES, gh_MOST_FIGURES⟩ := T.g_MOST_FIGURES
  obtain ⟨t_DEEPEST, gh_DEEPEST⟩ := T.g_DEEPEST
  exact def_ok F sc19 (fv := f19) rfl rfl rfl fun cdv A outer s H hr hg =>
    (Vm.ss_cons (Vm.st_nm (Vm.s_call G.c13 hr hg (Vm.r_cons Vm.s_var Vm.r_nil)) (pg_name (i := 1) sc19.nd rfl (by first | exact Or.inl rfl | exact Or.inr rfl)))
    (Vm.ss_cons (Vm.st_nm (Vm.s_call G.c15 hr hg (Vm.r_cons Vm.s_var Vm.r_nil)) (pg_name (i := 2) sc19.nd rfl (by first | exact Or.inl rfl | exact Or.inr rfl)))
    (Vm.ss_cons (Vm.st_nm (Vm.s_call G.c14 hr hg (Vm.r_cons Vm.s_var (Vm.r_cons Vm.s_int Vm.r_nil))) (pg_name (i := 3) sc19.nd rfl (by first | exact Or.inl rfl | exact Or.inr rfl)))
    (Vm.ss_cons (Vm.st_for rfl PassesOwn.never rfl (Vm.i_rng1 (Vm.r_cons Vm.s_int Vm.r_nil) T.n_range) (Vm.gb_x (pg_name (i := 4) sc19.nd rfl (by first | exact Or.inl rfl | exact Or.inr rfl)))
    (Vm.ss_cons (Vm.st_nm (Vm.s_bin ⟨rfl, hr.un, rfl⟩ (ha := (Vm.s_bin ⟨rfl, hr.un, rfl⟩ (ha := Vm.s_var) (hb := (Vm.s_bin ⟨rfl, hr.un, rfl⟩ (ha := Vm.s_int) (hb := Vm.s_var))))) (hb := Vm.s_int)) (pg_name (i := 5) sc19.nd rfl (by first | exact Or.inl rfl | exact Or.inr rfl)))
    (Vm.ss_cons (Vm.st_nm (Vm.s_bin ⟨rfl, hr.un, rfl⟩ (ha := (Vm.s_lc rfl sc19.nd (Vm.i_rng1 (Vm.r_cons Vm.s_int Vm.r_nil) T.n_range) (blkOk_by (own := [("_law_one", 7)]) (by kernel_rfl)) rfl (fun _ _ _ _ _ => (Vm.gb_x (pg_name (i := 7) sc19.nd rfl (by first | exact Or.inl rfl | exact Or.inr rfl)))) (fun _ _ _ _ _ => Vm.c_none) (fun _ _ _ _ _ => (Vm.s_or rfl (Vm.s_cmp ⟨rfl, hr.un, rfl⟩ (ha := Vm.s_var) (hb := Vm.s_var)) (Vm.s_one (Vm.s_and rfl (Vm.s_cmp ⟨rfl, hr.un, rfl⟩ (ha := Vm.s_var) (hb := Vm.s_int)) (Vm.s_one (Vm.s_cmp ⟨rfl, hr.un, rfl⟩ (ha := Vm.s_var) (hb := Vm.s_int))))))))) (hb := (Vm.s_lst (Vm.m_cons Vm.s_bl Vm.m_nil)))) (pg_name (i := 6) sc19.nd rfl (by first | exact Or.inl rfl | exact Or.inr rfl)))
    (Vm.ss_cons (Vm.st_ite (Vm.t_cmp ⟨rfl, hr.un, rfl⟩ (ha := (Vm.s_call G.c18 hr hg (Vm.r_cons Vm.s_var (Vm.r_cons Vm.s_var Vm.r_nil)))) (hb := Vm.s_var))
    (Vm.ss_cons (Vm.st_ret Vm.s_bl)
    Vm.ss_nil)
    Vm.ss_nil)
    Vm.ss_nil))))
    (Vm.ss_cons (Vm.st_ret Vm.s_bl)
    Vm.ss_nil)))))
end P_k08
end
section
namespace P_k08
open PySem L2 Vm PySem.Spec PyProof.Rows
theorem cs_all {Pr : Program} {w : World} {K : PySem.W.Frag} {mg : Str → Option Value} {base : Heap} {X1 : Addr} {X0 : Addr} {X8 : Addr} {X7 : Addr} {X6 : Addr} {X5 : Addr} {X4 : Addr} {X3 : Addr} {X2 : Addr} {a0 : Addr} {d0 : FuncData} (h0 : mg "is_whole" = some (.ref a0)) (F0 : Fun K "is_whole" "is_whole" st0 a0 d0) (B0 : Binds K d0 ["thing"] []) {a1 : Addr} {d1 : FuncData} (h1 : mg "is_between" = some (.ref a1)) (F1 : Fun K "is_between" "is_between" st1 a1 d1) (B1 : Binds K d1 ["thing", "low", "high"] []) {a2 : Addr} {d2 : FuncData} (h2 : mg "is_name" = some (.ref a2)) (F2 : Fun K "is_name" "is_name" st2 a2 d2) (B2 : Binds K d2 ["thing"] []) {a3 : Addr} {d3 : FuncData} (h3 : mg "is_one_of" = some (.ref a3)) (F3 : Fun K "is_one_of" "is_one_of" st3 a3 d3) (B3 : Binds K d3 ["thing", "texts"] []) {a4 : Addr} {d4 : FuncData} (h4 : mg "are_trees" = some (.ref a4)) (F4 : Fun K "are_trees" "are_trees" st4 a4 d4) (B4 : Binds K d4 ["thing"] []) {a5 : Addr} {d5 : FuncData} (h5 : mg "is_part" = some (.ref a5)) (F5 : Fun K "is_part" "is_part" st5 a5 d5) (B5 : Binds K d5 ["sign", "thing"] []) {a6 : Addr} {d6 : FuncData} (h6 : mg "is_tree" = some (.ref a6)) (F6 : Fun K "is_tree" "is_tree" st6 a6 d6) (B6 : Binds K d6 ["thing"] []) {a7 : Addr} {d7 : FuncData} (h7 : mg "word_at" = some (.ref a7)) (F7 : Fun K "word_at" "word_at" st7 a7 d7) (B7 : Binds K d7 ["words", "at"] []) {a8 : Addr} {d8 : FuncData} (h8 : mg "number_at" = some (.ref a8)) (F8 : Fun K "number_at" "number_at" st8 a8 d8) (B8 : Binds K d8 ["words", "at"] []) {a9 : Addr} {d9 : FuncData} (h9 : mg "some_from" = some (.ref a9)) (F9 : Fun K "some_from" "some_from" st9 a9 d9) (B9 : Binds K d9 ["words", "at", "deep"] []) {a10 : Addr} {d10 : FuncData} (h10 : mg "part_from" = some (.ref a10)) (F10 : Fun K "part_from" "part_from" st10 a10 d10) (B10 : Binds K d10 ["sign", "words", "at", "deep"] []) {a11 : Addr} {d11 : FuncData} (h11 : mg "tree_from" = some (.ref a11)) (F11 : Fun K "tree_from" "tree_from" st11 a11 d11) (B11 : Binds K d11 ["words", "at", "deep"] []) {a12 : Addr} {d12 : FuncData} (h12 : mg "read_tree" = some (.ref a12)) (F12 : Fun K "read_tree" "read_tree" st12 a12 d12) (B12 : Binds K d12 ["text"] []) {a13 : Addr} {d13 : FuncData} (h13 : mg "_law_deck" = some (.ref a13)) (F13 : Fun K "_law_deck" "_law_deck" st13 a13 d13) (B13 : Binds K d13 ["_law_script"] []) {a14 : Addr} {d14 : FuncData} (h14 : mg "_law_draw" = some (.ref a14)) (F14 : Fun K "_law_draw" "_law_draw" st14 a14 d14) (B14 : Binds K d14 ["_law_deck_here", "_law_most"] []) {a15 : Addr} {d15 : FuncData} (h15 : mg "_law_some_text" = some (.ref a15)) (F15 : Fun K "_law_some_text" "_law_some_text" st15 a15 d15) (B15 : Binds K d15 ["_law_deck_here"] []) {a16 : Addr} {d16 : FuncData} (h16 : mg "_law_classes" = some (.ref a16)) (F16 : Fun K "_law_classes" "_law_classes" st16 a16 d16) (B16 : Binds K d16 ["_law_e"] []) {a17 : Addr} {d17 : FuncData} (h17 : mg "_law_raise" = some (.ref a17)) (F17 : Fun K "_law_raise" "_law_raise" st17 a17 d17) (B17 : Binds K d17 ["_law_number", "_law_text"] []) {a18 : Addr} {d18 : FuncData} (h18 : mg "_law_caught" = some (.ref a18)) (F18 : Fun K "_law_caught" "_law_caught" st18 a18 d18) (B18 : Binds K d18 ["_law_number", "_law_text"] []) {a19 : Addr} {d19 : FuncData} (h19 : mg "law" = some (.ref a19)) (F19 : Fun K "law" "law" st19 a19 d19) (B19 : Binds K d19 ["_law_script"] []) (T : Txt w K mg [] [] [(1, X1), (0, X0), (8, X8), (7, X7), (6, X6), (5, X5), (4, X4), (3, X3), (2, X2)])   : ∀ k, Cs Pr w K mg base [] [] [(1, X1), (0, X0), (8, X8), (7, X7), (6, X6), (5, X5), (4, X4), (3, X3), (2, X2)] k
  | 0 => ⟨⟨a0, d0, _, h0, F0.kp, B0, def_zero⟩, ⟨a1, d1, _, h1, F1.kp, B1, def_zero⟩, ⟨a2, d2, _, h2, F2.kp, B2, def_zero⟩, ⟨a3, d3, _, h3, F3.kp, B3, def_zero⟩, ⟨a4, d4, _, h4, F4.kp, B4, def_zero⟩, ⟨a5, d5, _, h5, F5.kp, B5, def_zero⟩, ⟨a6, d6, _, h6, F6.kp, B6, def_zero⟩, ⟨a7, d7, _, h7, F7.kp, B7, def_zero⟩, ⟨a8, d8, _, h8, F8.kp, B8, def_zero⟩, ⟨a9, d9, _, h9, F9.kp, B9, def_zero⟩, ⟨a10, d10, _, h10, F10.kp, B10, def_zero⟩, ⟨a11, d11, _, h11, F11.kp, B11, def_zero⟩, ⟨a12, d12, _, h12, F12.kp, B12, def_zero⟩, ⟨a13, d13, _, h13, F13.kp, B13, def_zero⟩, ⟨a14, d14, _, h14, F14.kp, B14, def_zero⟩, ⟨a15, d15, _, h15, F15.kp, B15, def_zero⟩, ⟨a17, d17, _, h17, F17.kp, B17, def_zero⟩, ⟨a18, d18, _, h18, F18.kp, B18, def_zero⟩, ⟨a19, d19, _, h19, F19.kp, B19, def_zero⟩, ⟨a7, d7, _, h7, F7.kp, B7, def_zeroX⟩, ⟨a11, d11, _, h11, F11.kp, B11, def_zeroX⟩, ⟨a8, d8, _, h8, F8.kp, B8, def_zeroX⟩, ⟨a9, d9, _, h9, F9.kp, B9, def_zeroX⟩, ⟨a10, d10, _, h10, F10.kp, B10, def_zeroX⟩, ⟨a12, d12, _, h12, F12.kp, B12, def_zeroX⟩, ⟨a17, d17, _, h17, F17.kp, B17, def_zeroX⟩, ⟨a16, d16, _, h16, F16.kp, B16, def_zeroT⟩⟩
  | k + 1 => by
    have G : Cs Pr w K mg base [] [] [(1, X1), (0, X0), (8, X8), (7, X7), (6, X6), (5, X5), (4, X4), (3, X3), (2, X2)] k := cs_all h0 F0 B0 h1 F1 B1 h2 F2 B2 h3 F3 B3 h4 F4 B4 h5 F5 B5 h6 F6 B6 h7 F7 B7 h8 F8 B8 h9 F9 B9 h10 F10 B10 h11 F11 B11 h12 F12 B12 h13 F13 B13 h14 F14 B14 h15 F15 B15 h16 F16 B16 h17 F17 B17 h18 F18 B18 h19 F19 B19 T   k
    exact ⟨⟨a0, d0, _, h0, F0.kp, B0, ok0 F0 T G⟩, ⟨a1, d1, _, h1, F1.kp, B1, ok1 F1 T G⟩, ⟨a2, d2, _, h2, F2.kp, B2, ok2 F2 T G⟩, ⟨a3, d3, _, h3, F3.kp, B3, ok3 F3 T G⟩, ⟨a4, d4, _, h4, F4.kp, B4, ok4 F4 T G⟩, ⟨a5, d5, _, h5, F5.kp, B5, ok5 F5 T G⟩, ⟨a6, d6, _, h6, F6.kp, B6, ok6 F6 T G⟩, ⟨a7, d7, _, h7, F7.kp, B7, ok7 F7 T G⟩, ⟨a8, d8, _, h8, F8.kp, B8, ok8 F8 T G⟩, ⟨a9, d9, _, h9, F9.kp, B9, ok9 F9 T G⟩, ⟨a10, d10, _, h10, F10.kp, B10, ok10 F10 T G⟩, ⟨a11, d11, _, h11, F11.kp, B11, ok11 F11 T G⟩, ⟨a12, d12, _, h12, F12.kp, B12, ok12 F12 T G⟩, ⟨a13, d13, _, h13, F13.kp, B13, ok13 F13 T G⟩, ⟨a14, d14, _, h14, F14.kp, B14, ok14 F14 T G⟩, ⟨a15, d15, _, h15, F15.kp, B15, ok15 F15 T G⟩, ⟨a17, d17, _, h17, F17.kp, B17, ok17 F17 T G⟩, ⟨a18, d18, _, h18, F18.kp, B18, ok18 F18 T G⟩, ⟨a19, d19, _, h19, F19.kp, B19, ok19 F19 T G⟩, ⟨a7, d7, _, h7, F7.kp, B7, okX7 F7 T G⟩, ⟨a11, d11, _, h11, F11.kp, B11, okX11 F11 T G⟩, ⟨a8, d8, _, h8, F8.kp, B8, okX8 F8 T G⟩, ⟨a9, d9, _, h9, F9.kp, B9, okX9 F9 T G⟩, ⟨a10, d10, _, h10, F10.kp, B10, okX10 F10 T G⟩, ⟨a12, d12, _, h12, F12.kp, B12, okX12 F12 T G⟩, ⟨a17, d17, _, h17, F17.kp, B17, okX17 F17 T G⟩, ⟨a16, d16, _, h16, F16.kp, B16, okT16 F16 T G⟩⟩
theorem all_mk {l : PySem.W.OpenLaw} {w : World} {K : PySem.W.Frag} {h : Heap} {mg : Str → Option Value} {fa f0 f1 f2 f3 f4 f5 f6 f7 f8 f9 f10 f11 f12 f13 f14 f15 f16 f17 f18 f19 : Addr} {X1 X0 X8 X7 X6 X5 X4 X3 X2 : Addr} (X : K.In h) (G : h.Ns mainGlobals mg) (hfa : mg "law" = some (.ref fa)) {od0 od1 od2 od3 od4 od5 od6 od7 od8 od9 od10 od11 od12 od13 od14 od15 od16 od17 od18 od19 an0 an1 an2 an3 an4 an5 an6 an7 an8 an9 an10 an11 an12 an13 an14 an15 an16 an17 an18 an19 : Option Addr} {sl0 sl1 sl2 sl3 sl4 sl5 sl6 sl7 sl8 sl9 sl10 sl11 sl12 sl13 sl14 sl15 sl16 sl17 sl18 sl19 : Array (Option Value)} {oc0 oc1 oc2 oc3 oc4 oc5 oc6 oc7 oc8 oc9 oc10 oc11 oc12 oc13 oc14 oc15 oc16 oc17 oc18 oc19 kV0 kV1 kV2 kV3 kV4 kV5 kV6 kV7 kV8 kV9 kV10 kV11 kV12 kV13 kV14 kV15 kV16 kV17 kV18 kV19 dc0 dc1 dc2 dc3 dc4 dc5 dc6 dc7 dc8 dc9 dc10 dc11 dc12 dc13 dc14 dc15 dc16 dc17 dc18 dc19 pm0 pm1 pm2 pm3 pm4 pm5 pm6 pm7 pm8 pm9 pm10 pm11 pm12 pm13 pm14 pm15 pm16 pm17 pm18 pm19 cd0 cd1 cd2 cd3 cd4 cd5 cd6 cd7 cd8 cd9 cd10 cd11 cd12 cd13 cd14 cd15 cd16 cd17 cd18 cd19 ct0 ct1 ct2 ct3 ct4 ct5 ct6 ct7 ct8 ct9 ct10 ct11 ct12 ct13 ct14 ct15 ct16 ct17 ct18 ct19 : Value} {t_LETTERS t_MOST_LETTERS t_MOST_NOTE t_MOST_TURNS t_FIGURES t_MOST_FIGURES t_DEEPEST : Tok} {b_ENDS : Addr} {n_ENDS : Nat} {e_ENDS : Array (Option Value)} {s_ENDS0 s_ENDS1 : Tok} {b_ANSWERS : Addr} {n_ANSWERS : Nat} {e_ANSWERS : Array (Option Value)} {s_ANSWERS0 s_ANSWERS1 s_ANSWERS2 : Tok} {b_FORMS : Addr} {n_FORMS : Nat} {h_FORMS0 h_FORMS1 h_FORMS2 h_FORMS3 h_FORMS4 h_FORMS5 h_FORMS6 h_FORMS7 h_FORMS8 h_FORMS9 : Int} {s_FORMS0 k_FORMS0 s_FORMS1 k_FORMS1 s_FORMS2 k_FORMS2 s_FORMS3 k_FORMS3 s_FORMS4 k_FORMS4 s_FORMS5 k_FORMS5 s_FORMS6 k_FORMS6 s_FORMS7 k_FORMS7 s_FORMS8 k_FORMS8 s_FORMS9 k_FORMS9 : Tok}
    (a0 : PySem.W.nsIn K mainGlobals "is_whole" = some (some (.ref f0)))
    (l0 : K.lookup f0 = some ⟨oc0, od0, .func (PySem.W.fnOf "is_whole" "is_whole" (defArgs st0) (defBody st0) (defScope st0) .none kV0 dc0 pm0 an0 cd0 ct0), sl0⟩) (c0 : PySem.W.codeIn K cd0 "is_whole" = true) (k0 : PySem.W.keepIn K (.ref f0) = true)
    (a1 : PySem.W.nsIn K mainGlobals "is_between" = some (some (.ref f1)))
    (l1 : K.lookup f1 = some ⟨oc1, od1, .func (PySem.W.fnOf "is_between" "is_between" (defArgs st1) (defBody st1) (defScope st1) .none kV1 dc1 pm1 an1 cd1 ct1), sl1⟩) (c1 : PySem.W.codeIn K cd1 "is_between" = true) (k1 : PySem.W.keepIn K (.ref f1) = true)
    (a2 : PySem.W.nsIn K mainGlobals "is_name" = some (some (.ref f2)))
    (l2 : K.lookup f2 = some ⟨oc2, od2, .func (PySem.W.fnOf "is_name" "is_name" (defArgs st2) (defBody st2) (defScope st2) .none kV2 dc2 pm2 an2 cd2 ct2), sl2⟩) (c2 : PySem.W.codeIn K cd2 "is_name" = true) (k2 : PySem.W.keepIn K (.ref f2) = true)
    (a3 : PySem.W.nsIn K mainGlobals "is_one_of" = some (some (.ref f3)))
    (l3 : K.lookup f3 = some ⟨oc3, od3, .func (PySem.W.fnOf "is_one_of" "is_one_of" (defArgs st3) (defBody st3) (defScope st3) .none kV3 dc3 pm3 an3 cd3 ct3), sl3⟩) (c3 : PySem.W.codeIn K cd3 "is_one_of" = true) (k3 : PySem.W.keepIn K (.ref f3) = true)
    (a4 : PySem.W.nsIn K mainGlobals "are_trees" = some (some (.ref f4)))
    (l4 : K.lookup f4 = some ⟨oc4, od4, .func (PySem.W.fnOf "are_trees" "are_trees" (defArgs st4) (defBody st4) (defScope st4) .none kV4 dc4 pm4 an4 cd4 ct4), sl4⟩) (c4 : PySem.W.codeIn K cd4 "are_trees" = true) (k4 : PySem.W.keepIn K (.ref f4) = true)
    (a5 : PySem.W.nsIn K mainGlobals "is_part" = some (some (.ref f5)))
    (l5 : K.lookup f5 = some ⟨oc5, od5, .func (PySem.W.fnOf "is_part" "is_part" (defArgs st5) (defBody st5) (defScope st5) .none kV5 dc5 pm5 an5 cd5 ct5), sl5⟩) (c5 : PySem.W.codeIn K cd5 "is_part" = true) (k5 : PySem.W.keepIn K (.ref f5) = true)
    (a6 : PySem.W.nsIn K mainGlobals "is_tree" = some (some (.ref f6)))
    (l6 : K.lookup f6 = some ⟨oc6, od6, .func (PySem.W.fnOf "is_tree" "is_tree" (defArgs st6) (defBody st6) (defScope st6) .none kV6 dc6 pm6 an6 cd6 ct6), sl6⟩) (c6 : PySem.W.codeIn K cd6 "is_tree" = true) (k6 : PySem.W.keepIn K (.ref f6) = true)
    (a7 : PySem.W.nsIn K mainGlobals "word_at" = some (some (.ref f7)))
    (l7 : K.lookup f7 = some ⟨oc7, od7, .func (PySem.W.fnOf "word_at" "word_at" (defArgs st7) (defBody st7) (defScope st7) .none kV7 dc7 pm7 an7 cd7 ct7), sl7⟩) (c7 : PySem.W.codeIn K cd7 "word_at" = true) (k7 : PySem.W.keepIn K (.ref f7) = true)
    (a8 : PySem.W.nsIn K mainGlobals "number_at" = some (some (.ref f8)))
    (l8 : K.lookup f8 = some ⟨oc8, od8, .func (PySem.W.fnOf "number_at" "number_at" (defArgs st8) (defBody st8) (defScope st8) .none kV8 dc8 pm8 an8 cd8 ct8), sl8⟩) (c8 : PySem.W.codeIn K cd8 "number_at" = true) (k8 : PySem.W.keepIn K (.ref f8) = true)
    (a9 : PySem.W.nsIn K mainGlobals "some_from" = some (some (.ref f9)))
    (l9 : K.lookup f9 = some ⟨oc9, od9, .func (PySem.W.fnOf "some_from" "some_from" (defArgs st9) (defBody st9) (defScope st9) .none kV9 dc9 pm9 an9 cd9 ct9), sl9⟩) (c9 : PySem.W.codeIn K cd9 "some_from" = true) (k9 : PySem.W.keepIn K (.ref f9) = true)
    (a10 : PySem.W.nsIn K mainGlobals "part_from" = some (some (.ref f10)))
    (l10 : K.lookup f10 = some ⟨oc10, od10, .func (PySem.W.fnOf "part_from" "part_from" (defArgs st10) (defBody st10) (defScope st10) .none kV10 dc10 pm10 an10 cd10 ct10), sl10⟩) (c10 : PySem.W.codeIn K cd10 "part_from" = true) (k10 : PySem.W.keepIn K (.ref f10) = true)
    (a11 : PySem.W.nsIn K mainGlobals "tree_from" = some (some (.ref f11)))
    (l11 : K.lookup f11 = some ⟨oc11, od11, .func (PySem.W.fnOf "tree_from" "tree_from" (defArgs st11) (defBody st11) (defScope st11) .none kV11 dc11 pm11 an11 cd11 ct11), sl11⟩) (c11 : PySem.W.codeIn K cd11 "tree_from" = true) (k11 : PySem.W.keepIn K (.ref f11) = true)
    (a12 : PySem.W.nsIn K mainGlobals "read_tree" = some (some (.ref f12)))
    (l12 : K.lookup f12 = some ⟨oc12, od12, .func (PySem.W.fnOf "read_tree" "read_tree" (defArgs st12) (defBody st12) (defScope st12) .none kV12 dc12 pm12 an12 cd12 ct12), sl12⟩) (c12 : PySem.W.codeIn K cd12 "read_tree" = true) (k12 : PySem.W.keepIn K (.ref f12) = true)
    (a13 : PySem.W.nsIn K mainGlobals "_law_deck" = some (some (.ref f13)))
    (l13 : K.lookup f13 = some ⟨oc13, od13, .func (PySem.W.fnOf "_law_deck" "_law_deck" (defArgs st13) (defBody st13) (defScope st13) .none kV13 dc13 pm13 an13 cd13 ct13), sl13⟩) (c13 : PySem.W.codeIn K cd13 "_law_deck" = true) (k13 : PySem.W.keepIn K (.ref f13) = true)
    (a14 : PySem.W.nsIn K mainGlobals "_law_draw" = some (some (.ref f14)))
    (l14 : K.lookup f14 = some ⟨oc14, od14, .func (PySem.W.fnOf "_law_draw" "_law_draw" (defArgs st14) (defBody st14) (defScope st14) .none kV14 dc14 pm14 an14 cd14 ct14), sl14⟩) (c14 : PySem.W.codeIn K cd14 "_law_draw" = true) (k14 : PySem.W.keepIn K (.ref f14) = true)
    (a15 : PySem.W.nsIn K mainGlobals "_law_some_text" = some (some (.ref f15)))
    (l15 : K.lookup f15 = some ⟨oc15, od15, .func (PySem.W.fnOf "_law_some_text" "_law_some_text" (defArgs st15) (defBody st15) (defScope st15) .none kV15 dc15 pm15 an15 cd15 ct15), sl15⟩) (c15 : PySem.W.codeIn K cd15 "_law_some_text" = true) (k15 : PySem.W.keepIn K (.ref f15) = true)
    (a16 : PySem.W.nsIn K mainGlobals "_law_classes" = some (some (.ref f16)))
    (l16 : K.lookup f16 = some ⟨oc16, od16, .func (PySem.W.fnOf "_law_classes" "_law_classes" (defArgs st16) (defBody st16) (defScope st16) .none kV16 dc16 pm16 an16 cd16 ct16), sl16⟩) (c16 : PySem.W.codeIn K cd16 "_law_classes" = true) (k16 : PySem.W.keepIn K (.ref f16) = true)
    (a17 : PySem.W.nsIn K mainGlobals "_law_raise" = some (some (.ref f17)))
    (l17 : K.lookup f17 = some ⟨oc17, od17, .func (PySem.W.fnOf "_law_raise" "_law_raise" (defArgs st17) (defBody st17) (defScope st17) .none kV17 dc17 pm17 an17 cd17 ct17), sl17⟩) (c17 : PySem.W.codeIn K cd17 "_law_raise" = true) (k17 : PySem.W.keepIn K (.ref f17) = true)
    (a18 : PySem.W.nsIn K mainGlobals "_law_caught" = some (some (.ref f18)))
    (l18 : K.lookup f18 = some ⟨oc18, od18, .func (PySem.W.fnOf "_law_caught" "_law_caught" (defArgs st18) (defBody st18) (defScope st18) .none kV18 dc18 pm18 an18 cd18 ct18), sl18⟩) (c18 : PySem.W.codeIn K cd18 "_law_caught" = true) (k18 : PySem.W.keepIn K (.ref f18) = true)
    (a19 : PySem.W.nsIn K mainGlobals "law" = some (some (.ref f19)))
    (l19 : K.lookup f19 = some ⟨oc19, od19, .func (PySem.W.fnOf "law" "law" (defArgs st19) (defBody st19) (defScope st19) .none kV19 dc19 pm19 an19 cd19 ct19), sl19⟩) (c19 : PySem.W.codeIn K cd19 "law" = true) (k19 : PySem.W.keepIn K (.ref f19) = true)
    (aX1 : PySem.W.nsIn K mainGlobals "NoText" = some (some (.ref X1))) (eX1 : PySem.W.excIn K X1 [.type "ValueError", .type "Exception", .type "BaseException", .type "object"] "ValueError.__new__" = true) (kX1 : PySem.W.keepIn K (.ref X1) = true) (sX1 : PySem.W.subIn K (.ref X1) (.type "BaseException") = some true) (tX1 : PySem.W.typeIn K (.ref X1) = some (.type "type")) (hX1 : PySem.W.hasDictIn K X1 = true)
    (mX1_1 : PySem.W.subIn K (.ref X1) (.ref X1) = some true)
    (mX0_1 : PySem.W.subIn K (.ref X0) (.ref X1) = some false)
    (mX8_1 : PySem.W.subIn K (.ref X8) (.ref X1) = some false)
    (mX7_1 : PySem.W.subIn K (.ref X7) (.ref X1) = some false)
    (mX6_1 : PySem.W.subIn K (.ref X6) (.ref X1) = some false)
    (mX5_1 : PySem.W.subIn K (.ref X5) (.ref X1) = some false)
    (mX4_1 : PySem.W.subIn K (.ref X4) (.ref X1) = some false)
    (mX3_1 : PySem.W.subIn K (.ref X3) (.ref X1) = some false)
    (mX2_1 : PySem.W.subIn K (.ref X2) (.ref X1) = some false)
    (aX0 : PySem.W.nsIn K mainGlobals "BoughError" = some (some (.ref X0))) (eX0 : PySem.W.excIn K X0 [.type "ValueError", .type "Exception", .type "BaseException", .type "object"] "ValueError.__new__" = true) (kX0 : PySem.W.keepIn K (.ref X0) = true) (sX0 : PySem.W.subIn K (.ref X0) (.type "BaseException") = some true) (tX0 : PySem.W.typeIn K (.ref X0) = some (.type "type")) (hX0 : PySem.W.hasDictIn K X0 = true)
    (mX1_0 : PySem.W.subIn K (.ref X1) (.ref X0) = some true)
    (mX0_0 : PySem.W.subIn K (.ref X0) (.ref X0) = some true)
    (mX8_0 : PySem.W.subIn K (.ref X8) (.ref X0) = some true)
    (mX7_0 : PySem.W.subIn K (.ref X7) (.ref X0) = some true)
    (mX6_0 : PySem.W.subIn K (.ref X6) (.ref X0) = some true)
    (mX5_0 : PySem.W.subIn K (.ref X5) (.ref X0) = some true)
    (mX4_0 : PySem.W.subIn K (.ref X4) (.ref X0) = some true)
    (mX3_0 : PySem.W.subIn K (.ref X3) (.ref X0) = some true)
    (mX2_0 : PySem.W.subIn K (.ref X2) (.ref X0) = some true)
    (aX8 : PySem.W.nsIn K mainGlobals "NoBack" = some (some (.ref X8))) (eX8 : PySem.W.excIn K X8 [.type "ValueError", .type "Exception", .type "BaseException", .type "object"] "ValueError.__new__" = true) (kX8 : PySem.W.keepIn K (.ref X8) = true) (sX8 : PySem.W.subIn K (.ref X8) (.type "BaseException") = some true) (tX8 : PySem.W.typeIn K (.ref X8) = some (.type "type")) (hX8 : PySem.W.hasDictIn K X8 = true)
    (mX1_8 : PySem.W.subIn K (.ref X1) (.ref X8) = some false)
    (mX0_8 : PySem.W.subIn K (.ref X0) (.ref X8) = some false)
    (mX8_8 : PySem.W.subIn K (.ref X8) (.ref X8) = some true)
    (mX7_8 : PySem.W.subIn K (.ref X7) (.ref X8) = some false)
    (mX6_8 : PySem.W.subIn K (.ref X6) (.ref X8) = some false)
    (mX5_8 : PySem.W.subIn K (.ref X5) (.ref X8) = some false)
    (mX4_8 : PySem.W.subIn K (.ref X4) (.ref X8) = some false)
    (mX3_8 : PySem.W.subIn K (.ref X3) (.ref X8) = some false)
    (mX2_8 : PySem.W.subIn K (.ref X2) (.ref X8) = some false)
    (aX7 : PySem.W.nsIn K mainGlobals "NoRow" = some (some (.ref X7))) (eX7 : PySem.W.excIn K X7 [.type "ValueError", .type "Exception", .type "BaseException", .type "object"] "ValueError.__new__" = true) (kX7 : PySem.W.keepIn K (.ref X7) = true) (sX7 : PySem.W.subIn K (.ref X7) (.type "BaseException") = some true) (tX7 : PySem.W.typeIn K (.ref X7) = some (.type "type")) (hX7 : PySem.W.hasDictIn K X7 = true)
    (mX1_7 : PySem.W.subIn K (.ref X1) (.ref X7) = some false)
    (mX0_7 : PySem.W.subIn K (.ref X0) (.ref X7) = some false)
    (mX8_7 : PySem.W.subIn K (.ref X8) (.ref X7) = some false)
    (mX7_7 : PySem.W.subIn K (.ref X7) (.ref X7) = some true)
    (mX6_7 : PySem.W.subIn K (.ref X6) (.ref X7) = some false)
    (mX5_7 : PySem.W.subIn K (.ref X5) (.ref X7) = some false)
    (mX4_7 : PySem.W.subIn K (.ref X4) (.ref X7) = some false)
    (mX3_7 : PySem.W.subIn K (.ref X3) (.ref X7) = some false)
    (mX2_7 : PySem.W.subIn K (.ref X2) (.ref X7) = some false)
    (aX6 : PySem.W.nsIn K mainGlobals "Taken" = some (some (.ref X6))) (eX6 : PySem.W.excIn K X6 [.type "ValueError", .type "Exception", .type "BaseException", .type "object"] "ValueError.__new__" = true) (kX6 : PySem.W.keepIn K (.ref X6) = true) (sX6 : PySem.W.subIn K (.ref X6) (.type "BaseException") = some true) (tX6 : PySem.W.typeIn K (.ref X6) = some (.type "type")) (hX6 : PySem.W.hasDictIn K X6 = true)
    (mX1_6 : PySem.W.subIn K (.ref X1) (.ref X6) = some false)
    (mX0_6 : PySem.W.subIn K (.ref X0) (.ref X6) = some false)
    (mX8_6 : PySem.W.subIn K (.ref X8) (.ref X6) = some false)
    (mX7_6 : PySem.W.subIn K (.ref X7) (.ref X6) = some false)
    (mX6_6 : PySem.W.subIn K (.ref X6) (.ref X6) = some true)
    (mX5_6 : PySem.W.subIn K (.ref X5) (.ref X6) = some false)
    (mX4_6 : PySem.W.subIn K (.ref X4) (.ref X6) = some false)
    (mX3_6 : PySem.W.subIn K (.ref X3) (.ref X6) = some false)
    (mX2_6 : PySem.W.subIn K (.ref X2) (.ref X6) = some false)
    (aX5 : PySem.W.nsIn K mainGlobals "NoName" = some (some (.ref X5))) (eX5 : PySem.W.excIn K X5 [.type "ValueError", .type "Exception", .type "BaseException", .type "object"] "ValueError.__new__" = true) (kX5 : PySem.W.keepIn K (.ref X5) = true) (sX5 : PySem.W.subIn K (.ref X5) (.type "BaseException") = some true) (tX5 : PySem.W.typeIn K (.ref X5) = some (.type "type")) (hX5 : PySem.W.hasDictIn K X5 = true)
    (mX1_5 : PySem.W.subIn K (.ref X1) (.ref X5) = some false)
    (mX0_5 : PySem.W.subIn K (.ref X0) (.ref X5) = some false)
    (mX8_5 : PySem.W.subIn K (.ref X8) (.ref X5) = some false)
    (mX7_5 : PySem.W.subIn K (.ref X7) (.ref X5) = some false)
    (mX6_5 : PySem.W.subIn K (.ref X6) (.ref X5) = some false)
    (mX5_5 : PySem.W.subIn K (.ref X5) (.ref X5) = some true)
    (mX4_5 : PySem.W.subIn K (.ref X4) (.ref X5) = some false)
    (mX3_5 : PySem.W.subIn K (.ref X3) (.ref X5) = some false)
    (mX2_5 : PySem.W.subIn K (.ref X2) (.ref X5) = some false)
    (aX4 : PySem.W.nsIn K mainGlobals "TooGreat" = some (some (.ref X4))) (eX4 : PySem.W.excIn K X4 [.type "ValueError", .type "Exception", .type "BaseException", .type "object"] "ValueError.__new__" = true) (kX4 : PySem.W.keepIn K (.ref X4) = true) (sX4 : PySem.W.subIn K (.ref X4) (.type "BaseException") = some true) (tX4 : PySem.W.typeIn K (.ref X4) = some (.type "type")) (hX4 : PySem.W.hasDictIn K X4 = true)
    (mX1_4 : PySem.W.subIn K (.ref X1) (.ref X4) = some false)
    (mX0_4 : PySem.W.subIn K (.ref X0) (.ref X4) = some false)
    (mX8_4 : PySem.W.subIn K (.ref X8) (.ref X4) = some false)
    (mX7_4 : PySem.W.subIn K (.ref X7) (.ref X4) = some false)
    (mX6_4 : PySem.W.subIn K (.ref X6) (.ref X4) = some false)
    (mX5_4 : PySem.W.subIn K (.ref X5) (.ref X4) = some false)
    (mX4_4 : PySem.W.subIn K (.ref X4) (.ref X4) = some true)
    (mX3_4 : PySem.W.subIn K (.ref X3) (.ref X4) = some false)
    (mX2_4 : PySem.W.subIn K (.ref X2) (.ref X4) = some false)
    (aX3 : PySem.W.nsIn K mainGlobals "NoChange" = some (some (.ref X3))) (eX3 : PySem.W.excIn K X3 [.type "ValueError", .type "Exception", .type "BaseException", .type "object"] "ValueError.__new__" = true) (kX3 : PySem.W.keepIn K (.ref X3) = true) (sX3 : PySem.W.subIn K (.ref X3) (.type "BaseException") = some true) (tX3 : PySem.W.typeIn K (.ref X3) = some (.type "type")) (hX3 : PySem.W.hasDictIn K X3 = true)
    (mX1_3 : PySem.W.subIn K (.ref X1) (.ref X3) = some false)
    (mX0_3 : PySem.W.subIn K (.ref X0) (.ref X3) = some false)
    (mX8_3 : PySem.W.subIn K (.ref X8) (.ref X3) = some false)
    (mX7_3 : PySem.W.subIn K (.ref X7) (.ref X3) = some false)
    (mX6_3 : PySem.W.subIn K (.ref X6) (.ref X3) = some false)
    (mX5_3 : PySem.W.subIn K (.ref X5) (.ref X3) = some false)
    (mX4_3 : PySem.W.subIn K (.ref X4) (.ref X3) = some false)
    (mX3_3 : PySem.W.subIn K (.ref X3) (.ref X3) = some true)
    (mX2_3 : PySem.W.subIn K (.ref X2) (.ref X3) = some false)
    (aX2 : PySem.W.nsIn K mainGlobals "TooMany" = some (some (.ref X2))) (eX2 : PySem.W.excIn K X2 [.type "ValueError", .type "Exception", .type "BaseException", .type "object"] "ValueError.__new__" = true) (kX2 : PySem.W.keepIn K (.ref X2) = true) (sX2 : PySem.W.subIn K (.ref X2) (.type "BaseException") = some true) (tX2 : PySem.W.typeIn K (.ref X2) = some (.type "type")) (hX2 : PySem.W.hasDictIn K X2 = true)
    (mX1_2 : PySem.W.subIn K (.ref X1) (.ref X2) = some false)
    (mX0_2 : PySem.W.subIn K (.ref X0) (.ref X2) = some false)
    (mX8_2 : PySem.W.subIn K (.ref X8) (.ref X2) = some false)
    (mX7_2 : PySem.W.subIn K (.ref X7) (.ref X2) = some false)
    (mX6_2 : PySem.W.subIn K (.ref X6) (.ref X2) = some false)
    (mX5_2 : PySem.W.subIn K (.ref X5) (.ref X2) = some false)
    (mX4_2 : PySem.W.subIn K (.ref X4) (.ref X2) = some false)
    (mX3_2 : PySem.W.subIn K (.ref X3) (.ref X2) = some false)
    (mX2_2 : PySem.W.subIn K (.ref X2) (.ref X2) = some true)
    (zX9 : PySem.W.nsIn K mainGlobals "ValueError" = some none)
    (iX1_9 : PySem.W.kitOne K (.ref X1) (.type "ValueError") = some true)
    (iX0_9 : PySem.W.kitOne K (.ref X0) (.type "ValueError") = some true)
    (iX8_9 : PySem.W.kitOne K (.ref X8) (.type "ValueError") = some true)
    (iX7_9 : PySem.W.kitOne K (.ref X7) (.type "ValueError") = some true)
    (iX6_9 : PySem.W.kitOne K (.ref X6) (.type "ValueError") = some true)
    (iX5_9 : PySem.W.kitOne K (.ref X5) (.type "ValueError") = some true)
    (iX4_9 : PySem.W.kitOne K (.ref X4) (.type "ValueError") = some true)
    (iX3_9 : PySem.W.kitOne K (.ref X3) (.type "ValueError") = some true)
    (iX2_9 : PySem.W.kitOne K (.ref X2) (.type "ValueError") = some true)
    (iX1_8 : PySem.W.kitOne K (.ref X1) (.ref X8) = some false)
    (iX0_8 : PySem.W.kitOne K (.ref X0) (.ref X8) = some false)
    (iX8_8 : PySem.W.kitOne K (.ref X8) (.ref X8) = some true)
    (iX7_8 : PySem.W.kitOne K (.ref X7) (.ref X8) = some false)
    (iX6_8 : PySem.W.kitOne K (.ref X6) (.ref X8) = some false)
    (iX5_8 : PySem.W.kitOne K (.ref X5) (.ref X8) = some false)
    (iX4_8 : PySem.W.kitOne K (.ref X4) (.ref X8) = some false)
    (iX3_8 : PySem.W.kitOne K (.ref X3) (.ref X8) = some false)
    (iX2_8 : PySem.W.kitOne K (.ref X2) (.ref X8) = some false)
    (iX1_7 : PySem.W.kitOne K (.ref X1) (.ref X7) = some false)
    (iX0_7 : PySem.W.kitOne K (.ref X0) (.ref X7) = some false)
    (iX8_7 : PySem.W.kitOne K (.ref X8) (.ref X7) = some false)
    (iX7_7 : PySem.W.kitOne K (.ref X7) (.ref X7) = some true)
    (iX6_7 : PySem.W.kitOne K (.ref X6) (.ref X7) = some false)
    (iX5_7 : PySem.W.kitOne K (.ref X5) (.ref X7) = some false)
    (iX4_7 : PySem.W.kitOne K (.ref X4) (.ref X7) = some false)
    (iX3_7 : PySem.W.kitOne K (.ref X3) (.ref X7) = some false)
    (iX2_7 : PySem.W.kitOne K (.ref X2) (.ref X7) = some false)
    (iX1_6 : PySem.W.kitOne K (.ref X1) (.ref X6) = some false)
    (iX0_6 : PySem.W.kitOne K (.ref X0) (.ref X6) = some false)
    (iX8_6 : PySem.W.kitOne K (.ref X8) (.ref X6) = some false)
    (iX7_6 : PySem.W.kitOne K (.ref X7) (.ref X6) = some false)
    (iX6_6 : PySem.W.kitOne K (.ref X6) (.ref X6) = some true)
    (iX5_6 : PySem.W.kitOne K (.ref X5) (.ref X6) = some false)
    (iX4_6 : PySem.W.kitOne K (.ref X4) (.ref X6) = some false)
    (iX3_6 : PySem.W.kitOne K (.ref X3) (.ref X6) = some false)
    (iX2_6 : PySem.W.kitOne K (.ref X2) (.ref X6) = some false)
    (iX1_5 : PySem.W.kitOne K (.ref X1) (.ref X5) = some false)
    (iX0_5 : PySem.W.kitOne K (.ref X0) (.ref X5) = some false)
    (iX8_5 : PySem.W.kitOne K (.ref X8) (.ref X5) = some false)
    (iX7_5 : PySem.W.kitOne K (.ref X7) (.ref X5) = some false)
    (iX6_5 : PySem.W.kitOne K (.ref X6) (.ref X5) = some false)
    (iX5_5 : PySem.W.kitOne K (.ref X5) (.ref X5) = some true)
    (iX4_5 : PySem.W.kitOne K (.ref X4) (.ref X5) = some false)
    (iX3_5 : PySem.W.kitOne K (.ref X3) (.ref X5) = some false)
    (iX2_5 : PySem.W.kitOne K (.ref X2) (.ref X5) = some false)
    (iX1_4 : PySem.W.kitOne K (.ref X1) (.ref X4) = some false)
    (iX0_4 : PySem.W.kitOne K (.ref X0) (.ref X4) = some false)
    (iX8_4 : PySem.W.kitOne K (.ref X8) (.ref X4) = some false)
    (iX7_4 : PySem.W.kitOne K (.ref X7) (.ref X4) = some false)
    (iX6_4 : PySem.W.kitOne K (.ref X6) (.ref X4) = some false)
    (iX5_4 : PySem.W.kitOne K (.ref X5) (.ref X4) = some false)
    (iX4_4 : PySem.W.kitOne K (.ref X4) (.ref X4) = some true)
    (iX3_4 : PySem.W.kitOne K (.ref X3) (.ref X4) = some false)
    (iX2_4 : PySem.W.kitOne K (.ref X2) (.ref X4) = some false)
    (iX1_3 : PySem.W.kitOne K (.ref X1) (.ref X3) = some false)
    (iX0_3 : PySem.W.kitOne K (.ref X0) (.ref X3) = some false)
    (iX8_3 : PySem.W.kitOne K (.ref X8) (.ref X3) = some false)
    (iX7_3 : PySem.W.kitOne K (.ref X7) (.ref X3) = some false)
    (iX6_3 : PySem.W.kitOne K (.ref X6) (.ref X3) = some false)
    (iX5_3 : PySem.W.kitOne K (.ref X5) (.ref X3) = some false)
    (iX4_3 : PySem.W.kitOne K (.ref X4) (.ref X3) = some false)
    (iX3_3 : PySem.W.kitOne K (.ref X3) (.ref X3) = some true)
    (iX2_3 : PySem.W.kitOne K (.ref X2) (.ref X3) = some false)
    (iX1_2 : PySem.W.kitOne K (.ref X1) (.ref X2) = some false)
    (iX0_2 : PySem.W.kitOne K (.ref X0) (.ref X2) = some false)
    (iX8_2 : PySem.W.kitOne K (.ref X8) (.ref X2) = some false)
    (iX7_2 : PySem.W.kitOne K (.ref X7) (.ref X2) = some false)
    (iX6_2 : PySem.W.kitOne K (.ref X6) (.ref X2) = some false)
    (iX5_2 : PySem.W.kitOne K (.ref X5) (.ref X2) = some false)
    (iX4_2 : PySem.W.kitOne K (.ref X4) (.ref X2) = some false)
    (iX3_2 : PySem.W.kitOne K (.ref X3) (.ref X2) = some false)
    (iX2_2 : PySem.W.kitOne K (.ref X2) (.ref X2) = some true)
    (iX1_1 : PySem.W.kitOne K (.ref X1) (.ref X1) = some true)
    (iX0_1 : PySem.W.kitOne K (.ref X0) (.ref X1) = some false)
    (iX8_1 : PySem.W.kitOne K (.ref X8) (.ref X1) = some false)
    (iX7_1 : PySem.W.kitOne K (.ref X7) (.ref X1) = some false)
    (iX6_1 : PySem.W.kitOne K (.ref X6) (.ref X1) = some false)
    (iX5_1 : PySem.W.kitOne K (.ref X5) (.ref X1) = some false)
    (iX4_1 : PySem.W.kitOne K (.ref X4) (.ref X1) = some false)
    (iX3_1 : PySem.W.kitOne K (.ref X3) (.ref X1) = some false)
    (iX2_1 : PySem.W.kitOne K (.ref X2) (.ref X1) = some false)
    (cN : PySem.W.specialIn K (.builtin "object.__class__") "__get__" = some (some (.builtin "getset_descriptor.__get__"))) (cT : PySem.W.takesIn K (.builtin "object.__class__") = some true)
    (cG1 : PySem.W.findIn K (.ref X1) "__getattribute__" = some (some (.builtin "BaseException.__getattribute__"))) (cA1 : PySem.W.findIn K (.ref X1) "__getattr__" = some none) (cC1 : PySem.W.findIn K (.ref X1) "__class__" = some (some (.builtin "object.__class__"))) (cM1 : PySem.W.mroIn K X1 (.type "object") = some true)
    (cG0 : PySem.W.findIn K (.ref X0) "__getattribute__" = some (some (.builtin "BaseException.__getattribute__"))) (cA0 : PySem.W.findIn K (.ref X0) "__getattr__" = some none) (cC0 : PySem.W.findIn K (.ref X0) "__class__" = some (some (.builtin "object.__class__"))) (cM0 : PySem.W.mroIn K X0 (.type "object") = some true)
    (cG8 : PySem.W.findIn K (.ref X8) "__getattribute__" = some (some (.builtin "BaseException.__getattribute__"))) (cA8 : PySem.W.findIn K (.ref X8) "__getattr__" = some none) (cC8 : PySem.W.findIn K (.ref X8) "__class__" = some (some (.builtin "object.__class__"))) (cM8 : PySem.W.mroIn K X8 (.type "object") = some true)
    (cG7 : PySem.W.findIn K (.ref X7) "__getattribute__" = some (some (.builtin "BaseException.__getattribute__"))) (cA7 : PySem.W.findIn K (.ref X7) "__getattr__" = some none) (cC7 : PySem.W.findIn K (.ref X7) "__class__" = some (some (.builtin "object.__class__"))) (cM7 : PySem.W.mroIn K X7 (.type "object") = some true)
    (cG6 : PySem.W.findIn K (.ref X6) "__getattribute__" = some (some (.builtin "BaseException.__getattribute__"))) (cA6 : PySem.W.findIn K (.ref X6) "__getattr__" = some none) (cC6 : PySem.W.findIn K (.ref X6) "__class__" = some (some (.builtin "object.__class__"))) (cM6 : PySem.W.mroIn K X6 (.type "object") = some true)
    (cG5 : PySem.W.findIn K (.ref X5) "__getattribute__" = some (some (.builtin "BaseException.__getattribute__"))) (cA5 : PySem.W.findIn K (.ref X5) "__getattr__" = some none) (cC5 : PySem.W.findIn K (.ref X5) "__class__" = some (some (.builtin "object.__class__"))) (cM5 : PySem.W.mroIn K X5 (.type "object") = some true)
    (cG4 : PySem.W.findIn K (.ref X4) "__getattribute__" = some (some (.builtin "BaseException.__getattribute__"))) (cA4 : PySem.W.findIn K (.ref X4) "__getattr__" = some none) (cC4 : PySem.W.findIn K (.ref X4) "__class__" = some (some (.builtin "object.__class__"))) (cM4 : PySem.W.mroIn K X4 (.type "object") = some true)
    (cG3 : PySem.W.findIn K (.ref X3) "__getattribute__" = some (some (.builtin "BaseException.__getattribute__"))) (cA3 : PySem.W.findIn K (.ref X3) "__getattr__" = some none) (cC3 : PySem.W.findIn K (.ref X3) "__class__" = some (some (.builtin "object.__class__"))) (cM3 : PySem.W.mroIn K X3 (.type "object") = some true)
    (cG2 : PySem.W.findIn K (.ref X2) "__getattribute__" = some (some (.builtin "BaseException.__getattribute__"))) (cA2 : PySem.W.findIn K (.ref X2) "__getattr__" = some none) (cC2 : PySem.W.findIn K (.ref X2) "__class__" = some (some (.builtin "object.__class__"))) (cM2 : PySem.W.mroIn K X2 (.type "object") = some true)
    (z_isinstance : PySem.W.nsIn K mainGlobals "isinstance" = some none) (z_bool : PySem.W.nsIn K mainGlobals "bool" = some none) (z_int : PySem.W.nsIn K mainGlobals "int" = some none) (z_all : PySem.W.nsIn K mainGlobals "all" = some none) (z_len : PySem.W.nsIn K mainGlobals "len" = some none) (z_str : PySem.W.nsIn K mainGlobals "str" = some none) (z_tuple : PySem.W.nsIn K mainGlobals "tuple" = some none) (z_zip : PySem.W.nsIn K mainGlobals "zip" = some none) (z_range : PySem.W.nsIn K mainGlobals "range" = some none) (z_sum : PySem.W.nsIn K mainGlobals "sum" = some none) (z_list : PySem.W.nsIn K mainGlobals "list" = some none) (g_LETTERS : PySem.W.nsIn K mainGlobals "LETTERS" = some (some (.str ⟨#[97, 98, 99, 100, 101, 102, 103, 104, 105, 106, 107, 108, 109, 110, 111, 112, 113, 114, 115, 116, 117, 118, 119, 120, 121, 122]⟩ t_LETTERS))) (g_MOST_LETTERS : PySem.W.nsIn K mainGlobals "MOST_LETTERS" = some (some (.int 8 t_MOST_LETTERS))) (g_ENDS : PySem.W.nsIn K mainGlobals "ENDS" = some (some (.ref b_ENDS))) (m_ENDS : K.lookup b_ENDS = some ⟨.type "tuple", none, .seq #[.str ⟨#[121, 101, 115]⟩ s_ENDS0, .str ⟨#[110, 111]⟩ s_ENDS1] n_ENDS, e_ENDS⟩) (g_ANSWERS : PySem.W.nsIn K mainGlobals "ANSWERS" = some (some (.ref b_ANSWERS))) (m_ANSWERS : K.lookup b_ANSWERS = some ⟨.type "tuple", none, .seq #[.str ⟨#[121, 101, 115]⟩ s_ANSWERS0, .str ⟨#[110, 111]⟩ s_ANSWERS1, .str ⟨#[111, 110]⟩ s_ANSWERS2] n_ANSWERS, e_ANSWERS⟩) (g_MOST_NOTE : PySem.W.nsIn K mainGlobals "MOST_NOTE" = some (some (.int 99 t_MOST_NOTE))) (g_MOST_TURNS : PySem.W.nsIn K mainGlobals "MOST_TURNS" = some (some (.int 4 t_MOST_TURNS))) (g_FORMS : PySem.W.nsIn K mainGlobals "FORMS" = some (some (.ref b_FORMS))) (m_FORMS : K.lookup b_FORMS = some ⟨.type "dict", none, .dict #[⟨h_FORMS0, .str ⟨#[108, 101, 97, 102]⟩ k_FORMS0, .str ⟨#[120, 110]⟩ s_FORMS0⟩, ⟨h_FORMS1, .str ⟨#[110, 111, 116, 101]⟩ k_FORMS1, .str ⟨#[120, 107]⟩ s_FORMS1⟩, ⟨h_FORMS2, .str ⟨#[115, 97, 121]⟩ k_FORMS2, .str ⟨#[97]⟩ s_FORMS2⟩, ⟨h_FORMS3, .str ⟨#[116, 117, 114, 110]⟩ k_FORMS3, .str ⟨#[98]⟩ s_FORMS3⟩, ⟨h_FORMS4, .str ⟨#[97, 103, 97, 105, 110]⟩ k_FORMS4, .str ⟨#[110, 98]⟩ s_FORMS4⟩, ⟨h_FORMS5, .str ⟨#[116, 105, 108, 108]⟩ k_FORMS5, .str ⟨#[101, 98]⟩ s_FORMS5⟩, ⟨h_FORMS6, .str ⟨#[103, 117, 97, 114, 100]⟩ k_FORMS6, .str ⟨#[120, 107, 98]⟩ s_FORMS6⟩, ⟨h_FORMS7, .str ⟨#[114, 111, 119]⟩ k_FORMS7, .str ⟨#[115]⟩ s_FORMS7⟩, ⟨h_FORMS8, .str ⟨#[102, 105, 114, 115, 116]⟩ k_FORMS8, .str ⟨#[115]⟩ s_FORMS8⟩, ⟨h_FORMS9, .str ⟨#[98, 101, 115, 105, 100, 101]⟩ k_FORMS9, .str ⟨#[109, 115]⟩ s_FORMS9⟩] n_FORMS, #[]⟩) (y_FORMS : (b_FORMS == sysModules) = false) (q_FORMS0 : h_FORMS0 = PyData.keyHash w.params ⟨#[108, 101, 97, 102]⟩) (q_FORMS1 : h_FORMS1 = PyData.keyHash w.params ⟨#[110, 111, 116, 101]⟩) (q_FORMS2 : h_FORMS2 = PyData.keyHash w.params ⟨#[115, 97, 121]⟩) (q_FORMS3 : h_FORMS3 = PyData.keyHash w.params ⟨#[116, 117, 114, 110]⟩) (q_FORMS4 : h_FORMS4 = PyData.keyHash w.params ⟨#[97, 103, 97, 105, 110]⟩) (q_FORMS5 : h_FORMS5 = PyData.keyHash w.params ⟨#[116, 105, 108, 108]⟩) (q_FORMS6 : h_FORMS6 = PyData.keyHash w.params ⟨#[103, 117, 97, 114, 100]⟩) (q_FORMS7 : h_FORMS7 = PyData.keyHash w.params ⟨#[114, 111, 119]⟩) (q_FORMS8 : h_FORMS8 = PyData.keyHash w.params ⟨#[102, 105, 114, 115, 116]⟩) (q_FORMS9 : h_FORMS9 = PyData.keyHash w.params ⟨#[98, 101, 115, 105, 100, 101]⟩) (g_FIGURES : PySem.W.nsIn K mainGlobals "FIGURES" = some (some (.str ⟨#[48, 49, 50, 51, 52, 53, 54, 55, 56, 57]⟩ t_FIGURES))) (g_MOST_FIGURES : PySem.W.nsIn K mainGlobals "MOST_FIGURES" = some (some (.int 9 t_MOST_FIGURES))) (g_DEEPEST : PySem.W.nsIn K mainGlobals "DEEPEST" = some (some (.int 100 t_DEEPEST))) :
    ∃ (fd : FuncData) (L : Lnk), (∀ (s : Shared) (v : Value), BindsTo s fd ⟨[v], []⟩ [("_law_script", v)]) ∧ L.K = K ∧ L.gd = [] ∧ ∀ base : Heap, K.In base → base.Ns mainGlobals mg → FnG l.prog w K mg base 110 fa fd ["_law_script"] (SpV L P 110 19) := by
  have e := hfa.symm.trans (PySem.W.mg_of X G a19)
  cases e
  have T : Txt w K mg [] [] [(1, X1), (0, X0), (8, X8), (7, X7), (6, X6), (5, X5), (4, X4), (3, X3), (2, X2)] := ⟨PySem.W.mg_none_of X G z_isinstance, PySem.W.mg_none_of X G z_bool, PySem.W.mg_none_of X G z_int, PySem.W.mg_none_of X G z_all, PySem.W.mg_none_of X G z_len, PySem.W.mg_none_of X G z_str, PySem.W.mg_none_of X G z_tuple, PySem.W.mg_none_of X G z_zip, PySem.W.mg_none_of X G z_range, PySem.W.mg_none_of X G z_sum, PySem.W.mg_none_of X G z_list, ⟨_, PySem.W.mg_of X G g_LETTERS⟩, ⟨_, PySem.W.mg_of X G g_MOST_LETTERS⟩, ⟨_, PySem.W.mg_of X G g_ENDS, _, _, _, _, rfl, m_ENDS, rfl, rfl, (by show 2 ≤ sizeLine; rw [sizeLine_eq]; decide), (.cons ⟨_, rfl⟩ (.cons ⟨_, rfl⟩ .nil)), rfl⟩, ⟨_, PySem.W.mg_of X G g_ANSWERS, _, _, _, _, rfl, m_ANSWERS, rfl, rfl, (by show 3 ≤ sizeLine; rw [sizeLine_eq]; decide), (.cons ⟨_, rfl⟩ (.cons ⟨_, rfl⟩ (.cons ⟨_, rfl⟩ .nil))), rfl⟩, ⟨_, PySem.W.mg_of X G g_MOST_NOTE⟩, ⟨_, PySem.W.mg_of X G g_MOST_TURNS⟩, ⟨_, PySem.W.mg_of X G g_FORMS, _, _, _, rfl, ⟨m_FORMS, ⟨⟨_, _, rfl, q_FORMS0⟩, ⟨⟨_, _, rfl, q_FORMS1⟩, ⟨⟨_, _, rfl, q_FORMS2⟩, ⟨⟨_, _, rfl, q_FORMS3⟩, ⟨⟨_, _, rfl, q_FORMS4⟩, ⟨⟨_, _, rfl, q_FORMS5⟩, ⟨⟨_, _, rfl, q_FORMS6⟩, ⟨⟨_, _, rfl, q_FORMS7⟩, ⟨⟨_, _, rfl, q_FORMS8⟩, ⟨⟨_, _, rfl, q_FORMS9⟩, trivial⟩⟩⟩⟩⟩⟩⟩⟩⟩⟩, y_FORMS⟩, (.cons rfl (v := .str ⟨#[120, 110]⟩) ⟨_, rfl⟩ (fun _ => .str _ (sokB_ok (by decide +kernel))) (.cons rfl (v := .str ⟨#[120, 107]⟩) ⟨_, rfl⟩ (fun _ => .str _ (sokB_ok (by decide +kernel))) (.cons rfl (v := .str ⟨#[97]⟩) ⟨_, rfl⟩ (fun _ => .str _ (sokB_ok (by decide +kernel))) (.cons rfl (v := .str ⟨#[98]⟩) ⟨_, rfl⟩ (fun _ => .str _ (sokB_ok (by decide +kernel))) (.cons rfl (v := .str ⟨#[110, 98]⟩) ⟨_, rfl⟩ (fun _ => .str _ (sokB_ok (by decide +kernel))) (.cons rfl (v := .str ⟨#[101, 98]⟩) ⟨_, rfl⟩ (fun _ => .str _ (sokB_ok (by decide +kernel))) (.cons rfl (v := .str ⟨#[120, 107, 98]⟩) ⟨_, rfl⟩ (fun _ => .str _ (sokB_ok (by decide +kernel))) (.cons rfl (v := .str ⟨#[115]⟩) ⟨_, rfl⟩ (fun _ => .str _ (sokB_ok (by decide +kernel))) (.cons rfl (v := .str ⟨#[115]⟩) ⟨_, rfl⟩ (fun _ => .str _ (sokB_ok (by decide +kernel))) (.cons rfl (v := .str ⟨#[109, 115]⟩) ⟨_, rfl⟩ (fun _ => .str _ (sokB_ok (by decide +kernel))) .nil))))))))))⟩, ⟨_, PySem.W.mg_of X G g_FIGURES⟩, ⟨_, PySem.W.mg_of X G g_MOST_FIGURES⟩, ⟨_, PySem.W.mg_of X G g_DEEPEST⟩, ⟨X1, rfl, PySem.W.mg_of X G aX1, eX1, kX1, sX1, tX1, allI ⟨PySem.W.exm_ref sX1 hX1 tX1 mX1_1, ⟨PySem.W.exm_ref sX1 hX1 tX1 mX0_1, ⟨PySem.W.exm_ref sX1 hX1 tX1 mX8_1, ⟨PySem.W.exm_ref sX1 hX1 tX1 mX7_1, ⟨PySem.W.exm_ref sX1 hX1 tX1 mX6_1, ⟨PySem.W.exm_ref sX1 hX1 tX1 mX5_1, ⟨PySem.W.exm_ref sX1 hX1 tX1 mX4_1, ⟨PySem.W.exm_ref sX1 hX1 tX1 mX3_1, ⟨PySem.W.exm_ref sX1 hX1 tX1 mX2_1, trivial⟩⟩⟩⟩⟩⟩⟩⟩⟩⟩, ⟨X0, rfl, PySem.W.mg_of X G aX0, eX0, kX0, sX0, tX0, allI ⟨PySem.W.exm_ref sX0 hX0 tX0 mX1_0, ⟨PySem.W.exm_ref sX0 hX0 tX0 mX0_0, ⟨PySem.W.exm_ref sX0 hX0 tX0 mX8_0, ⟨PySem.W.exm_ref sX0 hX0 tX0 mX7_0, ⟨PySem.W.exm_ref sX0 hX0 tX0 mX6_0, ⟨PySem.W.exm_ref sX0 hX0 tX0 mX5_0, ⟨PySem.W.exm_ref sX0 hX0 tX0 mX4_0, ⟨PySem.W.exm_ref sX0 hX0 tX0 mX3_0, ⟨PySem.W.exm_ref sX0 hX0 tX0 mX2_0, trivial⟩⟩⟩⟩⟩⟩⟩⟩⟩⟩, ⟨X8, rfl, PySem.W.mg_of X G aX8, eX8, kX8, sX8, tX8, allI ⟨PySem.W.exm_ref sX8 hX8 tX8 mX1_8, ⟨PySem.W.exm_ref sX8 hX8 tX8 mX0_8, ⟨PySem.W.exm_ref sX8 hX8 tX8 mX8_8, ⟨PySem.W.exm_ref sX8 hX8 tX8 mX7_8, ⟨PySem.W.exm_ref sX8 hX8 tX8 mX6_8, ⟨PySem.W.exm_ref sX8 hX8 tX8 mX5_8, ⟨PySem.W.exm_ref sX8 hX8 tX8 mX4_8, ⟨PySem.W.exm_ref sX8 hX8 tX8 mX3_8, ⟨PySem.W.exm_ref sX8 hX8 tX8 mX2_8, trivial⟩⟩⟩⟩⟩⟩⟩⟩⟩⟩, ⟨X7, rfl, PySem.W.mg_of X G aX7, eX7, kX7, sX7, tX7, allI ⟨PySem.W.exm_ref sX7 hX7 tX7 mX1_7, ⟨PySem.W.exm_ref sX7 hX7 tX7 mX0_7, ⟨PySem.W.exm_ref sX7 hX7 tX7 mX8_7, ⟨PySem.W.exm_ref sX7 hX7 tX7 mX7_7, ⟨PySem.W.exm_ref sX7 hX7 tX7 mX6_7, ⟨PySem.W.exm_ref sX7 hX7 tX7 mX5_7, ⟨PySem.W.exm_ref sX7 hX7 tX7 mX4_7, ⟨PySem.W.exm_ref sX7 hX7 tX7 mX3_7, ⟨PySem.W.exm_ref sX7 hX7 tX7 mX2_7, trivial⟩⟩⟩⟩⟩⟩⟩⟩⟩⟩, ⟨X6, rfl, PySem.W.mg_of X G aX6, eX6, kX6, sX6, tX6, allI ⟨PySem.W.exm_ref sX6 hX6 tX6 mX1_6, ⟨PySem.W.exm_ref sX6 hX6 tX6 mX0_6, ⟨PySem.W.exm_ref sX6 hX6 tX6 mX8_6, ⟨PySem.W.exm_ref sX6 hX6 tX6 mX7_6, ⟨PySem.W.exm_ref sX6 hX6 tX6 mX6_6, ⟨PySem.W.exm_ref sX6 hX6 tX6 mX5_6, ⟨PySem.W.exm_ref sX6 hX6 tX6 mX4_6, ⟨PySem.W.exm_ref sX6 hX6 tX6 mX3_6, ⟨PySem.W.exm_ref sX6 hX6 tX6 mX2_6, trivial⟩⟩⟩⟩⟩⟩⟩⟩⟩⟩, ⟨X5, rfl, PySem.W.mg_of X G aX5, eX5, kX5, sX5, tX5, allI ⟨PySem.W.exm_ref sX5 hX5 tX5 mX1_5, ⟨PySem.W.exm_ref sX5 hX5 tX5 mX0_5, ⟨PySem.W.exm_ref sX5 hX5 tX5 mX8_5, ⟨PySem.W.exm_ref sX5 hX5 tX5 mX7_5, ⟨PySem.W.exm_ref sX5 hX5 tX5 mX6_5, ⟨PySem.W.exm_ref sX5 hX5 tX5 mX5_5, ⟨PySem.W.exm_ref sX5 hX5 tX5 mX4_5, ⟨PySem.W.exm_ref sX5 hX5 tX5 mX3_5, ⟨PySem.W.exm_ref sX5 hX5 tX5 mX2_5, trivial⟩⟩⟩⟩⟩⟩⟩⟩⟩⟩, ⟨X4, rfl, PySem.W.mg_of X G aX4, eX4, kX4, sX4, tX4, allI ⟨PySem.W.exm_ref sX4 hX4 tX4 mX1_4, ⟨PySem.W.exm_ref sX4 hX4 tX4 mX0_4, ⟨PySem.W.exm_ref sX4 hX4 tX4 mX8_4, ⟨PySem.W.exm_ref sX4 hX4 tX4 mX7_4, ⟨PySem.W.exm_ref sX4 hX4 tX4 mX6_4, ⟨PySem.W.exm_ref sX4 hX4 tX4 mX5_4, ⟨PySem.W.exm_ref sX4 hX4 tX4 mX4_4, ⟨PySem.W.exm_ref sX4 hX4 tX4 mX3_4, ⟨PySem.W.exm_ref sX4 hX4 tX4 mX2_4, trivial⟩⟩⟩⟩⟩⟩⟩⟩⟩⟩, ⟨X3, rfl, PySem.W.mg_of X G aX3, eX3, kX3, sX3, tX3, allI ⟨PySem.W.exm_ref sX3 hX3 tX3 mX1_3, ⟨PySem.W.exm_ref sX3 hX3 tX3 mX0_3, ⟨PySem.W.exm_ref sX3 hX3 tX3 mX8_3, ⟨PySem.W.exm_ref sX3 hX3 tX3 mX7_3, ⟨PySem.W.exm_ref sX3 hX3 tX3 mX6_3, ⟨PySem.W.exm_ref sX3 hX3 tX3 mX5_3, ⟨PySem.W.exm_ref sX3 hX3 tX3 mX4_3, ⟨PySem.W.exm_ref sX3 hX3 tX3 mX3_3, ⟨PySem.W.exm_ref sX3 hX3 tX3 mX2_3, trivial⟩⟩⟩⟩⟩⟩⟩⟩⟩⟩, ⟨X2, rfl, PySem.W.mg_of X G aX2, eX2, kX2, sX2, tX2, allI ⟨PySem.W.exm_ref sX2 hX2 tX2 mX1_2, ⟨PySem.W.exm_ref sX2 hX2 tX2 mX0_2, ⟨PySem.W.exm_ref sX2 hX2 tX2 mX8_2, ⟨PySem.W.exm_ref sX2 hX2 tX2 mX7_2, ⟨PySem.W.exm_ref sX2 hX2 tX2 mX6_2, ⟨PySem.W.exm_ref sX2 hX2 tX2 mX5_2, ⟨PySem.W.exm_ref sX2 hX2 tX2 mX4_2, ⟨PySem.W.exm_ref sX2 hX2 tX2 mX3_2, ⟨PySem.W.exm_ref sX2 hX2 tX2 mX2_2, trivial⟩⟩⟩⟩⟩⟩⟩⟩⟩⟩, ⟨.ty "ValueError", .type "ValueError", ⟨.ty _, rfl, .inr ⟨PySem.W.mg_none_of X G zX9, by kernel_rfl, rfl, by decide⟩⟩, allI ⟨iX1_9, ⟨iX0_9, ⟨iX8_9, ⟨iX7_9, ⟨iX6_9, ⟨iX5_9, ⟨iX4_9, ⟨iX3_9, ⟨iX2_9, trivial⟩⟩⟩⟩⟩⟩⟩⟩⟩⟩, ⟨.ref X8, .ref X8, ⟨.own _, rfl, .inl ⟨PySem.W.mg_of X G aX8, rfl⟩⟩, allI ⟨iX1_8, ⟨iX0_8, ⟨iX8_8, ⟨iX7_8, ⟨iX6_8, ⟨iX5_8, ⟨iX4_8, ⟨iX3_8, ⟨iX2_8, trivial⟩⟩⟩⟩⟩⟩⟩⟩⟩⟩, ⟨.ref X7, .ref X7, ⟨.own _, rfl, .inl ⟨PySem.W.mg_of X G aX7, rfl⟩⟩, allI ⟨iX1_7, ⟨iX0_7, ⟨iX8_7, ⟨iX7_7, ⟨iX6_7, ⟨iX5_7, ⟨iX4_7, ⟨iX3_7, ⟨iX2_7, trivial⟩⟩⟩⟩⟩⟩⟩⟩⟩⟩, ⟨.ref X6, .ref X6, ⟨.own _, rfl, .inl ⟨PySem.W.mg_of X G aX6, rfl⟩⟩, allI ⟨iX1_6, ⟨iX0_6, ⟨iX8_6, ⟨iX7_6, ⟨iX6_6, ⟨iX5_6, ⟨iX4_6, ⟨iX3_6, ⟨iX2_6, trivial⟩⟩⟩⟩⟩⟩⟩⟩⟩⟩, ⟨.ref X5, .ref X5, ⟨.own _, rfl, .inl ⟨PySem.W.mg_of X G aX5, rfl⟩⟩, allI ⟨iX1_5, ⟨iX0_5, ⟨iX8_5, ⟨iX7_5, ⟨iX6_5, ⟨iX5_5, ⟨iX4_5, ⟨iX3_5, ⟨iX2_5, trivial⟩⟩⟩⟩⟩⟩⟩⟩⟩⟩, ⟨.ref X4, .ref X4, ⟨.own _, rfl, .inl ⟨PySem.W.mg_of X G aX4, rfl⟩⟩, allI ⟨iX1_4, ⟨iX0_4, ⟨iX8_4, ⟨iX7_4, ⟨iX6_4, ⟨iX5_4, ⟨iX4_4, ⟨iX3_4, ⟨iX2_4, trivial⟩⟩⟩⟩⟩⟩⟩⟩⟩⟩, ⟨.ref X3, .ref X3, ⟨.own _, rfl, .inl ⟨PySem.W.mg_of X G aX3, rfl⟩⟩, allI ⟨iX1_3, ⟨iX0_3, ⟨iX8_3, ⟨iX7_3, ⟨iX6_3, ⟨iX5_3, ⟨iX4_3, ⟨iX3_3, ⟨iX2_3, trivial⟩⟩⟩⟩⟩⟩⟩⟩⟩⟩, ⟨.ref X2, .ref X2, ⟨.own _, rfl, .inl ⟨PySem.W.mg_of X G aX2, rfl⟩⟩, allI ⟨iX1_2, ⟨iX0_2, ⟨iX8_2, ⟨iX7_2, ⟨iX6_2, ⟨iX5_2, ⟨iX4_2, ⟨iX3_2, ⟨iX2_2, trivial⟩⟩⟩⟩⟩⟩⟩⟩⟩⟩, ⟨.ref X1, .ref X1, ⟨.own _, rfl, .inl ⟨PySem.W.mg_of X G aX1, rfl⟩⟩, allI ⟨iX1_1, ⟨iX0_1, ⟨iX8_1, ⟨iX7_1, ⟨iX6_1, ⟨iX5_1, ⟨iX4_1, ⟨iX3_1, ⟨iX2_1, trivial⟩⟩⟩⟩⟩⟩⟩⟩⟩⟩, allI ⟨⟨cG1, cA1, sX1, hX1, cC1, cN, cT, cM1⟩, ⟨⟨cG0, cA0, sX0, hX0, cC0, cN, cT, cM0⟩, ⟨⟨cG8, cA8, sX8, hX8, cC8, cN, cT, cM8⟩, ⟨⟨cG7, cA7, sX7, hX7, cC7, cN, cT, cM7⟩, ⟨⟨cG6, cA6, sX6, hX6, cC6, cN, cT, cM6⟩, ⟨⟨cG5, cA5, sX5, hX5, cC5, cN, cT, cM5⟩, ⟨⟨cG4, cA4, sX4, hX4, cC4, cN, cT, cM4⟩, ⟨⟨cG3, cA3, sX3, hX3, cC3, cN, cT, cM3⟩, ⟨⟨cG2, cA2, sX2, hX2, cC2, cN, cT, cM2⟩, trivial⟩⟩⟩⟩⟩⟩⟩⟩⟩⟩
  have F0 := fun_mk (st := st0) l0 c0 k0
  have B0 := F0.binds (ps := ["thing"]) fun _ _ _ _ _ _ us hl => match us, hl with | [_], _ => rfl
  have F1 := fun_mk (st := st1) l1 c1 k1
  have B1 := F1.binds (ps := ["thing", "low", "high"]) fun _ _ _ _ _ _ us hl => match us, hl with | [_, _, _], _ => rfl
  have F2 := fun_mk (st := st2) l2 c2 k2
  have B2 := F2.binds (ps := ["thing"]) fun _ _ _ _ _ _ us hl => match us, hl with | [_], _ => rfl
  have F3 := fun_mk (st := st3) l3 c3 k3
  have B3 := F3.binds (ps := ["thing", "texts"]) fun _ _ _ _ _ _ us hl => match us, hl with | [_, _], _ => rfl
  have F4 := fun_mk (st := st4) l4 c4 k4
  have B4 := F4.binds (ps := ["thing"]) fun _ _ _ _ _ _ us hl => match us, hl with | [_], _ => rfl
  have F5 := fun_mk (st := st5) l5 c5 k5
  have B5 := F5.binds (ps := ["sign", "thing"]) fun _ _ _ _ _ _ us hl => match us, hl with | [_, _], _ => rfl
  have F6 := fun_mk (st := st6) l6 c6 k6
  have B6 := F6.binds (ps := ["thing"]) fun _ _ _ _ _ _ us hl => match us, hl with | [_], _ => rfl
  have F7 := fun_mk (st := st7) l7 c7 k7
  have B7 := F7.binds (ps := ["words", "at"]) fun _ _ _ _ _ _ us hl => match us, hl with | [_, _], _ => rfl
  have F8 := fun_mk (st := st8) l8 c8 k8
  have B8 := F8.binds (ps := ["words", "at"]) fun _ _ _ _ _ _ us hl => match us, hl with | [_, _], _ => rfl
  have F9 := fun_mk (st := st9) l9 c9 k9
  have B9 := F9.binds (ps := ["words", "at", "deep"]) fun _ _ _ _ _ _ us hl => match us, hl with | [_, _, _], _ => rfl
  have F10 := fun_mk (st := st10) l10 c10 k10
  have B10 := F10.binds (ps := ["sign", "words", "at", "deep"]) fun _ _ _ _ _ _ us hl => match us, hl with | [_, _, _, _], _ => rfl
  have F11 := fun_mk (st := st11) l11 c11 k11
  have B11 := F11.binds (ps := ["words", "at", "deep"]) fun _ _ _ _ _ _ us hl => match us, hl with | [_, _, _], _ => rfl
  have F12 := fun_mk (st := st12) l12 c12 k12
  have B12 := F12.binds (ps := ["text"]) fun _ _ _ _ _ _ us hl => match us, hl with | [_], _ => rfl
  have F13 := fun_mk (st := st13) l13 c13 k13
  have B13 := F13.binds (ps := ["_law_script"]) fun _ _ _ _ _ _ us hl => match us, hl with | [_], _ => rfl
  have F14 := fun_mk (st := st14) l14 c14 k14
  have B14 := F14.binds (ps := ["_law_deck_here", "_law_most"]) fun _ _ _ _ _ _ us hl => match us, hl with | [_, _], _ => rfl
  have F15 := fun_mk (st := st15) l15 c15 k15
  have B15 := F15.binds (ps := ["_law_deck_here"]) fun _ _ _ _ _ _ us hl => match us, hl with | [_], _ => rfl
  have F16 := fun_mk (st := st16) l16 c16 k16
  have B16 := F16.binds (ps := ["_law_e"]) fun _ _ _ _ _ _ us hl => match us, hl with | [_], _ => rfl
  have F17 := fun_mk (st := st17) l17 c17 k17
  have B17 := F17.binds (ps := ["_law_number", "_law_text"]) fun _ _ _ _ _ _ us hl => match us, hl with | [_, _], _ => rfl
  have F18 := fun_mk (st := st18) l18 c18 k18
  have B18 := F18.binds (ps := ["_law_number", "_law_text"]) fun _ _ _ _ _ _ us hl => match us, hl with | [_, _], _ => rfl
  have F19 := fun_mk (st := st19) l19 c19 k19
  have B19 := F19.binds (ps := ["_law_script"]) fun _ _ _ _ _ _ us hl => match us, hl with | [_], _ => rfl
  refine ⟨PySem.W.fnOf "law" "law" (defArgs st19) (defBody st19) (defScope st19) .none kV19 dc19 pm19 an19 cd19 ct19, (LkX K w [] [] [(1, X1), (0, X0), (8, X8), (7, X7), (6, X6), (5, X5), (4, X4), (3, X3), (2, X2)] fln), fun s v => .of_eq rfl, rfl, rfl, fun base _ _ => ?_⟩
  exact ok19 F19 T (cs_all (PySem.W.mg_of X G a0) F0 B0 (PySem.W.mg_of X G a1) F1 B1 (PySem.W.mg_of X G a2) F2 B2 (PySem.W.mg_of X G a3) F3 B3 (PySem.W.mg_of X G a4) F4 B4 (PySem.W.mg_of X G a5) F5 B5 (PySem.W.mg_of X G a6) F6 B6 (PySem.W.mg_of X G a7) F7 B7 (PySem.W.mg_of X G a8) F8 B8 (PySem.W.mg_of X G a9) F9 B9 (PySem.W.mg_of X G a10) F10 B10 (PySem.W.mg_of X G a11) F11 B11 (PySem.W.mg_of X G a12) F12 B12 (PySem.W.mg_of X G a13) F13 B13 (PySem.W.mg_of X G a14) F14 B14 (PySem.W.mg_of X G a15) F15 B15 (PySem.W.mg_of X G a16) F16 B16 (PySem.W.mg_of X G a17) F17 B17 (PySem.W.mg_of X G a18) F18 B18 (PySem.W.mg_of X G a19) F19 B19 T   109)
end P_k08
end
section
namespace Vm
theorem nr {p : Prop} (h : p) : p := h
@[scoped simp] theorem q0 : type_of% @Vm.M.isMut.eq_1 := @nr _ @Vm.M.isMut.eq_1
@[scoped simp] theorem q1 : type_of% @Vm.M.isMut.eq_2 := @nr _ @Vm.M.isMut.eq_2
@[scoped simp] theorem q2 : type_of% @Vm.M.isMut.eq_3 := @nr _ @Vm.M.isMut.eq_3
@[scoped simp] theorem q3 : type_of% @Vm.M.isMut.eq_4 := @nr _ @Vm.M.isMut.eq_4
@[scoped simp] theorem q4 : type_of% @Vm.M.isMut.eq_5 := @nr _ @Vm.M.isMut.eq_5
@[scoped simp] theorem q5 : type_of% @Vm.frz.eq_1 := @nr _ @Vm.frz.eq_1
@[scoped simp] theorem q6 : type_of% @Vm.frz.eq_2 := @nr _ @Vm.frz.eq_2
@[scoped simp] theorem q7 : type_of% @Vm.frz.eq_3 := @nr _ @Vm.frz.eq_3
@[scoped simp] theorem q8 : type_of% @Vm.frz.eq_4 := @nr _ @Vm.frz.eq_4
@[scoped simp] theorem q9 : type_of% @Vm.frz.eq_5 := @nr _ @Vm.frz.eq_5
@[scoped simp] theorem q10 : type_of% @Vm.frz.eq_6 := @nr _ @Vm.frz.eq_6
@[scoped simp] theorem q11 : type_of% @Vm.frz.eq_7 := @nr _ @Vm.frz.eq_7
@[scoped simp] theorem q12 : type_of% @Vm.frz.eq_8 := @nr _ @Vm.frz.eq_8
@[scoped simp] theorem q13 : type_of% @Vm.frz.eq_9 := @nr _ @Vm.frz.eq_9
@[scoped simp] theorem q14 : type_of% @Vm.frz.eq_10 := @nr _ @Vm.frz.eq_10
@[scoped simp] theorem q15 : type_of% @Vm.frz.eq_11 := @nr _ @Vm.frz.eq_11
@[scoped simp] theorem q16 : type_of% @Vm.frzs.eq_1 := @nr _ @Vm.frzs.eq_1
@[scoped simp] theorem q17 : type_of% @Vm.frzs.eq_2 := @nr _ @Vm.frzs.eq_2
@[scoped simp] theorem q18 : type_of% @Vm.frzk.eq_1 := @nr _ @Vm.frzk.eq_1
@[scoped simp] theorem q19 : type_of% @Vm.frzk.eq_2 := @nr _ @Vm.frzk.eq_2
@[scoped simp] theorem q20 : type_of% @Vm.Res.kill.eq_1 := @nr _ @Vm.Res.kill.eq_1
@[scoped simp] theorem q21 : type_of% @Vm.Res.kill.eq_2 := @nr _ @Vm.Res.kill.eq_2
@[scoped simp] theorem q22 : type_of% @Vm.Res.kill.eq_3 := @nr _ @Vm.Res.kill.eq_3
@[scoped simp] theorem q23 : type_of% @Vm.Fl.kill.eq_1 := @nr _ @Vm.Fl.kill.eq_1
@[scoped simp] theorem q24 : type_of% @Vm.Fl.kill.eq_2 := @nr _ @Vm.Fl.kill.eq_2
@[scoped simp] theorem q25 : type_of% @Vm.Fl.kill.eq_3 := @nr _ @Vm.Fl.kill.eq_3
@[scoped simp] theorem q26 : type_of% @Vm.Fl.kill.eq_4 := @nr _ @Vm.Fl.kill.eq_4
@[scoped simp] theorem q27 : type_of% @Vm.Fl.kill.eq_5 := @nr _ @Vm.Fl.kill.eq_5
@[scoped simp] theorem q28 : type_of% @Vm.Fl.kill.eq_6 := @nr _ @Vm.Fl.kill.eq_6
@[scoped simp] theorem q29 : type_of% @Vm.oif.eq_1 := @nr _ @Vm.oif.eq_1
@[scoped simp] theorem q30 : type_of% @Vm.oif.eq_2 := @nr _ @Vm.oif.eq_2
@[scoped simp] theorem q31 : type_of% @Vm.asInt.eq_1 := @nr _ @Vm.asInt.eq_1
@[scoped simp] theorem q32 : type_of% @Vm.asInt.eq_2 := @nr _ @Vm.asInt.eq_2
@[scoped simp] theorem q33 : type_of% @Vm.asStr.eq_1 := @nr _ @Vm.asStr.eq_1
@[scoped simp] theorem q34 : type_of% @Vm.asStr.eq_2 := @nr _ @Vm.asStr.eq_2
@[scoped simp] theorem q35 : type_of% @Vm.Rv.mv.eq_1 := @nr _ @Vm.Rv.mv.eq_1
@[scoped simp] theorem q36 : type_of% @Vm.Rv.mv.eq_2 := @nr _ @Vm.Rv.mv.eq_2
@[scoped simp] theorem q37 : type_of% @Vm.Rv.dat.eq_1 := @nr _ @Vm.Rv.dat.eq_1
@[scoped simp] theorem q38 : type_of% @Vm.Rv.dat.eq_2 := @nr _ @Vm.Rv.dat.eq_2
@[scoped simp] theorem q39 : type_of% @Vm.M.dat.eq_1 := @nr _ @Vm.M.dat.eq_1
@[scoped simp] theorem q40 : type_of% @Vm.M.dat.eq_2 := @nr _ @Vm.M.dat.eq_2
@[scoped simp] theorem q41 : type_of% @Vm.M.lsts.eq_1 := @nr _ @Vm.M.lsts.eq_1
@[scoped simp] theorem q42 : type_of% @Vm.M.lsts.eq_2 := @nr _ @Vm.M.lsts.eq_2
@[scoped simp] theorem q43 : type_of% @Vm.M.dcts.eq_1 := @nr _ @Vm.M.dcts.eq_1
@[scoped simp] theorem q44 : type_of% @Vm.M.dcts.eq_2 := @nr _ @Vm.M.dcts.eq_2
@[scoped simp] theorem q45 : type_of% @Vm.topP.eq_1 := @nr _ @Vm.topP.eq_1
@[scoped simp] theorem q46 : type_of% @Vm.topP.eq_2 := @nr _ @Vm.topP.eq_2
@[scoped simp] theorem q47 : type_of% @Vm.isKey.eq_1 := @nr _ @Vm.isKey.eq_1
@[scoped simp] theorem q48 : type_of% @Vm.isKey.eq_2 := @nr _ @Vm.isKey.eq_2
@[scoped simp] theorem q49 : type_of% @Vm.isKey.eq_3 := @nr _ @Vm.isKey.eq_3
@[scoped simp] theorem q50 : type_of% @Vm.isKey.eq_4 := @nr _ @Vm.isKey.eq_4
@[scoped simp] theorem q51 : type_of% @Vm.isKey.eq_5 := @nr _ @Vm.isKey.eq_5
@[scoped simp] theorem q52 : type_of% @Vm.isKey.eq_6 := @nr _ @Vm.isKey.eq_6
@[scoped simp] theorem q53 : type_of% @Vm.isKey.eq_7 := @nr _ @Vm.isKey.eq_7
@[scoped simp] theorem q54 : type_of% @Vm.isKeys.eq_1 := @nr _ @Vm.isKeys.eq_1
@[scoped simp] theorem q55 : type_of% @Vm.isKeys.eq_2 := @nr _ @Vm.isKeys.eq_2
@[scoped simp] theorem q56 : type_of% @Vm.lkD.eq_1 := @nr _ @Vm.lkD.eq_1
@[scoped simp] theorem q57 : type_of% @Vm.lkD.eq_2 := @nr _ @Vm.lkD.eq_2
@[scoped simp] theorem q58 : type_of% @Vm.lkN.eq_1 := @nr _ @Vm.lkN.eq_1
@[scoped simp] theorem q59 : type_of% @Vm.lkN.eq_2 := @nr _ @Vm.lkN.eq_2
@[scoped simp] theorem q60 : type_of% @Vm.putD.eq_1 := @nr _ @Vm.putD.eq_1
@[scoped simp] theorem q61 : type_of% @Vm.putD.eq_2 := @nr _ @Vm.putD.eq_2
@[scoped simp] theorem q62 : type_of% @Vm.delD.eq_1 := @nr _ @Vm.delD.eq_1
@[scoped simp] theorem q63 : type_of% @Vm.delD.eq_2 := @nr _ @Vm.delD.eq_2
@[scoped simp] theorem q64 : type_of% @Vm.putN.eq_1 := @nr _ @Vm.putN.eq_1
@[scoped simp] theorem q65 : type_of% @Vm.putN.eq_2 := @nr _ @Vm.putN.eq_2
@[scoped simp] theorem q66 : type_of% @Vm.M.get.eq_1 := @nr _ @Vm.M.get.eq_1
@[scoped simp] theorem q67 : type_of% @Vm.M.get.eq_2 := @nr _ @Vm.M.get.eq_2
@[scoped simp] theorem q68 : type_of% @Vm.M.get.eq_3 := @nr _ @Vm.M.get.eq_3
@[scoped simp] theorem q69 : type_of% @Vm.M.get.eq_4 := @nr _ @Vm.M.get.eq_4
@[scoped simp] theorem q70 : type_of% @Vm.M.get.eq_5 := @nr _ @Vm.M.get.eq_5
@[scoped simp] theorem q71 : type_of% @Vm.modN.eq_1 := @nr _ @Vm.modN.eq_1
@[scoped simp] theorem q72 : type_of% @Vm.modN.eq_2 := @nr _ @Vm.modN.eq_2
@[scoped simp] theorem q73 : type_of% @Vm.modN.eq_3 := @nr _ @Vm.modN.eq_3
@[scoped simp] theorem q74 : type_of% @Vm.modD.eq_1 := @nr _ @Vm.modD.eq_1
@[scoped simp] theorem q75 : type_of% @Vm.modD.eq_2 := @nr _ @Vm.modD.eq_2
@[scoped simp] theorem q76 : type_of% @Vm.modF.eq_1 := @nr _ @Vm.modF.eq_1
@[scoped simp] theorem q77 : type_of% @Vm.modF.eq_2 := @nr _ @Vm.modF.eq_2
@[scoped simp] theorem q78 : type_of% @Vm.M.upd.eq_1 := @nr _ @Vm.M.upd.eq_1
@[scoped simp] theorem q79 : type_of% @Vm.M.upd.eq_2 := @nr _ @Vm.M.upd.eq_2
@[scoped simp] theorem q80 : type_of% @Vm.M.upd.eq_3 := @nr _ @Vm.M.upd.eq_3
@[scoped simp] theorem q81 : type_of% @Vm.M.upd.eq_4 := @nr _ @Vm.M.upd.eq_4
@[scoped simp] theorem q82 : type_of% @Vm.M.upd.eq_5 := @nr _ @Vm.M.upd.eq_5
@[scoped simp] theorem q83 : type_of% @Vm.joinO.eq_1 := @nr _ @Vm.joinO.eq_1
@[scoped simp] theorem q84 : type_of% @Vm.joinO.eq_2 := @nr _ @Vm.joinO.eq_2
@[scoped simp] theorem q85 : type_of% @Vm.St.sget.eq_1 := @nr _ @Vm.St.sget.eq_1
@[scoped simp] theorem q86 : type_of% @Vm.St.get.eq_1 := @nr _ @Vm.St.get.eq_1
@[scoped simp] theorem q87 : type_of% @Vm.St.put.eq_1 := @nr _ @Vm.St.put.eq_1
@[scoped simp] theorem q88 : type_of% @Vm.accEq.eq_1 := @nr _ @Vm.accEq.eq_1
@[scoped simp] theorem q89 : type_of% @Vm.accEq.eq_2 := @nr _ @Vm.accEq.eq_2
@[scoped simp] theorem q90 : type_of% @Vm.accEq.eq_3 := @nr _ @Vm.accEq.eq_3
@[scoped simp] theorem q91 : type_of% @Vm.accEq.eq_4 := @nr _ @Vm.accEq.eq_4
@[scoped simp] theorem q92 : type_of% @Vm.isPre.eq_1 := @nr _ @Vm.isPre.eq_1
@[scoped simp] theorem q93 : type_of% @Vm.isPre.eq_2 := @nr _ @Vm.isPre.eq_2
@[scoped simp] theorem q94 : type_of% @Vm.isPre.eq_3 := @nr _ @Vm.isPre.eq_3
@[scoped simp] theorem q95 : type_of% @Vm.atOrUnder.eq_1 := @nr _ @Vm.atOrUnder.eq_1
@[scoped simp] theorem q96 : type_of% @Vm.under.eq_1 := @nr _ @Vm.under.eq_1
@[scoped simp] theorem q97 : type_of% @Vm.killR.eq_1 := @nr _ @Vm.killR.eq_1
@[scoped simp] theorem q98 : type_of% @Vm.killR.eq_2 := @nr _ @Vm.killR.eq_2
@[scoped simp] theorem q99 : type_of% @Vm.killT.eq_1 := @nr _ @Vm.killT.eq_1
@[scoped simp] theorem q100 : type_of% @Vm.killT.eq_2 := @nr _ @Vm.killT.eq_2
@[scoped simp] theorem q101 : type_of% @Vm.killT.eq_3 := @nr _ @Vm.killT.eq_3
@[scoped simp] theorem q102 : type_of% @Vm.St.kill.eq_1 := @nr _ @Vm.St.kill.eq_1
@[scoped simp] theorem q103 : type_of% @Vm.dropR.eq_1 := @nr _ @Vm.dropR.eq_1
@[scoped simp] theorem q104 : type_of% @Vm.dropR.eq_2 := @nr _ @Vm.dropR.eq_2
@[scoped simp] theorem q105 : type_of% @Vm.St.slot.eq_1 := @nr _ @Vm.St.slot.eq_1
@[scoped simp] theorem q106 : type_of% @Vm.St.push.eq_1 := @nr _ @Vm.St.push.eq_1
@[scoped simp] theorem q107 : type_of% @Vm.St.tms.eq_1 := @nr _ @Vm.St.tms.eq_1
@[scoped simp] theorem q108 : type_of% @Vm.rdM.eq_1 := @nr _ @Vm.rdM.eq_1
@[scoped simp] theorem q109 : type_of% @Vm.rdM.eq_2 := @nr _ @Vm.rdM.eq_2
@[scoped simp] theorem q110 : type_of% @Vm.rdM.eq_3 := @nr _ @Vm.rdM.eq_3
@[scoped simp] theorem q111 : type_of% @Vm.rd.eq_1 := @nr _ @Vm.rd.eq_1
@[scoped simp] theorem q112 : type_of% @Vm.St.val.eq_1 := @nr _ @Vm.St.val.eq_1
@[scoped simp] theorem q113 : type_of% @Vm.St.val.eq_2 := @nr _ @Vm.St.val.eq_2
@[scoped simp] theorem q114 : type_of% @Vm.sto.eq_1 := @nr _ @Vm.sto.eq_1
@[scoped simp] theorem q115 : type_of% @Vm.sto.eq_2 := @nr _ @Vm.sto.eq_2
@[scoped simp] theorem q116 : type_of% @Vm.stoD.eq_1 := @nr _ @Vm.stoD.eq_1
@[scoped simp] theorem q117 : type_of% @Vm.asSeq.eq_1 := @nr _ @Vm.asSeq.eq_1
@[scoped simp] theorem q118 : type_of% @Vm.asSeq.eq_2 := @nr _ @Vm.asSeq.eq_2
@[scoped simp] theorem q119 : type_of% @Vm.asSeq.eq_3 := @nr _ @Vm.asSeq.eq_3
@[scoped simp] theorem q120 : type_of% @Vm.asSeq.eq_4 := @nr _ @Vm.asSeq.eq_4
@[scoped simp] theorem q121 : type_of% @Vm.allD.eq_1 := @nr _ @Vm.allD.eq_1
@[scoped simp] theorem q122 : type_of% @Vm.allD.eq_2 := @nr _ @Vm.allD.eq_2
@[scoped simp] theorem q123 : type_of% @Vm.allD.eq_3 := @nr _ @Vm.allD.eq_3
@[scoped simp] theorem q124 : type_of% @Vm.kidsM.eq_1 := @nr _ @Vm.kidsM.eq_1
@[scoped simp] theorem q125 : type_of% @Vm.kidsM.eq_2 := @nr _ @Vm.kidsM.eq_2
@[scoped simp] theorem q126 : type_of% @Vm.kids.eq_1 := @nr _ @Vm.kids.eq_1
@[scoped simp] theorem q127 : type_of% @Vm.kids.eq_2 := @nr _ @Vm.kids.eq_2
@[scoped simp] theorem q128 : type_of% @Vm.bopD.eq_1 := @nr _ @Vm.bopD.eq_1
@[scoped simp] theorem q129 : type_of% @Vm.bopD.eq_2 := @nr _ @Vm.bopD.eq_2
@[scoped simp] theorem q130 : type_of% @Vm.bopD.eq_3 := @nr _ @Vm.bopD.eq_3
@[scoped simp] theorem q131 : type_of% @Vm.bopD.eq_4 := @nr _ @Vm.bopD.eq_4
@[scoped simp] theorem q132 : type_of% @Vm.bopD.eq_5 := @nr _ @Vm.bopD.eq_5
@[scoped simp] theorem q133 : type_of% @Vm.bopD.eq_6 := @nr _ @Vm.bopD.eq_6
@[scoped simp] theorem q134 : type_of% @Vm.bopD.eq_7 := @nr _ @Vm.bopD.eq_7
@[scoped simp] theorem q135 : type_of% @Vm.bopD.eq_8 := @nr _ @Vm.bopD.eq_8
@[scoped simp] theorem q136 : type_of% @Vm.bopD.eq_9 := @nr _ @Vm.bopD.eq_9
@[scoped simp] theorem q137 : type_of% @Vm.bopD.eq_10 := @nr _ @Vm.bopD.eq_10
@[scoped simp] theorem q138 : type_of% @Vm.bopD.eq_11 := @nr _ @Vm.bopD.eq_11
@[scoped simp] theorem q139 : type_of% @Vm.isSc.eq_1 := @nr _ @Vm.isSc.eq_1
@[scoped simp] theorem q140 : type_of% @Vm.isSc.eq_2 := @nr _ @Vm.isSc.eq_2
@[scoped simp] theorem q141 : type_of% @Vm.isSc.eq_3 := @nr _ @Vm.isSc.eq_3
@[scoped simp] theorem q142 : type_of% @Vm.isSc.eq_4 := @nr _ @Vm.isSc.eq_4
@[scoped simp] theorem q143 : type_of% @Vm.isSc.eq_5 := @nr _ @Vm.isSc.eq_5
@[scoped simp] theorem q144 : type_of% @Vm.shal.eq_1 := @nr _ @Vm.shal.eq_1
@[scoped simp] theorem q145 : type_of% @Vm.emS.eq_1 := @nr _ @Vm.emS.eq_1
@[scoped simp] theorem q146 : type_of% @Vm.emS.eq_2 := @nr _ @Vm.emS.eq_2
@[scoped simp] theorem q147 : type_of% @Vm.emS.eq_3 := @nr _ @Vm.emS.eq_3
@[scoped simp] theorem q148 : type_of% @Vm.seS.eq_1 := @nr _ @Vm.seS.eq_1
@[scoped simp] theorem q149 : type_of% @Vm.seS.eq_2 := @nr _ @Vm.seS.eq_2
@[scoped simp] theorem q150 : type_of% @Vm.seS.eq_3 := @nr _ @Vm.seS.eq_3
@[scoped simp] theorem q151 : type_of% @Vm.isKK.eq_1 := @nr _ @Vm.isKK.eq_1
@[scoped simp] theorem q152 : type_of% @Vm.isKK.eq_2 := @nr _ @Vm.isKK.eq_2
@[scoped simp] theorem q153 : type_of% @Vm.isKK.eq_3 := @nr _ @Vm.isKK.eq_3
@[scoped simp] theorem q154 : type_of% @Vm.isNK.eq_1 := @nr _ @Vm.isNK.eq_1
@[scoped simp] theorem q155 : type_of% @Vm.isNK.eq_2 := @nr _ @Vm.isNK.eq_2
@[scoped simp] theorem q156 : type_of% @Vm.hasN.eq_1 := @nr _ @Vm.hasN.eq_1
@[scoped simp] theorem q157 : type_of% @Vm.inList.eq_1 := @nr _ @Vm.inList.eq_1
@[scoped simp] theorem q158 : type_of% @Vm.inStr.eq_1 := @nr _ @Vm.inStr.eq_1
@[scoped simp] theorem q159 : type_of% @Vm.inStr.eq_2 := @nr _ @Vm.inStr.eq_2
@[scoped simp] theorem q160 : type_of% @Vm.hasK.eq_1 := @nr _ @Vm.hasK.eq_1
@[scoped simp] theorem q161 : type_of% @Vm.isinD.eq_1 := @nr _ @Vm.isinD.eq_1
@[scoped simp] theorem q162 : type_of% @Vm.isinD.eq_2 := @nr _ @Vm.isinD.eq_2
@[scoped simp] theorem q163 : type_of% @Vm.isinD.eq_3 := @nr _ @Vm.isinD.eq_3
@[scoped simp] theorem q164 : type_of% @Vm.isinD.eq_4 := @nr _ @Vm.isinD.eq_4
@[scoped simp] theorem q165 : type_of% @Vm.isinD.eq_5 := @nr _ @Vm.isinD.eq_5
@[scoped simp] theorem q166 : type_of% @Vm.isinD.eq_6 := @nr _ @Vm.isinD.eq_6
@[scoped simp] theorem q167 : type_of% @Vm.isinD.eq_7 := @nr _ @Vm.isinD.eq_7
@[scoped simp] theorem q168 : type_of% @Vm.isinD.eq_8 := @nr _ @Vm.isinD.eq_8
@[scoped simp] theorem q169 : type_of% @Vm.isinD.eq_9 := @nr _ @Vm.isinD.eq_9
@[scoped simp] theorem q170 : type_of% @Vm.isinD.eq_10 := @nr _ @Vm.isinD.eq_10
@[scoped simp] theorem q171 : type_of% @Vm.cmpD.eq_1 := @nr _ @Vm.cmpD.eq_1
@[scoped simp] theorem q172 : type_of% @Vm.cmpD.eq_2 := @nr _ @Vm.cmpD.eq_2
@[scoped simp] theorem q173 : type_of% @Vm.cmpD.eq_3 := @nr _ @Vm.cmpD.eq_3
@[scoped simp] theorem q174 : type_of% @Vm.cmpD.eq_4 := @nr _ @Vm.cmpD.eq_4
@[scoped simp] theorem q175 : type_of% @Vm.cmpD.eq_5 := @nr _ @Vm.cmpD.eq_5
@[scoped simp] theorem q176 : type_of% @Vm.cmpD.eq_6 := @nr _ @Vm.cmpD.eq_6
@[scoped simp] theorem q177 : type_of% @Vm.cmpD.eq_7 := @nr _ @Vm.cmpD.eq_7
@[scoped simp] theorem q178 : type_of% @Vm.cmpD.eq_8 := @nr _ @Vm.cmpD.eq_8
@[scoped simp] theorem q179 : type_of% @Vm.cmpD.eq_9 := @nr _ @Vm.cmpD.eq_9
@[scoped simp] theorem q180 : type_of% @Vm.isConst.eq_1 := @nr _ @Vm.isConst.eq_1
@[scoped simp] theorem q181 : type_of% @Vm.isConst.eq_2 := @nr _ @Vm.isConst.eq_2
@[scoped simp] theorem q182 : type_of% @Vm.isConst.eq_3 := @nr _ @Vm.isConst.eq_3
@[scoped simp] theorem q183 : type_of% @Vm.isConst.eq_4 := @nr _ @Vm.isConst.eq_4
@[scoped simp] theorem q184 : type_of% @Vm.isConst.eq_5 := @nr _ @Vm.isConst.eq_5
@[scoped simp] theorem q185 : type_of% @Vm.isConst.eq_6 := @nr _ @Vm.isConst.eq_6
@[scoped simp] theorem q186 : type_of% @Vm.isConst.eq_7 := @nr _ @Vm.isConst.eq_7
@[scoped simp] theorem q187 : type_of% @Vm.isConst.eq_8 := @nr _ @Vm.isConst.eq_8
@[scoped simp] theorem q188 : type_of% @Vm.isConst.eq_9 := @nr _ @Vm.isConst.eq_9
@[scoped simp] theorem q189 : type_of% @Vm.isM.eq_1 := @nr _ @Vm.isM.eq_1
@[scoped simp] theorem q190 : type_of% @Vm.isM.eq_2 := @nr _ @Vm.isM.eq_2
@[scoped simp] theorem q191 : type_of% @Vm.isM.eq_3 := @nr _ @Vm.isM.eq_3
@[scoped simp] theorem q192 : type_of% @Vm.isM.eq_4 := @nr _ @Vm.isM.eq_4
@[scoped simp] theorem q193 : type_of% @Vm.isM.eq_5 := @nr _ @Vm.isM.eq_5
@[scoped simp] theorem q194 : type_of% @Vm.cmpM.eq_1 := @nr _ @Vm.cmpM.eq_1
@[scoped simp] theorem q195 : type_of% @Vm.cmpM.eq_2 := @nr _ @Vm.cmpM.eq_2
@[scoped simp] theorem q196 : type_of% @Vm.cmpM.eq_3 := @nr _ @Vm.cmpM.eq_3
@[scoped simp] theorem q197 : type_of% @Vm.cmpM.eq_4 := @nr _ @Vm.cmpM.eq_4
@[scoped simp] theorem q198 : type_of% @Vm.cmpM.eq_5 := @nr _ @Vm.cmpM.eq_5
@[scoped simp] theorem q199 : type_of% @Vm.cmpM.eq_6 := @nr _ @Vm.cmpM.eq_6
@[scoped simp] theorem q200 : type_of% @Vm.cmpM.eq_7 := @nr _ @Vm.cmpM.eq_7
@[scoped simp] theorem q201 : type_of% @Vm.cmpM.eq_8 := @nr _ @Vm.cmpM.eq_8
@[scoped simp] theorem q202 : type_of% @Vm.cmpM.eq_9 := @nr _ @Vm.cmpM.eq_9
@[scoped simp] theorem q203 : type_of% @Vm.cmpM.eq_10 := @nr _ @Vm.cmpM.eq_10
@[scoped simp] theorem q204 : type_of% @Vm.truD.eq_1 := @nr _ @Vm.truD.eq_1
@[scoped simp] theorem q205 : type_of% @Vm.truD.eq_2 := @nr _ @Vm.truD.eq_2
@[scoped simp] theorem q206 : type_of% @Vm.truD.eq_3 := @nr _ @Vm.truD.eq_3
@[scoped simp] theorem q207 : type_of% @Vm.truD.eq_4 := @nr _ @Vm.truD.eq_4
@[scoped simp] theorem q208 : type_of% @Vm.truD.eq_5 := @nr _ @Vm.truD.eq_5
@[scoped simp] theorem q209 : type_of% @Vm.truD.eq_6 := @nr _ @Vm.truD.eq_6
@[scoped simp] theorem q210 : type_of% @Vm.truD.eq_7 := @nr _ @Vm.truD.eq_7
@[scoped simp] theorem q211 : type_of% @Vm.truM.eq_1 := @nr _ @Vm.truM.eq_1
@[scoped simp] theorem q212 : type_of% @Vm.truM.eq_2 := @nr _ @Vm.truM.eq_2
@[scoped simp] theorem q213 : type_of% @Vm.truM.eq_3 := @nr _ @Vm.truM.eq_3
@[scoped simp] theorem q214 : type_of% @Vm.truM.eq_4 := @nr _ @Vm.truM.eq_4
@[scoped simp] theorem q215 : type_of% @Vm.truM.eq_5 := @nr _ @Vm.truM.eq_5
@[scoped simp] theorem q216 : type_of% @Vm.nix.eq_1 := @nr _ @Vm.nix.eq_1
@[scoped simp] theorem q217 : type_of% @Vm.slc.eq_1 := @nr _ @Vm.slc.eq_1
@[scoped simp] theorem q218 : type_of% @Vm.slc.eq_2 := @nr _ @Vm.slc.eq_2
@[scoped simp] theorem q219 : type_of% @Vm.slc.eq_3 := @nr _ @Vm.slc.eq_3
@[scoped simp] theorem q220 : type_of% @Vm.intsD.eq_1 := @nr _ @Vm.intsD.eq_1
@[scoped simp] theorem q221 : type_of% @Vm.intsD.eq_2 := @nr _ @Vm.intsD.eq_2
@[scoped simp] theorem q222 : type_of% @Vm.asBool.eq_1 := @nr _ @Vm.asBool.eq_1
@[scoped simp] theorem q223 : type_of% @Vm.asBool.eq_2 := @nr _ @Vm.asBool.eq_2
@[scoped simp] theorem q224 : type_of% @Vm.boolsD.eq_1 := @nr _ @Vm.boolsD.eq_1
@[scoped simp] theorem q225 : type_of% @Vm.boolsD.eq_2 := @nr _ @Vm.boolsD.eq_2
@[scoped simp] theorem q226 : type_of% @Vm.asTup.eq_1 := @nr _ @Vm.asTup.eq_1
@[scoped simp] theorem q227 : type_of% @Vm.asTup.eq_2 := @nr _ @Vm.asTup.eq_2
@[scoped simp] theorem q228 : type_of% @Vm.minT.eq_1 := @nr _ @Vm.minT.eq_1
@[scoped simp] theorem q229 : type_of% @Vm.minT.eq_2 := @nr _ @Vm.minT.eq_2
@[scoped simp] theorem q230 : type_of% @Vm.textsD.eq_1 := @nr _ @Vm.textsD.eq_1
@[scoped simp] theorem q231 : type_of% @Vm.textsD.eq_2 := @nr _ @Vm.textsD.eq_2
@[scoped simp] theorem q232 : type_of% @Vm.minO.eq_1 := @nr _ @Vm.minO.eq_1
@[scoped simp] theorem q233 : type_of% @Vm.minO.eq_2 := @nr _ @Vm.minO.eq_2
@[scoped simp] theorem q234 : type_of% @Vm.minO.eq_3 := @nr _ @Vm.minO.eq_3
@[scoped simp] theorem q235 : type_of% @Vm.asPair.eq_1 := @nr _ @Vm.asPair.eq_1
@[scoped simp] theorem q236 : type_of% @Vm.asPair.eq_2 := @nr _ @Vm.asPair.eq_2
@[scoped simp] theorem q237 : type_of% @Vm.isTupC.eq_1 := @nr _ @Vm.isTupC.eq_1
@[scoped simp] theorem q238 : type_of% @Vm.isTupC.eq_2 := @nr _ @Vm.isTupC.eq_2
@[scoped simp] theorem q239 : type_of% @Vm.isOth.eq_1 := @nr _ @Vm.isOth.eq_1
@[scoped simp] theorem q240 : type_of% @Vm.isOth.eq_2 := @nr _ @Vm.isOth.eq_2
@[scoped simp] theorem q241 : type_of% @Vm.isOth.eq_3 := @nr _ @Vm.isOth.eq_3
@[scoped simp] theorem q242 : type_of% @Vm.kitT.eq_1 := @nr _ @Vm.kitT.eq_1
@[scoped simp] theorem q243 : type_of% @Vm.kitT.eq_2 := @nr _ @Vm.kitT.eq_2
@[scoped simp] theorem q244 : type_of% @Vm.kitT.eq_3 := @nr _ @Vm.kitT.eq_3
@[scoped simp] theorem q245 : type_of% @Vm.kitT.eq_4 := @nr _ @Vm.kitT.eq_4
@[scoped simp] theorem q246 : type_of% @Vm.kitT.eq_5 := @nr _ @Vm.kitT.eq_5
@[scoped simp] theorem q247 : type_of% @Vm.kitT.eq_6 := @nr _ @Vm.kitT.eq_6
@[scoped simp] theorem q248 : type_of% @Vm.kitT.eq_7 := @nr _ @Vm.kitT.eq_7
@[scoped simp] theorem q249 : type_of% @Vm.kitT.eq_8 := @nr _ @Vm.kitT.eq_8
@[scoped simp] theorem q250 : type_of% @Vm.tyIx.eq_1 := @nr _ @Vm.tyIx.eq_1
@[scoped simp] theorem q251 : type_of% @Vm.tyIx.eq_2 := @nr _ @Vm.tyIx.eq_2
@[scoped simp] theorem q252 : type_of% @Vm.tyIx.eq_3 := @nr _ @Vm.tyIx.eq_3
@[scoped simp] theorem q253 : type_of% @Vm.tyIx.eq_4 := @nr _ @Vm.tyIx.eq_4
@[scoped simp] theorem q254 : type_of% @Vm.tyIx.eq_5 := @nr _ @Vm.tyIx.eq_5
@[scoped simp] theorem q255 : type_of% @Vm.tyIx.eq_6 := @nr _ @Vm.tyIx.eq_6
@[scoped simp] theorem q256 : type_of% @Vm.tyIx.eq_7 := @nr _ @Vm.tyIx.eq_7
@[scoped simp] theorem q257 : type_of% @Vm.tyIx.eq_8 := @nr _ @Vm.tyIx.eq_8
@[scoped simp] theorem q258 : type_of% @Vm.tyIx.eq_9 := @nr _ @Vm.tyIx.eq_9
@[scoped simp] theorem q259 : type_of% @Vm.tyIx.eq_10 := @nr _ @Vm.tyIx.eq_10
@[scoped simp] theorem q260 : type_of% @Vm.isInst.eq_1 := @nr _ @Vm.isInst.eq_1
@[scoped simp] theorem q261 : type_of% @Vm.okV.eq_1 := @nr _ @Vm.okV.eq_1
@[scoped simp] theorem q262 : type_of% @Vm.okB.eq_1 := @nr _ @Vm.okB.eq_1
@[scoped simp] theorem q263 : type_of% @Vm.kidsL.eq_1 := @nr _ @Vm.kidsL.eq_1
@[scoped simp] theorem q264 : type_of% @Vm.kidsL.eq_2 := @nr _ @Vm.kidsL.eq_2
@[scoped simp] theorem q265 : type_of% @Vm.kidsL.eq_3 := @nr _ @Vm.kidsL.eq_3
@[scoped simp] theorem q266 : type_of% @Vm.okTwo.eq_1 := @nr _ @Vm.okTwo.eq_1
@[scoped simp] theorem q267 : type_of% @Vm.okTwo.eq_2 := @nr _ @Vm.okTwo.eq_2
@[scoped simp] theorem q268 : type_of% @Vm.datsM.eq_1 := @nr _ @Vm.datsM.eq_1
@[scoped simp] theorem q269 : type_of% @Vm.datsM.eq_2 := @nr _ @Vm.datsM.eq_2
@[scoped simp] theorem q270 : type_of% @Vm.datsM.eq_3 := @nr _ @Vm.datsM.eq_3
@[scoped simp] theorem q271 : type_of% @Vm.catD.eq_1 := @nr _ @Vm.catD.eq_1
@[scoped simp] theorem q272 : type_of% @Vm.catD.eq_2 := @nr _ @Vm.catD.eq_2
@[scoped simp] theorem q273 : type_of% @Vm.catD.eq_3 := @nr _ @Vm.catD.eq_3
@[scoped simp] theorem q274 : type_of% @Vm.addP.eq_1 := @nr _ @Vm.addP.eq_1
@[scoped simp] theorem q275 : type_of% @Vm.catP.eq_1 := @nr _ @Vm.catP.eq_1
@[scoped simp] theorem q276 : type_of% @Vm.catP.eq_2 := @nr _ @Vm.catP.eq_2
@[scoped simp] theorem q277 : type_of% @Vm.catP.eq_3 := @nr _ @Vm.catP.eq_3
@[scoped simp] theorem q278 : type_of% @Vm.addQ.eq_1 := @nr _ @Vm.addQ.eq_1
@[scoped simp] theorem q279 : type_of% @Vm.addQ.eq_2 := @nr _ @Vm.addQ.eq_2
@[scoped simp] theorem q280 : type_of% @Vm.addL.eq_1 := @nr _ @Vm.addL.eq_1
@[scoped simp] theorem q281 : type_of% @Vm.addL.eq_2 := @nr _ @Vm.addL.eq_2
@[scoped simp] theorem q282 : type_of% @Vm.bopL.eq_1 := @nr _ @Vm.bopL.eq_1
@[scoped simp] theorem q283 : type_of% @Vm.bopL.eq_2 := @nr _ @Vm.bopL.eq_2
@[scoped simp] theorem q284 : type_of% @Vm.bopL.eq_3 := @nr _ @Vm.bopL.eq_3
@[scoped simp] theorem q285 : type_of% @Vm.bopR.eq_1 := @nr _ @Vm.bopR.eq_1
@[scoped simp] theorem q286 : type_of% @Vm.bopR.eq_2 := @nr _ @Vm.bopR.eq_2
@[scoped simp] theorem q287 : type_of% @Vm.item.eq_1 := @nr _ @Vm.item.eq_1
@[scoped simp] theorem q288 : type_of% @Vm.item.eq_2 := @nr _ @Vm.item.eq_2
@[scoped simp] theorem q289 : type_of% @Vm.atD.eq_1 := @nr _ @Vm.atD.eq_1
@[scoped simp] theorem q290 : type_of% @Vm.subM.eq_1 := @nr _ @Vm.subM.eq_1
@[scoped simp] theorem q291 : type_of% @Vm.subM.eq_2 := @nr _ @Vm.subM.eq_2
@[scoped simp] theorem q292 : type_of% @Vm.subM.eq_3 := @nr _ @Vm.subM.eq_3
@[scoped simp] theorem q293 : type_of% @Vm.subM.eq_4 := @nr _ @Vm.subM.eq_4
@[scoped simp] theorem q294 : type_of% @Vm.subM.eq_5 := @nr _ @Vm.subM.eq_5
@[scoped simp] theorem q295 : type_of% @Vm.subM.eq_6 := @nr _ @Vm.subM.eq_6
@[scoped simp] theorem q296 : type_of% @Vm.subM.eq_7 := @nr _ @Vm.subM.eq_7
@[scoped simp] theorem q297 : type_of% @Vm.subM.eq_8 := @nr _ @Vm.subM.eq_8
@[scoped simp] theorem q298 : type_of% @Vm.subM.eq_9 := @nr _ @Vm.subM.eq_9
@[scoped simp] theorem q299 : type_of% @Vm.subR.eq_1 := @nr _ @Vm.subR.eq_1
@[scoped simp] theorem q300 : type_of% @Vm.Step.isOne.eq_1 := @nr _ @Vm.Step.isOne.eq_1
@[scoped simp] theorem q301 : type_of% @Vm.Step.isOne.eq_2 := @nr _ @Vm.Step.isOne.eq_2
@[scoped simp] theorem q302 : type_of% @Vm.Step.isTup.eq_1 := @nr _ @Vm.Step.isTup.eq_1
@[scoped simp] theorem q303 : type_of% @Vm.Step.isTup.eq_2 := @nr _ @Vm.Step.isTup.eq_2
@[scoped simp] theorem q304 : type_of% @Vm.Step.isTup.eq_3 := @nr _ @Vm.Step.isTup.eq_3
@[scoped simp] theorem q305 : type_of% @Vm.sliR.eq_1 := @nr _ @Vm.sliR.eq_1
@[scoped simp] theorem q306 : type_of% @Vm.sliR.eq_2 := @nr _ @Vm.sliR.eq_2
@[scoped simp] theorem q307 : type_of% @Vm.sliR.eq_3 := @nr _ @Vm.sliR.eq_3
@[scoped simp] theorem q308 : type_of% @Vm.sliR.eq_4 := @nr _ @Vm.sliR.eq_4
@[scoped simp] theorem q309 : type_of% @Vm.sliR.eq_5 := @nr _ @Vm.sliR.eq_5
@[scoped simp] theorem q310 : type_of% @Vm.sliR.eq_6 := @nr _ @Vm.sliR.eq_6
@[scoped simp] theorem q311 : type_of% @Vm.M.flds.eq_1 := @nr _ @Vm.M.flds.eq_1
@[scoped simp] theorem q312 : type_of% @Vm.M.flds.eq_2 := @nr _ @Vm.M.flds.eq_2
@[scoped simp] theorem q313 : type_of% @Vm.attrR.eq_1 := @nr _ @Vm.attrR.eq_1
@[scoped simp] theorem q314 : type_of% @Vm.apR.eq_1 := @nr _ @Vm.apR.eq_1
@[scoped simp] theorem q315 : type_of% @Vm.apR.eq_2 := @nr _ @Vm.apR.eq_2
@[scoped simp] theorem q316 : type_of% @Vm.apR.eq_3 := @nr _ @Vm.apR.eq_3
@[scoped simp] theorem q317 : type_of% @Vm.apart.eq_1 := @nr _ @Vm.apart.eq_1
@[scoped simp] theorem q318 : type_of% @Vm.apart.eq_2 := @nr _ @Vm.apart.eq_2
@[scoped simp] theorem q319 : type_of% @Vm.apart.eq_3 := @nr _ @Vm.apart.eq_3
@[scoped simp] theorem q320 : type_of% @Vm.vals.eq_1 := @nr _ @Vm.vals.eq_1
@[scoped simp] theorem q321 : type_of% @Vm.vals.eq_2 := @nr _ @Vm.vals.eq_2
@[scoped simp] theorem q322 : type_of% @Vm.back.eq_1 := @nr _ @Vm.back.eq_1
@[scoped simp] theorem q323 : type_of% @Vm.back.eq_2 := @nr _ @Vm.back.eq_2
@[scoped simp] theorem q324 : type_of% @Vm.back.eq_3 := @nr _ @Vm.back.eq_3
@[scoped simp] theorem q325 : type_of% @Vm.retP.eq_1 := @nr _ @Vm.retP.eq_1
@[scoped simp] theorem q326 : type_of% @Vm.retP.eq_2 := @nr _ @Vm.retP.eq_2
@[scoped simp] theorem q327 : type_of% @Vm.cend.eq_1 := @nr _ @Vm.cend.eq_1
@[scoped simp] theorem q328 : type_of% @Vm.cend.eq_2 := @nr _ @Vm.cend.eq_2
@[scoped simp] theorem q329 : type_of% @Vm.cend.eq_3 := @nr _ @Vm.cend.eq_3
@[scoped simp] theorem q330 : type_of% @Vm.cend.eq_4 := @nr _ @Vm.cend.eq_4
@[scoped simp] theorem q331 : type_of% @Vm.callR.eq_1 := @nr _ @Vm.callR.eq_1
@[scoped simp] theorem q332 : type_of% @Vm.eqP.eq_1 := @nr _ @Vm.eqP.eq_1
@[scoped simp] theorem q333 : type_of% @Vm.eqP.eq_2 := @nr _ @Vm.eqP.eq_2
@[scoped simp] theorem q334 : type_of% @Vm.eqP.eq_3 := @nr _ @Vm.eqP.eq_3
@[scoped simp] theorem q335 : type_of% @Vm.ghAt.eq_1 := @nr _ @Vm.ghAt.eq_1
@[scoped simp] theorem q336 : type_of% @Vm.backg.eq_1 := @nr _ @Vm.backg.eq_1
@[scoped simp] theorem q337 : type_of% @Vm.backg.eq_2 := @nr _ @Vm.backg.eq_2
@[scoped simp] theorem q338 : type_of% @Vm.backg.eq_3 := @nr _ @Vm.backg.eq_3
@[scoped simp] theorem q339 : type_of% @Vm.cendg.eq_1 := @nr _ @Vm.cendg.eq_1
@[scoped simp] theorem q340 : type_of% @Vm.cendg.eq_2 := @nr _ @Vm.cendg.eq_2
@[scoped simp] theorem q341 : type_of% @Vm.cendg.eq_3 := @nr _ @Vm.cendg.eq_3
@[scoped simp] theorem q342 : type_of% @Vm.callRg.eq_1 := @nr _ @Vm.callRg.eq_1
@[scoped simp] theorem q343 : type_of% @Vm.mend.eq_1 := @nr _ @Vm.mend.eq_1
@[scoped simp] theorem q344 : type_of% @Vm.mend.eq_2 := @nr _ @Vm.mend.eq_2
@[scoped simp] theorem q345 : type_of% @Vm.mend.eq_3 := @nr _ @Vm.mend.eq_3
@[scoped simp] theorem q346 : type_of% @Vm.mkR.eq_1 := @nr _ @Vm.mkR.eq_1
@[scoped simp] theorem q347 : type_of% @Vm.seqD.eq_1 := @nr _ @Vm.seqD.eq_1
@[scoped simp] theorem q348 : type_of% @Vm.seqD.eq_2 := @nr _ @Vm.seqD.eq_2
@[scoped simp] theorem q349 : type_of% @Vm.seqD.eq_3 := @nr _ @Vm.seqD.eq_3
@[scoped simp] theorem q350 : type_of% @Vm.seqD.eq_4 := @nr _ @Vm.seqD.eq_4
@[scoped simp] theorem q351 : type_of% @Vm.tupM.eq_1 := @nr _ @Vm.tupM.eq_1
@[scoped simp] theorem q352 : type_of% @Vm.tupM.eq_2 := @nr _ @Vm.tupM.eq_2
@[scoped simp] theorem q353 : type_of% @Vm.nonM.eq_1 := @nr _ @Vm.nonM.eq_1
@[scoped simp] theorem q354 : type_of% @Vm.getK.eq_1 := @nr _ @Vm.getK.eq_1
@[scoped simp] theorem q355 : type_of% @Vm.getK.eq_2 := @nr _ @Vm.getK.eq_2
@[scoped simp] theorem q356 : type_of% @Vm.getDk.eq_1 := @nr _ @Vm.getDk.eq_1
@[scoped simp] theorem q357 : type_of% @Vm.getDk.eq_2 := @nr _ @Vm.getDk.eq_2
@[scoped simp] theorem q358 : type_of% @Vm.one1.eq_1 := @nr _ @Vm.one1.eq_1
@[scoped simp] theorem q359 : type_of% @Vm.one1.eq_2 := @nr _ @Vm.one1.eq_2
@[scoped simp] theorem q360 : type_of% @Vm.atP.eq_1 := @nr _ @Vm.atP.eq_1
@[scoped simp] theorem q361 : type_of% @Vm.atP.eq_2 := @nr _ @Vm.atP.eq_2
@[scoped simp] theorem q362 : type_of% @Vm.onP.eq_1 := @nr _ @Vm.onP.eq_1
@[scoped simp] theorem q363 : type_of% @Vm.onP.eq_2 := @nr _ @Vm.onP.eq_2
@[scoped simp] theorem q364 : type_of% @Vm.recv.eq_1 := @nr _ @Vm.recv.eq_1
@[scoped simp] theorem q365 : type_of% @Vm.recv.eq_2 := @nr _ @Vm.recv.eq_2
@[scoped simp] theorem q366 : type_of% @Vm.recv.eq_3 := @nr _ @Vm.recv.eq_3
@[scoped simp] theorem q367 : type_of% @Vm.recv.eq_4 := @nr _ @Vm.recv.eq_4
@[scoped simp] theorem q368 : type_of% @Vm.recv.eq_5 := @nr _ @Vm.recv.eq_5
@[scoped simp] theorem q369 : type_of% @Vm.recv.eq_6 := @nr _ @Vm.recv.eq_6
@[scoped simp] theorem q370 : type_of% @Vm.recv.eq_7 := @nr _ @Vm.recv.eq_7
@[scoped simp] theorem q371 : type_of% @Vm.recv.eq_8 := @nr _ @Vm.recv.eq_8
@[scoped simp] theorem q372 : type_of% @Vm.recv.eq_9 := @nr _ @Vm.recv.eq_9
@[scoped simp] theorem q373 : type_of% @Vm.recv.eq_10 := @nr _ @Vm.recv.eq_10
@[scoped simp] theorem q374 : type_of% @Vm.recv.eq_11 := @nr _ @Vm.recv.eq_11
@[scoped simp] theorem q375 : type_of% @Vm.recv.eq_12 := @nr _ @Vm.recv.eq_12
@[scoped simp] theorem q376 : type_of% @Vm.recv.eq_13 := @nr _ @Vm.recv.eq_13
@[scoped simp] theorem q377 : type_of% @Vm.recv.eq_14 := @nr _ @Vm.recv.eq_14
@[scoped simp] theorem q378 : type_of% @Vm.recv.eq_15 := @nr _ @Vm.recv.eq_15
@[scoped simp] theorem q379 : type_of% @Vm.recv.eq_16 := @nr _ @Vm.recv.eq_16
@[scoped simp] theorem q380 : type_of% @Vm.recv.eq_17 := @nr _ @Vm.recv.eq_17
@[scoped simp] theorem q381 : type_of% @Vm.recv.eq_18 := @nr _ @Vm.recv.eq_18
@[scoped simp] theorem q382 : type_of% @Vm.bApp.eq_1 := @nr _ @Vm.bApp.eq_1
@[scoped simp] theorem q383 : type_of% @Vm.bApp.eq_2 := @nr _ @Vm.bApp.eq_2
@[scoped simp] theorem q384 : type_of% @Vm.bExt.eq_1 := @nr _ @Vm.bExt.eq_1
@[scoped simp] theorem q385 : type_of% @Vm.bExt.eq_2 := @nr _ @Vm.bExt.eq_2
@[scoped simp] theorem q386 : type_of% @Vm.bIns.eq_1 := @nr _ @Vm.bIns.eq_1
@[scoped simp] theorem q387 : type_of% @Vm.bIns.eq_2 := @nr _ @Vm.bIns.eq_2
@[scoped simp] theorem q388 : type_of% @Vm.popM.eq_1 := @nr _ @Vm.popM.eq_1
@[scoped simp] theorem q389 : type_of% @Vm.bPop.eq_1 := @nr _ @Vm.bPop.eq_1
@[scoped simp] theorem q390 : type_of% @Vm.bPop.eq_2 := @nr _ @Vm.bPop.eq_2
@[scoped simp] theorem q391 : type_of% @Vm.bPop.eq_3 := @nr _ @Vm.bPop.eq_3
@[scoped simp] theorem q392 : type_of% @Vm.bPopk.eq_1 := @nr _ @Vm.bPopk.eq_1
@[scoped simp] theorem q393 : type_of% @Vm.bPopk.eq_2 := @nr _ @Vm.bPopk.eq_2
@[scoped simp] theorem q394 : type_of% @Vm.kq.eq_1 := @nr _ @Vm.kq.eq_1
@[scoped simp] theorem q395 : type_of% @Vm.kq.eq_2 := @nr _ @Vm.kq.eq_2
@[scoped simp] theorem q396 : type_of% @Vm.kq.eq_3 := @nr _ @Vm.kq.eq_3
@[scoped simp] theorem q397 : type_of% @Vm.kq.eq_4 := @nr _ @Vm.kq.eq_4
@[scoped simp] theorem q398 : type_of% @Vm.kq.eq_5 := @nr _ @Vm.kq.eq_5
@[scoped simp] theorem q399 : type_of% @Vm.kq.eq_6 := @nr _ @Vm.kq.eq_6
@[scoped simp] theorem q400 : type_of% @Vm.kq.eq_7 := @nr _ @Vm.kq.eq_7
@[scoped simp] theorem q401 : type_of% @Vm.bGet.eq_1 := @nr _ @Vm.bGet.eq_1
@[scoped simp] theorem q402 : type_of% @Vm.bGet.eq_2 := @nr _ @Vm.bGet.eq_2
@[scoped simp] theorem q403 : type_of% @Vm.bGet.eq_3 := @nr _ @Vm.bGet.eq_3
@[scoped simp] theorem q404 : type_of% @Vm.bGetD.eq_1 := @nr _ @Vm.bGetD.eq_1
@[scoped simp] theorem q405 : type_of% @Vm.bGetD.eq_2 := @nr _ @Vm.bGetD.eq_2
@[scoped simp] theorem q406 : type_of% @Vm.bGetD.eq_3 := @nr _ @Vm.bGetD.eq_3
@[scoped simp] theorem q407 : type_of% @Vm.bCount.eq_1 := @nr _ @Vm.bCount.eq_1
@[scoped simp] theorem q408 : type_of% @Vm.bCount.eq_2 := @nr _ @Vm.bCount.eq_2
@[scoped simp] theorem q409 : type_of% @Vm.bIndex.eq_1 := @nr _ @Vm.bIndex.eq_1
@[scoped simp] theorem q410 : type_of% @Vm.bIndex.eq_2 := @nr _ @Vm.bIndex.eq_2
@[scoped simp] theorem q411 : type_of% @Vm.bSindex.eq_1 := @nr _ @Vm.bSindex.eq_1
@[scoped simp] theorem q412 : type_of% @Vm.bSindex.eq_2 := @nr _ @Vm.bSindex.eq_2
@[scoped simp] theorem q413 : type_of% @Vm.bJoin.eq_1 := @nr _ @Vm.bJoin.eq_1
@[scoped simp] theorem q414 : type_of% @Vm.bJoin.eq_2 := @nr _ @Vm.bJoin.eq_2
@[scoped simp] theorem q415 : type_of% @Vm.bSplit.eq_1 := @nr _ @Vm.bSplit.eq_1
@[scoped simp] theorem q416 : type_of% @Vm.bSplit.eq_2 := @nr _ @Vm.bSplit.eq_2
@[scoped simp] theorem q417 : type_of% @Vm.bUpper.eq_1 := @nr _ @Vm.bUpper.eq_1
@[scoped simp] theorem q418 : type_of% @Vm.bUpper.eq_2 := @nr _ @Vm.bUpper.eq_2
@[scoped simp] theorem q419 : type_of% @Vm.bUpd.eq_1 := @nr _ @Vm.bUpd.eq_1
@[scoped simp] theorem q420 : type_of% @Vm.bUpd.eq_2 := @nr _ @Vm.bUpd.eq_2
@[scoped simp] theorem q421 : type_of% @Vm.bmM.eq_1 := @nr _ @Vm.bmM.eq_1
@[scoped simp] theorem q422 : type_of% @Vm.bmM.eq_2 := @nr _ @Vm.bmM.eq_2
@[scoped simp] theorem q423 : type_of% @Vm.bmM.eq_3 := @nr _ @Vm.bmM.eq_3
@[scoped simp] theorem q424 : type_of% @Vm.bmM.eq_4 := @nr _ @Vm.bmM.eq_4
@[scoped simp] theorem q425 : type_of% @Vm.bmM.eq_5 := @nr _ @Vm.bmM.eq_5
@[scoped simp] theorem q426 : type_of% @Vm.bmM.eq_6 := @nr _ @Vm.bmM.eq_6
@[scoped simp] theorem q427 : type_of% @Vm.bmM.eq_7 := @nr _ @Vm.bmM.eq_7
@[scoped simp] theorem q428 : type_of% @Vm.bmM.eq_8 := @nr _ @Vm.bmM.eq_8
@[scoped simp] theorem q429 : type_of% @Vm.bmM.eq_9 := @nr _ @Vm.bmM.eq_9
@[scoped simp] theorem q430 : type_of% @Vm.bmM.eq_10 := @nr _ @Vm.bmM.eq_10
@[scoped simp] theorem q431 : type_of% @Vm.bmM.eq_11 := @nr _ @Vm.bmM.eq_11
@[scoped simp] theorem q432 : type_of% @Vm.bmM.eq_12 := @nr _ @Vm.bmM.eq_12
@[scoped simp] theorem q433 : type_of% @Vm.bmM.eq_13 := @nr _ @Vm.bmM.eq_13
@[scoped simp] theorem q434 : type_of% @Vm.bmM.eq_14 := @nr _ @Vm.bmM.eq_14
@[scoped simp] theorem q435 : type_of% @Vm.bmM.eq_15 := @nr _ @Vm.bmM.eq_15
@[scoped simp] theorem q436 : type_of% @Vm.bmM.eq_16 := @nr _ @Vm.bmM.eq_16
@[scoped simp] theorem q437 : type_of% @Vm.bmM.eq_17 := @nr _ @Vm.bmM.eq_17
@[scoped simp] theorem q438 : type_of% @Vm.bmR.eq_1 := @nr _ @Vm.bmR.eq_1
@[scoped simp] theorem q439 : type_of% @Vm.lenM.eq_1 := @nr _ @Vm.lenM.eq_1
@[scoped simp] theorem q440 : type_of% @Vm.lenM.eq_2 := @nr _ @Vm.lenM.eq_2
@[scoped simp] theorem q441 : type_of% @Vm.lenM.eq_3 := @nr _ @Vm.lenM.eq_3
@[scoped simp] theorem q442 : type_of% @Vm.lenM.eq_4 := @nr _ @Vm.lenM.eq_4
@[scoped simp] theorem q443 : type_of% @Vm.lenM.eq_5 := @nr _ @Vm.lenM.eq_5
@[scoped simp] theorem q444 : type_of% @Vm.lenM.eq_6 := @nr _ @Vm.lenM.eq_6
@[scoped simp] theorem q445 : type_of% @Vm.lenM.eq_7 := @nr _ @Vm.lenM.eq_7
@[scoped simp] theorem q446 : type_of% @Vm.lenM.eq_8 := @nr _ @Vm.lenM.eq_8
@[scoped simp] theorem q447 : type_of% @Vm.lenM.eq_9 := @nr _ @Vm.lenM.eq_9
@[scoped simp] theorem q448 : type_of% @Vm.isOne.eq_1 := @nr _ @Vm.isOne.eq_1
@[scoped simp] theorem q449 : type_of% @Vm.isOne.eq_2 := @nr _ @Vm.isOne.eq_2
@[scoped simp] theorem q450 : type_of% @Vm.xisB.eq_1 := @nr _ @Vm.xisB.eq_1
@[scoped simp] theorem q451 : type_of% @Vm.xisB.eq_2 := @nr _ @Vm.xisB.eq_2
@[scoped simp] theorem q452 : type_of% @Vm.fLen.eq_1 := @nr _ @Vm.fLen.eq_1
@[scoped simp] theorem q453 : type_of% @Vm.fLen.eq_2 := @nr _ @Vm.fLen.eq_2
@[scoped simp] theorem q454 : type_of% @Vm.fIsi.eq_1 := @nr _ @Vm.fIsi.eq_1
@[scoped simp] theorem q455 : type_of% @Vm.fIsi.eq_2 := @nr _ @Vm.fIsi.eq_2
@[scoped simp] theorem q456 : type_of% @Vm.fInt.eq_1 := @nr _ @Vm.fInt.eq_1
@[scoped simp] theorem q457 : type_of% @Vm.fInt.eq_2 := @nr _ @Vm.fInt.eq_2
@[scoped simp] theorem q458 : type_of% @Vm.fInt.eq_3 := @nr _ @Vm.fInt.eq_3
@[scoped simp] theorem q459 : type_of% @Vm.fInt.eq_4 := @nr _ @Vm.fInt.eq_4
@[scoped simp] theorem q460 : type_of% @Vm.fStr.eq_1 := @nr _ @Vm.fStr.eq_1
@[scoped simp] theorem q461 : type_of% @Vm.fStr.eq_2 := @nr _ @Vm.fStr.eq_2
@[scoped simp] theorem q462 : type_of% @Vm.fStr.eq_3 := @nr _ @Vm.fStr.eq_3
@[scoped simp] theorem q463 : type_of% @Vm.fRepr.eq_1 := @nr _ @Vm.fRepr.eq_1
@[scoped simp] theorem q464 : type_of% @Vm.fRepr.eq_2 := @nr _ @Vm.fRepr.eq_2
@[scoped simp] theorem q465 : type_of% @Vm.fMax2.eq_1 := @nr _ @Vm.fMax2.eq_1
@[scoped simp] theorem q466 : type_of% @Vm.fMax2.eq_2 := @nr _ @Vm.fMax2.eq_2
@[scoped simp] theorem q467 : type_of% @Vm.fMin2.eq_1 := @nr _ @Vm.fMin2.eq_1
@[scoped simp] theorem q468 : type_of% @Vm.fMin2.eq_2 := @nr _ @Vm.fMin2.eq_2
@[scoped simp] theorem q469 : type_of% @Vm.dctP.eq_1 := @nr _ @Vm.dctP.eq_1
@[scoped simp] theorem q470 : type_of% @Vm.dctP.eq_2 := @nr _ @Vm.dctP.eq_2
@[scoped simp] theorem q471 : type_of% @Vm.dctP.eq_3 := @nr _ @Vm.dctP.eq_3
@[scoped simp] theorem q472 : type_of% @Vm.fDict.eq_1 := @nr _ @Vm.fDict.eq_1
@[scoped simp] theorem q473 : type_of% @Vm.fDict.eq_2 := @nr _ @Vm.fDict.eq_2
@[scoped simp] theorem q474 : type_of% @Vm.fDict.eq_3 := @nr _ @Vm.fDict.eq_3
@[scoped simp] theorem q475 : type_of% @Vm.fDict.eq_4 := @nr _ @Vm.fDict.eq_4
@[scoped simp] theorem q476 : type_of% @Vm.fDict.eq_5 := @nr _ @Vm.fDict.eq_5
@[scoped simp] theorem q477 : type_of% @Vm.pairsN.eq_1 := @nr _ @Vm.pairsN.eq_1
@[scoped simp] theorem q478 : type_of% @Vm.pairsN.eq_2 := @nr _ @Vm.pairsN.eq_2
@[scoped simp] theorem q479 : type_of% @Vm.mergeN.eq_1 := @nr _ @Vm.mergeN.eq_1
@[scoped simp] theorem q480 : type_of% @Vm.fDictn.eq_1 := @nr _ @Vm.fDictn.eq_1
@[scoped simp] theorem q481 : type_of% @Vm.fDictn.eq_2 := @nr _ @Vm.fDictn.eq_2
@[scoped simp] theorem q482 : type_of% @Vm.mOr.eq_1 := @nr _ @Vm.mOr.eq_1
@[scoped simp] theorem q483 : type_of% @Vm.mOr.eq_2 := @nr _ @Vm.mOr.eq_2
@[scoped simp] theorem q484 : type_of% @Vm.biR.eq_1 := @nr _ @Vm.biR.eq_1
@[scoped simp] theorem q485 : type_of% @Vm.biR.eq_2 := @nr _ @Vm.biR.eq_2
@[scoped simp] theorem q486 : type_of% @Vm.biR.eq_3 := @nr _ @Vm.biR.eq_3
@[scoped simp] theorem q487 : type_of% @Vm.biR.eq_4 := @nr _ @Vm.biR.eq_4
@[scoped simp] theorem q488 : type_of% @Vm.biR.eq_5 := @nr _ @Vm.biR.eq_5
@[scoped simp] theorem q489 : type_of% @Vm.biR.eq_6 := @nr _ @Vm.biR.eq_6
@[scoped simp] theorem q490 : type_of% @Vm.biR.eq_7 := @nr _ @Vm.biR.eq_7
@[scoped simp] theorem q491 : type_of% @Vm.biR.eq_8 := @nr _ @Vm.biR.eq_8
@[scoped simp] theorem q492 : type_of% @Vm.biR.eq_9 := @nr _ @Vm.biR.eq_9
@[scoped simp] theorem q493 : type_of% @Vm.biR.eq_10 := @nr _ @Vm.biR.eq_10
@[scoped simp] theorem q494 : type_of% @Vm.fSeq.eq_1 := @nr _ @Vm.fSeq.eq_1
@[scoped simp] theorem q495 : type_of% @Vm.fSeq.eq_2 := @nr _ @Vm.fSeq.eq_2
@[scoped simp] theorem q496 : type_of% @Vm.isL.eq_1 := @nr _ @Vm.isL.eq_1
@[scoped simp] theorem q497 : type_of% @Vm.isL.eq_2 := @nr _ @Vm.isL.eq_2
@[scoped simp] theorem q498 : type_of% @Vm.isL.eq_3 := @nr _ @Vm.isL.eq_3
@[scoped simp] theorem q499 : type_of% @Vm.fSeqL.eq_1 := @nr _ @Vm.fSeqL.eq_1
@[scoped simp] theorem q500 : type_of% @Vm.fSeqL.eq_2 := @nr _ @Vm.fSeqL.eq_2
@[scoped simp] theorem q501 : type_of% @Vm.fMaxd.eq_1 := @nr _ @Vm.fMaxd.eq_1
@[scoped simp] theorem q502 : type_of% @Vm.fMaxd.eq_2 := @nr _ @Vm.fMaxd.eq_2
@[scoped simp] theorem q503 : type_of% @Vm.isStrD.eq_1 := @nr _ @Vm.isStrD.eq_1
@[scoped simp] theorem q504 : type_of% @Vm.isStrD.eq_2 := @nr _ @Vm.isStrD.eq_2
@[scoped simp] theorem q505 : type_of% @Vm.ltO.eq_1 := @nr _ @Vm.ltO.eq_1
@[scoped simp] theorem q506 : type_of% @Vm.ltO.eq_2 := @nr _ @Vm.ltO.eq_2
@[scoped simp] theorem q507 : type_of% @Vm.ltO.eq_3 := @nr _ @Vm.ltO.eq_3
@[scoped simp] theorem q508 : type_of% @Vm.fLset.eq_1 := @nr _ @Vm.fLset.eq_1
@[scoped simp] theorem q509 : type_of% @Vm.fLset.eq_2 := @nr _ @Vm.fLset.eq_2
@[scoped simp] theorem q510 : type_of% @Vm.fSset.eq_1 := @nr _ @Vm.fSset.eq_1
@[scoped simp] theorem q511 : type_of% @Vm.fSset.eq_2 := @nr _ @Vm.fSset.eq_2
@[scoped simp] theorem q512 : type_of% @Vm.isIntD.eq_1 := @nr _ @Vm.isIntD.eq_1
@[scoped simp] theorem q513 : type_of% @Vm.isIntD.eq_2 := @nr _ @Vm.isIntD.eq_2
@[scoped simp] theorem q514 : type_of% @Vm.setI.eq_1 := @nr _ @Vm.setI.eq_1
@[scoped simp] theorem q515 : type_of% @Vm.seqV.eq_1 := @nr _ @Vm.seqV.eq_1
@[scoped simp] theorem q516 : type_of% @Vm.fLsetI.eq_1 := @nr _ @Vm.fLsetI.eq_1
@[scoped simp] theorem q517 : type_of% @Vm.fLsetI.eq_2 := @nr _ @Vm.fLsetI.eq_2
@[scoped simp] theorem q518 : type_of% @Vm.fSsetI.eq_1 := @nr _ @Vm.fSsetI.eq_1
@[scoped simp] theorem q519 : type_of% @Vm.fSsetI.eq_2 := @nr _ @Vm.fSsetI.eq_2
@[scoped simp] theorem q520 : type_of% @Vm.dkeysS.eq_1 := @nr _ @Vm.dkeysS.eq_1
@[scoped simp] theorem q521 : type_of% @Vm.dkeysS.eq_2 := @nr _ @Vm.dkeysS.eq_2
@[scoped simp] theorem q522 : type_of% @Vm.dkeysS.eq_3 := @nr _ @Vm.dkeysS.eq_3
@[scoped simp] theorem q523 : type_of% @Vm.fSorted.eq_1 := @nr _ @Vm.fSorted.eq_1
@[scoped simp] theorem q524 : type_of% @Vm.fSorted.eq_2 := @nr _ @Vm.fSorted.eq_2
@[scoped simp] theorem q525 : type_of% @Vm.big.eq_1 := @nr _ @Vm.big.eq_1
@[scoped simp] theorem q526 : type_of% @Vm.fLrng.eq_1 := @nr _ @Vm.fLrng.eq_1
@[scoped simp] theorem q527 : type_of% @Vm.fLrng.eq_2 := @nr _ @Vm.fLrng.eq_2
@[scoped simp] theorem q528 : type_of% @Vm.fLrng.eq_3 := @nr _ @Vm.fLrng.eq_3
@[scoped simp] theorem q529 : type_of% @Vm.fRevl.eq_1 := @nr _ @Vm.fRevl.eq_1
@[scoped simp] theorem q530 : type_of% @Vm.fRevl.eq_2 := @nr _ @Vm.fRevl.eq_2
@[scoped simp] theorem q531 : type_of% @Vm.fDzip.eq_1 := @nr _ @Vm.fDzip.eq_1
@[scoped simp] theorem q532 : type_of% @Vm.fDzip.eq_2 := @nr _ @Vm.fDzip.eq_2
@[scoped simp] theorem q533 : type_of% @Vm.bfR.eq_1 := @nr _ @Vm.bfR.eq_1
@[scoped simp] theorem q534 : type_of% @Vm.bfR.eq_2 := @nr _ @Vm.bfR.eq_2
@[scoped simp] theorem q535 : type_of% @Vm.bfR.eq_3 := @nr _ @Vm.bfR.eq_3
@[scoped simp] theorem q536 : type_of% @Vm.bfR.eq_4 := @nr _ @Vm.bfR.eq_4
@[scoped simp] theorem q537 : type_of% @Vm.bfR.eq_5 := @nr _ @Vm.bfR.eq_5
@[scoped simp] theorem q538 : type_of% @Vm.bfR.eq_6 := @nr _ @Vm.bfR.eq_6
@[scoped simp] theorem q539 : type_of% @Vm.bfR.eq_7 := @nr _ @Vm.bfR.eq_7
@[scoped simp] theorem q540 : type_of% @Vm.bfR.eq_8 := @nr _ @Vm.bfR.eq_8
@[scoped simp] theorem q541 : type_of% @Vm.bfR.eq_9 := @nr _ @Vm.bfR.eq_9
@[scoped simp] theorem q542 : type_of% @Vm.bfR.eq_10 := @nr _ @Vm.bfR.eq_10
@[scoped simp] theorem q543 : type_of% @Vm.bfR.eq_11 := @nr _ @Vm.bfR.eq_11
@[scoped simp] theorem q544 : type_of% @Vm.bfR.eq_12 := @nr _ @Vm.bfR.eq_12
@[scoped simp] theorem q545 : type_of% @Vm.bfR.eq_13 := @nr _ @Vm.bfR.eq_13
@[scoped simp] theorem q546 : type_of% @Vm.bfR.eq_14 := @nr _ @Vm.bfR.eq_14
@[scoped simp] theorem q547 : type_of% @Vm.bfR.eq_15 := @nr _ @Vm.bfR.eq_15
@[scoped simp] theorem q548 : type_of% @Vm.bfR.eq_16 := @nr _ @Vm.bfR.eq_16
@[scoped simp] theorem q549 : type_of% @Vm.bfR.eq_17 := @nr _ @Vm.bfR.eq_17
@[scoped simp] theorem q550 : type_of% @Vm.bfR.eq_18 := @nr _ @Vm.bfR.eq_18
@[scoped simp] theorem q551 : type_of% @Vm.bfR.eq_19 := @nr _ @Vm.bfR.eq_19
@[scoped simp] theorem q552 : type_of% @Vm.bfR.eq_20 := @nr _ @Vm.bfR.eq_20
@[scoped simp] theorem q553 : type_of% @Vm.bfR.eq_21 := @nr _ @Vm.bfR.eq_21
@[scoped simp] theorem q554 : type_of% @Vm.bfR.eq_22 := @nr _ @Vm.bfR.eq_22
@[scoped simp] theorem q555 : type_of% @Vm.bfR.eq_23 := @nr _ @Vm.bfR.eq_23
@[scoped simp] theorem q556 : type_of% @Vm.bfR.eq_24 := @nr _ @Vm.bfR.eq_24
@[scoped simp] theorem q557 : type_of% @Vm.bfR.eq_25 := @nr _ @Vm.bfR.eq_25
@[scoped simp] theorem q558 : type_of% @Vm.bfR.eq_26 := @nr _ @Vm.bfR.eq_26
@[scoped simp] theorem q559 : type_of% @Vm.plP.eq_1 := @nr _ @Vm.plP.eq_1
@[scoped simp] theorem q560 : type_of% @Vm.plP.eq_2 := @nr _ @Vm.plP.eq_2
@[scoped simp] theorem q561 : type_of% @Vm.plOf.eq_1 := @nr _ @Vm.plOf.eq_1
@[scoped simp] theorem q562 : type_of% @Vm.plOf.eq_2 := @nr _ @Vm.plOf.eq_2
@[scoped simp] theorem q563 : type_of% @Vm.plOf.eq_3 := @nr _ @Vm.plOf.eq_3
@[scoped simp] theorem q564 : type_of% @Vm.plOf.eq_4 := @nr _ @Vm.plOf.eq_4
@[scoped simp] theorem q565 : type_of% @Vm.plOf.eq_5 := @nr _ @Vm.plOf.eq_5
@[scoped simp] theorem q566 : type_of% @Vm.plOf.eq_6 := @nr _ @Vm.plOf.eq_6
@[scoped simp] theorem q567 : type_of% @Vm.plAll.eq_1 := @nr _ @Vm.plAll.eq_1
@[scoped simp] theorem q568 : type_of% @Vm.plAll.eq_2 := @nr _ @Vm.plAll.eq_2
@[scoped simp] theorem q569 : type_of% @Vm.free.eq_1 := @nr _ @Vm.free.eq_1
@[scoped simp] theorem q570 : type_of% @Vm.atRoot.eq_1 := @nr _ @Vm.atRoot.eq_1
@[scoped simp] theorem q571 : type_of% @Vm.bindN.eq_1 := @nr _ @Vm.bindN.eq_1
@[scoped simp] theorem q572 : type_of% @Vm.bindP.eq_1 := @nr _ @Vm.bindP.eq_1
@[scoped simp] theorem q573 : type_of% @Vm.bindT.eq_1 := @nr _ @Vm.bindT.eq_1
@[scoped simp] theorem q574 : type_of% @Vm.bindT.eq_2 := @nr _ @Vm.bindT.eq_2
@[scoped simp] theorem q575 : type_of% @Vm.bindTs.eq_1 := @nr _ @Vm.bindTs.eq_1
@[scoped simp] theorem q576 : type_of% @Vm.bindTs.eq_2 := @nr _ @Vm.bindTs.eq_2
@[scoped simp] theorem q577 : type_of% @Vm.bindTs.eq_3 := @nr _ @Vm.bindTs.eq_3
@[scoped simp] theorem q578 : type_of% @Vm.bindQ.eq_1 := @nr _ @Vm.bindQ.eq_1
@[scoped simp] theorem q579 : type_of% @Vm.bindQ.eq_2 := @nr _ @Vm.bindQ.eq_2
@[scoped simp] theorem q580 : type_of% @Vm.bindI.eq_1 := @nr _ @Vm.bindI.eq_1
@[scoped simp] theorem q581 : type_of% @Vm.topL.eq_1 := @nr _ @Vm.topL.eq_1
@[scoped simp] theorem q582 : type_of% @Vm.forPl.eq_1 := @nr _ @Vm.forPl.eq_1
@[scoped simp] theorem q583 : type_of% @Vm.forPl.eq_2 := @nr _ @Vm.forPl.eq_2
@[scoped simp] theorem q584 : type_of% @Vm.hideN.eq_1 := @nr _ @Vm.hideN.eq_1
@[scoped simp] theorem q585 : type_of% @Vm.hideN.eq_2 := @nr _ @Vm.hideN.eq_2
@[scoped simp] theorem q586 : type_of% @Vm.showN.eq_1 := @nr _ @Vm.showN.eq_1
@[scoped simp] theorem q587 : type_of% @Vm.showN.eq_2 := @nr _ @Vm.showN.eq_2
@[scoped simp] theorem q588 : type_of% @Vm.inN.eq_1 := @nr _ @Vm.inN.eq_1
@[scoped simp] theorem q589 : type_of% @Vm.dropRs.eq_1 := @nr _ @Vm.dropRs.eq_1
@[scoped simp] theorem q590 : type_of% @Vm.dropRs.eq_2 := @nr _ @Vm.dropRs.eq_2
@[scoped simp] theorem q591 : type_of% @Vm.hide.eq_1 := @nr _ @Vm.hide.eq_1
@[scoped simp] theorem q592 : type_of% @Vm.unhide.eq_1 := @nr _ @Vm.unhide.eq_1
@[scoped simp] theorem q593 : type_of% @Vm.quiet.eq_1 := @nr _ @Vm.quiet.eq_1
@[scoped simp] theorem q594 : type_of% @Vm.ownF.eq_1 := @nr _ @Vm.ownF.eq_1
@[scoped simp] theorem q595 : type_of% @Vm.tr.eq_1 := @nr _ @Vm.tr.eq_1
@[scoped simp] theorem q596 : type_of% @Vm.pick.eq_1 := @nr _ @Vm.pick.eq_1
@[scoped simp] theorem q597 : type_of% @Vm.pick.eq_2 := @nr _ @Vm.pick.eq_2
@[scoped simp] theorem q598 : type_of% @Vm.rngOf.eq_1 := @nr _ @Vm.rngOf.eq_1
@[scoped simp] theorem q599 : type_of% @Vm.rngOf.eq_2 := @nr _ @Vm.rngOf.eq_2
@[scoped simp] theorem q600 : type_of% @Vm.rngOf.eq_3 := @nr _ @Vm.rngOf.eq_3
@[scoped simp] theorem q601 : type_of% @Vm.rng3Of.eq_1 := @nr _ @Vm.rng3Of.eq_1
@[scoped simp] theorem q602 : type_of% @Vm.rng3Of.eq_2 := @nr _ @Vm.rng3Of.eq_2
@[scoped simp] theorem q603 : type_of% @Vm.itOk.eq_1 := @nr _ @Vm.itOk.eq_1
@[scoped simp] theorem q604 : type_of% @Vm.itOk.eq_2 := @nr _ @Vm.itOk.eq_2
@[scoped simp] theorem q605 : type_of% @Vm.itOk.eq_3 := @nr _ @Vm.itOk.eq_3
@[scoped simp] theorem q606 : type_of% @Vm.itemsD.eq_1 := @nr _ @Vm.itemsD.eq_1
@[scoped simp] theorem q607 : type_of% @Vm.itemsD.eq_2 := @nr _ @Vm.itemsD.eq_2
@[scoped simp] theorem q608 : type_of% @Vm.seqOf.eq_1 := @nr _ @Vm.seqOf.eq_1
@[scoped simp] theorem q609 : type_of% @Vm.seqOf.eq_2 := @nr _ @Vm.seqOf.eq_2
@[scoped simp] theorem q610 : type_of% @Vm.seqOf.eq_3 := @nr _ @Vm.seqOf.eq_3
@[scoped simp] theorem q611 : type_of% @Vm.seqOf.eq_4 := @nr _ @Vm.seqOf.eq_4
@[scoped simp] theorem q612 : type_of% @Vm.negD.eq_1 := @nr _ @Vm.negD.eq_1
@[scoped simp] theorem q613 : type_of% @Vm.negD.eq_2 := @nr _ @Vm.negD.eq_2
@[scoped simp] theorem q614 : type_of% @Vm.M.fnO.eq_1 := @nr _ @Vm.M.fnO.eq_1
@[scoped simp] theorem q615 : type_of% @Vm.M.fnO.eq_2 := @nr _ @Vm.M.fnO.eq_2
@[scoped simp] theorem q616 : type_of% @Vm.ev.eq_1 := @nr _ @Vm.ev.eq_1
@[scoped simp] theorem q617 : type_of% @Vm.ev.eq_2 := @nr _ @Vm.ev.eq_2
@[scoped simp] theorem q618 : type_of% @Vm.ev.eq_3 := @nr _ @Vm.ev.eq_3
@[scoped simp] theorem q619 : type_of% @Vm.ev.eq_4 := @nr _ @Vm.ev.eq_4
@[scoped simp] theorem q620 : type_of% @Vm.ev.eq_5 := @nr _ @Vm.ev.eq_5
@[scoped simp] theorem q621 : type_of% @Vm.ev.eq_6 := @nr _ @Vm.ev.eq_6
@[scoped simp] theorem q622 : type_of% @Vm.ev.eq_7 := @nr _ @Vm.ev.eq_7
@[scoped simp] theorem q623 : type_of% @Vm.ev.eq_8 := @nr _ @Vm.ev.eq_8
@[scoped simp] theorem q624 : type_of% @Vm.ev.eq_9 := @nr _ @Vm.ev.eq_9
@[scoped simp] theorem q625 : type_of% @Vm.ev.eq_10 := @nr _ @Vm.ev.eq_10
@[scoped simp] theorem q626 : type_of% @Vm.ev.eq_13 := @nr _ @Vm.ev.eq_13
@[scoped simp] theorem q627 : type_of% @Vm.ev.eq_15 := @nr _ @Vm.ev.eq_15
@[scoped simp] theorem q628 : type_of% @Vm.ev.eq_16 := @nr _ @Vm.ev.eq_16
@[scoped simp] theorem q629 : type_of% @Vm.ev.eq_17 := @nr _ @Vm.ev.eq_17
@[scoped simp] theorem q630 : type_of% @Vm.ev.eq_18 := @nr _ @Vm.ev.eq_18
@[scoped simp] theorem q631 : type_of% @Vm.ev.eq_19 := @nr _ @Vm.ev.eq_19
@[scoped simp] theorem q632 : type_of% @Vm.ev.eq_20 := @nr _ @Vm.ev.eq_20
@[scoped simp] theorem q633 : type_of% @Vm.ev.eq_21 := @nr _ @Vm.ev.eq_21
@[scoped simp] theorem q634 : type_of% @Vm.ev.eq_22 := @nr _ @Vm.ev.eq_22
@[scoped simp] theorem q635 : type_of% @Vm.ev.eq_23 := @nr _ @Vm.ev.eq_23
@[scoped simp] theorem q636 : type_of% @Vm.ev.eq_24 := @nr _ @Vm.ev.eq_24
@[scoped simp] theorem q637 : type_of% @Vm.ev.eq_25 := @nr _ @Vm.ev.eq_25
@[scoped simp] theorem q638 : type_of% @Vm.ev.eq_27 := @nr _ @Vm.ev.eq_27
@[scoped simp] theorem q639 : type_of% @Vm.ev.eq_28 := @nr _ @Vm.ev.eq_28
@[scoped simp] theorem q640 : type_of% @Vm.ev.eq_29 := @nr _ @Vm.ev.eq_29
@[scoped simp] theorem q641 : type_of% @Vm.ev.eq_30 := @nr _ @Vm.ev.eq_30
@[scoped simp] theorem q642 : type_of% @Vm.ev.eq_31 := @nr _ @Vm.ev.eq_31
@[scoped simp] theorem q643 : type_of% @Vm.ev.eq_32 := @nr _ @Vm.ev.eq_32
@[scoped simp] theorem q644 : type_of% @Vm.ev.eq_33 := @nr _ @Vm.ev.eq_33
@[scoped simp] theorem q645 : type_of% @Vm.ev.eq_34 := @nr _ @Vm.ev.eq_34
@[scoped simp] theorem q646 : type_of% @Vm.ev.eq_35 := @nr _ @Vm.ev.eq_35
@[scoped simp] theorem q647 : type_of% @Vm.ev.eq_36 := @nr _ @Vm.ev.eq_36
@[scoped simp] theorem q648 : type_of% @Vm.ev.eq_37 := @nr _ @Vm.ev.eq_37
@[scoped simp] theorem q649 : type_of% @Vm.ev.eq_38 := @nr _ @Vm.ev.eq_38
@[scoped simp] theorem q650 : type_of% @Vm.evc.eq_1 := @nr _ @Vm.evc.eq_1
@[scoped simp] theorem q651 : type_of% @Vm.evc.eq_2 := @nr _ @Vm.evc.eq_2
@[scoped simp] theorem q652 : type_of% @Vm.evo.eq_1 := @nr _ @Vm.evo.eq_1
@[scoped simp] theorem q653 : type_of% @Vm.evo.eq_2 := @nr _ @Vm.evo.eq_2
@[scoped simp] theorem q654 : type_of% @Vm.evp.eq_1 := @nr _ @Vm.evp.eq_1
@[scoped simp] theorem q655 : type_of% @Vm.evp.eq_2 := @nr _ @Vm.evp.eq_2
@[scoped simp] theorem q656 : type_of% @Vm.evds.eq_1 := @nr _ @Vm.evds.eq_1
@[scoped simp] theorem q657 : type_of% @Vm.evds.eq_2 := @nr _ @Vm.evds.eq_2
@[scoped simp] theorem q658 : type_of% @Vm.evms.eq_1 := @nr _ @Vm.evms.eq_1
@[scoped simp] theorem q659 : type_of% @Vm.evms.eq_2 := @nr _ @Vm.evms.eq_2
@[scoped simp] theorem q660 : type_of% @Vm.evs.eq_1 := @nr _ @Vm.evs.eq_1
@[scoped simp] theorem q661 : type_of% @Vm.evs.eq_2 := @nr _ @Vm.evs.eq_2
@[scoped simp] theorem q662 : type_of% @Vm.evkv.eq_1 := @nr _ @Vm.evkv.eq_1
@[scoped simp] theorem q663 : type_of% @Vm.evkv.eq_2 := @nr _ @Vm.evkv.eq_2
@[scoped simp] theorem q664 : type_of% @Vm.evi.eq_1 := @nr _ @Vm.evi.eq_1
@[scoped simp] theorem q665 : type_of% @Vm.evi.eq_2 := @nr _ @Vm.evi.eq_2
@[scoped simp] theorem q666 : type_of% @Vm.evi.eq_3 := @nr _ @Vm.evi.eq_3
@[scoped simp] theorem q667 : type_of% @Vm.evi.eq_4 := @nr _ @Vm.evi.eq_4
@[scoped simp] theorem q668 : type_of% @Vm.evi.eq_5 := @nr _ @Vm.evi.eq_5
@[scoped simp] theorem q669 : type_of% @Vm.evi.eq_6 := @nr _ @Vm.evi.eq_6
@[scoped simp] theorem q670 : type_of% @Vm.evi.eq_7 := @nr _ @Vm.evi.eq_7
@[scoped simp] theorem q671 : type_of% @Vm.evt.eq_1 := @nr _ @Vm.evt.eq_1
@[scoped simp] theorem q672 : type_of% @Vm.evt.eq_2 := @nr _ @Vm.evt.eq_2
@[scoped simp] theorem q673 : type_of% @Vm.evt.eq_3 := @nr _ @Vm.evt.eq_3
@[scoped simp] theorem q674 : type_of% @Vm.evt.eq_4 := @nr _ @Vm.evt.eq_4
@[scoped simp] theorem q675 : type_of% @Vm.evt.eq_5 := @nr _ @Vm.evt.eq_5
@[scoped simp] theorem q676 : type_of% @Vm.evt.eq_6 := @nr _ @Vm.evt.eq_6
@[scoped simp] theorem q677 : type_of% @Vm.evt.eq_7 := @nr _ @Vm.evt.eq_7
@[scoped simp] theorem q678 : type_of% @Vm.nmT.eq_1 := @nr _ @Vm.nmT.eq_1
@[scoped simp] theorem q679 : type_of% @Vm.Rv.pth.eq_1 := @nr _ @Vm.Rv.pth.eq_1
@[scoped simp] theorem q680 : type_of% @Vm.Rv.pth.eq_2 := @nr _ @Vm.Rv.pth.eq_2
@[scoped simp] theorem q681 : type_of% @Vm.setM.eq_1 := @nr _ @Vm.setM.eq_1
@[scoped simp] theorem q682 : type_of% @Vm.setM.eq_2 := @nr _ @Vm.setM.eq_2
@[scoped simp] theorem q683 : type_of% @Vm.setM.eq_3 := @nr _ @Vm.setM.eq_3
@[scoped simp] theorem q684 : type_of% @Vm.setM.eq_4 := @nr _ @Vm.setM.eq_4
@[scoped simp] theorem q685 : type_of% @Vm.setLs.eq_1 := @nr _ @Vm.setLs.eq_1
@[scoped simp] theorem q686 : type_of% @Vm.setLs.eq_2 := @nr _ @Vm.setLs.eq_2
@[scoped simp] theorem q687 : type_of% @Vm.twoM.eq_1 := @nr _ @Vm.twoM.eq_1
@[scoped simp] theorem q688 : type_of% @Vm.twoM.eq_2 := @nr _ @Vm.twoM.eq_2
@[scoped simp] theorem q689 : type_of% @Vm.setF.eq_1 := @nr _ @Vm.setF.eq_1
@[scoped simp] theorem q690 : type_of% @Vm.conI.eq_1 := @nr _ @Vm.conI.eq_1
@[scoped simp] theorem q691 : type_of% @Vm.conI.eq_2 := @nr _ @Vm.conI.eq_2
@[scoped simp] theorem q692 : type_of% @Vm.asgN.eq_1 := @nr _ @Vm.asgN.eq_1
@[scoped simp] theorem q693 : type_of% @Vm.asgN.eq_2 := @nr _ @Vm.asgN.eq_2
@[scoped simp] theorem q694 : type_of% @Vm.asgR.eq_1 := @nr _ @Vm.asgR.eq_1
@[scoped simp] theorem q695 : type_of% @Vm.asgR.eq_2 := @nr _ @Vm.asgR.eq_2
@[scoped simp] theorem q696 : type_of% @Vm.asgR.eq_3 := @nr _ @Vm.asgR.eq_3
@[scoped simp] theorem q697 : type_of% @Vm.asgR.eq_4 := @nr _ @Vm.asgR.eq_4
@[scoped simp] theorem q698 : type_of% @Vm.asgR.eq_5 := @nr _ @Vm.asgR.eq_5
@[scoped simp] theorem q699 : type_of% @Vm.subEx.eq_1 := @nr _ @Vm.subEx.eq_1
@[scoped simp] theorem q700 : type_of% @Vm.subEx.eq_2 := @nr _ @Vm.subEx.eq_2
@[scoped simp] theorem q701 : type_of% @Vm.cutTm.eq_1 := @nr _ @Vm.cutTm.eq_1
@[scoped simp] theorem q702 : type_of% @Vm.nmIn.eq_1 := @nr _ @Vm.nmIn.eq_1
@[scoped simp] theorem q703 : type_of% @Vm.pureO.eq_1 := @nr _ @Vm.pureO.eq_1
@[scoped simp] theorem q704 : type_of% @Vm.pureO.eq_2 := @nr _ @Vm.pureO.eq_2
@[scoped simp] theorem q705 : type_of% @Vm.pureS.eq_1 := @nr _ @Vm.pureS.eq_1
@[scoped simp] theorem q706 : type_of% @Vm.undo.eq_1 := @nr _ @Vm.undo.eq_1
@[scoped simp] theorem q707 : type_of% @Vm.undo.eq_2 := @nr _ @Vm.undo.eq_2
@[scoped simp] theorem q708 : type_of% @Vm.ex.eq_1 := @nr _ @Vm.ex.eq_1
@[scoped simp] theorem q709 : type_of% @Vm.ex.eq_2 := @nr _ @Vm.ex.eq_2
@[scoped simp] theorem q710 : type_of% @Vm.ex.eq_3 := @nr _ @Vm.ex.eq_3
@[scoped simp] theorem q711 : type_of% @Vm.ex.eq_4 := @nr _ @Vm.ex.eq_4
@[scoped simp] theorem q712 : type_of% @Vm.ex.eq_5 := @nr _ @Vm.ex.eq_5
@[scoped simp] theorem q713 : type_of% @Vm.ex.eq_6 := @nr _ @Vm.ex.eq_6
@[scoped simp] theorem q714 : type_of% @Vm.ex.eq_7 := @nr _ @Vm.ex.eq_7
@[scoped simp] theorem q715 : type_of% @Vm.ex.eq_10 := @nr _ @Vm.ex.eq_10
@[scoped simp] theorem q716 : type_of% @Vm.ex.eq_12 := @nr _ @Vm.ex.eq_12
@[scoped simp] theorem q717 : type_of% @Vm.ex.eq_13 := @nr _ @Vm.ex.eq_13
@[scoped simp] theorem q718 : type_of% @Vm.ex.eq_14 := @nr _ @Vm.ex.eq_14
@[scoped simp] theorem q719 : type_of% @Vm.ex.eq_15 := @nr _ @Vm.ex.eq_15
@[scoped simp] theorem q720 : type_of% @Vm.ex.eq_16 := @nr _ @Vm.ex.eq_16
@[scoped simp] theorem q721 : type_of% @Vm.ex.eq_17 := @nr _ @Vm.ex.eq_17
@[scoped simp] theorem q722 : type_of% @Vm.ex.eq_18 := @nr _ @Vm.ex.eq_18
@[scoped simp] theorem q723 : type_of% @Vm.ex.eq_19 := @nr _ @Vm.ex.eq_19
@[scoped simp] theorem q724 : type_of% @Vm.exs.eq_1 := @nr _ @Vm.exs.eq_1
@[scoped simp] theorem q725 : type_of% @Vm.exs.eq_2 := @nr _ @Vm.exs.eq_2
@[scoped simp] theorem q726 : type_of% @Vm.finals.eq_1 := @nr _ @Vm.finals.eq_1
@[scoped simp] theorem q727 : type_of% @Vm.finals.eq_2 := @nr _ @Vm.finals.eq_2
@[scoped simp] theorem q728 : type_of% @Vm.finals.eq_3 := @nr _ @Vm.finals.eq_3
@[scoped simp] theorem q729 : type_of% @Vm.keptP.eq_1 := @nr _ @Vm.keptP.eq_1
@[scoped simp] theorem q730 : type_of% @Vm.retC.eq_1 := @nr _ @Vm.retC.eq_1
@[scoped simp] theorem q731 : type_of% @Vm.retC.eq_2 := @nr _ @Vm.retC.eq_2
@[scoped simp] theorem q732 : type_of% @Vm.endC.eq_1 := @nr _ @Vm.endC.eq_1
@[scoped simp] theorem q733 : type_of% @Vm.endC.eq_2 := @nr _ @Vm.endC.eq_2
@[scoped simp] theorem q734 : type_of% @Vm.endC.eq_3 := @nr _ @Vm.endC.eq_3
@[scoped simp] theorem q735 : type_of% @Vm.endC.eq_4 := @nr _ @Vm.endC.eq_4
@[scoped simp] theorem q736 : type_of% @Vm.endC.eq_5 := @nr _ @Vm.endC.eq_5
@[scoped simp] theorem q737 : type_of% @Vm.endC.eq_6 := @nr _ @Vm.endC.eq_6
@[scoped simp] theorem q738 : type_of% @Vm.vst.eq_1 := @nr _ @Vm.vst.eq_1
@[scoped simp] theorem q739 : type_of% @Vm.okAb.eq_1 := @nr _ @Vm.okAb.eq_1
@[scoped simp] theorem q740 : type_of% @Vm.okAb.eq_2 := @nr _ @Vm.okAb.eq_2
@[scoped simp] theorem q741 : type_of% @Vm.ghOk.eq_1 := @nr _ @Vm.ghOk.eq_1
@[scoped simp] theorem q742 : type_of% @Vm.vstg.eq_1 := @nr _ @Vm.vstg.eq_1
@[scoped simp] theorem q743 : type_of% @Vm.sameT.eq_1 := @nr _ @Vm.sameT.eq_1
@[scoped simp] theorem q744 : type_of% @Vm.sameT.eq_2 := @nr _ @Vm.sameT.eq_2
@[scoped simp] theorem q745 : type_of% @Vm.sameT.eq_3 := @nr _ @Vm.sameT.eq_3
@[scoped simp] theorem q746 : type_of% @Vm.ghEnd.eq_1 := @nr _ @Vm.ghEnd.eq_1
@[scoped simp] theorem q747 : type_of% @Vm.datAt.eq_1 := @nr _ @Vm.datAt.eq_1
open PySem
@[scoped simp] theorem ctx_np (P : Prog) (n : Nat) (rb) (c) : (P.ctx n rb c).np = n := nr rfl
@[scoped simp] theorem ctx_call (P : Prog) (n : Nat) (rb) (c) : (P.ctx n rb c).call = c := nr rfl
@[scoped simp] theorem ctx_glo (P : Prog) (n : Nat) (rb) (c) : (P.ctx n rb c).glo = P.glo := nr rfl
@[scoped simp] theorem ctx_sup (P : Prog) (n : Nat) (rb) (c k) : (P.ctx n rb c).sup k = (P.sup[k]?).getD [] := nr rfl
@[scoped simp] theorem ctx_met (P : Prog) (n : Nat) (rb) (c k m) : (P.ctx n rb c).met k m = (P.met[k]?).bind (lkN m) := nr rfl
@[scoped simp] theorem ctx_ini (P : Prog) (n : Nat) (rb) (c k) : (P.ctx n rb c).ini k = (P.ini[k]?).getD none := nr rfl
@[scoped simp] theorem line_def : line = 16777216 := nr rfl
theorem vrun_succ (P : Prog) (k f : Nat) (ms : List M) : vrun P (k + 1) f ms = cs P.fns[f]? fun fd => cif (ms.length == fd.np && decide (fd.np ≤ fd.n) && fd.rb.all (datAt ms) && ghOk fd.gh ms) (endC fd.np fd.rb ms (ghF fd.gh (exs (P.ctx fd.np fd.rb (vrun P k)) fd.body (vstg fd.gh fd.n ms)))) := by rw [vrun]
@[scoped simp] theorem ctx_kp (P : Prog) (n : Nat) (rb) (c f) : (P.ctx n rb c).kp f = ((P.fns[f]?).map Fd.gh).getD [] := nr rfl
@[scoped simp] theorem ctx_fr (P : Prog) (n : Nat) (rb) (c) : (P.ctx n rb c).fr = fun i => decide (n ≤ i) || rb.contains i := nr rfl
@[scoped simp] theorem small_emod (x m : Int) (h : 0 < m) (h2 : m < 2 ^ 64) : small (x % m) = true := by
  have := Int.emod_nonneg x (by omega : m ≠ 0)
  have := Int.emod_lt_of_pos x h
  simp [small]; omega
@[scoped simp] theorem eqv_int (i j : Int) : PyData.eqv (.int i) (.int j) = (i == j) := by simp [PyData.eqv]
@[scoped simp] theorem eqv_str (i j : Str) : PyData.eqv (.str i) (.str j) = (i == j) := by simp [PyData.eqv]
@[scoped simp] theorem eqv_bool (i j : Bool) : PyData.eqv (.bool i) (.bool j) = (i == j) := by simp [PyData.eqv]
@[scoped simp] theorem eqv_none : PyData.eqv .none .none = true := by simp [PyData.eqv]
@[scoped simp] theorem eqv_list (i j : List D) : PyData.eqv (.list i) (.list j) = PyData.eqvAll i j := by simp [PyData.eqv]
@[scoped simp] theorem eqv_tuple (i j : List D) : PyData.eqv (.tuple i) (.tuple j) = PyData.eqvAll i j := by simp [PyData.eqv]
@[scoped simp] theorem eqvAll_nn : PyData.eqvAll [] [] = true := by simp [PyData.eqvAll]
@[scoped simp] theorem eqvAll_cn (x xs) : PyData.eqvAll (x :: xs) [] = false := by simp [PyData.eqvAll]
@[scoped simp] theorem eqvAll_nc (x xs) : PyData.eqvAll [] (x :: xs) = false := by simp [PyData.eqvAll]
@[scoped simp] theorem eqvAll_cc (x xs y ys) : PyData.eqvAll (x :: xs) (y :: ys) = (PyData.eqv x y && PyData.eqvAll xs ys) := by simp [PyData.eqvAll]

def bsel {α : Type} (k : Bool) (x y : Res α) : Res α := match k with | true => x | false => y
@[scoped simp] theorem ev_and (C : Ctx) (a b : E) (s : St) : ev C (.and a b) s = (ev C a s).bd fun r s => rs ((s.val r).bind truM) fun k => bsel k (ev C b s) (.ok r s) := by
  rw [ev]; rfl
@[scoped simp] theorem ev_or (C : Ctx) (a b : E) (s : St) : ev C (.or a b) s = (ev C a s).bd fun r s => rs ((s.val r).bind truM) fun k => bsel k (.ok r s) (ev C b s) := by
  rw [ev]; rfl
@[scoped simp] theorem ev_cmp2 (C : Ctx) (op1 op2) (a b c : E) (s : St) : ev C (.cmp2 op1 op2 a b c) s = (ev C a s).bd fun ra s => rs ra.dat fun x => (ev C b s).bd fun rb s => rs rb.dat fun y =>
    rs (cmpD op1 x y) fun k => bsel k ((ev C c s).bd fun rc s => rs rc.dat fun z => okB (cmpD op2 y z) s) (.ok (.v (.d (.bool false))) s) := by
  rw [ev]; rfl
@[scoped simp] theorem ex_tr (C : Ctx) (b cs nm h) (s : St) : ex C (.tr b cs nm h) s = tried (exs C b s) fun x s1 => match subEx C x cs with
    | true => (match nm with
      | none => (exs C h (cutTm s.tm.length s1)).kill
      | some i => fs (bindN C.fr i x (cutTm s.tm.length s1)) fun s2 => undo i (exs C h s2).kill)
    | false => .exc x s1 := by
  rw [ex]; try rfl
theorem fork_t (s : St) (f g : St → Fl) : Res.fork (.ok true s) f g = f s := nr rfl
theorem fork_f (s : St) (f g : St → Fl) : Res.fork (.ok false s) f g = g s := nr rfl
theorem both_t {α : Type} (s : St) (f g : St → Res α) : Res.both (.ok true s) f g = f s := nr rfl
theorem both_f {α : Type} (s : St) (f g : St → Res α) : Res.both (.ok false s) f g = g s := nr rfl
@[scoped simp] theorem bind_oif {α β : Type} (c : Bool) (o : Option α) (f : α → Option β) : (oif c o).bind f = oif c (o.bind f) := by cases c <;> exact nr rfl
class Hid (α : Type) where
  v : α
@[scoped simp] theorem hid_v {α : Type} (a : α) : (Hid.mk a).v = a := nr rfl
section
variable {α β : Type}
def Res.bdI (r : Res α) [k : Hid (α → St → Res β)] : Res β := r.bd k.v
@[scoped simp ↓] theorem bd_h (r : Res α) (k : α → St → Res β) : r.bd k = @Res.bdI α β r ⟨k⟩ := nr rfl
@[scoped simp] theorem bdI_ok (a : α) (s : St) (k : Hid (α → St → Res β)) : @Res.bdI α β (.ok a s) k = k.v a s := nr rfl
@[scoped simp] theorem bdI_exc (x : M) (s : St) (k : Hid (α → St → Res β)) : @Res.bdI α β (.exc x s) k = .exc x s := nr rfl
@[scoped simp] theorem bdI_no (k : Hid (α → St → Res β)) : @Res.bdI α β .no k = .no := nr rfl
def Res.flI (r : Res α) [k : Hid (α → St → Fl)] : Fl := r.fl k.v
@[scoped simp ↓] theorem fl_h (r : Res α) (k : α → St → Fl) : r.fl k = @Res.flI α r ⟨k⟩ := nr rfl
def Res.flxI (r : Res α) [k : Hid (α → St → Fl)] : Fl := r.flx k.v
@[scoped simp ↓] theorem flx_h (r : Res α) (k : α → St → Fl) : r.flx k = @Res.flxI α r ⟨k⟩ := nr rfl
@[scoped simp] theorem flI_ok (a : α) (s : St) (k : Hid (α → St → Fl)) : @Res.flI α (.ok a s) k = k.v a s := nr rfl
@[scoped simp] theorem flI_exc (x : M) (s : St) (k : Hid (α → St → Fl)) : @Res.flI α (.exc x s) k = .no := nr rfl
@[scoped simp] theorem flxI_exc (x : M) (s : St) (k : Hid (α → St → Fl)) : @Res.flxI α (.exc x s) k = .exc x s := nr rfl
@[scoped simp] theorem flxI_ok (a : α) (s : St) (k : Hid (α → St → Fl)) : @Res.flxI α (.ok a s) k = k.v a s := nr rfl
@[scoped simp] theorem flxI_no (k : Hid (α → St → Fl)) : @Res.flxI α .no k = .no := nr rfl
@[scoped simp] theorem flI_no (k : Hid (α → St → Fl)) : @Res.flI α .no k = .no := nr rfl
def rsI (o : Option α) [k : Hid (α → Res β)] : Res β := rs o k.v
@[scoped simp ↓] theorem rs_h (o : Option α) (k : α → Res β) : rs o k = @rsI α β o ⟨k⟩ := nr rfl
@[scoped simp] theorem rsI_s (a : α) (k : Hid (α → Res β)) : @rsI α β (some a) k = k.v a := nr rfl
@[scoped simp] theorem rsI_n (k : Hid (α → Res β)) : @rsI α β none k = .no := nr rfl
def fsI (o : Option α) [k : Hid (α → Fl)] : Fl := fs o k.v
@[scoped simp ↓] theorem fs_h (o : Option α) (k : α → Fl) : fs o k = @fsI α o ⟨k⟩ := nr rfl
@[scoped simp] theorem fsI_s (a : α) (k : Hid (α → Fl)) : @fsI α (some a) k = k.v a := nr rfl
@[scoped simp] theorem fsI_n (k : Hid (α → Fl)) : @fsI α none k = .no := nr rfl
def csI (o : Option α) [k : Hid (α → CRes)] : CRes := cs o k.v
@[scoped simp ↓] theorem cs_h (o : Option α) (k : α → CRes) : cs o k = @csI α o ⟨k⟩ := nr rfl
@[scoped simp] theorem csI_s (a : α) (k : Hid (α → CRes)) : @csI α (some a) k = k.v a := nr rfl
@[scoped simp] theorem csI_n (k : Hid (α → CRes)) : @csI α none k = .no := nr rfl
def obI (o : Option α) [k : Hid (α → Option β)] : Option β := ob o k.v
@[scoped simp ↓] theorem ob_h (o : Option α) (k : α → Option β) : ob o k = @obI α β o ⟨k⟩ := nr rfl
@[scoped simp] theorem obI_s (a : α) (k : Hid (α → Option β)) : @obI α β (some a) k = k.v a := nr rfl
@[scoped simp] theorem obI_n (k : Hid (α → Option β)) : @obI α β none k = none := nr rfl
def rifI (c : Bool) [r : Hid (Res α)] : Res α := rif c r.v
@[scoped simp ↓] theorem rif_h (c : Bool) (r : Res α) : rif c r = @rifI α c ⟨r⟩ := nr rfl
@[scoped simp] theorem rifI_t (r : Hid (Res α)) : @rifI α true r = r.v := nr rfl
@[scoped simp] theorem rifI_f (r : Hid (Res α)) : @rifI α false r = .no := nr rfl
def fifI (c : Bool) [r : Hid Fl] : Fl := fif c r.v
@[scoped simp ↓] theorem fif_h (c : Bool) (r : Fl) : fif c r = @fifI c ⟨r⟩ := nr rfl
@[scoped simp] theorem fifI_t (r : Hid Fl) : @fifI true r = r.v := nr rfl
@[scoped simp] theorem fifI_f (r : Hid Fl) : @fifI false r = .no := nr rfl
def cifI (c : Bool) [r : Hid CRes] : CRes := cif c r.v
@[scoped simp ↓] theorem cif_h (c : Bool) (r : CRes) : cif c r = @cifI c ⟨r⟩ := nr rfl
@[scoped simp] theorem cifI_t (r : Hid CRes) : @cifI true r = r.v := nr rfl
@[scoped simp] theorem cifI_f (r : Hid CRes) : @cifI false r = .no := nr rfl
def Fl.sqI (f : Fl) [k : Hid (St → Fl)] : Fl := f.sq k.v
@[scoped simp ↓] theorem sq_h (f : Fl) (k : St → Fl) : f.sq k = @Fl.sqI f ⟨k⟩ := nr rfl
@[scoped simp] theorem sqI_nx (s : St) (k : Hid (St → Fl)) : @Fl.sqI (.nx s) k = k.v s := nr rfl
@[scoped simp] theorem sqI_rt (r) (s : St) (k : Hid (St → Fl)) : @Fl.sqI (.rt r s) k = .rt r s := nr rfl
@[scoped simp] theorem sqI_bk (s : St) (k : Hid (St → Fl)) : @Fl.sqI (.bk s) k = .bk s := nr rfl
@[scoped simp] theorem sqI_ct (s : St) (k : Hid (St → Fl)) : @Fl.sqI (.ct s) k = .ct s := nr rfl
@[scoped simp] theorem sqI_exc (x) (s : St) (k : Hid (St → Fl)) : @Fl.sqI (.exc x s) k = .exc x s := nr rfl
@[scoped simp] theorem sqI_no (k : Hid (St → Fl)) : @Fl.sqI .no k = .no := nr rfl
def Fl.lpI (f : Fl) [k : Hid (St → Fl)] [e : Hid (St → Fl)] : Fl := f.lp k.v e.v
@[scoped simp ↓] theorem lp_h (f : Fl) (k e : St → Fl) : f.lp k e = @Fl.lpI f ⟨k⟩ ⟨e⟩ := nr rfl
def triedI (f : Fl) [k : Hid (M → St → Fl)] : Fl := tried f k.v
@[scoped simp ↓] theorem tried_h (f : Fl) (k : M → St → Fl) : tried f k = @triedI f ⟨k⟩ := nr rfl
@[scoped simp] theorem triedI_nx (s : St) (k : Hid (M → St → Fl)) : @triedI (.nx s) k = .nx s := nr rfl
@[scoped simp] theorem triedI_rt (r) (s : St) (k : Hid (M → St → Fl)) : @triedI (.rt r s) k = .rt r s := nr rfl
@[scoped simp] theorem triedI_bk (s : St) (k : Hid (M → St → Fl)) : @triedI (.bk s) k = .bk s := nr rfl
@[scoped simp] theorem triedI_ct (s : St) (k : Hid (M → St → Fl)) : @triedI (.ct s) k = .ct s := nr rfl
@[scoped simp] theorem triedI_exc (x) (s : St) (k : Hid (M → St → Fl)) : @triedI (.exc x s) k = k.v x s := nr rfl
def Res.forkI (r : Res Bool) [f : Hid (St → Fl)] [g : Hid (St → Fl)] : Fl := r.fork f.v g.v
@[scoped simp ↓] theorem fork_h (r : Res Bool) (f g : St → Fl) : r.fork f g = @Res.forkI r ⟨f⟩ ⟨g⟩ := nr rfl
@[scoped simp] theorem forkI_t (s : St) (f g : Hid (St → Fl)) : @Res.forkI (.ok true s) f g = f.v s := nr rfl
@[scoped simp] theorem forkI_f (s : St) (f g : Hid (St → Fl)) : @Res.forkI (.ok false s) f g = g.v s := nr rfl
@[scoped simp] theorem forkI_e (x) (s : St) (f g : Hid (St → Fl)) : @Res.forkI (.exc x s) f g = .no := nr rfl
@[scoped simp] theorem forkI_n (f g : Hid (St → Fl)) : @Res.forkI .no f g = .no := nr rfl
def Res.bothI (r : Res Bool) [f : Hid (St → Res α)] [g : Hid (St → Res α)] : Res α := r.both f.v g.v
@[scoped simp ↓] theorem both_h (r : Res Bool) (f g : St → Res α) : r.both f g = @Res.bothI α r ⟨f⟩ ⟨g⟩ := nr rfl
@[scoped simp] theorem bothI_t (s : St) (f g : Hid (St → Res α)) : @Res.bothI α (.ok true s) f g = f.v s := nr rfl
@[scoped simp] theorem bothI_f (s : St) (f g : Hid (St → Res α)) : @Res.bothI α (.ok false s) f g = g.v s := nr rfl
@[scoped simp] theorem bothI_e (x) (s : St) (f g : Hid (St → Res α)) : @Res.bothI α (.exc x s) f g = .exc x s := nr rfl
@[scoped simp] theorem bothI_n (f g : Hid (St → Res α)) : @Res.bothI α .no f g = .no := nr rfl
def bselI (k : Bool) [x : Hid (Res α)] [y : Hid (Res α)] : Res α := bsel k x.v y.v
@[scoped simp ↓] theorem bsel_h (k : Bool) (x y : Res α) : bsel k x y = @bselI α k ⟨x⟩ ⟨y⟩ := nr rfl
@[scoped simp] theorem bselI_t (x y : Hid (Res α)) : @bselI α true x y = x.v := nr rfl
@[scoped simp] theorem bselI_f (x y : Hid (Res α)) : @bselI α false x y = y.v := nr rfl
def holdI (r : Rv) (s : St) [k : Hid (St → Res α)] [f : Hid (Rv → α → St → Res β)] : Res β := hold r s k.v f.v
@[scoped simp ↓] theorem hold_h (r : Rv) (s : St) (k : St → Res α) (f : Rv → α → St → Res β) : hold r s k f = @holdI α β r s ⟨k⟩ ⟨f⟩ := nr rfl
@[scoped simp] theorem holdI_v (m : M) (s : St) (k : Hid (St → Res α)) (f : Hid (Rv → α → St → Res β)) : @holdI α β (.v m) s k f = @Res.bdI α β (k.v s) ⟨f.v (.v m)⟩ := nr rfl
@[scoped simp] theorem holdI_p (p : Pth) (s : St) (k : Hid (St → Res α)) (f : Hid (Rv → α → St → Res β)) : @holdI α β (.p p) s k f = @Res.bdI α β (k.v (s.push p)) ⟨fun a s => rs (topP s.tm) fun pt => f.v (.p pt.1) a (s.tms pt.2)⟩ := nr rfl
@[scoped simp] theorem obI_oif (c : Bool) (o : Option α) (k : Hid (α → Option β)) : @obI α β (oif c o) k = oif c (@obI α β o k) := by cases c <;> exact nr rfl
@[scoped simp] theorem rsI_oif (c : Bool) (o : Option α) (k : Hid (α → Res β)) : @rsI α β (oif c o) k = @rifI β c ⟨@rsI α β o k⟩ := by cases c <;> exact nr rfl
@[scoped simp] theorem fsI_oif (c : Bool) (o : Option α) (k : Hid (α → Fl)) : @fsI α (oif c o) k = @fifI c ⟨@fsI α o k⟩ := by cases c <;> exact nr rfl
end
theorem small_nat (n : Nat) (h : n < 2 ^ 64) : small (n : Int) = true := by
  simp [small]; omega
@[scoped simp] theorem small_c0 : small 0 = true := small_nat 0 (by decide)
@[scoped simp] theorem small_c1 : small 1 = true := small_nat 1 (by decide)
@[scoped simp] theorem small_c2 : small 2 = true := small_nat 2 (by decide)
@[scoped simp] theorem small_c3 : small 3 = true := small_nat 3 (by decide)
@[scoped simp] theorem small_c4 : small 4 = true := small_nat 4 (by decide)
@[scoped simp] theorem small_c5 : small 5 = true := small_nat 5 (by decide)
@[scoped simp] theorem small_c7 : small 7 = true := small_nat 7 (by decide)
@[scoped simp] theorem small_c11 : small 11 = true := small_nat 11 (by decide)
@[scoped simp] theorem small_c13 : small 13 = true := small_nat 13 (by decide)
@[scoped simp] theorem small_c17 : small 17 = true := small_nat 17 (by decide)
@[scoped simp] theorem small_c7919 : small 7919 = true := small_nat 7919 (by decide)
@[scoped simp] theorem small_c48271 : small 48271 = true := small_nat 48271 (by decide)
@[scoped simp] theorem small_c69621 : small 69621 = true := small_nat 69621 (by decide)
@[scoped simp] theorem small_c39373 : small 39373 = true := small_nat 39373 (by decide)
@[scoped simp] theorem small_c104729 : small 104729 = true := small_nat 104729 (by decide)
@[scoped simp] theorem small_c271828 : small 271828 = true := small_nat 271828 (by decide)
@[scoped simp] theorem small_c314159 : small 314159 = true := small_nat 314159 (by decide)

end Vm
end
section
set_option warn.classDefReducibility false
namespace Vm
open PySem
noncomputable def shut {α : Sort _} (a : α) : α := (Classical.choice (⟨⟨a, rfl⟩⟩ : Nonempty {b : α // b = a})).1
theorem shut_eq {α : Sort _} (a : α) : shut a = a := (Classical.choice (⟨⟨a, rfl⟩⟩ : Nonempty {b : α // b = a})).2
class KR (α : Type) where
  q : α → St → Prop
  e : M → St → Prop
class KF where
  q : Fl → Prop
class KC where
  q : CRv → List M → Prop
  e : M → List M → Prop
class KB where
  a : Prop
  b : Prop
class KI where
  i : St → Prop
class KJ where
  j : List M → St → Prop
def Inv1 (s : St) [J : KI] : Prop := J.i s
def Inv2 (acc : List M) (s : St) [J : KJ] : Prop := J.j acc s
def Res.sat {α : Type} (r : Res α) [K : KR α] : Prop := match r with | .ok a s => K.q a s | .exc x s => K.e x s | .no => False
def Fl.sat (f : Fl) [K : KF] : Prop := match f with | .no => False | .nx s => K.q (.nx s) | .rt r s => K.q (.rt r s) | .bk s => K.q (.bk s) | .ct s => K.q (.ct s) | .exc x s => K.q (.exc x s)
def CRes.sat (r : CRes) [K : KC] : Prop := match r with | .ok a s => K.q a s | .exc x s => K.e x s | .no => False
def need (c A : Prop) : Prop := c ∧ A
def branch (c : Prop) [K : KB] : Prop := (c → K.a) ∧ (¬ c → K.b)
@[scoped simp] theorem need_true (A : Prop) : need True A = A := by simp [need]
@[scoped simp] theorem need_false (A : Prop) : need False A = False := by simp [need]
theorem branch_true (A B : Prop) : @branch True ⟨A, B⟩ = A := by simp [branch]
theorem branch_false (A B : Prop) : @branch False ⟨A, B⟩ = B := by simp [branch]
theorem branch_not (c A B : Prop) : @branch (¬ c) ⟨A, B⟩ = @branch c ⟨B, A⟩ := by
  by_cases h : c <;> simp [branch, h]
variable {α β : Type}
section
variable (Q : α → St → Prop) (Q' : β → St → Prop) (E : M → St → Prop)
@[scoped simp] theorem br_true (A B : Prop) : @branch True ⟨A, B⟩ = A := branch_true A B
@[scoped simp] theorem br_false (A B : Prop) : @branch False ⟨A, B⟩ = B := branch_false A B
@[scoped simp] theorem br_not (c A B : Prop) : @branch (¬ c) ⟨A, B⟩ = @branch c ⟨B, A⟩ := branch_not c A B
@[scoped simp] theorem sat_ok (a : α) (s : St) (K : KR α) : @Res.sat α (Res.ok a s) K = K.q a s := nr rfl
@[scoped simp] theorem sat_exc (x : M) (s : St) (K : KR α) : @Res.sat α (Res.exc x s) K = K.e x s := nr rfl
@[scoped simp] theorem sat_no (K : KR α) : @Res.sat α (Res.no) K = False := nr rfl
@[scoped simp] theorem sat_kill (r : Res α) (K : KR α) : @Res.sat α r.kill K = @Res.sat α r ⟨K.q, fun _ _ => False⟩ := by cases r <;> exact nr rfl
@[scoped simp] theorem kr_e : (KR.mk Q E).e = E := nr rfl
@[scoped simp] theorem kr_q : (KR.mk Q E).q = Q := nr rfl
@[scoped simp] theorem sat_bd (r : Res α) (k : Hid (α → St → Res β)) (K : KR β) : @Res.sat β (@Res.bdI α β r k) K = @Res.sat α r ⟨fun a s => @Res.sat β (k.v a s) K, K.e⟩ := by cases r <;> exact nr rfl
theorem sat_rif0 (c : Bool) (r : Res α) (K : KR α) : @Res.sat α (rif c r) K = need (c = true) (@Res.sat α r K) := by
  cases c with
  | true => rw [show (true = true) = True from eq_self true, need_true]; rfl
  | false => rw [show (false = true) = False from by simp, need_false]; rfl
@[scoped simp] theorem sat_rif (c : Bool) (r : Hid (Res α)) (K : KR α) : @Res.sat α (@rifI α c r) K = need (c = true) (@Res.sat α r.v K) := sat_rif0 c r.v K
@[scoped simp] theorem sat_bsel (b : Bool) (x y : Hid (Res α)) (K : KR α) : @Res.sat α (@bselI α b x y) K = @branch (b = true) ⟨@Res.sat α x.v K, @Res.sat α y.v K⟩ := by cases b <;> simp [branch]
@[scoped simp] theorem sat_bothr (r : Res Bool) (f g : Hid (St → Res α)) (K : KR α) : @Res.sat α (@Res.bothI α r f g) K = @Res.sat Bool r ⟨fun b s => @branch (b = true) ⟨@Res.sat α (f.v s) K, @Res.sat α (g.v s) K⟩, K.e⟩ := by
  cases r with
  | ok a s => cases a <;> simp [branch, Res.sat]
  | exc x s => rfl
  | no => rfl
@[scoped simp] theorem sat_rs_if {γ : Type} (c : Prop) [Decidable c] (a : γ) (k : Hid (γ → Res β)) (K : KR β) : @Res.sat β (@rsI γ β (if c then some a else none) k) K = need c (@Res.sat β (k.v a) K) := by
  by_cases h : c <;> simp [h, need, Res.sat]
end
section
variable (Q : Fl → Prop)
@[scoped simp] theorem fsat_nx (s : St) (K : KF) : @Fl.sat (Fl.nx s) K = K.q (.nx s) := nr rfl
@[scoped simp] theorem fsat_rt (r) (s : St) (K : KF) : @Fl.sat (Fl.rt r s) K = K.q (.rt r s) := nr rfl
@[scoped simp] theorem fsat_bk (s : St) (K : KF) : @Fl.sat (Fl.bk s) K = K.q (.bk s) := nr rfl
@[scoped simp] theorem fsat_ct (s : St) (K : KF) : @Fl.sat (Fl.ct s) K = K.q (.ct s) := nr rfl
@[scoped simp] theorem fsat_exc (x) (s : St) (K : KF) : @Fl.sat (Fl.exc x s) K = K.q (.exc x s) := nr rfl
@[scoped simp] theorem fsat_no (K : KF) : @Fl.sat (Fl.no) K = False := nr rfl
@[scoped simp] theorem fsat_fl (r : Res α) (k : Hid (α → St → Fl)) (K : KF) : @Fl.sat (@Res.flI α r k) K = @Res.sat α r ⟨fun a s => @Fl.sat (k.v a s) K, fun _ _ => False⟩ := by cases r <;> exact nr rfl
@[scoped simp] theorem fsat_flx (r : Res α) (k : Hid (α → St → Fl)) (K : KF) : @Fl.sat (@Res.flxI α r k) K = @Res.sat α r ⟨fun a s => @Fl.sat (k.v a s) K, fun x s => K.q (.exc x s)⟩ := by cases r <;> exact nr rfl
@[scoped simp] theorem kf_q : (KF.mk Q).q = Q := nr rfl
@[scoped simp] theorem fsat_fif (c : Bool) (r : Hid Fl) (K : KF) : @Fl.sat (@fifI c r) K = need (c = true) (@Fl.sat r.v K) := by cases c <;> simp [need, Fl.sat]
theorem fsat_if (c : Prop) [Decidable c] (r r' : Fl) (K : KF) : @Fl.sat (if c then r else r') K = @branch c ⟨@Fl.sat r K, @Fl.sat r' K⟩ := by
  by_cases h : c <;> simp [branch, h]
@[scoped simp] theorem fsat_fs_if {γ : Type} (c : Prop) [Decidable c] (a : γ) (k : Hid (γ → Fl)) (K : KF) : @Fl.sat (@fsI γ (if c then some a else none) k) K = need c (@Fl.sat (k.v a) K) := by
  by_cases h : c <;> simp [h, need, Fl.sat]
noncomputable def sqQ (k : St → Fl) (K : KF) : KF := shut ⟨fun | .nx s => @Fl.sat (k s) K | .no => False | .rt r s => K.q (.rt r s) | .bk s => K.q (.bk s) | .ct s => K.q (.ct s) | .exc x s => K.q (.exc x s)⟩
def lpQ0 (k e : St → Fl) (K : KF) : KF := ⟨fun | .nx s => @Fl.sat (k s) K | .no => False | .rt r s => K.q (.rt r s) | .bk s => @Fl.sat (e s) K | .ct s => @Fl.sat (k s) K | .exc x s => K.q (.exc x s)⟩
noncomputable def lpQ (k e : St → Fl) (K : KF) : KF := shut (lpQ0 k e K)
theorem lpQ_eq (k e : St → Fl) (K : KF) : lpQ k e K = lpQ0 k e K := by unfold lpQ; rw [shut_eq]
theorem fsat_sq0 (f : Fl) (k : St → Fl) (K : KF) : @Fl.sat (f.sq k) K = @Fl.sat f (sqQ k K) := by unfold sqQ; rw [shut_eq]; cases f <;> rfl
theorem fsat_lp0 (f : Fl) (k e : St → Fl) (K : KF) : @Fl.sat (f.lp k e) K = @Fl.sat f (lpQ k e K) := by unfold lpQ; rw [shut_eq]; cases f <;> rfl
@[scoped simp] theorem fsat_sq (f : Fl) (k : Hid (St → Fl)) (K : KF) : @Fl.sat (@Fl.sqI f k) K = @Fl.sat f (sqQ k.v K) := fsat_sq0 f k.v K
@[scoped simp] theorem fsat_lp (f : Fl) (k e : Hid (St → Fl)) (K : KF) : @Fl.sat (@Fl.lpI f k e) K = @Fl.sat f (lpQ k.v e.v K) := fsat_lp0 f k.v e.v K
variable (k e : St → Fl) (K : KF)
@[scoped simp] theorem sqQ_nx (s) : (sqQ k K).q (.nx s) = @Fl.sat (k s) K := by unfold sqQ; rw [shut_eq]; rfl
@[scoped simp] theorem sqQ_rt (r s) : (sqQ k K).q (.rt r s) = K.q (.rt r s) := by unfold sqQ; rw [shut_eq]; rfl
@[scoped simp] theorem sqQ_bk (s) : (sqQ k K).q (.bk s) = K.q (.bk s) := by unfold sqQ; rw [shut_eq]; rfl
@[scoped simp] theorem sqQ_ct (s) : (sqQ k K).q (.ct s) = K.q (.ct s) := by unfold sqQ; rw [shut_eq]; rfl
@[scoped simp] theorem sqQ_exc (x s) : (sqQ k K).q (.exc x s) = K.q (.exc x s) := by unfold sqQ; rw [shut_eq]; rfl
@[scoped simp] theorem lpQ_nx (s) : (lpQ k e K).q (.nx s) = @Fl.sat (k s) K := by unfold lpQ; rw [shut_eq]; rfl
@[scoped simp] theorem lpQ_rt (r s) : (lpQ k e K).q (.rt r s) = K.q (.rt r s) := by unfold lpQ; rw [shut_eq]; rfl
@[scoped simp] theorem lpQ_bk (s) : (lpQ k e K).q (.bk s) = @Fl.sat (e s) K := by unfold lpQ; rw [shut_eq]; rfl
@[scoped simp] theorem lpQ_ct (s) : (lpQ k e K).q (.ct s) = @Fl.sat (k s) K := by unfold lpQ; rw [shut_eq]; rfl
@[scoped simp] theorem lpQ_exc (x s) : (lpQ k e K).q (.exc x s) = K.q (.exc x s) := by unfold lpQ; rw [shut_eq]; rfl
@[scoped simp] theorem fsat_fork (r : Res Bool) (f g : Hid (St → Fl)) : @Fl.sat (@Res.forkI r f g) K = @Res.sat Bool r ⟨fun b s => @branch (b = true) ⟨@Fl.sat (f.v s) K, @Fl.sat (g.v s) K⟩, fun _ _ => False⟩ := by
  cases r with
  | ok a s => cases a <;> simp [branch, Res.sat]
  | exc x s => rfl
  | no => rfl
noncomputable def trQ (k : M → St → Fl) (K : KF) : KF := shut ⟨fun | .exc x s => @Fl.sat (k x s) K | .no => False | .rt r s => K.q (.rt r s) | .bk s => K.q (.bk s) | .ct s => K.q (.ct s) | .nx s => K.q (.nx s)⟩
variable (kx : M → St → Fl)
theorem fsat_tried0 (f : Fl) : @Fl.sat (tried f kx) K = @Fl.sat f (trQ kx K) := by unfold trQ; rw [shut_eq]; cases f <;> rfl
@[scoped simp] theorem fsat_tried (f : Fl) (kx : Hid (M → St → Fl)) : @Fl.sat (@triedI f kx) K = @Fl.sat f (trQ kx.v K) := fsat_tried0 K kx.v f
@[scoped simp] theorem trQ_nx (s) : (trQ kx K).q (.nx s) = K.q (.nx s) := by unfold trQ; rw [shut_eq]; rfl
@[scoped simp] theorem trQ_rt (r s) : (trQ kx K).q (.rt r s) = K.q (.rt r s) := by unfold trQ; rw [shut_eq]; rfl
@[scoped simp] theorem trQ_bk (s) : (trQ kx K).q (.bk s) = K.q (.bk s) := by unfold trQ; rw [shut_eq]; rfl
@[scoped simp] theorem trQ_ct (s) : (trQ kx K).q (.ct s) = K.q (.ct s) := by unfold trQ; rw [shut_eq]; rfl
@[scoped simp] theorem trQ_exc (x s) : (trQ kx K).q (.exc x s) = @Fl.sat (kx x s) K := by unfold trQ; rw [shut_eq]; rfl
noncomputable def killQ (K : KF) : KF := shut ⟨fun | .exc x s => False | .no => False | .rt r s => K.q (.rt r s) | .bk s => K.q (.bk s) | .ct s => K.q (.ct s) | .nx s => K.q (.nx s)⟩
@[scoped simp] theorem fsat_kill (f : Fl) : @Fl.sat f.kill K = @Fl.sat f (killQ K) := by unfold killQ; rw [shut_eq]; cases f <;> rfl
@[scoped simp] theorem killQ_nx (s) : (killQ K).q (.nx s) = K.q (.nx s) := by unfold killQ; rw [shut_eq]; rfl
@[scoped simp] theorem killQ_rt (r s) : (killQ K).q (.rt r s) = K.q (.rt r s) := by unfold killQ; rw [shut_eq]; rfl
@[scoped simp] theorem killQ_bk (s) : (killQ K).q (.bk s) = K.q (.bk s) := by unfold killQ; rw [shut_eq]; rfl
@[scoped simp] theorem killQ_ct (s) : (killQ K).q (.ct s) = K.q (.ct s) := by unfold killQ; rw [shut_eq]; rfl
@[scoped simp] theorem killQ_exc (x s) : (killQ K).q (.exc x s) = False := by unfold killQ; rw [shut_eq]; rfl
end
section
variable (Q : CRv → List M → Prop) (E : M → List M → Prop)
@[scoped simp] theorem kc_e : (KC.mk Q E).e = E := nr rfl
@[scoped simp] theorem kc_q : (KC.mk Q E).q = Q := nr rfl
@[scoped simp] theorem csat_ok (r fin) (K : KC) : @CRes.sat (CRes.ok r fin) K = K.q r fin := nr rfl
@[scoped simp] theorem csat_exc (r fin) (K : KC) : @CRes.sat (CRes.exc r fin) K = K.e r fin := nr rfl
@[scoped simp] theorem csat_no (K : KC) : @CRes.sat (CRes.no) K = False := nr rfl
noncomputable def endQ (np : Nat) (rb : List Nat) (ms : List M) (K : KC) : KF := shut ⟨fun f => @CRes.sat (endC np rb ms f) K⟩
variable (K : KC) (np : Nat) (rb : List Nat) (ms : List M)
@[scoped simp] theorem csat_end (f : Fl) : @CRes.sat (endC np rb ms f) K = @Fl.sat f (endQ np rb ms K) := by unfold endQ; rw [shut_eq]; cases f <;> rfl
@[scoped simp] theorem endQ_nx (s) : (endQ np rb ms K).q (.nx s) = @CRes.sat (cs (finals rb 0 ms s.sl) fun fin => .ok (.v nonM) fin) K := by unfold endQ; rw [shut_eq]; rfl
@[scoped simp] theorem endQ_rt (r s) : (endQ np rb ms K).q (.rt r s) = @CRes.sat (cs (finals rb 0 ms s.sl) fun fin => retC np rb s fin r) K := by unfold endQ; rw [shut_eq]; rfl
@[scoped simp] theorem endQ_exc (x s) : (endQ np rb ms K).q (.exc x s) = @CRes.sat (cs (finals rb 0 ms s.sl) fun fin => .exc x fin) K := by unfold endQ; rw [shut_eq]; rfl
@[scoped simp] theorem csat_cif (c : Bool) (r : Hid CRes) : @CRes.sat (@cifI c r) K = need (c = true) (@CRes.sat r.v K) := by cases c <;> simp [need, CRes.sat]
noncomputable def cendQ (rv : List Rv) (s : St) (K : KR Rv) : KC := shut ⟨fun r fin => @Res.sat Rv (cend rv s (.ok r fin)) K, fun x fin => @Res.sat Rv (cend rv s (.exc x fin)) K⟩
@[scoped simp] theorem sat_cend (rv : List Rv) (s : St) (c : CRes) (K : KR Rv) : @Res.sat Rv (cend rv s c) K = @CRes.sat c (cendQ rv s K) := by unfold cendQ; rw [shut_eq]; cases c <;> rfl
variable (rv : List Rv) (s : St) (KK : KR Rv)
@[scoped simp] theorem cendQ_v (m fin) : (cendQ rv s KK).q (.v m) fin = KK.q (.v m) (back rv fin s) := by unfold cendQ; rw [shut_eq]; rfl
@[scoped simp] theorem cendQ_p (i q fin) : (cendQ rv s KK).q (.p i q) fin = @Res.sat Rv (rs rv[i]? fun r => retP q fin[i]? (back rv fin s) r) KK := by unfold cendQ; rw [shut_eq]; rfl
@[scoped simp] theorem cendQ_e (x fin) : (cendQ rv s KK).e x fin = KK.e x (back rv fin s) := by unfold cendQ; rw [shut_eq]; rfl
noncomputable def cendgQ (gh : List Pth) (rv : List Rv) (s : St) (K : KR Rv) : KC := shut ⟨fun r fin => @Res.sat Rv (cendg gh rv s (.ok r fin)) K, fun x fin => @Res.sat Rv (cendg gh rv s (.exc x fin)) K⟩
@[scoped simp] theorem sat_cendg (gh : List Pth) (c : CRes) : @Res.sat Rv (cendg gh rv s c) KK = @CRes.sat c (cendgQ gh rv s KK) := by unfold cendgQ; rw [shut_eq]; cases c <;> rfl
@[scoped simp] theorem cendgQ_v (gh : List Pth) (m fin) : (cendgQ gh rv s KK).q (.v m) fin = KK.q (.v m) (backg gh 0 rv fin s) := by unfold cendgQ; rw [shut_eq]; rfl
@[scoped simp] theorem cendgQ_e (gh : List Pth) (x fin) : (cendgQ gh rv s KK).e x fin = KK.e x (backg gh 0 rv fin s) := by unfold cendgQ; rw [shut_eq]; rfl
noncomputable def mendQ (rv : List Rv) (s : St) (K : KR Rv) : KC := shut ⟨fun r fin => @Res.sat Rv (mend rv s (.ok r fin)) K, fun x fin => @Res.sat Rv (mend rv s (.exc x fin)) K⟩
@[scoped simp] theorem sat_mend (c : CRes) : @Res.sat Rv (mend rv s c) KK = @CRes.sat c (mendQ rv s KK) := by unfold mendQ; rw [shut_eq]; cases c <;> rfl
@[scoped simp] theorem mendQ_v (o fin) : (mendQ rv s KK).q (.v (.d .none)) (o :: fin) = KK.q (.v o) (back rv fin s) := by unfold mendQ; rw [shut_eq]; rfl
@[scoped simp] theorem mendQ_e (x o fin) : (mendQ rv s KK).e x (o :: fin) = KK.e x (back rv fin s) := by unfold mendQ; rw [shut_eq]; rfl
end
theorem CRes.mono {c : CRes} {K K' : KC} (h : @CRes.sat c K) (hq : ∀ r fin, K.q r fin → K'.q r fin) (he : ∀ x fin, K.e x fin → K'.e x fin) : @CRes.sat c K' := by
  cases c with
  | ok r fin => exact hq r fin h
  | exc x fin => exact he x fin h
  | no => exact h
abbrev noE (_ : M) (_ : List M) : Prop := False
theorem CRes.to {c : CRes} {Q : CRv → List M → Prop} {K' : KC} (h : @CRes.sat c ⟨Q, noE⟩) (hq : ∀ r fin, Q r fin → K'.q r fin) : @CRes.sat c K' := CRes.mono h hq fun _ _ h => h.elim
theorem ghF_nil (f : Fl) : ghF [] f = f := by
  cases f <;> simp [ghF, ghEnd, sameT, fif]
noncomputable def ghQ (gh : List Pth) (K : KF) : KF := shut ⟨fun f => @Fl.sat (ghF gh f) K⟩
@[scoped simp] theorem ghQ_nx (gh : List Pth) (K : KF) (s : St) : (ghQ gh K).q (.nx s) = need (ghEnd gh s = true) (K.q (.nx s)) := by
  unfold ghQ; rw [shut_eq]; show @Fl.sat (fif _ _) K = _
  cases ghEnd gh s <;> simp [fif, need, Fl.sat]
@[scoped simp] theorem ghQ_rt (gh : List Pth) (K : KF) (r) (s : St) : (ghQ gh K).q (.rt r s) = need (ghEnd gh s = true) (K.q (.rt r s)) := by
  unfold ghQ; rw [shut_eq]; show @Fl.sat (fif _ _) K = _
  cases ghEnd gh s <;> simp [fif, need, Fl.sat]
theorem vrun_sat {P : Prog} {k f : Nat} {fd : Fd} {ms : List M} {K : KC} (hK : 1 ≤ k) (hf : P.fns[f]? = some fd) (hl : ms.length = fd.np) (hn : fd.np ≤ fd.n) (hr : fd.rb.all (datAt ms) = true)
    (h : @Fl.sat (exs (P.ctx fd.np fd.rb (vrun P (k - 1))) fd.body (vst fd.n ms)) (endQ fd.np fd.rb ms K)) (hg : fd.gh = [] := by rfl) : @CRes.sat (vrun P k f ms) K := by
  obtain ⟨k, rfl⟩ : ∃ k', k = k' + 1 := ⟨k - 1, by omega⟩
  rw [vrun_succ, hf]
  have : (ms.length == fd.np && decide (fd.np ≤ fd.n) && fd.rb.all (datAt ms) && ghOk fd.gh ms) = true := by simp [hl, hn, hr, hg, ghOk]
  show @CRes.sat (cif _ _) K
  rw [this, hg, ghF_nil]
  rw [show vstg [] fd.n ms = vst fd.n ms from rfl]
  simpa [cif] using h
def turnQ0 (I : St → Prop) (K : KF) : KF := ⟨fun | .nx s => I s | .ct s => I s | .bk s => K.q (.nx s) | .rt r s => K.q (.rt r s) | .exc x s => K.q (.exc x s) | .no => False⟩
noncomputable def turnQ (I : St → Prop) (K : KF) : KF := shut (turnQ0 I K)
theorem turnQ_eq (I : St → Prop) (K : KF) : turnQ I K = turnQ0 I K := by unfold turnQ; rw [shut_eq]
section
variable (I : St → Prop) (K : KF)
@[scoped simp] theorem turnQ_nx (s) : (turnQ I K).q (.nx s) = @Inv1 s ⟨I⟩ := by unfold turnQ; rw [shut_eq]; rfl
@[scoped simp] theorem turnQ_ct (s) : (turnQ I K).q (.ct s) = @Inv1 s ⟨I⟩ := by unfold turnQ; rw [shut_eq]; rfl
@[scoped simp] theorem turnQ_rt (r s) : (turnQ I K).q (.rt r s) = K.q (.rt r s) := by unfold turnQ; rw [shut_eq]; rfl
@[scoped simp] theorem turnQ_bk (s) : (turnQ I K).q (.bk s) = K.q (.nx s) := by unfold turnQ; rw [shut_eq]; rfl
@[scoped simp] theorem turnQ_exc (x s) : (turnQ I K).q (.exc x s) = K.q (.exc x s) := by unfold turnQ; rw [shut_eq]; rfl
end
theorem forM_sat {fr : Nat → Bool} {t : Tn} {body : St → Fl} {K : KF} (I : List M → St → Prop) : ∀ (ms : List M) (s : St), I ms s → (∀ s, I [] s → @Fl.sat (.nx s) K) →
    (∀ m ms s, I (m :: ms) s → @Fl.sat (fs (bindT fr t m s) body) (turnQ (I ms) K)) → @Fl.sat (forM fr t body ms s) K
  | [], s, h, h0, _ => by simpa [forM] using h0 s h
  | m :: ms, s, h, h0, h1 => by
    have := h1 m ms s h
    rw [turnQ_eq] at this
    rw [forM]
    cases hb : bindT fr t m s with
    | none => rw [hb] at this; exact this.elim
    | some s1 =>
      rw [hb] at this
      simp only [fs, fsat_lp0] at this ⊢
      rw [lpQ_eq]
      revert this
      cases hf : body s1 with
      | nx s2 => exact fun h2 => forM_sat I ms s2 h2 h0 h1
      | ct s2 => exact fun h2 => forM_sat I ms s2 h2 h0 h1
      | bk s2 => exact fun h2 => h2
      | rt r s2 => exact fun h2 => h2
      | exc r s2 => exact fun h2 => h2
      | no => exact fun h2 => h2.elim
@[scoped simp] theorem ex_for (C : Ctx) (t : Tn) (it : It) (b : Ss) (s : St) : ex C (.for t it b) s = (evi C it s).fl fun p s => forPl C.fr t (exs C b) p s := by rw [ex]
theorem whl_sat {c : St → Res Bool} {b : St → Fl} {K : KF} (I : Nat → St → Prop) : ∀ (n k : Nat) (s : St), n < k → I n s →
    (∀ n s, I n s → @Fl.sat ((c s).fork (fun s => b s) .bk) (turnQ (fun s => ∃ m, m < n ∧ I m s) K)) → @Fl.sat (whl c b k s) K
  | n, 0, s, hn, _, _ => by omega
  | n, k + 1, s, hn, h, h1 => by
    have := h1 n s h
    rw [turnQ_eq] at this
    rw [whl]
    revert this
    cases hc : c s with
    | no => exact fun h => h
    | exc x s => exact fun h => h
    | ok a s1 =>
      cases a with
      | false => simp only [fork_f]; exact fun h => h
      | true =>
        simp only [fork_t, fsat_lp0]
        rw [lpQ_eq]
        cases hf : b s1 with
        | nx s2 => exact fun ⟨m, hm, h2⟩ => whl_sat I m k s2 (by omega) h2 h1
        | ct s2 => exact fun ⟨m, hm, h2⟩ => whl_sat I m k s2 (by omega) h2 h1
        | bk s2 => exact fun h2 => h2
        | rt r s2 => exact fun h2 => h2
        | exc r s2 => exact fun h2 => h2
        | no => exact fun h2 => h2.elim
def whlE (C : Ctx) (c : E) (b : Ss) (k : Nat) (s : St) : Fl := whl (fun s => tr (ev C c s)) (exs C b) k s
@[scoped simp] theorem ex_whl (C : Ctx) (c : E) (b : Ss) (s : St) : ex C (.whl c b) s = whlE C c b 100000 s := by rw [ex]; rfl
def eltE (C : Ctx) (elt : E) (s : St) : Res M := (ev C elt s).bd fun r s => sto r s
def lcE (C : Ctx) (own : List Nat) (t : Tn) (cond : OE) (elt : E) (ms : List M) (s : St) (acc : List M) : Res (List M) := lcM own t (fun s => evc C cond s) (eltE C elt) ms s acc
def lcEP (C : Ctx) (own : List Nat) (t : Tn) (cond : OE) (elt : E) (p : Pl) (s : St) : Res (List M) := lcPl own t (fun s => evc C cond s) (eltE C elt) p s
@[scoped simp] theorem ev_lc (C : Ctx) (elt : E) (t : Tn) (it : It) (cond : OE) (own : List Nat) (s : St) : ev C (.lc elt t it cond own) s = (evi C it s).bd fun p s0 => rif (quiet own s0)
    ((lcEP C own t cond elt p s0).bd fun ms s => .ok (.v (.lst ms)) (unhide own s0 s)) := by rw [ev]; rfl
@[scoped simp] theorem lcEP_ms (C : Ctx) (own : List Nat) (t : Tn) (cond : OE) (elt : E) (ms : List M) (s : St) : lcEP C own t cond elt (.ms ms) s = rif (decide (ms.length ≤ 16777216)) (lcE C own t cond elt ms (hide own s) []) := nr rfl
def turnL (own : List Nat) (t : Tn) (cond : St → Res Bool) (elt : St → Res M) (m : M) (s : St) : Res (Option M) :=
  rs (bindT (ownF own) t m s) fun s => (cond s).both (fun s => (elt s).bd fun m s => .ok (some m) (hide own s)) (fun s => .ok none (hide own s))
theorem lcM_sat {own : List Nat} {t : Tn} {cond : St → Res Bool} {elt : St → Res M} {Q : List M → St → Prop} {E : M → St → Prop} (I : List M → List M → St → Prop) : ∀ (ms : List M) (s : St) (acc : List M), I ms acc s →
    (∀ acc s, I [] acc s → Q acc s) → (∀ m ms acc s, I (m :: ms) acc s → @Res.sat (Option M) (turnL own t cond elt m s) ⟨fun o s => I ms (acc ++ o.toList) s, E⟩) → @Res.sat (List M) (lcM own t cond elt ms s acc) ⟨Q, E⟩
  | [], s, acc, h, h0, _ => by simpa [lcM] using h0 acc s h
  | m :: ms, s, acc, h, h0, h1 => by
    have := h1 m ms acc s h
    rw [lcM]
    unfold turnL at this
    cases hb : bindT (ownF own) t m s with
    | none => rw [hb] at this; exact this.elim
    | some s1 =>
      rw [hb] at this
      revert this
      simp only [rs]
      cases hc : cond s1 with
      | no => exact fun h => h
      | exc x s => exact fun h => h
      | ok c s2 =>
        cases c with
        | false =>
          simp only [both_f, Res.bd, sat_ok, Option.toList, List.append_nil]
          exact fun h => lcM_sat I ms _ acc h h0 h1
        | true =>
          simp only [both_t, Res.bd]
          cases he : elt s2 with
          | no => exact fun h => h
          | exc x s => exact fun h => h
          | ok x s3 =>
            simp only [sat_ok, Option.toList]
            exact fun h => lcM_sat I ms _ _ h h0 h1
theorem forM_map {α : Type} {fr : Nat → Bool} {t : Tn} {body : St → Fl} {K : KF} (g : α → M) (I : List α → St → Prop) (xs : List α) (s : St) (h : I [] s) (h0 : ∀ s, I xs s → K.q (.nx s))
    (h1 : ∀ done x rest s, xs = done ++ x :: rest → I done s → @Fl.sat (fs (bindT fr t (g x) s) body) (turnQ (I (done ++ [x])) K)) : @Fl.sat (forM fr t body (xs.map g) s) K := by
  refine forM_sat (fun ms s => ∃ done rest, xs = done ++ rest ∧ ms = rest.map g ∧ I done s) _ s ⟨[], xs, rfl, rfl, h⟩ ?_ ?_
  · rintro s ⟨done, rest, e, e2, i⟩
    have : rest = [] := by simpa using e2.symm
    subst this
    rw [List.append_nil] at e
    subst e
    exact h0 s i
  · rintro m ms s ⟨done, rest, e, e2, i⟩
    cases rest with
    | nil => simp at e2
    | cons x rest =>
      simp only [List.map_cons, List.cons.injEq] at e2
      obtain ⟨rfl, rfl⟩ := e2
      have := h1 done x rest s e i
      rw [turnQ_eq] at this ⊢
      have hh : ∀ s, I (done ++ [x]) s → (∃ done' rest', xs = done' ++ rest' ∧ rest.map g = rest'.map g ∧ I done' s) := fun s h => ⟨done ++ [x], rest, by simp [e], rfl, h⟩
      revert this
      cases (fs (bindT fr t (g x) s) body) with
      | nx s2 => exact hh s2
      | ct s2 => exact hh s2
      | bk s2 => exact fun h2 => h2
      | rt r s2 => exact fun h2 => h2
      | exc r s2 => exact fun h2 => h2
      | no => exact fun h2 => h2
theorem lcM_map {α : Type} {own : List Nat} {t : Tn} {cond : St → Res Bool} {elt : St → Res M} {K : KR (List M)} (g : α → M) (I : List α → List M → St → Prop) (xs : List α) (s : St) (acc : List M) (h : I [] acc s) (h0 : ∀ acc s, I xs acc s → K.q acc s)
    (h1 : ∀ done x rest acc s, xs = done ++ x :: rest → I done acc s → @Res.sat (Option M) (turnL own t cond elt (g x) s) ⟨fun o s => @Inv2 (acc ++ o.toList) s ⟨I (done ++ [x])⟩, K.e⟩) : @Res.sat (List M) (lcM own t cond elt (xs.map g) s acc) K := by
  refine lcM_sat (fun ms acc s => ∃ done rest, xs = done ++ rest ∧ ms = rest.map g ∧ I done acc s) _ s acc ⟨[], xs, rfl, rfl, h⟩ ?_ ?_
  · rintro acc s ⟨done, rest, e, e2, i⟩
    have : rest = [] := by simpa using e2.symm
    subst this
    rw [List.append_nil] at e
    subst e
    exact h0 acc s i
  · rintro m ms acc s ⟨done, rest, e, e2, i⟩
    cases rest with
    | nil => simp at e2
    | cons x rest =>
      simp only [List.map_cons, List.cons.injEq] at e2
      obtain ⟨rfl, rfl⟩ := e2
      have := h1 done x rest acc s e i
      revert this
      cases (turnL own t cond elt (g x) s) with
      | ok o s2 => exact fun h => ⟨done ++ [x], rest, by simp [e], rfl, h⟩
      | exc r s2 => exact fun h2 => h2
      | no => exact fun h2 => h2
def turnE (C : Ctx) (own : List Nat) (t : Tn) (cond : OE) (elt : E) (m : M) (s : St) : Res (Option M) :=
  rs (bindT (ownF own) t m s) fun s => (evc C cond s).both (fun s => (ev C elt s).bd fun r s => (sto r s).bd fun m s => .ok (some m) (hide own s)) (fun s => .ok none (hide own s))
theorem turnE_eq (C : Ctx) (own : List Nat) (t : Tn) (cond : OE) (elt : E) (m : M) (s : St) : turnE C own t cond elt m s = turnL own t (fun s => evc C cond s) (eltE C elt) m s := by
  unfold turnE turnL eltE
  congr 1; funext s; congr 1; funext s
  cases ev C elt s <;> rfl
@[scoped simp] theorem turnE_def (C : Ctx) (own : List Nat) (t : Tn) (cond : OE) (elt : E) (m : M) (s : St) : turnE C own t cond elt m s =
  rs (bindT (ownF own) t m s) fun s => (evc C cond s).both (fun s => (ev C elt s).bd fun r s => (sto r s).bd fun m s => .ok (some m) (hide own s)) (fun s => .ok none (hide own s)) := nr rfl
theorem lcE_map {α : Type} {C : Ctx} {own : List Nat} {t : Tn} {cond : OE} {elt : E} {K : KR (List M)} (g : α → M) (I : List α → List M → St → Prop) (xs : List α) (s : St) (acc : List M) (h : I [] acc s) (h0 : ∀ acc s, I xs acc s → K.q acc s)
    (h1 : ∀ done x rest acc s, xs = done ++ x :: rest → I done acc s → @Res.sat (Option M) (turnE C own t cond elt (g x) s) ⟨fun o s => @Inv2 (acc ++ o.toList) s ⟨I (done ++ [x])⟩, K.e⟩) : @Res.sat (List M) (lcE C own t cond elt (xs.map g) s acc) K :=
  lcM_map g I xs s acc h h0 fun done x rest acc s e i => by have := h1 done x rest acc s e i; rwa [turnE_eq] at this
@[scoped simp] theorem hd_none : PyData.hasDict .none = false := by simp [PyData.hasDict]
@[scoped simp] theorem hd_bool (b : Bool) : PyData.hasDict (.bool b) = false := by simp [PyData.hasDict]
@[scoped simp] theorem hd_int (b : Int) : PyData.hasDict (.int b) = false := by simp [PyData.hasDict]
@[scoped simp] theorem hd_str (b : Str) : PyData.hasDict (.str b) = false := by simp [PyData.hasDict]
@[scoped simp] theorem hd_list (b : List D) : PyData.hasDict (.list b) = PyData.hasDictAll b := by simp [PyData.hasDict]
@[scoped simp] theorem hd_tup (b : List D) : PyData.hasDict (.tuple b) = PyData.hasDictAll b := by simp [PyData.hasDict]
@[scoped simp] theorem hd_nil : PyData.hasDictAll [] = false := by simp [PyData.hasDictAll]
@[scoped simp] theorem hd_cons (x : D) (b : List D) : PyData.hasDictAll (x :: b) = (PyData.hasDict x || PyData.hasDictAll b) := by simp [PyData.hasDictAll]
@[scoped simp] theorem dp_none : PyData.depth .none = 0 := by simp [PyData.depth]
@[scoped simp] theorem dp_bool (b : Bool) : PyData.depth (.bool b) = 0 := by simp [PyData.depth]
@[scoped simp] theorem dp_int (b : Int) : PyData.depth (.int b) = 0 := by simp [PyData.depth]
@[scoped simp] theorem dp_str (b : Str) : PyData.depth (.str b) = 0 := by simp [PyData.depth]
@[scoped simp] theorem dp_list (b : List D) : PyData.depth (.list b) = 1 + PyData.depthAll b := by simp [PyData.depth]; try omega
@[scoped simp] theorem dp_tup (b : List D) : PyData.depth (.tuple b) = 1 + PyData.depthAll b := by simp [PyData.depth]; try omega
@[scoped simp] theorem dp_nil : PyData.depthAll [] = 0 := by simp [PyData.depthAll]
@[scoped simp] theorem dp_cons (x : D) (b : List D) : PyData.depthAll (x :: b) = max (PyData.depth x) (PyData.depthAll b) := by simp [PyData.depthAll]
@[scoped simp] theorem eqOk_sc {x y : D} (h : isSc x = true) (h2 : isSc y = true) : eqOk x y = true := by simp [eqOk, h, h2]
theorem eqOk_of {x y : D} (h : x.hasDict = false) (h2 : y.hasDict = false) (h3 : x.depth ≤ 64) : eqOk x y = true := by simp [eqOk, h, h2, shal, h3]
@[scoped simp] theorem inList_def (x : D) (xs : List D) : inList x xs = oif (!x.hasDict && decide (x.depth ≤ 64) && !PyData.hasDictAll xs) (some (xs.any fun y => PyData.eqv y x)) := nr rfl
@[scoped simp] def S0 (l : List (Option M)) : St := { sl := l, rf := [], tm := [] }
@[scoped simp] theorem comp_fun {α β γ : Type} (f : β → γ) (g : α → β) : f ∘ g = fun x => f (g x) := nr rfl
@[scoped simp] theorem allD_map {α : Type} (f : α → D) (xs : List α) : allD (xs.map fun x => .d (f x)) = true := by
  induction xs with
  | nil => rfl
  | cons x xs ih => simp only [List.map_cons, allD]; exact ih
@[scoped simp] theorem frzs_map {α : Type} (f : α → D) (xs : List α) : frzs (xs.map fun x => .d (f x)) = some (xs.map f) := by
  induction xs with
  | nil => rfl
  | cons x xs ih => simp only [List.map_cons, frzs, frz, ih]; rfl
@[scoped simp] theorem allD_mapd (xs : List D) : allD (xs.map .d) = true := allD_map id xs
@[scoped simp] theorem frzs_mapd (xs : List D) : frzs (xs.map .d) = some xs := by simpa using frzs_map id xs
theorem allD_app (a b : List M) : allD (a ++ b) = (allD a && allD b) := by
  induction a with
  | nil => simp [allD]
  | cons x a ih => cases x <;> simp [allD, ih]
theorem frzs_app (a b : List M) : frzs (a ++ b) = (frzs a).bind fun x => (frzs b).bind fun y => some (x ++ y) := by
  induction a with
  | nil => cases h : frzs b <;> simp [frzs, h]
  | cons x a ih => cases h1 : frz x <;> cases h2 : frzs a <;> cases h3 : frzs b <;> simp [frzs, ih, h1, h2, h3]
@[scoped simp] theorem allD_app' (a b : List M) : allD (a ++ b) = (allD a && allD b) := allD_app a b
@[scoped simp] theorem frzs_app' (a b : List M) : frzs (a ++ b) = (frzs a).bind fun x => (frzs b).bind fun y => some (x ++ y) := frzs_app a b
end Vm
end
section
namespace Vm
open PySem
theorem rngD_map (n : Nat) : (rngD 0 n).map M.d = (List.range n).map fun (k : Nat) => .d (.int (k : Int)) := by
  simp [rngD]
theorem range_split {n x : Nat} {done rest : List Nat} (h : List.range n = done ++ x :: rest) : x = done.length ∧ x < n := by
  have h1 : (List.range n)[done.length]? = some x := by rw [h]; simp
  have h2 : done.length < n := by have := congrArg List.length h; simp at this; omega
  rw [List.getElem?_range h2] at h1
  simp at h1
  omega
theorem forM_rng {fr : Nat → Bool} {t : Tn} {body : St → Fl} {K : KF} (I : Nat → St → Prop) (n : Nat) (s : St) (h : I 0 s) (h0 : ∀ s, I n s → K.q (.nx s))
    (h1 : ∀ i s, i < n → I i s → @Fl.sat (fs (bindT fr t (.d (.int i)) s) body) (turnQ (I (i + 1)) K)) : @Fl.sat (forM fr t body ((rngD 0 n).map M.d) s) K := by
  rw [rngD_map]
  refine forM_map _ (fun done => I done.length) _ s h (fun s h => h0 s (by simpa using h)) ?_
  intro done x rest s e i
  obtain ⟨e1, e2⟩ := range_split e
  have := h1 x s e2 (by rw [e1]; exact i)
  rw [List.length_append, List.length_singleton, ← e1]
  exact this
theorem lcE_rng {C : Ctx} {own : List Nat} {t : Tn} {cond : OE} {elt : E} {K : KR (List M)} (I : Nat → List M → St → Prop) (n : Nat) (s : St) (acc : List M) (h : I 0 acc s) (h0 : ∀ acc s, I n acc s → K.q acc s)
    (h1 : ∀ i acc s, i < n → I i acc s → @Res.sat (Option M) (turnE C own t cond elt (.d (.int i)) s) ⟨fun o s => @Inv2 (acc ++ o.toList) s ⟨I (i + 1)⟩, K.e⟩) : @Res.sat (List M) (lcE C own t cond elt ((rngD 0 n).map M.d) s acc) K := by
  rw [rngD_map]
  refine lcE_map _ (fun done => I done.length) _ s acc h (fun acc s h => h0 acc s (by simpa using h)) ?_
  intro done x rest acc s e i
  obtain ⟨e1, e2⟩ := range_split e
  have := h1 x acc s e2 (by rw [e1]; exact i)
  rw [List.length_append, List.length_singleton, ← e1]
  exact this
@[scoped simp] theorem rngD_len (i : Int) (n : Nat) : (rngD i n).length = n := by simp [rngD]
@[scoped simp] theorem small_nn (n : Nat) : small (n : Int) = decide (n < 2 ^ 64) := by
  rw [Bool.eq_iff_iff]; simp [small]; omega
end Vm
end
section
namespace Vm
open PySem
@[scoped simp] theorem len_mk (a : Array Nat) : Str.length ⟨a⟩ = a.size := nr rfl
@[scoped simp] theorem strL_mk (a : Array Nat) : strL ⟨a⟩ = a.toList := nr rfl
abbrev ch (c : Nat) : Str := ⟨#[c]⟩
@[scoped simp] theorem strsOf_map {α : Type} (f : α → Str) (xs : List α) : strsOf (xs.map fun x => .d (.str (f x))) = some (xs.map f) := by
  induction xs with
  | nil => rfl
  | cons x xs ih => simp only [List.map_cons, strsOf, ih]; rfl
@[scoped simp] theorem strsOf_chr (l : List Nat) : strsOf (l.map fun c => .d (chr1 c)) = some (l.map ch) := strsOf_map ch l
theorem joinL_nil : ∀ (xs : List Str), joinL ⟨#[]⟩ xs = (xs.map strL).flatten
  | [] => rfl
  | [x] => by simp [joinL]
  | x :: y :: r => by
    have := joinL_nil (y :: r)
    simp only [joinL, this]
    simp
@[scoped simp] theorem joinL_chr (l : List Nat) : joinL ⟨#[]⟩ (l.map ch) = l := by
  rw [joinL_nil]
  induction l with
  | nil => rfl
  | cons c l ih => simpa using ih
@[scoped simp] theorem joinLen_def (z : Str) (xs : List Str) : joinLen z xs = (joinL z xs).length := nr rfl
@[scoped simp] theorem sum_chr (l : List Nat) : (List.map Str.length (l.map ch)).sum = l.length := by
  induction l with
  | nil => rfl
  | cons c l ih => simp at ih ⊢; omega
@[scoped simp] theorem sum_ones {α : Type} (l : List α) : (l.map fun _ => 1).sum = l.length := by
  induction l with
  | nil => rfl
  | cons c l ih => simp at ih ⊢; omega
@[scoped simp] theorem mkStr_len (l : List Nat) : Str.length (mkStr l) = l.length := by simp [mkStr, Str.length]
@[scoped simp] theorem strL_mkStr (l : List Nat) : strL (mkStr l) = l := by simp [mkStr, strL]
theorem letters_at {n : Nat} (h : n < 26) : [97, 98, 99, 100, 101, 102, 103, 104, 105, 106, 107, 108, 109, 110, 111, 112, 113, 114, 115, 116, 117, 118, 119, 120, 121, 122][n]? = some (97 + n) := by
  have key : ∀ n, n < 26 → [97, 98, 99, 100, 101, 102, 103, 104, 105, 106, 107, 108, 109, 110, 111, 112, 113, 114, 115, 116, 117, 118, 119, 120, 121, 122][n]? = some (97 + n) := by decide
  exact key n h
@[scoped simp] theorem repL_0 (x : D) : repL 0 [.d x] = some [] := by simp [repL, frzs, frz]
@[scoped simp] theorem repL_1 (x : D) : repL 1 [.d x] = some [.d x] := by simp [repL, frzs, frz]
@[scoped simp] theorem popAt_0 (m : M) (ms : List M) : popAt (m :: ms) 0 = some (m, ms) := by
  have h : nix (m :: ms).length 0 = some 0 := by simp [nix]
  unfold popAt
  rw [h]
  simp
@[scoped simp] theorem intsD_map {α : Type} (f : α → Int) (xs : List α) : intsD (xs.map fun x => .int (f x)) = some (xs.map f) := by
  induction xs with
  | nil => rfl
  | cons x xs ih => simp only [List.map_cons, intsD, ih]; rfl
def tx (n : Nat) (x : Str) : Prop := x.length ≤ n ∧ ∀ c ∈ strL x, c < 128
theorem tx_app {a b : Nat} {x y : Str} (h : tx a x) (k : tx b y) : tx (a + b) (x ++ y) := by
  have e : (x ++ y : Str).cps = x.cps ++ y.cps := rfl
  refine ⟨?_, fun c hc => ?_⟩
  · have h1 := h.1
    have h2 := k.1
    simp only [Str.length] at h1 h2 ⊢
    rw [e, Array.size_append]; omega
  · simp only [strL, e, Array.toList_append, List.mem_append] at hc
    rcases hc with hc | hc
    · exact h.2 c hc
    · exact k.2 c hc
theorem tx_mk {n : Nat} {l : List Nat} (h : l.length ≤ n) (h2 : ∀ c ∈ l, c < 128) : tx n (mkStr l) := ⟨by simpa using h, by simpa using h2⟩
@[scoped simp] theorem cut_map {α β : Type} (f : α → β) (l : List α) (lo hi : Option Int) : cut (l.map f) lo hi = (cut l lo hi).map f := by simp [cut, List.map_take, List.map_drop]
theorem cut_mem {α : Type} {l : List α} {lo hi : Option Int} {x : α} (h : x ∈ cut l lo hi) : x ∈ l := List.mem_of_mem_drop (List.mem_of_mem_take h)
theorem tx.mono {n m : Nat} {x : Str} (h : tx n x) (hm : n ≤ m) : tx m x := ⟨Nat.le_trans h.1 hm, h.2⟩
end Vm
end
section
namespace Vm
open PySem
abbrev w_leaf : Str := ⟨#[108, 101, 97, 102]⟩
abbrev w_note : Str := ⟨#[110, 111, 116, 101]⟩
abbrev w_say : Str := ⟨#[115, 97, 121]⟩
abbrev w_turn : Str := ⟨#[116, 117, 114, 110]⟩
abbrev w_again : Str := ⟨#[97, 103, 97, 105, 110]⟩
abbrev w_till : Str := ⟨#[116, 105, 108, 108]⟩
abbrev w_guard : Str := ⟨#[103, 117, 97, 114, 100]⟩
abbrev w_row : Str := ⟨#[114, 111, 119]⟩
abbrev w_first : Str := ⟨#[102, 105, 114, 115, 116]⟩
abbrev w_beside : Str := ⟨#[98, 101, 115, 105, 100, 101]⟩
abbrev w_yes : Str := ⟨#[121, 101, 115]⟩
abbrev w_no : Str := ⟨#[110, 111]⟩
abbrev w_on : Str := ⟨#[111, 110]⟩
inductive Hed where
  | leaf (x : Str) (n : Int) | note (y : Str) (k : Int) | say (a : Str)
  | turn | again (n : Int) | till (a : Str) | guard (y : Str) (k : Int)
  | row | first | beside (m : Int)
inductive Bough where
  | mk (h : Hed) (ts : List Bough)
abbrev Bough.h : Bough → Hed | .mk h _ => h
abbrev Bough.ts : Bough → List Bough | .mk _ ts => ts
def Hed.parts : Hed → List D → List D
  | .leaf x n, _ => [.str w_leaf, .str x, .int n]
  | .note x n, _ => [.str w_note, .str x, .int n]
  | .say a, _ => [.str w_say, .str a]
  | .turn, es => .str w_turn :: es
  | .again n, es => .str w_again :: .int n :: es
  | .till a, es => .str w_till :: .str a :: es
  | .guard y k, es => .str w_guard :: .str y :: .int k :: es
  | .row, es => [.str w_row, .tuple es]
  | .first, es => [.str w_first, .tuple es]
  | .beside m, es => [.str w_beside, .int m, .tuple es]
mutual
def enc : Bough → D | .mk h ts => .tuple (h.parts (encs ts))
def encs : List Bough → List D
  | [] => []
  | t :: ts => enc t :: encs ts
end
@[scoped simp] theorem encs_map (ts : List Bough) : encs ts = ts.map enc := by
  induction ts with
  | nil => rfl
  | cons t ts ih => simp [encs, ih]
def Hed.ar : Hed → List Bough → Prop
  | .leaf _ _, ts => ts = [] | .note _ _, ts => ts = [] | .say _, ts => ts = []
  | .turn, ts => ∃ t, ts = [t] | .again _, ts => ∃ t, ts = [t] | .till _, ts => ∃ t, ts = [t] | .guard _ _, ts => ∃ t, ts = [t]
  | .row, ts => ts ≠ [] | .first, ts => ts ≠ [] | .beside _, ts => ts ≠ []
mutual
def Bough.ok : Bough → Prop | .mk h ts => h.ar ts ∧ oks ts
def oks : List Bough → Prop
  | [] => True
  | t :: ts => t.ok ∧ oks ts
end
mutual
def pre : Bough → List Bough | .mk h ts => .mk h ts :: pres ts
def pres : List Bough → List Bough
  | [] => []
  | t :: ts => pre t ++ pres ts
end
mutual
def size : Bough → Nat | .mk _ ts => 1 + sizes ts
def sizes : List Bough → Nat
  | [] => 0
  | t :: ts => size t + sizes ts
end
mutual
def deep : Bough → Nat | .mk _ ts => 1 + deeps ts
def deeps : List Bough → Nat
  | [] => 0
  | t :: ts => max (deep t) (deeps ts)
end
end Vm
end
section
set_option maxHeartbeats 1000000
namespace Vm
open PySem PySem.Builtin PySem.Builtin.Str
mutual
def rw : D → Nat
  | .none => 4 | .bool _ => 5 | .int _ => 60
  | .str x => 10 * x.length + 2
  | .list xs => rws xs + 3
  | .tuple xs => rws xs + 3
  | .dict _ => 0
def rws : List D → Nat
  | [] => 0
  | x :: xs => rw x + 2 + rws xs
end
def smI (i : Int) : Prop := (0 ≤ i ∧ i < 10 ^ 40) ∨ i = -1 ∨ i = -2
mutual
def asc : D → Prop
  | .none => True | .bool _ => True
  | .int i => smI i
  | .str x => ∀ c ∈ strL x, c < 128
  | .list xs => ascs xs
  | .tuple xs => ascs xs
  | .dict _ => False
def ascs : List D → Prop
  | [] => True
  | x :: xs => asc x ∧ ascs xs
end
def okTx (n : Nat) (t : Str) : Prop := t.length ≤ n ∧ ∀ c ∈ t.cps.toList, c < 0x110000
end Vm
end
section
namespace Vm
open PySem
def nst (x : Str) : Prop := x.length ≤ 20 ∧ ∀ c ∈ strL x, c < 128
def nin (i : Int) : Prop := 0 ≤ i ∧ i ≤ 1000
def Hed.nice : Hed → Prop
  | .leaf x n => nst x ∧ nin n | .note x n => nst x ∧ nin n | .say a => nst a
  | .turn => True | .again n => nin n | .till a => nst a | .guard y k => nst y ∧ nin k
  | .row => True | .first => True | .beside m => nin m
mutual
def nice : Bough → Prop | .mk h ts => h.nice ∧ nices ts
def nices : List Bough → Prop
  | [] => True
  | t :: ts => nice t ∧ nices ts
end
end Vm
end
section
namespace Vm
open PySem
def lname (x : Str) : Prop := 1 ≤ x.length ∧ x.length ≤ 8 ∧ ∀ c ∈ strL x, 97 ≤ c ∧ c ≤ 122
theorem lname.nst {x : Str} (h : lname x) : nst x := ⟨by have := h.2.1; omega, fun c hc => by have := (h.2.2 c hc).2; omega⟩
end Vm
end
section
namespace Vm
open PySem
inductive An where | yes | no | on
deriving DecidableEq
def An.s : An → Str | .yes => w_yes | .no => w_no | .on => w_on
@[scoped simp] theorem an_s_yes : An.yes.s = w_yes := rfl
@[scoped simp] theorem an_s_no : An.no.s = w_no := rfl
@[scoped simp] theorem an_s_on : An.on.s = w_on := rfl
def An.of (x : Str) : An := if x = w_yes then .yes else if x = w_no then .no else .on
def An.turn : An → An | .yes => .no | .no => .yes | .on => .on
structure AC where
  on : Bool
  m : Nat → Int
  an : Str → An
structure AS where
  bd : Str → Int
  sd : List (Nat × An)
  ask : List (Nat × An)
  shut : List Nat
def bdPut (b : Str → Int) (y : Str) (k : Int) : Str → Int := fun z => if z = y then k else b z
def saidA (l : List (Nat × An)) (i : Nat) : Option An := lkN i l
def leafA (c : AC) (x : Str) (n : Int) (at_ : Nat) (s : AS) : An × AS :=
  let a := if n ≤ max 1 (c.m at_) then c.an x else .on
  (a, { s with ask := s.ask ++ [(at_, a)] })
def anyOn (c : AC) : List Bough → Nat → Bool
  | [], _ => false
  | t :: ts, i => decide (0 < c.m i) || anyOn c ts (i + size t)
def besA (m : Int) (l : List An) : An := if m ≤ (l.countP (· = .yes) : Int) then .yes else if (l.length : Int) - m < (l.countP (· = .no) : Int) then .no else .on
def cntA (c : AC) (i : Nat) : Int := max 0 (c.m i - 1)
mutual
def askA (c : AC) : Bough → Nat → AS → An × AS
  | .mk h ts, i, s =>
    let r : An × AS := match h with
      | .leaf x n => leafA c x n i s
      | .note y k => (.yes, { s with bd := bdPut s.bd y k })
      | .say a => (An.of a, s)
      | .turn => let r := ask1 c ts (i + 1) s; (r.1.turn, r.2)
      | .again n => let r := ask1 c ts (i + 1) s; (if r.1 = .yes ∧ cntA c i + 1 < n then .on else r.1, r.2)
      | .till a => let r := ask1 c ts (i + 1) s; (if r.1.s = a then .yes else .on, r.2)
      | .guard y k => if s.bd y ≠ k then (.no, { s with shut := s.shut ++ [i] }) else ask1 c ts (i + 1) s
      | .row => askR c .yes ts (i + 1) (c.on && anyOn c ts (i + 1)) s
      | .first => askR c .no ts (i + 1) (c.on && anyOn c ts (i + 1)) s
      | .beside m => let r := askB c ts (i + 1) s; (besA m r.1, r.2)
    (r.1, { r.2 with sd := r.2.sd ++ [(i, r.1)] })
def ask1 (c : AC) : List Bough → Nat → AS → An × AS
  | [], _, s => (.on, s)
  | t :: _, i, s => askA c t i s
def askR (c : AC) (w : An) : List Bough → Nat → Bool → AS → An × AS
  | [], _, _, s => (w, s)
  | t :: ts, i, sk, s => if sk = true ∧ c.m i ≤ 0 then askR c w ts (i + size t) sk s else
    let r := askA c t i s
    if r.1 = w then askR c w ts (i + size t) false r.2 else r
def askB (c : AC) : List Bough → Nat → AS → List An × AS
  | [], _, s => ([], s)
  | t :: ts, i, s =>
    if c.m i = -1 then let q := askB c ts (i + size t) s; (.yes :: q.1, q.2)
    else if c.m i = -2 then let q := askB c ts (i + size t) s; (.no :: q.1, q.2)
    else
      let r := askA c t i s
      let q := askB c ts (i + size t) r.2
      (r.1 :: q.1, q.2)
end
def markB (c : AC) (sd : List (Nat × An)) (h : Hed) (i : Nat) : Int := match h with
  | .leaf _ n => min n (max 1 (c.m i) + 1)
  | .again _ => 1 + cntA c i + (if saidA sd (i + 1) = some .yes then 1 else 0)
  | _ => 1
def keptA : An → Int | .yes => -1 | _ => -2
def keptM (c : AC) (sd : List (Nat × An)) (i : Nat) : Int := match saidA sd i with | some a => keptA a | none => c.m i
def Hed.isBes : Hed → Bool | .beside _ => true | _ => false
def Hed.isLeaf : Hed → Bool | .leaf _ _ => true | _ => false
mutual
def goOn (c : AC) (sd : List (Nat × An)) : Bough → Nat → List Int
  | .mk h ts, i => markB c sd h i :: goOns c sd h.isBes ts (i + 1)
def goOns (c : AC) (sd : List (Nat × An)) (b : Bool) : List Bough → Nat → List Int
  | [], _ => []
  | t :: ts, i => (if saidA sd i = some .on then goOn c sd t i else (if b = true ∧ c.on = true then keptM c sd i else 0) :: List.replicate (size t - 1) 0) ++ goOns c sd b ts (i + size t)
end
def goneL (c : AC) (sd : List (Nat × An)) (mk : Nat → Int) (i : Nat) : Bool :=
  (decide (0 < c.m i) || decide (saidA sd i = some .on)) && decide (mk i < 1) && !(decide (saidA sd i = some .yes) || decide (saidA sd i = some .no))
def letsA (c : AC) (sd : List (Nat × An)) (mk : Nat → Int) : List Bough → Nat → List Nat
  | [], _ => []
  | t :: ts, i => if t.h.isLeaf && goneL c sd mk i then i :: letsA c sd mk ts (i + 1) else letsA c sd mk ts (i + 1)
structure Told where
  a : An
  asks : List (Nat × An)
  lets : List Nat
  m : List Int
  bd : Str → Int
  sd : List (Nat × An)
  shut : List Nat
def beatA (c : AC) (t : Bough) (bd : Str → Int) : Told :=
  let r := askA c t 0 ⟨bd, [], [], []⟩
  let mk := if r.1 = .on then goOn c r.2.sd t 0 else List.replicate (size t) 0
  ⟨r.1, r.2.ask, letsA c r.2.sd (fun i => (mk[i]?).getD 0) (pre t) 0, mk, r.2.bd, r.2.sd, r.2.shut⟩
end Vm
end
section
open PySem
namespace Vm
def nameB : D → Bool
  | .str x => decide (1 ≤ x.length) && decide (x.length ≤ 8) && (strL x).all fun c => decide (97 ≤ c) && decide (c ≤ 122)
  | _ => false
def btw (lo hi : Int) : D → Bool
  | .int i => decide (lo ≤ i) && decide (i ≤ hi)
  | _ => false
def oneB (xs : List Str) : D → Bool
  | .str x => xs.any fun y => y == x
  | _ => false
def posB : D → Bool
  | .int i => decide (1 ≤ i)
  | _ => false
def scP (c : Nat) (d : D) : Bool :=
  if c = 120 then nameB d else if c = 110 then btw 1 4 d else if c = 107 then btw 0 99 d else if c = 97 then oneB [w_yes, w_no, w_on] d
  else if c = 101 then oneB [w_yes, w_no] d else posB d
def formOf (w : Str) : Option (List Nat) :=
  if w_leaf = w then some [120, 110] else if w_note = w then some [120, 107] else if w_say = w then some [97] else if w_turn = w then some [98] else if w_again = w then some [110, 98]
  else if w_till = w then some [101, 98] else if w_guard = w then some [120, 107, 98] else if w_row = w then some [115] else if w_first = w then some [115] else if w_beside = w then some [109, 115] else none
def besB (w : Str) (ps : List D) : Bool :=
  if w = w_beside then match ps with
    | [.int m, .tuple xs] => decide (m ≤ (xs.length : Int))
    | _ => true
  else true
mutual
def isT : D → Bool
  | .tuple (.str w :: ps) => isF ps (formOf w) && besB w ps
  | _ => false
def areT : D → Bool
  | .tuple xs => !xs.isEmpty && isTs xs
  | _ => false
def isTs : List D → Bool
  | [] => true
  | x :: xs => isT x && isTs xs
def isF : List D → Option (List Nat) → Bool
  | [], some [] => true
  | p :: ps, some (c :: f) => (if c = 98 then isT p else if c = 115 then areT p else scP c p) && isF ps (some f)
  | _, _ => false
end
def isP (c : Nat) (p : D) : Bool := if c = 98 then isT p else if c = 115 then areT p else scP c p
theorem isTs_all (xs : List D) : isTs xs = xs.all isT := by
  induction xs with
  | nil => simp [isTs]
  | cons x xs ih => simp [isTs, ih]
theorem isF_all : ∀ (ps : List D) (f : List Nat), ps.length = f.length → isF ps (some f) = (f.zip ps).all fun p => isP p.1 p.2
  | [], [], _ => by simp [isF]
  | [], _ :: _, h => by simp at h
  | _ :: _, [], h => by simp at h
  | p :: ps, c :: f, h => by
    have := isF_all ps f (by simpa using h)
    simp [isF, isP, this]
theorem isF_len : ∀ (ps : List D) (f : List Nat), ps.length ≠ f.length → isF ps (some f) = false
  | [], [], h => by simp at h
  | [], _ :: _, _ => by simp [isF]
  | _ :: _, [], _ => by simp [isF]
  | p :: ps, c :: f, h => by
    have := isF_len ps f (by simpa using h)
    simp [isF, this]
theorem isF_none : ∀ ps : List D, isF ps none = false
  | [] => by simp [isF]
  | _ :: _ => by simp [isF]
mutual
def dpt : D → Nat
  | .tuple xs => 1 + dpts xs
  | _ => 0
def dpts : List D → Nat
  | [] => 0
  | x :: xs => max (dpt x) (dpts xs)
end
theorem dpts_mem {xs : List D} {x : D} (h : x ∈ xs) : dpt x ≤ dpts xs := by
  induction xs with
  | nil => simp at h
  | cons y xs ih =>
    simp only [dpts]
    rcases List.mem_cons.mp h with rfl | h
    · omega
    · have := ih h; omega
mutual
def ascB : D → Bool
  | .str x => (strL x).all fun c => decide (c < 128)
  | .tuple xs => decide (xs.length ≤ 100000) && ascBs xs
  | .list xs => ascBs xs
  | _ => true
def ascBs : List D → Bool
  | [] => true
  | x :: xs => ascB x && ascBs xs
end
theorem ascBs_all (xs : List D) : ascBs xs = xs.all ascB := by
  induction xs with
  | nil => simp [ascBs]
  | cons x xs ih => simp [ascBs, ih]
end Vm
end
section
namespace Vm
open PySem
structure Grow (i n : Nat) (s s' : AS) : Prop where
  sd : ∃ l, s'.sd = s.sd ++ l ∧ l.length ≤ n ∧ ∀ p ∈ l, i ≤ p.1 ∧ p.1 < i + n
  ask : ∃ l, s'.ask = s.ask ++ l ∧ l.length ≤ n ∧ ∀ p ∈ l, i ≤ p.1 ∧ p.1 < i + n
  shut : ∃ l, s'.shut = s.shut ++ l ∧ l.length ≤ n ∧ ∀ p ∈ l, i ≤ p ∧ p < i + n
theorem Grow.refl (i n : Nat) (s : AS) : Grow i n s s := ⟨⟨[], by simp⟩, ⟨[], by simp⟩, ⟨[], by simp⟩⟩
theorem Grow.of {i n : Nat} {s : AS} (b : Str → Int) : Grow i n s { s with bd := b } := ⟨⟨[], by simp⟩, ⟨[], by simp⟩, ⟨[], by simp⟩⟩
theorem Grow.seq {i n j m : Nat} {s s1 s2 : AS} (h : Grow i n s s1) (g : Grow j m s1 s2) (hj : i ≤ j) {q : Nat} (hq : n + m ≤ q) (hi : i + n ≤ i + q) (hm : j + m ≤ i + q) : Grow i q s s2 := by
  obtain ⟨⟨a, a1, a2, a3⟩, ⟨b, b1, b2, b3⟩, ⟨c, c1, c2, c3⟩⟩ := h
  obtain ⟨⟨a', a1', a2', a3'⟩, ⟨b', b1', b2', b3'⟩, ⟨c', c1', c2', c3'⟩⟩ := g
  refine ⟨⟨a ++ a', by rw [a1', a1, List.append_assoc], by simp; omega, fun p hp => ?_⟩, ⟨b ++ b', by rw [b1', b1, List.append_assoc], by simp; omega, fun p hp => ?_⟩, ⟨c ++ c', by rw [c1', c1, List.append_assoc], by simp; omega, fun p hp => ?_⟩⟩
  · rcases List.mem_append.mp hp with hp | hp
    · have := a3 p hp; omega
    · have := a3' p hp; omega
  · rcases List.mem_append.mp hp with hp | hp
    · have := b3 p hp; omega
    · have := b3' p hp; omega
  · rcases List.mem_append.mp hp with hp | hp
    · have := c3 p hp; omega
    · have := c3' p hp; omega
theorem Grow.more {i n j m : Nat} {s s1 : AS} (h : Grow j m s s1) (hj : i ≤ j) (hm : j + m ≤ i + n) (hn : m ≤ n) : Grow i n s s1 := by
  obtain ⟨⟨a, a1, a2, a3⟩, ⟨b, b1, b2, b3⟩, ⟨c, c1, c2, c3⟩⟩ := h
  exact ⟨⟨a, a1, by omega, fun p hp => by have := a3 p hp; omega⟩, ⟨b, b1, by omega, fun p hp => by have := b3 p hp; omega⟩, ⟨c, c1, by omega, fun p hp => by have := c3 p hp; omega⟩⟩
theorem Grow.say {i n : Nat} {s s1 : AS} {a : An} (h : Grow (i + 1) n s s1) : Grow i (1 + n) s { s1 with sd := s1.sd ++ [(i, a)] } := by
  obtain ⟨⟨l, a1, a2, a3⟩, ⟨b, b1, b2, b3⟩, ⟨c, c1, c2, c3⟩⟩ := h
  refine ⟨⟨l ++ [(i, a)], by simp [a1], by simp; omega, fun p hp => ?_⟩, ⟨b, b1, by omega, fun p hp => by have := b3 p hp; omega⟩, ⟨c, c1, by omega, fun p hp => by have := c3 p hp; omega⟩⟩
  rcases List.mem_append.mp hp with hp | hp
  · have := a3 p hp; omega
  · simp at hp; subst hp; simp; omega
theorem Grow.own {i n : Nat} {s : AS} {a : An} {s1 : AS} (h1 : ∃ l, s1.sd = s.sd ++ l ∧ l = []) (h2 : ∃ l, s1.ask = s.ask ++ l ∧ l.length ≤ 1 ∧ ∀ p ∈ l, p.1 = i) (h3 : ∃ l, s1.shut = s.shut ++ l ∧ l.length ≤ 1 ∧ ∀ p ∈ l, p = i) : Grow i (1 + n) s { s1 with sd := s1.sd ++ [(i, a)] } := by
  obtain ⟨l1, a1, rfl⟩ := h1
  obtain ⟨l2, b1, b2, b3⟩ := h2
  obtain ⟨l3, c1, c2, c3⟩ := h3
  refine ⟨⟨[(i, a)], by simp [a1], by simp, fun p hp => ?_⟩, ⟨l2, b1, by omega, fun p hp => by have := b3 p hp; omega⟩, ⟨l3, c1, by omega, fun p hp => by have := c3 p hp; omega⟩⟩
  simp at hp; subst hp; simp; omega
end Vm
end
section
namespace Vm
open PySem
mutual
def dn (sd : List (Nat × An)) : Bough → Nat → Prop
  | .mk h ts, i => ((∃ n, h = .again n) → saidA sd i ≠ none → saidA sd (i + 1) ≠ none) ∧ dns sd ts (i + 1)
def dns (sd : List (Nat × An)) : List Bough → Nat → Prop
  | [], _ => True
  | t :: ts, i => dn sd t i ∧ dns sd ts (i + size t)
end
theorem lkN_none {l : List (Nat × An)} {i : Nat} (h : ∀ p ∈ l, p.1 ≠ i) : saidA l i = none := by
  unfold saidA
  induction l with
  | nil => rfl
  | cons p l ih =>
    obtain ⟨j, a⟩ := p
    have := h (j, a) (by simp)
    simp only at this
    rw [lkN, if_neg this]
    exact ih fun q hq => h q (by simp [hq])
end Vm
end
section
namespace Vm
open PySem
def lfAt (l : List Bough) (i j : Nat) : Prop := i ≤ j ∧ ∃ u, l[j - i]? = some u ∧ u.h.isLeaf = true
theorem lf_app {l1 l2 : List Bough} {i j : Nat} : lfAt (l1 ++ l2) i j ↔ (lfAt l1 i j ∨ lfAt l2 (i + l1.length) j) := by
  constructor
  · rintro ⟨h1, u, h2, h3⟩
    by_cases c : j - i < l1.length
    · rw [List.getElem?_append_left c] at h2
      exact .inl ⟨h1, u, h2, h3⟩
    · rw [List.getElem?_append_right (by omega)] at h2
      exact .inr ⟨by omega, u, by rw [show j - (i + l1.length) = j - i - l1.length by omega]; exact h2, h3⟩
  · rintro (⟨h1, u, h2, h3⟩ | ⟨h1, u, h2, h3⟩)
    · exact ⟨h1, u, by rw [List.getElem?_append_left (List.getElem?_eq_some_iff.mp h2).1]; exact h2, h3⟩
    · refine ⟨by omega, u, ?_, h3⟩
      rw [List.getElem?_append_right (by omega), show j - i - l1.length = j - (i + l1.length) by omega]
      exact h2
theorem lf_lt {l : List Bough} {i j : Nat} (h : lfAt l i j) : i ≤ j ∧ j < i + l.length := by
  obtain ⟨h1, u, h2, _⟩ := h
  have := (List.getElem?_eq_some_iff.mp h2).1
  omega
def Heard (l : List Bough) (i : Nat) (s s' : AS) : Prop :=
  ∃ la ls, s'.ask = s.ask ++ la ∧ s'.sd = s.sd ++ ls ∧ la.Pairwise (fun p q => p.1 < q.1) ∧ (∀ p ∈ la, i ≤ p.1 ∧ p.1 < i + l.length) ∧ (∀ p ∈ ls, i ≤ p.1 ∧ p.1 < i + l.length) ∧ (ls.map (·.1)).Nodup ∧ ∀ j x, (j, x) ∈ la ↔ ((j, x) ∈ ls ∧ lfAt l i j)
theorem Heard.refl (l : List Bough) (i : Nat) {s s' : AS} (h1 : s'.ask = s.ask) (h2 : s'.sd = s.sd) : Heard l i s s' := ⟨[], [], by simp [h1], by simp [h2], by simp⟩
theorem Heard.seq {l1 l2 : List Bough} {i : Nat} {s s1 s2 : AS} (h : Heard l1 i s s1) (g : Heard l2 (i + l1.length) s1 s2) : Heard (l1 ++ l2) i s s2 := by
  obtain ⟨la, ls, a1, a2, a3, a4, a5, a6, a7⟩ := h
  obtain ⟨lb, lt, b1, b2, b3, b4, b5, b6, b7⟩ := g
  refine ⟨la ++ lb, ls ++ lt, by rw [b1, a1, List.append_assoc], by rw [b2, a2, List.append_assoc], ?_, fun p hp => ?_, fun p hp => ?_, ?_, fun j x => ?_⟩
  · refine List.pairwise_append.mpr ⟨a3, b3, fun p hp q hq => ?_⟩
    have := a4 p hp; have := b4 q hq; omega
  · rw [List.length_append]
    rcases List.mem_append.mp hp with hp | hp
    · have := a4 p hp; omega
    · have := b4 p hp; omega
  · rw [List.length_append]
    rcases List.mem_append.mp hp with hp | hp
    · have := a5 p hp; omega
    · have := b5 p hp; omega
  · rw [List.map_append]
    refine List.nodup_append.mpr ⟨a6, b6, fun p hp q hq e => ?_⟩
    obtain ⟨p', hp', rfl⟩ := List.mem_map.mp hp
    obtain ⟨q', hq', rfl⟩ := List.mem_map.mp hq
    have := a5 p' hp'; have := b5 q' hq'; omega
  · rw [List.mem_append, List.mem_append, a7, b7, lf_app]
    constructor
    · rintro (⟨h1, h2⟩ | ⟨h1, h2⟩)
      · exact ⟨.inl h1, .inl h2⟩
      · exact ⟨.inr h1, .inr h2⟩
    · rintro ⟨h1 | h1, h2 | h2⟩
      · exact .inl ⟨h1, h2⟩
      · have := a5 _ h1; have := lf_lt h2; omega
      · have := b5 _ h1; have := lf_lt h2; omega
      · exact .inr ⟨h1, h2⟩
theorem Heard.left {l1 : List Bough} (l2 : List Bough) {i : Nat} {s s1 : AS} (h : Heard l1 i s s1) : Heard (l1 ++ l2) i s s1 := h.seq (.refl _ _ rfl rfl)
theorem Heard.right (l1 : List Bough) {l2 : List Bough} {i : Nat} {s s1 : AS} (h : Heard l2 (i + l1.length) s s1) : Heard (l1 ++ l2) i s s1 := (Heard.refl l1 i rfl rfl).seq h
theorem Heard.say {u : Bough} {l : List Bough} {i : Nat} {s s1 : AS} {a : An} (hu : u.h.isLeaf = false) (h : Heard l (i + 1) s s1) : Heard (u :: l) i s { s1 with sd := s1.sd ++ [(i, a)] } := by
  obtain ⟨la, ls, a1, a2, a3, a4, a5, a6, a7⟩ := h
  refine ⟨la, ls ++ [(i, a)], a1, by simp [a2], a3, fun p hp => by have := a4 p hp; simp; omega, fun p hp => ?_, ?_, fun j x => ?_⟩
  · rcases List.mem_append.mp hp with hp | hp
    · have := a5 p hp; simp; omega
    · simp at hp; subst hp; simp
  · rw [List.map_append]
    refine List.nodup_append.mpr ⟨a6, by simp, fun p hp q hq e => ?_⟩
    obtain ⟨p', hp', rfl⟩ := List.mem_map.mp hp
    simp at hq
    have := a5 p' hp'; omega
  · rw [a7, List.mem_append]
    constructor
    · rintro ⟨h1, h2, u', h3, h4⟩
      refine ⟨.inl h1, by omega, u', ?_, h4⟩
      rw [show j - i = (j - (i + 1)) + 1 by omega, List.getElem?_cons_succ]; exact h3
    · rintro ⟨h1, h2, u', h3, h4⟩
      by_cases e : j = i
      · subst e
        rw [Nat.sub_self, List.getElem?_cons_zero] at h3
        cases h3
        rw [hu] at h4; cases h4
      · rcases h1 with h1 | h1
        · refine ⟨h1, by omega, u', ?_, h4⟩
          rw [show j - i = (j - (i + 1)) + 1 by omega, List.getElem?_cons_succ] at h3; exact h3
        · simp at h1; exact absurd h1.1 e
structure Leafs (c : AC) (t : Bough) (T : Told) : Prop where
  rise : T.asks.Pairwise (fun p q => p.1 < q.1)
  asked : ∀ j x, (j, x) ∈ T.asks ↔ (saidA T.sd j = some x ∧ lfAt (pre t) 0 j)
  letr : T.lets.Pairwise (· < ·)
  lets : ∀ j, j ∈ T.lets ↔ (lfAt (pre t) 0 j ∧ goneL c T.sd (fun i => (T.m[i]?).getD 0) j = true)
end Vm
end
section
namespace Vm
open PySem
def kidsAt : List Bough → Nat → List Nat
  | [], _ => []
  | t :: ts, i => i :: kidsAt ts (i + size t)
def hrd (c : AC) (sd : List (Nat × An)) (j : Nat) : An := match saidA sd j with | some a => a | none => if c.m j = -1 then .yes else .no
def LoneK (sd : List (Nat × An)) (ks : List Nat) : Prop := ∃ o : Nat, ∀ (j k : Nat), ks[j]? = some k → saidA sd k = some .on → j = o
def okS (c : AC) (sd : List (Nat × An)) (h : Hed) (ts : List Bough) (i : Nat) : Prop := match h with
  | .say a => ∀ x, saidA sd i = some x → x = An.of a
  | .note _ _ => saidA sd i ≠ some .on
  | .again n => saidA sd i = some .on → (saidA sd (i + 1) = some .on ∨ (saidA sd (i + 1) = some .yes ∧ cntA c i + 1 < n))
  | .row => LoneK sd (kidsAt ts (i + 1))
  | .first => LoneK sd (kidsAt ts (i + 1))
  | .beside m => saidA sd i = some .on → besA m ((kidsAt ts (i + 1)).map (hrd c sd)) = .on ∧ ∀ j ∈ kidsAt ts (i + 1), saidA sd j = none → c.m j = -1 ∨ c.m j = -2
  | _ => True
mutual
def cns (c : AC) (sd : List (Nat × An)) : Bough → Nat → Prop
  | .mk h ts, i => okS c sd h ts i ∧ cnss c sd ts (i + 1)
def cnss (c : AC) (sd : List (Nat × An)) : List Bough → Nat → Prop
  | [], _ => True
  | t :: ts, i => cns c sd t i ∧ cnss c sd ts (i + size t)
end
def Free (s : AS) (i n : Nat) : Prop := ∀ p ∈ s.sd, p.1 < i ∨ i + n ≤ p.1
theorem Free.none {s : AS} {i n j : Nat} (h : Free s i n) (h1 : i ≤ j) (h2 : j < i + n) : saidA s.sd j = none := lkN_none fun p hp e => by have := h p hp; omega
theorem Free.sub {s : AS} {i n j m : Nat} (h : Free s i n) (h1 : i ≤ j) (h2 : j + m ≤ i + n) : Free s j m := fun p hp => by have := h p hp; omega
end Vm
end
section
namespace Vm
open PySem
def mAt (mk : List Int) (j : Nat) : Int := (mk[j]?).getD 0
def isMk : Hed → Int → Bool
  | .leaf _ n, m => decide (min 2 n ≤ m ∧ m ≤ n)
  | .again n, m => decide (1 ≤ m ∧ m ≤ n)
  | .say a, m => decide (m = 1 ∧ a = w_on)
  | .note _ _, _ => false
  | _, m => decide (m = 1)
def isRF : Hed → Bool | .row => true | .first => true | _ => false
def goingL (l : List Int) : List Int := l.filter fun m => decide (0 < m)
def keptL (l : List Int) : List Int := l.filter fun m => decide (m < 0)
def mksR (on : Bool) (h : Hed) (l : List Int) : Bool :=
  if isRF h = true ∧ 1 < (goingL l).length then false
  else match on, h with
    | true, .beside m => if (keptL l).all (fun x => decide (x = -1 ∨ x = -2)) then decide (((keptL l).count (-1) : Int) < m ∧ ((keptL l).count (-2) : Int) ≤ l.length - m) else false
    | _, _ => (keptL l).isEmpty
mutual
def grB (on : Bool) (mk : List Int) : Bough → Nat → Bool
  | .mk h ts, i => if mAt mk i < 1 then ((mk.drop (i + 1)).take (sizes ts)).all (fun x => decide (x = 0)) else isMk h (mAt mk i) && mksR on h ((kidsAt ts (i + 1)).map (mAt mk)) && grsB on mk ts (i + 1)
def grsB (on : Bool) (mk : List Int) : List Bough → Nat → Bool
  | [], _ => true
  | t :: ts, i => grB on mk t i && grsB on mk ts (i + size t)
end
def AtI (mk : List Int) (i : Nat) (l : List Int) : Prop := ∀ (j : Nat) (x : Int), l[j]? = some x → mk[i + j]? = some x
theorem AtI.hd {mk l : List Int} {i : Nat} {x : Int} (h : AtI mk i (x :: l)) : mAt mk i = x ∧ AtI mk (i + 1) l :=
  ⟨by have := h 0 x rfl; unfold mAt; rw [show i = i + 0 by rfl, this]; rfl, fun j y e => by
    have := h (j + 1) y (by simpa using e)
    rwa [show i + 1 + j = i + (j + 1) by omega]⟩
def tame (t : Bough) : Prop := ∀ u ∈ pre t, match u.h with | .leaf _ n => 1 ≤ n | .again n => 1 ≤ n | .say a => ∃ v : An, a = v.s | _ => True
def tames (ts : List Bough) : Prop := ∀ u ∈ pres ts, match u.h with | .leaf _ n => 1 ≤ n | .again n => 1 ≤ n | .say a => ∃ v : An, a = v.s | _ => True
mutual
def agM (c : AC) : Bough → Nat → Prop
  | .mk h ts, i => (∀ n, h = .again n → c.m i ≤ n) ∧ agMs c ts (i + 1)
def agMs (c : AC) : List Bough → Nat → Prop
  | [], _ => True
  | t :: ts, i => agM c t i ∧ agMs c ts (i + size t)
end
def Heads (c : AC) (sd : List (Nat × An)) (b : Bool) (mk : List Int) (ts : List Bough) (i : Nat) : Prop :=
  ∀ j ∈ kidsAt ts i, (saidA sd j = some .on → 0 < mAt mk j) ∧ (saidA sd j ≠ some .on → mAt mk j = if b = true ∧ c.on = true then keptM c sd j else 0)
end Vm
end
section
namespace Vm
open PySem
def turnP (own : List Nat) (t : Tn) (cond : St → Res Bool) (elt : St → Res M) (p : Pth) (i : Nat) (m : M) (s : St) : Res (Option M) :=
  rs (bindI (ownF own) t p i m s) fun s => (cond s).both (fun s => (elt s).bd fun m s => .ok (some m) (hide own s)) (fun s => .ok none (hide own s))
def turnPE (C : Ctx) (own : List Nat) (t : Tn) (cond : OE) (elt : E) (p : Pth) (i : Nat) (m : M) (s : St) : Res (Option M) :=
  rs (bindI (ownF own) t p i m s) fun s => (evc C cond s).both (fun s => (ev C elt s).bd fun r s => (sto r s).bd fun m s => .ok (some m) (hide own s)) (fun s => .ok none (hide own s))
@[scoped simp] theorem turnPE_def (C : Ctx) (own : List Nat) (t : Tn) (cond : OE) (elt : E) (p : Pth) (i : Nat) (m : M) (s : St) : turnPE C own t cond elt p i m s =
  rs (bindI (ownF own) t p i m s) fun s => (evc C cond s).both (fun s => (ev C elt s).bd fun r s => (sto r s).bd fun m s => .ok (some m) (hide own s)) (fun s => .ok none (hide own s)) := nr rfl
end Vm
end
section
namespace Vm
open PySem
def trnQ0 (I : St → Prop) (K : KF) : KF := ⟨fun | .nx s => I s | .ct s => I s | .bk s => @Fl.sat (popT s) K | .rt r s => K.q (.rt r s) | .exc x s => K.q (.exc x s) | .no => False⟩
noncomputable def trnQ (I : St → Prop) (K : KF) : KF := shut (trnQ0 I K)
section
variable (I : St → Prop) (K : KF)
@[scoped simp] theorem trnQ_nx (s) : (trnQ I K).q (.nx s) = @Inv1 s ⟨I⟩ := by unfold trnQ; rw [shut_eq]; rfl
@[scoped simp] theorem trnQ_ct (s) : (trnQ I K).q (.ct s) = @Inv1 s ⟨I⟩ := by unfold trnQ; rw [shut_eq]; rfl
@[scoped simp] theorem trnQ_rt (r s) : (trnQ I K).q (.rt r s) = K.q (.rt r s) := by unfold trnQ; rw [shut_eq]; rfl
@[scoped simp] theorem trnQ_bk (s) : (trnQ I K).q (.bk s) = @Fl.sat (popT s) K := by unfold trnQ; rw [shut_eq]; rfl
@[scoped simp] theorem trnQ_exc (x s) : (trnQ I K).q (.exc x s) = K.q (.exc x s) := by unfold trnQ; rw [shut_eq]; rfl
end
end Vm
end
section
open PySem Vm
namespace R_k08
abbrev iMk (l : List Int) : List M := l.map fun i => M.d (.int i)
abbrev nMk (l : List Nat) : List M := l.map fun (i : Nat) => M.d (.int (i : Int))
theorem qb {K : KC} {a b : Bool} {f : List M} (h : K.q (.v (.d (.bool a))) f) (e : a = b) : K.q (.v (.d (.bool b))) f := e ▸ h
theorem bmp_is {α : Type} (f : α → Bool) : ∀ l : List α, boolsD (l.map fun x => .bool (f x)) = some (l.map f)
  | [] => rfl
  | x :: l => by simp [boolsD, bmp_is f l]
end R_k08
end
section
open PySem Vm
namespace R_k08
def whB : D → Bool | .int _ => true | _ => false
theorem whole_wp {k : Nat} {d : D} {K : KC} (hK : 1 ≤ k) (h : K.q (.v (.d (.bool (whB d)))) [.d d]) : @CRes.sat (vrun P k i_is_whole [.d d]) K := by
  refine vrun_sat (by omega) pf_is_whole rfl (by decide) rfl ?_
  cases d <;>
  · simp -implicitDefEqProofs [f_is_whole, vst]
    simpa [whB] using h
theorem between_wp {k : Nat} {d : D} {a b : Int} {K : KC} (hK : 2 ≤ k) (h : K.q (.v (.d (.bool (btw a b d)))) [.d d, .d (.int a), .d (.int b)]) : @CRes.sat (vrun P k i_is_between [.d d, .d (.int a), .d (.int b)]) K := by
  refine vrun_sat (by omega) pf_is_between rfl (by decide) rfl ?_
  simp -implicitDefEqProofs [f_is_between, vst]
  refine whole_wp (by omega) ?_
  cases d with
  | int i =>
    simp -implicitDefEqProofs [whB]
    refine ⟨fun c => ?_, fun c => ?_⟩
    · simp -implicitDefEqProofs [c]
      simpa [btw, c] using h
    · simp -implicitDefEqProofs [c]
      simpa [btw, c] using h
  | _ =>
    simp -implicitDefEqProofs [whB]
    simpa [btw] using h
theorem sub_lt : ∀ c, c < 128 → subStr ⟨#[c]⟩ ⟨#[97, 98, 99, 100, 101, 102, 103, 104, 105, 106, 107, 108, 109, 110, 111, 112, 113, 114, 115, 116, 117, 118, 119, 120, 121, 122]⟩ = (decide (97 ≤ c) && decide (c ≤ 122)) := by decide +kernel
theorem name_wp {k : Nat} {d : D} {K : KC} (hK : 1 ≤ k) (ha : ascB d = true) (h : K.q (.v (.d (.bool (nameB d)))) [.d d]) : @CRes.sat (vrun P k i_is_name [.d d]) K := by
  refine vrun_sat (by omega) pf_is_name rfl (by decide) rfl ?_
  cases d with
  | str x =>
    simp only [ascB, List.all_eq_true, decide_eq_true_eq] at ha
    simp -implicitDefEqProofs [f_is_name, vst]
    refine ⟨fun c1 => ?_, fun c1 => ?_⟩
    · simp -implicitDefEqProofs [c1]
      refine ⟨fun c2 => ?_, fun c2 => ?_⟩
      · have hl : (strL x).length = x.length := by simp [strL, Str.length]
        simp -implicitDefEqProofs [c1, c2]
        refine ⟨by omega, ?_⟩
        refine lcE_map (fun c : Nat => M.d (chr1 c)) (fun dn acc s => acc = dn.map (fun c => M.d (.bool (decide (97 ≤ c) && decide (c ≤ 122)))) ∧ s = S0 [some (.d (.str x)), none]) (strL x) _ _ ⟨rfl, rfl⟩ ?_ ?_
        · rintro acc s ⟨rfl, rfl⟩
          have hb := bmp_is (fun c : Nat => decide (97 ≤ c) && decide (c ≤ 122)) (strL x)
          simp -implicitDefEqProofs [hb]
          refine qb h ?_
          have c1' : 1 ≤ x.length := by omega
          have c2' : x.length ≤ 8 := by omega
          simp [nameB, c1', c2']
        · rintro dn c rest acc s e ⟨rfl, rfl⟩
          have hs := sub_lt c (ha c (by rw [e]; simp))
          simp -implicitDefEqProofs [chr1, hs]
          exact ⟨by simp, rfl⟩
      · simp -implicitDefEqProofs [c1, c2]
        have c2' : ¬ x.length ≤ 8 := by omega
        simpa [nameB, c2'] using h
    · simp -implicitDefEqProofs [c1]
      have c1' : ¬ 1 ≤ x.length := by omega
      simpa [nameB, c1'] using h
  | _ =>
    simp -implicitDefEqProofs [f_is_name, vst]
    simpa [nameB] using h
end R_k08
end
section
open PySem Vm
namespace R_k08
theorem oneof_ans {k : Nat} {d : D} {K : KC} (hK : 1 ≤ k) (h : K.q (.v (.d (.bool (oneB [w_yes, w_no, w_on] d)))) [.d d, .d (.tuple [.str w_yes, .str w_no, .str w_on])]) : @CRes.sat (vrun P k i_is_one_of [.d d, .d (.tuple [.str w_yes, .str w_no, .str w_on])]) K := by
  refine vrun_sat (by omega) pf_is_one_of rfl (by decide) rfl ?_
  cases d with
  | str x =>
    simp -implicitDefEqProofs [f_is_one_of, vst]
    simpa [oneB] using h
  | _ =>
    simp -implicitDefEqProofs [f_is_one_of, vst]
    simpa [oneB] using h
theorem oneof_end {k : Nat} {d : D} {K : KC} (hK : 1 ≤ k) (h : K.q (.v (.d (.bool (oneB [w_yes, w_no] d)))) [.d d, .d (.tuple [.str w_yes, .str w_no])]) : @CRes.sat (vrun P k i_is_one_of [.d d, .d (.tuple [.str w_yes, .str w_no])]) K := by
  refine vrun_sat (by omega) pf_is_one_of rfl (by decide) rfl ?_
  cases d with
  | str x =>
    simp -implicitDefEqProofs [f_is_one_of, vst]
    simpa [oneB] using h
  | _ =>
    simp -implicitDefEqProofs [f_is_one_of, vst]
    simpa [oneB] using h
theorem all_partsB {k : Nat} {L : List (Nat × D)} {x0 : D} {f : Str} {K : KR (List M)} (hL : ∀ p ∈ L, ∀ K : KC, K.q (.v (.d (.bool (isP p.1 p.2)))) [.d (chr1 p.1), .d p.2] → @CRes.sat (vrun P k i_is_part [.d (chr1 p.1), .d p.2]) K)
    (h : K.q (L.map fun p => M.d (.bool (isP p.1 p.2))) (S0 [some (.d x0), some (.d (.str f)), none, none])) :
    @Res.sat (List M) (lcE (P.ctx 1 [] (vrun P k)) [2, 3] (.tp [.nm 2, .nm 3]) .none (.call i_is_part (.cons (.var 2 false) (.cons (.var 3 false) .nil))) (L.map fun p => M.d (.tuple [chr1 p.1, p.2])) (S0 [some (.d x0), some (.d (.str f)), none, none]) []) K := by
  refine lcE_map (fun p : Nat × D => M.d (.tuple [chr1 p.1, p.2])) (fun dn acc s => acc = dn.map (fun p => M.d (.bool (isP p.1 p.2))) ∧ s = S0 [some (.d x0), some (.d (.str f)), none, none]) L _ _ ⟨rfl, rfl⟩ ?_ ?_
  · rintro acc s ⟨rfl, rfl⟩
    exact h
  · rintro dn p rest acc s e ⟨rfl, rfl⟩
    simp -implicitDefEqProofs
    refine hL p (by rw [e]; simp) _ ?_
    simp -implicitDefEqProofs
    exact ⟨by simp, rfl⟩
def sgs : List Nat := [120, 110, 107, 97, 101, 98, 109, 115]
theorem part_wp {k c : Nat} {d : D} {K : KC} (hK : 4 ≤ k) (hc : c ∈ sgs) (ha : ascB d = true)
    (hb : c = 98 → ∀ K : KC, K.q (.v (.d (.bool (isT d)))) [.d d] → @CRes.sat (vrun P (k - 1) i_is_tree [.d d]) K)
    (hs : c = 115 → ∀ K : KC, K.q (.v (.d (.bool (areT d)))) [.d d] → @CRes.sat (vrun P (k - 1) i_are_trees [.d d]) K)
    (h : K.q (.v (.d (.bool (isP c d)))) [.d (chr1 c), .d d]) : @CRes.sat (vrun P k i_is_part [.d (chr1 c), .d d]) K := by
  refine vrun_sat (by omega) pf_is_part rfl (by decide) rfl ?_
  simp only [sgs, List.mem_cons, List.not_mem_nil, or_false] at hc
  rcases hc with rfl | rfl | rfl | rfl | rfl | rfl | rfl | rfl
  · simp -implicitDefEqProofs [f_is_part, vst, chr1]
    refine name_wp (by omega) ha ?_
    simp -implicitDefEqProofs
    exact h
  · simp -implicitDefEqProofs [f_is_part, vst, chr1]
    refine between_wp (by omega) ?_
    simp -implicitDefEqProofs
    exact h
  · simp -implicitDefEqProofs [f_is_part, vst, chr1]
    refine between_wp (by omega) ?_
    simp -implicitDefEqProofs
    exact h
  · simp -implicitDefEqProofs [f_is_part, vst, chr1]
    refine oneof_ans (by omega) ?_
    simp -implicitDefEqProofs
    exact h
  · simp -implicitDefEqProofs [f_is_part, vst, chr1]
    refine oneof_end (by omega) ?_
    simp -implicitDefEqProofs
    exact h
  · simp -implicitDefEqProofs [f_is_part, vst, chr1]
    refine hb rfl _ ?_
    simp -implicitDefEqProofs
    exact h
  · simp -implicitDefEqProofs [f_is_part, vst, chr1]
    refine whole_wp (by omega) ?_
    cases d with
    | int i =>
      simp -implicitDefEqProofs [whB]
      exact h
    | _ =>
      simp -implicitDefEqProofs [whB]
      exact h
  · simp -implicitDefEqProofs [f_is_part, vst, chr1]
    refine hs rfl _ ?_
    simp -implicitDefEqProofs
    exact h
end R_k08
end
section
open PySem Vm
namespace R_k08
theorem asc_tup {xs : List D} (h : ascB (.tuple xs) = true) : xs.length ≤ 100000 ∧ ∀ x ∈ xs, ascB x = true := by
  simp only [ascB, ascBs_all, Bool.and_eq_true, decide_eq_true_eq, List.all_eq_true] at h
  exact h
def TreeW (n : Nat) : Prop := ∀ {k : Nat} {d : D} {K : KC}, dpt d ≤ n → 2 * n + 4 ≤ k → ascB d = true → K.q (.v (.d (.bool (isT d)))) [.d d] → @CRes.sat (vrun P k i_is_tree [.d d]) K
theorem are_wp {n : Nat} (ih : ∀ m, m < n → TreeW m) {k : Nat} {d : D} {K : KC} (hd : dpt d ≤ n) (hK : 2 * n + 3 ≤ k) (ha : ascB d = true) (h : K.q (.v (.d (.bool (areT d)))) [.d d]) : @CRes.sat (vrun P k i_are_trees [.d d]) K := by
  refine vrun_sat (by omega) pf_are_trees rfl (by decide) rfl ?_
  cases d with
  | tuple xs =>
    obtain ⟨a1, a2⟩ := asc_tup ha
    cases xs with
    | nil =>
      simp -implicitDefEqProofs [f_are_trees, vst]
      simpa [areT] using h
    | cons x xs =>
      have hp : 0 < (xs.length : Int) + 1 := by omega
      simp only [List.length_cons] at a1
      simp only [dpt] at hd
      simp -implicitDefEqProofs [f_are_trees, vst, hp]
      refine ⟨by omega, ?_⟩
      refine lcE_map (fun u => M.d u) (fun dn acc s => acc = dn.map (fun u => M.d (.bool (isT u))) ∧ s = S0 [some (.d (.tuple (x :: xs))), none]) (x :: xs) _ _ ⟨rfl, rfl⟩ ?_ ?_
      · rintro acc s ⟨rfl, rfl⟩
        have hb := bmp_is isT (x :: xs)
        simp only [List.map_cons] at hb
        simp -implicitDefEqProofs [hb]
        refine qb h ?_
        simp [areT, isTs_all, List.all_map, isTs]
      · rintro dn u rest acc s e ⟨rfl, rfl⟩
        have hu : u ∈ x :: xs := by rw [e]; simp
        have h1 := dpts_mem hu
        simp -implicitDefEqProofs
        refine ih (n - 1) (by omega) (by omega) (by omega) (a2 u hu) ?_
        simp -implicitDefEqProofs
        exact ⟨by simp, rfl⟩
  | _ =>
    simp -implicitDefEqProofs [f_are_trees, vst]
    simpa [areT] using h
theorem tree_step {n : Nat} (ih : ∀ m, m < n → TreeW m) : TreeW n := by
  intro k d K hd hK ha h
  refine vrun_sat (by omega) pf_is_tree rfl (by decide) rfl ?_
  cases d with
  | tuple xs =>
    obtain ⟨a1, a2⟩ := asc_tup ha
    cases xs with
    | nil =>
      simp -implicitDefEqProofs [f_is_tree, vst]
      simpa [isT] using h
    | cons x ps =>
      have hp : ¬ ((ps.length : Int) + 1 = 0) := by omega
      cases x with
      | str w =>
        simp only [List.length_cons] at a1
        simp only [dpt, dpts] at hd
        have part : ∀ c p, c ∈ sgs → p ∈ ps → ∀ K : KC, K.q (.v (.d (.bool (isP c p)))) [.d (chr1 c), .d p] → @CRes.sat (vrun P (k - 1) i_is_part [.d (chr1 c), .d p]) K := by
          intro c p hc hp K hq
          have h1 := dpts_mem hp
          exact part_wp (by omega) hc (a2 p (by simp [hp])) (fun _ K hq => ih (n - 1) (by omega) (by omega) (by omega) (a2 p (by simp [hp])) hq)
            (fun _ K hq => are_wp (n := n - 1) (fun m hm => ih m (by omega)) (by omega) (by omega) (a2 p (by simp [hp])) hq) hq
        have y0 : 0 < (ps.length : Int) + 1 := by omega
        simp -implicitDefEqProofs [f_is_tree, vst, hp, y0]
        simp only [isT] at h
        by_cases c_leaf : w_leaf = w
        · subst c_leaf
          have hf : formOf w_leaf = some [120, 110] := by decide
          rw [hf] at h
          simp -implicitDefEqProofs
          refine ⟨fun e => ?_, fun e => ?_⟩
          · obtain ⟨p, q, rfl⟩ : ∃ p q, ps = [p, q] := by
              rcases ps with _ | ⟨p, _ | ⟨q, _ | ⟨r, ps⟩⟩⟩ <;> simp at e ⊢
              all_goals omega
            rw [isF_all _ _ rfl] at h
            simp only [List.zip_cons_cons, List.zip_nil_right, List.all_cons, List.all_nil, Bool.and_true] at h
            simp -implicitDefEqProofs
            refine ⟨by show 2 ≤ 16777216; decide, ?_⟩
            refine all_partsB (L := [(120, p), (110, q)]) (fun pr hp K hq => ?_) ?_
            · simp only [List.mem_cons, List.not_mem_nil, or_false] at hp
              rcases hp with rfl | rfl
              all_goals exact part _ _ (by simp [sgs]) (by simp) _ hq
            · have hb : besB w_leaf [p, q] = true := by simp [besB]
              rw [hb, Bool.and_true] at h
              cases e0 : isP 120 p <;> cases e1 : isP 110 q <;>
              · rw [e0, e1] at h
                simp -implicitDefEqProofs [boolsD, asBool, e0, e1]
                exact h
          · rw [isF_len _ _ (by simp; omega)] at h
            simp -implicitDefEqProofs
            exact h
        by_cases c_note : w_note = w
        · subst c_note
          have hf : formOf w_note = some [120, 107] := by decide
          rw [hf] at h
          simp -implicitDefEqProofs
          refine ⟨fun e => ?_, fun e => ?_⟩
          · obtain ⟨p, q, rfl⟩ : ∃ p q, ps = [p, q] := by
              rcases ps with _ | ⟨p, _ | ⟨q, _ | ⟨r, ps⟩⟩⟩ <;> simp at e ⊢
              all_goals omega
            rw [isF_all _ _ rfl] at h
            simp only [List.zip_cons_cons, List.zip_nil_right, List.all_cons, List.all_nil, Bool.and_true] at h
            simp -implicitDefEqProofs
            refine ⟨by show 2 ≤ 16777216; decide, ?_⟩
            refine all_partsB (L := [(120, p), (107, q)]) (fun pr hp K hq => ?_) ?_
            · simp only [List.mem_cons, List.not_mem_nil, or_false] at hp
              rcases hp with rfl | rfl
              all_goals exact part _ _ (by simp [sgs]) (by simp) _ hq
            · have hb : besB w_note [p, q] = true := by simp [besB]
              rw [hb, Bool.and_true] at h
              cases e0 : isP 120 p <;> cases e1 : isP 107 q <;>
              · rw [e0, e1] at h
                simp -implicitDefEqProofs [boolsD, asBool, e0, e1]
                exact h
          · rw [isF_len _ _ (by simp; omega)] at h
            simp -implicitDefEqProofs
            exact h
        by_cases c_say : w_say = w
        · subst c_say
          have hf : formOf w_say = some [97] := by decide
          rw [hf] at h
          simp -implicitDefEqProofs
          refine ⟨fun e => ?_, fun e => ?_⟩
          · obtain ⟨p, rfl⟩ : ∃ p, ps = [p] := by
              rcases ps with _ | ⟨p, _ | ⟨q, ps⟩⟩ <;> simp at e ⊢
              all_goals omega
            rw [isF_all _ _ rfl] at h
            simp only [List.zip_cons_cons, List.zip_nil_right, List.all_cons, List.all_nil, Bool.and_true] at h
            simp -implicitDefEqProofs
            refine ⟨by show 1 ≤ 16777216; decide, ?_⟩
            refine all_partsB (L := [(97, p)]) (fun pr hp K hq => ?_) ?_
            · simp only [List.mem_cons, List.not_mem_nil, or_false] at hp
              rcases hp with rfl
              all_goals exact part _ _ (by simp [sgs]) (by simp) _ hq
            · have hb : besB w_say [p] = true := by simp [besB]
              rw [hb, Bool.and_true] at h
              cases e0 : isP 97 p <;>
              · rw [e0] at h
                simp -implicitDefEqProofs [boolsD, asBool, e0]
                exact h
          · rw [isF_len _ _ (by simp; omega)] at h
            simp -implicitDefEqProofs
            exact h
        by_cases c_turn : w_turn = w
        · subst c_turn
          have hf : formOf w_turn = some [98] := by decide
          rw [hf] at h
          simp -implicitDefEqProofs
          refine ⟨fun e => ?_, fun e => ?_⟩
          · obtain ⟨p, rfl⟩ : ∃ p, ps = [p] := by
              rcases ps with _ | ⟨p, _ | ⟨q, ps⟩⟩ <;> simp at e ⊢
              all_goals omega
            rw [isF_all _ _ rfl] at h
            simp only [List.zip_cons_cons, List.zip_nil_right, List.all_cons, List.all_nil, Bool.and_true] at h
            simp -implicitDefEqProofs
            refine ⟨by show 1 ≤ 16777216; decide, ?_⟩
            refine all_partsB (L := [(98, p)]) (fun pr hp K hq => ?_) ?_
            · simp only [List.mem_cons, List.not_mem_nil, or_false] at hp
              rcases hp with rfl
              all_goals exact part _ _ (by simp [sgs]) (by simp) _ hq
            · have hb : besB w_turn [p] = true := by simp [besB]
              rw [hb, Bool.and_true] at h
              cases e0 : isP 98 p <;>
              · rw [e0] at h
                simp -implicitDefEqProofs [boolsD, asBool, e0]
                exact h
          · rw [isF_len _ _ (by simp; omega)] at h
            simp -implicitDefEqProofs
            exact h
        by_cases c_again : w_again = w
        · subst c_again
          have hf : formOf w_again = some [110, 98] := by decide
          rw [hf] at h
          simp -implicitDefEqProofs
          refine ⟨fun e => ?_, fun e => ?_⟩
          · obtain ⟨p, q, rfl⟩ : ∃ p q, ps = [p, q] := by
              rcases ps with _ | ⟨p, _ | ⟨q, _ | ⟨r, ps⟩⟩⟩ <;> simp at e ⊢
              all_goals omega
            rw [isF_all _ _ rfl] at h
            simp only [List.zip_cons_cons, List.zip_nil_right, List.all_cons, List.all_nil, Bool.and_true] at h
            simp -implicitDefEqProofs
            refine ⟨by show 2 ≤ 16777216; decide, ?_⟩
            refine all_partsB (L := [(110, p), (98, q)]) (fun pr hp K hq => ?_) ?_
            · simp only [List.mem_cons, List.not_mem_nil, or_false] at hp
              rcases hp with rfl | rfl
              all_goals exact part _ _ (by simp [sgs]) (by simp) _ hq
            · have hb : besB w_again [p, q] = true := by simp [besB]
              rw [hb, Bool.and_true] at h
              cases e0 : isP 110 p <;> cases e1 : isP 98 q <;>
              · rw [e0, e1] at h
                simp -implicitDefEqProofs [boolsD, asBool, e0, e1]
                exact h
          · rw [isF_len _ _ (by simp; omega)] at h
            simp -implicitDefEqProofs
            exact h
        by_cases c_till : w_till = w
        · subst c_till
          have hf : formOf w_till = some [101, 98] := by decide
          rw [hf] at h
          simp -implicitDefEqProofs
          refine ⟨fun e => ?_, fun e => ?_⟩
          · obtain ⟨p, q, rfl⟩ : ∃ p q, ps = [p, q] := by
              rcases ps with _ | ⟨p, _ | ⟨q, _ | ⟨r, ps⟩⟩⟩ <;> simp at e ⊢
              all_goals omega
            rw [isF_all _ _ rfl] at h
            simp only [List.zip_cons_cons, List.zip_nil_right, List.all_cons, List.all_nil, Bool.and_true] at h
            simp -implicitDefEqProofs
            refine ⟨by show 2 ≤ 16777216; decide, ?_⟩
            refine all_partsB (L := [(101, p), (98, q)]) (fun pr hp K hq => ?_) ?_
            · simp only [List.mem_cons, List.not_mem_nil, or_false] at hp
              rcases hp with rfl | rfl
              all_goals exact part _ _ (by simp [sgs]) (by simp) _ hq
            · have hb : besB w_till [p, q] = true := by simp [besB]
              rw [hb, Bool.and_true] at h
              cases e0 : isP 101 p <;> cases e1 : isP 98 q <;>
              · rw [e0, e1] at h
                simp -implicitDefEqProofs [boolsD, asBool, e0, e1]
                exact h
          · rw [isF_len _ _ (by simp; omega)] at h
            simp -implicitDefEqProofs
            exact h
        by_cases c_guard : w_guard = w
        · subst c_guard
          have hf : formOf w_guard = some [120, 107, 98] := by decide
          rw [hf] at h
          simp -implicitDefEqProofs
          refine ⟨fun e => ?_, fun e => ?_⟩
          · obtain ⟨p, q, r, rfl⟩ : ∃ p q r, ps = [p, q, r] := by
              rcases ps with _ | ⟨p, _ | ⟨q, _ | ⟨r, _ | ⟨s, ps⟩⟩⟩⟩ <;> simp at e ⊢
              all_goals omega
            rw [isF_all _ _ rfl] at h
            simp only [List.zip_cons_cons, List.zip_nil_right, List.all_cons, List.all_nil, Bool.and_true] at h
            simp -implicitDefEqProofs
            refine ⟨by show 3 ≤ 16777216; decide, ?_⟩
            refine all_partsB (L := [(120, p), (107, q), (98, r)]) (fun pr hp K hq => ?_) ?_
            · simp only [List.mem_cons, List.not_mem_nil, or_false] at hp
              rcases hp with rfl | rfl | rfl
              all_goals exact part _ _ (by simp [sgs]) (by simp) _ hq
            · have hb : besB w_guard [p, q, r] = true := by simp [besB]
              rw [hb, Bool.and_true] at h
              cases e0 : isP 120 p <;> cases e1 : isP 107 q <;> cases e2 : isP 98 r <;>
              · rw [e0, e1, e2] at h
                simp -implicitDefEqProofs [boolsD, asBool, e0, e1, e2]
                exact h
          · rw [isF_len _ _ (by simp; omega)] at h
            simp -implicitDefEqProofs
            exact h
        by_cases c_row : w_row = w
        · subst c_row
          have hf : formOf w_row = some [115] := by decide
          rw [hf] at h
          simp -implicitDefEqProofs
          refine ⟨fun e => ?_, fun e => ?_⟩
          · obtain ⟨p, rfl⟩ : ∃ p, ps = [p] := by
              rcases ps with _ | ⟨p, _ | ⟨q, ps⟩⟩ <;> simp at e ⊢
              all_goals omega
            rw [isF_all _ _ rfl] at h
            simp only [List.zip_cons_cons, List.zip_nil_right, List.all_cons, List.all_nil, Bool.and_true] at h
            simp -implicitDefEqProofs
            refine ⟨by show 1 ≤ 16777216; decide, ?_⟩
            refine all_partsB (L := [(115, p)]) (fun pr hp K hq => ?_) ?_
            · simp only [List.mem_cons, List.not_mem_nil, or_false] at hp
              rcases hp with rfl
              all_goals exact part _ _ (by simp [sgs]) (by simp) _ hq
            · have hb : besB w_row [p] = true := by simp [besB]
              rw [hb, Bool.and_true] at h
              cases e0 : isP 115 p <;>
              · rw [e0] at h
                simp -implicitDefEqProofs [boolsD, asBool, e0]
                exact h
          · rw [isF_len _ _ (by simp; omega)] at h
            simp -implicitDefEqProofs
            exact h
        by_cases c_first : w_first = w
        · subst c_first
          have hf : formOf w_first = some [115] := by decide
          rw [hf] at h
          simp -implicitDefEqProofs
          refine ⟨fun e => ?_, fun e => ?_⟩
          · obtain ⟨p, rfl⟩ : ∃ p, ps = [p] := by
              rcases ps with _ | ⟨p, _ | ⟨q, ps⟩⟩ <;> simp at e ⊢
              all_goals omega
            rw [isF_all _ _ rfl] at h
            simp only [List.zip_cons_cons, List.zip_nil_right, List.all_cons, List.all_nil, Bool.and_true] at h
            simp -implicitDefEqProofs
            refine ⟨by show 1 ≤ 16777216; decide, ?_⟩
            refine all_partsB (L := [(115, p)]) (fun pr hp K hq => ?_) ?_
            · simp only [List.mem_cons, List.not_mem_nil, or_false] at hp
              rcases hp with rfl
              all_goals exact part _ _ (by simp [sgs]) (by simp) _ hq
            · have hb : besB w_first [p] = true := by simp [besB]
              rw [hb, Bool.and_true] at h
              cases e0 : isP 115 p <;>
              · rw [e0] at h
                simp -implicitDefEqProofs [boolsD, asBool, e0]
                exact h
          · rw [isF_len _ _ (by simp; omega)] at h
            simp -implicitDefEqProofs
            exact h
        by_cases c_beside : w_beside = w
        · subst c_beside
          have hf : formOf w_beside = some [109, 115] := by decide
          rw [hf] at h
          simp -implicitDefEqProofs
          refine ⟨fun e => ?_, fun e => ?_⟩
          · obtain ⟨p, q, rfl⟩ : ∃ p q, ps = [p, q] := by
              rcases ps with _ | ⟨p, _ | ⟨q, _ | ⟨r, ps⟩⟩⟩ <;> simp at e ⊢
              all_goals omega
            rw [isF_all _ _ rfl] at h
            simp only [List.zip_cons_cons, List.zip_nil_right, List.all_cons, List.all_nil, Bool.and_true] at h
            simp -implicitDefEqProofs
            refine ⟨by show 2 ≤ 16777216; decide, ?_⟩
            refine all_partsB (L := [(109, p), (115, q)]) (fun pr hp K hq => ?_) ?_
            · simp only [List.mem_cons, List.not_mem_nil, or_false] at hp
              rcases hp with rfl | rfl
              all_goals exact part _ _ (by simp [sgs]) (by simp) _ hq
            · cases e0 : isP 109 p with
              | false =>
                rw [e0] at h
                cases e1 : isP 115 q <;>
                · simp -implicitDefEqProofs [boolsD, asBool, e0, e1]
                  simpa using h
              | true =>
                cases e1 : isP 115 q with
                | false =>
                  rw [e0, e1] at h
                  simp -implicitDefEqProofs [boolsD, asBool, e0, e1]
                  simpa using h
                | true =>
                  rw [e0, e1] at h
                  obtain ⟨m, rfl⟩ : ∃ m, p = .int m := by
                    cases p <;> simp [isP, scP, posB] at e0 ⊢
                  obtain ⟨ts, rfl⟩ : ∃ ts, q = .tuple ts := by
                    cases q <;> simp [isP, areT] at e1 ⊢
                  simp -implicitDefEqProofs [boolsD, asBool, e0, e1]
                  simpa [besB] using h
          · rw [isF_len _ _ (by simp; omega)] at h
            simp -implicitDefEqProofs
            exact h
        have hf : formOf w = none := by simp [formOf, c_leaf, c_note, c_say, c_turn, c_again, c_till, c_guard, c_row, c_first, c_beside]
        rw [hf, isF_none] at h
        simp -implicitDefEqProofs [c_leaf, c_note, c_say, c_turn, c_again, c_till, c_guard, c_row, c_first, c_beside]
        exact h
      | _ =>
        simp -implicitDefEqProofs [f_is_tree, vst, hp]
        simpa [isT] using h
  | _ =>
    simp -implicitDefEqProofs [f_is_tree, vst]
    simpa [isT] using h
theorem treeW : ∀ n, TreeW n := fun n => by
  induction n using Nat.strongRecOn with
  | _ n ih => exact tree_step ih
theorem istree_wp {k n : Nat} {d : D} {K : KC} (hd : dpt d ≤ n) (hK : 2 * n + 4 ≤ k) (ha : ascB d = true) (h : K.q (.v (.d (.bool (isT d)))) [.d d]) : @CRes.sat (vrun P k i_is_tree [.d d]) K := treeW n hd hK ha h
end R_k08
end
section
open PySem Vm
namespace R_k08
def wlH : Hed → Nat → Prop
  | .leaf x n, _ => lname x ∧ 1 ≤ n ∧ n ≤ 4
  | .note y k, _ => lname y ∧ 0 ≤ k ∧ k ≤ 99
  | .say a, _ => ∃ v : An, a = v.s
  | .turn, _ => True
  | .again n, _ => 1 ≤ n ∧ n ≤ 4
  | .till a, _ => a = w_yes ∨ a = w_no
  | .guard y k, _ => lname y ∧ 0 ≤ k ∧ k ≤ 99
  | .row, n => 1 ≤ n
  | .first, n => 1 ≤ n
  | .beside m, n => 1 ≤ m ∧ m ≤ n
mutual
def wlT : Bough → Prop | .mk h ts => wlH h ts.length ∧ wlTs ts
def wlTs : List Bough → Prop
  | [] => True
  | t :: ts => wlT t ∧ wlTs ts
end
end R_k08
end
section
open PySem Vm
namespace R_k08
abbrev sp : Str := ⟨#[32]⟩
def numS (i : Int) : Str := Str.ofString (toString i)
def hwd : Hed → Nat → List Str
  | .leaf x n, _ => [w_leaf, x, numS n] | .note y k, _ => [w_note, y, numS k] | .say a, _ => [w_say, a]
  | .turn, _ => [w_turn] | .again n, _ => [w_again, numS n] | .till a, _ => [w_till, a] | .guard y k, _ => [w_guard, y, numS k]
  | .row, m => [w_row, numS m] | .first, m => [w_first, numS m] | .beside b, m => [w_beside, numS b, numS m]
mutual
def wds : Bough → List Str | .mk h ts => hwd h ts.length ++ wdss ts
def wdss : List Bough → List Str
  | [] => []
  | t :: ts => wds t ++ wdss ts
end
theorem joinL_app (z : Str) : ∀ {a b : List Str}, a ≠ [] → b ≠ [] → joinL z (a ++ b) = joinL z a ++ strL z ++ joinL z b
  | [], _, h, _ => absurd rfl h
  | [x], [], _, h => absurd rfl h
  | [x], y :: b, _, _ => rfl
  | x :: y :: a, b, _, hb => by
    have ih := joinL_app z (a := y :: a) (b := b) (by simp) hb
    simp only [List.cons_append, joinL] at ih ⊢
    rw [ih]; simp only [List.append_assoc]
def txt (t : Bough) : Str := mkStr (joinL sp (wds t))
end R_k08
end
section
open PySem Vm
namespace R_k08
theorem encs_map (ts : List Bough) : encs ts = ts.map enc := by
  induction ts with
  | nil => rfl
  | cons t ts ih => simp [encs, ih]
inductive Pt where
  | tx (s : Str) (c : Nat) | nu (n : Nat) (c : Nat) | bo (t : Bough) | so (ts : List Bough)
def w0 : Hed → Str
  | .leaf .. => w_leaf | .note .. => w_note | .say .. => w_say | .turn => w_turn | .again .. => w_again | .till .. => w_till | .guard .. => w_guard | .row => w_row | .first => w_first | .beside .. => w_beside
def Pt.d : Pt → D
  | .tx s _ => .str s | .nu n _ => .int n | .bo t => enc t | .so ts => .tuple (ts.map enc)
def Pt.ws : Pt → List Str
  | .tx s _ => [s] | .nu n _ => [numS n] | .bo t => [txt t] | .so ts => numS ts.length :: ts.map txt
def Pt.sg : Pt → Nat
  | .tx _ c => c | .nu _ c => c | .bo _ => 98 | .so _ => 115
def pts : Hed → List Bough → List Pt
  | .leaf x n, _ => [.tx x 120, .nu n.toNat 110] | .note y k, _ => [.tx y 120, .nu k.toNat 107] | .say a, _ => [.tx a 97]
  | .turn, ts => ts.map .bo | .again n, ts => .nu n.toNat 110 :: ts.map .bo | .till a, ts => .tx a 101 :: ts.map .bo | .guard y k, ts => .tx y 120 :: .nu k.toNat 107 :: ts.map .bo
  | .row, ts => [.so ts] | .first, ts => [.so ts] | .beside m, ts => [.nu m.toNat 109, .so ts]
def Pt.ok (ts0 : List Bough) : Pt → Prop
  | .tx s c => (c = 120 ∧ lname s) ∨ (c = 97 ∧ ∃ v : An, s = v.s) ∨ (c = 101 ∧ (s = w_yes ∨ s = w_no))
  | .nu n c => n ≤ 1000 ∧ (c = 110 ∨ c = 107 ∨ c = 109)
  | .bo t => t ∈ ts0
  | .so ts => ts = ts0 ∧ ts ≠ []
def wt (l : List Str) : Nat := (l.map fun x => x.length + 1).sum
theorem len_strL (x : Str) : (strL x).length = x.length := by simp [strL, Str.length]
end R_k08
end
section
open PySem Vm
namespace R_k08
def fm : Hed → Str
  | .leaf .. => ⟨#[120, 110]⟩ | .note .. => ⟨#[120, 107]⟩ | .say .. => ⟨#[97]⟩ | .turn => ⟨#[98]⟩ | .again .. => ⟨#[110, 98]⟩ | .till .. => ⟨#[101, 98]⟩ | .guard .. => ⟨#[120, 107, 98]⟩ | .row => ⟨#[115]⟩ | .first => ⟨#[115]⟩ | .beside .. => ⟨#[109, 115]⟩
end R_k08
end
section
open PySem Vm
namespace R_k08
abbrev wM (ws : List Str) : M := .lst (ws.map fun w => M.d (.str w))
abbrev xTxt : M := .exc cl_NoText []
theorem word_atG {k i : Nat} {ws : List Str} {K : KC} (hK : 1 ≤ k) (hl : ws.length ≤ 100000) (he : K.e xTxt [wM ws, .d (.int i)])
    (h : ∀ x, ws[i]? = some x → K.q (.v (.d (.str x))) [wM ws, .d (.int i)]) : @CRes.sat (vrun P k i_word_at [wM ws, .d (.int i)]) K := by
  refine vrun_sat (by omega) pf_word_at rfl (by decide) rfl ?_
  by_cases hi : i < ws.length
  · obtain ⟨x, hx⟩ : ∃ x, ws[i]? = some x := ⟨_, List.getElem?_eq_getElem hi⟩
    have h1 : ¬ (ws.length ≤ i) := by omega
    have h2 : (ws.map fun w => M.d (.str w))[i]? = some (M.d (.str x)) := by simp [hx]
    simp -implicitDefEqProofs [f_word_at, vst, h1, h2, hi, -getElem?_pos, List.getElem?_cons_zero, List.getElem?_cons_succ]
    exact h x hx
  · have h1 : ws.length ≤ i := by omega
    simp -implicitDefEqProofs [f_word_at, vst, h1]
    exact he
def dig (c : Nat) : Bool := decide (48 ≤ c ∧ c ≤ 57)
theorem fig_subG : ∀ c, c < 128 → subStr ⟨#[c]⟩ ⟨#[48, 49, 50, 51, 52, 53, 54, 55, 56, 57]⟩ = dig c := by decide +kernel
theorem boolsG {α : Type} (f : α → Bool) (r : List α) : boolsD (r.map fun c => PyData.bool (f c)) = some (r.map f) := by
  induction r with
  | nil => rfl
  | cons a r ih => simp [boolsD, ih]
theorem int_dig {x : Str} (h1 : ∀ c ∈ strL x, 48 ≤ c ∧ c ≤ 57) (h2 : 1 ≤ x.length) (h3 : x.length ≤ 9) : ∃ n : Nat, intText? x = some (n : Int) := by
  refine ⟨_, PySem.intText_digits (x := x) (fun c hc => h1 c hc) (fun e => ?_) ?_⟩
  · have : (strL x).length = 0 := by rw [show strL x = x.cps.toList from rfl, e]; rfl
    rw [len_strL] at this; omega
  · have : (strL x).length = x.length := len_strL x
    have e2 : x.cps.toList.length = x.length := this
    omega
theorem number_atG {k i : Nat} {ws : List Str} {K : KC} (hK : 2 ≤ k) (hl : ws.length ≤ 100000) (ha : ∀ x ∈ ws, x.length ≤ 1000 ∧ ∀ c ∈ strL x, c < 128) (he : K.e xTxt [wM ws, .d (.int i)])
    (h : ∀ (n : Nat) x, ws[i]? = some x → (∀ c ∈ strL x, 48 ≤ c ∧ c ≤ 57) → 1 ≤ x.length → K.q (.v (.d (.int n))) [wM ws, .d (.int i)]) : @CRes.sat (vrun P k i_number_at [wM ws, .d (.int i)]) K := by
  refine vrun_sat (by omega) pf_number_at rfl (by decide) rfl ?_
  simp -implicitDefEqProofs [f_number_at, vst]
  refine word_atG (by omega) hl ?_ fun W hx => ?_
  · simp -implicitDefEqProofs
    exact he
  obtain ⟨hw1, hw2⟩ := ha W (List.mem_of_getElem? hx)
  by_cases b1 : 1 ≤ W.length
  · by_cases b2 : W.length ≤ 9
    · have c1 : (1 : Int) ≤ W.length := by omega
      have c2 : (W.length : Int) ≤ 9 := by omega
      simp -implicitDefEqProofs [c1, c2]
      refine ⟨by rw [len_strL]; omega, ?_⟩
      refine lcE_map (fun c : Nat => M.d (chr1 c)) (fun dn acc s => acc = dn.map (fun c => M.d (.bool (dig c))) ∧ s = S0 [some (wM ws), some (.d (.int i)), some (.d (.str W)), none]) (strL W) _ _ ⟨rfl, rfl⟩ ?_ ?_
      · rintro acc s ⟨rfl, rfl⟩
        have e1 := boolsG dig (strL W)
        simp -implicitDefEqProofs [e1]
        by_cases hd : ∃ x, x ∈ strL W ∧ dig x = false
        · simp -implicitDefEqProofs [hd]
          exact he
        · have hdig : ∀ c ∈ strL W, 48 ≤ c ∧ c ≤ 57 := fun c hc => by
            by_cases q : dig c = true
            · simpa [dig] using q
            · exact absurd ⟨c, hc, by simpa using q⟩ hd
          have hy := h
          obtain ⟨n, hn⟩ := int_dig hdig b1 b2
          have hq := h n W hx hdig b1
          obtain ⟨c, r, e2⟩ : ∃ c r, strL W = c :: r := by
            cases es : strL W with
            | nil => have := len_strL W; rw [es] at this; simp at this; omega
            | cons c r => exact ⟨c, r, rfl⟩
          have l640 : W.length ≤ 640 := by omega
          have spos : 0 < (strL W).length := by rw [len_strL]; omega
          have wpos : 0 < W.length := by omega
          simp -implicitDefEqProofs [hd]
          simp -implicitDefEqProofs [chr1, e2, spos, wpos, -getElem?_pos, List.getElem?_cons_zero, List.getElem?_cons_succ]
          by_cases h48 : c = 48
          · simp -implicitDefEqProofs [h48]
            by_cases hW : W = ⟨#[48]⟩
            · simp -implicitDefEqProofs [hW] at hn l640 hq ⊢
              simp -implicitDefEqProofs [hn]
              exact hq
            · simp -implicitDefEqProofs [hW]
              exact he
          · simp -implicitDefEqProofs [h48, hn, l640]
            exact hq
      · rintro dn c rest acc s e ⟨rfl, rfl⟩
        have := fig_subG c (hw2 c (by rw [e]; simp))
        simp -implicitDefEqProofs [chr1, this]
        exact ⟨by simp, rfl⟩
    · have c1 : (1 : Int) ≤ W.length := by omega
      have c2 : ¬ (W.length : Int) ≤ 9 := by omega
      simp -implicitDefEqProofs [c1, c2]
      exact he
  · have c1 : ¬ (1 : Int) ≤ W.length := by omega
    simp -implicitDefEqProofs [c1]
    exact he
end R_k08
end
section
open PySem Vm
namespace R_k08
structure LW (ws : List Str) : Prop where
  le : ws.length ≤ 32
  as : ∀ x ∈ ws, x.length ≤ 1000 ∧ ∀ c ∈ strL x, c < 128
  last : ∀ i, i + 1 = ws.length → ws[i]? = some ⟨#[59]⟩
def RG (ws : List Str) (m : Nat) : Prop := ∀ {k i dp : Nat} {K : KC}, ws.length ≤ i + m → 3 * m + 6 ≤ k → K.e xTxt [wM ws, .d (.int i), .d (.int dp)] →
  (∀ (d : D) (j : Nat), i < j → j ≤ ws.length → ascB d = true → dpt d ≤ j - i → (j = ws.length → isT d = false) → K.q (.v (.d (.tuple [d, .int j]))) [wM ws, .d (.int i), .d (.int dp)]) → @CRes.sat (vrun P k i_tree_from [wM ws, .d (.int i), .d (.int dp)]) K
theorem asc_word {ws : List Str} (W : LW ws) {x : Str} (h : x ∈ ws) : ascB (.str x) = true := by
  simp only [ascB, List.all_eq_true, decide_eq_true_eq]
  exact (W.as x h).2
theorem getLen {ws : List Str} {i : Nat} {x : Str} (h : ws[i]? = some x) : i < ws.length := (List.getElem?_eq_some_iff.mp h).1
theorem dpts_snoc (ds : List D) (d : D) : dpts (ds ++ [d]) = max (dpts ds) (dpt d) := by
  induction ds with
  | nil => simp [dpts]
  | cons y ds ihd => simp only [List.cons_append, dpts, ihd]; omega
theorem part_fromG {m k i dp c : Nat} {ws : List Str} {K : KC} (W : LW ws) (ih : RG ws m) (hm : ws.length ≤ i + m) (hK : 3 * m + 8 ≤ k) (hc : c ∈ sgs) (he : K.e xTxt [.d (chr1 c), wM ws, .d (.int i), .d (.int dp)])
    (h : ∀ (d : D) (j : Nat), i < j → j ≤ ws.length → ascB d = true → dpt d ≤ j - i → (j = ws.length → isP c d = false) → K.q (.v (.d (.tuple [d, .int j]))) [.d (chr1 c), wM ws, .d (.int i), .d (.int dp)]) :
    @CRes.sat (vrun P k i_part_from [.d (chr1 c), wM ws, .d (.int i), .d (.int dp)]) K := by
  have hl : ws.length ≤ 100000 := by have := W.le; omega
  refine vrun_sat (by omega) pf_part_from rfl (by decide) rfl ?_
  simp only [sgs, List.mem_cons, List.not_mem_nil, or_false] at hc
  have hx : subStr ⟨#[120]⟩ ⟨#[120, 97, 101]⟩ = true ∧ subStr ⟨#[97]⟩ ⟨#[120, 97, 101]⟩ = true ∧ subStr ⟨#[101]⟩ ⟨#[120, 97, 101]⟩ = true := by decide +kernel
  have hx2 : subStr ⟨#[110]⟩ ⟨#[120, 97, 101]⟩ = false ∧ subStr ⟨#[107]⟩ ⟨#[120, 97, 101]⟩ = false ∧ subStr ⟨#[109]⟩ ⟨#[120, 97, 101]⟩ = false := by decide +kernel
  have pw : ∀ c, c = 120 ∨ c = 97 ∨ c = 101 → isP c (.str ⟨#[59]⟩) = false := by
    rintro c (rfl | rfl | rfl) <;> decide +kernel
  have num : ∀ {x : Str}, ws[i]? = some x → (∀ c ∈ strL x, 48 ≤ c ∧ c ≤ 57) → 1 ≤ x.length → i + 1 < ws.length := fun {x} hx hd h1 => by
    have h2 := getLen hx
    by_cases q : i + 1 = ws.length
    · have := W.last i q
      rw [hx] at this
      cases this
      have := hd 59 (by simp [strL])
      omega
    · omega
  rcases hc with rfl | rfl | rfl | rfl | rfl | rfl | rfl | rfl
  case inl | inr.inr.inr.inl | inr.inr.inr.inr.inl =>
    simp -implicitDefEqProofs [f_part_from, vst, chr1, hx] at h he ⊢
    refine word_atG (by omega) hl ?_ fun x hx => ?_
    · simp -implicitDefEqProofs
      exact he
    · have h2 := getLen hx
      simp -implicitDefEqProofs
      refine h (.str x) (i + 1) (by omega) (by omega) (asc_word W (List.mem_of_getElem? hx)) (by simp [dpt]) fun e => ?_
      have := W.last i e
      rw [hx] at this
      cases this
      exact pw _ (by simp)
  case inr.inl | inr.inr.inl | inr.inr.inr.inr.inr.inr.inl =>
    simp -implicitDefEqProofs [f_part_from, vst, chr1, hx2] at h he ⊢
    refine number_atG (by omega) hl W.as ?_ fun n x hx hd h1 => ?_
    · simp -implicitDefEqProofs
      exact he
    · have h2 := num hx hd h1
      simp -implicitDefEqProofs
      exact h (.int n) (i + 1) (by omega) (by omega) rfl (by simp [dpt]) fun e => by omega
  case inr.inr.inr.inr.inr.inl =>
    simp -implicitDefEqProofs [f_part_from, vst, chr1] at h he ⊢
    refine ih hm (by omega) ?_ fun d j h1 h2 h3 h4 h5 => ?_
    · simp -implicitDefEqProofs
      exact he
    · simp -implicitDefEqProofs
      exact h d j h1 h2 h3 h4 fun e => by simp [isP, h5 e]
  case inr.inr.inr.inr.inr.inr.inr =>
    simp -implicitDefEqProofs [f_part_from, vst, chr1] at h he ⊢
    refine vrun_sat (by omega) pf_some_from rfl (by decide) rfl ?_
    simp -implicitDefEqProofs [f_some_from, vst]
    refine number_atG (by omega) hl W.as ?_ fun n x hx hd hx1 => ?_
    · simp -implicitDefEqProofs
      exact he
    · have h2 := num hx hd hx1
      by_cases g1 : ws.length < n
      · have g2 : (ws.length : Int) < n := by omega
        simp -implicitDefEqProofs [g2]
        exact he
      have g2 : ¬ ((ws.length : Int) < n) := by omega
      have hle := W.le
      simp -implicitDefEqProofs [g2]
      refine ⟨by omega, ?_⟩
      refine forM_rng (fun j s => ∃ (ds : List D) (b : Nat) (c6 c7 : Option M), ds.length = j ∧ i + 1 + j ≤ b ∧ b ≤ ws.length ∧ (∀ d ∈ ds, ascB d = true) ∧ dpts ds + i + 1 ≤ b ∧ (b = ws.length → ∃ d ∈ ds, isT d = false) ∧
        s = S0 [some (wM ws), some (.d (.int i)), some (.d (.int dp)), some (.d (.int n)), some (.lst (ds.map M.d)), some (.d (.int b)), c6, c7]) _ _ ⟨[], i + 1, none, none, rfl, by omega, by omega, by simp, by simp [dpts], fun e => by omega, by simp⟩ ?_ ?_
      · rintro s ⟨ds, b, c6, c7, e1, e2, e3, e4, e5, e6, rfl⟩
        simp -implicitDefEqProofs
        refine h (.tuple ds) b (by omega) e3 ?_ ?_ fun e => ?_
        · simp only [ascB, ascBs_all, Bool.and_eq_true, decide_eq_true_eq, List.all_eq_true]
          exact ⟨by omega, e4⟩
        · simp only [dpt]; omega
        · obtain ⟨d, hd1, hd2⟩ := e6 e
          have : isTs ds = false := by
            rw [isTs_all]
            exact List.all_eq_false.mpr ⟨d, hd1, by simp [hd2]⟩
          simp [isP, areT, this]
      · rintro j s hj ⟨ds, b, c6, c7, e1, e2, e3, e4, e5, e6, rfl⟩
        simp -implicitDefEqProofs
        refine ih (by omega) (by omega) ?_ fun d jj h1 h3 h4 h5 h6 => ?_
        · simp -implicitDefEqProofs
          exact he
        · simp -implicitDefEqProofs
          refine ⟨by omega, ds ++ [d], jj, some (.d (.int j)), some (.d d), by simp [e1], by omega, h3, ?_, ?_, ?_, by simp⟩
          · intro z hz
            rcases List.mem_append.mp hz with hz | hz
            · exact e4 z hz
            · simp at hz; subst hz; exact h4
          · have := dpts_snoc ds d
            omega
          · intro e
            exact ⟨d, by simp, h6 e⟩
theorem forms_of (w : Str) : ∃ kvs, gl_FORMS = .d (.dict kvs) ∧ ((lkD (.str w) kvs = none ∧ formOf w = none) ∨ ∃ f : List Nat, formOf w = some f ∧ f ≠ [] ∧ f.length ≤ 3 ∧ (∀ c ∈ f, c ∈ sgs) ∧ lkD (.str w) kvs = some (.str ⟨f.toArray⟩)) := by
  refine ⟨_, rfl, ?_⟩
  by_cases c1 : w_leaf = w
  · subst c1; exact .inr ⟨[120, 110], by decide, by decide, by decide, by decide, rfl⟩
  by_cases c2 : w_note = w
  · subst c2; exact .inr ⟨[120, 107], by decide, by decide, by decide, by decide, rfl⟩
  by_cases c3 : w_say = w
  · subst c3; exact .inr ⟨[97], by decide, by decide, by decide, by decide, rfl⟩
  by_cases c4 : w_turn = w
  · subst c4; exact .inr ⟨[98], by decide, by decide, by decide, by decide, rfl⟩
  by_cases c5 : w_again = w
  · subst c5; exact .inr ⟨[110, 98], by decide, by decide, by decide, by decide, rfl⟩
  by_cases c6 : w_till = w
  · subst c6; exact .inr ⟨[101, 98], by decide, by decide, by decide, by decide, rfl⟩
  by_cases c7 : w_guard = w
  · subst c7; exact .inr ⟨[120, 107, 98], by decide, by decide, by decide, by decide, rfl⟩
  by_cases c8 : w_row = w
  · subst c8; exact .inr ⟨[115], by decide, by decide, by decide, by decide, rfl⟩
  by_cases c9 : w_first = w
  · subst c9; exact .inr ⟨[115], by decide, by decide, by decide, by decide, rfl⟩
  by_cases c10 : w_beside = w
  · subst c10; exact .inr ⟨[109, 115], by decide, by decide, by decide, by decide, rfl⟩
  refine .inl ⟨?_, by simp [formOf, c1, c2, c3, c4, c5, c6, c7, c8, c9, c10]⟩
  simp [lkD, c1, c2, c3, c4, c5, c6, c7, c8, c9, c10]
theorem readG {ws : List Str} (W : LW ws) : ∀ m, RG ws m
  | 0, k, i, dp, K, hm, hK, he, h => by
    have hl : ws.length ≤ 100000 := by have := W.le; omega
    refine vrun_sat (by omega) pf_tree_from rfl (by decide) rfl ?_
    simp -implicitDefEqProofs [f_tree_from, vst]
    refine word_atG (by omega) hl ?_ fun x hx => ?_
    · simp -implicitDefEqProofs
      exact he
    · have := getLen hx
      omega
  | m + 1, k, i, dp, K, hm, hK, he, h => by
    have hl : ws.length ≤ 100000 := by have := W.le; omega
    refine vrun_sat (by omega) pf_tree_from rfl (by decide) rfl ?_
    simp -implicitDefEqProofs [f_tree_from, vst]
    refine word_atG (by omega) hl ?_ fun w hw => ?_
    · simp -implicitDefEqProofs
      exact he
    obtain ⟨kvs, hg, hkv⟩ := forms_of w
    rcases hkv with ⟨hn, _⟩ | ⟨f, hf, hne, hlen, hsg, hlk⟩
    · simp -implicitDefEqProofs [hg, hn]
      exact he
    by_cases d100 : (dp : Int) = 100
    · simp -implicitDefEqProofs [hg, hlk, d100]
      simpa [d100] using he
    · have hiw := getLen hw
      have hle := W.le
      have e1 : strL (⟨f.toArray⟩ : Str) = f := by simp [strL]
      simp -implicitDefEqProofs [hg, hlk, d100, e1]
      refine forM_map (fun c : Nat => M.d (chr1 c)) (fun dn s => ∃ (ds : List D) (b : Nat) (c6 c7 : Option M), ds.length = dn.length ∧ i + 1 ≤ b ∧ b ≤ ws.length ∧ (∀ d ∈ ds, ascB d = true) ∧ dpts ds + i + 1 ≤ b ∧ (b = ws.length → dn = [] ∨ ∃ pr ∈ dn.zip ds, isP pr.1 pr.2 = false) ∧
        s = S0 [some (wM ws), some (.d (.int i)), some (.d (.int dp)), some (.d (.str w)), some (.lst ((PyData.str w :: ds).map M.d)), some (.d (.int b)), c6, c7]) f _ ⟨[], i + 1, none, none, rfl, by omega, by omega, by simp, by simp [dpts], fun e => .inl rfl, by simp⟩ ?_ ?_
      · rintro s ⟨ds, b, c6, c7, z1, z2, z3, z4, z5, z6, rfl⟩
        simp -implicitDefEqProofs
        refine h (.tuple (.str w :: ds)) b (by omega) z3 ?_ ?_ fun e => ?_
        · simp only [ascB, ascBs_all, Bool.and_eq_true, decide_eq_true_eq, List.all_eq_true, List.length_cons]
          refine ⟨by omega, fun z hz => ?_⟩
          rcases List.mem_cons.mp hz with rfl | hz
          · exact asc_word W (List.mem_of_getElem? hw)
          · exact z4 z hz
        · simp only [dpt, dpts]; omega
        · rcases z6 e with q | ⟨pr, q1, q2⟩
          · exact absurd q hne
          · simp only [isT, hf]
            rw [isF_all ds f z1]
            have : ((f.zip ds).all fun p => isP p.1 p.2) = false := List.all_eq_false.mpr ⟨pr, q1, by simp [q2]⟩
            rw [this]; rfl
      · rintro dn c rest s ex ⟨ds, b, c6, c7, z1, z2, z3, z4, z5, z6, rfl⟩
        simp -implicitDefEqProofs
        refine part_fromG (dp := dp + 1) W (readG W m) (by omega) (by omega) (hsg c (by rw [ex]; simp)) ?_ fun d j h2 h3 h4' h5 h6 => ?_
        · simp -implicitDefEqProofs
          exact he
        · simp -implicitDefEqProofs
          have hdn : dn.length + 1 ≤ 3 := by
            have := congrArg List.length ex
            simp at this
            omega
          refine ⟨by omega, ds ++ [d], j, some (.d (chr1 c)), some (.d d), by simp [z1], by omega, h3, ?_, ?_, ?_, by simp⟩
          · intro z hz
            rcases List.mem_append.mp hz with hz | hz
            · exact z4 z hz
            · simp at hz; subst hz; exact h4'
          · have := dpts_snoc ds d
            omega
          · intro e
            refine .inr ⟨(c, d), ?_, h6 e⟩
            rw [List.zip_append z1.symm]
            simp
end R_k08
end
section
open PySem Vm
namespace R_k08
def pieces : List Nat → List (List Nat)
  | [] => [[]]
  | c :: l => if c = 32 then [] :: pieces l else match pieces l with
    | [] => [[c]]
    | p :: ps => (c :: p) :: ps
theorem pieces_ne : ∀ l, pieces l ≠ []
  | [] => by simp [pieces]
  | c :: l => by
    unfold pieces
    split
    · simp
    · split <;> simp
theorem pieces_join : ∀ l, joinL sp ((pieces l).map Vm.mkStr) = l
  | [] => by simp [pieces, joinL, strL, Vm.mkStr]
  | c :: l => by
    have ih := pieces_join l
    have hn := pieces_ne l
    unfold pieces
    cases hp : pieces l with
    | nil => exact absurd hp hn
    | cons p ps =>
      rw [hp] at ih
      by_cases h : c = 32
      · rw [if_pos h]
        subst h
        simp only [List.map_cons, joinL] at ih ⊢
        rw [ih]
        simp [strL, Vm.mkStr]
      · rw [if_neg h]
        simp only [List.map_cons] at ih ⊢
        cases ps with
        | nil => simpa [joinL, strL, Vm.mkStr] using ih
        | cons q ps => simpa [joinL, strL, Vm.mkStr] using ih
theorem pieces_mem : ∀ l, ∀ p ∈ pieces l, 32 ∉ p ∧ (∀ c ∈ p, c ∈ l) ∧ p.length ≤ l.length
  | [], p, h => by simp [pieces] at h; subst h; simp
  | c :: l, p, h => by
    have ih := pieces_mem l
    have hn := pieces_ne l
    unfold pieces at h
    cases hp : pieces l with
    | nil => exact absurd hp hn
    | cons q qs =>
      rw [hp] at h ih
      by_cases e : c = 32
      · rw [if_pos e] at h
        rcases List.mem_cons.mp h with rfl | h
        · simp
        · obtain ⟨h1, h2, h3⟩ := ih p h
          exact ⟨h1, fun x hx => List.mem_cons_of_mem _ (h2 x hx), by simp only [List.length_cons]; omega⟩
      · rw [if_neg e] at h
        simp only [List.mem_cons] at h
        rcases h with rfl | h
        · obtain ⟨h1, h2, h3⟩ := ih q (by simp)
          refine ⟨fun z => (List.mem_cons.mp z).elim (fun z => e z.symm) h1, fun x hx => ?_, by simp only [List.length_cons]; omega⟩
          rcases List.mem_cons.mp hx with rfl | hx
          · simp
          · exact List.mem_cons_of_mem _ (h2 x hx)
        · obtain ⟨h1, h2, h3⟩ := ih p (by simp [h])
          exact ⟨h1, fun x hx => List.mem_cons_of_mem _ (h2 x hx), by simp only [List.length_cons]; omega⟩
theorem pieces_len : ∀ l, (pieces l).length ≤ l.length + 1
  | [] => by simp [pieces]
  | c :: l => by
    have ih := pieces_len l
    unfold pieces
    cases hp : pieces l with
    | nil => split <;> simp
    | cons q qs =>
      rw [hp] at ih
      split <;> simp only [List.length_cons] at ih ⊢ <;> omega
abbrev semi : Str := ⟨#[32, 59]⟩
def wsOf (x : Str) : List Str := (pieces (strL x)).map Vm.mkStr ++ [⟨#[59]⟩]
theorem wsOf_ok {x : Str} (hx : tx 30 x) : LW (wsOf x) where
  le := by
    have := pieces_len (strL x)
    have h2 := hx.1
    rw [len_strL] at this
    simp only [wsOf, List.length_append, List.length_map, List.length_singleton]
    omega
  as := fun y hy => by
    rcases List.mem_append.mp hy with hy | hy
    · obtain ⟨p, hp, rfl⟩ := List.mem_map.mp hy
      obtain ⟨_, h2, h3⟩ := pieces_mem _ p hp
      have e : strL (Vm.mkStr p) = p := by simp [strL, Vm.mkStr]
      refine ⟨?_, fun c hc => hx.2 c (h2 c (by rw [e] at hc; exact hc))⟩
      have := len_strL (Vm.mkStr p)
      rw [e] at this
      have h4 := hx.1
      rw [len_strL] at h3
      omega
    · simp at hy; subst hy; exact ⟨by decide, by decide⟩
  last := fun i e => by
    simp only [wsOf, List.length_append, List.length_map, List.length_singleton] at e ⊢
    rw [List.getElem?_append_right (by simp; omega)]
    have : i - ((pieces (strL x)).map Vm.mkStr).length = 0 := by simp; omega
    rw [this]; rfl
theorem split_semi {x : Str} (hx : tx 30 x) : Txt.split (x ++ semi) ⟨#[32]⟩ = wsOf x := by
  have e : x ++ semi = Txt.join sp (wsOf x) := by
    rw [Vm.join_eq, wsOf, joinL_app sp (by simpa using pieces_ne (strL x)) (by simp), pieces_join]
    have : joinL sp [⟨#[59]⟩] = [59] := rfl
    rw [this]
    cases x with
    | mk a =>
      show (⟨a ++ #[32, 59]⟩ : Str) = _
      simp [Vm.mkStr, strL]
  rw [e]
  refine TL.split_join (y := sp) (s := 32) (S := []) rfl (by simp) (by simp [wsOf]) fun p hp hc => ?_
  rcases List.mem_append.mp hp with hp | hp
  · obtain ⟨q, hq, rfl⟩ := List.mem_map.mp hp
    exact (pieces_mem _ q hq).1 (by simpa [TL.tl, Vm.mkStr] using hc)
  · simp at hp; subst hp; simp [TL.tl] at hc
theorem read_none {k : Nat} {x : Str} {K : KC} (hK : 104 ≤ k) (hx : tx 30 x) (he : K.e xTxt [.d (.str (x ++ semi))]) : @CRes.sat (vrun P k i_read_tree [.d (.str (x ++ semi))]) K := by
  refine vrun_sat (by omega) pf_read_tree rfl (by decide) rfl ?_
  have es := split_semi hx
  have W := wsOf_ok hx
  have hle := W.le
  have hln : (x ++ semi : Str).length ≤ 40 := by
    have h1 := (tx_app hx (y := semi) (b := 2) ⟨by decide, by decide⟩).1
    omega
  have hs : ∀ w ∈ wsOf x, sokT w = true := fun w hw => by
    obtain ⟨h1, h2⟩ := W.as w hw
    simp only [sokT, Bool.and_eq_true, decide_eq_true_eq, List.all_eq_true]
    exact ⟨by unfold line; omega, fun c hc => by have := h2 c hc; omega⟩
  generalize x ++ semi = y at es hln he ⊢
  generalize wsOf x = ws at es W hle hs
  simp -implicitDefEqProofs [f_read_tree, vst, es]
  refine ⟨⟨by omega, hs⟩, ?_⟩
  refine readG W ws.length (i := 0) (dp := 0) (by omega) (by omega) ?_ fun d j h1 h2 h3 h4 h5 => ?_
  · simp -implicitDefEqProofs
    exact he
  by_cases hj : j = ws.length
  · have hi := h5 hj
    have hj' : (j : Int) = ws.length := by omega
    simp -implicitDefEqProofs [hj']
    refine istree_wp (n := 32) (by omega) (by omega) h3 ?_
    simp -implicitDefEqProofs [hi]
    exact he
  · have hj' : ¬ (j : Int) = ws.length := by omega
    simp -implicitDefEqProofs [hj']
    exact he
end R_k08
end
section
open PySem Vm
namespace R_k08
def il (cs : List Int) : List M := cs.map fun c => .d (.int c)
def di (cs : List Int) : List D := cs.map .int
structure Deck where
  cs : List Int
  i : Int
  j : Int
def Deck.ok (n : Nat) (d : Deck) : Prop := 0 ≤ d.j ∧ d.j ≤ n ∧ d.cs.length ≤ 100
theorem Deck.ok.mono {n m : Nat} {d : Deck} (h : d.ok n) (hm : n ≤ m) : d.ok m := ⟨h.1, by have := h.2.1; omega, h.2.2⟩
def dk (d : Deck) : M := .lst [.lst (il d.cs), .d (.int d.i), .d (.int d.j)]
@[scoped simp] theorem isMut_dk (d : Deck) : (dk d).isMut = true := rfl
@[scoped simp] theorem frzs_il (cs : List Int) : frzs (il cs) = some (di cs) := by
  induction cs with
  | nil => rfl
  | cons c cs ih => simp only [il, di, List.map_cons, frzs, frz] at ih ⊢; rw [ih]; rfl
theorem hd_ints (cs : List Int) : PyData.hasDictAll (di cs) = false := by
  induction cs with
  | nil => simp [di, PyData.hasDictAll]
  | cons c cs ih => simp only [di, List.map_cons] at ih ⊢; simp [PyData.hasDictAll, PyData.hasDict, ih]
@[scoped simp] theorem eqOk_di (cs : List Int) : eqOk (.list (di cs)) (.list []) = true := by
  simp [eqOk, PyData.hasDict, hd_ints, PyData.hasDictAll, shal, PyData.depth, PyData.depthAll]
theorem eqv_di (cs : List Int) : PyData.eqvAll (di cs) [] = cs.isEmpty := by
  cases cs <;> simp [di, PyData.eqvAll]
theorem pop_il (cs : List Int) (c : Int) : popAt (il (cs ++ [c])) (-1) = some (.d (.int c), il cs) := by
  have h : nix (il (cs ++ [c])).length (-1) = some cs.length := by
    simp [nix, il]; omega
  unfold popAt
  rw [h]
  simp [il, List.eraseIdx_append_of_length_le]
theorem app_il (cs : List Int) (c : Int) : il cs ++ [.d (.int c)] = il (cs ++ [c]) := by simp [il]
@[scoped simp] theorem len_il (cs : List Int) : (il cs).length = cs.length := by simp [il]
@[scoped simp] theorem pw18 : bopD .pow (.int 10) (.int 18) = some (.int 1000000000000000000) := by simp [bopD, oif]
theorem small_of {i : Int} (h : -(2 ^ 62) < i) (h2 : i < 2 ^ 62) : small i = true := by simp [small]; omega
theorem draw_wp {k n : Nat} {d : Deck} {m : Int} {K : KC} (hK : 1 ≤ k) (hd : d.ok n) (hn : n < 2 ^ 60) (hm : 0 < m) (hm2 : m < 2 ^ 20)
    (h : ∀ d' r, Deck.ok (n + 1) d' → 0 ≤ r → r < m → K.q (.v (.d (.int r))) [dk d', .d (.int m)]) : @CRes.sat (vrun P k i_l_draw [dk d, .d (.int m)]) K := by
  refine vrun_sat hK pf_l_draw rfl (by decide) rfl ?_
  obtain ⟨cs, i, j⟩ := d
  simp only [Deck.ok] at hd
  have s1 : small (j + 1) = true := small_of (by omega) (by omega)
  have hm3 : m < 1073741824 := by omega
  rcases List.eq_nil_or_concat cs with rfl | ⟨l, c, rfl⟩
  · simp [f_l_draw, dk, vst, setM, free, asgR, asgN, modN, cmpM, cmpD, eqv_di, s1, hm]
    exact h ⟨[], i, j + 1⟩ _ ⟨by simp; omega, by simp; omega, by simp⟩ (Int.emod_nonneg _ (by omega)) (Int.emod_lt_of_pos _ hm)
  · rw [List.concat_eq_append] at hd ⊢
    have e3 := pop_il l c
    have e5 : PyData.eqvAll (di (l ++ [c])) [] = false := by rw [eqv_di]; simp
    have hl : l.length < 16777216 := by have := hd.2.2; simp at this; omega
    simp [f_l_draw, dk, vst, setM, free, asgR, asgN, modN, cmpM, cmpD, e5, s1, hm, hm3, e3, hl, app_il]
    refine ⟨fun hc => ?_, fun hc => ?_⟩
    · simp [hl, hm, hm3, app_il, modN]
      exact h ⟨l ++ [c / m], i, j + 1⟩ _ ⟨by simp; omega, by simp; omega, by simpa using hd.2.2⟩ (Int.emod_nonneg _ (by omega)) (Int.emod_lt_of_pos _ hm)
    · simp [s1, hm, free, asgR, asgN, setM]
      exact h ⟨l, i, j + 1⟩ _ ⟨by simp; omega, by simp; omega, by have := hd.2.2; simp at this ⊢; omega⟩ (Int.emod_nonneg _ (by omega)) (Int.emod_lt_of_pos _ hm)
end R_k08
end
section
open PySem Vm
namespace R_k08
theorem deck_wp {k : Nat} {ns : List Int} {K : KC} (hK : 1 ≤ k) (hl : ns.length ≤ 63) (h : ∀ d, Deck.ok 0 d → K.q (.v (dk d)) [.d (.list (ns.map .int))]) : @CRes.sat (vrun P k i_l_deck [.d (.list (ns.map .int))]) K := by
  refine vrun_sat hK pf_l_deck rfl (by decide) rfl ?_
  have e1 : cut (ns.map PyData.int) none (some 63) = ns.map .int := by
    show ((ns.map PyData.int).drop 0).take (min 63 (ns.map PyData.int).length - 0) = _
    rw [List.drop_zero, Nat.min_eq_right (by simpa using hl), Nat.sub_zero, List.take_length]
  have e2 : (ns.map PyData.int).map M.d = il ns := by simp [il]
  have e3 : allD (il ns) = true := by
    clear hl e1 e2 h
    induction ns with
    | nil => rfl
    | cons c ns ih => simp only [il, List.map_cons, allD] at ih ⊢; exact ih
  have e4 : (il ns).reverse = il ns.reverse := by simp [il]
  have e5 : intsD (di ns) = some ns := by
    clear hl e1 e2 e3 e4 h
    induction ns with
    | nil => rfl
    | cons c ns ih => simp only [di, List.map_cons, intsD, asInt] at ih ⊢; simp [ih]
  simp -implicitDefEqProofs [f_l_deck, vst, e1, e2, e3, e4, e5, slc, -cut_map, -List.map_map]
  exact h ⟨ns.reverse, _, 0⟩ ⟨by simp, by simp, by simp; omega⟩
end R_k08
end
section
namespace Vm
noncomputable def undoQ (i : Nat) (K : KF) : KF := shut ⟨fun | .nx s => need (pureS (s.sl.set i none) = true) (K.q (.nx { sl := s.sl.set i none, rf := killR (atRoot i) (dropR i s.rf), tm := killT (atRoot i) s.tm })) | _ => False⟩
@[scoped simp] theorem fsat_undo (i : Nat) (f : Fl) (K : KF) : @Fl.sat (undo i f) K = @Fl.sat f (undoQ i K) := by
  unfold undoQ
  rw [shut_eq]
  cases f with
  | nx s =>
    show @Fl.sat (fif (pureS (s.sl.set i none)) _) K = need (pureS (s.sl.set i none) = true) _
    cases pureS (s.sl.set i none) with
    | true => simp only [fif, need, true_and]; rfl
    | false => simp only [fif, need, Bool.false_eq_true, false_and]; rfl
  | bk s => rfl
  | ct s => rfl
  | rt r s => rfl
  | exc x s => rfl
  | no => rfl
@[scoped simp] theorem undoQ_nx (i : Nat) (K : KF) (s) : (undoQ i K).q (.nx s) = need (pureS (s.sl.set i none) = true) (K.q (.nx { sl := s.sl.set i none, rf := killR (atRoot i) (dropR i s.rf), tm := killT (atRoot i) s.tm })) := by unfold undoQ; rw [shut_eq]; rfl
end Vm
end
section
open PySem Vm
namespace R_k08
abbrev signs74 : Str := ⟨#[32, 97, 98, 99, 100, 101, 102, 103, 104, 105, 106, 107, 108, 109, 110, 111, 112, 113, 114, 115, 116, 117, 118, 119, 120, 121, 122, 65, 66, 67, 68, 69, 70, 71, 72, 73, 74, 75, 76, 77, 78, 79, 80, 81, 82, 83, 84, 85, 86, 87, 88, 89, 90, 48, 49, 50, 51, 52, 53, 54, 55, 56, 57, 46, 44, 58, 59, 33, 63, 45, 95, 47, 40, 41]⟩
theorem sg_at : ∀ i, i < 74 → ∃ c, ([32, 97, 98, 99, 100, 101, 102, 103, 104, 105, 106, 107, 108, 109, 110, 111, 112, 113, 114, 115, 116, 117, 118, 119, 120, 121, 122, 65, 66, 67, 68, 69, 70, 71, 72, 73, 74, 75, 76, 77, 78, 79, 80, 81, 82, 83, 84, 85, 86, 87, 88, 89, 90, 48, 49, 50, 51, 52, 53, 54, 55, 56, 57, 46, 44, 58, 59, 33, 63, 45, 95, 47, 40, 41] : List Nat)[i]? = some c ∧ c < 128 := by decide +kernel
theorem some_text_wp {k n : Nat} {d : Deck} {K : KC} (hK : 2 ≤ k) (hd : d.ok n) (hn : n < 2 ^ 50)
    (h : ∀ d' x, Deck.ok (n + 40) d' → tx 30 x → K.q (.v (.d (.str x))) [dk d']) : @CRes.sat (vrun P k i_l_some_text [dk d]) K := by
  refine vrun_sat (by omega) pf_l_some_text rfl (by decide) rfl ?_
  simp -implicitDefEqProofs [f_l_some_text, vst]
  refine draw_wp (by omega) hd (by omega) (by omega) (by omega) fun d1 r hd1 r0 r1 => ?_
  simp -implicitDefEqProofs
  refine ⟨by omega, ?_⟩
  refine ⟨by omega, ?_⟩
  refine lcE_rng (fun i acc s => ∃ l d', l.length = i ∧ (∀ c ∈ l, c < 128) ∧ Deck.ok (n + 1 + i) d' ∧ acc = l.map (fun c => M.d (chr1 c)) ∧ s = S0 [some (dk d'), some (.d (.str signs74)), none]) _ _ _ ⟨[], d1, rfl, by simp, hd1, rfl, rfl⟩ ?_ ?_
  · rintro acc s ⟨l, d3, h1, h2, h3, rfl, rfl⟩
    simp -implicitDefEqProofs [h1]
    exact ⟨by omega, h _ _ (h3.mono (by omega)) (tx_mk (by omega) h2)⟩
  · rintro i acc s hi ⟨l, d3, h1, h2, h3, rfl, rfl⟩
    simp -implicitDefEqProofs
    refine draw_wp (by omega) h3 (by omega) (by omega) (by omega) fun d4 r4 hd4 r40 r41 => ?_
    obtain ⟨c, hc, hc2⟩ := sg_at r4.toNat (by omega)
    have q1 : r4 < 74 := r41
    simp -implicitDefEqProofs [r40, q1, hc, -getElem?_pos, List.getElem?_cons_zero, List.getElem?_cons_succ]
    exact ⟨l ++ [c], d4, by simp [h1], by simpa [or_imp, forall_and] using ⟨h2, hc2⟩, hd4.mono (by omega), by simp [chr1], rfl⟩
def clsN (c : Nat) : List Bool := [c == 1, c == 2, c == 3, c == 4, c == 5, c == 6, c == 7, c == 8, true]
theorem sup0 : P.sup[0]?.getD [] = [0, 9, 10] := rfl
theorem sup1 : P.sup[1]?.getD [] = [1, 0, 9, 10] := rfl
theorem sup2 : P.sup[2]?.getD [] = [2, 0, 9, 10] := rfl
theorem sup3 : P.sup[3]?.getD [] = [3, 0, 9, 10] := rfl
theorem sup4 : P.sup[4]?.getD [] = [4, 0, 9, 10] := rfl
theorem sup5 : P.sup[5]?.getD [] = [5, 0, 9, 10] := rfl
theorem sup6 : P.sup[6]?.getD [] = [6, 0, 9, 10] := rfl
theorem sup7 : P.sup[7]?.getD [] = [7, 0, 9, 10] := rfl
theorem sup8 : P.sup[8]?.getD [] = [8, 0, 9, 10] := rfl
theorem classes_wp {k c : Nat} {xs : List D} {K : KC} (hK : 1 ≤ k) (hc : c ≤ 8) (h : K.q (.v (.lst ((clsN c).map fun b => .d (.bool b)))) [.exc c xs]) : @CRes.sat (vrun P k i_l_classes [.exc c xs]) K := by
  refine vrun_sat (by omega) pf_l_classes rfl (by decide) rfl ?_
  obtain rfl | rfl | rfl | rfl | rfl | rfl | rfl | rfl | rfl : c = 0 ∨ c = 1 ∨ c = 2 ∨ c = 3 ∨ c = 4 ∨ c = 5 ∨ c = 6 ∨ c = 7 ∨ c = 8 := by omega
  all_goals
    simp -implicitDefEqProofs [f_l_classes, vst, sup0, sup1, sup2, sup3, sup4, sup5, sup6, sup7, sup8]
    exact h
def clsA (a : Nat) : Nat := if a = 9 then 1 else if a = 8 then 0 else a + 1
theorem raise_wp {k a : Nat} {x : Str} {K : KC} (hK : 105 ≤ k) (ha : a < 10) (hx : tx 30 x) (h : ∀ xs, K.e (.exc (clsA a) xs) [.d (.int a), .d (.str x)]) : @CRes.sat (vrun P k i_l_raise [.d (.int a), .d (.str x)]) K := by
  refine vrun_sat (by omega) pf_l_raise rfl (by decide) rfl ?_
  obtain rfl | rfl | rfl | rfl | rfl | rfl | rfl | rfl | rfl | rfl : a = 0 ∨ a = 1 ∨ a = 2 ∨ a = 3 ∨ a = 4 ∨ a = 5 ∨ a = 6 ∨ a = 7 ∨ a = 8 ∨ a = 9 := by omega
  all_goals
    simp -implicitDefEqProofs [f_l_raise, vst]
  case inr.inr.inr.inr.inr.inr.inr.inr.inr =>
    refine ⟨by have := hx.1; omega, ?_⟩
    refine read_none (by omega) hx ?_
    simp -implicitDefEqProofs
    exact h _
  all_goals exact h _
theorem caught_wp {k a : Nat} {x : Str} {K : KC} (hK : 106 ≤ k) (ha : a < 10) (hx : tx 30 x) (h : K.q (.v (.lst ((clsN (clsA a)).map fun b => .d (.bool b)))) [.d (.int a), .d (.str x)]) : @CRes.sat (vrun P k i_l_caught [.d (.int a), .d (.str x)]) K := by
  refine vrun_sat (by omega) pf_l_caught rfl (by decide) rfl ?_
  have hc : clsA a ≤ 8 := by unfold clsA; split <;> (try split) <;> omega
  have h0 : 0 ∈ P.sup[clsA a]?.getD [] := by
    have : ∀ c, c ≤ 8 → 0 ∈ P.sup[c]?.getD [] := by decide
    exact this _ hc
  simp -implicitDefEqProofs [f_l_caught, vst]
  refine raise_wp (by omega) ha hx fun xs => ?_
  simp -implicitDefEqProofs [h0]
  refine classes_wp (by omega) hc ?_
  simp -implicitDefEqProofs
  exact h
def dueB (a o : Nat) : Bool := decide (a = o) || (decide (a = 9) && decide (o = 0))
theorem due_ok : ∀ a, a < 10 → (List.range 8).map (dueB a) ++ [true] = clsN (clsA a) := by decide
theorem due_step (a j : Nat) {v : Bool} (h : v = dueB a j) : (List.range j).map (fun o => M.d (.bool (dueB a o))) ++ [M.d (.bool v)] = (List.range (j + 1)).map (fun o => M.d (.bool (dueB a o))) := by
  rw [List.range_succ, List.map_append, h]; rfl
theorem due_eq : ∀ a, a < 10 → eqOk (.list (List.map (fun x => PyData.bool (dueB a x)) (List.range 8) ++ [PyData.bool true])) (.list (List.map (fun x => PyData.bool (dueB a x)) (List.range 8) ++ [PyData.bool true])) = true ∧
    PyData.eqvAll (List.map (fun x => PyData.bool (dueB a x)) (List.range 8) ++ [PyData.bool true]) (List.map (fun x => PyData.bool (dueB a x)) (List.range 8) ++ [PyData.bool true]) = true := by decide +kernel
theorem law_wp {k : Nat} {ns : List Int} {K : KC} (hK : 107 ≤ k) (hl : ns.length ≤ 63) (h : K.q (.v (.d (.bool true))) [.d (.list (ns.map .int))]) : @CRes.sat (vrun P k i_law [.d (.list (ns.map .int))]) K := by
  refine vrun_sat (by omega) pf_law rfl (by decide) rfl ?_
  simp -implicitDefEqProofs [f_law, vst]
  refine deck_wp (by omega) hl fun d hd => ?_
  simp -implicitDefEqProofs
  refine some_text_wp (by omega) hd (by omega) fun d1 x hd1 hx => ?_
  simp -implicitDefEqProofs
  refine draw_wp (by omega) hd1 (by omega) (by omega) (by omega) fun d2 r hd2 r0 r1 => ?_
  simp -implicitDefEqProofs
  refine forM_rng (fun i s => ∃ c4 c5 c6 : Option M, s = S0 [some (M.d (PyData.list (List.map PyData.int ns))), some (dk d2), some (M.d (PyData.str x)), some (M.d (PyData.int r)), c4, c5, c6, none]) 10 _ ⟨none, none, none, rfl⟩ ?_ ?_
  · rintro s ⟨c4, c5, c6, rfl⟩
    simp -implicitDefEqProofs
    exact h
  · rintro i s hi ⟨c4, c5, c6, rfl⟩
    obtain ⟨a, ha, ea⟩ : ∃ a : Nat, a < 10 ∧ (r + 3 * (i : Int)) % 10 = a := ⟨((r + 3 * (i : Int)) % 10).toNat, by omega, by omega⟩
    simp -implicitDefEqProofs [ea]
    refine lcE_rng (fun j acc s => acc = (List.range j).map (fun o => M.d (.bool (dueB a o))) ∧ s = S0 [some (M.d (PyData.list (List.map PyData.int ns))), some (dk d2), some (M.d (PyData.str x)), some (M.d (PyData.int r)), some (M.d (.int i)), some (M.d (.int a)), c6, none]) 8 _ _ ⟨rfl, rfl⟩ ?_ ?_
    · rintro acc s ⟨rfl, rfl⟩
      simp -implicitDefEqProofs
      refine caught_wp (by omega) ha hx ?_
      rw [← due_ok a ha]
      obtain ⟨q1, q2⟩ := due_eq a ha
      simp -implicitDefEqProofs [q1, q2]
      exact ⟨_, _, _, rfl⟩
    · rintro j acc s hj ⟨rfl, rfl⟩
      simp -implicitDefEqProofs
      by_cases e1 : (a : Int) = j
      · have p1 : ((a : Int) = j) = True := eq_true e1
        simp -implicitDefEqProofs [p1]
        exact ⟨due_step a j (by have : a = j := by omega
                                simp [dueB, this]), rfl⟩
      · have n1 : ¬ a = j := by omega
        simp -implicitDefEqProofs [e1]
        by_cases e2 : (a : Int) = 9
        · have p2 : ((a : Int) = 9) = True := eq_true e2
          have n2 : a = 9 := by omega
          simp -implicitDefEqProofs [p2]
          refine ⟨due_step a j ?_, rfl⟩
          by_cases e3 : j = 0
          · subst e3; simp [dueB, n2]
          · have : ¬ (j : Int) = 0 := by omega
            have h2 : ((j : Int) == 0) = false := by simpa using e3
            rw [h2]
            simp [dueB, n1, e3]
        · have n2 : ¬ a = 9 := by omega
          simp -implicitDefEqProofs [e2]
          refine ⟨due_step a j ?_, rfl⟩
          have h2 : ((a : Int) == 9) = false := by simpa using e2
          rw [h2]
          simp [dueB, n1, n2]
theorem plain (ns : List Int) (h : ns.length ≤ 63) : ∃ fin, Vm.vrun R_k08.P 110 i_law [.d (.list (ns.map .int))] = .ok (.v (.d (.bool true))) fin := by
  have := law_wp (k := 110) (ns := ns) (K := ⟨fun r _ => r = .v (.d (.bool true)), noE⟩) (by decide) h rfl
  revert this
  cases Vm.vrun R_k08.P 110 i_law [.d (.list (ns.map .int))] with
  | ok r fin => exact fun h => ⟨fin, by rw [show r = _ from h]⟩
  | exc x fin => exact fun h => h.elim
  | no => exact fun h => h.elim
end R_k08
end
section
theorem P_k08.plain (ns : List Int) (h : ns.length ≤ 63) : ∃ fin, Vm.vrun P_k08.P 110 19 [.d (.list (ns.map .int))] = .ok (.v (.d (.bool true))) fin := by
  have e : P_k08.P = R_k08.P := rfl
  rw [e]
  exact R_k08.plain ns h
end
open PySem PySem.W PyProof.Rows in
set_option maxRecDepth 100000 in
set_option maxHeartbeats 0 in
theorem PySem.Challenge.cw_beatboughs_k08_refusals_made_holds : PySem.Challenge.rw_beatboughs_k08_refusals_made.Holds := by
  w_on; o_law; k_head; (case hw => w_witness2)
  k_fill
  refine Vm.walkV (l := PySem.Challenge.rw_beatboughs_k08_refusals_made) (n := 63) (k := 110) (f := 19) (x := "_law_script") (P0 := P_k08.P) rfl (by decide) rfl ⟨rfl, by decide, by decide⟩ (fun w h Y => PySem.W.kIn_of Y) ?F P_k08.plain
  case F =>
    intro w mg fa h KX G hmg
    refine' P_k08.all_mk KX G hmg (a0 := ?a0) (a1 := ?a1) (a2 := ?a2) (a3 := ?a3) (a4 := ?a4) (a5 := ?a5) (a6 := ?a6) (a7 := ?a7) (a8 := ?a8) (a9 := ?a9) (a10 := ?a10) (a11 := ?a11) (a12 := ?a12) (a13 := ?a13) (a14 := ?a14) (a15 := ?a15) (a16 := ?a16) (a17 := ?a17) (a18 := ?a18) (a19 := ?a19) (l0 := ?l0) (c0 := ?c0) (k0 := ?k0) (l1 := ?l1) (c1 := ?c1) (k1 := ?k1) (l2 := ?l2) (c2 := ?c2) (k2 := ?k2) (l3 := ?l3) (c3 := ?c3) (k3 := ?k3) (l4 := ?l4) (c4 := ?c4) (k4 := ?k4) (l5 := ?l5) (c5 := ?c5) (k5 := ?k5) (l6 := ?l6) (c6 := ?c6) (k6 := ?k6) (l7 := ?l7) (c7 := ?c7) (k7 := ?k7) (l8 := ?l8) (c8 := ?c8) (k8 := ?k8) (l9 := ?l9) (c9 := ?c9) (k9 := ?k9) (l10 := ?l10) (c10 := ?c10) (k10 := ?k10) (l11 := ?l11) (c11 := ?c11) (k11 := ?k11) (l12 := ?l12) (c12 := ?c12) (k12 := ?k12) (l13 := ?l13) (c13 := ?c13) (k13 := ?k13) (l14 := ?l14) (c14 := ?c14) (k14 := ?k14) (l15 := ?l15) (c15 := ?c15) (k15 := ?k15) (l16 := ?l16) (c16 := ?c16) (k16 := ?k16) (l17 := ?l17) (c17 := ?c17) (k17 := ?k17) (l18 := ?l18) (c18 := ?c18) (k18 := ?k18) (l19 := ?l19) (c19 := ?c19) (k19 := ?k19) (aX1 := ?aX1) (aX0 := ?aX0) (aX8 := ?aX8) (aX7 := ?aX7) (aX6 := ?aX6) (aX5 := ?aX5) (aX4 := ?aX4) (aX3 := ?aX3) (aX2 := ?aX2) (eX1 := ?eX1) (kX1 := ?kX1) (sX1 := ?sX1) (tX1 := ?tX1) (hX1 := ?hX1) (mX1_1 := ?mX1_1) (mX0_1 := ?mX0_1) (mX8_1 := ?mX8_1) (mX7_1 := ?mX7_1) (mX6_1 := ?mX6_1) (mX5_1 := ?mX5_1) (mX4_1 := ?mX4_1) (mX3_1 := ?mX3_1) (mX2_1 := ?mX2_1) (eX0 := ?eX0) (kX0 := ?kX0) (sX0 := ?sX0) (tX0 := ?tX0) (hX0 := ?hX0) (mX1_0 := ?mX1_0) (mX0_0 := ?mX0_0) (mX8_0 := ?mX8_0) (mX7_0 := ?mX7_0) (mX6_0 := ?mX6_0) (mX5_0 := ?mX5_0) (mX4_0 := ?mX4_0) (mX3_0 := ?mX3_0) (mX2_0 := ?mX2_0) (eX8 := ?eX8) (kX8 := ?kX8) (sX8 := ?sX8) (tX8 := ?tX8) (hX8 := ?hX8) (mX1_8 := ?mX1_8) (mX0_8 := ?mX0_8) (mX8_8 := ?mX8_8) (mX7_8 := ?mX7_8) (mX6_8 := ?mX6_8) (mX5_8 := ?mX5_8) (mX4_8 := ?mX4_8) (mX3_8 := ?mX3_8) (mX2_8 := ?mX2_8) (eX7 := ?eX7) (kX7 := ?kX7) (sX7 := ?sX7) (tX7 := ?tX7) (hX7 := ?hX7) (mX1_7 := ?mX1_7) (mX0_7 := ?mX0_7) (mX8_7 := ?mX8_7) (mX7_7 := ?mX7_7) (mX6_7 := ?mX6_7) (mX5_7 := ?mX5_7) (mX4_7 := ?mX4_7) (mX3_7 := ?mX3_7) (mX2_7 := ?mX2_7) (eX6 := ?eX6) (kX6 := ?kX6) (sX6 := ?sX6) (tX6 := ?tX6) (hX6 := ?hX6) (mX1_6 := ?mX1_6) (mX0_6 := ?mX0_6) (mX8_6 := ?mX8_6) (mX7_6 := ?mX7_6) (mX6_6 := ?mX6_6) (mX5_6 := ?mX5_6) (mX4_6 := ?mX4_6) (mX3_6 := ?mX3_6) (mX2_6 := ?mX2_6) (eX5 := ?eX5) (kX5 := ?kX5) (sX5 := ?sX5) (tX5 := ?tX5) (hX5 := ?hX5) (mX1_5 := ?mX1_5) (mX0_5 := ?mX0_5) (mX8_5 := ?mX8_5) (mX7_5 := ?mX7_5) (mX6_5 := ?mX6_5) (mX5_5 := ?mX5_5) (mX4_5 := ?mX4_5) (mX3_5 := ?mX3_5) (mX2_5 := ?mX2_5) (eX4 := ?eX4) (kX4 := ?kX4) (sX4 := ?sX4) (tX4 := ?tX4) (hX4 := ?hX4) (mX1_4 := ?mX1_4) (mX0_4 := ?mX0_4) (mX8_4 := ?mX8_4) (mX7_4 := ?mX7_4) (mX6_4 := ?mX6_4) (mX5_4 := ?mX5_4) (mX4_4 := ?mX4_4) (mX3_4 := ?mX3_4) (mX2_4 := ?mX2_4) (eX3 := ?eX3) (kX3 := ?kX3) (sX3 := ?sX3) (tX3 := ?tX3) (hX3 := ?hX3) (mX1_3 := ?mX1_3) (mX0_3 := ?mX0_3) (mX8_3 := ?mX8_3) (mX7_3 := ?mX7_3) (mX6_3 := ?mX6_3) (mX5_3 := ?mX5_3) (mX4_3 := ?mX4_3) (mX3_3 := ?mX3_3) (mX2_3 := ?mX2_3) (eX2 := ?eX2) (kX2 := ?kX2) (sX2 := ?sX2) (tX2 := ?tX2) (hX2 := ?hX2) (mX1_2 := ?mX1_2) (mX0_2 := ?mX0_2) (mX8_2 := ?mX8_2) (mX7_2 := ?mX7_2) (mX6_2 := ?mX6_2) (mX5_2 := ?mX5_2) (mX4_2 := ?mX4_2) (mX3_2 := ?mX3_2) (mX2_2 := ?mX2_2) (zX9 := ?zX9) (iX1_9 := ?iX1_9) (iX0_9 := ?iX0_9) (iX8_9 := ?iX8_9) (iX7_9 := ?iX7_9) (iX6_9 := ?iX6_9) (iX5_9 := ?iX5_9) (iX4_9 := ?iX4_9) (iX3_9 := ?iX3_9) (iX2_9 := ?iX2_9) (iX1_8 := ?iX1_8) (iX0_8 := ?iX0_8) (iX8_8 := ?iX8_8) (iX7_8 := ?iX7_8) (iX6_8 := ?iX6_8) (iX5_8 := ?iX5_8) (iX4_8 := ?iX4_8) (iX3_8 := ?iX3_8) (iX2_8 := ?iX2_8) (iX1_7 := ?iX1_7) (iX0_7 := ?iX0_7) (iX8_7 := ?iX8_7) (iX7_7 := ?iX7_7) (iX6_7 := ?iX6_7) (iX5_7 := ?iX5_7) (iX4_7 := ?iX4_7) (iX3_7 := ?iX3_7) (iX2_7 := ?iX2_7) (iX1_6 := ?iX1_6) (iX0_6 := ?iX0_6) (iX8_6 := ?iX8_6) (iX7_6 := ?iX7_6) (iX6_6 := ?iX6_6) (iX5_6 := ?iX5_6) (iX4_6 := ?iX4_6) (iX3_6 := ?iX3_6) (iX2_6 := ?iX2_6) (iX1_5 := ?iX1_5) (iX0_5 := ?iX0_5) (iX8_5 := ?iX8_5) (iX7_5 := ?iX7_5) (iX6_5 := ?iX6_5) (iX5_5 := ?iX5_5) (iX4_5 := ?iX4_5) (iX3_5 := ?iX3_5) (iX2_5 := ?iX2_5) (iX1_4 := ?iX1_4) (iX0_4 := ?iX0_4) (iX8_4 := ?iX8_4) (iX7_4 := ?iX7_4) (iX6_4 := ?iX6_4) (iX5_4 := ?iX5_4) (iX4_4 := ?iX4_4) (iX3_4 := ?iX3_4) (iX2_4 := ?iX2_4) (iX1_3 := ?iX1_3) (iX0_3 := ?iX0_3) (iX8_3 := ?iX8_3) (iX7_3 := ?iX7_3) (iX6_3 := ?iX6_3) (iX5_3 := ?iX5_3) (iX4_3 := ?iX4_3) (iX3_3 := ?iX3_3) (iX2_3 := ?iX2_3) (iX1_2 := ?iX1_2) (iX0_2 := ?iX0_2) (iX8_2 := ?iX8_2) (iX7_2 := ?iX7_2) (iX6_2 := ?iX6_2) (iX5_2 := ?iX5_2) (iX4_2 := ?iX4_2) (iX3_2 := ?iX3_2) (iX2_2 := ?iX2_2) (iX1_1 := ?iX1_1) (iX0_1 := ?iX0_1) (iX8_1 := ?iX8_1) (iX7_1 := ?iX7_1) (iX6_1 := ?iX6_1) (iX5_1 := ?iX5_1) (iX4_1 := ?iX4_1) (iX3_1 := ?iX3_1) (iX2_1 := ?iX2_1) (cN := ?cN) (cT := ?cT) (cG1 := ?cG1) (cA1 := ?cA1) (cC1 := ?cC1) (cM1 := ?cM1) (cG0 := ?cG0) (cA0 := ?cA0) (cC0 := ?cC0) (cM0 := ?cM0) (cG8 := ?cG8) (cA8 := ?cA8) (cC8 := ?cC8) (cM8 := ?cM8) (cG7 := ?cG7) (cA7 := ?cA7) (cC7 := ?cC7) (cM7 := ?cM7) (cG6 := ?cG6) (cA6 := ?cA6) (cC6 := ?cC6) (cM6 := ?cM6) (cG5 := ?cG5) (cA5 := ?cA5) (cC5 := ?cC5) (cM5 := ?cM5) (cG4 := ?cG4) (cA4 := ?cA4) (cC4 := ?cC4) (cM4 := ?cM4) (cG3 := ?cG3) (cA3 := ?cA3) (cC3 := ?cC3) (cM3 := ?cM3) (cG2 := ?cG2) (cA2 := ?cA2) (cC2 := ?cC2) (cM2 := ?cM2) (z_isinstance := ?z_isinstance) (z_bool := ?z_bool) (z_int := ?z_int) (z_all := ?z_all) (z_len := ?z_len) (z_str := ?z_str) (z_tuple := ?z_tuple) (z_zip := ?z_zip) (z_range := ?z_range) (z_sum := ?z_sum) (z_list := ?z_list) (g_LETTERS := ?g_LETTERS) (g_MOST_LETTERS := ?g_MOST_LETTERS) (g_ENDS := ?g_ENDS) (m_ENDS := ?m_ENDS) (g_ANSWERS := ?g_ANSWERS) (m_ANSWERS := ?m_ANSWERS) (g_MOST_NOTE := ?g_MOST_NOTE) (g_MOST_TURNS := ?g_MOST_TURNS) (g_FORMS := ?g_FORMS) (m_FORMS := ?m_FORMS) (y_FORMS := ?y_FORMS) (q_FORMS0 := ?q_FORMS0) (q_FORMS1 := ?q_FORMS1) (q_FORMS2 := ?q_FORMS2) (q_FORMS3 := ?q_FORMS3) (q_FORMS4 := ?q_FORMS4) (q_FORMS5 := ?q_FORMS5) (q_FORMS6 := ?q_FORMS6) (q_FORMS7 := ?q_FORMS7) (q_FORMS8 := ?q_FORMS8) (q_FORMS9 := ?q_FORMS9) (g_FIGURES := ?g_FIGURES) (g_MOST_FIGURES := ?g_MOST_FIGURES) (g_DEEPEST := ?g_DEEPEST)
    (case a0 => k_is)
    (case a1 => k_is)
    (case a2 => k_is)
    (case a3 => k_is)
    (case a4 => k_is)
    (case a5 => k_is)
    (case a6 => k_is)
    (case a7 => k_is)
    (case a8 => k_is)
    (case a9 => k_is)
    (case a10 => k_is)
    (case a11 => k_is)
    (case a12 => k_is)
    (case a13 => k_is)
    (case a14 => k_is)
    (case a15 => k_is)
    (case a16 => k_is)
    (case a17 => k_is)
    (case a18 => k_is)
    (case a19 => k_is)
    (case l0 => k_is)
    (case c0 => k_is)
    (case k0 => k_is)
    (case l1 => k_is)
    (case c1 => k_is)
    (case k1 => k_is)
    (case l2 => k_is)
    (case c2 => k_is)
    (case k2 => k_is)
    (case l3 => k_is)
    (case c3 => k_is)
    (case k3 => k_is)
    (case l4 => k_is)
    (case c4 => k_is)
    (case k4 => k_is)
    (case l5 => k_is)
    (case c5 => k_is)
    (case k5 => k_is)
    (case l6 => k_is)
    (case c6 => k_is)
    (case k6 => k_is)
    (case l7 => k_is)
    (case c7 => k_is)
    (case k7 => k_is)
    (case l8 => k_is)
    (case c8 => k_is)
    (case k8 => k_is)
    (case l9 => k_is)
    (case c9 => k_is)
    (case k9 => k_is)
    (case l10 => k_is)
    (case c10 => k_is)
    (case k10 => k_is)
    (case l11 => k_is)
    (case c11 => k_is)
    (case k11 => k_is)
    (case l12 => k_is)
    (case c12 => k_is)
    (case k12 => k_is)
    (case l13 => k_is)
    (case c13 => k_is)
    (case k13 => k_is)
    (case l14 => k_is)
    (case c14 => k_is)
    (case k14 => k_is)
    (case l15 => k_is)
    (case c15 => k_is)
    (case k15 => k_is)
    (case l16 => k_is)
    (case c16 => k_is)
    (case k16 => k_is)
    (case l17 => k_is)
    (case c17 => k_is)
    (case k17 => k_is)
    (case l18 => k_is)
    (case c18 => k_is)
    (case k18 => k_is)
    (case l19 => k_is)
    (case c19 => k_is)
    (case k19 => k_is)
    (case aX1 => k_is)
    (case aX0 => k_is)
    (case aX8 => k_is)
    (case aX7 => k_is)
    (case aX6 => k_is)
    (case aX5 => k_is)
    (case aX4 => k_is)
    (case aX3 => k_is)
    (case aX2 => k_is)
    (case eX1 => k_exc)
    (case kX1 => k_is)
    (case sX1 => k_is)
    (case tX1 => k_is)
    (case hX1 => k_is)
    (case mX1_1 => k_is)
    (case mX0_1 => k_is)
    (case mX8_1 => k_is)
    (case mX7_1 => k_is)
    (case mX6_1 => k_is)
    (case mX5_1 => k_is)
    (case mX4_1 => k_is)
    (case mX3_1 => k_is)
    (case mX2_1 => k_is)
    (case eX0 => k_exc)
    (case kX0 => k_is)
    (case sX0 => k_is)
    (case tX0 => k_is)
    (case hX0 => k_is)
    (case mX1_0 => k_is)
    (case mX0_0 => k_is)
    (case mX8_0 => k_is)
    (case mX7_0 => k_is)
    (case mX6_0 => k_is)
    (case mX5_0 => k_is)
    (case mX4_0 => k_is)
    (case mX3_0 => k_is)
    (case mX2_0 => k_is)
    (case eX8 => k_exc)
    (case kX8 => k_is)
    (case sX8 => k_is)
    (case tX8 => k_is)
    (case hX8 => k_is)
    (case mX1_8 => k_is)
    (case mX0_8 => k_is)
    (case mX8_8 => k_is)
    (case mX7_8 => k_is)
    (case mX6_8 => k_is)
    (case mX5_8 => k_is)
    (case mX4_8 => k_is)
    (case mX3_8 => k_is)
    (case mX2_8 => k_is)
    (case eX7 => k_exc)
    (case kX7 => k_is)
    (case sX7 => k_is)
    (case tX7 => k_is)
    (case hX7 => k_is)
    (case mX1_7 => k_is)
    (case mX0_7 => k_is)
    (case mX8_7 => k_is)
    (case mX7_7 => k_is)
    (case mX6_7 => k_is)
    (case mX5_7 => k_is)
    (case mX4_7 => k_is)
    (case mX3_7 => k_is)
    (case mX2_7 => k_is)
    (case eX6 => k_exc)
    (case kX6 => k_is)
    (case sX6 => k_is)
    (case tX6 => k_is)
    (case hX6 => k_is)
    (case mX1_6 => k_is)
    (case mX0_6 => k_is)
    (case mX8_6 => k_is)
    (case mX7_6 => k_is)
    (case mX6_6 => k_is)
    (case mX5_6 => k_is)
    (case mX4_6 => k_is)
    (case mX3_6 => k_is)
    (case mX2_6 => k_is)
    (case eX5 => k_exc)
    (case kX5 => k_is)
    (case sX5 => k_is)
    (case tX5 => k_is)
    (case hX5 => k_is)
    (case mX1_5 => k_is)
    (case mX0_5 => k_is)
    (case mX8_5 => k_is)
    (case mX7_5 => k_is)
    (case mX6_5 => k_is)
    (case mX5_5 => k_is)
    (case mX4_5 => k_is)
    (case mX3_5 => k_is)
    (case mX2_5 => k_is)
    (case eX4 => k_exc)
    (case kX4 => k_is)
    (case sX4 => k_is)
    (case tX4 => k_is)
    (case hX4 => k_is)
    (case mX1_4 => k_is)
    (case mX0_4 => k_is)
    (case mX8_4 => k_is)
    (case mX7_4 => k_is)
    (case mX6_4 => k_is)
    (case mX5_4 => k_is)
    (case mX4_4 => k_is)
    (case mX3_4 => k_is)
    (case mX2_4 => k_is)
    (case eX3 => k_exc)
    (case kX3 => k_is)
    (case sX3 => k_is)
    (case tX3 => k_is)
    (case hX3 => k_is)
    (case mX1_3 => k_is)
    (case mX0_3 => k_is)
    (case mX8_3 => k_is)
    (case mX7_3 => k_is)
    (case mX6_3 => k_is)
    (case mX5_3 => k_is)
    (case mX4_3 => k_is)
    (case mX3_3 => k_is)
    (case mX2_3 => k_is)
    (case eX2 => k_exc)
    (case kX2 => k_is)
    (case sX2 => k_is)
    (case tX2 => k_is)
    (case hX2 => k_is)
    (case mX1_2 => k_is)
    (case mX0_2 => k_is)
    (case mX8_2 => k_is)
    (case mX7_2 => k_is)
    (case mX6_2 => k_is)
    (case mX5_2 => k_is)
    (case mX4_2 => k_is)
    (case mX3_2 => k_is)
    (case mX2_2 => k_is)
    (case zX9 => k_is)
    (case iX1_9 => first | k_is | kit_is)
    (case iX0_9 => first | k_is | kit_is)
    (case iX8_9 => first | k_is | kit_is)
    (case iX7_9 => first | k_is | kit_is)
    (case iX6_9 => first | k_is | kit_is)
    (case iX5_9 => first | k_is | kit_is)
    (case iX4_9 => first | k_is | kit_is)
    (case iX3_9 => first | k_is | kit_is)
    (case iX2_9 => first | k_is | kit_is)
    (case iX1_8 => first | k_is | kit_is)
    (case iX0_8 => first | k_is | kit_is)
    (case iX8_8 => first | k_is | kit_is)
    (case iX7_8 => first | k_is | kit_is)
    (case iX6_8 => first | k_is | kit_is)
    (case iX5_8 => first | k_is | kit_is)
    (case iX4_8 => first | k_is | kit_is)
    (case iX3_8 => first | k_is | kit_is)
    (case iX2_8 => first | k_is | kit_is)
    (case iX1_7 => first | k_is | kit_is)
    (case iX0_7 => first | k_is | kit_is)
    (case iX8_7 => first | k_is | kit_is)
    (case iX7_7 => first | k_is | kit_is)
    (case iX6_7 => first | k_is | kit_is)
    (case iX5_7 => first | k_is | kit_is)
    (case iX4_7 => first | k_is | kit_is)
    (case iX3_7 => first | k_is | kit_is)
    (case iX2_7 => first | k_is | kit_is)
    (case iX1_6 => first | k_is | kit_is)
    (case iX0_6 => first | k_is | kit_is)
    (case iX8_6 => first | k_is | kit_is)
    (case iX7_6 => first | k_is | kit_is)
    (case iX6_6 => first | k_is | kit_is)
    (case iX5_6 => first | k_is | kit_is)
    (case iX4_6 => first | k_is | kit_is)
    (case iX3_6 => first | k_is | kit_is)
    (case iX2_6 => first | k_is | kit_is)
    (case iX1_5 => first | k_is | kit_is)
    (case iX0_5 => first | k_is | kit_is)
    (case iX8_5 => first | k_is | kit_is)
    (case iX7_5 => first | k_is | kit_is)
    (case iX6_5 => first | k_is | kit_is)
    (case iX5_5 => first | k_is | kit_is)
    (case iX4_5 => first | k_is | kit_is)
    (case iX3_5 => first | k_is | kit_is)
    (case iX2_5 => first | k_is | kit_is)
    (case iX1_4 => first | k_is | kit_is)
    (case iX0_4 => first | k_is | kit_is)
    (case iX8_4 => first | k_is | kit_is)
    (case iX7_4 => first | k_is | kit_is)
    (case iX6_4 => first | k_is | kit_is)
    (case iX5_4 => first | k_is | kit_is)
    (case iX4_4 => first | k_is | kit_is)
    (case iX3_4 => first | k_is | kit_is)
    (case iX2_4 => first | k_is | kit_is)
    (case iX1_3 => first | k_is | kit_is)
    (case iX0_3 => first | k_is | kit_is)
    (case iX8_3 => first | k_is | kit_is)
    (case iX7_3 => first | k_is | kit_is)
    (case iX6_3 => first | k_is | kit_is)
    (case iX5_3 => first | k_is | kit_is)
    (case iX4_3 => first | k_is | kit_is)
    (case iX3_3 => first | k_is | kit_is)
    (case iX2_3 => first | k_is | kit_is)
    (case iX1_2 => first | k_is | kit_is)
    (case iX0_2 => first | k_is | kit_is)
    (case iX8_2 => first | k_is | kit_is)
    (case iX7_2 => first | k_is | kit_is)
    (case iX6_2 => first | k_is | kit_is)
    (case iX5_2 => first | k_is | kit_is)
    (case iX4_2 => first | k_is | kit_is)
    (case iX3_2 => first | k_is | kit_is)
    (case iX2_2 => first | k_is | kit_is)
    (case iX1_1 => first | k_is | kit_is)
    (case iX0_1 => first | k_is | kit_is)
    (case iX8_1 => first | k_is | kit_is)
    (case iX7_1 => first | k_is | kit_is)
    (case iX6_1 => first | k_is | kit_is)
    (case iX5_1 => first | k_is | kit_is)
    (case iX4_1 => first | k_is | kit_is)
    (case iX3_1 => first | k_is | kit_is)
    (case iX2_1 => first | k_is | kit_is)
    (case cN => k_is)
    (case cT => k_is)
    (case cG1 => k_is)
    (case cA1 => k_is)
    (case cC1 => k_is)
    (case cM1 => k_is)
    (case cG0 => k_is)
    (case cA0 => k_is)
    (case cC0 => k_is)
    (case cM0 => k_is)
    (case cG8 => k_is)
    (case cA8 => k_is)
    (case cC8 => k_is)
    (case cM8 => k_is)
    (case cG7 => k_is)
    (case cA7 => k_is)
    (case cC7 => k_is)
    (case cM7 => k_is)
    (case cG6 => k_is)
    (case cA6 => k_is)
    (case cC6 => k_is)
    (case cM6 => k_is)
    (case cG5 => k_is)
    (case cA5 => k_is)
    (case cC5 => k_is)
    (case cM5 => k_is)
    (case cG4 => k_is)
    (case cA4 => k_is)
    (case cC4 => k_is)
    (case cM4 => k_is)
    (case cG3 => k_is)
    (case cA3 => k_is)
    (case cC3 => k_is)
    (case cM3 => k_is)
    (case cG2 => k_is)
    (case cA2 => k_is)
    (case cC2 => k_is)
    (case cM2 => k_is)
    (case z_isinstance => k_is)
    (case z_bool => k_is)
    (case z_int => k_is)
    (case z_all => k_is)
    (case z_len => k_is)
    (case z_str => k_is)
    (case z_tuple => k_is)
    (case z_zip => k_is)
    (case z_range => k_is)
    (case z_sum => k_is)
    (case z_list => k_is)
    (case g_LETTERS => k_is)
    (case g_MOST_LETTERS => k_is)
    (case g_ENDS => k_is)
    (case m_ENDS => k_is)
    (case g_ANSWERS => k_is)
    (case m_ANSWERS => k_is)
    (case g_MOST_NOTE => k_is)
    (case g_MOST_TURNS => k_is)
    (case g_FORMS => k_is)
    (case m_FORMS => k_is)
    (case y_FORMS => rfl)
    (case q_FORMS0 => rfl)
    (case q_FORMS1 => rfl)
    (case q_FORMS2 => rfl)
    (case q_FORMS3 => rfl)
    (case q_FORMS4 => rfl)
    (case q_FORMS5 => rfl)
    (case q_FORMS6 => rfl)
    (case q_FORMS7 => rfl)
    (case q_FORMS8 => rfl)
    (case q_FORMS9 => rfl)
    (case g_FIGURES => k_is)
    (case g_MOST_FIGURES => k_is)
    (case g_DEEPEST => k_is)
#print axioms PySem.Challenge.cw_beatboughs_k08_refusals_made_holds
