import PyProof.Rows.All
import Wide.All
import OpenK.AllK
import Wide.FinOn
import KE.KStateDown
import HandS.Base
import HandS.Call
import HandS.List
import HandS.Comp
import HandS.Dict
import HandS.Iter
import HandS.Text
import HandS.Words
import HandS.WordsList
import HandS.WordsDict
import HandS.Exc
import HandS.TryMany
import HandS.ExcOwn
import HandS.CallSlots
import HandS.Conv
import HandS.Deep
import HandS.Flow
import HandS.IsInst
import HandS.TupAny
import HandS.TupMul
import HandS.TupLen
import HandS.TupLe
import HandS.Walk
import HandS.More
import HandS.Small
import HandS.Set
import HandS.SetFor
import HandS.Strs
import PyProof.Rows.SortShellAny
import HandS.SortRule
import KE.KSortTupAny
import HandS.WordsExc
import HandS.Defaults
import HandS.Ends
import HandS.Codes
import HandS.Head0
import HandS.Head1
import HandS.Head2
import HandS.HeadEnd
import HandS.HeadHook1
import HandS.HeadHook2
import PyProof.ExcBaseAll.ValueError
import HandS.HeadHook3
import Lean
import PySem.Challenge.RW_onefile_k01_programs
set_option Elab.async false
set_option autoImplicit false
set_option linter.all false
namespace Py
abbrev W := List Nat
inductive T where
  | non | bl (b : Bool) | int (i : Int) | str (s : W) | scr (ns : List Int)
  | tup (ts : List T) | lst (ts : List T) | dct (tk : Bool) (kvs : List (T × T))
  deriving Inhabited
inductive Sl where
  | un | val (t : T) | own (t : T)
abbrev Env := List Sl
inductive R where
  | tmp (t : T) | new (t : T) | slot (i : Nat)
inductive Res (α : Type) where
  | ok (a : α) | exc (c : Nat) (ρ : Env) | stuck
inductive CRes where
  | ok (r : R) | exc (c : Nat) | stuck
inductive SRes where
  | next (ρ : Env) | ret (r : R) (ρ : Env) | exc (c : Nat) (ρ : Env) | stuck
@[simp] abbrev cap : Nat := 1000000

mutual
def eqT : T → T → Bool
  | .non, .non => true
  | .bl a, .bl b => a == b
  | .bl a, .int j => (if a then 1 else 0) == j
  | .int i, .bl b => i == (if b then 1 else 0)
  | .int i, .int j => i == j
  | .str x, .str y => x == y
  | .lst xs, .lst ys => eqTs xs ys
  | .tup xs, .tup ys => eqTs xs ys
  | _, _ => false
def eqTs : List T → List T → Bool
  | [], [] => true
  | x :: xs, y :: ys => eqT x y && eqTs xs ys
  | _, _ => false
end
mutual
def good : Nat → T → Bool
  | _, .non => true
  | _, .bl _ => true
  | _, .int _ => true
  | _, .str s => s.all (· < 1114112)
  | n + 1, .tup ts => goods n ts
  | n + 1, .lst ts => goods n ts
  | _, _ => false
def goods : Nat → List T → Bool
  | _, [] => true
  | n, t :: ts => good n t && goods n ts
end
mutual
def pureT : T → Bool
  | .tup ts => pureTs ts
  | .lst _ => false
  | .dct _ _ => false
  | .scr _ => false
  | _ => true
def pureTs : List T → Bool
  | [] => true
  | t :: ts => pureT t && pureTs ts
end
def flatT : T → Bool
  | .non => true | .bl _ => true | .int _ => true | .str _ => true | _ => false
def apartR : R → Bool
  | .tmp t => pureT t
  | .new (.lst ts) => pureTs ts
  | .new (.dct _ kvs) => kvs.all fun kv => pureT kv.2
  | _ => false

def ixN (n : Nat) (i : Int) : Option Nat := if 0 ≤ i then (if i < n then some i.toNat else none) else if -(n : Int) ≤ i then some (i + n).toNat else none
def atI {α : Type} (xs : List α) (i : Int) : Option α := (ixN xs.length i).bind fun j => xs[j]?
def sIx (n d : Nat) : Option Int → Nat
  | none => d
  | some v => if v < 0 then (v + (n : Int)).toNat else min v.toNat n
def cut {α : Type} (xs : List α) (lo hi : Option Int) : List α := (xs.drop (sIx xs.length 0 lo)).take (sIx xs.length xs.length hi - sIx xs.length 0 lo)

def keyT : Bool → T → Bool
  | true, .int _ => true
  | true, .str _ => true
  | false, .tup ts => ts.all fun t => match t with | .int _ => true | .str _ => true | _ => false
  | _, _ => false
def getK : List (T × T) → T → Option T
  | [], _ => none
  | (k, v) :: r, x => if eqT k x then some v else getK r x
def putK (kvs : List (T × T)) (x v : T) : List (T × T) :=
  if kvs.any (fun kv => eqT kv.1 x) then kvs.map (fun kv => if eqT kv.1 x then (kv.1, v) else kv) else kvs ++ [(x, v)]
def putAll (kvs more : List (T × T)) : List (T × T) := more.foldl (fun acc kv => putK acc kv.1 kv.2) kvs

def isPre : W → W → Bool
  | [], _ => true
  | _ :: _, [] => false
  | a :: p, b :: l => a == b && isPre p l
def spl (S : W) : Nat → W → W → List W
  | _, acc, [] => [acc]
  | 0, acc, c :: r => if isPre S (c :: r) then acc :: spl S (S.length - 1) [] r else spl S 0 (acc ++ [c]) r
  | k + 1, acc, _ :: r => spl S k acc r
def joinW (S : W) : List W → W
  | [] => []
  | [p] => p
  | p :: q :: r => p ++ (S ++ joinW S (q :: r))
def digitsW : Nat → Nat → W
  | 0, _ => []
  | f + 1, n => if n < 10 then [48 + n] else digitsW f (n / 10) ++ [48 + n % 10]
def numW (n : Nat) : W := digitsW (n + 1) n
def valW (s : W) : Nat := s.foldl (fun acc c => acc * 10 + (c - 48)) 0
def ltW (x y : W) : Bool := decide (x < y)
def headsOf : List T → Option (List W)
  | [] => some []
  | .tup (.str w :: _) :: r => (headsOf r).map (w :: ·)
  | _ => none
def keysOf : List T → Option (List (W × W))
  | [] => some []
  | .tup (.str w :: .str z :: _) :: r => (keysOf r).map ((w, z) :: ·)
  | _ => none
def strsOf : List T → Option (List W)
  | [] => some []
  | .str s :: r => (strsOf r).map (s :: ·)
  | _ => none
def intsOf : List T → Option (List Int)
  | [] => some []
  | .int i :: r => (intsOf r).map (i :: ·)
  | _ => none

mutual
def ltT : T → T → Option Bool
  | .int i, .int j => some (decide (i < j))
  | .str x, .str y => some (ltW x y)
  | .tup xs, .tup ys => ltTs xs ys
  | _, _ => none
def ltTs : List T → List T → Option Bool
  | [], [] => some false
  | [], _ :: _ => some true
  | _ :: _, [] => some false
  | x :: xs, y :: ys => if eqT x y then ltTs xs ys else ltT x y
end
def insT (x : T) : List T → Option (List T)
  | [] => some [x]
  | y :: r => match ltT x y with
    | some true => some (x :: y :: r)
    | some false => (insT x r).map (y :: ·)
    | none => none
def sortT : List T → Option (List T)
  | [] => some []
  | x :: r => match sortT r with
    | some s => insT x s
    | none => none
def minT : List T → Option T
  | [] => none
  | [x] => some x
  | x :: r => match minT r with
    | some m => (match ltT m x with | some true => some m | some false => some x | none => none)
    | none => none
def dedupW : List W → List W
  | [] => []
  | x :: r => if r.contains x then dedupW r else x :: dedupW r

def truthT : T → Option Bool
  | .non => some false
  | .bl b => some b
  | .int i => some (i != 0)
  | .str s => if s.length ≤ cap then some (!s.isEmpty) else none
  | .tup ts => some (!ts.isEmpty)
  | .lst ts => some (!ts.isEmpty)
  | .dct true kvs => some (!kvs.isEmpty)
  | _ => none
inductive BOp where
  | add | sub | mul | fdiv | mod | pow
inductive COp where
  | eq | ne | lt | le | gt | ge | isin | notin
inductive Ty where
  | int | str | tuple | list | bool
inductive B1 where
  | len | tupo | lsto | dcto | into | stro | sumo | srt | mino | lset | sset | sitm
inductive M0 where
  | pop | clear
inductive M1 where
  | append | extend | update | get1 | join | split | startswith | index
def small64 (i : Int) : Bool := decide (-18446744073709551616 < i) && decide (i < 18446744073709551616)
def repL (xs : List T) (k : Int) : List T := (List.replicate k.toNat xs).flatten
def binT : BOp → T → T → Option R
  | .add, .int i, .int j => some (.tmp (.int (i + j)))
  | .add, .str x, .str y => if x.length + y.length ≤ cap then some (.tmp (.str (x ++ y))) else none
  | .add, .lst x, .lst y => if x.length + y.length ≤ cap then some (.new (.lst (x ++ y))) else none
  | .add, .tup x, .tup y => if x.length + y.length ≤ cap then some (.tmp (.tup (x ++ y))) else none
  | .sub, .int i, .int j => some (.tmp (.int (i - j)))
  | .mul, .int i, .int j => if small64 i || small64 j then some (.tmp (.int (i * j))) else none
  | .mul, .lst x, .int k => if decide (-1000000 ≤ k) && decide (k ≤ 1000000) && decide (x.length * k.toNat ≤ cap) then some (.new (.lst (repL x k))) else none
  | .mul, .tup x, .int k => if decide (2 ≤ k) && decide (k ≤ 1000) && decide (x.length ≤ 1000) && !x.isEmpty then some (.tmp (.tup (repL x k))) else none
  | .fdiv, .int i, .int j => if decide (0 < j) && decide (j < 1073741824) then some (.tmp (.int (i / j))) else none
  | .mod, .int i, .int j => if decide (0 < j) then some (.tmp (.int (i % j))) else none
  | .pow, .int i, .int j => if decide (0 ≤ j) && decide (j ≤ 1000000) && decide (i.natAbs < 18446744073709551616) then some (.tmp (.int (i ^ j.toNat))) else none
  | _, _, _ => none
def inT (x : T) : T → Option Bool
  | .lst ts => if good 60 x && goods 60 ts then some (ts.any fun z => eqT z x) else none
  | .tup ts => if flatT x && ts.all flatT then some (ts.any fun z => eqT z x) else none
  | .str s => match x with | .str [] => some true | .str [c] => some (decide (c ∈ s)) | _ => none
  | .dct tk kvs => if keyT tk x then some (getK kvs x).isSome else none
  | _ => none
def cmpT : COp → T → T → Option Bool
  | .eq, x, y => if good 61 x && good 61 y then some (eqT x y) else none
  | .ne, x, y => if good 61 x && good 61 y then some (!eqT x y) else none
  | .lt, .int i, .int j => some (decide (i < j))
  | .le, .int i, .int j => some (decide (i ≤ j))
  | .gt, .int i, .int j => some (decide (j < i))
  | .ge, .int i, .int j => some (decide (j ≤ i))
  | .le, .str x, .str y => some (!ltW y x)
  | .lt, .str x, .str y => some (ltW x y)
  | .isin, x, y => inT x y
  | .notin, x, y => (inT x y).map (!·)
  | _, _, _ => none
def isiT : Ty → T → Option Bool
  | _, .dct _ _ => some false
  | k, .non => some false
  | .int, .bl _ => some true
  | .int, .int _ => some true
  | .bool, .bl _ => some true
  | .str, .str _ => some true
  | .tuple, .tup _ => some true
  | .list, .lst _ => some true
  | .list, .scr _ => none
  | _, .scr _ => none
  | _, _ => some false
def lenT : T → Option Nat
  | .str s => if s.length ≤ cap then some s.length else none
  | .tup ts => some ts.length
  | .lst ts => some ts.length
  | .scr ns => some ns.length
  | .dct _ kvs => some kvs.length
  | _ => none
def ixT : T → T → Option T
  | .lst ts, .int i => atI ts i
  | .tup ts, .int i => atI ts i
  | .scr ns, .int i => (atI ns i).map T.int
  | .str s, .int i => if s.length ≤ cap then (atI s i).map fun c => T.str [c] else none
  | .dct tk kvs, k => if keyT tk k then getK kvs k else none
  | _, _ => none
def partT : T → Option Int
  | .int i => some i
  | _ => none
def slcT (t : T) (lo hi : Option Int) : Option R :=
  match t with
  | .lst ts => some (.new (.lst (cut ts lo hi)))
  | .tup ts => some (.tmp (.tup (cut ts lo hi)))
  | .str s => if s.length ≤ cap then some (.tmp (.str (cut s lo hi))) else none
  | _ => none
def pairsOf : List T → Option (List (T × T))
  | [] => some []
  | .tup [k, v] :: r => if keyT true k then (pairsOf r).map ((k, v) :: ·) else none
  | _ => none
def b1T : B1 → T → Option R
  | .len, t => (lenT t).map fun (n : Nat) => .tmp (.int (n : Int))
  | .tupo, .lst ts => some (.tmp (.tup ts))
  | .tupo, .tup ts => some (.tmp (.tup ts))
  | .lsto, .lst ts => some (.new (.lst ts))
  | .lsto, .tup ts => some (.new (.lst ts))
  | .dcto, .lst ts => (pairsOf ts).map fun ps => .new (.dct true (putAll [] ps))
  | .into, .int i => some (.tmp (.int i))
  | .into, .bl b => some (.tmp (.int (if b then 1 else 0)))
  | .into, .str s => if !s.isEmpty && decide (s.length ≤ 600) && s.all (fun c => decide (48 ≤ c) && decide (c ≤ 57)) then some (.tmp (.int (valW s))) else none
  | .stro, .int i => if decide (0 ≤ i) && decide (i < 1000000000) then some (.tmp (.str (numW i.toNat))) else none
  | .sumo, .lst ts => (intsOf ts).map fun ns => .tmp (.int ns.sum)
  | .srt, .lst ts => match strsOf ts with
    | some ws => if ws.length < 64 then (sortT (ws.map T.str)).map fun s => .new (.lst s) else none
    | none => match headsOf ts with
      | some ws => if ws.Nodup then (sortT ts).map fun s => .new (.lst s) else match keysOf ts with
        | some ks => if ks.Nodup then (sortT ts).map fun s => .new (.lst s) else none
        | none => none
      | none => none
  | .mino, .lst ts => if ts.length < 64 then (minT ts).map fun s => .tmp s else none
  | .lset, .lst ts => match strsOf ts with
    | some ws => if ws.length < 4000 then some (.tmp (.int (dedupW ws).length)) else none
    | none => none
  | .sset, .lst ts => match strsOf ts with
    | some ws => if ws.length < 64 then (sortT ((dedupW ws).map T.str)).map fun s => .new (.lst s) else none
    | none => none
  | .sitm, .dct true kvs => if kvs.length < 64 then (sortT (kvs.map fun kv => T.tup [kv.1, kv.2])).map fun s => .new (.lst s) else none
  | _, _ => none
def recv : M1 → T → Bool
  | .append, .lst _ => true
  | .extend, .lst _ => true
  | .index, .lst _ => true
  | .update, .dct _ _ => true
  | .get1, .dct _ _ => true
  | .join, .str _ => true
  | .split, .str _ => true
  | .startswith, .str _ => true
  | _, _ => false
def isNonT : T → Bool
  | .non => true
  | _ => false
def isDct : T → Bool
  | .dct _ _ => true
  | _ => false
def m1T : M1 → T → T → Option R
  | .get1, .dct tk kvs, k => if keyT tk k then some (.tmp ((getK kvs k).getD .non)) else none
  | .join, .str s, .lst ts => match strsOf ts with
    | some ws => if (ws.map List.length).sum + ws.length * s.length ≤ cap then some (.tmp (.str (joinW s ws))) else none
    | none => none
  | .split, .str s, .str p => if !p.isEmpty && p.all (· < 256) && decide (s.length ≤ cap) then some (.new (.lst ((spl p 0 [] s).map T.str))) else none
  | .startswith, .str s, .str p => some (.tmp (.bl (isPre p s)))
  | .index, .lst ts, .str p => match strsOf ts with
    | some ws => if ws.contains p then some (.tmp (.int (ws.idxOf p))) else none
    | none => none
  | _, _, _ => none

inductive Tg where
  | one (i : Nat) | many (is : List Nat)
inductive It where
  | seq | rng1 | rng2 | enm
inductive Ex where
  | loc (i : Nat) | gl (n : Nat) | int (i : Int) | str (s : W) | bl (b : Bool) | non
  | tup (es : List Ex) | lst (es : List Ex) | dnw (tk : Bool) | dlt (kvs : List (W × T))
  | bin (op : BOp) (a b : Ex) | neg (a : Ex) | nt (a : Ex) | and2 (a b : Ex) | or2 (a b : Ex)
  | cmp (op : COp) (a b : Ex) | isn (neg : Bool) (a : Ex) | chn (op op' : COp) (a b c : Ex) | ife (c a b : Ex)
  | ix (a b : Ex) | slc (a lo hi : Ex) | lc (elt : Ex) (tg : Tg) (k : It) (ie : List Ex) (c : Ex)
  | call (f : Nat) (es : List Ex) | callm (f i : Nat) (es : List Ex)
  | isi (k : Ty) (a : Ex) | b1 (op : B1) (a : Ex) | max2 (a b : Ex)
  | m0 (op : M0) (o : Ex) | m1 (op : M1) (o a : Ex) | get2 (o a b : Ex) | rev (a : Ex)
inductive Stm where
  | asg (i : Nat) (e : Ex) | asgt (is : List Nat) (e : Ex) | par (i j : Nat) (a b : Ex) | sst (i : Nat) (k e : Ex) | aug (i : Nat) (e : Ex)
  | exp (e : Ex) | ite (c : Ex) (a b : List Stm) | whl (c : Ex) (b : List Stm) | for (tg : Tg) (k : It) (ie : List Ex) (b : List Stm)
  | cal (f : Nat) (a b c : Ex) (j : Nat) | ret (e : Ex) | rse (c : Nat) | try (b : List Stm) (hs : List (Nat × List Stm)) | pss

def rd : R → Env → Option T
  | .tmp t, _ => some t
  | .new t, _ => some t
  | .slot i, ρ => match ρ[i]? with
    | some (.val t) => some t
    | some (.own t) => some t
    | _ => none
def esc : R → Env → Option (T × Env)
  | .tmp t, ρ => some (t, ρ)
  | .new t, ρ => some (t, ρ)
  | .slot i, ρ => match ρ[i]? with
    | some (.val t) => some (t, ρ)
    | some (.own t) => some (t, ρ.set i (.val t))
    | _ => none
def rds : List R → Env → Option (List T)
  | [], _ => some []
  | r :: rs, ρ => (rd r ρ).bind fun t => (rds rs ρ).map (t :: ·)
def escs : List R → Env → Option Env
  | [], ρ => some ρ
  | r :: rs, ρ => (esc r ρ).bind fun p => escs rs p.2
def bnd {α β : Type} (x : Res (α × Env)) (f : α → Env → Res β) : Res β :=
  match x with
  | .ok (a, ρ) => f a ρ
  | .exc c ρ => .exc c ρ
  | .stuck => .stuck
def lift {α β : Type} (o : Option α) (f : α → Res β) : Res β :=
  match o with
  | some a => f a
  | none => .stuck
def isNewR : R → Bool
  | .slot _ => false
  | _ => true
def put : Tg → T → Env → Option Env
  | .one i, t, ρ => if i < ρ.length then some (ρ.set i (.val t)) else none
  | .many is, .tup ts, ρ => if is.length = ts.length ∧ is.all (· < ρ.length) then some ((is.zip ts).foldl (fun ρ p => ρ.set p.1 (.val p.2)) ρ) else none
  | _, _, _ => none
def Tg.slots : Tg → List Nat
  | .one i => [i]
  | .many is => is
def rangeT (a b : Int) : List T := (List.range (b - a).toNat).map fun n => T.int (a + (n : Nat))
def enumT (ts : List T) : List T := ts.zipIdx.map fun p => T.tup [.int (p.2 : Nat), p.1]
def itemsT : It → List T → Option (List T)
  | .seq, [.lst ts] => some ts
  | .seq, [.tup ts] => some ts
  | .seq, [.str s] => some (s.map fun c => T.str [c])
  | .rng1, [.int b] => if decide (-1000000 ≤ b) && decide (b ≤ 1000000) then some (rangeT 0 b) else none
  | .rng2, [.int a, .int b] => if decide (-1000000 ≤ a) && decide (a ≤ 1000000) && decide (-1000000 ≤ b) && decide (b ≤ 1000000) then some (rangeT a b) else none
  | .enm, [.lst ts] => some (enumT ts)
  | _, _ => none
def wipeE (is : List Nat) (ρ : Env) : Env := is.foldl (fun ρ i => ρ.set i .un) ρ
def isOwn : Option Sl → Bool
  | some (.own _) => true
  | _ => false
def isVal : Option Sl → Bool
  | some (.own _) => false
  | some _ => true
  | none => false
def backE (is : List Nat) (old ρ : Env) : Env := is.foldl (fun ρ i => ρ.set i (old.getD i .un)) ρ
def noExc {α : Type} : Res α → Res α
  | .ok a => .ok a
  | _ => .stuck
def lcGo (step : T → Env → Res (Option T × Env)) : List T → List T → Env → Res (List T × Env)
  | [], acc, ρ => .ok (acc, ρ)
  | t :: ts, acc, ρ => bnd (step t ρ) fun o ρ => match o with
    | some y => lcGo step ts (acc ++ [y]) ρ
    | none => lcGo step ts acc ρ
def upOwn (r : R) (ρ : Env) (f : T → Option (T × R)) : Res (R × Env) :=
  match r with
  | .slot i => match ρ[i]? with
    | some (.own t) => lift (f t) fun p => .ok (p.2, ρ.set i (.own p.1))
    | _ => .stuck
  | _ => .stuck
def appT (y : T) : T → Option (T × R)
  | .lst ts => if ts.length < cap then some (.lst (ts ++ [y]), .tmp .non) else none
  | _ => none
def extT (ys : List T) : T → Option (T × R)
  | .lst ts => if ts.length + ys.length ≤ cap then some (.lst (ts ++ ys), .tmp .non) else none
  | _ => none
def popT : T → Option (T × R)
  | .lst ts => match ts.getLast? with
    | some y => some (.lst ts.dropLast, .tmp y)
    | none => none
  | _ => none
def clearT : T → Option (T × R)
  | .lst _ => some (.lst [], .tmp .non)
  | _ => none
def putT (k y : T) : T → Option (T × R)
  | .dct tk kvs => if keyT tk k && decide (kvs.length < cap) then some (.dct tk (putK kvs k y), .tmp .non) else none
  | .lst ts => match k with
    | .int i => (ixN ts.length i).map fun j => (.lst (ts.set j y), .tmp .non)
    | _ => none
  | _ => none
def updT (more : T) : T → Option (T × R)
  | .dct true kvs => match more with
    | .dct true ps => if kvs.length + ps.length ≤ cap then some (.dct true (putAll kvs ps), .tmp .non) else none
    | _ => none
  | _ => none

section
variable (C : List T) (call : Nat → List T → CRes)
def fin (o : Option R) (ρ : Env) : Res (R × Env) := lift o fun r => .ok (r, ρ)
def tru (v : Env → Res (R × Env)) : Env → Res (Bool × Env) := fun ρ => bnd (v ρ) fun r ρ => lift (rd r ρ) fun t => lift (truthT t) fun b => .ok (b, ρ)
def vt (v : Env → Res (R × Env)) : (Env → Res (R × Env)) × (Env → Res (Bool × Env)) := (v, tru v)
def callR (f : Nat) (rs : List R) (ρ : Env) : Res (R × Env) :=
  lift (rds rs ρ) fun ts => match call f ts with
    | .ok r => if apartR r then .ok (r, ρ) else lift (escs rs ρ) fun ρ' => .ok (r, ρ')
    | .exc c => .exc c ρ
    | .stuck => .stuck
def movedS (i : Nat) (rs : List R) (ρ : Env) : Option Nat := match rs[i]? with
  | some (.slot s) => (match ρ[s]? with
    | some (.own (.lst _)) => if (rs.eraseIdx i).all (fun r => match r with | .slot u => u != s | _ => true) then some s else none
    | _ => none)
  | _ => none
def endM (x : CRes) (s : Nat) (ρ : Env) : Res (R × Env) := match x with
  | .ok (.tmp t) => if pureT t then .ok (.tmp t, ρ.set s .un) else .stuck
  | .exc c => .exc c (ρ.set s .un)
  | _ => .stuck
def callM (f i : Nat) (rs : List R) (ρ : Env) : Res (R × Env) :=
  lift (rds rs ρ) fun ts => lift (movedS i rs ρ) fun s => endM (call f ts) s ρ
def lcStep (tg : Tg) (vc : Env → Res (Bool × Env)) (ve : Env → Res (R × Env)) (t : T) (ρ : Env) : Res (Option T × Env) :=
  lift (put tg t (wipeE tg.slots ρ)) fun ρ => bnd (vc ρ) fun b ρ => if b then (bnd (ve ρ) fun r ρ => lift (esc r ρ) fun p => .ok (some p.1, p.2)) else .ok (none, ρ)
def isNonE : Ex → Bool
  | .non => true
  | _ => false
def part (no : Bool) (v : Env → Res (R × Env)) (ρ : Env) : Res (Option Int × Env) :=
  if no then .ok (none, ρ) else bnd (v ρ) fun r ρ => lift ((rd r ρ).bind partT) fun i => .ok (some i, ρ)
def m1Go (op : M1) (r ra : R) (ρ : Env) : Res (R × Env) := match op with
  | .append => lift (esc ra ρ) fun p => upOwn r p.2 (appT p.1)
  | .extend => lift (esc ra ρ) fun p => match p.1 with
    | .lst ys => upOwn r p.2 (extT ys)
    | _ => .stuck
  | .update => lift (esc ra ρ) fun p => upOwn r p.2 (updT p.1)
  | op => lift (rd r ρ) fun x => lift (rd ra ρ) fun y => fin (m1T op x y) ρ
def get2Go (x y z : T) (ρ : Env) : Res (R × Env) := match x with
  | .dct tk kvs => if keyT tk y && flatT z then .ok (.tmp ((getK kvs y).getD z), ρ) else .stuck
  | _ => .stuck
def revT : T → Option R
  | .tup ts => some (.tmp (.tup ts.reverse))
  | _ => none
mutual
def go : Ex → (Env → Res (R × Env)) × (Env → Res (Bool × Env))
  | .loc i => vt fun ρ => match ρ[i]? with
      | some (.val t) => .ok (.tmp t, ρ)
      | some (.own _) => .ok (.slot i, ρ)
      | _ => .stuck
  | .gl n => vt fun ρ => lift C[n]? fun t => .ok (.tmp t, ρ)
  | .int i => vt fun ρ => .ok (.tmp (.int i), ρ)
  | .str s => vt fun ρ => .ok (.tmp (.str s), ρ)
  | .bl b => vt fun ρ => .ok (.tmp (.bl b), ρ)
  | .non => vt fun ρ => .ok (.tmp .non, ρ)
  | .tup es => vt fun ρ => bnd ((goS es).1 ρ) fun ts ρ => .ok (.tmp (.tup ts), ρ)
  | .lst es => vt fun ρ => bnd ((goS es).1 ρ) fun ts ρ => .ok (.new (.lst ts), ρ)
  | .dnw tk => vt fun ρ => .ok (.new (.dct tk []), ρ)
  | .dlt kvs => vt fun ρ => .ok (.new (.dct true (kvs.map fun p => (.str p.1, p.2))), ρ)
  | .bin op a b => vt fun ρ => bnd ((go a).1 ρ) fun ra ρ => bnd ((go b).1 ρ) fun rb ρ => lift (rd ra ρ) fun x => lift (rd rb ρ) fun y => fin (binT op x y) ρ
  | .neg a => vt fun ρ => bnd ((go a).1 ρ) fun ra ρ => lift (rd ra ρ) fun x => match x with | .int i => .ok (.tmp (.int (-i)), ρ) | _ => .stuck
  | .nt a => (fun ρ => bnd (tru (go a).1 ρ) fun b ρ => .ok (.tmp (.bl (!b)), ρ), fun ρ => bnd ((go a).2 ρ) fun b ρ => .ok (!b, ρ))
  | .and2 a b => (fun ρ => bnd ((go a).1 ρ) fun ra ρ => lift (rd ra ρ) fun x => lift (truthT x) fun k => if k then (go b).1 ρ else .ok (ra, ρ),
      fun ρ => bnd ((go a).2 ρ) fun k ρ => if k then (go b).2 ρ else .ok (false, ρ))
  | .or2 a b => (fun ρ => bnd ((go a).1 ρ) fun ra ρ => lift (rd ra ρ) fun x => lift (truthT x) fun k => if k then .ok (ra, ρ) else (go b).1 ρ,
      fun ρ => bnd ((go a).2 ρ) fun k ρ => if k then .ok (true, ρ) else (go b).2 ρ)
  | .cmp op a b => vt fun ρ => bnd ((go a).1 ρ) fun ra ρ => bnd ((go b).1 ρ) fun rb ρ => lift (rd ra ρ) fun x => lift (rd rb ρ) fun y => lift (cmpT op x y) fun k => .ok (.tmp (.bl k), ρ)
  | .isn ng a => vt fun ρ => bnd ((go a).1 ρ) fun ra ρ => lift (rd ra ρ) fun x => .ok (.tmp (.bl (if ng then !isNonT x else isNonT x)), ρ)
  | .chn op op' a b c => vt fun ρ => bnd ((go a).1 ρ) fun ra ρ => bnd ((go b).1 ρ) fun rb ρ => lift (rd ra ρ) fun x => lift (rd rb ρ) fun y => lift (cmpT op x y) fun k =>
      if k then (bnd ((go c).1 ρ) fun rc ρ => lift (rd rb ρ) fun y => lift (rd rc ρ) fun z => lift (cmpT op' y z) fun k => .ok (.tmp (.bl k), ρ)) else .ok (.tmp (.bl false), ρ)
  | .ife c a b => vt fun ρ => bnd ((go c).2 ρ) fun k ρ => if k then (go a).1 ρ else (go b).1 ρ
  | .ix a b => vt fun ρ => bnd ((go a).1 ρ) fun ra ρ => bnd ((go b).1 ρ) fun rb ρ => lift (rd ra ρ) fun x => lift (rd rb ρ) fun y => lift (ixT x y) fun t => .ok (.tmp t, ρ)
  | .slc a lo hi => vt fun ρ => bnd ((go a).1 ρ) fun ra ρ => bnd (part (isNonE lo) (go lo).1 ρ) fun l ρ => bnd (part (isNonE hi) (go hi).1 ρ) fun h ρ => lift (rd ra ρ) fun x => fin (slcT x l h) ρ
  | .lc elt tg k ie c => vt fun ρ => bnd ((goS ie).1 ρ) fun ts ρ => lift (itemsT k ts) fun items =>
      if tg.slots.all (fun i => isVal ρ[i]?) && decide (items.length ≤ cap) then (bnd (noExc (lcGo (lcStep tg (go c).2 (go elt).1) items [] ρ)) fun acc ρ' => .ok (.new (.lst acc), backE tg.slots ρ ρ')) else .stuck
  | .call f es => vt fun ρ => bnd ((goS es).2 ρ) fun rs ρ => callR call f rs ρ
  | .callm f i es => vt fun ρ => bnd ((goS es).2 ρ) fun rs ρ => callM call f i rs ρ
  | .isi k a => vt fun ρ => bnd ((go a).1 ρ) fun ra ρ => lift (rd ra ρ) fun x => lift (isiT k x) fun b => .ok (.tmp (.bl b), ρ)
  | .b1 op a => vt fun ρ => bnd ((go a).1 ρ) fun ra ρ => lift (rd ra ρ) fun x => fin (b1T op x) ρ
  | .max2 a b => vt fun ρ => bnd ((go a).1 ρ) fun ra ρ => bnd ((go b).1 ρ) fun rb ρ => lift (rd ra ρ) fun x => lift (rd rb ρ) fun y => match x, y with | .int i, .int j => .ok (.tmp (.int (if j > i then j else i)), ρ) | _, _ => .stuck
  | .m0 op o => vt fun ρ => bnd ((go o).1 ρ) fun r ρ => match op with
      | .pop => upOwn r ρ popT
      | .clear => upOwn r ρ clearT
  | .m1 op o a => vt fun ρ => bnd ((go o).1 ρ) fun r ρ => lift (rd r ρ) fun x0 => if recv op x0 then (bnd ((go a).1 ρ) fun ra ρ => m1Go op r ra ρ) else .stuck
  | .get2 o a b => vt fun ρ => bnd ((go o).1 ρ) fun r ρ => lift (rd r ρ) fun x0 => if isDct x0 then (bnd ((go a).1 ρ) fun ra ρ => bnd ((go b).1 ρ) fun rb ρ => lift (rd r ρ) fun x => lift (rd ra ρ) fun y => lift (rd rb ρ) fun z => get2Go x y z ρ) else .stuck
  | .rev a => vt fun ρ => bnd ((go a).1 ρ) fun ra ρ => lift (rd ra ρ) fun x => fin (revT x) ρ
def goS : List Ex → (Env → Res (List T × Env)) × (Env → Res (List R × Env))
  | [] => (fun ρ => .ok ([], ρ), fun ρ => .ok ([], ρ))
  | e :: es => (fun ρ => bnd ((go e).1 ρ) fun r ρ => lift (esc r ρ) fun p => bnd ((goS es).1 p.2) fun ts ρ => .ok (p.1 :: ts, ρ),
      fun ρ => bnd ((go e).1 ρ) fun r ρ => bnd ((goS es).2 ρ) fun rs ρ => .ok (r :: rs, ρ))
end
def outR : R → Env → Option R
  | .tmp t, _ => some (.tmp t)
  | .new t, _ => some (.new t)
  | .slot i, ρ => match ρ[i]? with
    | some (.val t) => some (.tmp t)
    | some (.own t) => some (.new t)
    | _ => none
def forGo (step : T → Env → SRes) : List T → Env → SRes
  | [], ρ => .next ρ
  | t :: ts, ρ => match step t ρ with
    | .next ρ => forGo step ts ρ
    | r => r
def whlGo (c : Env → Res (Bool × Env)) (b : Env → SRes) : Nat → Env → SRes
  | 0, _ => .stuck
  | n + 1, ρ => match c ρ with
    | .ok (true, ρ) => (match b ρ with
      | .next ρ => whlGo c b n ρ
      | r => r)
    | .ok (false, ρ) => .next ρ
    | .exc k ρ => .exc k ρ
    | .stuck => .stuck
def sbnd {α : Type} (x : Res (α × Env)) (f : α → Env → SRes) : SRes :=
  match x with
  | .ok (a, ρ) => f a ρ
  | .exc c ρ => .exc c ρ
  | .stuck => .stuck
def slift {α : Type} (o : Option α) (f : α → SRes) : SRes :=
  match o with
  | some a => f a
  | none => .stuck
def setR (i : Nat) (r : R) (ρ : Env) : Option Env :=
  if i < ρ.length then match r with
    | .tmp t => some (ρ.set i (.val t))
    | .new t => some (ρ.set i (.own t))
    | .slot j => match ρ[j]? with
      | some (.val t) => some (ρ.set i (.val t))
      | some (.own t) => some ((ρ.set j (.val t)).set i (.val t))
      | _ => none
  else none
def ownR (r : R) (t : T) : Sl := match r with
  | .new t => .own t
  | _ => .val t
def refT : R → Env → Option T
  | .slot i, ρ => match ρ[i]? with
    | some (.own (.lst ts)) => if pureTs ts then some (.lst ts) else none
    | _ => none
  | .new (.lst ts), _ => if pureTs ts then some (.lst ts) else none
  | _, _ => none
def refOk : R → Nat → Bool
  | .slot i, j => i != j
  | _, _ => true
def refSet (r : R) (t : T) (ρ : Env) : Env := match r with
  | .slot i => ρ.set i (.own t)
  | _ => ρ
def calE (x : CRes) (rc : R) (j : Nat) (ρ : Env) : SRes := match x with
  | .ok (.tmp (.tup [.lst c, .lst d])) => if pureTs c && pureTs d then .next ((refSet rc (.lst c) ρ).set j (.own (.lst d))) else .stuck
  | _ => .stuck
def calGo (call : Nat → List T → CRes) (f : Nat) (ra rb rc : R) (j : Nat) (ρ : Env) : SRes := match ra, rb with
  | .tmp ta, .tmp tb => if !(pureT ta && pureT tb) then .stuck else slift (refT rc ρ) fun tc => slift (refT (.slot j) ρ) fun td => if refOk rc j then calE (call f [ta, tb, tc, td]) rc j ρ else .stuck
  | _, _ => .stuck
def noExcS : SRes → SRes
  | .exc _ _ => .stuck
  | r => r
variable (sub : Nat → Nat → Bool)
def whlFuel : Nat := 1000000
mutual
def ex1 : Stm → Env → SRes
  | .asg i e, ρ => sbnd ((go C call e).1 ρ) fun r ρ => slift (setR i r ρ) .next
  | .asgt is e, ρ => sbnd ((go C call e).1 ρ) fun r ρ => slift (esc r ρ) fun p => slift (put (.many is) p.1 p.2) .next
  | .par i j a b, ρ => sbnd ((go C call a).1 ρ) fun ra ρ => slift (esc ra ρ) fun p => sbnd ((go C call b).1 p.2) fun rb ρ => slift (esc rb ρ) fun q =>
      if i < q.2.length ∧ j < q.2.length ∧ i ≠ j then .next ((q.2.set j (if apartR ra then ownR rb q.1 else .val q.1)).set i (if apartR ra then ownR ra p.1 else .val p.1)) else .stuck
  | .sst i k e, ρ => sbnd ((go C call e).1 ρ) fun r ρ => slift (esc r ρ) fun p => if isOwn p.2[i]? then (sbnd ((go C call k).1 p.2) fun rk ρ => slift (rd rk ρ) fun kt =>
      sbnd (upOwn (.slot i) ρ (putT kt p.1)) fun _ ρ => .next ρ) else .stuck
  | .aug i e, ρ => match ρ[i]? with
    | some (.val (.int a)) => sbnd ((go C call e).1 ρ) fun r ρ => slift (rd r ρ) fun t => match t with
      | .int b => .next (ρ.set i (.val (.int (a + b))))
      | _ => .stuck
    | _ => .stuck
  | .exp e, ρ => sbnd ((go C call e).1 ρ) fun _ ρ => .next ρ
  | .cal f a b c j, ρ => sbnd ((go C call a).1 ρ) fun ra ρ => sbnd ((go C call b).1 ρ) fun rb ρ => sbnd ((go C call c).1 ρ) fun rc ρ => calGo call f ra rb rc j ρ
  | .ite c a b, ρ => sbnd ((go C call c).2 ρ) fun k ρ => if k then exs a ρ else exs b ρ
  | .whl c b, ρ => whlGo (go C call c).2 (exs b) whlFuel ρ
  | .for tg k ie b, ρ => sbnd ((goS C call ie).1 ρ) fun ts ρ => slift (itemsT k ts) fun items => forGo (fun t ρ => slift (put tg t ρ) fun ρ => exs b ρ) items ρ
  | .ret e, ρ => sbnd ((go C call e).1 ρ) fun r ρ => slift (outR r ρ) fun r => .ret r ρ
  | .rse c, ρ => .exc c ρ
  | .try b hs, ρ => match exs b ρ with
    | .exc c ρ => exh hs c ρ
    | r => r
  | .pss, ρ => .next ρ
def exs : List Stm → Env → SRes
  | [], ρ => .next ρ
  | s :: r, ρ => match ex1 s ρ with
    | .next ρ => exs r ρ
    | x => x
def exh : List (Nat × List Stm) → Nat → Env → SRes
  | [], c, ρ => .exc c ρ
  | (d, b) :: r, c, ρ => if sub c d then noExcS (exs b ρ) else exh r c ρ
end
end

inductive FD where
  | py (np ns : Nat) (mv : Option Nat) (body : List Stm)
  | pyr (ns : Nat) (body : List Stm)
  deriving Inhabited
structure Prg where
  C : List T
  fns : List FD
  sub : Nat → Nat → Bool
def initE (np ns : Nat) (mv : Option Nat) (ts : List T) : Env :=
  (ts.zipIdx.map fun p => if mv = some p.2 then Sl.own p.1 else Sl.val p.1) ++ List.replicate (ns - np) .un
def resOf : SRes → CRes
  | .next _ => .ok (.tmp .non)
  | .ret r _ => .ok r
  | .exc c _ => .exc c
  | .stuck => .stuck
def initR (ns : Nat) : List T → Env
  | [a, b, c, d] => .val a :: .val b :: .own c :: .own d :: List.replicate (ns - 4) .un
  | _ => []
def outs2 (ρ : Env) : CRes := match ρ[2]?, ρ[3]? with
  | some (Sl.own (T.lst c)), some (Sl.own (T.lst d)) => if pureTs c && pureTs d then .ok (.tmp (.tup [.lst c, .lst d])) else .stuck
  | _, _ => .stuck
def resR : SRes → CRes
  | .next ρ => outs2 ρ
  | .ret (.tmp .non) ρ => outs2 ρ
  | _ => .stuck
def callF (P : Prg) : Nat → Nat → List T → CRes
  | 0, _, _ => .stuck
  | k + 1, f, ts => match P.fns[f]? with
    | some (.py np ns mv body) => if ts.length = np then resOf (exs P.C (callF P k) P.sub body (initE np ns mv ts)) else .stuck
    | some (.pyr ns body) => if ts.length = 4 then resR (exs P.C (callF P k) P.sub body (initR ns ts)) else .stuck
    | none => .stuck
end Py
set_option Elab.async false
set_option linter.all false
set_option autoImplicit false
set_option maxRecDepth 100000
namespace Py
section
structure Ph {α : Type} (a : α) : Type where
def bndP {α β : Type} (x : Res (α × Env)) (f : α → Env → Res β) (d : Ph f := ⟨⟩) : Res β := bnd x f
def liftP {α β : Type} (x : Option α) (f : α → Res β) (d : Ph f := ⟨⟩) : Res β := lift x f
def sbndP {α : Type} (x : Res (α × Env)) (f : α → Env → SRes) (d : Ph f := ⟨⟩) : SRes := sbnd x f
def sliftP {α : Type} (x : Option α) (f : α → SRes) (d : Ph f := ⟨⟩) : SRes := slift x f
@[simp] theorem bnd_P {α β : Type} (x : Res (α × Env)) (f : α → Env → Res β) : bnd x f = bndP x f := (rfl)
@[simp] theorem lift_P {α β : Type} (x : Option α) (f : α → Res β) : lift x f = liftP x f := (rfl)
@[simp] theorem sbnd_P {α : Type} (x : Res (α × Env)) (f : α → Env → SRes) : sbnd x f = sbndP x f := (rfl)
@[simp] theorem slift_P {α : Type} (x : Option α) (f : α → SRes) : slift x f = sliftP x f := (rfl)
def sseq (x : SRes) (f : Env → SRes) (d : Ph f := ⟨⟩) : SRes := match x with
  | .next ρ => f ρ
  | x => x
variable {C : List T} {call : Nat → List T → CRes} {sub : Nat → Nat → Bool}
@[simp] theorem exs_nil (ρ : Env) : exs C call sub [] ρ = .next ρ := (rfl)
@[simp] theorem exs_cons (s : Stm) (r : List Stm) (ρ : Env) : exs C call sub (s :: r) ρ = sseq (ex1 C call sub s ρ) (exs C call sub r) := by
  simp only [exs, sseq]
  all_goals (split <;> simp_all)
@[simp] theorem sseq_next (ρ : Env) (f : Env → SRes) : sseq (.next ρ) f = f ρ := (rfl)
@[simp] theorem sseq_ret (r : R) (ρ : Env) (f : Env → SRes) : sseq (.ret r ρ) f = .ret r ρ := (rfl)
@[simp] theorem sseq_exc (c : Nat) (ρ : Env) (f : Env → SRes) : sseq (.exc c ρ) f = .exc c ρ := (rfl)
@[simp] theorem sseq_ite (p : Prop) [Decidable p] (x y : SRes) (f : Env → SRes) : sseq (if p then x else y) f = if p then sseq x f else sseq y f := by split <;> rfl
section
variable {α β : Type}
@[simp] theorem bnd_ok (a : α) (ρ : Env) (f : α → Env → Res β) : bndP (.ok (a, ρ)) f = f a ρ := (rfl)
@[simp] theorem bnd_exc (c : Nat) (ρ : Env) (f : α → Env → Res β) : bndP (.exc c ρ) f = .exc c ρ := (rfl)
@[simp] theorem sbnd_ok (a : α) (ρ : Env) (f : α → Env → SRes) : sbndP (.ok (a, ρ)) f = f a ρ := (rfl)
@[simp] theorem sbnd_exc (c : Nat) (ρ : Env) (f : α → Env → SRes) : sbndP (.exc c ρ) f = .exc c ρ := (rfl)
@[simp] theorem lift_some (a : α) (f : α → Res β) : liftP (some a) f = f a := (rfl)
@[simp] theorem slift_some (a : α) (f : α → SRes) : sliftP (some a) f = f a := (rfl)
@[simp] theorem bnd_ite (p : Prop) [Decidable p] (x y : Res (α × Env)) (f : α → Env → Res β) : bndP (if p then x else y) f = if p then bndP x f else bndP y f := by split <;> rfl
@[simp] theorem sbnd_ite (p : Prop) [Decidable p] (x y : Res (α × Env)) (f : α → Env → SRes) : sbndP (if p then x else y) f = if p then sbndP x f else sbndP y f := by split <;> rfl
end
variable {C : List T} {call : Nat → List T → CRes} {sub : Nat → Nat → Bool}
def slR : Option Sl → Nat → Env → Res (R × Env)
  | some (.val t), _, ρ => .ok (.tmp t, ρ)
  | some (.own _), i, ρ => .ok (.slot i, ρ)
  | _, _, _ => .stuck
@[simp] theorem slR_val (t : T) (i : Nat) (ρ : Env) : slR (some (.val t)) i ρ = .ok (.tmp t, ρ) := (rfl)
@[simp] theorem slR_own (t : T) (i : Nat) (ρ : Env) : slR (some (.own t)) i ρ = .ok (.slot i, ρ) := (rfl)
abbrev G1 (C : List T) (call : Nat → List T → CRes) (e : Ex) (ρ : Env) := (go C call e).1 ρ
@[simp] theorem g_loc (i : Nat) (ρ : Env) : (go C call (.loc i)).1 ρ = slR ρ[i]? i ρ := by
  simp only [go, vt]
  cases ρ[i]? with
  | none => rfl
  | some x => cases x <;> rfl
@[simp] theorem g_gl (n : Nat) (ρ : Env) : (go C call (.gl n)).1 ρ = liftP C[n]? fun t => .ok (.tmp t, ρ) := (rfl)
@[simp] theorem g_int (i : Int) (ρ : Env) : (go C call (.int i)).1 ρ = .ok (.tmp (.int i), ρ) := (rfl)
@[simp] theorem g_str (s : W) (ρ : Env) : (go C call (.str s)).1 ρ = .ok (.tmp (.str s), ρ) := (rfl)
@[simp] theorem g_bl (b : Bool) (ρ : Env) : (go C call (.bl b)).1 ρ = .ok (.tmp (.bl b), ρ) := (rfl)
@[simp] theorem g_non (ρ : Env) : (go C call .non).1 ρ = .ok (.tmp .non, ρ) := (rfl)
@[simp] theorem g_tup (es : List Ex) (ρ : Env) : (go C call (.tup es)).1 ρ = bndP ((goS C call es).1 ρ) fun ts ρ => .ok (.tmp (.tup ts), ρ) := by rw [go]; rfl
@[simp] theorem g_lst (es : List Ex) (ρ : Env) : (go C call (.lst es)).1 ρ = bndP ((goS C call es).1 ρ) fun ts ρ => .ok (.new (.lst ts), ρ) := by rw [go]; rfl
@[simp] theorem g_dnw (tk : Bool) (ρ : Env) : (go C call (.dnw tk)).1 ρ = .ok (.new (.dct tk []), ρ) := (rfl)
@[simp] theorem g_dlt (kvs : List (W × T)) (ρ : Env) : (go C call (.dlt kvs)).1 ρ = .ok (.new (.dct true (kvs.map fun p => (.str p.1, p.2))), ρ) := by rw [go]; rfl
@[simp] theorem g_bin (op : BOp) (a b : Ex) (ρ : Env) : (go C call (.bin op a b)).1 ρ = bndP ((go C call a).1 ρ) fun ra ρ => bndP ((go C call b).1 ρ) fun rb ρ => liftP (rd ra ρ) fun x => liftP (rd rb ρ) fun y => fin (binT op x y) ρ := by rw [go]; rfl
def negI : T → Env → Res (R × Env)
  | .int i, ρ => .ok (.tmp (.int (-i)), ρ)
  | _, _ => .stuck
@[simp] theorem negI_int (i : Int) (ρ : Env) : negI (.int i) ρ = .ok (.tmp (.int (-i)), ρ) := (rfl)
@[simp] theorem g_neg (a : Ex) (ρ : Env) : (go C call (.neg a)).1 ρ = bndP ((go C call a).1 ρ) fun ra ρ => liftP (rd ra ρ) fun x => negI x ρ := by
  rw [go]
  simp only [vt]
  congr
  funext ra ρ
  congr
  funext x
  cases x <;> rfl
@[simp] theorem g_nt (a : Ex) (ρ : Env) : (go C call (.nt a)).1 ρ = bndP (tru (go C call a).1 ρ) fun b ρ => .ok (.tmp (.bl (!b)), ρ) := by rw [go]; rfl
@[simp] theorem t_nt (a : Ex) (ρ : Env) : (go C call (.nt a)).2 ρ = bndP ((go C call a).2 ρ) fun b ρ => .ok (!b, ρ) := by rw [go]; rfl
@[simp] theorem g_and (a b : Ex) (ρ : Env) : (go C call (.and2 a b)).1 ρ = bndP ((go C call a).1 ρ) fun ra ρ => liftP (rd ra ρ) fun x => liftP (truthT x) fun k => if k then (go C call b).1 ρ else .ok (ra, ρ) := by rw [go]; rfl
@[simp] theorem t_and (a b : Ex) (ρ : Env) : (go C call (.and2 a b)).2 ρ = bndP ((go C call a).2 ρ) fun k ρ => if k then (go C call b).2 ρ else .ok (false, ρ) := by rw [go]; rfl
@[simp] theorem g_or (a b : Ex) (ρ : Env) : (go C call (.or2 a b)).1 ρ = bndP ((go C call a).1 ρ) fun ra ρ => liftP (rd ra ρ) fun x => liftP (truthT x) fun k => if k then .ok (ra, ρ) else (go C call b).1 ρ := by rw [go]; rfl
@[simp] theorem t_or (a b : Ex) (ρ : Env) : (go C call (.or2 a b)).2 ρ = bndP ((go C call a).2 ρ) fun k ρ => if k then .ok (true, ρ) else (go C call b).2 ρ := by rw [go]; rfl
@[simp] theorem g_cmp (op : COp) (a b : Ex) (ρ : Env) : (go C call (.cmp op a b)).1 ρ = bndP ((go C call a).1 ρ) fun ra ρ => bndP ((go C call b).1 ρ) fun rb ρ => liftP (rd ra ρ) fun x => liftP (rd rb ρ) fun y => liftP (cmpT op x y) fun k => .ok (.tmp (.bl k), ρ) := by rw [go]; rfl
@[simp] theorem g_isn (ng : Bool) (a : Ex) (ρ : Env) : (go C call (.isn ng a)).1 ρ = bndP ((go C call a).1 ρ) fun ra ρ => liftP (rd ra ρ) fun x => .ok (.tmp (.bl (if ng then !isNonT x else isNonT x)), ρ) := by rw [go]; rfl
@[simp] theorem g_chn (op op' : COp) (a b c : Ex) (ρ : Env) : (go C call (.chn op op' a b c)).1 ρ = bndP ((go C call a).1 ρ) fun ra ρ => bndP ((go C call b).1 ρ) fun rb ρ => liftP (rd ra ρ) fun x => liftP (rd rb ρ) fun y => liftP (cmpT op x y) fun k =>
      if k then (bndP ((go C call c).1 ρ) fun rc ρ => liftP (rd rb ρ) fun y => liftP (rd rc ρ) fun z => liftP (cmpT op' y z) fun k => .ok (.tmp (.bl k), ρ)) else .ok (.tmp (.bl false), ρ) := by rw [go]; rfl
@[simp] theorem g_ife (c a b : Ex) (ρ : Env) : (go C call (.ife c a b)).1 ρ = bndP ((go C call c).2 ρ) fun k ρ => if k then (go C call a).1 ρ else (go C call b).1 ρ := by rw [go]; rfl
@[simp] theorem g_ix (a b : Ex) (ρ : Env) : (go C call (.ix a b)).1 ρ = bndP ((go C call a).1 ρ) fun ra ρ => bndP ((go C call b).1 ρ) fun rb ρ => liftP (rd ra ρ) fun x => liftP (rd rb ρ) fun y => liftP (ixT x y) fun t => .ok (.tmp t, ρ) := by rw [go]; rfl
@[simp] theorem g_slc (a lo hi : Ex) (ρ : Env) : (go C call (.slc a lo hi)).1 ρ = bndP ((go C call a).1 ρ) fun ra ρ => bndP (part (isNonE lo) (go C call lo).1 ρ) fun l ρ => bndP (part (isNonE hi) (go C call hi).1 ρ) fun h ρ => liftP (rd ra ρ) fun x => fin (slcT x l h) ρ := by rw [go]; rfl
def lcR (items : List T) (tg : Tg) (vc : Env → Res (Bool × Env)) (ve : Env → Res (R × Env)) (ρ : Env) (d : Ph (vc, ve) := ⟨⟩) : Res (R × Env) :=
  if tg.slots.all (fun i => isVal ρ[i]?) && decide (items.length ≤ cap) then (bndP (noExc (lcGo (lcStep tg vc ve) items [] ρ)) fun acc ρ' => .ok (.new (.lst acc), backE tg.slots ρ ρ')) else .stuck
@[simp] theorem g_lc (elt : Ex) (tg : Tg) (k : It) (ie : List Ex) (c : Ex) (ρ : Env) : (go C call (.lc elt tg k ie c)).1 ρ = bndP ((goS C call ie).1 ρ) fun ts ρ => liftP (itemsT k ts) fun items => lcR items tg (go C call c).2 (go C call elt).1 ρ := by rw [go]; rfl
@[simp] theorem g_call (f : Nat) (es : List Ex) (ρ : Env) : (go C call (.call f es)).1 ρ = bndP ((goS C call es).2 ρ) fun rs ρ => callR call f rs ρ := by rw [go]; rfl
def movS (x : Option Nat) (y : CRes) (ρ : Env) : Res (R × Env) := match x with
  | some s => endM y s ρ
  | none => .stuck
@[simp] theorem movS_some (s : Nat) (y : CRes) (ρ : Env) : movS (some s) y ρ = endM y s ρ := (rfl)
@[simp] theorem g_callm (f i : Nat) (es : List Ex) (ρ : Env) : (go C call (.callm f i es)).1 ρ = bndP ((goS C call es).2 ρ) fun rs ρ => liftP (rds rs ρ) fun ts => movS (movedS i rs ρ) (call f ts) ρ := by
  rw [go]
  simp only [vt]
  show bnd _ _ = bnd _ _
  congr
  funext rs ρ
  show callM call f i rs ρ = lift _ _
  unfold callM
  congr
  funext ts
  cases movedS i rs ρ <;> rfl
@[simp] theorem endM_ok (t : T) (s : Nat) (ρ : Env) : endM (.ok (.tmp t)) s ρ = if pureT t then .ok (.tmp t, ρ.set s .un) else .stuck := (rfl)
@[simp] theorem g_isi (k : Ty) (a : Ex) (ρ : Env) : (go C call (.isi k a)).1 ρ = bndP ((go C call a).1 ρ) fun ra ρ => liftP (rd ra ρ) fun x => liftP (isiT k x) fun b => .ok (.tmp (.bl b), ρ) := by rw [go]; rfl
@[simp] theorem g_b1 (op : B1) (a : Ex) (ρ : Env) : (go C call (.b1 op a)).1 ρ = bndP ((go C call a).1 ρ) fun ra ρ => liftP (rd ra ρ) fun x => fin (b1T op x) ρ := by rw [go]; rfl
def maxI : T → T → Env → Res (R × Env)
  | .int i, .int j, ρ => .ok (.tmp (.int (if j > i then j else i)), ρ)
  | _, _, _ => .stuck
@[simp] theorem maxI_int (i j : Int) (ρ : Env) : maxI (.int i) (.int j) ρ = .ok (.tmp (.int (if j > i then j else i)), ρ) := (rfl)
@[simp] theorem g_max2 (a b : Ex) (ρ : Env) : (go C call (.max2 a b)).1 ρ = bndP ((go C call a).1 ρ) fun ra ρ => bndP ((go C call b).1 ρ) fun rb ρ => liftP (rd ra ρ) fun x => liftP (rd rb ρ) fun y => maxI x y ρ := by
  rw [go]
  simp only [vt]
  congr
  funext ra ρ
  congr
  funext rb ρ
  congr
  funext x
  congr
  funext y
  cases x <;> cases y <;> rfl
def m0Go (op : M0) (r : R) (ρ : Env) : Res (R × Env) := match op with
  | .pop => upOwn r ρ popT
  | .clear => upOwn r ρ clearT
@[simp] theorem m0_pop (r : R) (ρ : Env) : m0Go .pop r ρ = upOwn r ρ popT := (rfl)
@[simp] theorem m0_clear (r : R) (ρ : Env) : m0Go .clear r ρ = upOwn r ρ clearT := (rfl)
@[simp] theorem g_m0 (op : M0) (o : Ex) (ρ : Env) : (go C call (.m0 op o)).1 ρ = bndP ((go C call o).1 ρ) fun r ρ => m0Go op r ρ := by rw [go]; rfl
@[simp] theorem g_m1 (op : M1) (o a : Ex) (ρ : Env) : (go C call (.m1 op o a)).1 ρ = bndP ((go C call o).1 ρ) fun r ρ => liftP (rd r ρ) fun x0 => if recv op x0 then (bndP ((go C call a).1 ρ) fun ra ρ => m1Go op r ra ρ) else .stuck := by rw [go]; rfl
@[simp] theorem g_get2 (o a b : Ex) (ρ : Env) : (go C call (.get2 o a b)).1 ρ = bndP ((go C call o).1 ρ) fun r ρ => liftP (rd r ρ) fun x0 => if isDct x0 then (bndP ((go C call a).1 ρ) fun ra ρ => bndP ((go C call b).1 ρ) fun rb ρ => liftP (rd r ρ) fun x => liftP (rd ra ρ) fun y => liftP (rd rb ρ) fun z => get2Go x y z ρ) else .stuck := by rw [go]; rfl
@[simp] theorem g_rev (a : Ex) (ρ : Env) : (go C call (.rev a)).1 ρ = bndP ((go C call a).1 ρ) fun ra ρ => liftP (rd ra ρ) fun x => fin (revT x) ρ := by rw [go]; rfl
@[simp] theorem rev_tup (ts : List T) : revT (.tup ts) = some (.tmp (.tup ts.reverse)) := (rfl)
def plainX : Ex → Bool
  | .nt _ => false
  | .and2 _ _ => false
  | .or2 _ _ => false
  | _ => true
theorem go2_plain (e : Ex) (h : plainX e = true) : (go C call e).2 = tru (go C call e).1 := by
  cases e <;> first | (simp [plainX] at h; done) | (simp only [go, vt])
@[simp] theorem t_loc (i : Nat) (ρ : Env) : (go C call (.loc i)).2 ρ = tru (go C call (.loc i)).1 ρ := (rfl)
@[simp] theorem t_gl (i : Nat) (ρ : Env) : (go C call (.gl i)).2 ρ = tru (go C call (.gl i)).1 ρ := (rfl)
@[simp] theorem t_int (i : Int) (ρ : Env) : (go C call (.int i)).2 ρ = tru (go C call (.int i)).1 ρ := (rfl)
@[simp] theorem t_bl (b : Bool) (ρ : Env) : (go C call (.bl b)).2 ρ = .ok (b, ρ) := (rfl)
@[simp] theorem t_cmp (op : COp) (a b : Ex) (ρ : Env) : (go C call (.cmp op a b)).2 ρ = tru (go C call (.cmp op a b)).1 ρ := by rw [go2_plain _ rfl]
@[simp] theorem t_isn (ng : Bool) (a : Ex) (ρ : Env) : (go C call (.isn ng a)).2 ρ = tru (go C call (.isn ng a)).1 ρ := by rw [go2_plain _ rfl]
@[simp] theorem t_chn (op op' : COp) (a b c : Ex) (ρ : Env) : (go C call (.chn op op' a b c)).2 ρ = tru (go C call (.chn op op' a b c)).1 ρ := by rw [go2_plain _ rfl]
@[simp] theorem t_ife (a b c : Ex) (ρ : Env) : (go C call (.ife a b c)).2 ρ = tru (go C call (.ife a b c)).1 ρ := by rw [go2_plain _ rfl]
@[simp] theorem t_ix (a b : Ex) (ρ : Env) : (go C call (.ix a b)).2 ρ = tru (go C call (.ix a b)).1 ρ := by rw [go2_plain _ rfl]
@[simp] theorem t_slc (a b c : Ex) (ρ : Env) : (go C call (.slc a b c)).2 ρ = tru (go C call (.slc a b c)).1 ρ := by rw [go2_plain _ rfl]
@[simp] theorem t_lc (elt : Ex) (tg : Tg) (k : It) (ie : List Ex) (c : Ex) (ρ : Env) : (go C call (.lc elt tg k ie c)).2 ρ = tru (go C call (.lc elt tg k ie c)).1 ρ := by rw [go2_plain _ rfl]
@[simp] theorem t_call (f : Nat) (es : List Ex) (ρ : Env) : (go C call (.call f es)).2 ρ = tru (go C call (.call f es)).1 ρ := by rw [go2_plain _ rfl]
@[simp] theorem t_isi (k : Ty) (a : Ex) (ρ : Env) : (go C call (.isi k a)).2 ρ = tru (go C call (.isi k a)).1 ρ := by rw [go2_plain _ rfl]
@[simp] theorem t_b1 (k : B1) (a : Ex) (ρ : Env) : (go C call (.b1 k a)).2 ρ = tru (go C call (.b1 k a)).1 ρ := by rw [go2_plain _ rfl]
@[simp] theorem t_bin (k : BOp) (a b : Ex) (ρ : Env) : (go C call (.bin k a b)).2 ρ = tru (go C call (.bin k a b)).1 ρ := by rw [go2_plain _ rfl]
@[simp] theorem t_m1 (op : M1) (o a : Ex) (ρ : Env) : (go C call (.m1 op o a)).2 ρ = tru (go C call (.m1 op o a)).1 ρ := by rw [go2_plain _ rfl]
@[simp] theorem s_nil (ρ : Env) : (goS C call []).1 ρ = .ok ([], ρ) := (rfl)
@[simp] theorem s2_nil (ρ : Env) : (goS C call []).2 ρ = .ok ([], ρ) := (rfl)
@[simp] theorem s_cons (e : Ex) (es : List Ex) (ρ : Env) : (goS C call (e :: es)).1 ρ = bndP ((go C call e).1 ρ) fun r ρ => liftP (esc r ρ) fun p => bndP ((goS C call es).1 p.2) fun ts ρ => .ok (p.1 :: ts, ρ) := by rw [goS]; rfl
@[simp] theorem s2_cons (e : Ex) (es : List Ex) (ρ : Env) : (goS C call (e :: es)).2 ρ = bndP ((go C call e).1 ρ) fun r ρ => bndP ((goS C call es).2 ρ) fun rs ρ => .ok (r :: rs, ρ) := by rw [goS]; rfl
@[simp] theorem tru_def (v : Env → Res (R × Env)) (ρ : Env) : tru v ρ = bndP (v ρ) fun r ρ => liftP (rd r ρ) fun t => liftP (truthT t) fun b => .ok (b, ρ) := (rfl)
@[simp] theorem fin_def (o : Option R) (ρ : Env) : fin o ρ = liftP o fun r => .ok (r, ρ) := (rfl)
@[simp] theorem rd_tmp (t : T) (ρ : Env) : rd (.tmp t) ρ = some t := (rfl)
@[simp] theorem rd_new (t : T) (ρ : Env) : rd (.new t) ρ = some t := (rfl)
def slV : Option Sl → Option T
  | some (.val t) => some t
  | some (.own t) => some t
  | _ => none
@[simp] theorem slV_val (t : T) : slV (some (.val t)) = some t := (rfl)
@[simp] theorem slV_own (t : T) : slV (some (.own t)) = some t := (rfl)
@[simp] theorem rd_slot (i : Nat) (ρ : Env) : rd (.slot i) ρ = slV ρ[i]? := by
  simp only [rd, slV]
  all_goals (split <;> simp_all)
def slE : Option Sl → Nat → Env → Option (T × Env)
  | some (.val t), _, ρ => some (t, ρ)
  | some (.own t), i, ρ => some (t, ρ.set i (.val t))
  | _, _, _ => none
@[simp] theorem slE_val (t : T) (i : Nat) (ρ : Env) : slE (some (.val t)) i ρ = some (t, ρ) := (rfl)
@[simp] theorem slE_own (t : T) (i : Nat) (ρ : Env) : slE (some (.own t)) i ρ = some (t, ρ.set i (.val t)) := (rfl)
@[simp] theorem esc_tmp (t : T) (ρ : Env) : esc (.tmp t) ρ = some (t, ρ) := (rfl)
@[simp] theorem esc_new (t : T) (ρ : Env) : esc (.new t) ρ = some (t, ρ) := (rfl)
@[simp] theorem esc_slot (i : Nat) (ρ : Env) : esc (.slot i) ρ = slE ρ[i]? i ρ := by
  simp only [esc, slE]
  all_goals (split <;> simp_all)
@[simp] theorem rds_nil (ρ : Env) : rds [] ρ = some [] := (rfl)
@[simp] theorem rds_cons (r : R) (rs : List R) (ρ : Env) : rds (r :: rs) ρ = (rd r ρ).bind fun t => (rds rs ρ).map (t :: ·) := (rfl)
@[simp] theorem escs_nil (ρ : Env) : escs [] ρ = some ρ := (rfl)
@[simp] theorem escs_cons (r : R) (rs : List R) (ρ : Env) : escs (r :: rs) ρ = (esc r ρ).bind fun p => escs rs p.2 := (rfl)
def callE (x : CRes) (rs : List R) (ρ : Env) : Res (R × Env) := match x with
  | .ok r => if apartR r then .ok (r, ρ) else liftP (escs rs ρ) fun ρ' => .ok (r, ρ')
  | .exc c => .exc c ρ
  | .stuck => .stuck
@[simp] theorem callE_ok (r : R) (rs : List R) (ρ : Env) : callE (.ok r) rs ρ = if apartR r then .ok (r, ρ) else liftP (escs rs ρ) fun ρ' => .ok (r, ρ') := (rfl)
@[simp] theorem callE_exc (c : Nat) (rs : List R) (ρ : Env) : callE (.exc c) rs ρ = .exc c ρ := (rfl)
@[simp] theorem callE_ite (p : Prop) [Decidable p] (x y : CRes) (rs : List R) (ρ : Env) : callE (if p then x else y) rs ρ = if p then callE x rs ρ else callE y rs ρ := by split <;> rfl
@[simp] theorem callR_def (f : Nat) (rs : List R) (ρ : Env) : callR call f rs ρ = liftP (rds rs ρ) fun ts => callE (call f ts) rs ρ := (rfl)
@[simp] theorem x_asg (i : Nat) (e : Ex) (ρ : Env) : ex1 C call sub (.asg i e) ρ = sbndP ((go C call e).1 ρ) fun r ρ => sliftP (setR i r ρ) .next := by rw [ex1]; rfl
@[simp] theorem x_asgt (is : List Nat) (e : Ex) (ρ : Env) : ex1 C call sub (.asgt is e) ρ = sbndP ((go C call e).1 ρ) fun r ρ => sliftP (esc r ρ) fun p => sliftP (put (.many is) p.1 p.2) .next := by rw [ex1]; rfl
@[simp] theorem x_par (i j : Nat) (a b : Ex) (ρ : Env) : ex1 C call sub (.par i j a b) ρ = sbndP ((go C call a).1 ρ) fun ra ρ => sliftP (esc ra ρ) fun p => sbndP ((go C call b).1 p.2) fun rb ρ => sliftP (esc rb ρ) fun q =>
      if i < q.2.length ∧ j < q.2.length ∧ i ≠ j then .next ((q.2.set j (if apartR ra then ownR rb q.1 else .val q.1)).set i (if apartR ra then ownR ra p.1 else .val p.1)) else .stuck := by rw [ex1]; rfl
@[simp] theorem x_sst (i : Nat) (k e : Ex) (ρ : Env) : ex1 C call sub (.sst i k e) ρ = sbndP ((go C call e).1 ρ) fun r ρ => sliftP (esc r ρ) fun p => if isOwn p.2[i]? then (sbndP ((go C call k).1 p.2) fun rk ρ => sliftP (rd rk ρ) fun kt =>
      sbndP (upOwn (.slot i) ρ (putT kt p.1)) fun _ ρ => .next ρ) else .stuck := by rw [ex1]; rfl
def augG (i : Nat) (v : Env → Res (R × Env)) (ρ : Env) : Option Sl → SRes
  | some (.val (.int a)) => sbndP (v ρ) fun r ρ => sliftP (rd r ρ) fun t => match t with
      | .int b => .next (ρ.set i (.val (.int (a + b))))
      | _ => .stuck
  | _ => .stuck
def augI (i : Nat) (a : Int) (ρ : Env) : T → SRes
  | .int b => .next (ρ.set i (.val (.int (a + b))))
  | _ => .stuck
@[simp] theorem augI_int (i : Nat) (a b : Int) (ρ : Env) : augI i a ρ (.int b) = .next (ρ.set i (.val (.int (a + b)))) := (rfl)
@[simp] theorem augG_int (i : Nat) (v : Env → Res (R × Env)) (ρ : Env) (a : Int) : augG i v ρ (some (.val (.int a))) = sbndP (v ρ) fun r ρ => sliftP (rd r ρ) fun t => augI i a ρ t := by
  simp only [augG]
  congr
@[simp] theorem x_aug (i : Nat) (e : Ex) (ρ : Env) : ex1 C call sub (.aug i e) ρ = augG i (go C call e).1 ρ ρ[i]? := by
  simp only [ex1]
  cases ρ[i]? with
  | none => rfl
  | some x => cases x with
    | val t => cases t <;> rfl
    | own t => rfl
    | un => rfl
@[simp] theorem x_exp (e : Ex) (ρ : Env) : ex1 C call sub (.exp e) ρ = sbndP ((go C call e).1 ρ) fun _ ρ => .next ρ := by rw [ex1]; rfl
@[simp] theorem x_cal (f : Nat) (a b c : Ex) (j : Nat) (ρ : Env) : ex1 C call sub (.cal f a b c j) ρ = sbndP ((go C call a).1 ρ) fun ra ρ => sbndP ((go C call b).1 ρ) fun rb ρ => sbndP ((go C call c).1 ρ) fun rc ρ => calGo call f ra rb rc j ρ := by rw [ex1]; rfl
@[simp] theorem x_ite (c : Ex) (a b : List Stm) (ρ : Env) : ex1 C call sub (.ite c a b) ρ = sbndP ((go C call c).2 ρ) fun k ρ => if k then exs C call sub a ρ else exs C call sub b ρ := by rw [ex1]; rfl
@[simp] theorem x_ret (e : Ex) (ρ : Env) : ex1 C call sub (.ret e) ρ = sbndP ((go C call e).1 ρ) fun r ρ => sliftP (outR r ρ) fun r => .ret r ρ := by rw [ex1]; rfl
@[simp] theorem x_rse (c : Nat) (ρ : Env) : ex1 C call sub (.rse c) ρ = .exc c ρ := by rw [ex1]
@[simp] theorem x_pss (ρ : Env) : ex1 C call sub .pss ρ = .next ρ := by rw [ex1]
def forR (items : List T) (tg : Tg) (b : Env → SRes) (ρ : Env) (d : Ph b := ⟨⟩) : SRes := forGo (fun t ρ => sliftP (put tg t ρ) fun ρ => b ρ) items ρ
@[simp] theorem x_for (tg : Tg) (k : It) (ie : List Ex) (b : List Stm) (ρ : Env) : ex1 C call sub (.for tg k ie b) ρ = sbndP ((goS C call ie).1 ρ) fun ts ρ => sliftP (itemsT k ts) fun items => forR items tg (exs C call sub b) ρ := by rw [ex1]; rfl
@[simp] theorem forR_nil (tg : Tg) (b : Env → SRes) (ρ : Env) : forR [] tg b ρ = .next ρ := (rfl)
theorem forR_cons (t : T) (ts : List T) (tg : Tg) (b : Env → SRes) (ρ : Env) : forR (t :: ts) tg b ρ = sseq (sliftP (put tg t ρ) b) (forR ts tg b) := by
  simp only [forR, forGo, sseq]
  all_goals (split <;> simp_all)
def whlR (c : Ex) (b : List Stm) (C : List T) (call : Nat → List T → CRes) (sub : Nat → Nat → Bool) (n : Nat) (ρ : Env) : SRes := whlGo (go C call c).2 (exs C call sub b) n ρ
@[simp] theorem x_whl (c : Ex) (b : List Stm) (ρ : Env) : ex1 C call sub (.whl c b) ρ = whlR c b C call sub whlFuel ρ := by rw [ex1]; rfl
def tryR (x : SRes) (h : Nat → Env → SRes) (d : Ph h := ⟨⟩) : SRes := match x with
  | .exc c ρ => h c ρ
  | r => r
@[simp] theorem tryR_next (ρ : Env) (h : Nat → Env → SRes) : tryR (.next ρ) h = .next ρ := (rfl)
@[simp] theorem tryR_ret (r : R) (ρ : Env) (h : Nat → Env → SRes) : tryR (.ret r ρ) h = .ret r ρ := (rfl)
@[simp] theorem tryR_exc (c : Nat) (ρ : Env) (h : Nat → Env → SRes) : tryR (.exc c ρ) h = h c ρ := (rfl)
@[simp] theorem x_try (b : List Stm) (hs : List (Nat × List Stm)) (ρ : Env) : ex1 C call sub (.try b hs) ρ = tryR (exs C call sub b ρ) (exh C call sub hs) := by
  rw [ex1]
  all_goals (cases exs C call sub b ρ <;> rfl)
@[simp] theorem exh_nil (c : Nat) (ρ : Env) : exh C call sub [] c ρ = .exc c ρ := by rw [exh]
@[simp] theorem exh_cons (d : Nat) (b : List Stm) (r : List (Nat × List Stm)) (c : Nat) (ρ : Env) : exh C call sub ((d, b) :: r) c ρ = if sub c d then noExcS (exs C call sub b ρ) else exh C call sub r c ρ := by rw [exh]
@[simp] theorem noExcS_next (ρ : Env) : noExcS (.next ρ) = .next ρ := (rfl)
@[simp] theorem noExcS_ret (r : R) (ρ : Env) : noExcS (.ret r ρ) = .ret r ρ := (rfl)
@[simp] theorem resOf_next (ρ : Env) : resOf (.next ρ) = .ok (.tmp .non) := (rfl)
@[simp] theorem resOf_ret (r : R) (ρ : Env) : resOf (.ret r ρ) = .ok r := (rfl)
@[simp] theorem resOf_exc (c : Nat) (ρ : Env) : resOf (.exc c ρ) = .exc c := (rfl)
@[simp] theorem resOf_ite (p : Prop) [Decidable p] (x y : SRes) : resOf (if p then x else y) = if p then resOf x else resOf y := by split <;> rfl
@[simp] theorem outR_tmp (t : T) (ρ : Env) : outR (.tmp t) ρ = some (.tmp t) := (rfl)
@[simp] theorem outR_new (t : T) (ρ : Env) : outR (.new t) ρ = some (.new t) := (rfl)
def slO : Option Sl → Option R
  | some (.val t) => some (.tmp t)
  | some (.own t) => some (.new t)
  | _ => none
@[simp] theorem slO_val (t : T) : slO (some (.val t)) = some (.tmp t) := (rfl)
@[simp] theorem slO_own (t : T) : slO (some (.own t)) = some (.new t) := (rfl)
@[simp] theorem outR_slot (i : Nat) (ρ : Env) : outR (.slot i) ρ = slO ρ[i]? := by
  simp only [outR, slO]
  all_goals (split <;> simp_all)
def slS : Option Sl → Nat → Nat → Env → Option Env
  | some (.val t), _, i, ρ => some (ρ.set i (.val t))
  | some (.own t), j, i, ρ => some ((ρ.set j (.val t)).set i (.val t))
  | _, _, _, _ => none
@[simp] theorem slS_val (t : T) (j i : Nat) (ρ : Env) : slS (some (.val t)) j i ρ = some (ρ.set i (.val t)) := (rfl)
@[simp] theorem slS_own (t : T) (j i : Nat) (ρ : Env) : slS (some (.own t)) j i ρ = some ((ρ.set j (.val t)).set i (.val t)) := (rfl)
@[simp] theorem setR_tmp (i : Nat) (t : T) (ρ : Env) : setR i (.tmp t) ρ = if i < ρ.length then some (ρ.set i (.val t)) else none := (rfl)
@[simp] theorem setR_new (i : Nat) (t : T) (ρ : Env) : setR i (.new t) ρ = if i < ρ.length then some (ρ.set i (.own t)) else none := (rfl)
@[simp] theorem setR_slot (i j : Nat) (ρ : Env) : setR i (.slot j) ρ = if i < ρ.length then slS ρ[j]? j i ρ else none := by
  simp only [setR, slS]
  split
  · split <;> simp_all
  · rfl
@[simp] theorem ownR_new (u t : T) : ownR (.new u) t = .own u := (rfl)
@[simp] theorem ownR_tmp (u t : T) : ownR (.tmp u) t = .val t := (rfl)
@[simp] theorem ownR_slot (i : Nat) (t : T) : ownR (.slot i) t = .val t := (rfl)
@[simp] theorem put_one (i : Nat) (t : T) (ρ : Env) : put (.one i) t ρ = if i < ρ.length then some (ρ.set i (.val t)) else none := (rfl)
@[simp] theorem put_many (is : List Nat) (ts : List T) (ρ : Env) : put (.many is) (.tup ts) ρ = if is.length = ts.length ∧ is.all (· < ρ.length) then some ((is.zip ts).foldl (fun ρ p => ρ.set p.1 (.val p.2)) ρ) else none := (rfl)
@[simp] theorem slots_one (i : Nat) : (Tg.one i).slots = [i] := (rfl)
@[simp] theorem slots_many (is : List Nat) : (Tg.many is).slots = is := (rfl)
@[simp] theorem it_lst (ts : List T) : itemsT .seq [.lst ts] = some ts := (rfl)
@[simp] theorem it_tup (ts : List T) : itemsT .seq [.tup ts] = some ts := (rfl)
@[simp] theorem it_str (s : W) : itemsT .seq [.str s] = some (s.map fun c => T.str [c]) := (rfl)
@[simp] theorem it_enm (ts : List T) : itemsT .enm [.lst ts] = some (enumT ts) := (rfl)
@[simp] theorem it_rng1 (b : Int) : itemsT .rng1 [.int b] = if decide (-1000000 ≤ b) && decide (b ≤ 1000000) then some (rangeT 0 b) else none := (rfl)
@[simp] theorem it_rng2 (a b : Int) : itemsT .rng2 [.int a, .int b] = if decide (-1000000 ≤ a) && decide (a ≤ 1000000) && decide (-1000000 ≤ b) && decide (b ≤ 1000000) then some (rangeT a b) else none := (rfl)
def slU (i : Nat) (f : T → Option (T × R)) (ρ : Env) : Option Sl → Res (R × Env)
  | some (.own t) => liftP (f t) fun p => .ok (p.2, ρ.set i (.own p.1))
  | _ => .stuck
@[simp] theorem slU_own (i : Nat) (f : T → Option (T × R)) (ρ : Env) (t : T) : slU i f ρ (some (.own t)) = liftP (f t) fun p => .ok (p.2, ρ.set i (.own p.1)) := (rfl)
@[simp] theorem upOwn_slot (i : Nat) (ρ : Env) (f : T → Option (T × R)) : upOwn (.slot i) ρ f = slU i f ρ ρ[i]? := by
  simp only [upOwn, slU]
  all_goals (split <;> simp_all)
@[simp] theorem isOwn_own (t : T) : isOwn (some (.own t)) = true := (rfl)
@[simp] theorem isOwn_val (t : T) : isOwn (some (.val t)) = false := (rfl)
@[simp] theorem isVal_own (t : T) : isVal (some (.own t)) = false := (rfl)
@[simp] theorem isVal_val (t : T) : isVal (some (.val t)) = true := (rfl)
@[simp] theorem isVal_un : isVal (some .un) = true := (rfl)
@[simp] theorem part_no (v : Env → Res (R × Env)) (ρ : Env) : part true v ρ = .ok (none, ρ) := (rfl)
@[simp] theorem part_yes (v : Env → Res (R × Env)) (ρ : Env) : part false v ρ = bndP (v ρ) fun r ρ => liftP ((rd r ρ).bind partT) fun i => .ok (some i, ρ) := (rfl)
@[simp] theorem partT_int (i : Int) : partT (.int i) = some i := (rfl)
@[simp] theorem isNonE_non : isNonE .non = true := (rfl)
@[simp] theorem isNonE_int (i : Int) : isNonE (.int i) = false := (rfl)
@[simp] theorem isNonE_loc (i : Nat) : isNonE (.loc i) = false := (rfl)
@[simp] theorem isNonE_neg (i : Ex) : isNonE (.neg i) = false := (rfl)
@[simp] theorem isNonE_bin (o : BOp) (a b : Ex) : isNonE (.bin o a b) = false := (rfl)
@[simp] theorem appT_lst (y : T) (ts : List T) : appT y (.lst ts) = if ts.length < cap then some (.lst (ts ++ [y]), .tmp .non) else none := (rfl)
@[simp] theorem extT_lst (ys ts : List T) : extT ys (.lst ts) = if ts.length + ys.length ≤ cap then some (.lst (ts ++ ys), .tmp .non) else none := (rfl)
@[simp] theorem m1_append (r ra : R) (ρ : Env) : m1Go .append r ra ρ = liftP (esc ra ρ) fun p => upOwn r p.2 (appT p.1) := (rfl)
def extG (r : R) (ρ : Env) : T → Res (R × Env)
  | .lst ys => upOwn r ρ (extT ys)
  | _ => .stuck
@[simp] theorem extG_lst (r : R) (ρ : Env) (ys : List T) : extG r ρ (.lst ys) = upOwn r ρ (extT ys) := (rfl)
@[simp] theorem m1_extend (r ra : R) (ρ : Env) : m1Go .extend r ra ρ = liftP (esc ra ρ) fun p => extG r p.2 p.1 := by
  simp only [m1Go]
  congr
@[simp] theorem m1_update (r ra : R) (ρ : Env) : m1Go .update r ra ρ = liftP (esc ra ρ) fun p => upOwn r p.2 (updT p.1) := (rfl)
@[simp] theorem m1_get1 (r ra : R) (ρ : Env) : m1Go .get1 r ra ρ = liftP (rd r ρ) fun x => liftP (rd ra ρ) fun y => fin (m1T .get1 x y) ρ := (rfl)
@[simp] theorem m1_join (r ra : R) (ρ : Env) : m1Go .join r ra ρ = liftP (rd r ρ) fun x => liftP (rd ra ρ) fun y => fin (m1T .join x y) ρ := (rfl)
@[simp] theorem m1_split (r ra : R) (ρ : Env) : m1Go .split r ra ρ = liftP (rd r ρ) fun x => liftP (rd ra ρ) fun y => fin (m1T .split x y) ρ := (rfl)
@[simp] theorem m1_sw (r ra : R) (ρ : Env) : m1Go .startswith r ra ρ = liftP (rd r ρ) fun x => liftP (rd ra ρ) fun y => fin (m1T .startswith x y) ρ := (rfl)
@[simp] theorem m1_index (r ra : R) (ρ : Env) : m1Go .index r ra ρ = liftP (rd r ρ) fun x => liftP (rd ra ρ) fun y => fin (m1T .index x y) ρ := (rfl)
@[simp] theorem get2_dct (tk : Bool) (kvs : List (T × T)) (y z : T) (ρ : Env) : get2Go (.dct tk kvs) y z ρ = if keyT tk y && flatT z then .ok (.tmp ((getK kvs y).getD z), ρ) else .stuck := (rfl)
end
@[simp] theorem tr_non : truthT .non = some false := (rfl)
@[simp] theorem tr_bl (b : Bool) : truthT (.bl b) = some b := (rfl)
@[simp] theorem tr_int (i : Int) : truthT (.int i) = some (i != 0) := (rfl)
@[simp] theorem tr_str (s : W) : truthT (.str s) = if s.length ≤ cap then some (!s.isEmpty) else none := (rfl)
@[simp] theorem tr_tup (ts : List T) : truthT (.tup ts) = some (!ts.isEmpty) := (rfl)
@[simp] theorem tr_lst (ts : List T) : truthT (.lst ts) = some (!ts.isEmpty) := (rfl)
@[simp] theorem isN_non : isNonT .non = true := (rfl)
@[simp] theorem isN_tup (ts : List T) : isNonT (.tup ts) = false := (rfl)
@[simp] theorem isN_str (ts : W) : isNonT (.str ts) = false := (rfl)
@[simp] theorem isN_int (ts : Int) : isNonT (.int ts) = false := (rfl)
@[simp] theorem isN_bl (ts : Bool) : isNonT (.bl ts) = false := (rfl)
@[simp] theorem isN_lst (ts : List T) : isNonT (.lst ts) = false := (rfl)
@[simp] theorem q_ss (x y : W) : eqT (.str x) (.str y) = (x == y) := (rfl)
@[simp] theorem q_ii (x y : Int) : eqT (.int x) (.int y) = (x == y) := (rfl)
@[simp] theorem q_bb (x y : Bool) : eqT (.bl x) (.bl y) = (x == y) := (rfl)
@[simp] theorem q_ll (x y : List T) : eqT (.lst x) (.lst y) = eqTs x y := (rfl)
@[simp] theorem q_tt (x y : List T) : eqT (.tup x) (.tup y) = eqTs x y := (rfl)
@[simp] theorem q_nn : eqT .non .non = true := (rfl)
@[simp] theorem q_si (x : W) (y : Int) : eqT (.str x) (.int y) = false := (rfl)
@[simp] theorem q_is (x : W) (y : Int) : eqT (.int y) (.str x) = false := (rfl)
@[simp] theorem q_st (x : W) (y : List T) : eqT (.str x) (.tup y) = false := (rfl)
@[simp] theorem q_ts (x : W) (y : List T) : eqT (.tup y) (.str x) = false := (rfl)
@[simp] theorem q_it (x : Int) (y : List T) : eqT (.int x) (.tup y) = false := (rfl)
@[simp] theorem q_ti (x : Int) (y : List T) : eqT (.tup y) (.int x) = false := (rfl)
@[simp] theorem q_ns (x : W) : eqT .non (.str x) = false := (rfl)
@[simp] theorem q_sn (x : W) : eqT (.str x) .non = false := (rfl)
@[simp] theorem q_ni (x : Int) : eqT .non (.int x) = false := (rfl)
@[simp] theorem q_in (x : Int) : eqT (.int x) .non = false := (rfl)
@[simp] theorem q_nt (x : List T) : eqT .non (.tup x) = false := (rfl)
@[simp] theorem q_tn (x : List T) : eqT (.tup x) .non = false := (rfl)
@[simp] theorem q_n : eqTs [] [] = true := (rfl)
@[simp] theorem q_c (x y : T) (xs ys : List T) : eqTs (x :: xs) (y :: ys) = (eqT x y && eqTs xs ys) := (rfl)
@[simp] theorem q_cn (x : T) (xs : List T) : eqTs (x :: xs) [] = false := (rfl)
@[simp] theorem q_nc (x : T) (xs : List T) : eqTs [] (x :: xs) = false := (rfl)
@[simp] theorem c_eq (x y : T) : cmpT .eq x y = if good 61 x && good 61 y then some (eqT x y) else none := by cases x <;> cases y <;> rfl
@[simp] theorem c_ne (x y : T) : cmpT .ne x y = if good 61 x && good 61 y then some (!eqT x y) else none := by cases x <;> cases y <;> rfl
@[simp] theorem c_lt (i j : Int) : cmpT .lt (.int i) (.int j) = some (decide (i < j)) := (rfl)
@[simp] theorem c_le (i j : Int) : cmpT .le (.int i) (.int j) = some (decide (i ≤ j)) := (rfl)
@[simp] theorem c_gt (i j : Int) : cmpT .gt (.int i) (.int j) = some (decide (j < i)) := (rfl)
@[simp] theorem c_ge (i j : Int) : cmpT .ge (.int i) (.int j) = some (decide (j ≤ i)) := (rfl)
@[simp] theorem c_les (i j : W) : cmpT .le (.str i) (.str j) = some (!ltW j i) := (rfl)
@[simp] theorem c_lts (i j : W) : cmpT .lt (.str i) (.str j) = some (ltW i j) := (rfl)
@[simp] theorem c_in (x y : T) : cmpT .isin x y = inT x y := by cases x <;> cases y <;> rfl
@[simp] theorem c_notin (x y : T) : cmpT .notin x y = (inT x y).map (!·) := by cases x <;> cases y <;> rfl
@[simp] theorem good_non (n : Nat) : good n .non = true := by cases n <;> rfl
@[simp] theorem good_bl (n : Nat) (b : Bool) : good n (.bl b) = true := by cases n <;> rfl
@[simp] theorem good_int (n : Nat) (b : Int) : good n (.int b) = true := by cases n <;> rfl
def gdW (s : W) : Bool := s.all (· < 1114112)
@[simp] theorem gdW_nil : gdW [] = true := (rfl)
@[simp] theorem gdW_cons (a : Nat) (s : W) : gdW (a :: s) = (decide (a < 1114112) && gdW s) := (rfl)
@[simp] theorem gdW_app (s t : W) : gdW (s ++ t) = (gdW s && gdW t) := by simp [gdW]
@[simp] theorem good_str (n : Nat) (s : W) : good n (.str s) = gdW s := by cases n <;> rfl
@[simp] theorem good_tup (n : Nat) (ts : List T) : good (n + 1) (.tup ts) = goods n ts := (rfl)
@[simp] theorem good_lst (n : Nat) (ts : List T) : good (n + 1) (.lst ts) = goods n ts := (rfl)
@[simp] theorem goods_nil (n : Nat) : goods n [] = true := by cases n <;> rfl
@[simp] theorem goods_cons (n : Nat) (t : T) (ts : List T) : goods n (t :: ts) = (good n t && goods n ts) := by cases n <;> rfl
@[simp] theorem pureT_int (i : Int) : pureT (.int i) = true := (rfl)
@[simp] theorem pureT_str (i : W) : pureT (.str i) = true := (rfl)
@[simp] theorem pureT_bl (i : Bool) : pureT (.bl i) = true := (rfl)
@[simp] theorem pureT_non : pureT .non = true := (rfl)
@[simp] theorem pureT_tup (ts : List T) : pureT (.tup ts) = pureTs ts := (rfl)
@[simp] theorem pureT_lst (ts : List T) : pureT (.lst ts) = false := (rfl)
@[simp] theorem pureTs_nil : pureTs [] = true := (rfl)
@[simp] theorem pureTs_cons (t : T) (ts : List T) : pureTs (t :: ts) = (pureT t && pureTs ts) := (rfl)
@[simp] theorem apart_tmp (t : T) : apartR (.tmp t) = pureT t := (rfl)
@[simp] theorem apart_newl (ts : List T) : apartR (.new (.lst ts)) = pureTs ts := (rfl)
@[simp] theorem apart_newd (tk : Bool) (kvs : List (T × T)) : apartR (.new (.dct tk kvs)) = kvs.all fun kv => pureT kv.2 := (rfl)
@[simp] theorem apart_slot (i : Nat) : apartR (.slot i) = false := (rfl)
@[simp] theorem flat_int (i : Int) : flatT (.int i) = true := (rfl)
@[simp] theorem flat_str (i : W) : flatT (.str i) = true := (rfl)
@[simp] theorem flat_bl (i : Bool) : flatT (.bl i) = true := (rfl)
@[simp] theorem flat_non : flatT .non = true := (rfl)
@[simp] theorem in_lst (x : T) (ts : List T) : inT x (.lst ts) = if good 60 x && goods 60 ts then some (ts.any fun z => eqT z x) else none := (rfl)
@[simp] theorem in_tup (x : T) (ts : List T) : inT x (.tup ts) = if flatT x && ts.all flatT then some (ts.any fun z => eqT z x) else none := (rfl)
@[simp] theorem in_str (c : Nat) (s : W) : inT (.str [c]) (.str s) = some (decide (c ∈ s)) := (rfl)
@[simp] theorem in_str0 (s : W) : inT (.str []) (.str s) = some true := (rfl)
@[simp] theorem in_dct (x : T) (tk : Bool) (kvs : List (T × T)) : inT x (.dct tk kvs) = if keyT tk x then some (getK kvs x).isSome else none := (rfl)
@[simp] theorem len_str (s : W) : lenT (.str s) = if s.length ≤ cap then some s.length else none := (rfl)
@[simp] theorem len_tup (s : List T) : lenT (.tup s) = some s.length := (rfl)
@[simp] theorem len_lst (s : List T) : lenT (.lst s) = some s.length := (rfl)
@[simp] theorem len_scr (s : List Int) : lenT (.scr s) = some s.length := (rfl)
@[simp] theorem len_dct (tk : Bool) (s : List (T × T)) : lenT (.dct tk s) = some s.length := (rfl)
@[simp] theorem b1_len (t : T) : b1T .len t = (lenT t).map fun (n : Nat) => .tmp (.int (n : Int)) := by cases t <;> rfl
@[simp] theorem b1_tupo_l (ts : List T) : b1T .tupo (.lst ts) = some (.tmp (.tup ts)) := (rfl)
@[simp] theorem b1_tupo_t (ts : List T) : b1T .tupo (.tup ts) = some (.tmp (.tup ts)) := (rfl)
@[simp] theorem b1_lsto_l (ts : List T) : b1T .lsto (.lst ts) = some (.new (.lst ts)) := (rfl)
@[simp] theorem b1_lsto_t (ts : List T) : b1T .lsto (.tup ts) = some (.new (.lst ts)) := (rfl)
@[simp] theorem b1_into_i (i : Int) : b1T .into (.int i) = some (.tmp (.int i)) := (rfl)
@[simp] theorem b1_into_b (b : Bool) : b1T .into (.bl b) = some (.tmp (.int (if b then 1 else 0))) := (rfl)
@[simp] theorem b1_sum (ts : List T) : b1T .sumo (.lst ts) = (intsOf ts).map fun ns => .tmp (.int ns.sum) := (rfl)
@[simp] theorem b1_dcto (ts : List T) : b1T .dcto (.lst ts) = (pairsOf ts).map fun ps => .new (.dct true (putAll [] ps)) := (rfl)
@[simp] theorem ix_lst (ts : List T) (i : Int) : ixT (.lst ts) (.int i) = atI ts i := (rfl)
@[simp] theorem ix_tup (ts : List T) (i : Int) : ixT (.tup ts) (.int i) = atI ts i := (rfl)
@[simp] theorem ix_str (ts : W) (i : Int) : ixT (.str ts) (.int i) = if ts.length ≤ cap then (atI ts i).map fun c => T.str [c] else none := (rfl)
@[simp] theorem ix_scr (ts : List Int) (i : Int) : ixT (.scr ts) (.int i) = (atI ts i).map T.int := (rfl)
@[simp] theorem ix_dct (tk : Bool) (kvs : List (T × T)) (k : T) : ixT (.dct tk kvs) k = if keyT tk k then getK kvs k else none := (rfl)
@[simp] theorem at0 {α : Type} (a : α) (l : List α) : atI (a :: l) 0 = some a := by
  have : (0 : Int) < (l.length : Int) + 1 := by omega
  simp [atI, ixN, this]
@[simp] theorem at1 {α : Type} (a b : α) (l : List α) : atI (a :: b :: l) 1 = some b := by
  have : (1 : Int) < (l.length : Int) + 1 + 1 := by omega
  simp [atI, ixN, this]
@[simp] theorem at2 {α : Type} (a b c : α) (l : List α) : atI (a :: b :: c :: l) 2 = some c := by
  have : (2 : Int) < (l.length : Int) + 1 + 1 + 1 := by omega
  simp [atI, ixN, this]
@[simp] theorem at3 {α : Type} (a b c d : α) (l : List α) : atI (a :: b :: c :: d :: l) 3 = some d := by
  have : (3 : Int) < (l.length : Int) + 1 + 1 + 1 + 1 := by omega
  simp [atI, ixN, this]
@[simp] theorem at4 {α : Type} (a b c d e : α) (l : List α) : atI (a :: b :: c :: d :: e :: l) 4 = some e := by
  have : (4 : Int) < (l.length : Int) + 1 + 1 + 1 + 1 + 1 := by omega
  simp [atI, ixN, this]
theorem atI_nat {α : Type} (l : List α) (n : Nat) (h : n < l.length) : atI l (n : Int) = some l[n] := by
  have : (n : Int) < l.length := by omega
  simp [atI, ixN, this, h]
theorem atI_last {α : Type} (l : List α) (a : α) : atI (l ++ [a]) (-1) = some a := by
  have h1 : -((l.length : Int) + 1) ≤ -1 := by omega
  have h2 : (-1 + ((l.length : Int) + 1)).toNat = l.length := by omega
  simp [atI, ixN, h1, h2]
@[simp] theorem slc_lst (ts : List T) (lo hi : Option Int) : slcT (.lst ts) lo hi = some (.new (.lst (cut ts lo hi))) := (rfl)
@[simp] theorem slc_tup (ts : List T) (lo hi : Option Int) : slcT (.tup ts) lo hi = some (.tmp (.tup (cut ts lo hi))) := (rfl)
@[simp] theorem slc_str (s : W) (lo hi : Option Int) : slcT (.str s) lo hi = if s.length ≤ cap then some (.tmp (.str (cut s lo hi))) else none := (rfl)
@[simp] theorem b_addi (i j : Int) : binT .add (.int i) (.int j) = some (.tmp (.int (i + j))) := (rfl)
@[simp] theorem b_adds (x y : W) : binT .add (.str x) (.str y) = if x.length + y.length ≤ cap then some (.tmp (.str (x ++ y))) else none := (rfl)
@[simp] theorem b_addl (x y : List T) : binT .add (.lst x) (.lst y) = if x.length + y.length ≤ cap then some (.new (.lst (x ++ y))) else none := (rfl)
@[simp] theorem b_addt (x y : List T) : binT .add (.tup x) (.tup y) = if x.length + y.length ≤ cap then some (.tmp (.tup (x ++ y))) else none := (rfl)
@[simp] theorem b_sub (i j : Int) : binT .sub (.int i) (.int j) = some (.tmp (.int (i - j))) := (rfl)
@[simp] theorem b_muli (i j : Int) : binT .mul (.int i) (.int j) = if small64 i || small64 j then some (.tmp (.int (i * j))) else none := (rfl)
@[simp] theorem b_mull (x : List T) (k : Int) : binT .mul (.lst x) (.int k) = if decide (-1000000 ≤ k) && decide (k ≤ 1000000) && decide (x.length * k.toNat ≤ cap) then some (.new (.lst (repL x k))) else none := (rfl)
@[simp] theorem b_fdiv (i j : Int) : binT .fdiv (.int i) (.int j) = if decide (0 < j) && decide (j < 1073741824) then some (.tmp (.int (i / j))) else none := (rfl)
@[simp] theorem b_mod (i j : Int) : binT .mod (.int i) (.int j) = if decide (0 < j) then some (.tmp (.int (i % j))) else none := (rfl)
@[simp] theorem b_pow (i j : Int) : binT .pow (.int i) (.int j) = if decide (0 ≤ j) && decide (j ≤ 1000000) && decide (i.natAbs < 18446744073709551616) then some (.tmp (.int (i ^ j.toNat))) else none := (rfl)
@[simp] theorem isi_int_non  : isiT .int .non = some false := (rfl)
@[simp] theorem isi_int_bl (b : Bool) : isiT .int (.bl b) = some true := (rfl)
@[simp] theorem isi_int_int (i : Int) : isiT .int (.int i) = some true := (rfl)
@[simp] theorem isi_int_str (s : W) : isiT .int (.str s) = some false := (rfl)
@[simp] theorem isi_int_tup (ts : List T) : isiT .int (.tup ts) = some false := (rfl)
@[simp] theorem isi_int_lst (ts : List T) : isiT .int (.lst ts) = some false := (rfl)
@[simp] theorem isi_int_dct (tk : Bool) (kvs : List (T × T)) : isiT .int (.dct tk kvs) = some false := (rfl)
@[simp] theorem isi_str_non  : isiT .str .non = some false := (rfl)
@[simp] theorem isi_str_bl (b : Bool) : isiT .str (.bl b) = some false := (rfl)
@[simp] theorem isi_str_int (i : Int) : isiT .str (.int i) = some false := (rfl)
@[simp] theorem isi_str_str (s : W) : isiT .str (.str s) = some true := (rfl)
@[simp] theorem isi_str_tup (ts : List T) : isiT .str (.tup ts) = some false := (rfl)
@[simp] theorem isi_str_lst (ts : List T) : isiT .str (.lst ts) = some false := (rfl)
@[simp] theorem isi_str_dct (tk : Bool) (kvs : List (T × T)) : isiT .str (.dct tk kvs) = some false := (rfl)
@[simp] theorem isi_tuple_non  : isiT .tuple .non = some false := (rfl)
@[simp] theorem isi_tuple_bl (b : Bool) : isiT .tuple (.bl b) = some false := (rfl)
@[simp] theorem isi_tuple_int (i : Int) : isiT .tuple (.int i) = some false := (rfl)
@[simp] theorem isi_tuple_str (s : W) : isiT .tuple (.str s) = some false := (rfl)
@[simp] theorem isi_tuple_tup (ts : List T) : isiT .tuple (.tup ts) = some true := (rfl)
@[simp] theorem isi_tuple_lst (ts : List T) : isiT .tuple (.lst ts) = some false := (rfl)
@[simp] theorem isi_tuple_dct (tk : Bool) (kvs : List (T × T)) : isiT .tuple (.dct tk kvs) = some false := (rfl)
@[simp] theorem isi_list_non  : isiT .list .non = some false := (rfl)
@[simp] theorem isi_list_bl (b : Bool) : isiT .list (.bl b) = some false := (rfl)
@[simp] theorem isi_list_int (i : Int) : isiT .list (.int i) = some false := (rfl)
@[simp] theorem isi_list_str (s : W) : isiT .list (.str s) = some false := (rfl)
@[simp] theorem isi_list_tup (ts : List T) : isiT .list (.tup ts) = some false := (rfl)
@[simp] theorem isi_list_lst (ts : List T) : isiT .list (.lst ts) = some true := (rfl)
@[simp] theorem isi_list_dct (tk : Bool) (kvs : List (T × T)) : isiT .list (.dct tk kvs) = some false := (rfl)
@[simp] theorem isi_bool_non  : isiT .bool .non = some false := (rfl)
@[simp] theorem isi_bool_bl (b : Bool) : isiT .bool (.bl b) = some true := (rfl)
@[simp] theorem isi_bool_int (i : Int) : isiT .bool (.int i) = some false := (rfl)
@[simp] theorem isi_bool_str (s : W) : isiT .bool (.str s) = some false := (rfl)
@[simp] theorem isi_bool_tup (ts : List T) : isiT .bool (.tup ts) = some false := (rfl)
@[simp] theorem isi_bool_lst (ts : List T) : isiT .bool (.lst ts) = some false := (rfl)
@[simp] theorem isi_bool_dct (tk : Bool) (kvs : List (T × T)) : isiT .bool (.dct tk kvs) = some false := (rfl)
@[simp] theorem recv_append (ts : List T) : recv .append (.lst ts) = true := (rfl)
@[simp] theorem recv_extend (ts : List T) : recv .extend (.lst ts) = true := (rfl)
@[simp] theorem recv_index (ts : List T) : recv .index (.lst ts) = true := (rfl)
@[simp] theorem recv_update (tk : Bool) (kvs : List (T × T)) : recv .update (.dct tk kvs) = true := (rfl)
@[simp] theorem recv_get1 (tk : Bool) (kvs : List (T × T)) : recv .get1 (.dct tk kvs) = true := (rfl)
@[simp] theorem recv_join (s : W) : recv .join (.str s) = true := (rfl)
@[simp] theorem recv_split (s : W) : recv .split (.str s) = true := (rfl)
@[simp] theorem recv_startswith (s : W) : recv .startswith (.str s) = true := (rfl)
@[simp] theorem isDct_d (tk : Bool) (kvs : List (T × T)) : isDct (.dct tk kvs) = true := (rfl)
@[simp] theorem keyT_int (i : Int) : keyT true (.int i) = true := (rfl)
@[simp] theorem keyT_str (i : W) : keyT true (.str i) = true := (rfl)
@[simp] theorem keyT_tup (ts : List T) : keyT false (.tup ts) = ts.all fun t => match t with | .int _ => true | .str _ => true | _ => false := (rfl)
@[simp] theorem getK_nil (x : T) : getK [] x = none := (rfl)
theorem getK_cons (k v x : T) (r : List (T × T)) : getK ((k, v) :: r) x = if eqT k x then some v else getK r x := rfl
theorem call_py {P : Prg} {k f np ns : Nat} {body : List Stm} {ts : List T} (h : P.fns[f]? = some (.py np ns none body)) (hl : ts.length = np) : callF P (k + 1) f ts = resOf (exs P.C (callF P k) P.sub body (initE np ns none ts)) := by
  show (match P.fns[f]? with
    | some (.py np ns mv body) => if ts.length = np then resOf (exs P.C (callF P k) P.sub body (initE np ns mv ts)) else .stuck
    | some (.pyr ns body) => if ts.length = 4 then resR (exs P.C (callF P k) P.sub body (initR ns ts)) else .stuck
    | none => .stuck) = _
  rw [h]
  exact if_pos hl
theorem call_mv {P : Prg} {k f np ns i : Nat} {body : List Stm} {ts : List T} (h : P.fns[f]? = some (.py np ns (some i) body)) (hl : ts.length = np) : callF P (k + 1) f ts = resOf (exs P.C (callF P k) P.sub body (initE np ns (some i) ts)) := by
  show (match P.fns[f]? with
    | some (.py np ns mv body) => if ts.length = np then resOf (exs P.C (callF P k) P.sub body (initE np ns mv ts)) else .stuck
    | some (.pyr ns body) => if ts.length = 4 then resR (exs P.C (callF P k) P.sub body (initR ns ts)) else .stuck
    | none => .stuck) = _
  rw [h]
  exact if_pos hl
theorem call_ref {P : Prg} {k f ns : Nat} {body : List Stm} {a b c d : T} (h : P.fns[f]? = some (.pyr ns body)) : callF P (k + 1) f [a, b, c, d] = resR (exs P.C (callF P k) P.sub body (initR ns [a, b, c, d])) := by
  show (match P.fns[f]? with
    | some (.py np ns mv body) => if ([a, b, c, d] : List T).length = np then resOf (exs P.C (callF P k) P.sub body (initE np ns mv [a, b, c, d])) else .stuck
    | some (.pyr ns body) => if ([a, b, c, d] : List T).length = 4 then resR (exs P.C (callF P k) P.sub body (initR ns [a, b, c, d])) else .stuck
    | none => .stuck) = _
  rw [h]
  exact if_pos rfl
@[simp] theorem initE_1 (ns : Nat) (a : T) : initE 1 ns none [a] = .val a :: List.replicate (ns - 1) .un := (rfl)
@[simp] theorem initE_2 (ns : Nat) (a b : T) : initE 2 ns none [a, b] = .val a :: .val b :: List.replicate (ns - 2) .un := (rfl)
@[simp] theorem initE_3 (ns : Nat) (a b c : T) : initE 3 ns none [a, b, c] = .val a :: .val b :: .val c :: List.replicate (ns - 3) .un := (rfl)
@[simp] theorem initE_4 (ns : Nat) (a b c d : T) : initE 4 ns none [a, b, c, d] = .val a :: .val b :: .val c :: .val d :: List.replicate (ns - 4) .un := (rfl)
@[simp] theorem initE_5 (ns : Nat) (a b c d e : T) : initE 5 ns none [a, b, c, d, e] = .val a :: .val b :: .val c :: .val d :: .val e :: List.replicate (ns - 5) .un := (rfl)
theorem lcR_one {α : Type} (xs : List α) (F : α → T) (c : α → Bool) (G : α → T) {i : Nat} {vc : Env → Res (Bool × Env)} {ve : Env → Res (R × Env)} {ρ : Env} (hi : i < ρ.length) (hv : isVal ρ[i]? = true) (hl : xs.length ≤ 1000000)
    (h : ∀ x ∈ xs, (bndP (vc (ρ.set i (.val (F x)))) fun b ρ => if b then (bndP (ve ρ) fun r ρ => liftP (esc r ρ) fun p => .ok (some p.1, p.2)) else .ok (none, ρ)) = .ok (if c x then some (G x) else none, ρ.set i (.val (F x)))) :
    lcR (xs.map F) (.one i) vc ve ρ = .ok (.new (.lst ((xs.filter c).map G)), ρ) := by
  have key : ∀ (ys : List α), (∀ x ∈ ys, x ∈ xs) → ∀ (acc : List T) (y : Sl), ∃ z, lcGo (lcStep (.one i) vc ve) (ys.map F) acc (ρ.set i y) = .ok (acc ++ (ys.filter c).map G, ρ.set i z) := by
    intro ys
    induction ys with
    | nil =>
      intro _ acc y
      exact ⟨y, by simp [lcGo]⟩
    | cons x ys ih =>
      intro hm acc y
      have hx := h x (hm x (List.mem_cons_self ..))
      have ih := ih fun z hz => hm z (List.mem_cons_of_mem _ hz)
      have e : lcStep (.one i) vc ve (F x) (ρ.set i y) = .ok (if c x then some (G x) else none, ρ.set i (.val (F x))) := by
        simp only [lcStep, put, wipeE, Tg.slots, List.foldl, List.length_set, hi, if_true, lift_some, List.set_set]
        exact hx
      by_cases hc : c x = true
      · obtain ⟨z, hz⟩ := ih (acc ++ [G x]) (.val (F x))
        exact ⟨z, by simp [lcGo, e, hc, hz]⟩
      · obtain ⟨z, hz⟩ := ih acc (.val (F x))
        exact ⟨z, by simp [lcGo, e, hc, hz]⟩
  obtain ⟨z, hz⟩ := key xs (fun x hx => hx) [] ρ[i]
  have e0 : ρ.set i ρ[i] = ρ := by simp
  rw [e0] at hz
  have hb : backE [i] ρ (ρ.set i z) = ρ := by
    simp only [backE, List.foldl, List.set_set]
    apply List.ext_getElem?
    intro j
    by_cases hj : i = j
    · subst hj
      simp [hi]
    · simp [hj]
  simp [lcR, hv, hl, hz, noExc, hb]
theorem all_filter {α : Type} (c : α → Bool) (l : List α) : (l.filter fun x => !c x).isEmpty = l.all c := by
  induction l with
  | nil => rfl
  | cons a l ih => cases h : c a <;> simp [h, ih]
end Py
set_option autoImplicit false
set_option linter.all false
set_option maxRecDepth 100000
namespace Py
structure Ix where
  is_word : Nat
  is_figure : Nat
  room : Nat
  is_expression : Nat
  is_row : Nat
  names_in : Nat
  own_names : Nat
  given_names : Nat
  used_names : Nat
  is_module : Nat
  look : Nat
  module_of : Nat
  row_of : Nat
  giving : Nat
  home_of_given : Nat
  home_of : Nat
  checked : Nat
  look_module : Nat
  visited : Nat
  order_of : Nat
  order : Nat
  given_homes : Nat
  needed_of : Nat
  homes_in_order : Nat
  kept : Nat
  word_at : Nat
  turned : Nat
  bundle : Nat
  expression_text : Nat
  row_text : Nat
  text_of : Nat
  shown : Nat
  law_cell : Nat
  law_seed : Nat
  law_pick : Nat
  law_expression : Nat
  law_gives : Nat
  law_module : Nat
  law_filled : Nat
  law_program : Nat
  home : Nat
  users : Nat
  law_rows : Nat
  law_home : Nat
  law_given_home : Nat
  value_of : Nat
  run_of : Nat
  run : Nat
  law_order : Nat
  law_value : Nat
  law_run : Nat
  law_names : Nat
  law_kept : Nat
  law_too_long : Nat
  law_refused : Nat
  law_whole : Nat
  law_turned : Nat
  dead : Nat
  law_mix : Nat
  new_word : Nat
  new_expression : Nat
  new_row : Nat
  renamed : Nat
  law_exchanged : Nat
  leaf_of : Nat
  expression_at : Nat
  expression_of : Nat
  row_of_text : Nat
  read : Nat
  law_expression_text : Nat
  law_module_text : Nat
  law_all : Nat
  law_deeds_of : Nat
  law_kinds_of : Nat
  law_asks : Nat
  law_is_taken : Nat
  look_expression : Nat
  names_of : Nat
  worth_of : Nat
  look_values : Nat
  worth : Nat
  folded_of : Nat
  folded : Nat
  put_in_of : Nat
  put_in : Nat
  law_book : Nat
  law_worth : Nat
  law_folded : Nat
  law_put : Nat
  law_parts : Nat
  law_drawn : Nat
  law_tried : Nat
  trace : Nat
  values_of : Nat
  law_trace : Nat
  web_of : Nat
  reached : Nat
  needs : Nat
  loops : Nat
  idle : Nat
  only : Nat
  starts : Nat
  law_wants : Nat
  law_lots : Nat
  looked : Nat
  called : Nat
  law_called_otherwise : Nat
  law_bench : Nat
  law_checked : Nat
  law_changed : Nat
  law_some_deed : Nat
  wall : Nat
  law_asked_of : Nat
  law_asked_word : Nat
  cSMALL : Nat
  cPRIME : Nat
  cMOST_PARTS : Nat
  cMOST_ROWS : Nat
  cMOST_MODULES : Nat
  cFIGURES : Nat
  xFileError : Nat
  xBadProgram : Nat
  xMissing : Nat
  xRinged : Nat
  xNoModule : Nat
  xBadName : Nat
  xBadText : Nat
  xBadExpression : Nat
  xNothing : Nat
def b_is_word (X : Ix) : List Stm := [.ite (.or2 (.nt (.isi .str (.loc 0))) (.nt (.chn .le .le (.int 1) (.b1 .len (.loc 0)) (.int 6)))) [.ret (.bl false)] [], .ret (.nt (.lc (.loc 1) (.one 1) .seq [(.loc 0)] (.cmp .notin (.loc 1) (.gl X.cSMALL))))]
def F_is_word (X : Ix) : FD := .py 1 2 none (b_is_word X)
def b_is_figure (X : Ix) : List Stm := [.ret (.and2 (.isi .int (.loc 0)) (.and2 (.nt (.isi .bool (.loc 0))) (.chn .le .lt (.int 0) (.loc 0) (.gl X.cPRIME))))]
def F_is_figure (X : Ix) : FD := .py 1 1 none (b_is_figure X)
def b_room (X : Ix) : List Stm := [.ite (.cmp .eq (.loc 1) (.int 0)) [.ret (.neg (.int 1))] [], .ite (.call X.is_figure [(.loc 0)]) [.ret (.bin .sub (.loc 1) (.int 1))] [], .ite (.or2 (.nt (.isi .tuple (.loc 0))) (.or2 (.nt (.loc 0)) (.nt (.isi .str (.ix (.loc 0) (.int 0)))))) [.ret (.neg (.int 1))] [], .ite (.cmp .eq (.ix (.loc 0) (.int 0)) (.str [110, 97, 109, 101])) [.ret (.ife (.and2 (.cmp .eq (.b1 .len (.loc 0)) (.int 2)) (.call X.is_word [(.ix (.loc 0) (.int 1))])) (.bin .sub (.loc 1) (.int 1)) (.neg (.int 1)))] [], .ite (.or2 (.cmp .notin (.ix (.loc 0) (.int 0)) (.tup [(.str [112, 108, 117, 115]), (.str [116, 105, 109, 101, 115])])) (.cmp .ne (.b1 .len (.loc 0)) (.int 3))) [.ret (.neg (.int 1))] [], .asg 1 (.call X.room [(.ix (.loc 0) (.int 1)), (.bin .sub (.loc 1) (.int 1))]), .ret (.ife (.cmp .ge (.loc 1) (.int 0)) (.call X.room [(.ix (.loc 0) (.int 2)), (.loc 1)]) (.neg (.int 1)))]
def F_room (X : Ix) : FD := .py 2 2 none (b_room X)
def b_is_expression (X : Ix) : List Stm := [.ret (.cmp .ge (.call X.room [(.loc 0), (.gl X.cMOST_PARTS)]) (.int 0))]
def F_is_expression (X : Ix) : FD := .py 1 1 none (b_is_expression X)
def b_is_row (X : Ix) : List Stm := [.ite (.or2 (.nt (.isi .tuple (.loc 0))) (.or2 (.nt (.loc 0)) (.nt (.isi .str (.ix (.loc 0) (.int 0)))))) [.ret (.bl false)] [], .ite (.cmp .eq (.ix (.loc 0) (.int 0)) (.str [115, 101, 116])) [.ret (.and2 (.cmp .eq (.b1 .len (.loc 0)) (.int 3)) (.and2 (.call X.is_word [(.ix (.loc 0) (.int 1))]) (.call X.is_expression [(.ix (.loc 0) (.int 2))])))] [], .ite (.cmp .eq (.ix (.loc 0) (.int 0)) (.str [110, 111, 116, 101])) [.ret (.and2 (.cmp .eq (.b1 .len (.loc 0)) (.int 2)) (.call X.is_expression [(.ix (.loc 0) (.int 1))]))] [], .asg 1 (.dlt [([116, 97, 107, 101], (.int 4)), ([112, 97, 115, 115], (.int 4)), ([103, 105, 118, 101], (.int 3)), ([114, 117, 110], (.int 2))]), .ite (.or2 (.cmp .notin (.ix (.loc 0) (.int 0)) (.loc 1)) (.cmp .ne (.b1 .len (.loc 0)) (.ix (.loc 1) (.ix (.loc 0) (.int 0))))) [.ret (.bl false)] [], .ret (.nt (.lc (.loc 2) (.one 2) .seq [(.slc (.loc 0) (.int 1) .non)] (.nt (.call X.is_word [(.loc 2)]))))]
def F_is_row (X : Ix) : FD := .py 1 3 none (b_is_row X)
def b_names_in (X : Ix) : List Stm := [.ite (.isi .int (.loc 0)) [.ret (.lst [])] [], .ite (.cmp .eq (.ix (.loc 0) (.int 0)) (.str [110, 97, 109, 101])) [.ret (.lst [(.ix (.loc 0) (.int 1))])] [], .ret (.bin .add (.call X.names_in [(.ix (.loc 0) (.int 1))]) (.call X.names_in [(.ix (.loc 0) (.int 2))]))]
def F_names_in (X : Ix) : FD := .py 1 1 none (b_names_in X)
def b_own_names (X : Ix) : List Stm := [.ret (.lc (.ife (.cmp .eq (.ix (.loc 1) (.int 0)) (.str [116, 97, 107, 101])) (.ix (.loc 1) (.int 3)) (.ix (.loc 1) (.int 1))) (.one 1) .seq [(.ix (.loc 0) (.int 1))] (.cmp .isin (.ix (.loc 1) (.int 0)) (.tup [(.str [116, 97, 107, 101]), (.str [115, 101, 116])])))]
def F_own_names (X : Ix) : FD := .py 1 2 none (b_own_names X)
def b_given_names (X : Ix) : List Stm := [.ret (.lc (.ix (.loc 1) (.neg (.int 1))) (.one 1) .seq [(.ix (.loc 0) (.int 1))] (.cmp .isin (.ix (.loc 1) (.int 0)) (.tup [(.str [103, 105, 118, 101]), (.str [112, 97, 115, 115])])))]
def F_given_names (X : Ix) : FD := .py 1 2 none (b_given_names X)
def b_used_names (X : Ix) : List Stm := [.asg 1 (.lst []), .for (.one 2) .seq [(.ix (.loc 0) (.int 1))] [.ite (.cmp .isin (.ix (.loc 2) (.int 0)) (.tup [(.str [115, 101, 116]), (.str [110, 111, 116, 101])])) [.exp (.m1 .extend (.loc 1) (.call X.names_in [(.ix (.loc 2) (.neg (.int 1)))]))] [], .ite (.cmp .eq (.ix (.loc 2) (.int 0)) (.str [103, 105, 118, 101])) [.exp (.m1 .append (.loc 1) (.ix (.loc 2) (.int 1)))] []], .ret (.loc 1)]
def F_used_names (X : Ix) : FD := .py 1 3 none (b_used_names X)
def b_is_module (X : Ix) : List Stm := [.ite (.or2 (.nt (.isi .tuple (.loc 0))) (.or2 (.cmp .ne (.b1 .len (.loc 0)) (.int 2)) (.or2 (.nt (.call X.is_word [(.ix (.loc 0) (.int 0))])) (.nt (.isi .tuple (.ix (.loc 0) (.int 1))))))) [.ret (.bl false)] [], .ite (.or2 (.cmp .gt (.b1 .len (.ix (.loc 0) (.int 1))) (.gl X.cMOST_ROWS)) (.lc (.loc 1) (.one 1) .seq [(.ix (.loc 0) (.int 1))] (.nt (.call X.is_row [(.loc 1)])))) [.ret (.bl false)] [], .asg 2 (.call X.own_names [(.loc 0)]), .asg 3 (.call X.given_names [(.loc 0)]), .ite (.or2 (.cmp .lt (.b1 .lset (.loc 2)) (.b1 .len (.loc 2))) (.cmp .lt (.b1 .lset (.loc 3)) (.b1 .len (.loc 3)))) [.ret (.bl false)] [], .ret (.nt (.lc (.loc 4) (.one 4) .seq [(.call X.used_names [(.loc 0)])] (.cmp .notin (.loc 4) (.loc 2))))]
def F_is_module (X : Ix) : FD := .py 1 5 none (b_is_module X)
def b_look (X : Ix) : List Stm := [.ite (.or2 (.nt (.isi .tuple (.loc 0))) (.cmp .gt (.b1 .len (.loc 0)) (.gl X.cMOST_MODULES))) [.rse X.xBadProgram] [], .ite (.lc (.loc 1) (.one 1) .seq [(.loc 0)] (.nt (.call X.is_module [(.loc 1)]))) [.rse X.xBadProgram] [], .asg 2 (.lc (.ix (.loc 1) (.int 0)) (.one 1) .seq [(.loc 0)] (.bl true)), .ite (.or2 (.cmp .lt (.b1 .lset (.loc 2)) (.b1 .len (.loc 2))) (.cmp .gt (.b1 .sumo (.lc (.b1 .len (.ix (.loc 1) (.int 1))) (.one 1) .seq [(.loc 0)] (.bl true))) (.gl X.cMOST_ROWS))) [.rse X.xBadProgram] []]
def F_look (X : Ix) : FD := .py 1 3 none (b_look X)
def b_module_of (X : Ix) : List Stm := [.for (.one 2) .seq [(.loc 0)] [.ite (.cmp .eq (.ix (.loc 2) (.int 0)) (.loc 1)) [.ret (.loc 2)] []], .ret .non]
def F_module_of (X : Ix) : FD := .py 2 3 none (b_module_of X)
def b_row_of (X : Ix) : List Stm := [.for (.one 2) .seq [(.ix (.loc 0) (.int 1))] [.ite (.or2 (.and2 (.cmp .eq (.ix (.loc 2) (.int 0)) (.str [116, 97, 107, 101])) (.cmp .eq (.ix (.loc 2) (.int 3)) (.loc 1))) (.and2 (.cmp .eq (.ix (.loc 2) (.int 0)) (.str [115, 101, 116])) (.cmp .eq (.ix (.loc 2) (.int 1)) (.loc 1)))) [.ret (.loc 2)] []], .ret .non]
def F_row_of (X : Ix) : FD := .py 2 3 none (b_row_of X)
def b_giving (X : Ix) : List Stm := [.for (.one 2) .seq [(.ix (.loc 0) (.int 1))] [.ite (.and2 (.cmp .isin (.ix (.loc 2) (.int 0)) (.tup [(.str [103, 105, 118, 101]), (.str [112, 97, 115, 115])])) (.cmp .eq (.ix (.loc 2) (.neg (.int 1))) (.loc 1))) [.ret (.loc 2)] []], .ret .non]
def F_giving (X : Ix) : FD := .py 2 3 none (b_giving X)
def b_home_of_given (X : Ix) : List Stm := [.asg 3 (.lst []), .whl (.bl true) [.ite (.cmp .isin (.tup [(.loc 1), (.loc 2)]) (.loc 3)) [.rse X.xRinged] [], .exp (.m1 .append (.loc 3) (.tup [(.loc 1), (.loc 2)])), .asg 4 (.call X.module_of [(.loc 0), (.loc 1)]), .asg 5 (.ife (.isn true (.loc 4)) (.call X.giving [(.loc 4), (.loc 2)]) .non), .ite (.isn false (.loc 5)) [.rse X.xMissing] [], .ite (.cmp .eq (.ix (.loc 5) (.int 0)) (.str [103, 105, 118, 101])) [.asg 6 (.call X.row_of [(.loc 4), (.ix (.loc 5) (.int 1))]), .ite (.cmp .eq (.ix (.loc 6) (.int 0)) (.str [115, 101, 116])) [.ret (.tup [(.loc 1), (.ix (.loc 5) (.int 1))])] [], .asg 5 (.loc 6)] [], .asg 1 (.ix (.loc 5) (.int 1)), .asg 2 (.ix (.loc 5) (.int 2))]]
def F_home_of_given (X : Ix) : FD := .py 3 7 none (b_home_of_given X)
def b_home_of (X : Ix) : List Stm := [.asg 3 (.call X.row_of [(.call X.module_of [(.loc 0), (.loc 1)]), (.loc 2)]), .ite (.cmp .eq (.ix (.loc 3) (.int 0)) (.str [115, 101, 116])) [.ret (.tup [(.loc 1), (.loc 2)])] [], .ret (.call X.home_of_given [(.loc 0), (.ix (.loc 3) (.int 1)), (.ix (.loc 3) (.int 2))])]
def F_home_of (X : Ix) : FD := .py 3 4 none (b_home_of X)
def b_checked (X : Ix) : List Stm := [.exp (.call X.look [(.loc 0)]), .for (.one 1) .seq [(.loc 0)] [.for (.one 2) .seq [(.ix (.loc 1) (.int 1))] [.ite (.and2 (.cmp .eq (.ix (.loc 2) (.int 0)) (.str [114, 117, 110])) (.isn false (.call X.module_of [(.loc 0), (.ix (.loc 2) (.int 1))]))) [.rse X.xMissing] [], .ite (.cmp .isin (.ix (.loc 2) (.int 0)) (.tup [(.str [116, 97, 107, 101]), (.str [112, 97, 115, 115])])) [.exp (.call X.home_of_given [(.loc 0), (.ix (.loc 2) (.int 1)), (.ix (.loc 2) (.int 2))])] []]], .ret (.loc 0)]
def F_checked (X : Ix) : FD := .py 1 3 none (b_checked X)
def b_look_module (X : Ix) : List Stm := [.exp (.call X.checked [(.loc 0)]), .ite (.or2 (.nt (.call X.is_word [(.loc 1)])) (.isn false (.call X.module_of [(.loc 0), (.loc 1)]))) [.rse X.xNoModule] []]
def F_look_module (X : Ix) : FD := .py 2 2 none (b_look_module X)
def b_visited (X : Ix) : List Stm := [.ite (.cmp .isin (.loc 1) (.loc 2)) [.ret .non] [], .exp (.m1 .append (.loc 2) (.loc 1)), .for (.one 4) .seq [(.ix (.call X.module_of [(.loc 0), (.loc 1)]) (.int 1))] [.ite (.cmp .isin (.ix (.loc 4) (.int 0)) (.tup [(.str [116, 97, 107, 101]), (.str [112, 97, 115, 115]), (.str [114, 117, 110])])) [.cal X.visited (.loc 0) (.ix (.loc 4) (.int 1)) (.loc 2) 3] []], .exp (.m1 .append (.loc 3) (.loc 1))]
def F_visited (X : Ix) : FD := .pyr 5 (b_visited X)
def b_order_of (X : Ix) : List Stm := [.asg 2 (.lst []), .cal X.visited (.loc 0) (.loc 1) (.lst []) 2, .ret (.loc 2)]
def F_order_of (X : Ix) : FD := .py 2 3 none (b_order_of X)
def b_order (X : Ix) : List Stm := [.exp (.call X.look_module [(.loc 0), (.loc 1)]), .ret (.call X.order_of [(.loc 0), (.loc 1)])]
def F_order (X : Ix) : FD := .py 2 2 none (b_order X)
def b_given_homes (X : Ix) : List Stm := [.asg 2 (.lst []), .for (.one 3) .seq [(.ix (.call X.module_of [(.loc 0), (.loc 1)]) (.int 1))] [.ite (.cmp .eq (.ix (.loc 3) (.int 0)) (.str [103, 105, 118, 101])) [.exp (.m1 .append (.loc 2) (.tup [(.ix (.loc 3) (.int 2)), (.call X.home_of [(.loc 0), (.loc 1), (.ix (.loc 3) (.int 1))])]))] [], .ite (.cmp .eq (.ix (.loc 3) (.int 0)) (.str [112, 97, 115, 115])) [.exp (.m1 .append (.loc 2) (.tup [(.ix (.loc 3) (.int 3)), (.call X.home_of_given [(.loc 0), (.ix (.loc 3) (.int 1)), (.ix (.loc 3) (.int 2))])]))] []], .ret (.b1 .srt (.loc 2))]
def F_given_homes (X : Ix) : FD := .py 2 4 none (b_given_homes X)
def b_needed_of (X : Ix) : List Stm := [.asg 2 (.lc (.loc 4) (.many [3, 4]) .seq [(.call X.given_homes [(.loc 0), (.loc 1)])] (.bl true)), .for (.one 5) .seq [(.call X.order_of [(.loc 0), (.loc 1)])] [.for (.one 6) .seq [(.ix (.call X.module_of [(.loc 0), (.loc 5)]) (.int 1))] [.ite (.cmp .eq (.ix (.loc 6) (.int 0)) (.str [110, 111, 116, 101])) [.exp (.m1 .extend (.loc 2) (.lc (.call X.home_of [(.loc 0), (.loc 5), (.loc 3)]) (.one 3) .seq [(.call X.names_in [(.ix (.loc 6) (.int 1))])] (.bl true)))] []]], .asg 7 (.dnw false), .whl (.loc 2) [.asg 4 (.m0 .pop (.loc 2)), .ite (.cmp .notin (.loc 4) (.loc 7)) [.sst 7 (.loc 4) (.bl true), .for (.one 6) .seq [(.ix (.call X.module_of [(.loc 0), (.ix (.loc 4) (.int 0))]) (.int 1))] [.ite (.and2 (.cmp .eq (.ix (.loc 6) (.int 0)) (.str [115, 101, 116])) (.cmp .eq (.ix (.loc 6) (.int 1)) (.ix (.loc 4) (.int 1)))) [.exp (.m1 .extend (.loc 2) (.lc (.call X.home_of [(.loc 0), (.ix (.loc 4) (.int 0)), (.loc 3)]) (.one 3) .seq [(.call X.names_in [(.ix (.loc 6) (.int 2))])] (.bl true)))] []]] []], .ret (.loc 7)]
def F_needed_of (X : Ix) : FD := .py 2 8 none (b_needed_of X)
def b_homes_in_order (X : Ix) : List Stm := [.asg 2 (.lst []), .for (.one 3) .seq [(.call X.order_of [(.loc 0), (.loc 1)])] [.exp (.m1 .extend (.loc 2) (.lc (.tup [(.loc 3), (.ix (.loc 4) (.int 1))]) (.one 4) .seq [(.ix (.call X.module_of [(.loc 0), (.loc 3)]) (.int 1))] (.cmp .eq (.ix (.loc 4) (.int 0)) (.str [115, 101, 116]))))], .ret (.loc 2)]
def F_homes_in_order (X : Ix) : FD := .py 2 5 none (b_homes_in_order X)
def b_kept (X : Ix) : List Stm := [.exp (.call X.look_module [(.loc 0), (.loc 1)]), .asg 2 (.call X.needed_of [(.loc 0), (.loc 1)]), .ret (.lc (.loc 3) (.one 3) .seq [(.call X.homes_in_order [(.loc 0), (.loc 1)])] (.cmp .isin (.loc 3) (.loc 2)))]
def F_kept (X : Ix) : FD := .py 2 4 none (b_kept X)
def b_word_at (X : Ix) : List Stm := [.ite (.cmp .lt (.loc 0) (.b1 .len (.gl X.cSMALL))) [.ret (.ix (.gl X.cSMALL) (.loc 0))] [], .ret (.bin .add (.call X.word_at [(.bin .sub (.bin .fdiv (.loc 0) (.b1 .len (.gl X.cSMALL))) (.int 1))]) (.ix (.gl X.cSMALL) (.bin .mod (.loc 0) (.b1 .len (.gl X.cSMALL)))))]
def F_word_at (X : Ix) : FD := .py 1 1 none (b_word_at X)
def b_turned (X : Ix) : List Stm := [.ite (.isi .int (.loc 2)) [.ret (.loc 2)] [], .ite (.cmp .eq (.ix (.loc 2) (.int 0)) (.str [110, 97, 109, 101])) [.ret (.tup [(.str [110, 97, 109, 101]), (.ix (.loc 3) (.call X.home_of [(.loc 0), (.loc 1), (.ix (.loc 2) (.int 1))]))])] [], .asg 4 (.call X.turned [(.loc 0), (.loc 1), (.ix (.loc 2) (.int 1)), (.loc 3)]), .ret (.tup [(.ix (.loc 2) (.int 0)), (.loc 4), (.call X.turned [(.loc 0), (.loc 1), (.ix (.loc 2) (.int 2)), (.loc 3)])])]
def F_turned (X : Ix) : FD := .py 4 5 none (b_turned X)
def b_bundle (X : Ix) : List Stm := [.exp (.call X.look_module [(.loc 0), (.loc 1)]), .ite (.nt (.call X.is_word [(.loc 2)])) [.rse X.xBadName] [], .asg 3 (.dnw false), .for (.one 4) .seq [(.call X.kept [(.loc 0), (.loc 1)])] [.sst 3 (.loc 4) (.call X.word_at [(.b1 .len (.loc 3))])], .asg 5 (.lst []), .for (.one 6) .seq [(.call X.order_of [(.loc 0), (.loc 1)])] [.for (.one 7) .seq [(.ix (.call X.module_of [(.loc 0), (.loc 6)]) (.int 1))] [.ite (.and2 (.cmp .eq (.ix (.loc 7) (.int 0)) (.str [115, 101, 116])) (.cmp .isin (.tup [(.loc 6), (.ix (.loc 7) (.int 1))]) (.loc 3))) [.exp (.m1 .append (.loc 5) (.tup [(.str [115, 101, 116]), (.ix (.loc 3) (.tup [(.loc 6), (.ix (.loc 7) (.int 1))])), (.call X.turned [(.loc 0), (.loc 6), (.ix (.loc 7) (.int 2)), (.loc 3)])]))] [], .ite (.cmp .eq (.ix (.loc 7) (.int 0)) (.str [110, 111, 116, 101])) [.exp (.m1 .append (.loc 5) (.tup [(.str [110, 111, 116, 101]), (.call X.turned [(.loc 0), (.loc 6), (.ix (.loc 7) (.int 1)), (.loc 3)])]))] []]], .for (.many [8, 4]) .seq [(.call X.given_homes [(.loc 0), (.loc 1)])] [.exp (.m1 .append (.loc 5) (.tup [(.str [103, 105, 118, 101]), (.ix (.loc 3) (.loc 4)), (.loc 8)]))], .ret (.tup [(.loc 2), (.b1 .tupo (.loc 5))])]
def F_bundle (X : Ix) : FD := .py 3 9 none (b_bundle X)
def b_row_text (X : Ix) : List Stm := [.ite (.cmp .isin (.ix (.loc 0) (.int 0)) (.tup [(.str [115, 101, 116]), (.str [110, 111, 116, 101])])) [.ret (.bin .add (.bin .add (.m1 .join (.str [32]) (.slc (.loc 0) .non (.neg (.int 1)))) (.str [32])) (.call X.expression_text [(.ix (.loc 0) (.neg (.int 1)))]))] [], .ret (.m1 .join (.str [32]) (.loc 0))]
def F_row_text (X : Ix) : FD := .py 1 1 none (b_row_text X)
def b_text_of (X : Ix) : List Stm := [.asg 1 (.lst []), .for (.one 2) .seq [(.loc 0)] [.exp (.m1 .append (.loc 1) (.bin .add (.str [109, 111, 100, 117, 108, 101, 32]) (.ix (.loc 2) (.int 0)))), .exp (.m1 .extend (.loc 1) (.lc (.call X.row_text [(.loc 3)]) (.one 3) .seq [(.ix (.loc 2) (.int 1))] (.bl true)))], .ret (.m1 .join (.str [10]) (.loc 1))]
def F_text_of (X : Ix) : FD := .py 1 4 none (b_text_of X)
def b_shown (X : Ix) : List Stm := [.exp (.call X.look [(.loc 0)]), .ret (.call X.text_of [(.loc 0)])]
def F_shown (X : Ix) : FD := .py 1 1 none (b_shown X)
def b_law_cell (X : Ix) : List Stm := [.ite (.cmp .lt (.loc 1) (.b1 .len (.loc 0))) [.ret (.ix (.loc 0) (.loc 1))] [], .ret (.int 0)]
def F_law_cell (X : Ix) : FD := .py 2 2 none (b_law_cell X)
def b_law_seed (X : Ix) : List Stm := [.ret (.bin .mod (.bin .pow (.bin .mod (.bin .add (.bin .add (.bin .mul (.loc 0) (.int 1103515245)) (.bin .mul (.int 7919) (.loc 1))) (.int 12345)) (.int 2147483647)) (.int 5)) (.int 2147483647))]
def F_law_seed (X : Ix) : FD := .py 2 2 none (b_law_seed X)
def b_law_pick (X : Ix) : List Stm := [.ret (.bin .mod (.bin .fdiv (.loc 0) (.int 97)) (.loc 1))]
def F_law_pick (X : Ix) : FD := .py 2 2 none (b_law_pick X)
def b_law_expression (X : Ix) : List Stm := [.asg 3 (.call X.law_pick [(.loc 0), (.int 8)]), .ite (.or2 (.cmp .eq (.loc 2) (.int 0)) (.cmp .lt (.loc 3) (.int 2))) [.ite (.and2 (.cmp .ne (.loc 1) (.lst [])) (.cmp .ne (.bin .mod (.loc 3) (.int 4)) (.int 3))) [.ret (.tup [(.str [110, 97, 109, 101]), (.ix (.loc 1) (.bin .mod (.bin .fdiv (.loc 0) (.int 7)) (.b1 .len (.loc 1))))])] [], .ret (.ix (.lst [(.bin .mod (.bin .fdiv (.loc 0) (.int 7)) (.int 10007)), (.bin .mod (.bin .fdiv (.loc 0) (.int 7)) (.int 4))]) (.bin .mod (.bin .fdiv (.loc 0) (.int 11)) (.int 2)))] [], .asg 4 (.call X.law_expression [(.call X.law_seed [(.loc 0), (.int 1)]), (.loc 1), (.bin .sub (.loc 2) (.int 1))]), .ret (.tup [(.ix (.lst [(.str [112, 108, 117, 115]), (.str [116, 105, 109, 101, 115])]) (.bin .mod (.bin .fdiv (.loc 0) (.int 13)) (.int 2))), (.loc 4), (.call X.law_expression [(.call X.law_seed [(.loc 0), (.int 2)]), (.loc 1), (.bin .sub (.loc 2) (.int 1))])])]
def F_law_expression (X : Ix) : FD := .py 3 5 none (b_law_expression X)
def b_law_gives (X : Ix) : List Stm := [.ret (.bin .add (.slc (.lst [(.str [103, 97]), (.str [103, 98]), (.str [103, 99]), (.str [103, 100])]) .non (.bin .add (.int 3) (.bin .mod (.loc 0) (.int 2)))) (.lst [(.str [112])]))]
def F_law_gives (X : Ix) : FD := .py 1 1 none (b_law_gives X)
def b_law_module (X : Ix) : List Stm := [.asg 4 (.lc (.loc 5) (.one 5) .rng1 [(.loc 2)] (.or2 (.cmp .gt (.loc 5) (.loc 1)) (.and2 (.loc 3) (.cmp .ne (.loc 5) (.loc 1))))), .asg 6 (.lst []), .asg 7 (.lst []), .for (.one 5) .rng1 [(.ife (.cmp .ne (.loc 4) (.lst [])) (.bin .mod (.bin .fdiv (.loc 0) (.int 5)) (.int 3)) (.int 0))] [.asg 8 (.call X.law_seed [(.loc 0), (.loc 5)]), .asg 9 (.ix (.loc 4) (.call X.law_pick [(.loc 8), (.b1 .len (.loc 4))])), .exp (.m1 .append (.loc 6) (.tup [(.str [116, 97, 107, 101]), (.bin .add (.str [109]) (.ix (.str [97, 98, 99, 100, 101, 102]) (.loc 9))), (.ix (.call X.law_gives [(.loc 9)]) (.bin .mod (.bin .fdiv (.loc 8) (.int 7)) (.int 4))), (.bin .add (.str [116]) (.ix (.str [120, 121, 122]) (.loc 5)))])), .exp (.m1 .append (.loc 7) (.bin .add (.str [116]) (.ix (.str [120, 121, 122]) (.loc 5))))], .for (.one 5) .rng1 [(.bin .add (.int 3) (.bin .mod (.loc 1) (.int 2)))] [.asg 10 (.bin .add (.loc 7) (.lc (.bin .add (.str [115]) (.ix (.str [119, 120, 121, 122]) (.loc 11))) (.one 11) .rng1 [(.bin .add (.int 3) (.bin .mod (.loc 1) (.int 2)))] (.bl true))), .asg 12 (.call X.law_expression [(.call X.law_seed [(.loc 0), (.bin .add (.int 10) (.loc 5))]), (.loc 10), (.bin .add (.int 2) (.b1 .into (.cmp .eq (.bin .mod (.bin .fdiv (.bin .add (.loc 0) (.loc 5)) (.int 23)) (.int 5)) (.int 0))))]), .exp (.m1 .append (.loc 6) (.tup [(.str [115, 101, 116]), (.bin .add (.str [115]) (.ix (.str [119, 120, 121, 122]) (.loc 5))), (.loc 12)]))], .asg 7 (.bin .add (.loc 7) (.lc (.bin .add (.str [115]) (.ix (.str [119, 120, 121, 122]) (.loc 5))) (.one 5) .rng1 [(.bin .add (.int 3) (.bin .mod (.loc 1) (.int 2)))] (.bl true))), .ret (.callm X.law_filled 2 [(.loc 0), (.loc 1), (.loc 6), (.loc 7), (.bin .add (.loc 4) (.bin .mul (.lst [(.int 9)]) (.b1 .into (.loc 3))))])]
def F_law_module (X : Ix) : FD := .py 4 13 none (b_law_module X)
def b_law_filled (X : Ix) : List Stm := [.asg 5 (.cmp .isin (.int 9) (.loc 4)), .asg 4 (.lc (.loc 6) (.one 6) .seq [(.loc 4)] (.cmp .ne (.loc 6) (.int 9))), .for (.one 6) .rng1 [(.bin .mod (.bin .fdiv (.loc 0) (.int 17)) (.int 3))] [.asg 7 (.call X.law_seed [(.loc 0), (.bin .add (.int 20) (.loc 6))]), .asg 8 (.tup [(.str [110, 111, 116, 101]), (.call X.law_expression [(.loc 7), (.loc 3), (.int 2)])]), .ite (.and2 (.cmp .ne (.loc 4) (.lst [])) (.cmp .eq (.bin .mod (.bin .fdiv (.loc 7) (.int 7)) (.int 3)) (.int 0))) [.asg 8 (.tup [(.str [114, 117, 110]), (.bin .add (.str [109]) (.ix (.str [97, 98, 99, 100, 101, 102]) (.ix (.loc 4) (.bin .mod (.bin .fdiv (.loc 7) (.int 11)) (.b1 .len (.loc 4))))))])] [], .asg 9 (.bin .mod (.bin .fdiv (.loc 7) (.int 13)) (.bin .add (.b1 .len (.loc 2)) (.int 1))), .asg 2 (.bin .add (.bin .add (.slc (.loc 2) .non (.loc 9)) (.lst [(.loc 8)])) (.slc (.loc 2) (.loc 9) .non))], .for (.many [6, 10]) .enm [(.slc (.call X.law_gives [(.loc 1)]) .non (.neg (.int 1)))] [.asg 11 (.lc (.loc 7) (.one 7) .seq [(.loc 3)] (.or2 (.cmp .eq (.ix (.loc 7) (.int 0)) (.str [115])) (.and2 (.nt (.loc 5)) (.cmp .gt (.loc 6) (.int 0))))), .exp (.m1 .append (.loc 2) (.tup [(.str [103, 105, 118, 101]), (.ix (.loc 11) (.call X.law_pick [(.call X.law_seed [(.loc 0), (.bin .add (.int 30) (.loc 6))]), (.b1 .len (.loc 11))])), (.loc 10)]))], .asg 7 (.call X.law_seed [(.loc 0), (.int 40)]), .asg 12 (.lc (.loc 6) (.one 6) .seq [(.loc 4)] (.cmp .gt (.loc 6) (.loc 1))), .ite (.cmp .ne (.loc 12) (.lst [])) [.exp (.m1 .append (.loc 2) (.tup [(.str [112, 97, 115, 115]), (.bin .add (.str [109]) (.ix (.str [97, 98, 99, 100, 101, 102]) (.ix (.loc 12) (.bin .mod (.bin .fdiv (.loc 7) (.int 7)) (.b1 .len (.loc 12)))))), (.str [103, 97]), (.str [112])]))] [.exp (.m1 .append (.loc 2) (.tup [(.str [103, 105, 118, 101]), (.str [115, 119]), (.str [112])]))], .ret (.tup [(.bin .add (.str [109]) (.ix (.str [97, 98, 99, 100, 101, 102]) (.loc 1))), (.b1 .tupo (.loc 2))])]
def F_law_filled (X : Ix) : FD := .py 5 13 (some 2) (b_law_filled X)
def b_law_program (X : Ix) : List Stm := [.asg 2 (.call X.law_seed [(.call X.law_cell [(.loc 0), (.loc 1)]), (.int 0)]), .asg 3 (.bin .add (.int 1) (.bin .mod (.bin .fdiv (.loc 2) (.int 3)) (.ix (.lst [(.int 4), (.int 5)]) (.b1 .into (.cmp .eq (.bin .mod (.bin .fdiv (.loc 2) (.int 19)) (.int 3)) (.int 0)))))), .asg 4 (.cmp .eq (.bin .mod (.call X.law_cell [(.loc 0), (.bin .add (.loc 1) (.int 1))]) (.int 2)) (.int 1)), .asg 5 (.lst []), .for (.one 6) .rng1 [(.loc 3)] [.exp (.m1 .append (.loc 5) (.call X.law_module [(.call X.law_seed [(.bin .add (.call X.law_cell [(.loc 0), (.bin .add (.bin .add (.loc 1) (.int 2)) (.bin .mod (.loc 6) (.int 3)))]) (.bin .mul (.int 17) (.loc 6))), (.loc 6)]), (.loc 6), (.loc 3), (.loc 4)]))], .asg 7 (.bin .mod (.bin .fdiv (.loc 2) (.int 13)) (.loc 3)), .ret (.b1 .tupo (.bin .add (.slc (.loc 5) (.loc 7) .non) (.slc (.loc 5) .non (.loc 7))))]
def F_law_program (X : Ix) : FD := .py 2 8 none (b_law_program X)
def b_lawk01 (X : Ix) : List Stm := [.asg 1 (.call X.law_program [(.loc 0), (.int 0)]), .ite (.cmp .ne (.call X.checked [(.loc 1)]) (.loc 1)) [.ret (.bl false)] [], .asg 2 (.bin .mod (.call X.law_cell [(.loc 0), (.int 5)]) (.b1 .len (.loc 1))), .asgt [3, 4] (.ix (.loc 1) (.loc 2)), .asg 5 (.int 1), .for (.one 6) .rng1 [(.int 8)] [.asg 5 (.tup [(.str [112, 108, 117, 115]), (.loc 5), (.int 1)])], .asg 7 (.lst [(.tup [(.str [65]), (.loc 4)]), (.tup [(.loc 3), (.b1 .lsto (.loc 4))]), (.tup [(.loc 3)]), (.lst [(.loc 3), (.loc 4)]), (.tup [(.loc 3), (.bin .mul (.loc 4) (.int 20))])]), .for (.one 8) .seq [(.lst [(.tup [(.str [116, 97, 107, 101]), (.str [109, 98]), (.str [103, 97])]), (.int 3), (.tup [(.str [115, 101, 116]), (.str [115, 119]), (.int 1)]), (.tup [(.str [103, 105, 118, 101]), (.str [122, 122]), (.str [113])]), (.tup [(.str [114, 117, 110]), (.str [65])]), (.tup [(.str [103, 105, 118, 101]), (.str [115, 119]), (.str [103, 97])])])] [.exp (.m1 .append (.loc 7) (.tup [(.loc 3), (.bin .add (.loc 4) (.tup [(.loc 8)]))]))], .for (.one 9) .seq [(.lst [(.tup [(.str [110, 97, 109, 101]), (.str [122, 122])]), (.tup [(.str [110, 97, 109, 101]), (.str [103, 97])]), (.int 10007), (.bl true), (.neg (.int 1)), (.tup [(.str [112, 108, 117, 115]), (.int 1)]), (.tup [(.str [108, 101, 115, 115]), (.int 1), (.int 2)]), (.loc 5)])] [.exp (.m1 .append (.loc 7) (.tup [(.loc 3), (.bin .add (.loc 4) (.tup [(.tup [(.str [110, 111, 116, 101]), (.loc 9)])]))]))], .asg 10 (.bin .add (.bin .add (.slc (.loc 1) .non (.loc 2)) (.tup [(.ix (.loc 7) (.bin .mod (.call X.law_cell [(.loc 0), (.int 6)]) (.int 19)))])) (.slc (.loc 1) (.bin .add (.loc 2) (.int 1)) .non)), .asg 11 (.lst [(.loc 10), (.loc 10), (.loc 10), (.b1 .lsto (.loc 1)), (.bin .add (.loc 1) (.slc (.loc 1) .non (.int 1))), (.bin .add (.loc 1) (.bin .mul (.tup [(.tup [(.str [113]), (.tup [])])]) (.int 7))), .non]), .asg 10 (.ix (.loc 11) (.bin .mod (.call X.law_cell [(.loc 0), (.int 7)]) (.int 7))), .asg 12 (.int 0), .for (.one 13) .rng1 [(.int 4)] [.try [.ite (.cmp .eq (.loc 13) (.int 0)) [.exp (.call X.checked [(.loc 10)])] [.ite (.cmp .eq (.loc 13) (.int 1)) [.exp (.call X.order [(.loc 10), .non])] [.ite (.cmp .eq (.loc 13) (.int 2)) [.exp (.call X.bundle [(.loc 10), .non, .non])] [.exp (.call X.shown [(.loc 10)])]]]] [(X.xBadProgram, [.aug 12 (.int 1)]), (X.xNoModule, [.aug 12 (.int 9)])]], .ret (.cmp .eq (.loc 12) (.int 4))]
def F_lawk01 (X : Ix) : FD := .py 1 14 none (b_lawk01 X)
def b_home (X : Ix) : List Stm := [.exp (.call X.look_module [(.loc 0), (.loc 1)]), .ite (.or2 (.nt (.call X.is_word [(.loc 2)])) (.isn false (.call X.row_of [(.call X.module_of [(.loc 0), (.loc 1)]), (.loc 2)]))) [.rse X.xBadName] [], .ret (.call X.home_of [(.loc 0), (.loc 1), (.loc 2)])]
def F_home (X : Ix) : FD := .py 3 3 none (b_home X)
def b_users (X : Ix) : List Stm := [.exp (.call X.look_module [(.loc 0), (.loc 1)]), .asg 2 (.lst []), .for (.one 3) .seq [(.loc 0)] [.ite (.lc (.loc 4) (.one 4) .seq [(.ix (.loc 3) (.int 1))] (.and2 (.cmp .isin (.ix (.loc 4) (.int 0)) (.tup [(.str [116, 97, 107, 101]), (.str [112, 97, 115, 115]), (.str [114, 117, 110])])) (.cmp .eq (.ix (.loc 4) (.int 1)) (.loc 1)))) [.exp (.m1 .append (.loc 2) (.ix (.loc 3) (.int 0)))] []], .ret (.b1 .srt (.loc 2))]
def F_users (X : Ix) : FD := .py 2 5 none (b_users X)
def b_law_rows (X : Ix) : List Stm := [.for (.many [2, 3]) .seq [(.loc 0)] [.ite (.cmp .eq (.loc 2) (.loc 1)) [.ret (.loc 3)] []], .ret .non]
def F_law_rows (X : Ix) : FD := .py 2 4 none (b_law_rows X)
def b_law_home (X : Ix) : List Stm := [.for (.one 3) .seq [(.call X.law_rows [(.loc 0), (.loc 1)])] [.ite (.and2 (.cmp .eq (.ix (.loc 3) (.int 0)) (.str [115, 101, 116])) (.cmp .eq (.ix (.loc 3) (.int 1)) (.loc 2))) [.ret (.tup [(.loc 1), (.loc 2)])] [], .ite (.and2 (.cmp .eq (.ix (.loc 3) (.int 0)) (.str [116, 97, 107, 101])) (.cmp .eq (.ix (.loc 3) (.int 3)) (.loc 2))) [.ret (.call X.law_given_home [(.loc 0), (.ix (.loc 3) (.int 1)), (.ix (.loc 3) (.int 2))])] []], .ret .non]
def F_law_home (X : Ix) : FD := .py 3 4 none (b_law_home X)
def b_law_given_home (X : Ix) : List Stm := [.for (.one 3) .seq [(.call X.law_rows [(.loc 0), (.loc 1)])] [.ite (.and2 (.cmp .eq (.ix (.loc 3) (.int 0)) (.str [103, 105, 118, 101])) (.cmp .eq (.ix (.loc 3) (.int 2)) (.loc 2))) [.ret (.call X.law_home [(.loc 0), (.loc 1), (.ix (.loc 3) (.int 1))])] [], .ite (.and2 (.cmp .eq (.ix (.loc 3) (.int 0)) (.str [112, 97, 115, 115])) (.cmp .eq (.ix (.loc 3) (.int 3)) (.loc 2))) [.ret (.call X.law_given_home [(.loc 0), (.ix (.loc 3) (.int 1)), (.ix (.loc 3) (.int 2))])] []], .ret .non]
def F_law_given_home (X : Ix) : FD := .py 3 4 none (b_law_given_home X)
def b_lawk02 (X : Ix) : List Stm := [.asg 1 (.call X.law_program [(.loc 0), (.int 0)]), .asgt [2, 3] (.ix (.loc 1) (.bin .mod (.call X.law_cell [(.loc 0), (.int 5)]) (.b1 .len (.loc 1)))), .asg 4 (.lc (.ife (.cmp .eq (.ix (.loc 5) (.int 0)) (.str [116, 97, 107, 101])) (.ix (.loc 5) (.int 3)) (.ix (.loc 5) (.int 1))) (.one 5) .seq [(.loc 3)] (.cmp .isin (.ix (.loc 5) (.int 0)) (.tup [(.str [116, 97, 107, 101]), (.str [115, 101, 116])]))), .for (.one 6) .seq [(.loc 4)] [.ite (.cmp .ne (.call X.home [(.loc 1), (.loc 2), (.loc 6)]) (.call X.law_home [(.loc 1), (.loc 2), (.loc 6)])) [.ret (.bl false)] []], .asg 7 (.lst []), .for (.many [8, 9]) .seq [(.loc 1)] [.ite (.cmp .ne (.lc (.loc 5) (.one 5) .seq [(.loc 9)] (.and2 (.cmp .isin (.ix (.loc 5) (.int 0)) (.tup [(.str [116, 97, 107, 101]), (.str [112, 97, 115, 115]), (.str [114, 117, 110])])) (.cmp .eq (.ix (.loc 5) (.int 1)) (.loc 2)))) (.lst [])) [.exp (.m1 .append (.loc 7) (.loc 8))] []], .ite (.or2 (.cmp .ne (.call X.users [(.loc 1), (.loc 2)]) (.b1 .srt (.loc 7))) (.nt (.isi .list (.call X.users [(.loc 1), (.loc 2)])))) [.ret (.bl false)] [], .asg 10 (.lst []), .for (.one 11) .rng1 [(.int 3)] [.try [.ite (.cmp .eq (.loc 11) (.int 0)) [.exp (.call X.home [(.loc 1), (.ix (.lst [(.str [113]), .non, (.str [65]), (.int 3)]) (.bin .mod (.call X.law_cell [(.loc 0), (.int 6)]) (.int 4))), .non])] [.ite (.cmp .eq (.loc 11) (.int 1)) [.exp (.call X.home [(.loc 1), (.loc 2), (.ix (.lst [(.str [113]), .non, (.str [103, 97]), (.int 3)]) (.bin .mod (.call X.law_cell [(.loc 0), (.int 6)]) (.int 4)))])] [.exp (.call X.users [(.loc 1), (.ix (.lst [(.str [113]), .non, (.str [65]), (.int 3)]) (.bin .mod (.call X.law_cell [(.loc 0), (.int 6)]) (.int 4)))])]]] [(X.xNoModule, [.exp (.m1 .append (.loc 10) (.str [109, 111, 100, 117, 108, 101]))]), (X.xBadName, [.exp (.m1 .append (.loc 10) (.str [110, 97, 109, 101]))])]], .ret (.cmp .eq (.loc 10) (.lst [(.str [109, 111, 100, 117, 108, 101]), (.str [110, 97, 109, 101]), (.str [109, 111, 100, 117, 108, 101])]))]
def F_lawk02 (X : Ix) : FD := .py 1 12 none (b_lawk02 X)
def b_value_of (X : Ix) : List Stm := [.ite (.isi .int (.loc 2)) [.ret (.loc 2)] [], .ite (.cmp .eq (.ix (.loc 2) (.int 0)) (.str [110, 97, 109, 101])) [.ret (.get2 (.loc 3) (.call X.home_of [(.loc 0), (.loc 1), (.ix (.loc 2) (.int 1))]) (.int 0))] [], .asg 4 (.call X.value_of [(.loc 0), (.loc 1), (.ix (.loc 2) (.int 1)), (.loc 3)]), .asg 5 (.call X.value_of [(.loc 0), (.loc 1), (.ix (.loc 2) (.int 2)), (.loc 3)]), .ret (.bin .mod (.ife (.cmp .eq (.ix (.loc 2) (.int 0)) (.str [112, 108, 117, 115])) (.bin .add (.loc 4) (.loc 5)) (.bin .mul (.loc 4) (.loc 5))) (.gl X.cPRIME))]
def F_value_of (X : Ix) : FD := .py 4 6 none (b_value_of X)
def b_run_of (X : Ix) : List Stm := [.asg 2 (.dnw false), .asg 3 (.lst []), .for (.one 4) .seq [(.call X.order_of [(.loc 0), (.loc 1)])] [.for (.one 5) .seq [(.ix (.call X.module_of [(.loc 0), (.loc 4)]) (.int 1))] [.ite (.cmp .eq (.ix (.loc 5) (.int 0)) (.str [115, 101, 116])) [.sst 2 (.tup [(.loc 4), (.ix (.loc 5) (.int 1))]) (.call X.value_of [(.loc 0), (.loc 4), (.ix (.loc 5) (.int 2)), (.loc 2)])] [], .ite (.cmp .eq (.ix (.loc 5) (.int 0)) (.str [110, 111, 116, 101])) [.exp (.m1 .append (.loc 3) (.call X.value_of [(.loc 0), (.loc 4), (.ix (.loc 5) (.int 1)), (.loc 2)]))] []]], .ret (.tup [(.loc 3), (.lc (.tup [(.loc 6), (.get2 (.loc 2) (.loc 7) (.int 0))]) (.many [6, 7]) .seq [(.call X.given_homes [(.loc 0), (.loc 1)])] (.bl true))])]
def F_run_of (X : Ix) : FD := .py 2 8 none (b_run_of X)
def b_run (X : Ix) : List Stm := [.exp (.call X.look_module [(.loc 0), (.loc 1)]), .ret (.call X.run_of [(.loc 0), (.loc 1)])]
def F_run (X : Ix) : FD := .py 2 2 none (b_run X)
def b_law_order (X : Ix) : List Stm := [.asg 2 (.lst []), .asg 3 (.lst [(.loc 1)]), .asg 4 (.lst [(.tup [(.loc 1), (.int 0)])]), .whl (.cmp .ne (.loc 4) (.lst [])) [.asgt [5, 6] (.m0 .pop (.loc 4)), .asg 7 (.call X.law_rows [(.loc 0), (.loc 5)]), .ite (.cmp .eq (.loc 6) (.b1 .len (.loc 7))) [.exp (.m1 .append (.loc 2) (.loc 5))] [.exp (.m1 .append (.loc 4) (.tup [(.loc 5), (.bin .add (.loc 6) (.int 1))])), .ite (.and2 (.cmp .isin (.ix (.ix (.loc 7) (.loc 6)) (.int 0)) (.tup [(.str [116, 97, 107, 101]), (.str [112, 97, 115, 115]), (.str [114, 117, 110])])) (.cmp .notin (.ix (.ix (.loc 7) (.loc 6)) (.int 1)) (.loc 3))) [.exp (.m1 .append (.loc 3) (.ix (.ix (.loc 7) (.loc 6)) (.int 1))), .exp (.m1 .append (.loc 4) (.tup [(.ix (.ix (.loc 7) (.loc 6)) (.int 1)), (.int 0)]))] []]], .ret (.loc 2)]
def F_law_order (X : Ix) : FD := .py 2 8 none (b_law_order X)
def b_law_value (X : Ix) : List Stm := [.ite (.isi .int (.loc 2)) [.ret (.loc 2)] [], .ite (.cmp .eq (.ix (.loc 2) (.int 0)) (.str [110, 97, 109, 101])) [.ret (.get2 (.loc 3) (.call X.law_home [(.loc 0), (.loc 1), (.ix (.loc 2) (.int 1))]) (.int 0))] [], .asg 4 (.call X.law_value [(.loc 0), (.loc 1), (.ix (.loc 2) (.int 1)), (.loc 3)]), .asg 5 (.call X.law_value [(.loc 0), (.loc 1), (.ix (.loc 2) (.int 2)), (.loc 3)]), .ite (.cmp .eq (.ix (.loc 2) (.int 0)) (.str [112, 108, 117, 115])) [.ret (.bin .mod (.bin .add (.loc 4) (.loc 5)) (.int 10007))] [], .ret (.bin .mod (.bin .mul (.loc 4) (.loc 5)) (.int 10007))]
def F_law_value (X : Ix) : FD := .py 4 6 none (b_law_value X)
def b_law_run (X : Ix) : List Stm := [.asg 2 (.dnw false), .asg 3 (.lst []), .for (.one 4) .seq [(.call X.law_order [(.loc 0), (.loc 1)])] [.for (.one 5) .seq [(.call X.law_rows [(.loc 0), (.loc 4)])] [.ite (.cmp .eq (.ix (.loc 5) (.int 0)) (.str [115, 101, 116])) [.sst 2 (.tup [(.loc 4), (.ix (.loc 5) (.int 1))]) (.call X.law_value [(.loc 0), (.loc 4), (.ix (.loc 5) (.int 2)), (.loc 2)])] [], .ite (.cmp .eq (.ix (.loc 5) (.int 0)) (.str [110, 111, 116, 101])) [.exp (.m1 .append (.loc 3) (.call X.law_value [(.loc 0), (.loc 4), (.ix (.loc 5) (.int 1)), (.loc 2)]))] []]], .asg 6 (.lst []), .for (.one 5) .seq [(.call X.law_rows [(.loc 0), (.loc 1)])] [.ite (.cmp .isin (.ix (.loc 5) (.int 0)) (.tup [(.str [103, 105, 118, 101]), (.str [112, 97, 115, 115])])) [.exp (.m1 .append (.loc 6) (.tup [(.ix (.loc 5) (.neg (.int 1))), (.get2 (.loc 2) (.call X.law_given_home [(.loc 0), (.loc 1), (.ix (.loc 5) (.neg (.int 1)))]) (.int 0))]))] []], .ret (.tup [(.loc 3), (.b1 .srt (.loc 6))])]
def F_law_run (X : Ix) : FD := .py 2 7 none (b_law_run X)
def b_law_names (X : Ix) : List Stm := [.ite (.isi .int (.loc 0)) [.ret (.lst [])] [], .ite (.cmp .eq (.ix (.loc 0) (.int 0)) (.str [110, 97, 109, 101])) [.ret (.lst [(.ix (.loc 0) (.int 1))])] [], .ret (.bin .add (.call X.law_names [(.ix (.loc 0) (.int 1))]) (.call X.law_names [(.ix (.loc 0) (.int 2))]))]
def F_law_names (X : Ix) : FD := .py 1 1 none (b_law_names X)
def b_law_kept (X : Ix) : List Stm := [.asg 2 (.lst []), .asg 3 (.lst []), .for (.one 4) .seq [(.call X.law_order [(.loc 0), (.loc 1)])] [.for (.one 5) .seq [(.call X.law_rows [(.loc 0), (.loc 4)])] [.ite (.cmp .eq (.ix (.loc 5) (.int 0)) (.str [115, 101, 116])) [.exp (.m1 .append (.loc 2) (.tup [(.loc 4), (.ix (.loc 5) (.int 1)), (.ix (.loc 5) (.int 2))]))] [], .ite (.cmp .eq (.ix (.loc 5) (.int 0)) (.str [110, 111, 116, 101])) [.asg 3 (.bin .add (.loc 3) (.lc (.call X.law_home [(.loc 0), (.loc 4), (.loc 6)]) (.one 6) .seq [(.call X.law_names [(.ix (.loc 5) (.int 1))])] (.bl true)))] []]], .for (.one 5) .seq [(.call X.law_rows [(.loc 0), (.loc 1)])] [.ite (.cmp .isin (.ix (.loc 5) (.int 0)) (.tup [(.str [103, 105, 118, 101]), (.str [112, 97, 115, 115])])) [.exp (.m1 .append (.loc 3) (.call X.law_given_home [(.loc 0), (.loc 1), (.ix (.loc 5) (.neg (.int 1)))]))] []], .for (.one 7) .rng1 [(.b1 .len (.loc 2))] [.for (.many [4, 8, 9]) .seq [(.loc 2)] [.ite (.cmp .isin (.tup [(.loc 4), (.loc 8)]) (.loc 3)) [.asg 10 (.lc (.call X.law_home [(.loc 0), (.loc 4), (.loc 6)]) (.one 6) .seq [(.call X.law_names [(.loc 9)])] (.bl true)), .asg 3 (.bin .add (.loc 3) (.lc (.loc 11) (.one 11) .seq [(.loc 10)] (.cmp .notin (.loc 11) (.loc 3))))] []]], .asg 12 (.lc (.slc (.loc 13) .non (.int 2)) (.one 13) .seq [(.loc 2)] (.bl true)), .ret (.tup [(.lc (.loc 13) (.one 13) .seq [(.loc 12)] (.cmp .isin (.loc 13) (.loc 3))), (.lc (.loc 13) (.one 13) .seq [(.loc 12)] (.cmp .notin (.loc 13) (.loc 3)))])]
def F_law_kept (X : Ix) : FD := .py 2 14 none (b_law_kept X)
def b_law_too_long (X : Ix) : List Stm := [.ret (.cmp .gt (.b1 .sumo (.lc (.b1 .len (.loc 2)) (.many [1, 2]) .seq [(.loc 0)] (.bl true))) (.int 60))]
def F_law_too_long (X : Ix) : FD := .py 1 3 none (b_law_too_long X)
def b_law_refused (X : Ix) : List Stm := [.try [.exp (.call X.checked [(.loc 0)])] [(X.xBadProgram, [.ret (.bl true)])], .ret (.bl false)]
def F_law_refused (X : Ix) : FD := .py 1 1 none (b_law_refused X)
def b_lawk03 (X : Ix) : List Stm := [.asg 1 (.call X.law_program [(.loc 0), (.int 0)]), .asg 2 (.ix (.ix (.loc 1) (.bin .mod (.call X.law_cell [(.loc 0), (.int 5)]) (.b1 .len (.loc 1)))) (.int 0)), .asg 3 (.lst [(.tup [(.tup [(.str [116, 97, 107, 101]), (.loc 2), (.str [103, 97]), (.str [120])])]), (.tup [(.tup [(.str [116, 97, 107, 101]), (.loc 2), (.str [110, 111, 110, 101]), (.str [120])])]), (.tup [(.tup [(.str [116, 97, 107, 101]), (.str [113]), (.str [103, 97]), (.str [120])])])]), .asg 3 (.bin .add (.loc 3) (.lst [(.tup [(.tup [(.str [114, 117, 110]), (.str [113])])]), (.tup [(.tup [(.str [112, 97, 115, 115]), (.loc 2), (.str [110, 111, 110, 101]), (.str [120])])]), (.tup [(.tup [(.str [112, 97, 115, 115]), (.str [110]), (.str [120]), (.str [120])])])])), .asg 3 (.bin .add (.loc 3) (.lst [(.tup [(.tup [(.str [116, 97, 107, 101]), (.str [110]), (.str [121]), (.str [120])]), (.tup [(.str [103, 105, 118, 101]), (.str [120]), (.str [121])])])])), .asg 3 (.bin .add (.loc 3) (.lst [(.tup [(.tup [(.str [112, 97, 115, 115]), (.str [110]), (.str [121]), (.str [120])]), (.tup [(.str [112, 97, 115, 115]), (.str [110]), (.str [120]), (.str [121])])]), (.tup [(.tup [(.str [114, 117, 110]), (.str [110])]), (.tup [(.str [112, 97, 115, 115]), (.loc 2), (.str [112]), (.str [120])])])])), .asg 4 (.bin .mod (.call X.law_cell [(.loc 0), (.int 6)]) (.int 9)), .asg 5 (.bin .add (.loc 1) (.tup [(.tup [(.str [110]), (.ix (.loc 3) (.loc 4))])])), .ite (.cmp .eq (.bin .mod (.call X.law_cell [(.loc 0), (.int 7)]) (.int 2)) (.int 0)) [.asg 5 (.bin .add (.tup [(.tup [(.str [110]), (.ix (.loc 3) (.loc 4))])]) (.loc 1))] [], .ite (.call X.law_too_long [(.loc 5)]) [.ret (.call X.law_refused [(.loc 5)])] [], .asg 6 (.lst []), .for (.one 7) .rng1 [(.int 3)] [.try [.ite (.cmp .eq (.loc 7) (.int 0)) [.ite (.cmp .eq (.call X.checked [(.loc 5)]) (.loc 5)) [.exp (.m1 .append (.loc 6) (.str [103, 111, 111, 100]))] []] [.ite (.cmp .eq (.loc 7) (.int 1)) [.ite (.cmp .eq (.call X.run [(.loc 5), (.loc 2)]) (.call X.law_run [(.loc 1), (.loc 2)])) [.exp (.m1 .append (.loc 6) (.str [103, 111, 111, 100]))] []] [.ite (.cmp .eq (.call X.kept [(.loc 5), (.loc 2)]) (.ix (.call X.law_kept [(.loc 1), (.loc 2)]) (.int 0))) [.exp (.m1 .append (.loc 6) (.str [103, 111, 111, 100]))] []]]] [(X.xMissing, [.exp (.m1 .append (.loc 6) (.str [109, 105, 115, 115, 105, 110, 103]))]), (X.xRinged, [.exp (.m1 .append (.loc 6) (.str [114, 105, 110, 103, 101, 100]))])]], .asg 8 (.ix (.lst [(.str [103, 111, 111, 100]), (.str [109, 105, 115, 115, 105, 110, 103]), (.str [109, 105, 115, 115, 105, 110, 103]), (.str [109, 105, 115, 115, 105, 110, 103]), (.str [109, 105, 115, 115, 105, 110, 103]), (.str [114, 105, 110, 103, 101, 100]), (.str [114, 105, 110, 103, 101, 100]), (.str [114, 105, 110, 103, 101, 100]), (.str [103, 111, 111, 100])]) (.loc 4)), .ret (.cmp .eq (.loc 6) (.bin .mul (.lst [(.loc 8)]) (.int 3)))]
def F_lawk03 (X : Ix) : FD := .py 1 9 none (b_lawk03 X)
def b_lawk04 (X : Ix) : List Stm := [.asg 1 (.call X.law_program [(.loc 0), (.int 0)]), .asg 2 (.ix (.ix (.loc 1) (.bin .mod (.call X.law_cell [(.loc 0), (.int 5)]) (.b1 .len (.loc 1)))) (.int 0)), .asg 3 (.call X.order [(.loc 1), (.loc 2)]), .ite (.or2 (.nt (.isi .list (.loc 3))) (.or2 (.cmp .ne (.loc 3) (.call X.law_order [(.loc 1), (.loc 2)])) (.cmp .ne (.ix (.loc 3) (.neg (.int 1))) (.loc 2)))) [.ret (.bl false)] [], .ite (.cmp .ne (.b1 .lset (.loc 3)) (.b1 .len (.loc 3))) [.ret (.bl false)] [], .ite (.cmp .eq (.bin .mod (.call X.law_cell [(.loc 0), (.int 1)]) (.int 2)) (.int 0)) [.for (.many [4, 5]) .enm [(.loc 3)] [.asg 6 (.lc (.ix (.loc 7) (.int 1)) (.one 7) .seq [(.call X.law_rows [(.loc 1), (.loc 5)])] (.cmp .isin (.ix (.loc 7) (.int 0)) (.tup [(.str [116, 97, 107, 101]), (.str [112, 97, 115, 115]), (.str [114, 117, 110])]))), .ite (.cmp .ne (.lc (.loc 8) (.one 8) .seq [(.loc 6)] (.cmp .notin (.loc 8) (.slc (.loc 3) .non (.loc 4)))) (.lst [])) [.ret (.bl false)] []]] [], .asg 9 (.int 0), .for (.one 10) .seq [(.tup [(.str [113]), .non, (.int 3)])] [.try [.exp (.call X.order [(.loc 1), (.loc 10)])] [(X.xNoModule, [.aug 9 (.int 1)])]], .ret (.cmp .eq (.loc 9) (.int 3))]
def F_lawk04 (X : Ix) : FD := .py 1 11 none (b_lawk04 X)
def b_law_whole (X : Ix) : List Stm := [.ret (.and2 (.isi .int (.loc 0)) (.nt (.isi .bool (.loc 0))))]
def F_law_whole (X : Ix) : FD := .py 1 1 none (b_law_whole X)
def b_lawk05 (X : Ix) : List Stm := [.asg 1 (.call X.law_program [(.loc 0), (.int 0)]), .asg 2 (.ix (.ix (.loc 1) (.bin .mod (.call X.law_cell [(.loc 0), (.int 5)]) (.b1 .len (.loc 1)))) (.int 0)), .asg 3 (.call X.run [(.loc 1), (.loc 2)]), .ite (.or2 (.nt (.isi .tuple (.loc 3))) (.or2 (.nt (.isi .list (.ix (.loc 3) (.int 0)))) (.nt (.isi .list (.ix (.loc 3) (.int 1)))))) [.ret (.bl false)] [], .ite (.cmp .ne (.lc (.loc 4) (.one 4) .seq [(.ix (.loc 3) (.int 0))] (.or2 (.nt (.call X.law_whole [(.loc 4)])) (.nt (.chn .le .lt (.int 0) (.loc 4) (.int 10007))))) (.lst [])) [.ret (.bl false)] [], .ret (.cmp .eq (.loc 3) (.call X.law_run [(.loc 1), (.loc 2)]))]
def F_lawk05 (X : Ix) : FD := .py 1 5 none (b_lawk05 X)
def b_lawk06 (X : Ix) : List Stm := [.asg 1 (.call X.law_program [(.loc 0), (.int 0)]), .asg 2 (.ix (.ix (.loc 1) (.bin .mod (.call X.law_cell [(.loc 0), (.int 5)]) (.b1 .len (.loc 1)))) (.int 0)), .asg 3 (.ix (.lst [(.str [111, 110, 101]), (.loc 2), (.str [109, 97]), (.str [113])]) (.bin .mod (.call X.law_cell [(.loc 0), (.int 6)]) (.int 4))), .asg 4 (.call X.bundle [(.loc 1), (.loc 2), (.loc 3)]), .ite (.or2 (.cmp .ne (.ix (.loc 4) (.int 0)) (.loc 3)) (.cmp .ne (.call X.checked [(.tup [(.loc 4)])]) (.tup [(.loc 4)]))) [.ret (.bl false)] [], .ite (.or2 (.cmp .ne (.call X.run [(.tup [(.loc 4)]), (.loc 3)]) (.call X.run [(.loc 1), (.loc 2)])) (.cmp .ne (.call X.order [(.tup [(.loc 4)]), (.loc 3)]) (.lst [(.loc 3)]))) [.ret (.bl false)] [], .asg 5 (.int 0), .for (.one 6) .seq [(.tup [.non, (.str []), (.str [65]), (.str [116, 111, 111, 108, 111, 110, 103])])] [.try [.exp (.call X.bundle [(.loc 1), (.loc 2), (.loc 6)])] [(X.xBadName, [.aug 5 (.int 1)])]], .ret (.cmp .eq (.loc 5) (.int 4))]
def F_lawk06 (X : Ix) : FD := .py 1 7 none (b_lawk06 X)
def b_law_turned (X : Ix) : List Stm := [.ite (.isi .int (.loc 2)) [.ret (.loc 2)] [], .ite (.cmp .eq (.ix (.loc 2) (.int 0)) (.str [110, 97, 109, 101])) [.ret (.tup [(.str [110, 97, 109, 101]), (.get2 (.loc 3) (.call X.law_home [(.loc 0), (.loc 1), (.ix (.loc 2) (.int 1))]) (.str [122, 122, 122, 122, 122, 122]))])] [], .asg 4 (.call X.law_turned [(.loc 0), (.loc 1), (.ix (.loc 2) (.int 1)), (.loc 3)]), .ret (.tup [(.ix (.loc 2) (.int 0)), (.loc 4), (.call X.law_turned [(.loc 0), (.loc 1), (.ix (.loc 2) (.int 2)), (.loc 3)])])]
def F_law_turned (X : Ix) : FD := .py 4 5 none (b_law_turned X)
def b_lawk07 (X : Ix) : List Stm := [.asg 1 (.call X.law_program [(.loc 0), (.int 0)]), .asg 2 (.ix (.ix (.loc 1) (.bin .mod (.call X.law_cell [(.loc 0), (.int 5)]) (.b1 .len (.loc 1)))) (.int 0)), .asg 3 (.ix (.call X.law_kept [(.loc 1), (.loc 2)]) (.int 0)), .asg 4 (.ix (.call X.bundle [(.loc 1), (.loc 2), (.str [111, 110, 101])]) (.int 1)), .asg 5 (.dnw false), .for (.one 6) .seq [(.loc 4)] [.ite (.and2 (.cmp .eq (.ix (.loc 6) (.int 0)) (.str [115, 101, 116])) (.cmp .lt (.b1 .len (.loc 5)) (.b1 .len (.loc 3)))) [.sst 5 (.ix (.loc 3) (.b1 .len (.loc 5))) (.ix (.loc 6) (.int 1))] []], .ite (.or2 (.cmp .ne (.b1 .len (.loc 5)) (.b1 .len (.loc 3))) (.cmp .ne (.b1 .lset (.lc (.ix (.loc 5) (.loc 7)) (.one 7) .seq [(.loc 5)] (.bl true))) (.b1 .len (.loc 3)))) [.ret (.bl false)] [], .asg 8 (.lst []), .for (.one 9) .seq [(.call X.law_order [(.loc 1), (.loc 2)])] [.for (.one 6) .seq [(.call X.law_rows [(.loc 1), (.loc 9)])] [.ite (.and2 (.cmp .eq (.ix (.loc 6) (.int 0)) (.str [115, 101, 116])) (.cmp .isin (.tup [(.loc 9), (.ix (.loc 6) (.int 1))]) (.loc 5))) [.exp (.m1 .append (.loc 8) (.tup [(.str [115, 101, 116]), (.ix (.loc 5) (.tup [(.loc 9), (.ix (.loc 6) (.int 1))])), (.call X.law_turned [(.loc 1), (.loc 9), (.ix (.loc 6) (.int 2)), (.loc 5)])]))] [], .ite (.cmp .eq (.ix (.loc 6) (.int 0)) (.str [110, 111, 116, 101])) [.exp (.m1 .append (.loc 8) (.tup [(.str [110, 111, 116, 101]), (.call X.law_turned [(.loc 1), (.loc 9), (.ix (.loc 6) (.int 1)), (.loc 5)])]))] []]], .for (.one 10) .seq [(.b1 .srt (.lc (.ix (.loc 6) (.neg (.int 1))) (.one 6) .seq [(.call X.law_rows [(.loc 1), (.loc 2)])] (.cmp .isin (.ix (.loc 6) (.int 0)) (.tup [(.str [103, 105, 118, 101]), (.str [112, 97, 115, 115])]))))] [.exp (.m1 .append (.loc 8) (.tup [(.str [103, 105, 118, 101]), (.ix (.loc 5) (.call X.law_given_home [(.loc 1), (.loc 2), (.loc 10)])), (.loc 10)]))], .ret (.cmp .eq (.loc 4) (.b1 .tupo (.loc 8)))]
def F_lawk07 (X : Ix) : FD := .py 1 11 none (b_lawk07 X)
def b_dead (X : Ix) : List Stm := [.exp (.call X.look_module [(.loc 0), (.loc 1)]), .asg 2 (.call X.needed_of [(.loc 0), (.loc 1)]), .ret (.lc (.loc 3) (.one 3) .seq [(.call X.homes_in_order [(.loc 0), (.loc 1)])] (.cmp .notin (.loc 3) (.loc 2)))]
def F_dead (X : Ix) : FD := .py 2 4 none (b_dead X)
def b_law_mix (X : Ix) : List Stm := [.ret (.bin .mod (.bin .mod (.bin .pow (.bin .mod (.bin .mul (.loc 0) (.int 48271)) (.loc 1)) (.int 3)) (.loc 1)) (.loc 2))]
def F_law_mix (X : Ix) : FD := .py 3 3 none (b_law_mix X)
def b_lawk08 (X : Ix) : List Stm := [.asg 1 (.call X.law_program [(.loc 0), (.int 0)]), .asg 2 (.ix (.ix (.loc 1) (.bin .mod (.call X.law_cell [(.loc 0), (.int 5)]) (.b1 .len (.loc 1)))) (.int 0)), .asg 3 (.call X.kept [(.loc 1), (.loc 2)]), .asg 4 (.call X.dead [(.loc 1), (.loc 2)]), .ite (.or2 (.cmp .ne (.tup [(.loc 3), (.loc 4)]) (.call X.law_kept [(.loc 1), (.loc 2)])) (.or2 (.nt (.isi .list (.loc 3))) (.nt (.isi .list (.loc 4))))) [.ret (.bl false)] [], .asg 5 (.call X.bundle [(.loc 1), (.loc 2), (.str [111, 110, 101])]), .ite (.or2 (.cmp .ne (.b1 .len (.call X.kept [(.tup [(.loc 5)]), (.str [111, 110, 101])])) (.b1 .len (.loc 3))) (.cmp .ne (.call X.dead [(.tup [(.loc 5)]), (.str [111, 110, 101])]) (.lst []))) [.ret (.bl false)] [], .ite (.cmp .eq (.loc 4) (.lst [])) [.ret (.bl true)] [], .asgt [6, 7] (.ix (.loc 4) (.call X.law_mix [(.call X.law_cell [(.loc 0), (.int 6)]), (.int 9949), (.b1 .len (.loc 4))])), .asg 8 (.lst []), .for (.many [9, 10]) .seq [(.loc 1)] [.asg 11 (.lst []), .for (.one 12) .seq [(.loc 10)] [.asg 13 (.and2 (.cmp .eq (.loc 9) (.loc 6)) (.and2 (.cmp .eq (.ix (.loc 12) (.int 0)) (.str [115, 101, 116])) (.cmp .eq (.ix (.loc 12) (.int 1)) (.loc 7)))), .exp (.m1 .append (.loc 11) (.ife (.loc 13) (.tup [(.str [115, 101, 116]), (.loc 7), (.bin .mod (.call X.law_cell [(.loc 0), (.int 7)]) (.int 10007))]) (.loc 12)))], .exp (.m1 .append (.loc 8) (.tup [(.loc 9), (.b1 .tupo (.loc 11))]))], .asg 8 (.b1 .tupo (.loc 8)), .ret (.and2 (.cmp .eq (.call X.run [(.loc 8), (.loc 2)]) (.call X.run [(.loc 1), (.loc 2)])) (.and2 (.cmp .eq (.call X.kept [(.loc 8), (.loc 2)]) (.loc 3)) (.cmp .eq (.call X.dead [(.loc 8), (.loc 2)]) (.loc 4))))]
def F_lawk08 (X : Ix) : FD := .py 1 14 none (b_lawk08 X)
def b_lawk09 (X : Ix) : List Stm := [.asg 1 (.call X.law_program [(.loc 0), (.int 0)]), .asg 2 (.ix (.ix (.loc 1) (.bin .mod (.call X.law_cell [(.loc 0), (.int 5)]) (.b1 .len (.loc 1)))) (.int 0)), .asg 3 (.call X.bundle [(.loc 1), (.loc 2), (.str [111, 110, 101])]), .asg 4 (.call X.bundle [(.tup [(.loc 3)]), (.str [111, 110, 101]), (.str [116, 119, 111])]), .ite (.or2 (.cmp .ne (.b1 .len (.ix (.loc 4) (.int 1))) (.b1 .len (.ix (.loc 3) (.int 1)))) (.cmp .ne (.call X.run [(.tup [(.loc 4)]), (.str [116, 119, 111])]) (.call X.run [(.loc 1), (.loc 2)]))) [.ret (.bl false)] [], .ite (.cmp .ne (.lc (.ix (.loc 5) (.int 0)) (.one 5) .seq [(.ix (.loc 4) (.int 1))] (.bl true)) (.lc (.ix (.loc 5) (.int 0)) (.one 5) .seq [(.ix (.loc 3) (.int 1))] (.bl true))) [.ret (.bl false)] [], .ite (.cmp .ne (.b1 .len (.call X.kept [(.tup [(.loc 4)]), (.str [116, 119, 111])])) (.b1 .len (.call X.kept [(.loc 1), (.loc 2)]))) [.ret (.bl false)] [], .asg 6 (.tup [(.str [112, 108, 117, 115]), (.tup [(.str [110, 97, 109, 101]), (.str [120])]), (.tup [(.str [110, 97, 109, 101]), (.str [121])])]), .asg 7 (.tup [(.str [117, 115, 101, 114]), (.tup [(.tup [(.str [116, 97, 107, 101]), (.str [111, 110, 101]), (.str [103, 97]), (.str [120])]), (.tup [(.str [116, 97, 107, 101]), (.str [111, 110, 101]), (.str [112]), (.str [121])]), (.tup [(.str [110, 111, 116, 101]), (.loc 6)])])]), .asgt [8, 9] (.call X.run [(.loc 1), (.loc 2)]), .asg 10 (.b1 .dcto (.lc (.tup [(.loc 11), (.loc 12)]) (.many [11, 12]) .seq [(.loc 9)] (.bl true))), .asg 13 (.tup [(.bin .add (.loc 8) (.lst [(.bin .mod (.bin .add (.ix (.loc 10) (.str [103, 97])) (.ix (.loc 10) (.str [112]))) (.int 10007))])), (.lst [])]), .ret (.and2 (.cmp .eq (.call X.run [(.tup [(.loc 7), (.loc 3)]), (.str [117, 115, 101, 114])]) (.loc 13)) (.cmp .eq (.call X.run [(.tup [(.loc 3), (.loc 7)]), (.str [111, 110, 101])]) (.tup [(.loc 8), (.loc 9)])))]
def F_lawk09 (X : Ix) : FD := .py 1 14 none (b_lawk09 X)
def b_new_word (X : Ix) : List Stm := [.ret (.ife (.cmp .eq (.loc 0) (.loc 1)) (.loc 2) (.loc 0))]
def F_new_word (X : Ix) : FD := .py 3 3 none (b_new_word X)
def b_new_expression (X : Ix) : List Stm := [.ite (.isi .int (.loc 0)) [.ret (.loc 0)] [], .ite (.cmp .eq (.ix (.loc 0) (.int 0)) (.str [110, 97, 109, 101])) [.ret (.tup [(.str [110, 97, 109, 101]), (.call X.new_word [(.ix (.loc 0) (.int 1)), (.loc 1), (.loc 2)])])] [], .ret (.tup [(.ix (.loc 0) (.int 0)), (.call X.new_expression [(.ix (.loc 0) (.int 1)), (.loc 1), (.loc 2)]), (.call X.new_expression [(.ix (.loc 0) (.int 2)), (.loc 1), (.loc 2)])])]
def F_new_expression (X : Ix) : FD := .py 3 3 none (b_new_expression X)
def b_new_row (X : Ix) : List Stm := [.ite (.cmp .eq (.ix (.loc 0) (.int 0)) (.str [116, 97, 107, 101])) [.ret (.bin .add (.slc (.loc 0) .non (.int 3)) (.tup [(.call X.new_word [(.ix (.loc 0) (.int 3)), (.loc 1), (.loc 2)])]))] [], .ite (.cmp .eq (.ix (.loc 0) (.int 0)) (.str [115, 101, 116])) [.ret (.tup [(.str [115, 101, 116]), (.call X.new_word [(.ix (.loc 0) (.int 1)), (.loc 1), (.loc 2)]), (.call X.new_expression [(.ix (.loc 0) (.int 2)), (.loc 1), (.loc 2)])])] [], .ite (.cmp .eq (.ix (.loc 0) (.int 0)) (.str [110, 111, 116, 101])) [.ret (.tup [(.str [110, 111, 116, 101]), (.call X.new_expression [(.ix (.loc 0) (.int 1)), (.loc 1), (.loc 2)])])] [], .ite (.cmp .eq (.ix (.loc 0) (.int 0)) (.str [103, 105, 118, 101])) [.ret (.tup [(.str [103, 105, 118, 101]), (.call X.new_word [(.ix (.loc 0) (.int 1)), (.loc 1), (.loc 2)]), (.ix (.loc 0) (.int 2))])] [], .ret (.loc 0)]
def F_new_row (X : Ix) : FD := .py 3 3 none (b_new_row X)
def b_renamed (X : Ix) : List Stm := [.ite (.nt (.call X.is_module [(.loc 0)])) [.rse X.xBadProgram] [], .asg 3 (.call X.own_names [(.loc 0)]), .ite (.or2 (.nt (.call X.is_word [(.loc 1)])) (.or2 (.cmp .notin (.loc 1) (.loc 3)) (.or2 (.nt (.call X.is_word [(.loc 2)])) (.cmp .isin (.loc 2) (.loc 3))))) [.rse X.xBadName] [], .ret (.tup [(.ix (.loc 0) (.int 0)), (.b1 .tupo (.lc (.call X.new_row [(.loc 4), (.loc 1), (.loc 2)]) (.one 4) .seq [(.ix (.loc 0) (.int 1))] (.bl true)))])]
def F_renamed (X : Ix) : FD := .py 3 5 none (b_renamed X)
def b_law_exchanged (X : Ix) : List Stm := [.ite (.isi .int (.loc 0)) [.ret (.loc 0)] [], .ite (.cmp .eq (.ix (.loc 0) (.int 0)) (.str [110, 97, 109, 101])) [.ret (.tup [(.str [110, 97, 109, 101]), (.ife (.cmp .eq (.ix (.loc 0) (.int 1)) (.loc 1)) (.loc 2) (.ix (.loc 0) (.int 1)))])] [], .asg 3 (.call X.law_exchanged [(.ix (.loc 0) (.int 1)), (.loc 1), (.loc 2)]), .ret (.tup [(.ix (.loc 0) (.int 0)), (.loc 3), (.call X.law_exchanged [(.ix (.loc 0) (.int 2)), (.loc 1), (.loc 2)])])]
def F_law_exchanged (X : Ix) : FD := .py 3 4 none (b_law_exchanged X)
def b_lawk10 (X : Ix) : List Stm := [.asg 1 (.call X.law_program [(.loc 0), (.int 0)]), .asg 2 (.bin .mod (.call X.law_cell [(.loc 0), (.int 5)]) (.b1 .len (.loc 1))), .asg 3 (.ix (.loc 1) (.loc 2)), .asg 4 (.lc (.ife (.cmp .eq (.ix (.loc 5) (.int 0)) (.str [116, 97, 107, 101])) (.ix (.loc 5) (.int 3)) (.ix (.loc 5) (.int 1))) (.one 5) .seq [(.ix (.loc 3) (.int 1))] (.cmp .isin (.ix (.loc 5) (.int 0)) (.tup [(.str [116, 97, 107, 101]), (.str [115, 101, 116])]))), .asg 6 (.ix (.loc 4) (.call X.law_mix [(.call X.law_cell [(.loc 0), (.int 6)]), (.int 9949), (.b1 .len (.loc 4))])), .asg 7 (.ix (.lst [(.str [103, 97]), (.str [102, 114, 101, 115, 104]), (.str [112]), (.str [109, 97])]) (.bin .mod (.call X.law_cell [(.loc 0), (.int 7)]) (.int 4))), .asg 8 (.call X.renamed [(.loc 3), (.loc 6), (.loc 7)]), .asg 9 (.lst []), .for (.one 5) .seq [(.ix (.loc 3) (.int 1))] [.asg 10 (.dlt [([116, 97, 107, 101], (.int 3)), ([115, 101, 116], (.int 1)), ([103, 105, 118, 101], (.int 1))]), .asg 11 (.b1 .lsto (.loc 5)), .ite (.and2 (.cmp .isin (.ix (.loc 5) (.int 0)) (.loc 10)) (.cmp .eq (.ix (.loc 5) (.ix (.loc 10) (.ix (.loc 5) (.int 0)))) (.loc 6))) [.sst 11 (.ix (.loc 10) (.ix (.loc 5) (.int 0))) (.loc 7)] [], .ite (.cmp .isin (.ix (.loc 5) (.int 0)) (.tup [(.str [115, 101, 116]), (.str [110, 111, 116, 101])])) [.sst 11 (.neg (.int 1)) (.call X.law_exchanged [(.ix (.loc 5) (.neg (.int 1))), (.loc 6), (.loc 7)])] [], .exp (.m1 .append (.loc 9) (.b1 .tupo (.loc 11)))], .ite (.or2 (.cmp .ne (.loc 8) (.tup [(.ix (.loc 3) (.int 0)), (.b1 .tupo (.loc 9))])) (.cmp .ne (.call X.renamed [(.loc 8), (.loc 7), (.loc 6)]) (.loc 3))) [.ret (.bl false)] [], .asg 12 (.bin .add (.bin .add (.slc (.loc 1) .non (.loc 2)) (.tup [(.loc 8)])) (.slc (.loc 1) (.bin .add (.loc 2) (.int 1)) .non)), .for (.many [13, 14]) .seq [(.loc 1)] [.ite (.or2 (.cmp .ne (.call X.run [(.loc 12), (.loc 13)]) (.call X.run [(.loc 1), (.loc 13)])) (.cmp .ne (.b1 .len (.call X.kept [(.loc 12), (.loc 13)])) (.b1 .len (.call X.kept [(.loc 1), (.loc 13)])))) [.ret (.bl false)] []], .asg 15 (.lst []), .asg 16 (.lst [(.tup [(.loc 3), (.str [110, 111, 110, 101]), (.str [120])]), (.tup [(.loc 3), (.loc 6), (.ix (.loc 4) (.int 0))]), (.tup [(.loc 3), (.loc 6), (.str [65])]), (.tup [(.loc 3), .non, (.str [120])]), (.tup [.non, (.loc 6), (.loc 7)])]), .for (.many [17, 18, 19]) .seq [(.loc 16)] [.try [.exp (.call X.renamed [(.loc 17), (.loc 18), (.loc 19)])] [(X.xBadName, [.exp (.m1 .append (.loc 15) (.str [110, 97, 109, 101]))]), (X.xBadProgram, [.exp (.m1 .append (.loc 15) (.str [112, 114, 111, 103, 114, 97, 109]))])]], .ret (.cmp .eq (.loc 15) (.bin .add (.bin .mul (.lst [(.str [110, 97, 109, 101])]) (.int 4)) (.lst [(.str [112, 114, 111, 103, 114, 97, 109])])))]
def F_lawk10 (X : Ix) : FD := .py 1 20 none (b_lawk10 X)
def b_lawk11 (X : Ix) : List Stm := [.asg 1 (.call X.law_program [(.loc 0), (.int 0)]), .asg 2 (.ix (.ix (.loc 1) (.bin .mod (.call X.law_cell [(.loc 0), (.int 5)]) (.b1 .len (.loc 1)))) (.int 0)), .asg 3 (.tup [(.call X.run [(.loc 1), (.loc 2)]), (.call X.order [(.loc 1), (.loc 2)]), (.call X.kept [(.loc 1), (.loc 2)]), (.call X.dead [(.loc 1), (.loc 2)])]), .asg 4 (.bin .mod (.call X.law_cell [(.loc 0), (.int 6)]) (.b1 .len (.loc 1))), .asg 5 (.bin .add (.rev (.slc (.loc 1) (.loc 4) .non)) (.slc (.loc 1) .non (.loc 4))), .asg 6 (.b1 .tupo (.lc (.loc 7) (.one 7) .seq [(.loc 1)] (.cmp .isin (.ix (.loc 7) (.int 0)) (.ix (.loc 3) (.int 1))))), .asg 8 (.bin .add (.tup [(.tup [(.str [101, 120, 116, 114, 97]), (.tup [(.tup [(.str [114, 117, 110]), (.loc 2)]), (.tup [(.str [115, 101, 116]), (.str [97]), (.int 5)]), (.tup [(.str [110, 111, 116, 101]), (.tup [(.str [110, 97, 109, 101]), (.str [97])])])])])]) (.loc 1)), .ite (.call X.law_too_long [(.loc 8)]) [.ret (.call X.law_refused [(.loc 8)])] [], .for (.one 9) .seq [(.tup [(.loc 5), (.loc 6), (.loc 8)])] [.ite (.cmp .ne (.tup [(.call X.run [(.loc 9), (.loc 2)]), (.call X.order [(.loc 9), (.loc 2)]), (.call X.kept [(.loc 9), (.loc 2)]), (.call X.dead [(.loc 9), (.loc 2)])]) (.loc 3)) [.ret (.bl false)] []], .ite (.or2 (.cmp .ne (.call X.run [(.loc 8), (.str [101, 120, 116, 114, 97])]) (.tup [(.bin .add (.ix (.ix (.loc 3) (.int 0)) (.int 0)) (.lst [(.int 5)])), (.lst [])])) (.cmp .ne (.call X.users [(.loc 8), (.loc 2)]) (.b1 .srt (.bin .add (.call X.users [(.loc 1), (.loc 2)]) (.lst [(.str [101, 120, 116, 114, 97])]))))) [.ret (.bl false)] [], .ret (.cmp .eq (.call X.order [(.loc 8), (.str [101, 120, 116, 114, 97])]) (.bin .add (.ix (.loc 3) (.int 1)) (.lst [(.str [101, 120, 116, 114, 97])])))]
def F_lawk11 (X : Ix) : FD := .py 1 10 none (b_lawk11 X)
def b_lawk12 (X : Ix) : List Stm := [.asg 1 (.call X.law_program [(.loc 0), (.int 0)]), .asg 2 (.ix (.ix (.loc 1) (.bin .mod (.call X.law_cell [(.loc 0), (.int 5)]) (.b1 .len (.loc 1)))) (.int 0)), .asg 3 (.lc (.ix (.loc 4) (.neg (.int 1))) (.one 4) .seq [(.call X.law_rows [(.loc 1), (.loc 2)])] (.cmp .isin (.ix (.loc 4) (.int 0)) (.tup [(.str [103, 105, 118, 101]), (.str [112, 97, 115, 115])]))), .asg 5 (.tup [(.str [109, 105, 100]), (.b1 .tupo (.lc (.tup [(.str [112, 97, 115, 115]), (.loc 2), (.loc 6), (.loc 6)]) (.one 6) .seq [(.loc 3)] (.bl true)))]), .asg 7 (.lst []), .for (.many [6, 8]) .seq [(.loc 1)] [.asg 9 (.lst []), .for (.one 4) .seq [(.loc 8)] [.asg 10 (.and2 (.cmp .isin (.ix (.loc 4) (.int 0)) (.tup [(.str [116, 97, 107, 101]), (.str [112, 97, 115, 115]), (.str [114, 117, 110])])) (.cmp .eq (.ix (.loc 4) (.int 1)) (.loc 2))), .exp (.m1 .append (.loc 9) (.ife (.loc 10) (.bin .add (.tup [(.ix (.loc 4) (.int 0)), (.str [109, 105, 100])]) (.slc (.loc 4) (.int 2) .non)) (.loc 4)))], .exp (.m1 .append (.loc 7) (.tup [(.loc 6), (.b1 .tupo (.loc 9))]))], .asg 7 (.bin .add (.b1 .tupo (.loc 7)) (.tup [(.loc 5)])), .ite (.call X.law_too_long [(.loc 7)]) [.ret (.call X.law_refused [(.loc 7)])] [], .ite (.or2 (.cmp .ne (.call X.users [(.loc 7), (.loc 2)]) (.lst [(.str [109, 105, 100])])) (.cmp .ne (.call X.users [(.loc 7), (.str [109, 105, 100])]) (.call X.users [(.loc 1), (.loc 2)]))) [.ret (.bl false)] [], .for (.many [6, 8]) .seq [(.loc 1)] [.ite (.cmp .ne (.call X.run [(.loc 7), (.loc 6)]) (.call X.run [(.loc 1), (.loc 6)])) [.ret (.bl false)] [], .ite (.cmp .ne (.lc (.loc 11) (.one 11) .seq [(.call X.order [(.loc 7), (.loc 6)])] (.cmp .ne (.loc 11) (.str [109, 105, 100]))) (.call X.order [(.loc 1), (.loc 6)])) [.ret (.bl false)] [], .for (.one 4) .seq [(.loc 8)] [.ite (.cmp .isin (.ix (.loc 4) (.int 0)) (.tup [(.str [116, 97, 107, 101]), (.str [115, 101, 116])])) [.asg 12 (.ife (.cmp .eq (.ix (.loc 4) (.int 0)) (.str [116, 97, 107, 101])) (.ix (.loc 4) (.int 3)) (.ix (.loc 4) (.int 1))), .ite (.cmp .ne (.call X.home [(.loc 7), (.loc 6), (.loc 12)]) (.call X.home [(.loc 1), (.loc 6), (.loc 12)])) [.ret (.bl false)] []] []]], .ret (.cmp .eq (.call X.kept [(.loc 7), (.loc 2)]) (.call X.kept [(.loc 1), (.loc 2)]))]
def F_lawk12 (X : Ix) : FD := .py 1 13 none (b_lawk12 X)
def b_leaf_of (X : Ix) : List Stm := [.ite (.and2 (.cmp .isin (.slc (.loc 0) .non (.int 1)) (.gl X.cFIGURES)) (.cmp .ne (.loc 0) (.str []))) [.ite (.or2 (.cmp .gt (.b1 .len (.loc 0)) (.int 5)) (.lc (.loc 1) (.one 1) .seq [(.loc 0)] (.cmp .notin (.loc 1) (.gl X.cFIGURES)))) [.rse X.xBadText] [], .ret (.b1 .into (.loc 0))] [], .ret (.tup [(.str [110, 97, 109, 101]), (.loc 0)])]
def F_leaf_of (X : Ix) : FD := .py 1 2 none (b_leaf_of X)
def b_expression_at (X : Ix) : List Stm := [.ite (.cmp .eq (.loc 2) (.int 0)) [.rse X.xBadText] [], .ite (.cmp .ne (.slc (.loc 0) (.loc 1) (.bin .add (.loc 1) (.int 1))) (.str [40])) [.asg 3 (.loc 1), .whl (.and2 (.cmp .lt (.loc 3) (.b1 .len (.loc 0))) (.cmp .notin (.ix (.loc 0) (.loc 3)) (.str [32, 40, 41]))) [.aug 3 (.int 1)], .ret (.tup [(.call X.leaf_of [(.slc (.loc 0) (.loc 1) (.loc 3))]), (.loc 3)])] [], .asgt [4, 3] (.call X.expression_at [(.loc 0), (.bin .add (.loc 1) (.int 1)), (.bin .sub (.loc 2) (.int 1))]), .asg 5 (.slc (.loc 0) (.loc 3) (.bin .add (.loc 3) (.int 3))), .asg 6 (.get2 (.dlt [([32, 43, 32], (.str [112, 108, 117, 115])), ([32, 42, 32], (.str [116, 105, 109, 101, 115]))]) (.loc 5) (.str [])), .ite (.cmp .eq (.loc 6) (.str [])) [.rse X.xBadText] [], .asgt [7, 3] (.call X.expression_at [(.loc 0), (.bin .add (.loc 3) (.int 3)), (.bin .sub (.loc 2) (.int 1))]), .ite (.cmp .ne (.slc (.loc 0) (.loc 3) (.bin .add (.loc 3) (.int 1))) (.str [41])) [.rse X.xBadText] [], .ret (.tup [(.tup [(.loc 6), (.loc 4), (.loc 7)]), (.bin .add (.loc 3) (.int 1))])]
def F_expression_at (X : Ix) : FD := .py 3 8 none (b_expression_at X)
def b_expression_of (X : Ix) : List Stm := [.asgt [1, 2] (.call X.expression_at [(.loc 0), (.int 0), (.gl X.cMOST_PARTS)]), .ite (.cmp .ne (.loc 2) (.b1 .len (.loc 0))) [.rse X.xBadText] [], .ret (.loc 1)]
def F_expression_of (X : Ix) : FD := .py 1 3 none (b_expression_of X)
def b_row_of_text (X : Ix) : List Stm := [.asg 1 (.m1 .split (.loc 0) (.str [32])), .ite (.and2 (.cmp .eq (.ix (.loc 1) (.int 0)) (.str [115, 101, 116])) (.cmp .gt (.b1 .len (.loc 1)) (.int 2))) [.ret (.tup [(.str [115, 101, 116]), (.ix (.loc 1) (.int 1)), (.call X.expression_of [(.m1 .join (.str [32]) (.slc (.loc 1) (.int 2) .non))])])] [], .ite (.and2 (.cmp .eq (.ix (.loc 1) (.int 0)) (.str [110, 111, 116, 101])) (.cmp .gt (.b1 .len (.loc 1)) (.int 1))) [.ret (.tup [(.str [110, 111, 116, 101]), (.call X.expression_of [(.m1 .join (.str [32]) (.slc (.loc 1) (.int 1) .non))])])] [], .ret (.b1 .tupo (.loc 1))]
def F_row_of_text (X : Ix) : FD := .py 1 2 none (b_row_of_text X)
def b_read (X : Ix) : List Stm := [.ite (.nt (.isi .str (.loc 0))) [.rse X.xBadText] [], .asg 1 (.lst []), .asg 2 (.ife (.cmp .ne (.loc 0) (.str [])) (.m1 .split (.loc 0) (.str [10])) (.lst [])), .for (.one 3) .seq [(.loc 2)] [.ite (.m1 .startswith (.loc 3) (.str [109, 111, 100, 117, 108, 101, 32])) [.exp (.m1 .append (.loc 1) (.tup [(.slc (.loc 3) (.int 7) .non), (.lst [])]))] [.ite (.nt (.loc 1)) [.rse X.xBadText] [.exp (.m1 .append (.ix (.ix (.loc 1) (.neg (.int 1))) (.int 1)) (.call X.row_of_text [(.loc 3)]))]]], .asg 4 (.b1 .tupo (.lc (.tup [(.loc 5), (.b1 .tupo (.loc 6))]) (.many [5, 6]) .seq [(.loc 1)] (.bl true))), .asg 7 (.bl true), .try [.exp (.call X.look [(.loc 4)])] [(X.xBadProgram, [.asg 7 (.bl false)])], .ite (.or2 (.nt (.loc 7)) (.cmp .ne (.call X.text_of [(.loc 4)]) (.loc 0))) [.rse X.xBadText] [], .ret (.loc 4)]
def F_read (X : Ix) : FD := .py 1 8 none (b_read X)
def b_law_expression_text (X : Ix) : List Stm := [.ite (.isi .int (.loc 0)) [.ret (.b1 .stro (.loc 0))] [], .ite (.cmp .eq (.ix (.loc 0) (.int 0)) (.str [110, 97, 109, 101])) [.ret (.ix (.loc 0) (.int 1))] [], .asg 1 (.ife (.cmp .eq (.ix (.loc 0) (.int 0)) (.str [112, 108, 117, 115])) (.str [32, 43, 32]) (.str [32, 42, 32])), .asg 2 (.bin .add (.call X.law_expression_text [(.ix (.loc 0) (.int 1))]) (.loc 1)), .ret (.bin .add (.bin .add (.bin .add (.str [40]) (.loc 2)) (.call X.law_expression_text [(.ix (.loc 0) (.int 2))])) (.str [41]))]
def F_law_expression_text (X : Ix) : FD := .py 1 3 none (b_law_expression_text X)
def b_law_module_text (X : Ix) : List Stm := [.asg 1 (.lst [(.bin .add (.str [109, 111, 100, 117, 108, 101, 32]) (.ix (.loc 0) (.int 0)))]), .for (.one 2) .seq [(.ix (.loc 0) (.int 1))] [.asg 3 (.lc (.ife (.nt (.isi .str (.loc 4))) (.call X.law_expression_text [(.loc 4)]) (.loc 4)) (.one 4) .seq [(.loc 2)] (.bl true)), .exp (.m1 .append (.loc 1) (.m1 .join (.str [32]) (.loc 3)))], .ret (.m1 .join (.str [10]) (.loc 1))]
def F_law_module_text (X : Ix) : FD := .py 1 5 none (b_law_module_text X)
def b_lawk13 (X : Ix) : List Stm := [.asg 1 (.call X.law_program [(.loc 0), (.int 0)]), .ite (.cmp .eq (.bin .mod (.call X.law_cell [(.loc 0), (.int 5)]) (.int 3)) (.int 0)) [.asg 1 (.slc (.loc 1) .non (.bin .mod (.call X.law_cell [(.loc 0), (.int 6)]) (.int 2)))] [], .asg 2 (.m1 .join (.str [10]) (.lc (.call X.law_module_text [(.loc 3)]) (.one 3) .seq [(.loc 1)] (.bl true))), .ite (.or2 (.cmp .ne (.call X.shown [(.loc 1)]) (.loc 2)) (.cmp .ne (.call X.read [(.loc 2)]) (.loc 1))) [.ret (.bl false)] [], .asg 4 (.call X.law_mix [(.call X.law_cell [(.loc 0), (.int 7)]), (.int 9949), (.bin .add (.b1 .len (.loc 2)) (.int 1))]), .asg 5 (.ix (.lst [(.str [32]), (.str [10]), (.str [40]), (.str [41]), (.str [48]), (.str [97]), (.str [43]), (.str [32, 43, 32]), (.str [65]), (.str [110, 111, 116, 101, 32, 49, 10])]) (.bin .mod (.call X.law_cell [(.loc 0), (.int 8)]) (.int 10))), .asg 6 (.bin .mod (.call X.law_cell [(.loc 0), (.int 9)]) (.int 3)), .asg 7 (.bin .add (.bin .add (.slc (.loc 2) .non (.loc 4)) (.ix (.lst [(.loc 5), (.str []), (.loc 5)]) (.loc 6))) (.slc (.loc 2) (.bin .add (.loc 4) (.ix (.lst [(.int 0), (.int 1), (.int 1)]) (.loc 6))) .non)), .asg 8 .non, .try [.asg 8 (.call X.read [(.loc 7)])] [(X.xBadText, [.asg 8 .non])], .ret (.or2 (.isn false (.loc 8)) (.and2 (.isi .tuple (.loc 8)) (.cmp .eq (.call X.shown [(.loc 8)]) (.loc 7))))]
def F_lawk13 (X : Ix) : FD := .py 1 9 none (b_lawk13 X)
def b_lawk14 (X : Ix) : List Stm := [.asg 1 (.call X.law_program [(.loc 0), (.int 0)]), .asg 2 (.call X.shown [(.loc 1)]), .asg 3 (.ix (.ix (.loc 1) (.neg (.int 1))) (.int 0)), .asg 4 (.lst [(.str [110, 111, 116, 101]), (.str [110, 111, 116, 101, 32, 49, 48, 48, 48, 55]), (.str [110, 111, 116, 101, 32, 48, 55]), (.str [110, 111, 116, 101, 32, 40, 97]), (.str [110, 111, 116, 101, 32, 115, 119, 32, 43, 32, 49]), (.str [110, 111, 116, 101, 32, 40, 115, 119, 32, 43, 32, 49, 41, 32]), (.str [110, 111, 116, 101, 32, 40, 115, 119, 32, 45, 32, 49, 41]), (.str [110, 111, 116, 101, 32, 122, 122])]), .asg 4 (.bin .add (.loc 4) (.lst [(.str [115, 101, 116, 32, 115, 119, 32, 49]), (.str [103, 105, 118, 101, 32, 115, 119, 32, 103, 97]), (.str [116, 97, 107, 101, 32, 97, 32, 98]), (.str [103, 111, 32, 97]), (.str [114, 117, 110]), (.str []), (.str [32, 110, 111, 116, 101, 32, 49])])), .asg 4 (.bin .add (.loc 4) (.lst [(.bin .add (.str [109, 111, 100, 117, 108, 101, 32]) (.loc 3)), (.str [109, 111, 100, 117, 108, 101]), (.str [109, 111, 100, 117, 108, 101, 32, 65])])), .asg 5 (.bin .add (.bin .add (.loc 2) (.str [10])) (.ix (.loc 4) (.bin .mod (.call X.law_cell [(.loc 0), (.int 5)]) (.int 18)))), .ite (.cmp .eq (.bin .mod (.call X.law_cell [(.loc 0), (.int 6)]) (.int 4)) (.int 0)) [.asg 5 (.ix (.lst [.non, (.int 7), (.str [110, 111, 116, 101, 32, 49]), (.str [114, 117, 110, 32, 97]), (.bin .add (.str [10]) (.loc 2)), (.bin .add (.loc 2) (.str [10])), (.lst [(.loc 2)]), (.bin .mul (.str [109, 111, 100, 117, 108, 101, 32, 97, 10]) (.int 7))]) (.bin .mod (.call X.law_cell [(.loc 0), (.int 5)]) (.int 8)))] [], .asg 6 (.bl false), .try [.exp (.call X.read [(.loc 5)])] [(X.xBadText, [.asg 6 (.bl true)])], .ret (.loc 6)]
def F_lawk14 (X : Ix) : FD := .py 1 7 none (b_lawk14 X)
def b_law_all (X : Ix) : List Stm := [.asg 2 (.lst [(.call X.run [(.loc 0), (.loc 1)]), (.call X.order [(.loc 0), (.loc 1)]), (.call X.kept [(.loc 0), (.loc 1)])]), .ret (.bin .add (.loc 2) (.lst [(.call X.dead [(.loc 0), (.loc 1)]), (.call X.users [(.loc 0), (.loc 1)])]))]
def F_law_all (X : Ix) : FD := .py 2 3 none (b_law_all X)
def b_lawk15 (X : Ix) : List Stm := [.asg 1 (.call X.law_program [(.loc 0), (.int 0)]), .asg 2 (.call X.law_program [(.loc 0), (.int 5)]), .asg 3 (.ix (.ix (.loc 1) (.bin .mod (.call X.law_cell [(.loc 0), (.int 5)]) (.b1 .len (.loc 1)))) (.int 0)), .asg 4 (.ix (.ix (.loc 2) (.int 0)) (.int 0)), .asg 5 (.call X.law_all [(.loc 1), (.loc 3)]), .asg 6 (.bin .add (.lst [(.tup [(.b1 .lsto (.ix (.ix (.loc 5) (.int 0)) (.int 0))), (.b1 .lsto (.ix (.ix (.loc 5) (.int 0)) (.int 1)))])]) (.lc (.b1 .lsto (.loc 7)) (.one 7) .seq [(.slc (.loc 5) (.int 1) .non)] (.bl true))), .asg 8 (.call X.law_all [(.loc 1), (.loc 3)]), .asg 9 (.call X.bundle [(.loc 1), (.loc 3), (.str [111, 110, 101])]), .ite (.or2 (.cmp .ne (.loc 6) (.loc 8)) (.cmp .ne (.call X.bundle [(.loc 1), (.loc 3), (.str [111, 110, 101])]) (.loc 9))) [.ret (.bl false)] [], .exp (.m1 .append (.ix (.ix (.loc 8) (.int 0)) (.int 0)) (.int 1)), .exp (.m0 .clear (.ix (.ix (.loc 8) (.int 0)) (.int 1))), .for (.one 7) .seq [(.slc (.loc 8) (.int 1) .non)] [.exp (.m1 .append (.loc 7) (.str [120]))], .asg 10 (.tup [(.call X.run [(.loc 2), (.loc 4)]), (.call X.bundle [(.loc 2), (.loc 4), (.str [111, 110, 101])])]), .ite (.cmp .ne (.call X.law_all [(.loc 1), (.loc 3)]) (.loc 6)) [.ret (.bl false)] [], .ret (.and2 (.cmp .eq (.call X.bundle [(.loc 1), (.loc 3), (.str [111, 110, 101])]) (.loc 9)) (.cmp .eq (.tup [(.call X.run [(.loc 2), (.loc 4)]), (.call X.bundle [(.loc 2), (.loc 4), (.str [111, 110, 101])])]) (.loc 10)))]
def F_lawk15 (X : Ix) : FD := .py 1 11 none (b_lawk15 X)
def b_law_deeds_of (X : Ix) : List Stm := [.ite (.cmp .eq (.loc 0) (.int 0)) [.ret (.call X.checked [.non])] [], .ite (.cmp .eq (.loc 0) (.int 1)) [.ret (.call X.checked [(.tup [(.tup [(.str [97]), (.tup [(.tup [(.str [114, 117, 110]), (.str [98])])])])])])] [], .ite (.cmp .eq (.loc 0) (.int 2)) [.ret (.call X.checked [(.tup [(.tup [(.str [97]), (.tup [(.tup [(.str [112, 97, 115, 115]), (.str [97]), (.str [120]), (.str [120])])])])])])] [], .ite (.cmp .eq (.loc 0) (.int 3)) [.ret (.call X.run [(.tup []), (.str [97])])] [], .ite (.cmp .eq (.loc 0) (.int 4)) [.ret (.call X.home [(.tup [(.tup [(.str [97]), (.tup [])])]), (.str [97]), (.str [120])])] [], .ret (.call X.read [.non])]
def F_law_deeds_of (X : Ix) : FD := .py 1 1 none (b_law_deeds_of X)
def b_law_asks (X : Ix) : List Stm := [.ite (.cmp .eq (.loc 0) (.int 0)) [.ret (.call X.checked [(.loc 1)])] [], .ite (.cmp .eq (.loc 0) (.int 1)) [.ret (.call X.home [(.loc 1), .non, .non])] [], .ite (.cmp .eq (.loc 0) (.int 2)) [.ret (.call X.users [(.loc 1), .non])] [], .ite (.cmp .eq (.loc 0) (.int 3)) [.ret (.call X.order [(.loc 1), .non])] [], .ite (.cmp .eq (.loc 0) (.int 4)) [.ret (.call X.run [(.loc 1), .non])] [], .ite (.cmp .eq (.loc 0) (.int 5)) [.ret (.call X.kept [(.loc 1), .non])] [], .ite (.cmp .eq (.loc 0) (.int 6)) [.ret (.call X.dead [(.loc 1), .non])] [], .ret (.call X.bundle [(.loc 1), .non, .non])]
def F_law_asks (X : Ix) : FD := .py 2 2 none (b_law_asks X)
def b_lawk16 (X : Ix) : List Stm := [.asg 1 (.bin .mod (.call X.law_cell [(.loc 0), (.int 0)]) (.int 6)), .ite (.cmp .ne (.call X.law_kinds_of [(.loc 1)]) (.bin .add (.lc (.cmp .eq (.loc 2) (.loc 1)) (.one 2) .rng1 [(.int 6)] (.bl true)) (.lst [(.bl true)]))) [.ret (.bl false)] [], .asg 3 (.call X.law_program [(.loc 0), (.int 1)]), .asg 4 (.tup [(.str [110]), (.tup [(.tup [(.str [116, 97, 107, 101]), (.str [113]), (.str [120]), (.str [121])])])]), .asg 5 (.tup [(.str [111]), (.tup [(.tup [(.str [112, 97, 115, 115]), (.str [111]), (.str [120]), (.str [120])])])]), .asg 6 (.lst [(.loc 3), (.bin .add (.loc 3) (.tup [(.loc 4)])), (.bin .add (.tup [(.loc 4)]) (.loc 3)), (.bin .add (.loc 3) (.tup [(.loc 5)])), (.bin .add (.tup [(.loc 5), (.loc 4)]) (.slc (.loc 3) .non (.int 3))), .non]), .asg 6 (.bin .add (.loc 6) (.lst [(.bin .add (.bin .add (.tup [(.loc 4)]) (.slc (.loc 3) .non (.int 2))) (.tup [(.loc 5)])), (.bin .add (.loc 3) (.tup [.non]))])), .asg 7 (.bin .mod (.call X.law_cell [(.loc 0), (.int 6)]) (.int 8)), .asg 8 (.ix (.lst [(.str [109, 111, 100, 117, 108, 101]), (.str [109, 105, 115, 115, 105, 110, 103]), (.str [109, 105, 115, 115, 105, 110, 103]), (.str [114, 105, 110, 103, 101, 100]), (.str [114, 105, 110, 103, 101, 100]), (.str [112, 114, 111, 103, 114, 97, 109]), (.str [109, 105, 115, 115, 105, 110, 103]), (.str [112, 114, 111, 103, 114, 97, 109])]) (.loc 7)), .for (.one 9) .rng2 [(.b1 .into (.cmp .eq (.loc 7) (.int 0))), (.int 8)] [.asg 10 (.str []), .try [.exp (.call X.law_asks [(.loc 9), (.ix (.loc 6) (.loc 7))])] [(X.xBadProgram, [.asg 10 (.str [112, 114, 111, 103, 114, 97, 109])]), (X.xMissing, [.asg 10 (.str [109, 105, 115, 115, 105, 110, 103])]), (X.xRinged, [.asg 10 (.str [114, 105, 110, 103, 101, 100])]), (X.xNoModule, [.asg 10 (.str [109, 111, 100, 117, 108, 101])])], .ite (.cmp .ne (.loc 10) (.loc 8)) [.ret (.bl false)] []], .ret (.bl true)]
def F_lawk16 (X : Ix) : FD := .py 1 11 none (b_lawk16 X)
def b_law_is_taken (X : Ix) : List Stm := [.try [.exp (.call X.checked [(.loc 0)])] [(X.xBadProgram, [.ret (.bl false)])], .ret (.bl true)]
def F_law_is_taken (X : Ix) : FD := .py 1 1 none (b_law_is_taken X)
def b_lawk17 (X : Ix) : List Stm := [.asg 1 (.bin .mod (.call X.law_cell [(.loc 0), (.int 0)]) (.int 2)), .asg 2 (.bin .mod (.call X.law_cell [(.loc 0), (.int 1)]) (.int 10007)), .for (.one 3) .rng1 [(.int 7)] [.asg 2 (.tup [(.ix (.lst [(.str [112, 108, 117, 115]), (.str [116, 105, 109, 101, 115])]) (.bin .mod (.bin .add (.loc 1) (.loc 3)) (.int 2))), (.loc 3), (.loc 2)])], .asg 4 (.tup [(.str [112, 108, 117, 115]), (.loc 2), (.loc 2)]), .ite (.or2 (.nt (.call X.law_is_taken [(.tup [(.tup [(.str [97]), (.tup [(.tup [(.str [115, 101, 116]), (.str [120]), (.loc 2)])])])])])) (.call X.law_is_taken [(.tup [(.tup [(.str [97]), (.tup [(.tup [(.str [115, 101, 116]), (.str [120]), (.loc 4)])])])])])) [.ret (.bl false)] [], .ite (.call X.law_is_taken [(.tup [(.tup [(.str [97]), (.tup [(.tup [(.str [110, 111, 116, 101]), (.tup [(.str [112, 108, 117, 115]), (.int 0), (.loc 2)])])])])])]) [.ret (.bl false)] [], .asg 5 (.bin .mod (.call X.law_cell [(.loc 0), (.int 2)]) (.int 60)), .asg 6 (.tup [(.str [110, 111, 116, 101]), (.bin .mod (.call X.law_cell [(.loc 0), (.int 3)]) (.int 10007))]), .for (.one 7) .rng2 [(.int 59), (.int 62)] [.asg 8 (.tup [(.tup [(.str [97]), (.bin .mul (.tup [(.loc 6)]) (.loc 5))]), (.tup [(.str [98]), (.bin .mul (.tup [(.loc 6)]) (.bin .sub (.loc 7) (.loc 5)))])]), .ite (.or2 (.cmp .ne (.call X.law_is_taken [(.tup [(.tup [(.str [97]), (.bin .mul (.tup [(.loc 6)]) (.loc 7))])])]) (.cmp .lt (.loc 7) (.int 61))) (.cmp .ne (.call X.law_is_taken [(.loc 8)]) (.cmp .lt (.loc 7) (.int 61)))) [.ret (.bl false)] []], .for (.one 7) .rng2 [(.int 5), (.int 8)] [.asg 9 (.slc (.lst [(.str [97]), (.str [98]), (.str [99]), (.str [100]), (.str [101]), (.str [102]), (.str [103])]) .non (.loc 7)), .ite (.cmp .ne (.call X.law_is_taken [(.b1 .tupo (.lc (.tup [(.loc 10), (.tup [(.loc 6)])]) (.one 10) .seq [(.loc 9)] (.bl true)))]) (.cmp .lt (.loc 7) (.int 7))) [.ret (.bl false)] []], .ite (.or2 (.call X.law_is_taken [(.tup [(.tup [(.bin .mul (.str [97]) (.int 7)), (.tup [])])])]) (.call X.law_is_taken [(.tup [(.tup [(.str [97]), (.tup [(.tup [(.str [110, 111, 116, 101]), (.int 10007)])])])])])) [.ret (.bl false)] [], .asg 11 (.tup [(.tup [(.bin .mul (.str [97]) (.int 6)), (.bin .add (.tup [(.tup [(.str [115, 101, 116]), (.bin .mul (.str [122]) (.int 6)), (.loc 2)])]) (.bin .mul (.tup [(.tup [(.str [110, 111, 116, 101]), (.int 10006)])]) (.int 59)))])]), .ret (.and2 (.call X.law_is_taken [(.loc 11)]) (.cmp .eq (.call X.read [(.call X.shown [(.loc 11)])]) (.loc 11)))]
def F_lawk17 (X : Ix) : FD := .py 1 12 none (b_lawk17 X)
def b_look_expression (X : Ix) : List Stm := [.ite (.nt (.call X.is_expression [(.loc 0)])) [.rse X.xBadExpression] []]
def F_look_expression (X : Ix) : FD := .py 1 1 none (b_look_expression X)
def b_names_of (X : Ix) : List Stm := [.exp (.call X.look_expression [(.loc 0)]), .ret (.b1 .sset (.call X.names_in [(.loc 0)]))]
def F_names_of (X : Ix) : FD := .py 1 1 none (b_names_of X)
def b_worth_of (X : Ix) : List Stm := [.ite (.isi .int (.loc 0)) [.ret (.loc 0)] [], .ite (.cmp .eq (.ix (.loc 0) (.int 0)) (.str [110, 97, 109, 101])) [.ret (.get2 (.loc 1) (.ix (.loc 0) (.int 1)) (.int 0))] [], .asg 2 (.call X.worth_of [(.ix (.loc 0) (.int 1)), (.loc 1)]), .asg 3 (.call X.worth_of [(.ix (.loc 0) (.int 2)), (.loc 1)]), .ret (.bin .mod (.ife (.cmp .eq (.ix (.loc 0) (.int 0)) (.str [112, 108, 117, 115])) (.bin .add (.loc 2) (.loc 3)) (.bin .mul (.loc 2) (.loc 3))) (.gl X.cPRIME))]
def F_worth_of (X : Ix) : FD := .py 2 4 none (b_worth_of X)
def b_look_values (X : Ix) : List Stm := [.ite (.nt (.isi .list (.loc 0))) [.rse X.xBadName] [], .asg 1 (.str []), .for (.one 2) .seq [(.loc 0)] [.ite (.or2 (.nt (.isi .tuple (.loc 2))) (.or2 (.cmp .ne (.b1 .len (.loc 2)) (.int 2)) (.or2 (.nt (.call X.is_word [(.ix (.loc 2) (.int 0))])) (.nt (.call X.is_figure [(.ix (.loc 2) (.int 1))]))))) [.rse X.xBadName] [], .ite (.cmp .le (.ix (.loc 2) (.int 0)) (.loc 1)) [.rse X.xBadName] [], .asg 1 (.ix (.loc 2) (.int 0))]]
def F_look_values (X : Ix) : FD := .py 1 3 none (b_look_values X)
def b_worth (X : Ix) : List Stm := [.exp (.call X.look_expression [(.loc 0)]), .exp (.call X.look_values [(.loc 1)]), .ret (.call X.worth_of [(.loc 0), (.b1 .dcto (.loc 1))])]
def F_worth (X : Ix) : FD := .py 2 2 none (b_worth X)
def b_folded_of (X : Ix) : List Stm := [.ite (.or2 (.isi .int (.loc 0)) (.cmp .eq (.ix (.loc 0) (.int 0)) (.str [110, 97, 109, 101]))) [.ret (.loc 0)] [], .asg 1 (.call X.folded_of [(.ix (.loc 0) (.int 1))]), .asg 2 (.call X.folded_of [(.ix (.loc 0) (.int 2))]), .ite (.and2 (.isi .int (.loc 1)) (.isi .int (.loc 2))) [.ret (.call X.worth_of [(.tup [(.ix (.loc 0) (.int 0)), (.loc 1), (.loc 2)]), (.dnw true)])] [], .ret (.tup [(.ix (.loc 0) (.int 0)), (.loc 1), (.loc 2)])]
def F_folded_of (X : Ix) : FD := .py 1 3 none (b_folded_of X)
def b_folded (X : Ix) : List Stm := [.exp (.call X.look_expression [(.loc 0)]), .ret (.call X.folded_of [(.loc 0)])]
def F_folded (X : Ix) : FD := .py 1 1 none (b_folded X)
def b_put_in_of (X : Ix) : List Stm := [.ite (.isi .int (.loc 0)) [.ret (.loc 0)] [], .ite (.cmp .eq (.ix (.loc 0) (.int 0)) (.str [110, 97, 109, 101])) [.ret (.ife (.cmp .eq (.ix (.loc 0) (.int 1)) (.loc 1)) (.loc 2) (.loc 0))] [], .ret (.tup [(.ix (.loc 0) (.int 0)), (.call X.put_in_of [(.ix (.loc 0) (.int 1)), (.loc 1), (.loc 2)]), (.call X.put_in_of [(.ix (.loc 0) (.int 2)), (.loc 1), (.loc 2)])])]
def F_put_in_of (X : Ix) : FD := .py 3 3 none (b_put_in_of X)
def b_put_in (X : Ix) : List Stm := [.exp (.call X.look_expression [(.loc 0)]), .ite (.nt (.call X.is_word [(.loc 1)])) [.rse X.xBadName] [], .exp (.call X.look_expression [(.loc 2)]), .asg 3 (.call X.put_in_of [(.loc 0), (.loc 1), (.loc 2)]), .ite (.nt (.call X.is_expression [(.loc 3)])) [.rse X.xBadExpression] [], .ret (.loc 3)]
def F_put_in (X : Ix) : FD := .py 3 4 none (b_put_in X)
def b_law_book (X : Ix) : List Stm := [.ret (.lc (.tup [(.loc 3), (.call X.law_pick [(.call X.law_seed [(.loc 0), (.loc 2)]), (.int 10007)])]) (.many [2, 3]) .enm [(.loc 1)] (.cmp .gt (.bin .mod (.bin .add (.bin .fdiv (.loc 0) (.int 7)) (.loc 2)) (.int 3)) (.int 0)))]
def F_law_book (X : Ix) : FD := .py 2 4 none (b_law_book X)
def b_law_worth (X : Ix) : List Stm := [.ite (.isi .int (.loc 0)) [.ret (.loc 0)] [], .ite (.cmp .eq (.ix (.loc 0) (.int 0)) (.str [110, 97, 109, 101])) [.ret (.get2 (.b1 .dcto (.loc 1)) (.ix (.loc 0) (.int 1)) (.int 0))] [], .par 2 3 (.call X.law_worth [(.ix (.loc 0) (.int 1)), (.loc 1)]) (.call X.law_worth [(.ix (.loc 0) (.int 2)), (.loc 1)]), .ret (.ix (.lst [(.bin .mod (.bin .add (.loc 2) (.loc 3)) (.int 10007)), (.bin .mod (.bin .mul (.loc 2) (.loc 3)) (.int 10007))]) (.b1 .into (.cmp .eq (.ix (.loc 0) (.int 0)) (.str [116, 105, 109, 101, 115]))))]
def F_law_worth (X : Ix) : FD := .py 2 4 none (b_law_worth X)
def b_law_folded (X : Ix) : List Stm := [.ite (.cmp .eq (.call X.law_names [(.loc 0)]) (.lst [])) [.ret (.call X.law_worth [(.loc 0), (.lst [])])] [], .ite (.cmp .eq (.ix (.loc 0) (.int 0)) (.str [110, 97, 109, 101])) [.ret (.loc 0)] [], .ret (.tup [(.ix (.loc 0) (.int 0)), (.call X.law_folded [(.ix (.loc 0) (.int 1))]), (.call X.law_folded [(.ix (.loc 0) (.int 2))])])]
def F_law_folded (X : Ix) : FD := .py 1 1 none (b_law_folded X)
def b_law_put (X : Ix) : List Stm := [.ite (.isi .int (.loc 0)) [.ret (.loc 0)] [], .ite (.cmp .eq (.ix (.loc 0) (.int 0)) (.str [110, 97, 109, 101])) [.ret (.ix (.lst [(.loc 0), (.loc 2)]) (.b1 .into (.cmp .eq (.ix (.loc 0) (.int 1)) (.loc 1))))] [], .ret (.bin .add (.slc (.loc 0) .non (.int 1)) (.b1 .tupo (.lc (.call X.law_put [(.loc 3), (.loc 1), (.loc 2)]) (.one 3) .seq [(.slc (.loc 0) (.int 1) .non)] (.bl true))))]
def F_law_put (X : Ix) : FD := .py 3 4 none (b_law_put X)
def b_law_parts (X : Ix) : List Stm := [.ite (.or2 (.isi .int (.loc 0)) (.cmp .eq (.ix (.loc 0) (.int 0)) (.str [110, 97, 109, 101]))) [.ret (.int 1)] [], .ret (.bin .add (.bin .add (.int 1) (.call X.law_parts [(.ix (.loc 0) (.int 1))])) (.call X.law_parts [(.ix (.loc 0) (.int 2))]))]
def F_law_parts (X : Ix) : FD := .py 1 1 none (b_law_parts X)
def b_law_drawn (X : Ix) : List Stm := [.ret (.call X.law_expression [(.call X.law_seed [(.call X.law_cell [(.loc 0), (.loc 1)]), (.int 1)]), (.lst [(.str [97]), (.str [98]), (.str [99, 100])]), (.bin .add (.int 1) (.bin .mod (.call X.law_cell [(.loc 0), (.bin .add (.loc 1) (.int 1))]) (.int 3)))])]
def F_law_drawn (X : Ix) : FD := .py 2 2 none (b_law_drawn X)
def b_law_tried (X : Ix) : List Stm := [.ite (.cmp .lt (.loc 0) (.int 3)) [.ite (.cmp .eq (.loc 0) (.int 0)) [.ret (.call X.names_of [(.loc 1)])] [], .ret (.ife (.cmp .eq (.loc 0) (.int 1)) (.call X.worth [(.loc 1), (.lst [])]) (.call X.folded [(.loc 1)]))] [], .ite (.cmp .eq (.loc 0) (.int 3)) [.ret (.call X.put_in [(.loc 1), (.loc 2), (.int 1)])] [], .ret (.ife (.cmp .eq (.loc 0) (.int 5)) (.call X.worth [(.loc 1), (.loc 2)]) (.call X.put_in [(.loc 1), (.ix (.loc 2) (.int 0)), (.ix (.loc 2) (.int 1))]))]
def F_law_tried (X : Ix) : FD := .py 3 3 none (b_law_tried X)
def b_lawk18 (X : Ix) : List Stm := [.par 1 2 (.call X.law_drawn [(.loc 0), (.int 0)]) (.call X.law_drawn [(.loc 0), (.int 2)]), .ite (.or2 (.cmp .ne (.call X.names_of [(.loc 1)]) (.b1 .sset (.call X.law_names [(.loc 1)]))) (.cmp .ne (.call X.folded [(.loc 1)]) (.call X.law_folded [(.loc 1)]))) [.ret (.bl false)] [], .asg 3 (.call X.law_book [(.call X.law_seed [(.call X.law_cell [(.loc 0), (.int 4)]), (.int 2)]), (.lst [(.str [97]), (.str [98]), (.str [99, 100]), (.str [101])])]), .ite (.or2 (.cmp .ne (.call X.worth [(.loc 1), (.b1 .lsto (.loc 3))]) (.call X.law_worth [(.loc 1), (.loc 3)])) (.nt (.call X.law_whole [(.call X.worth [(.loc 1), (.b1 .lsto (.loc 3))])]))) [.ret (.bl false)] [], .asg 4 (.ix (.lst [(.str [97]), (.str [98]), (.str [99, 100]), (.str [122, 122])]) (.bin .mod (.call X.law_cell [(.loc 0), (.int 5)]) (.int 4))), .asg 5 (.call X.law_put [(.loc 1), (.loc 4), (.loc 2)]), .asg 6 (.lst []), .asg 7 (.lst [.non, (.tup [(.str [110, 97, 109, 101])]), (.tup [(.str [112, 108, 117, 115]), (.int 1)]), (.int 10007), (.bl true), (.tup [(.str [110, 97, 109, 101]), (.str [65])]), (.lst [(.str [112, 108, 117, 115]), (.int 1), (.int 2)]), (.str [97])]), .asg 8 (.ix (.loc 7) (.bin .mod (.call X.law_cell [(.loc 0), (.int 6)]) (.int 8))), .asg 9 (.lst [.non, (.lst [(.tup [(.str [98]), (.int 1)]), (.tup [(.str [97]), (.int 1)])]), (.lst [(.tup [(.str [97]), (.int 10007)])]), (.lst [(.tup [(.str [97]), (.int 1)]), (.tup [(.str [97]), (.int 2)])]), (.tup [(.tup [(.str [97]), (.int 1)])]), (.lst [(.tup [(.str [65]), (.int 1)])])]), .asg 9 (.ix (.loc 9) (.bin .mod (.call X.law_cell [(.loc 0), (.int 7)]) (.int 6))), .for (.one 10) .rng1 [(.int 7)] [.try [.ite (.cmp .lt (.loc 10) (.int 4)) [.exp (.call X.law_tried [(.loc 10), (.loc 8), (.loc 4)])] [.exp (.call X.law_tried [(.loc 10), (.loc 1), (.ix (.lst [(.tup [(.loc 4), (.loc 2)]), (.loc 9), (.tup [.non, (.loc 2)])]) (.bin .sub (.loc 10) (.int 4)))])], .exp (.m1 .append (.loc 6) (.str []))] [(X.xBadExpression, [.exp (.m1 .append (.loc 6) (.str [101, 120, 112, 114, 101, 115, 115, 105, 111, 110]))]), (X.xBadName, [.exp (.m1 .append (.loc 6) (.str [110, 97, 109, 101]))])]], .ite (.cmp .gt (.call X.law_parts [(.loc 5)]) (.int 15)) [.ite (.cmp .ne (.ix (.loc 6) (.int 4)) (.str [101, 120, 112, 114, 101, 115, 115, 105, 111, 110])) [.ret (.bl false)] []] [.ite (.cmp .ne (.call X.put_in [(.loc 1), (.loc 4), (.loc 2)]) (.loc 5)) [.ret (.bl false)] []], .ret (.and2 (.cmp .eq (.slc (.loc 6) .non (.int 4)) (.bin .mul (.lst [(.str [101, 120, 112, 114, 101, 115, 115, 105, 111, 110])]) (.int 4))) (.cmp .eq (.slc (.loc 6) (.int 5) .non) (.bin .mul (.lst [(.str [110, 97, 109, 101])]) (.int 2))))]
def F_lawk18 (X : Ix) : FD := .py 1 11 none (b_lawk18 X)
def b_lawk19 (X : Ix) : List Stm := [.par 1 2 (.call X.law_drawn [(.loc 0), (.int 0)]) (.call X.law_drawn [(.loc 0), (.int 2)]), .asg 3 (.call X.law_book [(.call X.law_seed [(.call X.law_cell [(.loc 0), (.int 4)]), (.int 2)]), (.lst [(.str [97]), (.str [98]), (.str [99, 100]), (.str [101])])]), .asg 4 (.call X.folded [(.loc 1)]), .ite (.cmp .ne (.call X.worth [(.loc 4), (.b1 .lsto (.loc 3))]) (.call X.worth [(.loc 1), (.b1 .lsto (.loc 3))])) [.ret (.bl false)] [], .ite (.cmp .ne (.call X.folded [(.loc 4)]) (.loc 4)) [.ret (.bl false)] [], .ite (.cmp .gt (.call X.law_parts [(.loc 4)]) (.call X.law_parts [(.loc 1)])) [.ret (.bl false)] [], .ite (.or2 (.cmp .ne (.call X.names_of [(.loc 4)]) (.call X.names_of [(.loc 1)])) (.cmp .ne (.cmp .eq (.call X.names_of [(.loc 1)]) (.lst [])) (.isi .int (.loc 4)))) [.ret (.bl false)] [], .asg 5 (.ix (.lst [(.str [97]), (.str [98]), (.str [99, 100])]) (.bin .mod (.call X.law_cell [(.loc 0), (.int 5)]) (.int 3))), .ite (.or2 (.cmp .ne (.call X.put_in [(.loc 1), (.loc 5), (.tup [(.str [110, 97, 109, 101]), (.loc 5)])]) (.loc 1)) (.cmp .ne (.call X.put_in [(.loc 1), (.str [122, 122]), (.loc 2)]) (.loc 1))) [.ret (.bl false)] [], .ite (.cmp .le (.call X.law_parts [(.call X.law_put [(.loc 1), (.loc 5), (.loc 2)])]) (.int 15)) [.asg 6 (.b1 .dcto (.loc 3)), .sst 6 (.loc 5) (.call X.worth [(.loc 2), (.b1 .lsto (.loc 3))]), .ite (.cmp .ne (.call X.worth [(.call X.put_in [(.loc 1), (.loc 5), (.loc 2)]), (.b1 .lsto (.loc 3))]) (.call X.worth [(.loc 1), (.b1 .sitm (.loc 6))])) [.ret (.bl false)] [], .asg 7 (.bin .add (.lc (.loc 8) (.one 8) .seq [(.call X.names_of [(.loc 1)])] (.cmp .ne (.loc 8) (.loc 5))) (.bin .mul (.call X.names_of [(.loc 2)]) (.b1 .into (.cmp .isin (.loc 5) (.call X.names_of [(.loc 1)]))))), .ite (.cmp .ne (.call X.names_of [(.call X.put_in [(.loc 1), (.loc 5), (.loc 2)])]) (.b1 .sset (.loc 7))) [.ret (.bl false)] []] [], .asg 9 (.lc (.loc 10) (.one 10) .seq [(.loc 3)] (.cmp .isin (.ix (.loc 10) (.int 0)) (.call X.names_of [(.loc 1)]))), .ite (.cmp .ne (.call X.worth [(.loc 1), (.loc 9)]) (.call X.worth [(.loc 1), (.b1 .lsto (.loc 3))])) [.ret (.bl false)] [], .asg 11 (.lc (.tup [(.str [115, 101, 116]), (.loc 8), (.get2 (.b1 .dcto (.loc 3)) (.loc 8) (.int 0))]) (.one 8) .seq [(.call X.names_of [(.loc 1)])] (.bl true)), .asg 12 (.tup [(.tup [(.str [109]), (.b1 .tupo (.bin .add (.loc 11) (.lst [(.tup [(.str [110, 111, 116, 101]), (.loc 1)]), (.tup [(.str [115, 101, 116]), (.str [111, 117, 116]), (.loc 4)]), (.tup [(.str [103, 105, 118, 101]), (.str [111, 117, 116]), (.str [111, 117, 116])])])))])]), .ret (.cmp .eq (.call X.run [(.loc 12), (.str [109])]) (.tup [(.lst [(.call X.worth [(.loc 1), (.b1 .lsto (.loc 3))])]), (.lst [(.tup [(.str [111, 117, 116]), (.call X.worth [(.loc 1), (.b1 .lsto (.loc 3))])])])]))]
def F_lawk19 (X : Ix) : FD := .py 1 13 none (b_lawk19 X)
def b_trace (X : Ix) : List Stm := [.exp (.call X.look_module [(.loc 0), (.loc 1)]), .asg 2 (.dnw false), .asg 3 (.lst []), .for (.one 4) .seq [(.call X.order_of [(.loc 0), (.loc 1)])] [.exp (.m1 .append (.loc 3) (.tup [(.str [98, 101, 103, 105, 110, 115]), (.loc 4)])), .for (.one 5) .seq [(.ix (.call X.module_of [(.loc 0), (.loc 4)]) (.int 1))] [.ite (.cmp .eq (.ix (.loc 5) (.int 0)) (.str [115, 101, 116])) [.sst 2 (.tup [(.loc 4), (.ix (.loc 5) (.int 1))]) (.call X.value_of [(.loc 0), (.loc 4), (.ix (.loc 5) (.int 2)), (.loc 2)]), .exp (.m1 .append (.loc 3) (.tup [(.str [115, 101, 116]), (.loc 4), (.ix (.loc 5) (.int 1)), (.ix (.loc 2) (.tup [(.loc 4), (.ix (.loc 5) (.int 1))]))]))] [], .ite (.cmp .eq (.ix (.loc 5) (.int 0)) (.str [110, 111, 116, 101])) [.exp (.m1 .append (.loc 3) (.tup [(.str [110, 111, 116, 101]), (.loc 4), (.call X.value_of [(.loc 0), (.loc 4), (.ix (.loc 5) (.int 1)), (.loc 2)])]))] []], .exp (.m1 .append (.loc 3) (.tup [(.str [101, 110, 100, 115]), (.loc 4)]))], .ret (.loc 3)]
def F_trace (X : Ix) : FD := .py 2 6 none (b_trace X)
def b_values_of (X : Ix) : List Stm := [.asg 2 (.lc (.slc (.loc 3) (.int 1) .non) (.one 3) .seq [(.call X.trace [(.loc 0), (.loc 1)])] (.cmp .eq (.ix (.loc 3) (.int 0)) (.str [115, 101, 116]))), .ret (.b1 .srt (.loc 2))]
def F_values_of (X : Ix) : FD := .py 2 4 none (b_values_of X)
def b_law_trace (X : Ix) : List Stm := [.par 2 3 (.dnw false) (.lst []), .for (.one 4) .seq [(.call X.law_order [(.loc 0), (.loc 1)])] [.exp (.m1 .append (.loc 3) (.tup [(.str [98, 101, 103, 105, 110, 115]), (.loc 4)])), .for (.one 5) .seq [(.call X.law_rows [(.loc 0), (.loc 4)])] [.ite (.cmp .eq (.ix (.loc 5) (.int 0)) (.str [115, 101, 116])) [.sst 2 (.tup [(.loc 4), (.ix (.loc 5) (.int 1))]) (.call X.law_value [(.loc 0), (.loc 4), (.ix (.loc 5) (.int 2)), (.loc 2)]), .exp (.m1 .append (.loc 3) (.tup [(.str [115, 101, 116]), (.loc 4), (.ix (.loc 5) (.int 1)), (.ix (.loc 2) (.tup [(.loc 4), (.ix (.loc 5) (.int 1))]))]))] [], .ite (.cmp .eq (.ix (.loc 5) (.int 0)) (.str [110, 111, 116, 101])) [.exp (.m1 .append (.loc 3) (.tup [(.str [110, 111, 116, 101]), (.loc 4), (.call X.law_value [(.loc 0), (.loc 4), (.ix (.loc 5) (.int 1)), (.loc 2)])]))] []], .exp (.m1 .append (.loc 3) (.tup [(.str [101, 110, 100, 115]), (.loc 4)]))], .ret (.loc 3)]
def F_law_trace (X : Ix) : FD := .py 2 6 none (b_law_trace X)
def b_lawk20 (X : Ix) : List Stm := [.asg 1 (.call X.law_program [(.loc 0), (.int 0)]), .asg 2 (.ix (.ix (.loc 1) (.bin .mod (.call X.law_cell [(.loc 0), (.int 5)]) (.b1 .len (.loc 1)))) (.int 0)), .asg 3 (.call X.law_trace [(.loc 1), (.loc 2)]), .ite (.cmp .ne (.call X.trace [(.loc 1), (.loc 2)]) (.loc 3)) [.ret (.bl false)] [], .ret (.cmp .eq (.call X.values_of [(.loc 1), (.loc 2)]) (.b1 .srt (.lc (.slc (.loc 4) (.int 1) .non) (.one 4) .seq [(.loc 3)] (.cmp .eq (.ix (.loc 4) (.int 0)) (.str [115, 101, 116])))))]
def F_lawk20 (X : Ix) : FD := .py 1 5 none (b_lawk20 X)
def b_lawk21 (X : Ix) : List Stm := [.asg 1 (.call X.law_program [(.loc 0), (.int 0)]), .asg 2 (.ix (.ix (.loc 1) (.bin .mod (.call X.law_cell [(.loc 0), (.int 5)]) (.b1 .len (.loc 1)))) (.int 0)), .asg 3 (.call X.trace [(.loc 1), (.loc 2)]), .asgt [4, 5] (.call X.run [(.loc 1), (.loc 2)]), .ite (.cmp .ne (.lc (.ix (.loc 6) (.int 2)) (.one 6) .seq [(.loc 3)] (.cmp .eq (.ix (.loc 6) (.int 0)) (.str [110, 111, 116, 101]))) (.loc 4)) [.ret (.bl false)] [], .ite (.cmp .ne (.lc (.ix (.loc 6) (.int 1)) (.one 6) .seq [(.loc 3)] (.cmp .eq (.ix (.loc 6) (.int 0)) (.str [101, 110, 100, 115]))) (.call X.order [(.loc 1), (.loc 2)])) [.ret (.bl false)] [], .ite (.cmp .ne (.lc (.ix (.loc 6) (.int 1)) (.one 6) .seq [(.loc 3)] (.cmp .eq (.ix (.loc 6) (.int 0)) (.str [98, 101, 103, 105, 110, 115]))) (.call X.order [(.loc 1), (.loc 2)])) [.ret (.bl false)] [], .asg 7 .non, .for (.one 6) .seq [(.loc 3)] [.ite (.or2 (.cmp .ne (.isn false (.loc 7)) (.cmp .eq (.ix (.loc 6) (.int 0)) (.str [98, 101, 103, 105, 110, 115]))) (.and2 (.isn true (.loc 7)) (.cmp .ne (.ix (.loc 6) (.int 1)) (.loc 7)))) [.ret (.bl false)] [], .asg 7 (.ife (.cmp .eq (.ix (.loc 6) (.int 0)) (.str [101, 110, 100, 115])) .non (.ix (.loc 6) (.int 1)))], .asg 8 (.b1 .dcto (.lc (.tup [(.tup [(.loc 9), (.loc 10)]), (.loc 11)]) (.many [9, 10, 11]) .seq [(.call X.values_of [(.loc 1), (.loc 2)])] (.bl true))), .for (.one 6) .seq [(.call X.law_rows [(.loc 1), (.loc 2)])] [.asg 12 (.ife (.cmp .eq (.ix (.loc 6) (.int 0)) (.str [103, 105, 118, 101])) (.call X.home [(.loc 1), (.loc 2), (.ix (.loc 6) (.int 1))]) .non), .ite (.and2 (.cmp .eq (.ix (.loc 6) (.int 0)) (.str [103, 105, 118, 101])) (.cmp .ne (.ix (.b1 .dcto (.loc 5)) (.ix (.loc 6) (.int 2))) (.get2 (.loc 8) (.loc 12) (.int 0)))) [.ret (.bl false)] []], .ite (.cmp .ne (.b1 .srt (.loc 8)) (.b1 .srt (.bin .add (.call X.kept [(.loc 1), (.loc 2)]) (.call X.dead [(.loc 1), (.loc 2)])))) [.ret (.bl false)] [], .asg 13 (.call X.bundle [(.loc 1), (.loc 2), (.str [111, 117, 116])]), .ret (.cmp .eq (.lc (.ix (.loc 6) (.int 2)) (.one 6) .seq [(.call X.trace [(.tup [(.loc 13)]), (.str [111, 117, 116])])] (.cmp .eq (.ix (.loc 6) (.int 0)) (.str [110, 111, 116, 101]))) (.loc 4))]
def F_lawk21 (X : Ix) : FD := .py 1 14 none (b_lawk21 X)
def b_web_of (X : Ix) : List Stm := [.asg 1 (.dnw true), .for (.one 2) .seq [(.loc 0)] [.sst 1 (.ix (.loc 2) (.int 0)) (.lc (.ix (.loc 3) (.int 1)) (.one 3) .seq [(.ix (.loc 2) (.int 1))] (.cmp .isin (.ix (.loc 3) (.int 0)) (.tup [(.str [116, 97, 107, 101]), (.str [112, 97, 115, 115]), (.str [114, 117, 110])])))], .ret (.loc 1)]
def F_web_of (X : Ix) : FD := .py 1 4 none (b_web_of X)
def b_reached (X : Ix) : List Stm := [.asg 2 (.lst []), .asg 3 (.b1 .lsto (.ix (.loc 0) (.loc 1))), .whl (.loc 3) [.asg 4 (.m0 .pop (.loc 3)), .ite (.cmp .notin (.loc 4) (.loc 2)) [.exp (.m1 .append (.loc 2) (.loc 4)), .exp (.m1 .extend (.loc 3) (.ix (.loc 0) (.loc 4)))] []], .ret (.loc 2)]
def F_reached (X : Ix) : FD := .py 2 5 none (b_reached X)
def b_needs (X : Ix) : List Stm := [.exp (.call X.look_module [(.loc 0), (.loc 1)]), .ret (.b1 .srt (.call X.reached [(.call X.web_of [(.loc 0)]), (.loc 1)]))]
def F_needs (X : Ix) : FD := .py 2 2 none (b_needs X)
def b_loops (X : Ix) : List Stm := [.exp (.call X.checked [(.loc 0)]), .asg 1 (.call X.web_of [(.loc 0)]), .asg 2 (.b1 .dcto (.lc (.tup [(.loc 3), (.call X.reached [(.loc 1), (.loc 3)])]) (.one 3) .seq [(.loc 1)] (.bl true))), .asg 4 (.dnw true), .for (.one 3) .seq [(.loc 1)] [.ite (.cmp .isin (.loc 3) (.ix (.loc 2) (.loc 3))) [.sst 4 (.b1 .tupo (.b1 .srt (.lc (.loc 5) (.one 5) .seq [(.loc 1)] (.and2 (.cmp .isin (.loc 5) (.ix (.loc 2) (.loc 3))) (.cmp .isin (.loc 3) (.ix (.loc 2) (.loc 5))))))) (.bl true)] []], .ret (.b1 .srt (.loc 4))]
def F_loops (X : Ix) : FD := .py 1 6 none (b_loops X)
def b_idle (X : Ix) : List Stm := [.exp (.call X.look_module [(.loc 0), (.loc 1)]), .asg 2 (.call X.order_of [(.loc 0), (.loc 1)]), .ret (.b1 .srt (.lc (.ix (.loc 3) (.int 0)) (.one 3) .seq [(.loc 0)] (.cmp .notin (.ix (.loc 3) (.int 0)) (.loc 2))))]
def F_idle (X : Ix) : FD := .py 2 4 none (b_idle X)
def b_only (X : Ix) : List Stm := [.exp (.call X.look_module [(.loc 0), (.loc 1)]), .asg 2 (.call X.order_of [(.loc 0), (.loc 1)]), .ret (.b1 .tupo (.lc (.loc 3) (.one 3) .seq [(.loc 0)] (.cmp .isin (.ix (.loc 3) (.int 0)) (.loc 2))))]
def F_only (X : Ix) : FD := .py 2 4 none (b_only X)
def b_starts (X : Ix) : List Stm := [.exp (.call X.checked [(.loc 0)]), .asg 1 (.b1 .srt (.lc (.ix (.loc 2) (.int 0)) (.one 2) .seq [(.loc 0)] (.bl true))), .asg 3 (.b1 .dcto (.lc (.tup [(.loc 4), (.call X.order_of [(.loc 0), (.loc 4)])]) (.one 4) .seq [(.loc 1)] (.bl true))), .asg 5 (.lst [(.tup [])]), .for (.one 4) .seq [(.loc 1)] [.asg 5 (.bin .add (.loc 5) (.lc (.bin .add (.loc 6) (.tup [(.loc 4)])) (.one 6) .seq [(.loc 5)] (.bl true)))], .asg 7 (.lst []), .for (.one 6) .seq [(.loc 5)] [.asg 8 (.dnw true), .for (.one 4) .seq [(.loc 6)] [.exp (.m1 .update (.loc 8) (.b1 .dcto (.lc (.tup [(.loc 9), (.bl true)]) (.one 9) .seq [(.ix (.loc 3) (.loc 4))] (.bl true))))], .ite (.cmp .eq (.b1 .len (.loc 8)) (.b1 .len (.loc 1))) [.exp (.m1 .append (.loc 7) (.tup [(.b1 .len (.loc 6)), (.loc 6)]))] []], .ret (.ix (.b1 .mino (.loc 7)) (.int 1))]
def F_starts (X : Ix) : FD := .py 1 10 none (b_starts X)
def b_law_wants (X : Ix) : List Stm := [.asg 2 (.lst []), .for (.one 3) .seq [(.call X.law_rows [(.loc 0), (.loc 1)])] [.asg 2 (.bin .add (.loc 2) (.bin .mul (.lst [(.ix (.loc 3) (.int 1))]) (.b1 .into (.and2 (.cmp .isin (.ix (.loc 3) (.int 0)) (.tup [(.str [116, 97, 107, 101]), (.str [112, 97, 115, 115]), (.str [114, 117, 110])])) (.cmp .notin (.ix (.loc 3) (.int 1)) (.loc 2))))))], .for (.one 4) .rng1 [(.b1 .len (.loc 0))] [.for (.one 5) .seq [(.b1 .lsto (.loc 2))] [.for (.one 3) .seq [(.call X.law_rows [(.loc 0), (.loc 5)])] [.asg 2 (.bin .add (.loc 2) (.bin .mul (.lst [(.ix (.loc 3) (.int 1))]) (.b1 .into (.and2 (.cmp .isin (.ix (.loc 3) (.int 0)) (.tup [(.str [116, 97, 107, 101]), (.str [112, 97, 115, 115]), (.str [114, 117, 110])])) (.cmp .notin (.ix (.loc 3) (.int 1)) (.loc 2))))))]]], .ret (.b1 .srt (.loc 2))]
def F_law_wants (X : Ix) : FD := .py 2 6 none (b_law_wants X)
def b_law_lots (X : Ix) : List Stm := [.asg 1 (.lst [(.tup [])]), .for (.one 2) .seq [(.loc 0)] [.asg 1 (.bin .add (.loc 1) (.lc (.bin .add (.loc 3) (.tup [(.loc 2)])) (.one 3) .seq [(.loc 1)] (.bl true)))], .ret (.loc 1)]
def F_law_lots (X : Ix) : FD := .py 1 4 none (b_law_lots X)
def b_lawk22 (X : Ix) : List Stm := [.asg 1 (.call X.law_program [(.loc 0), (.int 0)]), .asg 2 (.b1 .srt (.lc (.ix (.loc 3) (.int 0)) (.one 3) .seq [(.loc 1)] (.bl true))), .asg 4 (.ix (.ix (.loc 1) (.bin .mod (.call X.law_cell [(.loc 0), (.int 5)]) (.b1 .len (.loc 1)))) (.int 0)), .ite (.cmp .ne (.call X.needs [(.loc 1), (.loc 4)]) (.call X.law_wants [(.loc 1), (.loc 4)])) [.ret (.bl false)] [], .asg 5 (.lst []), .for (.one 6) .seq [(.loc 2)] [.asg 7 (.call X.law_wants [(.loc 1), (.loc 6)]), .asg 8 (.b1 .tupo (.lc (.loc 9) (.one 9) .seq [(.loc 2)] (.and2 (.cmp .isin (.loc 9) (.loc 7)) (.cmp .isin (.loc 6) (.call X.law_wants [(.loc 1), (.loc 9)]))))), .asg 5 (.bin .add (.loc 5) (.bin .mul (.lst [(.loc 8)]) (.b1 .into (.and2 (.cmp .isin (.loc 6) (.loc 7)) (.cmp .notin (.loc 8) (.loc 5))))))], .ite (.cmp .ne (.call X.loops [(.loc 1)]) (.b1 .srt (.loc 5))) [.ret (.bl false)] [], .asg 10 (.call X.law_order [(.loc 1), (.loc 4)]), .ite (.cmp .ne (.call X.idle [(.loc 1), (.loc 4)]) (.lc (.loc 6) (.one 6) .seq [(.loc 2)] (.cmp .notin (.loc 6) (.loc 10)))) [.ret (.bl false)] [], .ite (.cmp .ne (.call X.only [(.loc 1), (.loc 4)]) (.b1 .tupo (.lc (.loc 3) (.one 3) .seq [(.loc 1)] (.cmp .isin (.ix (.loc 3) (.int 0)) (.loc 10))))) [.ret (.bl false)] [], .asg 11 (.lst []), .for (.one 8) .seq [(.call X.law_lots [(.loc 2)])] [.asg 12 (.lst []), .for (.one 6) .seq [(.loc 8)] [.asg 12 (.bin .add (.loc 12) (.call X.law_order [(.loc 1), (.loc 6)]))], .asg 11 (.bin .add (.loc 11) (.bin .mul (.lst [(.tup [(.b1 .len (.loc 8)), (.loc 8)])]) (.b1 .into (.cmp .eq (.lc (.loc 6) (.one 6) .seq [(.loc 2)] (.cmp .notin (.loc 6) (.loc 12))) (.lst [])))))], .ret (.cmp .eq (.call X.starts [(.loc 1)]) (.ix (.b1 .mino (.loc 11)) (.int 1)))]
def F_lawk22 (X : Ix) : FD := .py 1 13 none (b_lawk22 X)
def b_lawk23 (X : Ix) : List Stm := [.asg 1 (.call X.law_program [(.loc 0), (.int 0)]), .asg 2 (.b1 .srt (.lc (.ix (.loc 3) (.int 0)) (.one 3) .seq [(.loc 1)] (.bl true))), .asg 4 (.ix (.ix (.loc 1) (.bin .mod (.call X.law_cell [(.loc 0), (.int 5)]) (.b1 .len (.loc 1)))) (.int 0)), .asg 5 (.call X.order [(.loc 1), (.loc 4)]), .ite (.cmp .ne (.b1 .srt (.loc 5)) (.b1 .sset (.bin .add (.call X.needs [(.loc 1), (.loc 4)]) (.lst [(.loc 4)])))) [.ret (.bl false)] [], .ite (.cmp .ne (.b1 .srt (.bin .add (.loc 5) (.call X.idle [(.loc 1), (.loc 4)]))) (.loc 2)) [.ret (.bl false)] [], .asg 6 (.call X.only [(.loc 1), (.loc 4)]), .ite (.cmp .ne (.call X.run [(.loc 6), (.loc 4)]) (.call X.run [(.loc 1), (.loc 4)])) [.ret (.bl false)] [], .ite (.cmp .ne (.call X.kept [(.loc 6), (.loc 4)]) (.call X.kept [(.loc 1), (.loc 4)])) [.ret (.bl false)] [], .ite (.cmp .ne (.call X.idle [(.loc 6), (.loc 4)]) (.lst [])) [.ret (.bl false)] [], .ite (.or2 (.cmp .ne (.call X.only [(.loc 6), (.loc 4)]) (.loc 6)) (.cmp .ne (.call X.loops [(.loc 6)]) (.lc (.loc 7) (.one 7) .seq [(.call X.loops [(.loc 1)])] (.cmp .isin (.ix (.loc 7) (.int 0)) (.loc 5))))) [.ret (.bl false)] [], .asg 8 (.lst []), .for (.one 7) .seq [(.call X.loops [(.loc 1)])] [.asg 8 (.bin .add (.loc 8) (.b1 .lsto (.loc 7))), .for (.one 9) .seq [(.loc 7)] [.ite (.cmp .ne (.lc (.loc 10) (.one 10) .seq [(.loc 7)] (.cmp .notin (.loc 10) (.call X.needs [(.loc 1), (.loc 9)]))) (.lst [])) [.ret (.bl false)] [], .for (.one 11) .seq [(.call X.users [(.loc 1), (.loc 9)])] [.ite (.and2 (.cmp .notin (.loc 11) (.loc 7)) (.cmp .notin (.loc 9) (.call X.needs [(.loc 1), (.loc 11)]))) [.ret (.bl false)] []]]], .ite (.cmp .ne (.b1 .len (.loc 8)) (.b1 .lset (.loc 8))) [.ret (.bl false)] [], .ite (.cmp .eq (.call X.loops [(.loc 1)]) (.lst [])) [.for (.many [12, 9]) .enm [(.loc 5)] [.ite (.cmp .ne (.lc (.loc 10) (.one 10) .seq [(.call X.needs [(.loc 1), (.loc 9)])] (.cmp .notin (.loc 10) (.slc (.loc 5) .non (.loc 12)))) (.lst [])) [.ret (.bl false)] []]] [], .ret (.or2 (.cmp .lt (.b1 .len (.call X.starts [(.loc 1)])) (.int 2)) (.cmp .eq (.lc (.loc 9) (.one 9) .seq [(.loc 2)] (.cmp .eq (.call X.idle [(.loc 1), (.loc 9)]) (.lst []))) (.lst [])))]
def F_lawk23 (X : Ix) : FD := .py 1 13 none (b_lawk23 X)
def b_looked (X : Ix) : List Stm := [.ret (.call X.checked [(.loc 0)])]
def F_looked (X : Ix) : FD := .py 1 1 none (b_looked X)
def b_called (X : Ix) : List Stm := [.asg 3 (.lst []), .for (.many [4, 5]) .seq [(.loc 0)] [.asg 6 (.lst []), .for (.one 7) .seq [(.loc 5)] [.ite (.and2 (.cmp .isin (.ix (.loc 7) (.int 0)) (.tup [(.str [116, 97, 107, 101]), (.str [112, 97, 115, 115]), (.str [114, 117, 110])])) (.cmp .eq (.ix (.loc 7) (.int 1)) (.loc 1))) [.asg 7 (.bin .add (.bin .add (.slc (.loc 7) .non (.int 1)) (.tup [(.loc 2)])) (.slc (.loc 7) (.int 2) .non))] [], .exp (.m1 .append (.loc 6) (.loc 7))], .exp (.m1 .append (.loc 3) (.tup [(.ife (.cmp .eq (.loc 4) (.loc 1)) (.loc 2) (.loc 4)), (.b1 .tupo (.loc 6))]))], .ret (.b1 .tupo (.loc 3))]
def F_called (X : Ix) : FD := .py 3 8 none (b_called X)
def b_law_called_otherwise (X : Ix) : List Stm := [.asg 3 (.lst []), .for (.many [4, 5]) .seq [(.loc 0)] [.asg 6 (.lst []), .for (.one 7) .seq [(.loc 5)] [.ite (.and2 (.cmp .isin (.ix (.loc 7) (.int 0)) (.tup [(.str [116, 97, 107, 101]), (.str [112, 97, 115, 115]), (.str [114, 117, 110])])) (.cmp .eq (.ix (.loc 7) (.int 1)) (.loc 1))) [.asg 7 (.bin .add (.tup [(.ix (.loc 7) (.int 0)), (.loc 2)]) (.slc (.loc 7) (.int 2) .non))] [], .exp (.m1 .append (.loc 6) (.loc 7))], .exp (.m1 .append (.loc 3) (.tup [(.ix (.lst [(.loc 4), (.loc 2)]) (.b1 .into (.cmp .eq (.loc 4) (.loc 1)))), (.b1 .tupo (.loc 6))]))], .ret (.b1 .tupo (.loc 3))]
def F_law_called_otherwise (X : Ix) : FD := .py 3 8 none (b_law_called_otherwise X)
def b_law_checked (X : Ix) : List Stm := [.asg 1 .non, .try [.exp (.call X.checked [(.loc 0)])] [(X.xBadProgram, [.asg 1 (.str [112, 114, 111, 103, 114, 97, 109])]), (X.xMissing, [.asg 1 (.str [109, 105, 115, 115, 105, 110, 103])]), (X.xRinged, [.asg 1 (.str [114, 105, 110, 103, 101, 100])])], .ret (.loc 1)]
def F_law_checked (X : Ix) : FD := .py 1 2 none (b_law_checked X)
def b_law_changed (X : Ix) : List Stm := [.asg 2 (.lc (.ix (.loc 3) (.int 0)) (.one 3) .seq [(.loc 0)] (.bl true)), .ite (.cmp .eq (.ix (.loc 1) (.int 0)) (.str [112, 117, 116])) [.asg 4 (.bin .add (.loc 0) (.tup [(.ix (.loc 1) (.int 1))])), .ite (.cmp .isin (.ix (.ix (.loc 1) (.int 1)) (.int 0)) (.loc 2)) [.asg 4 (.b1 .tupo (.lc (.ife (.cmp .eq (.ix (.loc 3) (.int 0)) (.ix (.ix (.loc 1) (.int 1)) (.int 0))) (.ix (.loc 1) (.int 1)) (.loc 3)) (.one 3) .seq [(.loc 0)] (.bl true)))] [], .ret (.or2 (.call X.law_checked [(.loc 4)]) (.loc 4))] [], .ite (.cmp .notin (.ix (.loc 1) (.int 1)) (.loc 2)) [.ret (.str [109, 111, 100, 117, 108, 101])] [], .ite (.cmp .eq (.ix (.loc 1) (.int 0)) (.str [100, 114, 111, 112])) [.asg 4 (.b1 .tupo (.lc (.loc 3) (.one 3) .seq [(.loc 0)] (.cmp .ne (.ix (.loc 3) (.int 0)) (.ix (.loc 1) (.int 1))))), .ret (.or2 (.call X.law_checked [(.loc 4)]) (.loc 4))] [], .ite (.cmp .eq (.ix (.loc 1) (.int 0)) (.str [99, 97, 108, 108])) [.ret (.ife (.or2 (.cmp .isin (.ix (.loc 1) (.int 2)) (.loc 2)) (.cmp .gt (.b1 .len (.ix (.loc 1) (.int 2))) (.int 6))) (.str [110, 97, 109, 101]) (.call X.law_called_otherwise [(.loc 0), (.ix (.loc 1) (.int 1)), (.ix (.loc 1) (.int 2))]))] [], .asg 3 (.ix (.loc 0) (.m1 .index (.loc 2) (.ix (.loc 1) (.int 1)))), .asg 5 (.lc (.ife (.cmp .eq (.ix (.loc 6) (.int 0)) (.str [116, 97, 107, 101])) (.ix (.loc 6) (.int 3)) (.ix (.loc 6) (.int 1))) (.one 6) .seq [(.ix (.loc 3) (.int 1))] (.cmp .isin (.ix (.loc 6) (.int 0)) (.tup [(.str [116, 97, 107, 101]), (.str [115, 101, 116])]))), .ite (.or2 (.cmp .notin (.ix (.loc 1) (.int 2)) (.loc 5)) (.or2 (.cmp .isin (.ix (.loc 1) (.int 3)) (.loc 5)) (.cmp .gt (.b1 .len (.ix (.loc 1) (.int 3))) (.int 6)))) [.ret (.str [110, 97, 109, 101])] [], .asg 7 (.m1 .index (.loc 2) (.ix (.loc 1) (.int 1))), .ret (.bin .add (.bin .add (.slc (.loc 0) .non (.loc 7)) (.tup [(.call X.renamed [(.loc 3), (.ix (.loc 1) (.int 2)), (.ix (.loc 1) (.int 3))])])) (.slc (.loc 0) (.bin .add (.loc 7) (.int 1)) .non))]
def F_law_changed (X : Ix) : FD := .py 2 8 none (b_law_changed X)
def b_law_some_deed (X : Ix) : List Stm := [.asg 2 (.bin .add (.lc (.ix (.loc 3) (.int 0)) (.one 3) .seq [(.loc 0)] (.bl true)) (.lst [(.str [110, 111, 110, 101])])), .asg 4 (.ix (.loc 2) (.call X.law_pick [(.call X.law_seed [(.loc 1), (.int 1)]), (.b1 .len (.loc 2))])), .asg 5 (.ix (.lst [(.str [115, 119]), (.str [115, 120]), (.str [116, 120]), (.str [116, 121]), (.str [110, 111, 110, 101])]) (.call X.law_pick [(.call X.law_seed [(.loc 1), (.int 2)]), (.int 5)])), .asg 6 (.ix (.lst [(.str [113]), (.str [115, 119]), (.str [109, 97]), (.str [108, 111, 110, 103, 101, 115, 116]), (.str [122, 122])]) (.call X.law_pick [(.call X.law_seed [(.loc 1), (.int 3)]), (.int 5)])), .asg 3 (.call X.law_module [(.call X.law_seed [(.loc 1), (.int 4)]), (.call X.law_pick [(.call X.law_seed [(.loc 1), (.int 5)]), (.int 5)]), (.int 5), (.cmp .eq (.bin .mod (.bin .fdiv (.loc 1) (.int 7)) (.int 3)) (.int 0))]), .asg 7 (.lst [(.tup [(.str [112, 117, 116]), (.loc 3)]), (.tup [(.str [100, 114, 111, 112]), (.loc 4)]), (.tup [(.str [101, 120, 99, 104, 97, 110, 103, 101]), (.loc 4), (.loc 5), (.loc 6)]), (.tup [(.str [99, 97, 108, 108]), (.loc 4), (.loc 6)]), (.tup [(.str [98, 97, 99, 107])])]), .ret (.ix (.loc 7) (.call X.law_pick [(.loc 1), (.int 5)]))]
def F_law_some_deed (X : Ix) : FD := .py 2 8 none (b_law_some_deed X)
def b_wall (X : Ix) : List Stm := [.whl (.bl true) [.pss]]
def F_wall (X : Ix) : FD := .py 1 1 none (b_wall X)
def b_law_asked_of (X : Ix) : List Stm := [.ite (.cmp .lt (.loc 0) (.int 3)) [.ite (.cmp .eq (.loc 0) (.int 0)) [.ret (.call X.trace [(.loc 1), (.loc 2)])] [], .ret (.ife (.cmp .eq (.loc 0) (.int 1)) (.call X.values_of [(.loc 1), (.loc 2)]) (.call X.needs [(.loc 1), (.loc 2)]))] [], .ite (.cmp .lt (.loc 0) (.int 5)) [.ret (.ife (.cmp .eq (.loc 0) (.int 3)) (.call X.idle [(.loc 1), (.loc 2)]) (.call X.only [(.loc 1), (.loc 2)]))] [], .ret (.ife (.cmp .eq (.loc 0) (.int 5)) (.call X.loops [(.loc 1)]) (.call X.starts [(.loc 1)]))]
def F_law_asked_of (X : Ix) : FD := .py 3 3 none (b_law_asked_of X)
def b_law_asked_word (X : Ix) : List Stm := [.asg 3 (.str []), .try [.exp (.call X.law_asked_of [(.loc 0), (.loc 1), (.loc 2)])] [(X.xBadProgram, [.asg 3 (.str [112, 114, 111, 103, 114, 97, 109])]), (X.xMissing, [.asg 3 (.str [109, 105, 115, 115, 105, 110, 103])]), (X.xNoModule, [.asg 3 (.str [109, 111, 100, 117, 108, 101])])], .ret (.loc 3)]
def F_law_asked_word (X : Ix) : FD := .py 3 4 none (b_law_asked_word X)
end Py
set_option Elab.async false
set_option linter.all false
set_option autoImplicit false
set_option maxRecDepth 100000
namespace M
open Py
def SMALL : W := [97, 98, 99, 100, 101, 102, 103, 104, 105, 106, 107, 108, 109, 110, 111, 112, 113, 114, 115, 116, 117, 118, 119, 120, 121, 122]
structure HX (P : Prg) (X : Ix) : Prop where
  is_word : P.fns[X.is_word]? = some (F_is_word X)
  is_figure : P.fns[X.is_figure]? = some (F_is_figure X)
  room : P.fns[X.room]? = some (F_room X)
  is_expression : P.fns[X.is_expression]? = some (F_is_expression X)
  names_in : P.fns[X.names_in]? = some (F_names_in X)
  cSMALL : P.C[X.cSMALL]? = some (.str SMALL)
  cPRIME : P.C[X.cPRIME]? = some (.int 10007)
  cMOST_PARTS : P.C[X.cMOST_PARTS]? = some (.int 15)
variable {P : Prg} {X : Ix}
@[simp] theorem prime (H : HX P X) : P.C[X.cPRIME]? = some (.int 10007) := H.cPRIME
abbrev NAME : W := [110, 97, 109, 101]
abbrev PLUS : W := [112, 108, 117, 115]
abbrev TIMES : W := [116, 105, 109, 101, 115]
mutual
def okT : T → Bool
  | .str s => decide (s.length ≤ 1000000) && gdW s
  | .tup ts => decide (ts.length ≤ 1000000) && okTs ts
  | .lst ts => decide (ts.length ≤ 1000000) && okTs ts
  | .scr _ => false
  | _ => true
def okTs : List T → Bool
  | [] => true
  | t :: ts => okT t && okTs ts
end
@[simp] theorem okT_str (s : W) : okT (.str s) = (decide (s.length ≤ 1000000) && gdW s) := (rfl)
@[simp] theorem okT_tup (ts : List T) : okT (.tup ts) = (decide (ts.length ≤ 1000000) && okTs ts) := (rfl)
@[simp] theorem okT_lst (ts : List T) : okT (.lst ts) = (decide (ts.length ≤ 1000000) && okTs ts) := (rfl)
@[simp] theorem okT_int (i : Int) : okT (.int i) = true := (rfl)
@[simp] theorem okT_bl (i : Bool) : okT (.bl i) = true := (rfl)
@[simp] theorem okT_non : okT .non = true := (rfl)
@[simp] theorem okTs_nil : okTs [] = true := (rfl)
@[simp] theorem okTs_cons (t : T) (ts : List T) : okTs (t :: ts) = (okT t && okTs ts) := (rfl)
theorem okTs_mem : ∀ {ts : List T}, okTs ts = true → ∀ t ∈ ts, okT t = true
  | [], _, t, h => by cases h
  | a :: ts, ho, t, h => by
    simp only [okTs_cons, Bool.and_eq_true] at ho
    rcases List.mem_cons.mp h with rfl | h
    · exact ho.1
    · exact okTs_mem ho.2 t h
theorem okTs_of : ∀ {ts : List T}, (∀ t ∈ ts, okT t = true) → okTs ts = true
  | [], _ => rfl
  | a :: ts, h => by
    simp only [okTs_cons, Bool.and_eq_true]
    exact ⟨h a (List.mem_cons_self ..), okTs_of fun t ht => h t (List.mem_cons_of_mem _ ht)⟩
def smallB (c : Nat) : Bool := decide (97 ≤ c) && decide (c ≤ 122)
def wordW (s : W) : Bool := decide (1 ≤ s.length) && decide (s.length ≤ 6) && s.all smallB
def wordB : T → Bool
  | .str s => wordW s
  | _ => false
def figB : T → Bool
  | .int i => decide (0 ≤ i) && decide (i < 10007)
  | _ => false
@[simp] theorem mem_small (c : Nat) : (c ∈ SMALL) ↔ smallB c = true := by
  unfold smallB SMALL
  simp only [List.mem_cons, List.not_mem_nil, or_false, Bool.and_eq_true, decide_eq_true_eq]
  omega
theorem is_word (H : HX P X) (t : T) (ho : okT t = true) (k : Nat) : callF P (k + 1) X.is_word [t] = .ok (.tmp (.bl (wordB t))) := by
  rw [call_py H.is_word rfl]
  cases t with
  | str s =>
    simp only [okT, Bool.and_eq_true, decide_eq_true_eq] at ho
    have h1 := ho.1
    have e := lcR_one s (fun c => T.str [c]) (fun c => !smallB c) (fun c => T.str [c]) (i := 1) (ρ := [Sl.val (T.str s), Sl.un]) (vc := (go P.C (callF P k) (Ex.cmp COp.notin (Ex.loc 1) (Ex.gl X.cSMALL))).2) (ve := (go P.C (callF P k) (Ex.loc 1)).1) (by simp) (by simp) h1 (fun x _ => by
      by_cases c : smallB x = true <;> simp [H.cSMALL, c])
    by_cases c1 : 1 ≤ s.length
    · have c1' : (1 : Int) ≤ s.length := by omega
      by_cases c2 : s.length ≤ 6
      · have c2' : ¬ (6 : Int) < s.length := by omega
        simp [b_is_word, h1, e, c1', c2', wordB, wordW, c1, c2, all_filter]
      · have c2' : (6 : Int) < s.length := by omega
        simp [b_is_word, h1, c1', c2', wordB, wordW, c1, c2]
    · have c1' : ¬ (1 : Int) ≤ s.length := by omega
      simp [b_is_word, h1, c1', wordB, wordW, c1]
  | scr ns => cases ho
  | _ => simp [b_is_word, wordB]
theorem is_figure (H : HX P X) (t : T) (ho : okT t = true) (k : Nat) : callF P (k + 1) X.is_figure [t] = .ok (.tmp (.bl (figB t))) := by
  rw [call_py H.is_figure rfl]
  cases t with
  | int i =>
    by_cases c1 : 0 ≤ i <;> simp [b_is_figure, figB, c1, H.cPRIME]
  | scr ns => cases ho
  | _ => simp [b_is_figure, figB]
def roomF : Nat → T → Nat → Option Nat
  | _, _, 0 => none
  | 0, _, _ => none
  | f + 1, t, l + 1 => if figB t then some l else match t with
    | .tup [.str w, a] => if w = NAME ∧ wordB a = true then some l else none
    | .tup [.str w, a, b] => if w = PLUS ∨ w = TIMES then (match roomF f a l with
      | some m => roomF f b m
      | none => none) else none
    | _ => none
def oi : Option Nat → Int
  | some n => n
  | none => -1
theorem room_le : ∀ (f : Nat) (t : T) (l m : Nat), roomF f t l = some m → m < l
  | _, _, 0, _, h => by simp [roomF] at h
  | 0, _, _ + 1, _, h => by simp [roomF] at h
  | f + 1, t, l + 1, m, h => by
    unfold roomF at h
    split at h
    · cases h; omega
    · split at h
      · split at h
        · cases h; omega
        · cases h
      · split at h
        · split at h
          · rename_i x y e
            have := room_le f _ _ _ e
            have := room_le f _ _ _ h
            omega
          · cases h
        · cases h
      · cases h
theorem room (H : HX P X) : ∀ (f : Nat) (t : T) (l k : Nat), okT t = true → l ≤ f → callF P (k + f + 2) X.room [t, .int l] = .ok (.tmp (.int (oi (roomF f t l)))) := by
  intro f
  induction f with
  | zero =>
    intro t l k ho hl
    obtain rfl : l = 0 := by omega
    rw [call_py H.room rfl]
    simp [b_room, roomF, oi]
  | succ f ih =>
    intro t l k ho hl
    show callF P ((k + f + 1 + 1) + 1) X.room [t, .int l] = _
    rw [call_py H.room rfl]
    cases l with
    | zero => simp [b_room, roomF, oi]
    | succ l =>
      have h0 : ¬ ((l : Int) + 1 = 0) := by omega
      have h3 : (l : Int) + 1 - 1 = l := by omega
      have hf := fun t ho k => is_figure H t ho k
      have hw := fun t ho k => is_word H t ho k
      cases t with
      | scr ns => cases ho
      | tup ts =>
        cases ts with
        | nil => simp [b_room, h0, hf, figB, roomF, oi]
        | cons a ts =>
          cases a with
          | str w =>
            simp at ho
            cases ts with
            | nil => simp [b_room, h0, hf, figB, roomF, oi, ho]
            | cons a ts =>
              simp at ho
              cases ts with
              | nil =>
                by_cases c : w = NAME
                · subst c
                  cases hb : wordB a <;> simp [b_room, h0, hf, figB, roomF, oi, hw, hb, h3, ho]
                · simp [b_room, h0, hf, figB, roomF, oi, c, ho]
              | cons b ts =>
                simp at ho
                have c7 : (7 : Int) = 7 := rfl
                cases ts with
                | nil =>
                  by_cases c : w = NAME
                  · subst c
                    simp [b_room, h0, hf, figB, roomF, oi, ho]
                  · by_cases c2 : w = PLUS ∨ w = TIMES
                    · have ia := ih a l k (by simp [ho]) (by omega)
                      cases hr : roomF f a l with
                      | none =>
                        rw [hr] at ia
                        simp [oi] at ia
                        rcases c2 with rfl | rfl <;> simp [b_room, h0, hf, figB, roomF, oi, hr, ia, h3, ho]
                      | some m =>
                        rw [hr] at ia
                        have ib := ih b m k (by simp [ho]) (by have := room_le _ _ _ _ hr; omega)
                        simp [oi] at ia
                        rcases c2 with rfl | rfl <;> simp [b_room, h0, hf, figB, roomF, hr, ia, ib, h3, ho]
                    · have c3 : ¬ (PLUS = w ∨ TIMES = w) := fun h => c2 (h.imp Eq.symm Eq.symm)
                      have c4 : PLUS ≠ w ∧ TIMES ≠ w := not_or.mp c3
                      simp [b_room, h0, hf, figB, roomF, oi, c, c2, c4, ho]
                | cons d ts =>
                  simp at ho
                  have hn : ¬ ((ts.length : Int) + 1 + 1 + 1 + 1 = 2) := by omega
                  have hn3 : ¬ ((ts.length : Int) + 1 + 1 + 1 + 1 = 3) := by omega
                  by_cases c : w = NAME
                  · subst c
                    simp [b_room, h0, hf, figB, roomF, oi, hn, ho]
                  · simp [b_room, h0, hf, figB, roomF, oi, c, hn3, ho]
          | scr ns => simp [okT] at ho
          | _ => simp at ho; simp [b_room, h0, hf, figB, roomF, oi, ho]
      | int i =>
        cases hb : figB (.int i) <;> simp [b_room, h0, hf, hb, roomF, oi, h3]
      | str s =>
        simp at ho
        simp [b_room, h0, hf, figB, roomF, oi, ho]
      | lst s =>
        simp at ho
        simp [b_room, h0, hf, figB, roomF, oi, ho]
      | _ => simp [b_room, h0, hf, figB, roomF, oi, ho]
end M
set_option Elab.async false
set_option linter.all false
set_option autoImplicit false
set_option maxRecDepth 100000
namespace M
open Py
variable {P : Prg} {X : Ix}
inductive E where
  | num (n : Int) | nam (w : W) | op (t : Bool) (a b : E)
  deriving DecidableEq
def opn (t : Bool) : W := if t then TIMES else PLUS
@[simp] theorem opn_t : opn true = TIMES := (rfl)
@[simp] theorem opn_f : opn false = PLUS := (rfl)
@[simp] theorem opn_gd (t : Bool) : gdW (opn t) = true := by cases t <;> rfl
@[simp] theorem opn_len (t : Bool) : (opn t).length ≤ 1000000 := by cases t <;> decide
def E.T : E → T
  | .num n => .int n
  | .nam w => .tup [.str NAME, .str w]
  | .op t a b => .tup [.str (opn t), a.T, b.T]
@[simp] theorem T_num (n : Int) : (E.num n).T = .int n := (rfl)
@[simp] theorem T_nam (w : W) : (E.nam w).T = .tup [.str NAME, .str w] := (rfl)
@[simp] theorem T_op (t : Bool) (a b : E) : (E.op t a b).T = .tup [.str (opn t), a.T, b.T] := (rfl)
def E.dep : E → Nat
  | .op _ a b => max a.dep b.dep + 1
  | _ => 0
def E.parts : E → Nat
  | .op _ a b => 1 + a.parts + b.parts
  | _ => 1
def E.names : E → List W
  | .num _ => []
  | .nam w => [w]
  | .op _ a b => a.names ++ b.names
def E.ok : E → Prop
  | .num n => 0 ≤ n ∧ n < 10007
  | .nam w => wordW w = true
  | .op _ a b => a.ok ∧ b.ok
def E.good (e : E) : Prop := e.ok ∧ e.parts ≤ 15
theorem names_len : ∀ e : E, e.names.length ≤ e.parts
  | .num _ => by simp [E.names, E.parts]
  | .nam _ => by simp [E.names, E.parts]
  | .op t a b => by
    have := names_len a
    have := names_len b
    simp only [E.names, E.parts, List.length_append]
    omega
theorem parts_pos : ∀ e : E, 1 ≤ e.parts
  | .num _ => Nat.le_refl 1
  | .nam _ => Nat.le_refl 1
  | .op _ a b => by
    show 1 ≤ 1 + a.parts + b.parts
    omega
theorem dep_parts : ∀ e : E, 2 * e.dep + 1 ≤ e.parts
  | .num _ => Nat.le_refl 1
  | .nam _ => Nat.le_refl 1
  | .op _ a b => by
    have := dep_parts a
    have := dep_parts b
    show 2 * (max a.dep b.dep + 1) + 1 ≤ 1 + a.parts + b.parts
    omega
theorem wordW_gd {w : W} (h : wordW w = true) : w.length ≤ 6 ∧ gdW w = true ∧ 1 ≤ w.length := by
  unfold wordW at h
  simp only [Bool.and_eq_true, decide_eq_true_eq, List.all_eq_true] at h
  refine ⟨h.1.2, ?_, h.1.1⟩
  unfold gdW
  rw [List.all_eq_true]
  intro x hx
  have := h.2 x hx
  unfold smallB at this
  simp only [Bool.and_eq_true, decide_eq_true_eq] at this ⊢
  omega
theorem E.okT_of : ∀ {e : E}, e.ok → okT e.T = true
  | .num n, _ => rfl
  | .nam w, h => by
    have := wordW_gd h
    simp [this]
    omega
  | .op t a b, h => by
    have ia := E.okT_of h.1
    have ib := E.okT_of h.2
    cases t <;> simp [ia, ib]
@[simp] theorem pureT_E : ∀ e : E, pureT e.T = true
  | .num n => rfl
  | .nam w => rfl
  | .op t a b => by simp [pureT_E a, pureT_E b]

theorem good_E : ∀ {e : E} (n : Nat), e.ok → e.dep < n → Py.good n e.T = true
  | .num m, n, _, _ => by simp
  | .nam w, 0, _, h => by omega
  | .nam w, n + 1, h, _ => by
    have := wordW_gd h
    simp [this]
  | .op t a b, 0, _, h => by omega
  | .op t a b, n + 1, h, hd => by
    have h2 : E.dep (.op t a b) = max a.dep b.dep + 1 := rfl
    have ia := good_E (e := a) n h.1 (by omega)
    have ib := good_E (e := b) n h.2 (by omega)
    cases t <;> simp [ia, ib]
theorem roomF_E : ∀ (e : E) (f l : Nat), e.ok → l ≤ f → roomF f e.T l = if e.parts ≤ l then some (l - e.parts) else none
  | e, _, 0, _, _ => by
    have := parts_pos e
    rw [if_neg (by omega)]
    unfold roomF
    rfl
  | e, 0, l + 1, _, h => by omega
  | .num n, f + 1, l + 1, ho, _ => by
    have : figB (.int n) = true := by
      unfold figB
      simp
      exact ho
    simp [roomF, this, E.parts]
  | .nam w, f + 1, l + 1, ho, _ => by
    have ho : wordW w = true := ho
    simp [roomF, figB, E.parts, wordB, ho]
  | .op t a b, f + 1, l + 1, ho, hl => by
    have ia := roomF_E a f l ho.1 (by omega)
    have ib := roomF_E b f (l - a.parts) ho.2 (by omega)
    have h1 : E.parts (.op t a b) = 1 + a.parts + b.parts := rfl
    have e1 : roomF (f + 1) (E.op t a b).T (l + 1) = match roomF f a.T l with
      | some m => roomF f b.T m
      | none => none := by
      cases t <;> (simp only [roomF, figB, T_op, opn_t, opn_f, reduceCtorEq]; rfl)
    rw [e1, ia, h1]
    by_cases c : a.parts ≤ l
    · rw [if_pos c]
      show roomF f b.T (l - a.parts) = _
      rw [ib]
      by_cases c2 : b.parts ≤ l - a.parts
      · rw [if_pos c2, if_pos (by omega)]
        congr 1
        omega
      · rw [if_neg c2, if_neg (by omega)]
    · rw [if_neg c, if_neg (by omega)]
theorem room_E : ∀ (f : Nat) (t : T) (l m : Nat), roomF f t l = some m → ∃ e : E, t = e.T ∧ e.ok ∧ l = m + e.parts
  | _, _, 0, _, h => by simp [roomF] at h
  | 0, _, _ + 1, _, h => by simp [roomF] at h
  | f + 1, t, l + 1, m, h => by
    unfold roomF at h
    split at h
    · rename_i hf
      cases h
      cases t with
      | int n =>
        unfold figB at hf
        simp at hf
        exact ⟨.num n, rfl, hf, rfl⟩
      | _ => cases hf
    · split at h
      · rename_i w a _
        split at h
        · rename_i hc
          cases h
          obtain ⟨rfl, hw⟩ := hc
          cases a with
          | str s => exact ⟨.nam s, rfl, hw, rfl⟩
          | _ => cases hw
        · cases h
      · rename_i w a b _
        split at h
        · rename_i hc
          split at h
          · rename_i x y e
            obtain ⟨ea, h1, h2, h3⟩ := room_E f _ _ _ e
            obtain ⟨eb, g1, g2, g3⟩ := room_E f _ _ _ h
            subst h1 g1
            rcases hc with rfl | rfl
            · refine ⟨.op false ea eb, rfl, ⟨h2, g2⟩, ?_⟩
              show _ = _ + (1 + ea.parts + eb.parts)
              omega
            · refine ⟨.op true ea eb, rfl, ⟨h2, g2⟩, ?_⟩
              show _ = _ + (1 + ea.parts + eb.parts)
              omega
          · cases h
        · cases h
      · cases h
def exprP (t : T) : Prop := ∃ e : E, t = e.T ∧ e.good
open Classical in
theorem is_expression (H : HX P X) (t : T) (ho : okT t = true) (k : Nat) : callF P (k + 18) X.is_expression [t] = .ok (.tmp (.bl (decide (exprP t)))) := by
  rw [call_py H.is_expression rfl]
  have r := room H 15 t 15 k ho (by omega)
  have r : callF P (k + 17) X.room [t, .int 15] = .ok (.tmp (.int (oi (roomF 15 t 15)))) := r
  cases hr : roomF 15 t 15 with
  | none =>
    have : ¬ exprP t := by
      rintro ⟨e, rfl, h1, h2⟩
      rw [roomF_E e 15 15 h1 (by omega), if_pos h2] at hr
      cases hr
    rw [hr] at r
    simp [oi] at r
    simp [b_is_expression, H.cMOST_PARTS, r, this]
  | some m =>
    have : exprP t := by
      obtain ⟨e, h1, h2, h3⟩ := room_E _ _ _ _ hr
      exact ⟨e, h1, h2, by omega⟩
    rw [hr] at r
    simp [oi] at r
    simp [b_is_expression, H.cMOST_PARTS, r, this]
theorem E_inj : ∀ {a b : E}, a.T = b.T → a = b
  | .num n, .num m, h => by cases h; rfl
  | .num n, .nam w, h => by cases h
  | .num n, .op t a b, h => by cases h
  | .nam w, .num n, h => by cases h
  | .nam w, .nam v, h => by cases h; rfl
  | .nam w, .op t a b, h => by simp at h
  | .op t a b, .num m, h => by cases h
  | .op t a b, .nam v, h => by simp at h
  | .op t a b, .op t' a' b', h => by
    simp only [T_op, T.tup.injEq, List.cons.injEq, T.str.injEq, and_true] at h
    have e1 := E_inj h.2.1
    have e2 := E_inj h.2.2
    subst e1 e2
    cases t <;> cases t' <;> simp at h ⊢
theorem exprP_E {e : E} : exprP e.T ↔ e.good := ⟨fun ⟨e', h, g⟩ => by rwa [E_inj h], fun g => ⟨e, rfl, g⟩⟩
theorem names_in (H : HX P X) : ∀ (e : E) (k : Nat), e.dep < k → e.parts ≤ 1000 → callF P k X.names_in [e.T] = .ok (.new (.lst (e.names.map T.str)))
  | .num n, 0, h, _ => by omega
  | .nam w, 0, h, _ => by omega
  | .op t a b, 0, h, _ => by omega
  | .num n, k + 1, h, _ => by
    rw [call_py H.names_in rfl]
    simp [b_names_in, E.names]
  | .nam w, k + 1, h, _ => by
    rw [call_py H.names_in rfl]
    simp [b_names_in, E.names]
  | .op t a b, k + 1, h, hp => by
    have h1 : E.parts (.op t a b) = 1 + a.parts + b.parts := rfl
    have h2 : E.dep (.op t a b) = max a.dep b.dep + 1 := rfl
    have la := names_len a
    have lb := names_len b
    have ia := names_in H a k (by omega) (by omega)
    have ib := names_in H b k (by omega) (by omega)
    rw [call_py H.names_in rfl]
    have hl : a.names.length + b.names.length ≤ 1000000 := by omega
    have ps : ∀ l : List W, pureTs (l.map T.str) = true := fun l => by
      induction l with
      | nil => rfl
      | cons a l ih => simp [ih]
    cases t <;> simp [b_names_in, E.names, ia, ib, hl, ps]
@[simp] theorem goods_words : ∀ (n : Nat) (ws : List W), (∀ w ∈ ws, wordW w = true) → goods n (ws.map T.str) = true
  | n, [], _ => by simp
  | n, w :: ws, h => by
    have := wordW_gd (h w (List.mem_cons_self ..))
    have := goods_words n ws fun w hw => h w (List.mem_cons_of_mem _ hw)
    simp [*]
theorem names_word : ∀ {e : E}, e.ok → ∀ w ∈ e.names, wordW w = true
  | .num n, _, w, h => by simp [E.names] at h
  | .nam v, ho, w, h => by
    simp only [E.names, List.mem_singleton] at h
    rw [h]
    exact ho
  | .op t a b, ho, w, h => by
    simp only [E.names, List.mem_append] at h
    exact h.elim (names_word ho.1 w) (names_word ho.2 w)
end M
set_option Elab.async false
set_option linter.all false
set_option autoImplicit false
set_option maxRecDepth 100000
namespace M
open Py
variable {P : Prg} {X : Ix}
structure HE (P : Prg) (X : Ix) : Prop extends HX P X where
  look_expression : P.fns[X.look_expression]? = some (F_look_expression X)
  names_of : P.fns[X.names_of]? = some (F_names_of X)
  worth_of : P.fns[X.worth_of]? = some (F_worth_of X)
  look_values : P.fns[X.look_values]? = some (F_look_values X)
  worth : P.fns[X.worth]? = some (F_worth X)
  folded_of : P.fns[X.folded_of]? = some (F_folded_of X)
  folded : P.fns[X.folded]? = some (F_folded X)
  put_in_of : P.fns[X.put_in_of]? = some (F_put_in_of X)
  put_in : P.fns[X.put_in]? = some (F_put_in X)
@[simp] theorem pure_strs : ∀ ws : List W, pureTs (ws.map T.str) = true
  | [] => rfl
  | w :: r => by simp [pure_strs r]
theorem look_ok (H : HE P X) {e : E} (h : e.good) (k : Nat) : callF P (k + 19) X.look_expression [e.T] = .ok (.tmp .non) := by
  rw [call_py H.look_expression rfl]
  simp [b_look_expression, is_expression H.toHX, E.okT_of h.1, exprP_E, h]
theorem look_no (H : HE P X) {t : T} (ho : okT t = true) (h : ¬ exprP t) (k : Nat) : callF P (k + 19) X.look_expression [t] = .exc X.xBadExpression := by
  rw [call_py H.look_expression rfl]
  simp [b_look_expression, is_expression H.toHX, ho, h]
theorem strsOf_map : ∀ l : List W, strsOf (l.map T.str) = some l
  | [] => rfl
  | w :: r => by simp [strsOf, strsOf_map r]
def insW (x : W) : List W → List W
  | [] => [x]
  | y :: r => if ltW x y = true then x :: y :: r else y :: insW x r
def sortW : List W → List W
  | [] => []
  | x :: r => insW x (sortW r)
theorem insT_str (x : W) : ∀ ys : List W, insT (.str x) (ys.map T.str) = some ((insW x ys).map T.str)
  | [] => rfl
  | y :: r => by
    show (match ltT (.str x) (.str y) with
      | some true => some (T.str x :: T.str y :: r.map T.str)
      | some false => (insT (.str x) (r.map T.str)).map (T.str y :: ·)
      | none => none) = _
    rw [insT_str x r]
    show (match some (ltW x y) with
      | some true => some (T.str x :: T.str y :: r.map T.str)
      | some false => (some ((insW x r).map T.str)).map (T.str y :: ·)
      | none => none) = some ((if ltW x y = true then x :: y :: r else y :: insW x r).map T.str)
    cases ltW x y <;> rfl
theorem sortT_str : ∀ ws : List W, sortT (ws.map T.str) = some ((sortW ws).map T.str)
  | [] => rfl
  | x :: r => by
    show (match sortT (r.map T.str) with
      | some s => insT (.str x) s
      | none => none) = _
    rw [sortT_str r]
    exact insT_str x _
def E.srt (e : E) : List W := sortW (dedupW e.names)
theorem sset_eq (l : List W) (h : l.length < 64) : b1T .sset (.lst (l.map T.str)) = some (.new (.lst ((sortW (dedupW l)).map T.str))) := by
  show (match strsOf (l.map T.str) with
    | some ws => if ws.length < 64 then (sortT ((dedupW ws).map T.str)).map fun s => R.new (.lst s) else none
    | none => none) = _
  rw [strsOf_map]
  show (if l.length < 64 then (sortT ((dedupW l).map T.str)).map fun s => R.new (.lst s) else none) = _
  rw [if_pos h, sortT_str]
  rfl
def E.val (env : W → Int) : E → Int
  | .num n => n
  | .nam w => env w
  | .op t a b => if t then a.val env * b.val env % 10007 else (a.val env + b.val env) % 10007
def Vals (env : W → Int) : Prop := ∀ w, 0 ≤ env w ∧ env w < 10007
theorem val_lt {env : W → Int} (hv : Vals env) : ∀ {e : E}, e.ok → 0 ≤ e.val env ∧ e.val env < 10007
  | .num n, h => h
  | .nam w, _ => hv w
  | .op t a b, _ => by
    unfold E.val
    cases t
    · exact ⟨Int.emod_nonneg _ (by omega), Int.emod_lt_of_pos _ (by omega)⟩
    · exact ⟨Int.emod_nonneg _ (by omega), Int.emod_lt_of_pos _ (by omega)⟩
theorem sm {n : Int} (h : 0 ≤ n ∧ n < 10007) : small64 n = true := by
  unfold small64
  simp
  omega
theorem vals0 : Vals fun _ => 0 := fun _ => ⟨Int.le_refl 0, by show (0 : Int) < 10007; decide⟩
def Bk (kvs : List (T × T)) (env : W → Int) : Prop := ∀ w, (getK kvs (.str w)).getD (.int 0) = .int (env w)
theorem worth_of (H : HE P X) {kvs : List (T × T)} {env : W → Int} (hb : Bk kvs env) (hv : Vals env) (e : E) : ∀ k, e.dep < k → e.ok → callF P k X.worth_of [e.T, .dct true kvs] = .ok (.tmp (.int (e.val env))) := by
  induction e with
  | num n =>
    intro k h ho
    obtain ⟨k, rfl⟩ : ∃ j, k = j + 1 := ⟨k - 1, by omega⟩
    rw [call_py H.worth_of rfl]
    simp [b_worth_of, E.val]
  | nam w =>
    intro k h ho
    obtain ⟨k, rfl⟩ : ∃ j, k = j + 1 := ⟨k - 1, by omega⟩
    rw [call_py H.worth_of rfl]
    simp [b_worth_of, E.val, hb w]
  | op t a b iha ihb =>
    intro k h ho
    have h2 : E.dep (.op t a b) = max a.dep b.dep + 1 := rfl
    obtain ⟨k, rfl⟩ : ∃ j, k = j + 1 := ⟨k - 1, by omega⟩
    have ia := iha k (by omega) ho.1
    have ib := ihb k (by omega) ho.2
    have sa := sm (val_lt hv ho.1)
    rw [call_py H.worth_of rfl]
    cases t <;> simp [b_worth_of, E.val, ia, ib, sa, H.cPRIME]
def E.fold : E → E
  | .num n => .num n
  | .nam w => .nam w
  | .op t a b => match a.fold, b.fold with
    | .num x, .num y => .num (if t then x * y % 10007 else (x + y) % 10007)
    | a', b' => .op t a' b'
theorem fold_ok : ∀ {e : E}, e.ok → e.fold.ok
  | .num n, h => h
  | .nam w, h => h
  | .op t a b, h => by
    have ia := fold_ok h.1
    have ib := fold_ok h.2
    unfold E.fold
    split
    · show 0 ≤ _ ∧ _ < 10007
      split <;> exact ⟨Int.emod_nonneg _ (by omega), Int.emod_lt_of_pos _ (by omega)⟩
    · exact ⟨ia, ib⟩
theorem dnum : ∀ e : E, (∃ n, e = .num n) ∨ (∃ ts, e.T = .tup ts) ∧ ∀ n, e ≠ .num n
  | .num n => .inl ⟨n, rfl⟩
  | .nam w => .inr ⟨⟨_, rfl⟩, fun _ h => by cases h⟩
  | .op t a b => .inr ⟨⟨_, rfl⟩, fun _ h => by cases h⟩
theorem fold_op (t : Bool) (a b : E) : (∃ x y, a.fold = .num x ∧ b.fold = .num y ∧ (E.op t a b).fold = .num (if t then x * y % 10007 else (x + y) % 10007)) ∨ ((E.op t a b).fold = .op t a.fold b.fold ∧ ((∃ ts, a.fold.T = .tup ts) ∨ (∃ x ts, a.fold = .num x ∧ b.fold.T = .tup ts))) := by
  rcases dnum a.fold with ⟨x, hx⟩ | ⟨hx, nx⟩
  · rcases dnum b.fold with ⟨y, hy⟩ | ⟨hy, ny⟩
    · exact .inl ⟨x, y, hx, hy, by simp only [E.fold, hx, hy]⟩
    · obtain ⟨ts, hts⟩ := hy
      refine .inr ⟨?_, .inr ⟨x, ts, hx, hts⟩⟩
      simp only [E.fold]
      split
      · rename_i x' y' h1 h2
        exact absurd h2 (ny y')
      · rfl
  · refine .inr ⟨?_, .inl hx⟩
    simp only [E.fold]
    split
    · rename_i x' y' h1 h2
      exact absurd h1 (nx x')
    · rfl
theorem bk_nil : Bk [] (fun _ => 0) := fun w => rfl
theorem folded_of (H : HE P X) (e : E) : ∀ k, e.dep + 1 < k → e.ok → callF P k X.folded_of [e.T] = .ok (.tmp e.fold.T) := by
  induction e with
  | num n =>
    intro k h ho
    obtain ⟨k, rfl⟩ : ∃ j, k = j + 1 := ⟨k - 1, by omega⟩
    rw [call_py H.folded_of rfl]
    simp [b_folded_of, E.fold]
  | nam w =>
    intro k h ho
    obtain ⟨k, rfl⟩ : ∃ j, k = j + 1 := ⟨k - 1, by omega⟩
    rw [call_py H.folded_of rfl]
    simp [b_folded_of, E.fold]
  | op t a b iha ihb =>
    intro k h ho
    have h2 : E.dep (.op t a b) = max a.dep b.dep + 1 := rfl
    obtain ⟨k, rfl⟩ : ∃ j, k = j + 1 := ⟨k - 1, by omega⟩
    have ia := iha k (by omega) ho.1
    have ib := ihb k (by omega) ho.2
    rw [call_py H.folded_of rfl]
    rcases fold_op t a b with ⟨x, y, hx, hy, hf⟩ | ⟨hf, hq⟩
    · have oa := fold_ok ho.1
      have ob := fold_ok ho.2
      rw [hx] at oa ia
      rw [hy] at ob ib
      have w := worth_of H bk_nil vals0 (.op t (.num x) (.num y)) k (by show max 0 0 + 1 < k; omega) ⟨oa, ob⟩
      rw [hf]
      cases t <;> (simp at w; simp [b_folded_of, ia, ib, w, E.val])
    · rw [hf]
      rcases hq with ⟨ts, h1⟩ | ⟨x, ts, h1, h3⟩
      · cases t <;> simp [b_folded_of, ia, ib, h1]
      · rw [h1] at ia ⊢
        cases t <;> simp [b_folded_of, ia, ib, h3]
theorem folded (H : HE P X) {e : E} (h : e.good) (k : Nat) : callF P (k + 20) X.folded [e.T] = .ok (.tmp e.fold.T) := by
  have := dep_parts e
  have := h.2
  rw [call_py H.folded rfl]
  simp [b_folded, look_ok H h, folded_of H e (k + 19) (by omega) h.1]
theorem folded_no (H : HE P X) {t : T} (ho : okT t = true) (h : ¬ exprP t) (k : Nat) : callF P (k + 20) X.folded [t] = .exc X.xBadExpression := by
  rw [call_py H.folded rfl]
  simp [b_folded, look_no H ho h]
theorem names_of (H : HE P X) {e : E} (h : e.good) (k : Nat) : callF P (k + 20) X.names_of [e.T] = .ok (.new (.lst (e.srt.map T.str))) := by
  have := dep_parts e
  have := names_len e
  have := h.2
  rw [call_py H.names_of rfl]
  have s := sset_eq e.names (by omega)
  simp [b_names_of, look_ok H h, names_in H.toHX e (k + 19) (by omega) (by omega), s, E.srt]
theorem names_of_no (H : HE P X) {t : T} (ho : okT t = true) (h : ¬ exprP t) (k : Nat) : callF P (k + 20) X.names_of [t] = .exc X.xBadExpression := by
  rw [call_py H.names_of rfl]
  simp [b_names_of, look_no H ho h]
def putE (w : W) (o : E) : E → E
  | .num n => .num n
  | .nam v => if v = w then o else .nam v
  | .op t a b => .op t (putE w o a) (putE w o b)
theorem put_ok {w : W} {o : E} (hw : o.ok) : ∀ {e : E}, e.ok → (putE w o e).ok
  | .num n, h => h
  | .nam v, h => by
    unfold putE
    split
    · exact hw
    · exact h
  | .op t a b, h => ⟨put_ok hw h.1, put_ok hw h.2⟩
theorem put_in_of (H : HE P X) {w : W} {o : E} (gw : gdW w = true) (e : E) : ∀ k, e.dep < k → e.ok → callF P k X.put_in_of [e.T, .str w, o.T] = .ok (.tmp (putE w o e).T) := by
  induction e with
  | num n =>
    intro k h ho
    obtain ⟨k, rfl⟩ : ∃ j, k = j + 1 := ⟨k - 1, by omega⟩
    rw [call_py H.put_in_of rfl]
    simp [b_put_in_of, putE]
  | nam v =>
    intro k h ho
    obtain ⟨k, rfl⟩ : ∃ j, k = j + 1 := ⟨k - 1, by omega⟩
    rw [call_py H.put_in_of rfl]
    have gv := wordW_gd ho
    by_cases q : v = w
    · subst q
      simp [b_put_in_of, putE, gv]
    · simp [b_put_in_of, putE, gw, gv, q]
  | op t a b iha ihb =>
    intro k h ho
    have h2 : E.dep (.op t a b) = max a.dep b.dep + 1 := rfl
    obtain ⟨k, rfl⟩ : ∃ j, k = j + 1 := ⟨k - 1, by omega⟩
    have ia := iha k (by omega) ho.1
    have ib := ihb k (by omega) ho.2
    rw [call_py H.put_in_of rfl]
    cases t <;> simp [b_put_in_of, putE, ia, ib]
theorem put_in (H : HE P X) {e o : E} {w : W} (he : e.good) (ho : o.good) (hw : wordW w = true) (k : Nat) :
    callF P (k + 20) X.put_in [e.T, .str w, o.T] = if (putE w o e).parts ≤ 15 then .ok (.tmp (putE w o e).T) else .exc X.xBadExpression := by
  have := dep_parts e
  have := he.2
  have gw := wordW_gd hw
  have pi := put_in_of H (o := o) gw.2.1 e (k + 19) (by omega) he.1
  have po := put_ok (w := w) ho.1 he.1
  have lw : w.length ≤ 1000000 := by omega
  have iw := is_word H.toHX (.str w) (by simp [gw, lw]) (k + 18)
  have iw2 : wordB (.str w) = true := hw
  rw [call_py H.put_in rfl]
  by_cases c : (putE w o e).parts ≤ 15
  · simp [b_put_in, look_ok H he, look_ok H ho, iw, iw2, pi, is_expression H.toHX, E.okT_of po, exprP_E, E.good, po, c]
  · simp [b_put_in, look_ok H he, look_ok H ho, iw, iw2, pi, is_expression H.toHX, E.okT_of po, exprP_E, E.good, po, c]
theorem put_in_no (H : HE P X) {t n o : T} (h1 : okT t = true) (h : ¬ exprP t) (k : Nat) : callF P (k + 20) X.put_in [t, n, o] = .exc X.xBadExpression := by
  rw [call_py H.put_in rfl]
  simp [b_put_in, look_no H h1 h]
theorem put_in_bad (H : HE P X) {e : E} {n o : T} (he : e.good) (h2 : okT n = true) (hn : wordB n = false) (k : Nat) : callF P (k + 20) X.put_in [e.T, n, o] = .exc X.xBadName := by
  rw [call_py H.put_in rfl]
  simp [b_put_in, look_ok H he, is_word H.toHX n h2, hn]
end M
set_option Elab.async false
set_option linter.all false
set_option autoImplicit false
set_option maxRecDepth 100000
namespace M
open Py
variable {P : Prg} {X : Ix}
structure HG (P : Prg) (X : Ix) : Prop where
  law_cell : P.fns[X.law_cell]? = some (F_law_cell X)
  law_seed : P.fns[X.law_seed]? = some (F_law_seed X)
  law_pick : P.fns[X.law_pick]? = some (F_law_pick X)
  law_expression : P.fns[X.law_expression]? = some (F_law_expression X)
def cell (ns : List Int) (i : Nat) : Int := ns.getD i 0
theorem law_cell (H : HG P X) (ns : List Int) (i : Nat) (k : Nat) : callF P (k + 1) X.law_cell [.scr ns, .int i] = .ok (.tmp (.int (cell ns i))) := by
  rw [call_py H.law_cell rfl]
  by_cases h : i < ns.length
  · have h1 : (i : Int) < ns.length := by omega
    simp [b_law_cell, h1, atI_nat ns i h, cell, h]
  · have h1 : ¬ (i : Int) < ns.length := by omega
    simp [b_law_cell, h1, cell, h]
def sd (s k : Int) : Int := ((s * 1103515245 + 7919 * k + 12345) % 2147483647) ^ 5 % 2147483647
theorem law_seed (H : HG P X) (s n : Int) (k : Nat) : callF P (k + 1) X.law_seed [.int s, .int n] = .ok (.tmp (.int (sd s n))) := by
  rw [call_py H.law_seed rfl]
  have b1 : 0 ≤ (s * 1103515245 + 7919 * n + 12345) % 2147483647 := Int.emod_nonneg _ (by omega)
  have b2 : (s * 1103515245 + 7919 * n + 12345) % 2147483647 < 2147483647 := Int.emod_lt_of_pos _ (by omega)
  have s1 : small64 1103515245 = true := by decide
  have s2 : small64 7919 = true := by decide
  have b3 : ((s * 1103515245 + 7919 * n + 12345) % 2147483647).natAbs < 18446744073709551616 := by omega
  simp [b_law_seed, s1, s2, b3, sd]
theorem law_pick (H : HG P X) (s m : Int) (hm : 0 < m) (k : Nat) : callF P (k + 1) X.law_pick [.int s, .int m] = .ok (.tmp (.int (s / 97 % m))) := by
  rw [call_py H.law_pick rfl]
  simp [b_law_pick, hm]
theorem atI_mod {α : Type} (l : List α) (i : Int) (h : l ≠ []) : ∃ x, atI l (i % (l.length : Int)) = some x ∧ x ∈ l := by
  have hp : 0 < l.length := List.length_pos_iff.mpr h
  have h0 : 0 ≤ i % (l.length : Int) := Int.emod_nonneg _ (by omega)
  have h1 : i % (l.length : Int) < l.length := Int.emod_lt_of_pos _ (by omega)
  obtain ⟨n, hn⟩ := Int.eq_ofNat_of_zero_le h0
  rw [hn] at h1 ⊢
  have hn2 : n < l.length := by omega
  exact ⟨l[n], atI_nat l n hn2, List.getElem_mem hn2⟩
structure EG (ws : List W) (d : Nat) (e : E) : Prop where
  ok : e.ok
  dep : e.dep ≤ d
  nm : ∀ w ∈ e.names, w ∈ ws
theorem dep_pow : ∀ e : E, e.parts + 1 ≤ 2 ^ (e.dep + 1)
  | .num _ => by simp [E.parts, E.dep]
  | .nam _ => by simp [E.parts, E.dep]
  | .op t a b => by
    have := dep_pow a
    have := dep_pow b
    have h1 : 2 ^ (a.dep + 1) ≤ 2 ^ (max a.dep b.dep + 1) := Nat.pow_le_pow_right (by omega) (by omega)
    have h2 : 2 ^ (b.dep + 1) ≤ 2 ^ (max a.dep b.dep + 1) := Nat.pow_le_pow_right (by omega) (by omega)
    show 1 + a.parts + b.parts + 1 ≤ 2 ^ (max a.dep b.dep + 1 + 1)
    rw [Nat.pow_succ]
    omega
theorem EG.good {ws : List W} {d : Nat} {e : E} (h : EG ws d e) (hd : d ≤ 3) : e.good := by
  have h1 := dep_pow e
  have h2 : 2 ^ (e.dep + 1) ≤ 2 ^ 4 := Nat.pow_le_pow_right (by omega) (by have := h.dep; omega)
  exact ⟨h.ok, by omega⟩
theorem mod2 (i : Int) : i % 2 = 0 ∨ i % 2 = 1 := by omega
theorem eg_num (ws : List W) (d : Nat) {n : Int} (h : 0 ≤ n ∧ n < 10007) : EG ws d (.num n) := ⟨h, Nat.zero_le _, fun w h => by cases h⟩
theorem eg_leaf (H : HG P X) (ws : List W) (hw : ∀ w ∈ ws, wordW w = true) (d : Nat) (s : Int) (k : Nat) (hc : d = 0 ∨ s / 97 % 8 < 2) : ∃ e : E, EG ws d e ∧ callF P (k + 2) X.law_expression [.int s, .lst (ws.map T.str), .int d] = .ok (.tmp e.T) := by
  have hp := law_pick H s 8 (by omega) k
  rw [call_py H.law_expression rfl]
  have hg := goods_words 60 ws hw
  have hd : ∀ {α : Type} (x y : α), (if (d : Int) = 0 then x else if s / 97 % 8 < 2 then x else y) = x := fun x y => by
    split
    · rfl
    · rw [if_pos]
      rcases hc with h | h
      · omega
      · exact h
  by_cases c : ws ≠ [] ∧ ¬ s / 97 % 4 = 3
  · obtain ⟨x, h1, h2⟩ := atI_mod (ws.map T.str) (s / 7) (by simpa using c.1)
    obtain ⟨w, hw1, rfl⟩ := List.mem_map.mp h2
    have hl : 0 < ws.length := List.length_pos_iff.mpr c.1
    have c3 : eqTs (ws.map T.str) [] = false := by
      cases ws with
      | nil => exact absurd rfl c.1
      | cons a r => rfl
    simp only [List.length_map] at h1
    refine ⟨.nam w, ⟨hw w hw1, Nat.zero_le _, fun v hv => ?_⟩, ?_⟩
    · simp only [E.names, List.mem_singleton] at hv
      rw [hv]
      exact hw1
    · by_cases c1 : (d : Int) = 0
      · simp [b_law_expression, hp, hg, c1, c3, c.2, hl, h1]
      · have c2 : s / 97 % 8 < 2 := by
          rcases hc with h | h
          · omega
          · exact h
        simp [b_law_expression, hp, hg, c1, c2, c3, c.2, hl, h1]
  · have n1 : 0 ≤ s / 7 % 10007 ∧ s / 7 % 10007 < 10007 := ⟨Int.emod_nonneg _ (by omega), Int.emod_lt_of_pos _ (by omega)⟩
    have n2 : 0 ≤ s / 7 % 4 ∧ s / 7 % 4 < 10007 := by omega
    have c3 : eqTs (ws.map T.str) [] = true ∨ (eqTs (ws.map T.str) [] = false ∧ s / 97 % 4 = 3) := by
      cases ws with
      | nil => exact .inl rfl
      | cons a r =>
        refine .inr ⟨rfl, ?_⟩
        apply Classical.byContradiction
        intro h
        exact c ⟨by simp, h⟩
    have c4 : (d : Int) = 0 ∨ ¬ (d : Int) = 0 ∧ s / 97 % 8 < 2 := by
      by_cases h : (d : Int) = 0
      · exact .inl h
      · refine .inr ⟨h, ?_⟩
        rcases hc with h' | h'
        · omega
        · exact h'
    rcases mod2 (s / 11) with m | m
    · refine ⟨.num _, eg_num ws d n1, ?_⟩
      rcases c3 with c3 | ⟨c3, c5⟩ <;> rcases c4 with c4 | ⟨c4, c6⟩ <;> simp [b_law_expression, hp, hg, *]
    · refine ⟨.num _, eg_num ws d n2, ?_⟩
      rcases c3 with c3 | ⟨c3, c5⟩ <;> rcases c4 with c4 | ⟨c4, c6⟩ <;> simp [b_law_expression, hp, hg, *]
theorem law_expression (H : HG P X) (ws : List W) (hw : ∀ w ∈ ws, wordW w = true) : ∀ (d : Nat) (s : Int) (k : Nat), d + 1 < k → ∃ e : E, EG ws d e ∧ callF P k X.law_expression [.int s, .lst (ws.map T.str), .int d] = .ok (.tmp e.T) := by
  intro d
  induction d with
  | zero =>
    intro s k hk
    obtain ⟨k, rfl⟩ : ∃ j, k = j + 2 := ⟨k - 2, by omega⟩
    exact eg_leaf H ws hw 0 s k (.inl rfl)
  | succ d ih =>
    intro s k hk
    obtain ⟨k, rfl⟩ : ∃ j, k = j + 2 := ⟨k - 2, by omega⟩
    by_cases hc : s / 97 % 8 < 2
    · exact eg_leaf H ws hw (d + 1) s k (.inr hc)
    · obtain ⟨a, ga, ea⟩ := ih (sd s 1) (k + 1) (by omega)
      obtain ⟨b, gb, eb⟩ := ih (sd s 2) (k + 1) (by omega)
      have hp := law_pick H s 8 (by omega) k
      have h1 := law_seed H s 1 k
      have h2 := law_seed H s 2 k
      have h0 : ¬ (d : Int) + 1 = 0 := by omega
      have h3 : (d : Int) + 1 - 1 = d := by omega
      have ps : pureTs [T.str PLUS, T.str TIMES] = true := rfl
      have eg : ∀ t, EG ws (d + 1) (.op t a b) := fun t => ⟨⟨ga.ok, gb.ok⟩, by
        have := ga.dep
        have := gb.dep
        show max a.dep b.dep + 1 ≤ _
        omega, fun w h => by
        simp only [E.names, List.mem_append] at h
        exact h.elim (ga.nm w) (gb.nm w)⟩
      rw [call_py H.law_expression rfl]
      rcases mod2 (s / 13) with m | m
      · refine ⟨.op false a b, eg _, ?_⟩
        simp [b_law_expression, hp, hc, h0, h1, h2, h3, ea, eb, m]
      · refine ⟨.op true a b, eg _, ?_⟩
        simp [b_law_expression, hp, hc, h0, h1, h2, h3, ea, eb, m]
end M
set_option Elab.async false
set_option linter.all false
set_option autoImplicit false
set_option maxRecDepth 100000
namespace Py
@[simp] theorem cut_tail {α : Type} (a : α) (l : List α) : cut (a :: l) (some 1) none = l := by
  simp [cut, sIx]
theorem forR_find {α : Type} (xs : List α) (F : α → T) (p : α → Bool) {i : Nat} {b : Env → SRes} (ρ : Env) (hi : i < ρ.length)
    (h : ∀ x ∈ xs, b (ρ.set i (.val (F x))) = if p x then .ret (.tmp (F x)) (ρ.set i (.val (F x))) else .next (ρ.set i (.val (F x)))) :
    ∃ z, forR (xs.map F) (.one i) b ρ = match xs.find? p with
      | some x => .ret (.tmp (F x)) (ρ.set i (.val (F x)))
      | none => .next (ρ.set i z) := by
  have key : ∀ (ys : List α), (∀ x ∈ ys, x ∈ xs) → ∀ y : Sl, ∃ z, forR (ys.map F) (.one i) b (ρ.set i y) = match ys.find? p with
      | some x => .ret (.tmp (F x)) (ρ.set i (.val (F x)))
      | none => .next (ρ.set i z) := by
    intro ys
    induction ys with
    | nil => exact fun _ y => ⟨y, rfl⟩
    | cons x ys ih =>
      intro hm y
      have hx := h x (hm x (List.mem_cons_self ..))
      obtain ⟨z, hz⟩ := ih (fun w hw => hm w (List.mem_cons_of_mem _ hw)) (.val (F x))
      refine ⟨z, ?_⟩
      rw [List.map_cons, forR_cons]
      simp only [put_one, List.length_set, hi, if_true, List.set_set, sliftP, slift]
      rw [hx]
      cases hp : p x with
      | true => simp [hp, sseq]
      | false =>
        simp only [Bool.false_eq_true, if_false, sseq]
        rw [hz]
        simp [hp]
  obtain ⟨z, hz⟩ := key xs (fun x hx => hx) ρ[i]
  refine ⟨z, ?_⟩
  have e0 : ρ.set i ρ[i] = ρ := by simp
  rw [e0] at hz
  exact hz
theorem lcR_any (xs : List T) (c : T → Bool) (G : T → T) {i : Nat} {vc : Env → Res (Bool × Env)} {ve : Env → Res (R × Env)} {ρ : Env} (hi : i < ρ.length) (hv : isVal ρ[i]? = true) (hl : xs.length ≤ 1000000)
    (h : ∀ x ∈ xs, (bndP (vc (ρ.set i (.val x))) fun b ρ => if b then (bndP (ve ρ) fun r ρ => liftP (esc r ρ) fun p => .ok (some p.1, p.2)) else .ok (none, ρ)) = .ok (if c x then some (G x) else none, ρ.set i (.val x))) :
    lcR xs (.one i) vc ve ρ = .ok (.new (.lst ((xs.filter c).map G)), ρ) := by
  have := lcR_one xs (fun x => x) c G hi hv hl h
  simpa using this
end Py
namespace M
open Py
variable {P : Prg} {X : Ix}
abbrev SET : W := [115, 101, 116]
abbrev NOTE : W := [110, 111, 116, 101]
abbrev TAKE : W := [116, 97, 107, 101]
abbrev PASS : W := [112, 97, 115, 115]
abbrev GIVE : W := [103, 105, 118, 101]
abbrev RUN : W := [114, 117, 110]
inductive Row where
  | take (m n o : W) | set (o : W) (e : E) | give (o n : W) | pass (m n g : W) | run (m : W) | note (e : E)
  deriving DecidableEq
def Row.T : Row → T
  | .take m n o => .tup [.str TAKE, .str m, .str n, .str o]
  | .set o e => .tup [.str SET, .str o, e.T]
  | .give o n => .tup [.str GIVE, .str o, .str n]
  | .pass m n g => .tup [.str PASS, .str m, .str n, .str g]
  | .run m => .tup [.str RUN, .str m]
  | .note e => .tup [.str NOTE, e.T]
@[simp] theorem T_take (m n o : W) : (Row.take m n o).T = .tup [.str TAKE, .str m, .str n, .str o] := (rfl)
@[simp] theorem T_set (o : W) (e : E) : (Row.set o e).T = .tup [.str SET, .str o, e.T] := (rfl)
@[simp] theorem T_give (o n : W) : (Row.give o n).T = .tup [.str GIVE, .str o, .str n] := (rfl)
@[simp] theorem T_pass (m n g : W) : (Row.pass m n g).T = .tup [.str PASS, .str m, .str n, .str g] := (rfl)
@[simp] theorem T_run (m : W) : (Row.run m).T = .tup [.str RUN, .str m] := (rfl)
@[simp] theorem T_note (e : E) : (Row.note e).T = .tup [.str NOTE, e.T] := (rfl)
def Row.ok : Row → Prop
  | .take m n o => wordW m = true ∧ wordW n = true ∧ wordW o = true
  | .set o e => wordW o = true ∧ e.good
  | .give o n => wordW o = true ∧ wordW n = true
  | .pass m n g => wordW m = true ∧ wordW n = true ∧ wordW g = true
  | .run m => wordW m = true
  | .note e => e.good
structure Mod where
  nm : W
  rows : List Row
  deriving DecidableEq
def Mod.T (m : Mod) : T := .tup [.str m.nm, .tup (m.rows.map Row.T)]
abbrev Pg := List Mod
def pgT (p : Pg) : T := .tup (p.map Mod.T)
structure HC (P : Prg) (X : Ix) : Prop extends HX P X where
  is_row : P.fns[X.is_row]? = some (F_is_row X)
  own_names : P.fns[X.own_names]? = some (F_own_names X)
  given_names : P.fns[X.given_names]? = some (F_given_names X)
  used_names : P.fns[X.used_names]? = some (F_used_names X)
  is_module : P.fns[X.is_module]? = some (F_is_module X)
  look : P.fns[X.look]? = some (F_look X)
  cMOST_ROWS : P.C[X.cMOST_ROWS]? = some (.int 60)
  cMOST_MODULES : P.C[X.cMOST_MODULES]? = some (.int 6)
open Classical in
noncomputable def rowB : T → Bool
  | .tup (.str w :: ts) =>
    if w = SET then (match ts with
      | [a, b] => wordB a && decide (exprP b)
      | _ => false)
    else if w = NOTE then (match ts with
      | [b] => decide (exprP b)
      | _ => false)
    else if w = TAKE ∨ w = PASS then decide (ts.length = 3) && ts.all wordB
    else if w = GIVE then decide (ts.length = 2) && ts.all wordB
    else if w = RUN then decide (ts.length = 1) && ts.all wordB
    else false
  | _ => false
def rowP (t : T) : Prop := ∃ r : Row, t = r.T ∧ r.ok
theorem wordB_str {t : T} (h : wordB t = true) : ∃ w, t = .str w ∧ wordW w = true := by
  cases t <;> first | exact ⟨_, rfl, h⟩ | cases h
theorem rowB_P {t : T} (h : rowB t = true) : rowP t := by
  unfold rowB at h
  split at h
  · rename_i w ts
    split at h
    · rename_i e
      subst e
      split at h
      · simp only [Bool.and_eq_true, decide_eq_true_eq] at h
        obtain ⟨w, rfl, hw⟩ := wordB_str h.1
        obtain ⟨e, rfl, he⟩ := h.2
        exact ⟨.set w e, rfl, hw, he⟩
      · cases h
    · split at h
      · rename_i e
        subst e
        split at h
        · simp only [decide_eq_true_eq] at h
          obtain ⟨e, rfl, he⟩ := h
          exact ⟨.note e, rfl, he⟩
        · cases h
      · split at h
        · rename_i e
          simp only [Bool.and_eq_true, decide_eq_true_eq] at h
          match ts, h with
          | [a, b, c], h =>
            simp only [List.all_cons, List.all_nil, Bool.and_eq_true] at h
            obtain ⟨_, h1, h2, h3, _⟩ := h
            obtain ⟨a, rfl, ha⟩ := wordB_str h1
            obtain ⟨b, rfl, hb⟩ := wordB_str h2
            obtain ⟨c, rfl, hc⟩ := wordB_str h3
            rcases e with rfl | rfl
            · exact ⟨.take a b c, rfl, ha, hb, hc⟩
            · exact ⟨.pass a b c, rfl, ha, hb, hc⟩
        · split at h
          · rename_i e
            subst e
            simp only [Bool.and_eq_true, decide_eq_true_eq] at h
            match ts, h with
            | [a, b], h =>
              simp only [List.all_cons, List.all_nil, Bool.and_eq_true] at h
              obtain ⟨_, h1, h2, _⟩ := h
              obtain ⟨a, rfl, ha⟩ := wordB_str h1
              obtain ⟨b, rfl, hb⟩ := wordB_str h2
              exact ⟨.give a b, rfl, ha, hb⟩
          · split at h
            · rename_i e
              subst e
              simp only [Bool.and_eq_true, decide_eq_true_eq] at h
              match ts, h with
              | [a], h =>
                simp only [List.all_cons, List.all_nil, Bool.and_eq_true] at h
                obtain ⟨_, h1, _⟩ := h
                obtain ⟨a, rfl, ha⟩ := wordB_str h1
                exact ⟨.run a, rfl, ha⟩
            · cases h
  · cases h
theorem rowB_T {r : Row} (h : r.ok) : rowB r.T = true := by
  cases r with
  | take m n o => obtain ⟨h1, h2, h3⟩ := h; simp [rowB, wordB, h1, h2, h3]
  | pass m n o => obtain ⟨h1, h2, h3⟩ := h; simp [rowB, wordB, h1, h2, h3]
  | set o e => obtain ⟨h1, h2⟩ := h; simp [rowB, wordB, h1, exprP_E, h2]
  | give o n => obtain ⟨h1, h2⟩ := h; simp [rowB, wordB, h1, h2]
  | run m => have h : wordW m = true := h; simp [rowB, wordB, h]
  | note e => have h : e.good := h; simp [rowB, exprP_E, h]
theorem rowP_T {t : T} (h : rowP t) : rowB t = true := by
  obtain ⟨r, rfl, h⟩ := h
  exact rowB_T h
theorem is_row (H : HC P X) (t : T) (ho : okT t = true) (k : Nat) : callF P (k + 19) X.is_row [t] = .ok (.tmp (.bl (rowB t))) := by
  rw [call_py H.is_row rfl]
  have hw := fun t ho k => is_word H.toHX t ho k
  have hx := fun t ho k => is_expression H.toHX t ho k
  cases t with
  | tup ts =>
    cases ts with
    | nil => simp [b_is_row, rowB]
    | cons a ts =>
      cases a with
      | str w =>
        simp at ho
        have hl := ho.1
        by_cases c1 : w = SET
        · subst c1
          match ts, ho with
          | [], ho => simp [b_is_row, rowB]
          | [a], ho => simp [b_is_row, rowB]
          | [a, b], ho =>
            simp at ho
            cases h1 : wordB a <;> simp [b_is_row, rowB, hw, hx, ho, h1]
          | a :: b :: c :: ts, ho =>
            have hn : ¬ ((ts.length : Int) + 1 + 1 + 1 + 1 = 3) := by omega
            simp [b_is_row, rowB, hn]
        · by_cases c2 : w = NOTE
          · subst c2
            match ts, ho with
            | [], ho => simp [b_is_row, rowB]
            | [a], ho =>
              simp at ho
              simp [b_is_row, rowB, hx, ho]
            | a :: b :: ts, ho =>
              have hn : ¬ ((ts.length : Int) + 1 + 1 + 1 = 2) := by omega
              simp [b_is_row, rowB, hn]
          · have hs : ∀ (ρ : Py.Env), ρ = [Sl.val (.tup (.str w :: ts)), .own (.dct true [(.str TAKE, .int 4), (.str PASS, .int 4), (.str GIVE, .int 3), (.str RUN, .int 2)]), .un] →
                lcR ts (.one 2) (go P.C (callF P (k + 18)) (.nt (.call X.is_word [(.loc 2)]))).2 (go P.C (callF P (k + 18)) (.loc 2)).1 ρ = .ok (.new (.lst ((ts.filter fun x => !wordB x).map id)), ρ) := fun ρ hρ =>
              lcR_any ts (fun x => !wordB x) id (by simp [hρ]) (by simp [hρ]) (by omega) fun x hx => by
                have hox : okT x = true := okTs_mem ho.2.2 x hx
                cases hb : wordB x <;> simp [hρ, hw, hox, hb]
            have hs := hs _ rfl
            simp only [List.map_id] at hs
            by_cases c3 : w = TAKE
            · subst c3
              by_cases hn : (ts.length : Int) + 1 = 4
              · have hn' : ts.length = 3 := by omega
                simp [b_is_row, rowB, getK, hn, hn', hs, all_filter]
              · have hn' : ¬ ts.length = 3 := by omega
                simp [b_is_row, rowB, getK, hn, hn']
            · by_cases c4 : w = PASS
              · subst c4
                by_cases hn : (ts.length : Int) + 1 = 4
                · have hn' : ts.length = 3 := by omega
                  simp [b_is_row, rowB, getK, hn, hn', hs, all_filter]
                · have hn' : ¬ ts.length = 3 := by omega
                  simp [b_is_row, rowB, getK, hn, hn']
              · by_cases c5 : w = GIVE
                · subst c5
                  by_cases hn : (ts.length : Int) + 1 = 3
                  · have hn' : ts.length = 2 := by omega
                    simp [b_is_row, rowB, getK, hn, hn', hs, all_filter]
                  · have hn' : ¬ ts.length = 2 := by omega
                    simp [b_is_row, rowB, getK, hn, hn']
                · by_cases c6 : w = RUN
                  · subst c6
                    by_cases hn : (ts.length : Int) + 1 = 2
                    · have hn' : ts.length = 1 := by omega
                      simp [b_is_row, rowB, getK, hn, hn', hs, all_filter]
                    · have hn' : ¬ ts.length = 1 := by omega
                      simp [b_is_row, rowB, getK, hn, hn']
                  · have c3' : TAKE ≠ w := fun z => c3 z.symm
                    have c4' : PASS ≠ w := fun z => c4 z.symm
                    have c5' : GIVE ≠ w := fun z => c5 z.symm
                    have c6' : RUN ≠ w := fun z => c6 z.symm
                    simp [b_is_row, rowB, getK, c1, c2, c3, c4, c5, c6, c3', c4', c5', c6', ho]
      | scr ns => simp [okT] at ho
      | _ => simp [b_is_row, rowB]
  | scr ns => cases ho
  | _ => simp [b_is_row, rowB]
end M
set_option Elab.async false
set_option linter.all false
set_option autoImplicit false
set_option maxRecDepth 100000
namespace Py
theorem dedup_len : ∀ l : List W, (dedupW l).length ≤ l.length
  | [] => Nat.le_refl _
  | x :: r => by
    have := dedup_len r
    unfold dedupW
    split
    · simp; omega
    · simp; omega
theorem dedup_lt : ∀ l : List W, (dedupW l).length < l.length ↔ ¬ l.Nodup
  | [] => by simp [dedupW]
  | x :: r => by
    have h1 := dedup_len r
    have h2 := dedup_lt r
    unfold dedupW
    by_cases c : r.contains x = true
    · have hm : x ∈ r := by simpa using c
      rw [if_pos c]
      simp [hm]
      omega
    · have hm : ¬ x ∈ r := by simpa using c
      rw [if_neg c]
      simp [hm, h2]
theorem strsOf_map : ∀ l : List W, strsOf (l.map T.str) = some l
  | [] => rfl
  | w :: r => by simp [strsOf, strsOf_map r]
@[simp] theorem b1_lset (l : List W) : b1T .lset (.lst (l.map T.str)) = if l.length < 4000 then some (.tmp (.int (dedupW l).length)) else none := by
  show (match strsOf (l.map T.str) with
    | some ws => if ws.length < 4000 then some (R.tmp (.int (dedupW ws).length)) else none
    | none => none) = _
  rw [strsOf_map]
@[simp] theorem any_strs (x : W) : ∀ l : List W, ((l.map T.str).any fun z => eqT z (.str x)) = decide (x ∈ l)
  | [] => by simp
  | w :: r => by
    by_cases h : w = x
    · simp [h]
    · have h' : ¬ x = w := fun z => h z.symm
      simp [any_strs x r, h, h']
@[simp] theorem pure_strs : ∀ ws : List W, pureTs (ws.map T.str) = true
  | [] => rfl
  | w :: r => by simp [pure_strs r]
end Py
namespace M
open Py
variable {P : Prg} {X : Ix}
def Row.isOwn : Row → Bool
  | .take .. => true | .set .. => true | _ => false
def Row.ownW : Row → W
  | .take _ _ o => o | .set o _ => o | _ => []
def Row.isGiv : Row → Bool
  | .give .. => true | .pass .. => true | _ => false
def Row.givW : Row → W
  | .give _ n => n | .pass _ _ g => g | _ => []
def Row.used : Row → List W
  | .set _ e => e.names | .note e => e.names | .give o _ => [o] | _ => []
def ownN (rs : List Row) : List W := (rs.filter Row.isOwn).map Row.ownW
def givN (rs : List Row) : List W := (rs.filter Row.isGiv).map Row.givW
def usedN (rs : List Row) : List W := rs.flatMap Row.used
@[simp] theorem at_1 {α : Type} (a b : α) : atI [a, b] (-1) = some b := by simp [atI, ixN]
@[simp] theorem at_2 {α : Type} (a b c : α) : atI [a, b, c] (-1) = some c := by simp [atI, ixN]
@[simp] theorem at_3 {α : Type} (a b c d : α) : atI [a, b, c, d] (-1) = some d := by simp [atI, ixN]
theorem own_names (H : HC P X) (m : Mod) (hl : m.rows.length ≤ 1000000) (k : Nat) : callF P (k + 1) X.own_names [m.T] = .ok (.new (.lst ((ownN m.rows).map T.str))) := by
  rw [call_py H.own_names rfl]
  have e : ∀ ρ : Py.Env, ρ = [.val m.T, .un] → _ := fun ρ hρ => lcR_one m.rows Row.T Row.isOwn (fun r => T.str r.ownW) (i := 1) (ρ := ρ) (vc := (go P.C (callF P k) (.cmp .isin (.ix (.loc 1) (.int 0)) (.tup [(.str [116, 97, 107, 101]), (.str [115, 101, 116])]))).2)
    (ve := (go P.C (callF P k) (.ife (.cmp .eq (.ix (.loc 1) (.int 0)) (.str [116, 97, 107, 101])) (.ix (.loc 1) (.int 3)) (.ix (.loc 1) (.int 1)))).1) (by simp [hρ]) (by simp [hρ]) hl fun r _ => by
    cases r <;> simp [hρ, Row.isOwn, Row.ownW]
  have e := e _ rfl
  simp only [Mod.T] at e ⊢
  simp [b_own_names, e, ownN, Function.comp_def]
theorem given_names (H : HC P X) (m : Mod) (hl : m.rows.length ≤ 1000000) (k : Nat) : callF P (k + 1) X.given_names [m.T] = .ok (.new (.lst ((givN m.rows).map T.str))) := by
  rw [call_py H.given_names rfl]
  have e : ∀ ρ : Py.Env, ρ = [.val m.T, .un] → _ := fun ρ hρ => lcR_one m.rows Row.T Row.isGiv (fun r => T.str r.givW) (i := 1) (ρ := ρ) (vc := (go P.C (callF P k) (.cmp .isin (.ix (.loc 1) (.int 0)) (.tup [(.str [103, 105, 118, 101]), (.str [112, 97, 115, 115])]))).2)
    (ve := (go P.C (callF P k) (.ix (.loc 1) (.neg (.int 1)))).1) (by simp [hρ]) (by simp [hρ]) hl fun r _ => by
    cases r <;> simp [hρ, Row.isGiv, Row.givW]
  have e := e _ rfl
  simp only [Mod.T] at e ⊢
  simp [b_given_names, e, givN, Function.comp_def]
theorem used_names (H : HC P X) (m : Mod) (hok : ∀ r ∈ m.rows, r.ok) (hl : m.rows.length ≤ 60) (k : Nat) : callF P (k + 16) X.used_names [m.T] = .ok (.new (.lst ((usedN m.rows).map T.str))) := by
  rw [call_py H.used_names rfl]
  have key : ∀ (rs : List Row), (∀ r ∈ rs, r.ok) → ∀ (v : T) (acc : List W) (x : Sl), acc.length + 15 * rs.length ≤ 1000 → ∃ z, forR (rs.map Row.T) (.one 2) (exs P.C (callF P (k + 15)) P.sub [.ite (.cmp .isin (.ix (.loc 2) (.int 0)) (.tup [(.str [115, 101, 116]), (.str [110, 111, 116, 101])])) [.exp (.m1 .extend (.loc 1) (.call X.names_in [(.ix (.loc 2) (.neg (.int 1)))]))] [], .ite (.cmp .eq (.ix (.loc 2) (.int 0)) (.str [103, 105, 118, 101])) [.exp (.m1 .append (.loc 1) (.ix (.loc 2) (.int 1)))] []])
      [.val v, .own (.lst (acc.map T.str)), x] = .next [.val v, .own (.lst ((acc ++ usedN rs).map T.str)), z] := by
    intro rs
    induction rs with
    | nil =>
      intro _ v acc x _
      exact ⟨x, by simp [usedN]⟩
    | cons r rs ih =>
      intro ho v acc x hb
      have hr := ho r (List.mem_cons_self ..)
      have hul : r.used.length ≤ 15 := by
        cases r <;> simp [Row.used]
        · rename_i o e
          have := names_len e
          have := hr.2.2
          omega
        · rename_i e
          have hr : e.good := hr
          have := names_len e
          have := hr.2
          omega
      simp only [List.length_cons] at hb
      obtain ⟨z, hz⟩ := ih (fun r hr => ho r (List.mem_cons_of_mem _ hr)) v (acc ++ r.used) (.val r.T) (by simp only [List.length_append]; omega)
      refine ⟨z, ?_⟩
      rw [List.map_cons, forR_cons]
      have e2 : (acc ++ usedN (r :: rs)) = acc ++ r.used ++ usedN rs := by simp [usedN]
      rw [e2]
      have hb1 : acc.length + r.used.length ≤ 1000000 := by omega
      have hb2 : acc.length < 1000000 := by omega
      cases r with
      | set o e =>
        have he : e.good := hr.2
        have := dep_parts e
        have := he.2
        have ni := names_in H.toHX e (k + 15) (by omega) (by omega)
        simp only [Row.used] at hz hb1 ⊢
        simp only [List.map_append] at hz ⊢
        simp at hz
        simp [ni, hb1, hz]
      | note e =>
        have he : e.good := hr
        have := dep_parts e
        have := he.2
        have ni := names_in H.toHX e (k + 15) (by omega) (by omega)
        simp only [Row.used] at hz hb1 ⊢
        simp only [List.map_append] at hz ⊢
        simp at hz
        simp [ni, hb1, hz]
      | give o n =>
        simp only [Row.used] at hz hb1 ⊢
        simp only [List.map_append] at hz ⊢
        simp [hb2] at hz ⊢
        simp [hz]
      | take a b c => simpa [Row.used] using hz
      | pass a b c => simpa [Row.used] using hz
      | run a => simpa [Row.used] using hz
  obtain ⟨z, hz⟩ := key m.rows hok m.T [] .un (by simp; omega)
  simp only [Mod.T, List.map_nil, List.nil_append] at hz ⊢
  simp [b_used_names, hz]
structure Mod.good (m : Mod) : Prop where
  nm : wordW m.nm = true
  len : m.rows.length ≤ 60
  rows : ∀ r ∈ m.rows, r.ok
  own : (ownN m.rows).Nodup
  giv : (givN m.rows).Nodup
  used : ∀ n ∈ usedN m.rows, n ∈ ownN m.rows
def modP (t : T) : Prop := ∃ m : Mod, t = m.T ∧ m.good
theorem own_words {rs : List Row} (h : ∀ r ∈ rs, r.ok) : ∀ w ∈ ownN rs, wordW w = true := fun w hw => by
  obtain ⟨r, hr, rfl⟩ := List.mem_map.mp hw
  obtain ⟨h1, h2⟩ := List.mem_filter.mp hr
  have := h r h1
  cases r <;> simp [Row.isOwn] at h2
  · exact this.2.2
  · exact this.1
theorem giv_words {rs : List Row} (h : ∀ r ∈ rs, r.ok) : ∀ w ∈ givN rs, wordW w = true := fun w hw => by
  obtain ⟨r, hr, rfl⟩ := List.mem_map.mp hw
  obtain ⟨h1, h2⟩ := List.mem_filter.mp hr
  have := h r h1
  cases r <;> simp [Row.isGiv] at h2
  · exact this.2
  · exact this.2.2
theorem used_words {rs : List Row} (h : ∀ r ∈ rs, r.ok) : ∀ w ∈ usedN rs, wordW w = true := fun w hw => by
  obtain ⟨r, hr, hw⟩ := List.mem_flatMap.mp hw
  have := h r hr
  cases r <;> simp [Row.used] at hw
  · exact names_word this.2.1 w hw
  · rw [hw]
    exact this.1
  · have this : E.good _ := this
    exact names_word this.1 w hw
theorem used_len {rs : List Row} (h : ∀ r ∈ rs, r.ok) : (usedN rs).length ≤ 15 * rs.length := by
  induction rs with
  | nil => simp [usedN]
  | cons r rs ih =>
    have hr := h r (List.mem_cons_self ..)
    have ih := ih fun r hr => h r (List.mem_cons_of_mem _ hr)
    have hul : r.used.length ≤ 15 := by
      cases r <;> simp [Row.used]
      · rename_i o e
        have := names_len e
        have := hr.2.2
        omega
      · rename_i e
        have hr : e.good := hr
        have := names_len e
        have := hr.2
        omega
    simp only [usedN, List.flatMap_cons, List.length_append, List.length_cons] at ih ⊢
    omega
theorem rows_of {ts : List T} (h : ∀ t ∈ ts, rowB t = true) : ∃ rs : List Row, ts = rs.map Row.T ∧ ∀ r ∈ rs, r.ok := by
  induction ts with
  | nil => exact ⟨[], rfl, fun _ h => by cases h⟩
  | cons t ts ih =>
    obtain ⟨r, rfl, hr⟩ := rowB_P (h t (List.mem_cons_self ..))
    obtain ⟨rs, rfl, hrs⟩ := ih fun t ht => h t (List.mem_cons_of_mem _ ht)
    exact ⟨r :: rs, rfl, fun x hx => by
      rcases List.mem_cons.mp hx with rfl | hx
      · exact hr
      · exact hrs x hx⟩
theorem R_inj : ∀ {a b : Row}, a.T = b.T → a = b := fun {a b} h => by
  cases a <;> cases b <;> simp at h <;> first | (obtain ⟨rfl, rfl, rfl⟩ := h; rfl) | (obtain ⟨rfl, rfl⟩ := h; rfl) | (subst h; rfl) | skip
  · obtain ⟨rfl, h⟩ := h
    rw [E_inj h]
  · rw [E_inj h]
theorem Rs_inj : ∀ {a b : List Row}, a.map Row.T = b.map Row.T → a = b
  | [], [], _ => rfl
  | [], _ :: _, h => by simp at h
  | _ :: _, [], h => by simp at h
  | a :: as, b :: bs, h => by
    simp only [List.map_cons, List.cons.injEq] at h
    rw [R_inj h.1, Rs_inj h.2]
theorem M_inj {a b : Mod} (h : a.T = b.T) : a = b := by
  cases a
  cases b
  simp only [Mod.T, T.tup.injEq, List.cons.injEq, T.str.injEq, and_true] at h
  rw [h.1, Rs_inj h.2]
theorem modP_T {m : Mod} : modP m.T ↔ m.good := ⟨fun ⟨m', h, g⟩ => by rwa [M_inj h], fun g => ⟨m, rfl, g⟩⟩
open Classical in
theorem is_module (H : HC P X) (t : T) (ho : okT t = true) (k : Nat) : callF P (k + 20) X.is_module [t] = .ok (.tmp (.bl (decide (modP t)))) := by
  rw [call_py H.is_module rfl]
  have hw := fun t ho k => is_word H.toHX t ho k
  have no : ∀ {b : Bool}, ¬ modP t → b = decide (modP t) → b = false := fun h e => by rw [e]; exact decide_eq_false h
  cases t with
  | tup ts =>
    match ts, ho with
    | [], ho =>
      have n : ¬ modP (.tup []) := fun ⟨m, h, _⟩ => by simp [Mod.T] at h
      simp [b_is_module, n]
    | [a], ho =>
      have n : ¬ modP (.tup [a]) := fun ⟨m, h, _⟩ => by simp [Mod.T] at h
      simp [b_is_module, n]
    | a :: b :: c :: ts, ho =>
      have n : ¬ modP (.tup (a :: b :: c :: ts)) := fun ⟨m, h, _⟩ => by simp [Mod.T] at h
      have hn : ¬ ((ts.length : Int) + 1 + 1 + 1 = 2) := by omega
      simp [b_is_module, n, hn]
    | [a, b], ho =>
      simp at ho
      cases hb : wordB a with
      | false =>
        have n : ¬ modP (.tup [a, b]) := fun ⟨m, h, g⟩ => by
          simp [Mod.T] at h
          have := g.nm
          rw [h.1] at hb
          have hb : wordW m.nm = false := hb
          rw [hb] at this
          cases this
        simp [b_is_module, n, hw, ho, hb]
      | true =>
        obtain ⟨nm, rfl, hnm⟩ := wordB_str hb
        cases b with
        | tup rs =>
          have h1 := ho.2
          simp at ho h1
          by_cases hlen : rs.length ≤ 60
          · have hlen' : ¬ (60 : Int) < rs.length := by omega
            have e1 : ∀ ρ : Py.Env, ρ = [.val (.tup [.str nm, .tup rs]), .un, .un, .un, .un] → lcR rs (.one 1) (go P.C (callF P (k + 19)) (.nt (.call X.is_row [(.loc 1)]))).2 (go P.C (callF P (k + 19)) (.loc 1)).1 ρ = .ok (.new (.lst ((rs.filter fun x => !rowB x).map id)), ρ) := fun ρ hρ =>
              lcR_any rs (fun x => !rowB x) id (by simp [hρ]) (by simp [hρ]) (by omega) fun x hx => by
                have hox : okT x = true := okTs_mem h1.2 x hx
                cases hb : rowB x <;> simp [hρ, is_row H, hox, hb]
            have e1 := e1 _ rfl
            simp only [List.map_id] at e1
            cases hall : rs.all rowB with
            | false =>
              have n : ¬ modP (.tup [.str nm, .tup rs]) := fun ⟨m, h, g⟩ => by
                simp [Mod.T] at h
                have : rs.all rowB = true := by
                  rw [h.2, List.all_eq_true]
                  intro t ht
                  obtain ⟨r, hr, rfl⟩ := List.mem_map.mp ht
                  exact rowB_T (g.rows r hr)
                rw [hall] at this
                cases this
              have he : (rs.filter fun x => !rowB x).isEmpty = false := by rw [all_filter, hall]
              simp [b_is_module, H.cMOST_ROWS, n, hw, ho, hb, hlen', e1, he]
            | true =>
              have he : (rs.filter fun x => !rowB x).isEmpty = true := by rw [all_filter, hall]
              obtain ⟨rs', rfl, hok⟩ := rows_of (List.all_eq_true.mp hall)
              simp only [List.length_map] at hlen hlen'
              have on := own_names H ⟨nm, rs'⟩ (by show rs'.length ≤ _; omega) (k + 18)
              have gn := given_names H ⟨nm, rs'⟩ (by show rs'.length ≤ _; omega) (k + 18)
              have un := used_names H ⟨nm, rs'⟩ hok (by exact hlen) (k + 3)
              simp only [Mod.T] at on gn un
              have lo : (ownN rs').length < 4000 := by
                have : (ownN rs').length ≤ rs'.length := by simp [ownN, List.length_filter_le]
                omega
              have lg : (givN rs').length < 4000 := by
                have : (givN rs').length ≤ rs'.length := by simp [givN, List.length_filter_le]
                omega
              have lu := used_len hok
              have hP : modP (.tup [.str nm, .tup (rs'.map Row.T)]) ↔ (ownN rs').Nodup ∧ (givN rs').Nodup ∧ ∀ n ∈ usedN rs', n ∈ ownN rs' := by
                rw [show (T.tup [.str nm, .tup (rs'.map Row.T)]) = (Mod.mk nm rs').T from rfl, modP_T]
                exact ⟨fun g => ⟨g.own, g.giv, g.used⟩, fun g => ⟨hnm, hlen, hok, g.1, g.2.1, g.2.2⟩⟩
              have go1 := goods_words 60 _ (own_words hok)
              have e2 : ∀ ρ : Py.Env, ρ = [.val (.tup [.str nm, .tup (rs'.map Row.T)]), .un, .own (.lst ((ownN rs').map T.str)), .own (.lst ((givN rs').map T.str)), .un] → lcR ((usedN rs').map T.str) (.one 4) (go P.C (callF P (k + 19)) (.cmp .notin (.loc 4) (.loc 2))).2 (go P.C (callF P (k + 19)) (.loc 4)).1 ρ = .ok (.new (.lst (((usedN rs').filter fun x => !decide (x ∈ ownN rs')).map T.str)), ρ) := fun ρ hρ =>
                lcR_one (usedN rs') T.str (fun x => !decide (x ∈ ownN rs')) T.str (by simp [hρ]) (by simp [hρ]) (by omega) fun x hx => by
                  have gx := wordW_gd (used_words hok x hx)
                  by_cases hm : x ∈ ownN rs' <;> simp [hρ, gx, go1, hm]
              have e2 := e2 _ rfl
              by_cases n1 : (ownN rs').Nodup
              · have d1 : ¬ (dedupW (ownN rs')).length < (ownN rs').length := fun z => (dedup_lt _).mp z n1
                by_cases n2 : (givN rs').Nodup
                · have d2 : ¬ (dedupW (givN rs')).length < (givN rs').length := fun z => (dedup_lt _).mp z n2
                  have hall2 : ((usedN rs').filter fun x => !decide (x ∈ ownN rs')).isEmpty = (usedN rs').all fun x => decide (x ∈ ownN rs') := all_filter _ _
                  by_cases n3 : ∀ n ∈ usedN rs', n ∈ ownN rs'
                  · have q : decide (modP (.tup [.str nm, .tup (rs'.map Row.T)])) = true := decide_eq_true (hP.mpr ⟨n1, n2, n3⟩)
                    have q2 : ((usedN rs').all fun x => decide (x ∈ ownN rs')) = true := by
                      rw [List.all_eq_true]
                      exact fun x hx => decide_eq_true (n3 x hx)
                    rw [q2] at hall2
                    rw [q]
                    simp [b_is_module, H.cMOST_ROWS, hw, ho, hb, hlen', e1, he, on, gn, un, lo, lg, d1, d2, e2, hall2]
                  · have q : decide (modP (.tup [.str nm, .tup (rs'.map Row.T)])) = false := decide_eq_false fun z => n3 (hP.mp z).2.2
                    have q2 : ((usedN rs').all fun x => decide (x ∈ ownN rs')) = false := by
                      cases hh : (usedN rs').all fun x => decide (x ∈ ownN rs') with
                      | false => rfl
                      | true =>
                        rw [List.all_eq_true] at hh
                        exact absurd (fun x hx => of_decide_eq_true (hh x hx)) n3
                    rw [q2] at hall2
                    rw [q]
                    simp [b_is_module, H.cMOST_ROWS, hw, ho, hb, hlen', e1, he, on, gn, un, lo, lg, d1, d2, e2, hall2]
                · have d2 : (dedupW (givN rs')).length < (givN rs').length := (dedup_lt _).mpr n2
                  have q : decide (modP (.tup [.str nm, .tup (rs'.map Row.T)])) = false := decide_eq_false fun z => n2 (hP.mp z).2.1
                  rw [q]
                  simp [b_is_module, H.cMOST_ROWS, hw, ho, hb, hlen', e1, he, on, gn, lo, lg, d1, d2]
              · have d1 : (dedupW (ownN rs')).length < (ownN rs').length := (dedup_lt _).mpr n1
                have q : decide (modP (.tup [.str nm, .tup (rs'.map Row.T)])) = false := decide_eq_false fun z => n1 (hP.mp z).1
                rw [q]
                simp [b_is_module, H.cMOST_ROWS, hw, ho, hb, hlen', e1, he, on, gn, lo, d1]
          · have hlen' : (60 : Int) < rs.length := by omega
            have n : ¬ modP (.tup [.str nm, .tup rs]) := fun ⟨m, h, g⟩ => by
              simp [Mod.T] at h
              have := g.len
              rw [h.2] at hlen
              simp at hlen
              omega
            simp [b_is_module, H.cMOST_ROWS, n, hw, ho, hb, hlen']
        | scr ns => simp [okT] at ho
        | _ =>
          have n : ∀ u, (∀ l, u ≠ .tup l) → ¬ modP (.tup [.str nm, u]) := fun u hu ⟨m, h, g⟩ => by
            simp [Mod.T] at h
            exact hu _ h.2
          simp at ho
          simp [b_is_module, H.cMOST_ROWS, hw, ho, hb, n]
  | scr ns => cases ho
  | _ =>
    have n : ∀ u, (∀ l, u ≠ T.tup l) → ¬ modP u := fun u hu ⟨m, h, g⟩ => hu _ h
    simp [b_is_module, n]
end M
set_option Elab.async false
set_option linter.all false
set_option autoImplicit false
set_option maxRecDepth 100000
namespace Py
@[simp] theorem filter_tt {α : Type} (l : List α) : l.filter (fun _ => true) = l := by
  induction l with
  | nil => rfl
  | cons a l ih => simp
theorem intsOf_map {α : Type} (f : α → Int) : ∀ l : List α, intsOf (l.map fun x => T.int (f x)) = some (l.map f)
  | [] => rfl
  | x :: r => by simp [intsOf, intsOf_map f r]
end Py
namespace M
open Py
variable {P : Prg} {X : Ix}
def namesP (p : Pg) : List W := p.map Mod.nm
def rowsP (p : Pg) : Nat := (p.map fun m => m.rows.length).sum
structure PgGood (p : Pg) : Prop where
  len : p.length ≤ 6
  mods : ∀ m ∈ p, m.good
  nms : (namesP p).Nodup
  rows : rowsP p ≤ 60
def pgP (t : T) : Prop := ∃ p : Pg, t = pgT p ∧ PgGood p
theorem mods_of {ts : List T} (h : ∀ t ∈ ts, modP t) : ∃ p : Pg, ts = p.map Mod.T ∧ ∀ m ∈ p, m.good := by
  induction ts with
  | nil => exact ⟨[], rfl, fun _ h => by cases h⟩
  | cons t ts ih =>
    obtain ⟨r, rfl, hr⟩ := h t (List.mem_cons_self ..)
    obtain ⟨rs, rfl, hrs⟩ := ih fun t ht => h t (List.mem_cons_of_mem _ ht)
    exact ⟨r :: rs, rfl, fun x hx => by
      rcases List.mem_cons.mp hx with rfl | hx
      · exact hr
      · exact hrs x hx⟩
theorem Ms_inj : ∀ {a b : Pg}, a.map Mod.T = b.map Mod.T → a = b
  | [], [], _ => rfl
  | [], _ :: _, h => by simp at h
  | _ :: _, [], h => by simp at h
  | a :: as, b :: bs, h => by
    simp only [List.map_cons, List.cons.injEq] at h
    rw [M_inj h.1, Ms_inj h.2]
theorem P_inj {a b : Pg} (h : pgT a = pgT b) : a = b := by
  simp only [pgT, T.tup.injEq] at h
  exact Ms_inj h
theorem pgP_T {p : Pg} : pgP (pgT p) ↔ PgGood p := ⟨fun ⟨m', h, g⟩ => by rwa [P_inj h], fun g => ⟨p, rfl, g⟩⟩
theorem isum (l : List Nat) : (l.map fun n : Nat => (n : Int)).sum = (l.sum : Nat) := by
  induction l with
  | nil => rfl
  | cons a l ih => simp [ih]
open Classical in
theorem look (H : HC P X) (t : T) (ho : okT t = true) (k : Nat) : callF P (k + 21) X.look [t] = if pgP t then .ok (.tmp .non) else .exc X.xBadProgram := by
  rw [call_py H.look rfl]
  cases t with
  | tup ts =>
    simp at ho
    by_cases hlen : ts.length ≤ 6
    · have hlen' : ¬ (6 : Int) < ts.length := by omega
      have e1 : ∀ ρ : Py.Env, ρ = [.val (.tup ts), .un, .un] → lcR ts (.one 1) (go P.C (callF P (k + 20)) (.nt (.call X.is_module [(.loc 1)]))).2 (go P.C (callF P (k + 20)) (.loc 1)).1 ρ = .ok (.new (.lst ((ts.filter fun x => !decide (modP x)).map id)), ρ) := fun ρ hρ =>
        lcR_any ts (fun x => !decide (modP x)) id (by simp [hρ]) (by simp [hρ]) (by omega) fun x hx => by
          have hox : okT x = true := okTs_mem ho.2 x hx
          by_cases hb : modP x <;> simp [hρ, is_module H, hox, hb]
      have e1 := e1 _ rfl
      simp only [List.map_id] at e1
      by_cases hall : ∀ t ∈ ts, modP t
      · have he : (ts.filter fun x => !decide (modP x)).isEmpty = true := by
          rw [all_filter (fun x => decide (modP x)), List.all_eq_true]
          exact fun x hx => decide_eq_true (hall x hx)
        obtain ⟨p, rfl, hg⟩ := mods_of hall
        simp only [List.length_map] at hlen hlen'
        have e2 : ∀ ρ : Py.Env, ρ = [.val (.tup (p.map Mod.T)), .un, .un] → _ := fun ρ hρ => lcR_one p Mod.T (fun _ => true) (fun m => T.str m.nm) (i := 1) (ρ := ρ) (vc := (go P.C (callF P (k + 20)) (.bl true)).2) (ve := (go P.C (callF P (k + 20)) (.ix (.loc 1) (.int 0))).1) (by simp [hρ]) (by simp [hρ]) (by omega) fun m _ => by
          simp [hρ, Mod.T]
        have e2 := e2 _ rfl
        have e3 : ∀ ρ : Py.Env, ρ = [.val (.tup (p.map Mod.T)), .un, .own (.lst (p.map fun m => T.str m.nm))] → _ := fun ρ hρ => lcR_one p Mod.T (fun _ => true) (fun m => T.int (m.rows.length : Nat)) (i := 1) (ρ := ρ) (vc := (go P.C (callF P (k + 20)) (.bl true)).2) (ve := (go P.C (callF P (k + 20)) (.b1 .len (.ix (.loc 1) (.int 1)))).1) (by simp [hρ]) (by simp [hρ]) (by omega) fun m _ => by
          simp [hρ, Mod.T]
        have e3 := e3 _ rfl
        simp only [filter_tt] at e2 e3
        have enm : (p.map fun m => T.str m.nm) = (namesP p).map T.str := by simp [namesP, Function.comp_def]
        rw [enm] at e2 e3
        have ln : (namesP p).length < 4000 := by simp [namesP]; omega
        have es : intsOf (p.map fun m => T.int (m.rows.length : Nat)) = some (p.map fun m => ((m.rows.length : Nat) : Int)) := intsOf_map _ p
        have es2 : (p.map fun m => ((m.rows.length : Nat) : Int)).sum = ((rowsP p : Nat) : Int) := by
          have := isum (p.map fun m => m.rows.length)
          rw [List.map_map] at this
          exact this
        have hP : pgP (.tup (p.map Mod.T)) ↔ (namesP p).Nodup ∧ rowsP p ≤ 60 := by
          rw [show T.tup (p.map Mod.T) = pgT p from rfl, pgP_T]
          exact ⟨fun g => ⟨g.nms, g.rows⟩, fun g => ⟨hlen, hg, g.1, g.2⟩⟩
        by_cases n1 : (namesP p).Nodup
        · have d1 : ¬ (dedupW (namesP p)).length < (namesP p).length := fun z => (dedup_lt _).mp z n1
          by_cases n2 : rowsP p ≤ 60
          · have n2' : ¬ (60 : Int) < ((rowsP p : Nat) : Int) := by omega
            rw [if_pos (hP.mpr ⟨n1, n2⟩)]
            simp [b_look, H.cMOST_ROWS, H.cMOST_MODULES, hlen', e1, he, e2, e3, ln, d1, es, es2, n2']
          · have n2' : (60 : Int) < ((rowsP p : Nat) : Int) := by omega
            rw [if_neg fun z => n2 (hP.mp z).2]
            simp [b_look, H.cMOST_ROWS, H.cMOST_MODULES, hlen', e1, he, e2, e3, ln, d1, es, es2, n2']
        · have d1 : (dedupW (namesP p)).length < (namesP p).length := (dedup_lt _).mpr n1
          rw [if_neg fun z => n1 (hP.mp z).1]
          simp [b_look, H.cMOST_MODULES, hlen', e1, he, e2, ln, d1]
      · have he : (ts.filter fun x => !decide (modP x)).isEmpty = false := by
          rw [all_filter (fun x => decide (modP x))]
          cases hh : ts.all fun x => decide (modP x) with
          | false => rfl
          | true =>
            rw [List.all_eq_true] at hh
            exact absurd (fun x hx => of_decide_eq_true (hh x hx)) hall
        have n : ¬ pgP (.tup ts) := fun ⟨p, h, g⟩ => hall fun t ht => by
          simp [pgT] at h
          rw [h] at ht
          obtain ⟨m, hm, rfl⟩ := List.mem_map.mp ht
          exact ⟨m, rfl, g.mods m hm⟩
        simp [b_look, H.cMOST_MODULES, hlen', e1, he, n]
    · have hlen' : (6 : Int) < ts.length := by omega
      have n : ¬ pgP (.tup ts) := fun ⟨p, h, g⟩ => by
        simp [pgT] at h
        have := g.len
        rw [h] at hlen
        simp at hlen
        omega
      simp [b_look, H.cMOST_MODULES, hlen', n]
  | scr ns => cases ho
  | _ =>
    have n : ∀ u, (∀ l, u ≠ T.tup l) → ¬ pgP u := fun u hu ⟨m, h, g⟩ => hu _ h
    simp [b_look, n]
def modOf (p : Pg) (w : W) : Option Mod := p.find? fun m => m.nm == w
def rowOf (m : Mod) (w : W) : Option Row := m.rows.find? fun r => r.isOwn && r.ownW == w
def givOf (m : Mod) (w : W) : Option Row := m.rows.find? fun r => r.isGiv && r.givW == w
def optT {α : Type} (f : α → T) : Option α → T
  | some a => f a
  | none => .non
structure HH (P : Prg) (X : Ix) : Prop extends HC P X where
  module_of : P.fns[X.module_of]? = some (F_module_of X)
  row_of : P.fns[X.row_of]? = some (F_row_of X)
  giving : P.fns[X.giving]? = some (F_giving X)
  home_of_given : P.fns[X.home_of_given]? = some (F_home_of_given X)
  checked : P.fns[X.checked]? = some (F_checked X)
theorem module_of (H : HH P X) (p : Pg) (hp : ∀ m ∈ p, gdW m.nm = true) (w : W) (hw : gdW w = true) (k : Nat) : callF P (k + 1) X.module_of [pgT p, .str w] = .ok (.tmp (optT Mod.T (modOf p w))) := by
  rw [call_py H.module_of rfl]
  obtain ⟨z, hz⟩ := forR_find p Mod.T (fun m => m.nm == w) (i := 2) (b := exs P.C (callF P k) P.sub [.ite (.cmp .eq (.ix (.loc 2) (.int 0)) (.loc 1)) [.ret (.loc 2)] []]) [.val (pgT p), .val (.str w), .un] (by simp) fun m hm => by
    have := hp m hm
    by_cases c : m.nm = w
    · simp [Mod.T, this, hw, c]
    · simp [Mod.T, this, hw, c]
  unfold modOf
  simp only [pgT] at hz ⊢
  cases hf : p.find? fun m => m.nm == w with
  | none =>
    rw [hf] at hz
    simp [b_module_of, hz, optT]
  | some m =>
    rw [hf] at hz
    simp [b_module_of, hz, optT]
theorem row_of (H : HH P X) (m : Mod) (hm : ∀ r ∈ m.rows, r.ok) (w : W) (hw : gdW w = true) (k : Nat) : callF P (k + 1) X.row_of [m.T, .str w] = .ok (.tmp (optT Row.T (rowOf m w))) := by
  rw [call_py H.row_of rfl]
  obtain ⟨z, hz⟩ := forR_find m.rows Row.T (fun r => r.isOwn && r.ownW == w) (i := 2) (b := exs P.C (callF P k) P.sub [.ite (.or2 (.and2 (.cmp .eq (.ix (.loc 2) (.int 0)) (.str [116, 97, 107, 101])) (.cmp .eq (.ix (.loc 2) (.int 3)) (.loc 1))) (.and2 (.cmp .eq (.ix (.loc 2) (.int 0)) (.str [115, 101, 116])) (.cmp .eq (.ix (.loc 2) (.int 1)) (.loc 1)))) [.ret (.loc 2)] []]) [.val m.T, .val (.str w), .un] (by simp) fun r hr => by
    have := hm r hr
    cases r with
    | take a b c =>
      have g := wordW_gd this.2.2
      by_cases c : c = w <;> simp [Row.isOwn, Row.ownW, hw, g, c]
    | set o e =>
      have g := wordW_gd this.1
      by_cases c : o = w <;> simp [Row.isOwn, Row.ownW, hw, g, c]
    | _ => simp [Row.isOwn]
  unfold rowOf
  simp only [Mod.T] at hz ⊢
  cases hf : m.rows.find? fun r => r.isOwn && r.ownW == w with
  | none =>
    rw [hf] at hz
    simp [b_row_of, hz, optT]
  | some r =>
    rw [hf] at hz
    simp [b_row_of, hz, optT]
theorem giving (H : HH P X) (m : Mod) (hm : ∀ r ∈ m.rows, r.ok) (w : W) (hw : gdW w = true) (k : Nat) : callF P (k + 1) X.giving [m.T, .str w] = .ok (.tmp (optT Row.T (givOf m w))) := by
  rw [call_py H.giving rfl]
  obtain ⟨z, hz⟩ := forR_find m.rows Row.T (fun r => r.isGiv && r.givW == w) (i := 2) (b := exs P.C (callF P k) P.sub [.ite (.and2 (.cmp .isin (.ix (.loc 2) (.int 0)) (.tup [(.str [103, 105, 118, 101]), (.str [112, 97, 115, 115])])) (.cmp .eq (.ix (.loc 2) (.neg (.int 1))) (.loc 1))) [.ret (.loc 2)] []]) [.val m.T, .val (.str w), .un] (by simp) fun r hr => by
    have := hm r hr
    cases r with
    | give o n =>
      have g := wordW_gd this.2
      by_cases c : n = w <;> simp [Row.isGiv, Row.givW, hw, g, c]
    | pass a b c =>
      have g := wordW_gd this.2.2
      by_cases c : c = w <;> simp [Row.isGiv, Row.givW, hw, g, c]
    | _ => simp [Row.isGiv]
  unfold givOf
  simp only [Mod.T] at hz ⊢
  cases hf : m.rows.find? fun r => r.isGiv && r.givW == w with
  | none =>
    rw [hf] at hz
    simp [b_giving, hz, optT]
  | some r =>
    rw [hf] at hz
    simp [b_giving, hz, optT]
end M
set_option Elab.async false
set_option linter.all false
set_option autoImplicit false
set_option maxRecDepth 100000
namespace M
open Py
variable {P : Prg} {X : Ix}
inductive HR where
  | home (m o : W) | missing | ringed
  deriving DecidableEq
abbrev pairT (q : W × W) : T := .tup [.str q.1, .str q.2]
def hgF : Nat → Pg → List (W × W) → W → W → Option HR
  | 0, _, _, _, _ => none
  | n + 1, p, met, pl, nm => if (pl, nm) ∈ met then some .ringed else match modOf p pl with
    | none => some .missing
    | some m => match givOf m nm with
      | none => some .missing
      | some (.give o _) => (match rowOf m o with
        | some (.set _ _) => some (.home pl o)
        | some (.take m2 n2 _) => hgF n p (met ++ [(pl, nm)]) m2 n2
        | _ => none)
      | some (.pass m2 n2 _) => hgF n p (met ++ [(pl, nm)]) m2 n2
      | _ => none
@[simp] theorem goods_pairs : ∀ (n : Nat) (l : List (W × W)), (∀ q ∈ l, gdW q.1 = true ∧ gdW q.2 = true) → goods (n + 1) (l.map pairT) = true
  | n, [], _ => by simp
  | n, q :: l, h => by
    have := h q (List.mem_cons_self ..)
    have := goods_pairs n l fun w hw => h w (List.mem_cons_of_mem _ hw)
    simp [*]
@[simp] theorem any_pairs (a b : W) : ∀ l : List (W × W), ((l.map pairT).any fun z => eqT z (pairT (a, b))) = decide ((a, b) ∈ l)
  | [] => by simp
  | (x, y) :: r => by
    have := any_pairs a b r
    by_cases h : x = a ∧ y = b
    · simp [h.1, h.2]
    · have h' : ¬ (a = x ∧ b = y) := fun z => h ⟨z.1.symm, z.2.symm⟩
      simp only [List.map_cons, List.any_cons, this, List.mem_cons, Prod.mk.injEq, h', false_or]
      have : eqT (pairT (x, y)) (pairT (a, b)) = false := by
        by_cases h1 : x = a
        · have h2 : ¬ y = b := fun z => h ⟨h1, z⟩
          simp [h1, h2]
        · simp [h1]
      rw [this]
      simp
theorem modOf_mem {p : Pg} {w : W} {m : Mod} (h : modOf p w = some m) : m ∈ p ∧ m.nm = w := by
  unfold modOf at h
  refine ⟨List.mem_of_find?_eq_some h, ?_⟩
  have := List.find?_some h
  simpa using this
theorem givOf_mem {m : Mod} {w : W} {r : Row} (h : givOf m w = some r) : r ∈ m.rows ∧ r.isGiv = true ∧ r.givW = w := by
  unfold givOf at h
  refine ⟨List.mem_of_find?_eq_some h, ?_⟩
  have := List.find?_some h
  simpa using this
theorem rowOf_mem {m : Mod} {w : W} {r : Row} (h : rowOf m w = some r) : r ∈ m.rows ∧ r.isOwn = true ∧ r.ownW = w := by
  unfold rowOf at h
  refine ⟨List.mem_of_find?_eq_some h, ?_⟩
  have := List.find?_some h
  simpa using this
def PgOk (p : Pg) : Prop := ∀ m ∈ p, wordW m.nm = true ∧ ∀ r ∈ m.rows, r.ok
theorem PgGood.ok {p : Pg} (h : PgGood p) : PgOk p := fun m hm => ⟨(h.mods m hm).nm, (h.mods m hm).rows⟩
theorem mod_of (H : HH P X) {p : Pg} (hp : PgOk p) {w : W} (hw : gdW w = true) (k : Nat) : callF P (k + 1) X.module_of [pgT p, .str w] = .ok (.tmp (optT Mod.T (modOf p w))) :=
  module_of H p (fun m hm => (wordW_gd (hp m hm).1).2.1) w hw k
def hgOut (X : Ix) : HR → Py.Env → SRes
  | .home m o, ρ => .ret (.tmp (.tup [.str m, .str o])) ρ
  | .missing, ρ => .exc X.xMissing ρ
  | .ringed, ρ => .exc X.xRinged ρ
def hgRes (X : Ix) : HR → CRes
  | .home m o => .ok (.tmp (.tup [.str m, .str o]))
  | .missing => .exc X.xMissing
  | .ringed => .exc X.xRinged
@[simp] theorem pureT_mod (m : Mod) : pureT m.T = true := by
  simp only [Mod.T, pureT_tup, pureTs_cons, pureT_str, pureTs_nil, Bool.and_true, Bool.true_and]
  induction m.rows with
  | nil => rfl
  | cons r rs ih => cases r <;> simp [ih]
@[simp] theorem pureT_row (r : Row) : pureT r.T = true := by cases r <;> simp
@[simp] theorem pureT_om (o : Option Mod) : pureT (optT Mod.T o) = true := by cases o <;> simp [optT]
@[simp] theorem pureT_or (o : Option Row) : pureT (optT Row.T o) = true := by cases o <;> simp [optT]
theorem whl_true (b : List Stm) (C : List T) (call : Nat → List T → CRes) (sub : Nat → Nat → Bool) (n : Nat) (ρ : Py.Env) : whlR (.bl true) b C call sub (n + 1) ρ = sseq (exs C call sub b ρ) (whlR (.bl true) b C call sub n) := by
  unfold whlR
  conv => lhs; unfold whlGo
  simp only [t_bl, sseq]
  all_goals (cases exs C call sub b ρ <;> rfl)
theorem hg_loop (H : HH P X) {p : Pg} (hp : PgOk p) (k : Nat) : ∀ (n fuel : Nat) (met : List (W × W)) (pl nm : W) (x4 x5 x6 : Sl) (r : HR), hgF n p met pl nm = some r → n ≤ fuel → met.length + n ≤ 1000 → gdW pl = true → gdW nm = true → (∀ q ∈ met, gdW q.1 = true ∧ gdW q.2 = true) →
    ∃ ρ', whlR (.bl true) [.ite (.cmp .isin (.tup [(.loc 1), (.loc 2)]) (.loc 3)) [.rse X.xRinged] [], .exp (.m1 .append (.loc 3) (.tup [(.loc 1), (.loc 2)])), .asg 4 (.call X.module_of [(.loc 0), (.loc 1)]), .asg 5 (.ife (.isn true (.loc 4)) (.call X.giving [(.loc 4), (.loc 2)]) .non), .ite (.isn false (.loc 5)) [.rse X.xMissing] [], .ite (.cmp .eq (.ix (.loc 5) (.int 0)) (.str [103, 105, 118, 101])) [.asg 6 (.call X.row_of [(.loc 4), (.ix (.loc 5) (.int 1))]), .ite (.cmp .eq (.ix (.loc 6) (.int 0)) (.str [115, 101, 116])) [.ret (.tup [(.loc 1), (.ix (.loc 5) (.int 1))])] [], .asg 5 (.loc 6)] [], .asg 1 (.ix (.loc 5) (.int 1)), .asg 2 (.ix (.loc 5) (.int 2))] P.C (callF P (k + 1)) P.sub fuel
      [.val (pgT p), .val (.str pl), .val (.str nm), .own (.lst (met.map pairT)), x4, x5, x6] = hgOut X r ρ' := by
  intro n
  induction n with
  | zero =>
    intro fuel met pl nm x4 x5 x6 r h
    cases h
  | succ n ih =>
    intro fuel met pl nm x4 x5 x6 r h hf hc g1 g2 gm
    obtain ⟨fuel, rfl⟩ : ∃ j, fuel = j + 1 := ⟨fuel - 1, by omega⟩
    rw [whl_true]
    have gp := goods_pairs 59 met gm
    have gq : ∀ q ∈ met ++ [(pl, nm)], gdW q.1 = true ∧ gdW q.2 = true := fun q hq => by
      rcases List.mem_append.mp hq with h | h
      · exact gm q h
      · simp only [List.mem_singleton] at h
        rw [h]
        exact ⟨g1, g2⟩
    have ap := any_pairs pl nm met
    have mo := mod_of H hp g1 k
    simp only [hgF] at h
    by_cases hm : (pl, nm) ∈ met
    · rw [if_pos hm] at h
      cases h
      simp only [decide_eq_true hm] at ap
      simp [gp, g1, g2, ap, hgOut]
    · rw [if_neg hm] at h
      simp only [decide_eq_false hm] at ap
      have hcap : met.length < 1000000 := by omega
      cases h1 : modOf p pl with
      | none =>
        rw [h1] at h mo
        cases h
        simp [gp, g1, g2, ap, hcap, mo, optT, hgOut]
      | some m =>
        rw [h1] at h mo
        obtain ⟨mm, rfl⟩ := modOf_mem h1
        have mr := (hp m mm).2
        have gi := giving H m mr nm g2 k
        cases h2 : givOf m nm with
        | none =>
          rw [h2] at gi
          simp only [h2] at h
          cases h
          simp [optT, Mod.T] at mo gi
          simp [gp, g1, g2, ap, hcap, mo, optT, gi, Mod.T, hgOut]
        | some gr =>
          rw [h2] at gi
          obtain ⟨gm1, gm2, gm3⟩ := givOf_mem h2
          have gok := mr gr gm1
          simp only [h2] at h
          cases gr with
          | give o n2 =>
            have go := wordW_gd gok.1
            have ro := row_of H m mr o go.2.1 k
            cases h3 : rowOf m o with
            | none =>
              simp only [h3] at h
              cases h
            | some r2 =>
              rw [h3] at ro
              obtain ⟨rm1, rm2, rm3⟩ := rowOf_mem h3
              have rok := mr r2 rm1
              cases r2 with
              | set o2 e =>
                simp only [h3] at h
                cases h
                simp [optT, Mod.T] at mo gi ro
                simp [gp, g1, g2, ap, hcap, mo, optT, gi, ro, Mod.T, hgOut]
              | take m2 n3 o2 =>
                simp only [h3] at h
                have w1 := wordW_gd rok.1
                have w2 := wordW_gd rok.2.1
                obtain ⟨ρ', e⟩ := ih fuel (met ++ [(m.nm, nm)]) m2 n3 (.val m.T) (.val (Row.take m2 n3 o2).T) (.val (Row.take m2 n3 o2).T) r h (by omega) (by simp; omega) w1.2.1 w2.2.1 gq
                refine ⟨ρ', ?_⟩
                simp [optT, Mod.T] at mo gi ro e
                simp [gp, g1, g2, ap, hcap, mo, optT, gi, ro, Mod.T, e]
              | _ => simp [Row.isOwn] at rm2
          | pass m2 n3 n4 =>
            have w1 := wordW_gd gok.1
            have w2 := wordW_gd gok.2.1
            obtain ⟨ρ', e⟩ := ih fuel (met ++ [(m.nm, nm)]) m2 n3 (.val m.T) (.val (Row.pass m2 n3 n4).T) x6 r h (by omega) (by simp; omega) w1.2.1 w2.2.1 gq
            refine ⟨ρ', ?_⟩
            simp [optT, Mod.T] at mo gi e
            simp [gp, g1, g2, ap, hcap, mo, optT, gi, Mod.T, e]
          | _ => simp [Row.isGiv] at gm2
theorem home_of_given (H : HH P X) {p : Pg} (hp : PgOk p) {pl nm : W} {n : Nat} {r : HR} (h : hgF n p [] pl nm = some r) (hn : n ≤ 1000) (g1 : gdW pl = true) (g2 : gdW nm = true) (k : Nat) : callF P (k + 2) X.home_of_given [pgT p, .str pl, .str nm] = hgRes X r := by
  rw [call_py H.home_of_given rfl]
  obtain ⟨ρ', e⟩ := hg_loop H hp k n whlFuel [] pl nm .un .un .un r h (by unfold whlFuel; omega) (by simp; omega) g1 g2 (fun _ h => by cases h)
  simp only [List.map_nil] at e
  simp [b_home_of_given, e]
  cases r <;> simp [hgOut, hgRes]
end M
set_option Elab.async false
set_option linter.all false
set_option autoImplicit false
set_option maxRecDepth 100000
namespace Py
theorem forR_err {α : Type} (xs : List α) (F : α → T) (f : α → Option Nat) {i : Nat} {b : Env → SRes} (ρ : Env) (hi : i < ρ.length)
    (h : ∀ x ∈ xs, b (ρ.set i (.val (F x))) = match f x with
      | none => .next (ρ.set i (.val (F x)))
      | some c => .exc c (ρ.set i (.val (F x)))) :
    ∃ z, forR (xs.map F) (.one i) b ρ = match xs.findSome? f with
      | some c => .exc c (ρ.set i z)
      | none => .next (ρ.set i z) := by
  have key : ∀ (ys : List α), (∀ x ∈ ys, x ∈ xs) → ∀ y : Sl, ∃ z, forR (ys.map F) (.one i) b (ρ.set i y) = match ys.findSome? f with
      | some c => .exc c (ρ.set i z)
      | none => .next (ρ.set i z) := by
    intro ys
    induction ys with
    | nil => exact fun _ y => ⟨y, rfl⟩
    | cons x ys ih =>
      intro hm y
      have hx := h x (hm x (List.mem_cons_self ..))
      obtain ⟨z, hz⟩ := ih (fun w hw => hm w (List.mem_cons_of_mem _ hw)) (.val (F x))
      rw [List.map_cons]
      cases hp : f x with
      | some c =>
        rw [hp] at hx
        refine ⟨.val (F x), ?_⟩
        rw [forR_cons]
        simp only [put_one, List.length_set, hi, if_true, List.set_set, sliftP, slift]
        rw [hx]
        simp [hp, sseq]
      | none =>
        rw [hp] at hx
        refine ⟨z, ?_⟩
        rw [forR_cons]
        simp only [put_one, List.length_set, hi, if_true, List.set_set, sliftP, slift]
        rw [hx]
        simp only [sseq]
        rw [hz]
        simp [hp]
  obtain ⟨z, hz⟩ := key xs (fun x hx => hx) ρ[i]
  refine ⟨z, ?_⟩
  have e0 : ρ.set i ρ[i] = ρ := by simp
  rw [e0] at hz
  exact hz
theorem nodup_le {α : Type} [DecidableEq α] : ∀ (l L : List α), l.Nodup → (∀ x ∈ l, x ∈ L) → l.length ≤ L.length
  | [], _, _, _ => Nat.zero_le _
  | a :: l, L, hn, hs => by
    have ha := hs a (List.mem_cons_self ..)
    have h1 : (L.erase a).length = L.length - 1 := List.length_erase_of_mem ha
    have h2 : 0 < L.length := List.length_pos_of_mem ha
    have hn' := List.nodup_cons.mp hn
    have := nodup_le l (L.erase a) hn'.2 fun x hx => by
      have ne : x ≠ a := fun z => hn'.1 (z ▸ hx)
      exact (List.mem_erase_of_ne ne).mpr (hs x (List.mem_cons_of_mem _ hx))
    simp only [List.length_cons]
    omega
end Py
namespace M
open Py
variable {P : Prg} {X : Ix}
def givs (p : Pg) : List (W × W) := p.flatMap fun m => (givN m.rows).map fun n => (m.nm, n)
theorem givs_len (p : Pg) : (givs p).length ≤ rowsP p := by
  induction p with
  | nil => exact Nat.le_refl _
  | cons m p ih =>
    have : (givN m.rows).length ≤ m.rows.length := by simp [givN, List.length_filter_le]
    simp only [givs, rowsP, List.flatMap_cons, List.length_append, List.length_map, List.map_cons, List.sum_cons] at ih ⊢
    omega
theorem givOf_giv {m : Mod} {w : W} {r : Row} (h : givOf m w = some r) : w ∈ givN m.rows := by
  obtain ⟨h1, h2, h3⟩ := givOf_mem h
  exact List.mem_map.mpr ⟨r, List.mem_filter.mpr ⟨h1, h2⟩, h3⟩
theorem rowOf_own {m : Mod} {w : W} (h : w ∈ ownN m.rows) : ∃ r, rowOf m w = some r := by
  obtain ⟨r, hr, hw⟩ := List.mem_map.mp h
  obtain ⟨h1, h2⟩ := List.mem_filter.mp hr
  cases e : rowOf m w with
  | some r => exact ⟨r, rfl⟩
  | none =>
    unfold rowOf at e
    rw [List.find?_eq_none] at e
    have := e r h1
    simp [h2, hw] at this
def PgUse (p : Pg) : Prop := ∀ m ∈ p, ∀ n ∈ usedN m.rows, n ∈ ownN m.rows
theorem PgGood.use {p : Pg} (h : PgGood p) : PgUse p := fun m hm => (h.mods m hm).used
theorem hgF_total {p : Pg} (hu : PgUse p) : ∀ (n : Nat) (met : List (W × W)) (pl nm : W), met.Nodup → (∀ q ∈ met, q ∈ givs p) → (givs p).length + 2 ≤ n + met.length → ∃ r, hgF n p met pl nm = some r := by
  intro n
  induction n with
  | zero =>
    intro met pl nm h1 h2 h3
    have := nodup_le met (givs p) h1 h2
    omega
  | succ n ih =>
    intro met pl nm h1 h2 h3
    simp only [hgF]
    by_cases hm : (pl, nm) ∈ met
    · rw [if_pos hm]
      exact ⟨_, rfl⟩
    · rw [if_neg hm]
      cases e1 : modOf p pl with
      | none => exact ⟨_, rfl⟩
      | some m =>
        obtain ⟨mm, rfl⟩ := modOf_mem e1
        cases e2 : givOf m nm with
        | none => simp [e2]
        | some gr =>
          have hg : (m.nm, nm) ∈ givs p := List.mem_flatMap.mpr ⟨m, mm, List.mem_map.mpr ⟨nm, givOf_giv e2, rfl⟩⟩
          have next : ∀ a b, ∃ r, hgF n p (met ++ [(m.nm, nm)]) a b = some r := fun a b => ih _ a b (by
              rw [List.nodup_append]
              refine ⟨h1, by simp, fun x hx y hy => ?_⟩
              simp only [List.mem_singleton] at hy
              exact fun z => hm (by rw [← hy, ← z]; exact hx)) (fun q hq => by
              rcases List.mem_append.mp hq with h | h
              · exact h2 q h
              · simp only [List.mem_singleton] at h
                rw [h]
                exact hg) (by simp; omega)
          obtain ⟨g1, g2, g3⟩ := givOf_mem e2
          cases gr with
          | give o n2 =>
            have : o ∈ usedN m.rows := List.mem_flatMap.mpr ⟨_, g1, by simp [Row.used]⟩
            obtain ⟨r2, e3⟩ := rowOf_own (hu m mm o this)
            obtain ⟨f1, f2, f3⟩ := rowOf_mem e3
            simp only [e2, e3]
            cases r2 with
            | set o2 e => exact ⟨_, rfl⟩
            | take a b c => exact next a b
            | _ => simp [Row.isOwn] at f2
          | pass a b c =>
            simp only [e2]
            exact next a b
          | _ => simp [Row.isGiv] at g2
def hg (p : Pg) (pl nm : W) : HR := (hgF 62 p [] pl nm).getD .ringed
theorem hg_some {p : Pg} (h : PgGood p) (pl nm : W) : hgF 62 p [] pl nm = some (hg p pl nm) := by
  have h1 := givs_len p
  have h2 := h.rows
  obtain ⟨r, e⟩ := hgF_total h.use 62 [] pl nm (by simp) (fun _ h => by cases h) (by simp; omega)
  unfold hg
  rw [e]
  rfl
theorem hofg (H : HH P X) {p : Pg} (hp : PgGood p) {pl nm : W} (g1 : gdW pl = true) (g2 : gdW nm = true) (k : Nat) : callF P (k + 2) X.home_of_given [pgT p, .str pl, .str nm] = hgRes X (hg p pl nm) :=
  home_of_given H hp.ok (hg_some hp pl nm) (by omega) g1 g2 k
def rowErr (X : Ix) (p : Pg) : Row → Option Nat
  | .run m => if (modOf p m).isNone then some X.xMissing else none
  | .take m n _ => (match hg p m n with
    | .home _ _ => none
    | .missing => some X.xMissing
    | .ringed => some X.xRinged)
  | .pass m n _ => (match hg p m n with
    | .home _ _ => none
    | .missing => some X.xMissing
    | .ringed => some X.xRinged)
  | _ => none
def pgErr (X : Ix) (p : Pg) : Option Nat := p.findSome? fun m => m.rows.findSome? (rowErr X p)
@[simp] theorem isN_mod (m : Mod) : isNonT m.T = false := by simp [Mod.T]
@[simp] theorem isN_om (o : Option Mod) : isNonT (optT Mod.T o) = o.isNone := by cases o <;> simp [optT]
theorem wl {w : W} (h : wordW w = true) : w.length ≤ 1000000 ∧ gdW w = true := by
  have := wordW_gd h
  exact ⟨by omega, this.2.1⟩
theorem okT_row {r : Row} (h : r.ok) : okT r.T = true := by
  cases r with
  | take m n o => simp [wl h.1, wl h.2.1, wl h.2.2]
  | pass m n o => simp [wl h.1, wl h.2.1, wl h.2.2]
  | give m n => simp [wl h.1, wl h.2]
  | set o e => simp [wl h.1, E.okT_of h.2.1]
  | run m => simp [wl (show wordW m = true from h)]
  | note e => simp [E.okT_of (show e.good from h).1]
theorem okT_mod {m : Mod} (h : m.good) : okT m.T = true := by
  have h1 := wordW_gd h.nm
  have h2 := h.len
  have h3 : okTs (m.rows.map Row.T) = true := okTs_of fun t ht => by
    obtain ⟨r, hr, rfl⟩ := List.mem_map.mp ht
    exact okT_row (h.rows r hr)
  simp [Mod.T, h1, h3]
  omega
theorem okT_pg {p : Pg} (h : PgGood p) : okT (pgT p) = true := by
  have h2 := h.len
  have h3 : okTs (p.map Mod.T) = true := okTs_of fun t ht => by
    obtain ⟨r, hr, rfl⟩ := List.mem_map.mp ht
    exact okT_mod (h.mods r hr)
  simp [pgT, h3]
  omega
theorem checked (H : HH P X) {p : Pg} (hp : PgGood p) (k : Nat) : callF P (k + 22) X.checked [pgT p] = match pgErr X p with
    | none => .ok (.tmp (pgT p))
    | some c => .exc c := by
  have lk := look H.toHC (pgT p) (okT_pg hp) k
  rw [if_pos (pgP_T.mpr hp)] at lk
  rw [call_py H.checked rfl]
  have inner : ∀ (m : Mod), m ∈ p → ∀ (x1 x2 : Sl), ∃ z, forR (m.rows.map Row.T) (.one 2) (exs P.C (callF P (k + 21)) P.sub [.ite (.and2 (.cmp .eq (.ix (.loc 2) (.int 0)) (.str [114, 117, 110])) (.isn false (.call X.module_of [(.loc 0), (.ix (.loc 2) (.int 1))]))) [.rse X.xMissing] [], .ite (.cmp .isin (.ix (.loc 2) (.int 0)) (.tup [(.str [116, 97, 107, 101]), (.str [112, 97, 115, 115])])) [.exp (.call X.home_of_given [(.loc 0), (.ix (.loc 2) (.int 1)), (.ix (.loc 2) (.int 2))])] []])
      [.val (pgT p), x1, x2] = match m.rows.findSome? (rowErr X p) with
      | some c => .exc c ([.val (pgT p), x1, x2].set 2 z)
      | none => .next ([.val (pgT p), x1, x2].set 2 z) := by
    intro m hm x1 x2
    refine forR_err m.rows Row.T (rowErr X p) [.val (pgT p), x1, x2] (by simp) fun r hr => ?_
    have rk := (hp.mods m hm).rows r hr
    cases r with
    | run a =>
      have g := wordW_gd rk
      have mo := mod_of H hp.ok g.2.1 (k + 20)
      cases e : modOf p a <;> simp [rowErr, mo, e, optT]
    | take a b c =>
      have g1 := wordW_gd rk.1
      have g2 := wordW_gd rk.2.1
      have ho := hofg H hp g1.2.1 g2.2.1 (k + 19)
      cases e : hg p a b <;> simp [rowErr, ho, e, hgRes]
    | pass a b c =>
      have g1 := wordW_gd rk.1
      have g2 := wordW_gd rk.2.1
      have ho := hofg H hp g1.2.1 g2.2.1 (k + 19)
      cases e : hg p a b <;> simp [rowErr, ho, e, hgRes]
    | _ => simp [rowErr]
  have outer : ∀ (ms : Pg), (∀ m ∈ ms, m ∈ p) → ∀ (x1 x2 : Sl), ∃ z1 z2, forR (ms.map Mod.T) (.one 1) (exs P.C (callF P (k + 21)) P.sub [.for (.one 2) .seq [(.ix (.loc 1) (.int 1))] [.ite (.and2 (.cmp .eq (.ix (.loc 2) (.int 0)) (.str [114, 117, 110])) (.isn false (.call X.module_of [(.loc 0), (.ix (.loc 2) (.int 1))]))) [.rse X.xMissing] [], .ite (.cmp .isin (.ix (.loc 2) (.int 0)) (.tup [(.str [116, 97, 107, 101]), (.str [112, 97, 115, 115])])) [.exp (.call X.home_of_given [(.loc 0), (.ix (.loc 2) (.int 1)), (.ix (.loc 2) (.int 2))])] []]])
      [.val (pgT p), x1, x2] = match ms.findSome? fun m => m.rows.findSome? (rowErr X p) with
      | some c => .exc c [.val (pgT p), z1, z2]
      | none => .next [.val (pgT p), z1, z2] := by
    intro ms
    induction ms with
    | nil => exact fun _ x1 x2 => ⟨x1, x2, rfl⟩
    | cons m ms ih =>
      intro hm x1 x2
      obtain ⟨z, hz⟩ := inner m (hm m (List.mem_cons_self ..)) (.val m.T) x2
      simp only [Mod.T] at hz
      cases e : m.rows.findSome? (rowErr X p) with
      | some c =>
        rw [e] at hz
        refine ⟨.val m.T, z, ?_⟩
        rw [List.map_cons, forR_cons]
        simp at hz
        simp [Mod.T, hz, e]
      | none =>
        rw [e] at hz
        obtain ⟨z1, z2, e2⟩ := ih (fun m hm' => hm m (List.mem_cons_of_mem _ hm')) (.val m.T) z
        refine ⟨z1, z2, ?_⟩
        rw [List.map_cons, forR_cons]
        simp at hz
        simp [Mod.T] at e2
        simp [Mod.T, hz, e, e2]
  obtain ⟨z1, z2, e⟩ := outer p (fun m hm => hm) .un .un
  unfold pgErr
  simp only [pgT] at lk e ⊢
  cases hh : p.findSome? fun m => m.rows.findSome? (rowErr X p) with
  | none =>
    rw [hh] at e
    simp [b_checked, lk, e]
  | some c =>
    rw [hh] at e
    simp [b_checked, lk, e]
theorem checked_bad (H : HH P X) {t : T} (ho : okT t = true) (h : ¬ pgP t) (k : Nat) : callF P (k + 22) X.checked [t] = .exc X.xBadProgram := by
  have lk := look H.toHC t ho k
  rw [if_neg h] at lk
  rw [call_py H.checked rfl]
  simp [b_checked, lk]
end M
set_option Elab.async false
set_option linter.all false
set_option autoImplicit false
set_option maxRecDepth 100000
namespace M
open Py
variable {P : Prg} {X : Ix}
def mName (k : Nat) : W := [109, 97 + k]
def tName (j : Nat) : W := [116, 120 + j]
def sName (j : Nat) : W := [115, 119 + j]
def gW (i : Nat) : W := [103, 97 + i]
abbrev pW : W := [112]
abbrev gaW : W := [103, 97]
abbrev swW : W := [115, 119]
def gives (k : Nat) : List W := (List.range (3 + k % 2)).map gW ++ [pW]
theorem mN {o : Nat} (h : o < 6) : atI [97, 98, 99, 100, 101, 102] (o : Int) = some (97 + o) := by
  have : o = 0 ∨ o = 1 ∨ o = 2 ∨ o = 3 ∨ o = 4 ∨ o = 5 := by omega
  rcases this with rfl | rfl | rfl | rfl | rfl | rfl <;> rfl
theorem tN {o : Nat} (h : o < 3) : atI [120, 121, 122] (o : Int) = some (120 + o) := by
  have : o = 0 ∨ o = 1 ∨ o = 2 := by omega
  rcases this with rfl | rfl | rfl <;> rfl
theorem sN {o : Nat} (h : o < 4) : atI [119, 120, 121, 122] (o : Int) = some (119 + o) := by
  have : o = 0 ∨ o = 1 ∨ o = 2 ∨ o = 3 := by omega
  rcases this with rfl | rfl | rfl | rfl <;> rfl
theorem mW {k : Nat} (h : k < 6) : wordW (mName k) = true := by
  have : k = 0 ∨ k = 1 ∨ k = 2 ∨ k = 3 ∨ k = 4 ∨ k = 5 := by omega
  rcases this with rfl | rfl | rfl | rfl | rfl | rfl <;> decide
theorem tW {k : Nat} (h : k < 3) : wordW (tName k) = true := by
  have : k = 0 ∨ k = 1 ∨ k = 2 := by omega
  rcases this with rfl | rfl | rfl <;> decide
theorem sW {k : Nat} (h : k < 4) : wordW (sName k) = true := by
  have : k = 0 ∨ k = 1 ∨ k = 2 ∨ k = 3 := by omega
  rcases this with rfl | rfl | rfl | rfl <;> decide
theorem gives_w (k : Nat) : ∀ w ∈ gives k, wordW w = true := by
  have : k % 2 = 0 ∨ k % 2 = 1 := by omega
  unfold gives
  rcases this with h | h <;> rw [h] <;> decide
structure HGn (P : Prg) (X : Ix) : Prop extends HG P X where
  law_gives : P.fns[X.law_gives]? = some (F_law_gives X)
  law_module : P.fns[X.law_module]? = some (F_law_module X)
  law_filled : P.fns[X.law_filled]? = some (F_law_filled X)
  law_program : P.fns[X.law_program]? = some (F_law_program X)
theorem law_gives (H : HGn P X) (k j : Nat) : callF P (j + 1) X.law_gives [.int k] = .ok (.new (.lst ((gives k).map T.str))) := by
  rw [call_py H.law_gives rfl]
  have : (k : Int) % 2 = 0 ∧ k % 2 = 0 ∨ (k : Int) % 2 = 1 ∧ k % 2 = 1 := by omega
  rcases this with ⟨h1, h2⟩ | ⟨h1, h2⟩
  · simp [b_law_gives, h1, cut, sIx, gives, h2, gW, List.range_succ]
  · simp [b_law_gives, h1, cut, sIx, gives, h2, gW, List.range_succ]
theorem range_nat (n : Nat) : rangeT 0 (n : Int) = (List.range n).map fun j => T.int (j : Nat) := by
  unfold rangeT
  simp
end M
set_option Elab.async false
set_option linter.all false
set_option autoImplicit false
set_option maxRecDepth 100000
namespace Py
@[simp] theorem pureTs_app : ∀ a b : List T, pureTs (a ++ b) = (pureTs a && pureTs b)
  | [], b => by simp
  | t :: a, b => by simp [pureTs_app a b, Bool.and_assoc]
def slF : Option Sl → Option T
  | some (.own (.lst ts)) => if pureTs ts then some (.lst ts) else none
  | _ => none
@[simp] theorem slF_own (ts : List T) : slF (some (.own (.lst ts))) = if pureTs ts then some (.lst ts) else none := (rfl)
@[simp] theorem refT_slot' (i : Nat) (ρ : Env) : refT (.slot i) ρ = slF ρ[i]? := by
  simp only [refT, slF] <;> (split <;> simp_all)
@[simp] theorem refT_new' (ts : List T) (ρ : Env) : refT (.new (.lst ts)) ρ = if pureTs ts then some (.lst ts) else none := (rfl)
@[simp] theorem refOk_slot (i j : Nat) : refOk (.slot i) j = (i != j) := (rfl)
@[simp] theorem refOk_new (t : T) (j : Nat) : refOk (.new t) j = true := (rfl)
@[simp] theorem refSet_slot (i : Nat) (t : T) (ρ : Env) : refSet (.slot i) t ρ = ρ.set i (.own t) := (rfl)
@[simp] theorem refSet_new (u t : T) (ρ : Env) : refSet (.new u) t ρ = ρ := (rfl)
@[simp] theorem calGo_tmp (call : Nat → List T → CRes) (f : Nat) (ta tb : T) (rc : R) (j : Nat) (ρ : Env) : calGo call f (.tmp ta) (.tmp tb) rc j ρ = if !(pureT ta && pureT tb) then .stuck else sliftP (refT rc ρ) fun tc => sliftP (refT (.slot j) ρ) fun td => if refOk rc j then calE (call f [ta, tb, tc, td]) rc j ρ else .stuck := (rfl)
@[simp] theorem calE_tup (c d : List T) (rc : R) (j : Nat) (ρ : Env) : calE (.ok (.tmp (.tup [.lst c, .lst d]))) rc j ρ = if pureTs c && pureTs d then .next ((refSet rc (.lst c) ρ).set j (.own (.lst d))) else .stuck := (rfl)
@[simp] theorem resR_next (ρ : Env) : resR (.next ρ) = outs2 ρ := (rfl)
@[simp] theorem resR_ret (ρ : Env) : resR (.ret (.tmp .non) ρ) = outs2 ρ := (rfl)
@[simp] theorem outs2_own (a b : Sl) (c d : List T) (ρ : Env) : outs2 (a :: b :: .own (.lst c) :: .own (.lst d) :: ρ) = if pureTs c && pureTs d then .ok (.tmp (.tup [.lst c, .lst d])) else .stuck := (rfl)
@[simp] theorem initR_4 (ns : Nat) (a b c d : T) : initR ns [a, b, c, d] = .val a :: .val b :: .own c :: .own d :: List.replicate (ns - 4) .un := (rfl)
end Py
namespace M
open Py
variable {P : Prg} {X : Ix}
structure HO (P : Prg) (X : Ix) : Prop extends HH P X where
  look_module : P.fns[X.look_module]? = some (F_look_module X)
  visited : P.fns[X.visited]? = some (F_visited X)
  order_of : P.fns[X.order_of]? = some (F_order_of X)
def modT (p : Pg) : T → Option Mod
  | .str w => if wordW w then modOf p w else none
  | _ => none
theorem look_module_ok (H : HH P X) (hl : P.fns[X.look_module]? = some (F_look_module X)) {p : Pg} (hp : PgGood p) (he : pgErr X p = none) {t : T} (ho : okT t = true) (k : Nat) : callF P (k + 23) X.look_module [pgT p, t] = if (modT p t).isSome then .ok (.tmp .non) else .exc X.xNoModule := by
  have ck := checked H hp k
  rw [he] at ck
  simp only at ck
  rw [call_py hl rfl]
  have hw := is_word H.toHX t ho (k + 21)
  cases t with
  | str w =>
    cases hb : wordW w with
    | false =>
      have hb' : wordB (.str w) = false := hb
      simp [b_look_module, ck, hw, hb', modT, hb]
    | true =>
      have hb' : wordB (.str w) = true := hb
      have g := wordW_gd hb
      have mo := mod_of H hp.ok g.2.1 (k + 21)
      cases hm : modOf p w <;> simp [b_look_module, ck, hw, hb', modT, hb, mo, hm, optT]
  | _ => simp [b_look_module, ck, hw, wordB, modT]
theorem look_module_err (H : HH P X) (hl : P.fns[X.look_module]? = some (F_look_module X)) {p : Pg} (hp : PgGood p) {c : Nat} (he : pgErr X p = some c) {t : T} (k : Nat) : callF P (k + 23) X.look_module [pgT p, t] = .exc c := by
  have ck := checked H hp k
  rw [he] at ck
  simp only at ck
  rw [call_py hl rfl]
  simp [b_look_module, ck]
theorem look_module_bad (H : HH P X) (hl : P.fns[X.look_module]? = some (F_look_module X)) {q t : T} (ho : okT q = true) (h : ¬ pgP q) (k : Nat) : callF P (k + 23) X.look_module [q, t] = .exc X.xBadProgram := by
  rw [call_py hl rfl]
  simp [b_look_module, checked_bad H ho h]
def Row.wants : Row → Option W
  | .take m _ _ => some m | .pass m _ _ => some m | .run m => some m | _ => none
abbrev VS := List W × List W
def visRows (f : W → VS → Option VS) : List Row → VS → Option VS
  | [], s => some s
  | r :: rs, s => match r.wants with
    | none => visRows f rs s
    | some w => (f w s).bind (visRows f rs)
def visF (p : Pg) : Nat → W → VS → Option VS
  | 0, _, _ => none
  | n + 1, pl, s => if pl ∈ s.1 then some s else match modOf p pl with
    | none => none
    | some m => (visRows (visF p n) m.rows (s.1 ++ [pl], s.2)).map fun s' => (s'.1, s'.2 ++ [pl])
abbrev tstrs (l : List W) : List T := l.map T.str
def vsT (s : VS) : T := .tup [.lst (tstrs s.1), .lst (tstrs s.2)]
theorem goods_gd : ∀ (n : Nat) (l : List W), (∀ w ∈ l, gdW w = true) → goods n (tstrs l) = true
  | n, [], _ => by simp
  | n, w :: ws, h => by
    have := h w (List.mem_cons_self ..)
    have := goods_gd n ws fun w hw => h w (List.mem_cons_of_mem _ hw)
    simp [*]
@[simp] theorem pureT_pg (p : Pg) : pureT (pgT p) = true := by
  simp only [pgT, pureT_tup]
  induction p with
  | nil => rfl
  | cons m p ih => simp [ih]
theorem visF_rel {p : Pg} (R : VS → VS → Prop) (rf : ∀ s, R s s) (tr : ∀ a b c, R a b → R b c → R a c) (a1 : ∀ (s : VS) (pl : W) (m : Mod), pl ∉ s.1 → modOf p pl = some m → R s (s.1 ++ [pl], s.2))
    (a2 : ∀ (s : VS) (pl : W) (m : Mod), modOf p pl = some m → R s (s.1, s.2 ++ [pl])) : ∀ (n : Nat) (pl : W) (s s' : VS), visF p n pl s = some s' → R s s' := by
  intro n
  induction n with
  | zero =>
    intro pl s s' h
    cases h
  | succ n ih =>
    intro pl s s' h
    simp only [visF] at h
    split at h
    · cases h
      exact rf _
    · rename_i hn
      split at h
      · cases h
      · rename_i m hm
        obtain ⟨s2, h2, rfl⟩ := Option.map_eq_some_iff.mp h
        have key : ∀ (rs : List Row) (s1 s2 : VS), visRows (visF p n) rs s1 = some s2 → R s1 s2 := by
          intro rs
          induction rs with
          | nil =>
            intro s1 s2 h
            cases h
            exact rf _
          | cons r rs ihr =>
            intro s1 s2 h
            simp only [visRows] at h
            split at h
            · exact ihr _ _ h
            · rename_i w hw
              obtain ⟨s3, h3, h4⟩ := Option.bind_eq_some_iff.mp h
              exact tr _ _ _ (ih w s1 s3 h3) (ihr _ _ h4)
        exact tr _ _ _ (a1 s pl m hn hm) (tr _ _ _ (key m.rows _ _ h2) (a2 s2 pl m hm))
theorem visRows_rel (R : VS → VS → Prop) (rf : ∀ s, R s s) (tr : ∀ a b c, R a b → R b c → R a c) {f : W → VS → Option VS} (hf : ∀ w s s', f w s = some s' → R s s') : ∀ (rs : List Row) (s1 s2 : VS), visRows f rs s1 = some s2 → R s1 s2 := by
  intro rs
  induction rs with
  | nil =>
    intro s1 s2 h
    cases h
    exact rf _
  | cons r rs ihr =>
    intro s1 s2 h
    simp only [visRows] at h
    split at h
    · exact ihr _ _ h
    · obtain ⟨s3, h3, h4⟩ := Option.bind_eq_some_iff.mp h
      exact tr _ _ _ (hf _ s1 s3 h3) (ihr _ _ h4)
def LenR (s s' : VS) : Prop := s.1.length ≤ s'.1.length ∧ s.2.length ≤ s'.2.length
theorem visF_len {p : Pg} {n : Nat} {pl : W} {s s' : VS} (h : visF p n pl s = some s') : LenR s s' :=
  visF_rel LenR (fun s => ⟨Nat.le_refl _, Nat.le_refl _⟩) (fun a b c h g => ⟨Nat.le_trans h.1 g.1, Nat.le_trans h.2 g.2⟩) (fun s pl m _ _ => ⟨by simp, Nat.le_refl _⟩) (fun s pl m _ => ⟨Nat.le_refl _, by simp⟩) n pl s s' h
def GdR (s s' : VS) : Prop := (∀ w ∈ s.1, gdW w = true) → ∀ w ∈ s'.1, gdW w = true
theorem visF_gd {p : Pg} (hp : PgOk p) {n : Nat} {pl : W} {s s' : VS} (h : visF p n pl s = some s') : GdR s s' :=
  visF_rel GdR (fun s h => h) (fun a b c h g z => g (h z)) (fun s pl m _ hm h w hw => by
    rcases List.mem_append.mp hw with hw | hw
    · exact h w hw
    · simp only [List.mem_singleton] at hw
      obtain ⟨mm, e⟩ := modOf_mem hm
      rw [hw, ← e]
      exact (wordW_gd (hp m mm).1).2.1) (fun s pl m _ h => h) n pl s s' h
theorem visited (H : HO P X) {p : Pg} (hp : PgOk p) : ∀ (n k : Nat) (pl : W) (s s' : VS), visF p n pl s = some s' → gdW pl = true → (∀ w ∈ s.1, gdW w = true) → s'.1.length ≤ 1000 → s'.2.length ≤ 1000 → callF P (k + n + 1) X.visited [pgT p, .str pl, .lst (tstrs s.1), .lst (tstrs s.2)] = .ok (.tmp (vsT s')) := by
  intro n
  induction n with
  | zero =>
    intro k pl s s' h
    cases h
  | succ n ih =>
    intro k pl s s' h g1 gs l1 l2
    show callF P ((k + n + 1) + 1) X.visited _ = _
    rw [call_ref H.visited]
    have gp := goods_gd 60 s.1 gs
    simp only [visF] at h
    by_cases hm : pl ∈ s.1
    · rw [if_pos hm] at h
      cases h
      simp [b_visited, gp, g1, hm, vsT]
    · rw [if_neg hm] at h
      cases hmo : modOf p pl with
      | none =>
        rw [hmo] at h
        cases h
      | some m =>
        rw [hmo] at h
        obtain ⟨s2, h2, rfl⟩ := Option.map_eq_some_iff.mp h
        obtain ⟨mm, rfl⟩ := modOf_mem hmo
        have mo := mod_of H.toHH hp g1 (k + n)
        rw [hmo] at mo
        simp only [optT] at mo
        have rk := (hp m mm).2
        have key : ∀ (rs : List Row), (∀ r ∈ rs, r.ok) → ∀ (s1 s2 : VS) (x : Sl), visRows (visF p n) rs s1 = some s2 → (∀ w ∈ s1.1, gdW w = true) → s2.1.length ≤ 1000 → s2.2.length ≤ 1000 →
            ∃ z, forR (rs.map Row.T) (.one 4) (exs P.C (callF P (k + n + 1)) P.sub [.ite (.cmp .isin (.ix (.loc 4) (.int 0)) (.tup [(.str [116, 97, 107, 101]), (.str [112, 97, 115, 115]), (.str [114, 117, 110])])) [.cal X.visited (.loc 0) (.ix (.loc 4) (.int 1)) (.loc 2) 3] []])
              [.val (pgT p), .val (.str m.nm), .own (.lst (tstrs s1.1)), .own (.lst (tstrs s1.2)), x] = .next [.val (pgT p), .val (.str m.nm), .own (.lst (tstrs s2.1)), .own (.lst (tstrs s2.2)), z] := by
          intro rs
          induction rs with
          | nil =>
            intro _ s1 s2 x h _ _ _
            cases h
            exact ⟨x, by simp⟩
          | cons r rs ihr =>
            intro hr s1 s2 x h gs b1 b2
            simp only [visRows] at h
            have rok := hr r (List.mem_cons_self ..)
            cases hw : r.wants with
            | none =>
              rw [hw] at h
              obtain ⟨z, e⟩ := ihr (fun r hr' => hr r (List.mem_cons_of_mem _ hr')) s1 s2 (.val r.T) h gs b1 b2
              refine ⟨z, ?_⟩
              rw [List.map_cons, forR_cons]
              cases r <;> simp [Row.wants] at hw
              · simpa using e
              · simpa using e
              · simpa using e
            | some w =>
              rw [hw] at h
              obtain ⟨s3, h3, h4⟩ := Option.bind_eq_some_iff.mp h
              have ln := visRows_rel LenR (fun s => ⟨Nat.le_refl _, Nat.le_refl _⟩) (fun a b c h g => ⟨Nat.le_trans h.1 g.1, Nat.le_trans h.2 g.2⟩) (fun w s s' => visF_len) rs s3 s2 h4
              have gw : gdW w = true := by
                cases r <;> simp [Row.wants] at hw
                · rw [← hw]; exact (wordW_gd rok.1).2.1
                · rw [← hw]; exact (wordW_gd rok.1).2.1
                · rw [← hw]; exact (wordW_gd rok).2.1
              have gs3 := visF_gd hp h3 gs
              obtain ⟨z, e⟩ := ihr (fun r hr' => hr r (List.mem_cons_of_mem _ hr')) s3 s2 (.val r.T) h4 gs3 b1 b2
              have c := ih k w s1 s3 h3 gw gs (Nat.le_trans ln.1 b1) (Nat.le_trans ln.2 b2)
              refine ⟨z, ?_⟩
              rw [List.map_cons, forR_cons]
              cases r <;> simp [Row.wants] at hw
              · subst hw
                simp at e
                simp [c, vsT, e]
              · subst hw
                simp at e
                simp [c, vsT, e]
              · subst hw
                simp at e
                simp [c, vsT, e]
        have ln := visRows_rel LenR (fun s => ⟨Nat.le_refl _, Nat.le_refl _⟩) (fun a b c h g => ⟨Nat.le_trans h.1 g.1, Nat.le_trans h.2 g.2⟩) (fun w s s' => visF_len) _ _ _ h2
        have l3 : s2.2.length + 1 ≤ 1000 := by simpa using l2
        have gs1 : ∀ w ∈ (s.1 ++ [m.nm], s.2).1, gdW w = true := fun w hw => by
          rcases List.mem_append.mp hw with hw | hw
          · exact gs w hw
          · simp only [List.mem_singleton] at hw
            rw [hw]
            exact g1
        have h11 : s.1.length + 1 ≤ s2.1.length := by
          have := ln.1
          simpa using this
        have hc1 : s.1.length < 1000000 := by
          have : s2.1.length ≤ 1000 := l1
          omega
        have hc2 : s2.2.length < 1000000 := by omega
        obtain ⟨z, e⟩ := key m.rows rk _ s2 .un h2 gs1 l1 (by omega)
        simp [Mod.T] at mo e
        simp [b_visited, gp, g1, hm, hc1, mo, e, hc2, vsT]
theorem order_of (H : HO P X) {p : Pg} (hp : PgOk p) {n : Nat} {pl : W} {s' : VS} (h : visF p n pl ([], []) = some s') (g1 : gdW pl = true) (l1 : s'.1.length ≤ 1000) (l2 : s'.2.length ≤ 1000) (k : Nat) : callF P (k + n + 2) X.order_of [pgT p, .str pl] = .ok (.new (.lst (tstrs s'.2))) := by
  show callF P ((k + n + 1) + 1) X.order_of _ = _
  rw [call_py H.order_of rfl]
  have v := visited H hp n k pl ([], []) s' h g1 (fun _ h => by cases h) l1 l2
  simp at v
  simp [b_order_of, v, vsT]
end M
set_option Elab.async false
set_option linter.all false
set_option autoImplicit false
set_option maxRecDepth 100000
namespace Py
@[simp] theorem initE_m5 (ns : Nat) (a b c d e : T) : initE 5 ns (some 2) [a, b, c, d, e] = .val a :: .val b :: .own c :: .val d :: .val e :: List.replicate (ns - 5) .un := (rfl)
abbrev tints (l : List Nat) : List T := l.map fun j => T.int (j : Nat)
@[simp] theorem goods_ints : ∀ (n : Nat) (l : List Nat), goods n (tints l) = true
  | n, [] => by simp
  | n, a :: l => by
    have := goods_ints n l
    simp [*]
@[simp] theorem eqTs_map_nil {α : Type} (F : α → T) (l : List α) : eqTs (l.map F) [] = l.isEmpty := by cases l <;> rfl
theorem cut_to {α : Type} (l : List α) (a : Int) (h : 0 ≤ a) : cut l none (some a) = l.take a.toNat := by
  have h1 : ¬ a < 0 := by omega
  simp only [cut, sIx, h1, if_false, List.drop_zero, Nat.sub_zero]
  by_cases c : a.toNat ≤ l.length
  · rw [Nat.min_eq_left c]
  · rw [Nat.min_eq_right (by omega), List.take_length, List.take_of_length_le (by omega)]
theorem cut_from {α : Type} (l : List α) (a : Int) (h : 0 ≤ a) : cut l (some a) none = l.drop a.toNat := by
  have h1 : ¬ a < 0 := by omega
  simp only [cut, sIx, h1, if_false]
  by_cases c : a.toNat ≤ l.length
  · rw [Nat.min_eq_left c]
    exact List.take_of_length_le (by simp)
  · rw [Nat.min_eq_right (by omega), List.drop_length, List.drop_of_length_le (by omega)]
    simp
end Py
namespace M
open Py
variable {P : Prg} {X : Ix}
inductive Noted (own : List W) (others : List Nat) : List Row → List Row → Prop
  | refl (rs : List Row) : Noted own others rs rs
  | note {rs rs1 : List Row} (a : Nat) {e : E} : Noted own others rs rs1 → EG own 2 e → Noted own others rs (rs1.take a ++ .note e :: rs1.drop a)
  | run {rs rs1 : List Row} (a : Nat) {o : Nat} : Noted own others rs rs1 → o ∈ others → Noted own others rs (rs1.take a ++ .run (mName o) :: rs1.drop a)
def isS (w : W) : Bool := w.head? == some 115
def someOf (ring : Bool) (own : List W) (j : Nat) : List W := own.filter fun w => isS w || (!ring && decide (0 < j))
inductive Gives (ring : Bool) (own : List W) : List Nat → List Row → Prop
  | nil : Gives ring own [] []
  | cons {j : Nat} {js : List Nat} {w : W} {rs : List Row} : w ∈ someOf ring own j → Gives ring own js rs → Gives ring own (j :: js) (.give w (gW j) :: rs)
theorem noted_trans {own : List W} {others : List Nat} {a b c : List Row} (h : Noted own others a b) (g : Noted own others b c) : Noted own others a c := by
  induction g with
  | refl => exact h
  | note n _ e ih => exact .note n (ih) e
  | run n _ o ih => exact .run n (ih) o
theorem pick_at (l : List Nat) (x : Int) (h : l ≠ []) : ∃ o ∈ l, atI (tints l) (x % (l.length : Int)) = some (.int (o : Nat)) := by
  obtain ⟨t, h1, h2⟩ := atI_mod (tints l) x (by simpa using h)
  simp only [List.length_map] at h1
  obtain ⟨o, ho, rfl⟩ := List.mem_map.mp h2
  exact ⟨o, ho, h1⟩
theorem pick_str (l : List W) (x : Int) (h : l ≠ []) : ∃ o ∈ l, atI (l.map T.str) (x % (l.length : Int)) = some (.str o) := by
  obtain ⟨t, h1, h2⟩ := atI_mod (l.map T.str) x (by simpa using h)
  simp only [List.length_map] at h1
  obtain ⟨o, ho, rfl⟩ := List.mem_map.mp h2
  exact ⟨o, ho, h1⟩
abbrev bNotes (X : Ix) : List Stm := [.asg 7 (.call X.law_seed [(.loc 0), (.bin .add (.int 20) (.loc 6))]), .asg 8 (.tup [(.str [110, 111, 116, 101]), (.call X.law_expression [(.loc 7), (.loc 3), (.int 2)])]), .ite (.and2 (.cmp .ne (.loc 4) (.lst [])) (.cmp .eq (.bin .mod (.bin .fdiv (.loc 7) (.int 7)) (.int 3)) (.int 0))) [.asg 8 (.tup [(.str [114, 117, 110]), (.bin .add (.str [109]) (.ix (.str [97, 98, 99, 100, 101, 102]) (.ix (.loc 4) (.bin .mod (.bin .fdiv (.loc 7) (.int 11)) (.b1 .len (.loc 4))))))])] [], .asg 9 (.bin .mod (.bin .fdiv (.loc 7) (.int 13)) (.bin .add (.b1 .len (.loc 2)) (.int 1))), .asg 2 (.bin .add (.bin .add (.slc (.loc 2) .non (.loc 9)) (.lst [(.loc 8)])) (.slc (.loc 2) (.loc 9) .non))]
theorem noted_loop (H : HGn P X) (s k : Int) (ring : Bool) (own : List W) (ho : ∀ w ∈ own, wordW w = true) (others : List Nat) (h6 : ∀ o ∈ others, o < 6) (i : Nat) : ∀ (js : List Nat) (rs : List Row) (x6 x7 x8 x9 : Sl), isVal (some x6) = true → isVal (some x7) = true → rs.length + js.length ≤ 1000 →
    ∃ rs' z6 z7 z8 z9, Noted own others rs rs' ∧ rs'.length = rs.length + js.length ∧ isVal (some z6) = true ∧ isVal (some z7) = true ∧ forR (tints js) (.one 6) (exs P.C (callF P (i + 5)) P.sub (bNotes X))
      [.val (.int s), .val (.int k), .own (.lst (rs.map Row.T)), .val (.lst (own.map T.str)), .own (.lst (tints others)), .val (.bl ring), x6, x7, x8, x9, .un, .un, .un] = .next [.val (.int s), .val (.int k), .own (.lst (rs'.map Row.T)), .val (.lst (own.map T.str)), .own (.lst (tints others)), .val (.bl ring), z6, z7, z8, z9, .un, .un, .un] := by
  intro js
  induction js with
  | nil =>
    intro rs x6 x7 x8 x9 v6 v7 _
    exact ⟨rs, x6, x7, x8, x9, .refl _, by simp, v6, v7, by simp⟩
  | cons j js ih =>
    intro rs x6 x7 x8 x9 v6 v7 hl
    simp only [List.length_cons] at hl
    have hsd := law_seed H.toHG s (20 + (j : Int)) (i + 4)
    generalize hone : sd s (20 + (j : Int)) = one at hsd
    obtain ⟨e, he, hx⟩ := law_expression H.toHG own ho 2 one (i + 5) (by omega)
    have hx : callF P (i + 5) X.law_expression [.int one, .lst (own.map T.str), .int 2] = _ := hx
    have ha : 0 ≤ one / 13 % ((rs.length : Int) + 1) := Int.emod_nonneg _ (by omega)
    have hp : (0 : Int) < (rs.length : Int) + 1 := by omega
    generalize hat : one / 13 % ((rs.length : Int) + 1) = at_ at ha
    have hb1 : (rs.take at_.toNat).length + 1 ≤ 1000000 := by
      have : (rs.take at_.toNat).length ≤ rs.length := by simp; omega
      omega
    have hb2 : (rs.take at_.toNat).length + 1 + (rs.drop at_.toNat).length ≤ 1000000 := by
      have : (rs.take at_.toNat).length + (rs.drop at_.toNat).length = rs.length := by simp; omega
      omega
    have hmin1 : min at_.toNat rs.length + 1 ≤ 1000000 := by omega
    have hmin2 : min at_.toNat rs.length + 1 + (rs.length - at_.toNat) ≤ 1000000 := by omega
    by_cases c : others ≠ [] ∧ one / 7 % 3 = 0
    · obtain ⟨o, hom, hoa⟩ := pick_at others (one / 11) c.1
      have ho6 := h6 o hom
      have hmn := mN ho6
      have hpos : 0 < others.length := List.length_pos_iff.mpr c.1
      have hne : others.isEmpty = false := by simpa using c.1
      obtain ⟨rs', z6, z7, z8, z9, h1, h2, u6, u7, h3⟩ := ih (rs.take at_.toNat ++ .run (mName o) :: rs.drop at_.toNat) (.val (.int (j : Nat))) (.val (.int one)) (.val (Row.run (mName o)).T) (.val (.int at_)) rfl rfl (by simp; omega)
      refine ⟨rs', z6, z7, z8, z9, noted_trans (.run _ (.refl _) hom) h1, by rw [h2]; simp; omega, u6, u7, ?_⟩
      rw [show tints (j :: js) = T.int (j : Nat) :: tints js from rfl, forR_cons]
      simp [mName] at h3
      simp [hsd, hone, hx, hne, c.2, hpos, hoa, hmn, hp, hat, cut_to _ _ ha, cut_from _ _ ha, hmin1, hmin2, ← List.map_take, ← List.map_drop]
      simpa using h3
    · have hc : others.isEmpty = true ∨ (others.isEmpty = false ∧ ¬ one / 7 % 3 = 0) := by
        by_cases q : others = []
        · exact .inl (by simp [q])
        · exact .inr ⟨by simpa using q, fun z => c ⟨q, z⟩⟩
      obtain ⟨rs', z6, z7, z8, z9, h1, h2, u6, u7, h3⟩ := ih (rs.take at_.toNat ++ .note e :: rs.drop at_.toNat) (.val (.int (j : Nat))) (.val (.int one)) (.val (Row.note e).T) (.val (.int at_)) rfl rfl (by simp; omega)
      refine ⟨rs', z6, z7, z8, z9, noted_trans (.note _ (.refl _) he) h1, by rw [h2]; simp; omega, u6, u7, ?_⟩
      rw [show tints (j :: js) = T.int (j : Nat) :: tints js from rfl, forR_cons]
      simp at h3
      rcases hc with hc | ⟨hc, hc2⟩
      · simp [hsd, hone, hx, hc, hp, hat, cut_to _ _ ha, cut_from _ _ ha, hmin1, hmin2, ← List.map_take, ← List.map_drop]
        simpa using h3
      · simp [hsd, hone, hx, hc, hc2, hp, hat, cut_to _ _ ha, cut_from _ _ ha, hmin1, hmin2, ← List.map_take, ← List.map_drop]
        simpa using h3
abbrev bGives (X : Ix) : List Stm := [.asg 11 (.lc (.loc 7) (.one 7) .seq [(.loc 3)] (.or2 (.cmp .eq (.ix (.loc 7) (.int 0)) (.str [115])) (.and2 (.nt (.loc 5)) (.cmp .gt (.loc 6) (.int 0))))), .exp (.m1 .append (.loc 2) (.tup [(.str [103, 105, 118, 101]), (.ix (.loc 11) (.call X.law_pick [(.call X.law_seed [(.loc 0), (.bin .add (.int 30) (.loc 6))]), (.b1 .len (.loc 11))])), (.loc 10)]))]
theorem isS_eq {w : W} (h : wordW w = true) : ∃ c, atI w 0 = some c ∧ ([c] == ([115] : W)) = isS w ∧ gdW [c] = true := by
  have g := wordW_gd h
  cases w with
  | nil => simp at g
  | cons a r =>
    refine ⟨a, by simp, ?_, ?_⟩
    · simp [isS]
    · have := g.2.1
      simp at this
      simp [this.1]
theorem gives_loop (H : HGn P X) (s k : Int) (ring : Bool) (own : List W) (ho : ∀ w ∈ own, wordW w = true) (hs : ∃ w ∈ own, isS w = true) (hlo : own.length ≤ 1000) (x4 : Sl) (i : Nat) : ∀ (js : List Nat) (rs : List Row) (x6 x7 x8 x9 x10 x11 : Sl), isVal (some x6) = true → isVal (some x7) = true → rs.length + js.length ≤ 1000 →
    ∃ gs z6 z10 z11, Gives ring own js gs ∧ gs.length = js.length ∧ isVal (some z6) = true ∧ forR (js.map fun j => T.tup [.int (j : Nat), .str (gW j)]) (.many [6, 10]) (exs P.C (callF P (i + 2)) P.sub (bGives X))
      [.val (.int s), .val (.int k), .own (.lst (rs.map Row.T)), .val (.lst (own.map T.str)), x4, .val (.bl ring), x6, x7, x8, x9, x10, x11, .un] = .next [.val (.int s), .val (.int k), .own (.lst ((rs ++ gs).map Row.T)), .val (.lst (own.map T.str)), x4, .val (.bl ring), z6, x7, x8, x9, z10, z11, .un] := by
  intro js
  induction js with
  | nil =>
    intro rs x6 x7 x8 x9 x10 x11 v6 _ _
    exact ⟨[], x6, x10, x11, .nil, rfl, v6, by simp⟩
  | cons j js ih =>
    intro rs x6 x7 x8 x9 x10 x11 v6 hv hl
    simp only [List.length_cons] at hl
    have hsd := law_seed H.toHG s (30 + (j : Int)) (i + 1)
    generalize hone : sd s (30 + (j : Int)) = one at hsd
    have hne : someOf ring own j ≠ [] := by
      obtain ⟨w, hw, hw2⟩ := hs
      have : w ∈ someOf ring own j := List.mem_filter.mpr ⟨hw, by simp [hw2]⟩
      exact List.ne_nil_of_mem this
    have hpos : 0 < (someOf ring own j).length := List.length_pos_iff.mpr hne
    obtain ⟨w, hw, hwa⟩ := pick_str (someOf ring own j) (one / 97) hne
    have hpk := law_pick H.toHG one ((someOf ring own j).length : Int) (by omega) (i + 1)
    have hcap : rs.length < 1000000 := by omega
    have elc : ∀ ρ : Py.Env, ρ = [.val (.int s), .val (.int k), .own (.lst (rs.map Row.T)), .val (.lst (own.map T.str)), x4, .val (.bl ring), .val (.int (j : Nat)), x7, x8, x9, .val (.str (gW j)), x11, .un] → lcR (own.map T.str) (.one 7) (go P.C (callF P (i + 2)) (.or2 (.cmp .eq (.ix (.loc 7) (.int 0)) (.str [115])) (.and2 (.nt (.loc 5)) (.cmp .gt (.loc 6) (.int 0))))).2 (go P.C (callF P (i + 2)) (.loc 7)).1 ρ = .ok (.new (.lst ((someOf ring own j).map T.str)), ρ) := fun ρ hρ =>
      lcR_one own T.str (fun w => isS w || (!ring && decide (0 < j))) T.str (by simp [hρ]) (by simp [hρ, hv]) (by omega) fun w hw => by
        have g := wordW_gd (ho w hw)
        have g6 : w.length ≤ 1000000 := by omega
        obtain ⟨c, c1, c2, c3⟩ := isS_eq (ho w hw)
        simp at c2 c3
        cases h1 : isS w with
        | true =>
          rw [h1] at c2
          simp at c2
          subst c2
          simp [hρ, g6, c1]
        | false =>
          rw [h1] at c2
          simp at c2
          cases ring <;> by_cases q : 0 < j <;> simp [hρ, g6, c1, c2, c3, q]
    have elc := elc _ rfl
    obtain ⟨gs, z6, z10, z11, h1, h2, u6, h3⟩ := ih (rs ++ [.give w (gW j)]) (.val (.int (j : Nat))) x7 x8 x9 (.val (.str (gW j))) (.own (.lst ((someOf ring own j).map T.str))) rfl hv (by simp; omega)
    refine ⟨.give w (gW j) :: gs, z6, z10, z11, .cons hw h1, by simp [h2], u6, ?_⟩
    rw [List.map_cons, forR_cons]
    simp at h3
    simp [elc, hsd, hone, hpk, hpos, hwa, hcap, h3]
end M
set_option Elab.async false
set_option linter.all false
set_option autoImplicit false
set_option maxRecDepth 100000
namespace M
open Py
variable {P : Prg} {X : Ix}
@[simp] theorem any_ints (x : Nat) : ∀ l : List Nat, ((tints l).any fun z => eqT z (.int (x : Nat))) = decide (x ∈ l)
  | [] => by simp
  | w :: r => by
    have := any_ints x r
    by_cases h : w = x
    · simp [h]
    · have h' : ¬ x = w := fun z => h z.symm
      have h2 : ¬ (w : Int) = x := by omega
      simp only [List.map_cons, List.any_cons, this, q_ii, List.mem_cons, h', false_or]
      simp [h2]
theorem enum_gives (k : Nat) : enumT (cut ((gives k).map T.str) none (some (-1))) = (List.range (3 + k % 2)).map fun j => T.tup [.int (j : Nat), .str (gW j)] := by
  have : k % 2 = 0 ∨ k % 2 = 1 := by omega
  unfold gives
  rcases this with h | h <;> rw [h] <;> rfl
inductive LastOk (k : Nat) (others : List Nat) : Row → Prop
  | pass {o : Nat} : o ∈ others → k < o → LastOk k others (.pass (mName o) gaW pW)
  | give : (∀ o ∈ others, ¬ k < o) → LastOk k others (.give swW pW)
theorem range3 (n : Int) : ∃ c : Nat, n % 3 = c ∧ c < 3 := ⟨(n % 3).toNat, by omega, by omega⟩
theorem law_filled (H : HGn P X) (s : Int) (k : Nat) (hk : k < 6) (ring : Bool) (own : List W) (ho : ∀ w ∈ own, wordW w = true) (hs : ∃ w ∈ own, isS w = true) (hlo : own.length ≤ 1000) (others : List Nat) (h6 : ∀ o ∈ others, o < 6) (hl6 : others.length ≤ 1000) (rows : List Row) (hr : rows.length ≤ 100) (i : Nat) :
    ∃ rs1 gs last, Noted own others rows rs1 ∧ rs1.length ≤ rows.length + 2 ∧ Gives ring own (List.range (3 + k % 2)) gs ∧ gs.length = 3 + k % 2 ∧ LastOk k others last ∧
      callF P (i + 6) X.law_filled [.int s, .int (k : Nat), .lst (rows.map Row.T), .lst (own.map T.str), .lst (tints (others ++ if ring then [9] else []))] = .ok (.tmp (Mod.T ⟨mName k, rs1 ++ gs ++ [last]⟩)) := by
  obtain ⟨n2, hn2, hn3⟩ := range3 (s / 17)
  obtain ⟨rs1, z6, z7, z8, z9, a1, a2, u6, u7, a3⟩ := noted_loop H s k ring own ho others h6 (i + 0) (List.range n2) rows .un .un .un .un rfl rfl (by simp; omega)
  simp only [List.length_range] at a2
  obtain ⟨one, hone⟩ : ∃ one, sd s 40 = one := ⟨_, rfl⟩
  have hsd := law_seed H.toHG s 40 (i + 4)
  rw [hone] at hsd
  have hgv := law_gives H k (i + 4)
  have any9 : decide (9 ∈ (others ++ if ring then [9] else [])) = ring := by
    have : ¬ 9 ∈ others := fun h => absurd (h6 9 h) (by omega)
    cases ring <;> simp [this]
  have fil9 : (others ++ if ring then [9] else []).filter (fun j => decide (j ≠ 9)) = others := by
    rw [List.filter_append]
    have e1 : others.filter (fun j => decide (j ≠ 9)) = others := by
      rw [List.filter_eq_self]
      intro o ho
      have := h6 o ho
      simp
      omega
    rw [e1]
    cases ring <;> simp
  have ll : (others ++ if ring then [9] else []).length ≤ 1000000 := by
    cases ring <;> simp <;> omega
  generalize hl9 : (others ++ if ring then [9] else []) = l9 at any9 fil9 ll
  have an := any_ints 9 l9
  rw [any9] at an
  replace an : ((tints l9).any fun z => eqT z (.int 9)) = ring := an
  have gi := goods_ints 60 l9
  have e1 : ∀ ρ : Py.Env, ρ = [.val (.int s), .val (.int (k : Nat)), .own (.lst (rows.map Row.T)), .val (.lst (own.map T.str)), .val (.lst (tints l9)), .val (.bl ring), .un, .un, .un, .un, .un, .un, .un] → _ := fun ρ hρ =>
    lcR_one l9 (fun j => T.int (j : Nat)) (fun j => decide (j ≠ 9)) (fun j => T.int (j : Nat)) (i := 6) (ρ := ρ) (vc := (go P.C (callF P (i + 5)) (.cmp .ne (.loc 6) (.int 9))).2) (ve := (go P.C (callF P (i + 5)) (.loc 6)).1) (by simp [hρ]) (by simp [hρ]) ll fun j hj => by
      by_cases q : j = 9
      · simp [hρ, q]
      · have q' : ¬ (j : Int) = 9 := by omega
        simp [hρ, q, q']
  have e1 := e1 _ rfl
  rw [fil9] at e1
  obtain ⟨gs, y6, y10, y11, b1, b2, w6, b3⟩ := gives_loop H s k ring own ho hs hlo (.own (.lst (tints others))) (i + 3) (List.range (3 + k % 2)) rs1 z6 z7 z8 z9 .un .un u6 u7 (by simp; omega)
  simp only [List.length_range] at b2
  have e2 : ∀ ρ : Py.Env, ρ = [.val (.int s), .val (.int (k : Nat)), .own (.lst ((rs1 ++ gs).map Row.T)), .val (.lst (own.map T.str)), .val (.lst (tints others)), .val (.bl ring), y6, .val (.int one), z8, z9, y10, y11, .un] → _ := fun ρ hρ =>
    lcR_one others (fun j => T.int (j : Nat)) (fun j => decide (k < j)) (fun j => T.int (j : Nat)) (i := 6) (ρ := ρ) (vc := (go P.C (callF P (i + 5)) (.cmp .gt (.loc 6) (.loc 1))).2) (ve := (go P.C (callF P (i + 5)) (.loc 6)).1) (by simp [hρ]) (by simp [hρ, w6]) (by omega) fun j hj => by
      by_cases q : k < j
      · simp [hρ, q]
      · simp [hρ, q]
  have e2 := e2 _ rfl
  have hcap : (rs1 ++ gs).length < 1000000 := by simp; omega
  have hcap2 : rs1.length + gs.length < 1000000 := by simpa using hcap
  have hmk := mN hk
  have hnn : rangeT 0 (n2 : Int) = tints (List.range n2) := range_nat n2
  have hn5 : (-1000000 : Int) ≤ (n2 : Int) ∧ (n2 : Int) ≤ 1000000 := by omega
  by_cases c : (others.filter fun j => decide (k < j)) = []
  · refine ⟨rs1, gs, .give swW pW, a1, by omega, b1, b2, .give fun o ho hlt => ?_, ?_⟩
    · have : o ∈ others.filter fun j => decide (k < j) := List.mem_filter.mpr ⟨ho, decide_eq_true hlt⟩
      rw [c] at this
      cases this
    · show callF P ((i + 5) + 1) X.law_filled _ = _
      rw [call_mv H.law_filled rfl]
      rw [c] at e2
      simp only [List.map_append, Nat.add_zero] at a3 b3 e2
      simp [-List.any_map, b_law_filled, an, gi, e1, hn2, hnn, hn5, a3, hgv, enum_gives, b3, hsd, e2, hcap2, hmk, Mod.T, mName]
  · obtain ⟨o, hom, hoa⟩ := pick_at (others.filter fun j => decide (k < j)) (one / 7) c
    obtain ⟨ho1, ho2⟩ := List.mem_filter.mp hom
    have hmo := mN (h6 o ho1)
    have hpos : 0 < (others.filter fun j => decide (k < j)).length := List.length_pos_iff.mpr c
    have hne : (others.filter fun j => decide (k < j)).isEmpty = false := by simpa using c
    refine ⟨rs1, gs, .pass (mName o) gaW pW, a1, by omega, b1, b2, .pass ho1 (of_decide_eq_true ho2), ?_⟩
    show callF P ((i + 5) + 1) X.law_filled _ = _
    rw [call_mv H.law_filled rfl]
    simp only [List.map_append, Nat.add_zero] at a3 b3 e2
    simp [-List.any_map, b_law_filled, an, gi, e1, hn2, hnn, hn5, a3, hgv, enum_gives, b3, hsd, e2, hcap2, hmk, Mod.T, mName, hne, hpos, hoa, hmo]
end M
set_option Elab.async false
set_option linter.all false
set_option autoImplicit false
set_option maxRecDepth 100000
namespace M
open Py
variable {P : Prg} {X : Ix}
inductive Takes (others : List Nat) : List Nat → List Row → Prop
  | nil : Takes others [] []
  | cons {j o : Nat} {g : W} {js : List Nat} {rs : List Row} : o ∈ others → g ∈ (gives o).take 4 → Takes others js rs → Takes others (j :: js) (.take (mName o) g (tName j) :: rs)
inductive Sets (known : List W) : List Nat → List Row → Prop
  | nil : Sets known [] []
  | cons {j : Nat} {e : E} {js : List Nat} {rs : List Row} : EG known 3 e → Sets known js rs → Sets known (j :: js) (.set (sName j) e :: rs)
theorem pick4 (o : Nat) (x : Int) : ∃ g ∈ (gives o).take 4, atI ((gives o).map T.str) (x % 4) = some (.str g) := by
  have h : x % 4 = 0 ∨ x % 4 = 1 ∨ x % 4 = 2 ∨ x % 4 = 3 := by omega
  have h2 : o % 2 = 0 ∨ o % 2 = 1 := by omega
  unfold gives
  rcases h2 with h2 | h2 <;> rw [h2] <;> rcases h with h | h | h | h <;> rw [h]
  · exact ⟨gW 0, by decide, rfl⟩
  · exact ⟨gW 1, by decide, rfl⟩
  · exact ⟨gW 2, by decide, rfl⟩
  · exact ⟨pW, by decide, rfl⟩
  · exact ⟨gW 0, by decide, rfl⟩
  · exact ⟨gW 1, by decide, rfl⟩
  · exact ⟨gW 2, by decide, rfl⟩
  · exact ⟨gW 3, by decide, rfl⟩
abbrev bTakes (X : Ix) : List Stm := [.asg 8 (.call X.law_seed [(.loc 0), (.loc 5)]), .asg 9 (.ix (.loc 4) (.call X.law_pick [(.loc 8), (.b1 .len (.loc 4))])), .exp (.m1 .append (.loc 6) (.tup [(.str [116, 97, 107, 101]), (.bin .add (.str [109]) (.ix (.str [97, 98, 99, 100, 101, 102]) (.loc 9))), (.ix (.call X.law_gives [(.loc 9)]) (.bin .mod (.bin .fdiv (.loc 8) (.int 7)) (.int 4))), (.bin .add (.str [116]) (.ix (.str [120, 121, 122]) (.loc 5)))])), .exp (.m1 .append (.loc 7) (.bin .add (.str [116]) (.ix (.str [120, 121, 122]) (.loc 5))))]
theorem takes_loop (H : HGn P X) (s k many : Int) (ring : Bool) (others : List Nat) (h6 : ∀ o ∈ others, o < 6) (i : Nat) : ∀ (js : List Nat), (js ≠ [] → others ≠ []) → (∀ j ∈ js, j < 3) → ∀ (rs : List Row) (own : List W) (x5 x8 x9 : Sl), isVal (some x5) = true → rs.length + js.length ≤ 100 → own.length + js.length ≤ 100 →
    ∃ ts z5 z8 z9, Takes others js ts ∧ ts.length = js.length ∧ isVal (some z5) = true ∧ forR (tints js) (.one 5) (exs P.C (callF P (i + 2)) P.sub (bTakes X))
      [.val (.int s), .val (.int k), .val (.int many), .val (.bl ring), .own (.lst (tints others)), x5, .own (.lst (rs.map Row.T)), .own (.lst (own.map T.str)), x8, x9, .un, .un, .un] = .next [.val (.int s), .val (.int k), .val (.int many), .val (.bl ring), .own (.lst (tints others)), z5, .own (.lst ((rs ++ ts).map Row.T)), .own (.lst ((own ++ js.map tName).map T.str)), z8, z9, .un, .un, .un] := by
  intro js
  induction js with
  | nil =>
    intro _ _ rs own x5 x8 x9 v5 _ _
    exact ⟨[], x5, x8, x9, .nil, rfl, v5, by simp⟩
  | cons j js ih =>
    intro hne hj rs own x5 x8 x9 v5 l1 l2
    simp only [List.length_cons] at l1 l2
    have ho := hne (by simp)
    have hpos : 0 < others.length := List.length_pos_iff.mpr ho
    have hsd := law_seed H.toHG s (j : Int) (i + 1)
    generalize hone : sd s (j : Int) = one at hsd
    have hpk := law_pick H.toHG one (others.length : Int) (by omega) (i + 1)
    obtain ⟨o, hom, hoa⟩ := pick_at others (one / 97) ho
    have hmn := mN (h6 o hom)
    have htn := tN (hj j (List.mem_cons_self ..))
    have hgv := law_gives H o (i + 1)
    obtain ⟨g, hg1, hg2⟩ := pick4 o (one / 7)
    obtain ⟨ts, z5, z8, z9, h1, h2, u5, h3⟩ := ih (fun _ => ho) (fun j hj' => hj j (List.mem_cons_of_mem _ hj')) (rs ++ [.take (mName o) g (tName j)]) (own ++ [tName j]) (.val (.int (j : Nat))) (.val (.int one)) (.val (.int (o : Nat))) rfl (by simp; omega) (by simp; omega)
    refine ⟨.take (mName o) g (tName j) :: ts, z5, z8, z9, .cons hom hg1 h1, by simp [h2], u5, ?_⟩
    rw [show tints (j :: js) = T.int (j : Nat) :: tints js from rfl, forR_cons]
    have c1 : rs.length < 1000000 := by omega
    have c2 : own.length < 1000000 := by omega
    simp [mName, tName] at h3
    simp [hsd, hone, hpk, hpos, hoa, hmn, htn, hgv, hg2, c1, c2, mName, tName, h3]
abbrev bSets (X : Ix) : List Stm := [.asg 10 (.bin .add (.loc 7) (.lc (.bin .add (.str [115]) (.ix (.str [119, 120, 121, 122]) (.loc 11))) (.one 11) .rng1 [(.bin .add (.int 3) (.bin .mod (.loc 1) (.int 2)))] (.bl true))), .asg 12 (.call X.law_expression [(.call X.law_seed [(.loc 0), (.bin .add (.int 10) (.loc 5))]), (.loc 10), (.bin .add (.int 2) (.b1 .into (.cmp .eq (.bin .mod (.bin .fdiv (.bin .add (.loc 0) (.loc 5)) (.int 23)) (.int 5)) (.int 0))))]), .exp (.m1 .append (.loc 6) (.tup [(.str [115, 101, 116]), (.bin .add (.str [115]) (.ix (.str [119, 120, 121, 122]) (.loc 5))), (.loc 12)]))]
theorem EG.up {ws : List W} {d d' : Nat} {e : E} (h : EG ws d e) (hd : d ≤ d') : EG ws d' e := ⟨h.ok, Nat.le_trans h.dep hd, h.nm⟩
def sNames (k : Nat) : List W := (List.range (3 + k % 2)).map sName
theorem sNames_w (k : Nat) : ∀ w ∈ sNames k, wordW w = true := fun w hw => by
  obtain ⟨j, hj, rfl⟩ := List.mem_map.mp hw
  have := List.mem_range.mp hj
  exact sW (by omega)
theorem lc_sNames (k : Nat) (call : Nat → List T → CRes) {i : Nat} {ρ : Py.Env} (hi : i < ρ.length) (hv : isVal ρ[i]? = true) : lcR (tints (List.range (3 + k % 2))) (.one i) (go P.C call (.bl true)).2 (go P.C call (.bin .add (.str [115]) (.ix (.str [119, 120, 121, 122]) (.loc i)))).1 ρ = .ok (.new (.lst ((sNames k).map T.str)), ρ) := by
  have := lcR_one (List.range (3 + k % 2)) (fun j => T.int (j : Nat)) (fun _ => true) (fun j => T.str (sName j)) (i := i) (ρ := ρ) (vc := (go P.C call (.bl true)).2) (ve := (go P.C call (.bin .add (.str [115]) (.ix (.str [119, 120, 121, 122]) (.loc i)))).1) hi hv (by simp; omega) fun j hj => by
    have hj := List.mem_range.mp hj
    have hs := sN (o := j) (by omega)
    simp [hi, hs, sName]
  simp only [filter_tt] at this
  rw [this]
  simp [sNames, Function.comp_def]
theorem sets_loop (H : HGn P X) (s many : Int) (k : Nat) (ring : Bool) (own : List W) (how : ∀ w ∈ own, wordW w = true) (hlo : own.length ≤ 100) (x4 : Sl) (i : Nat) : ∀ (js : List Nat), (∀ j ∈ js, j < 4) → ∀ (rs : List Row) (x5 x8 x9 x10 x11 x12 : Sl), isVal (some x5) = true → isVal (some x11) = true → rs.length + js.length ≤ 100 →
    ∃ ts z5 z10 z12, Sets (own ++ sNames k) js ts ∧ ts.length = js.length ∧ isVal (some z5) = true ∧ forR (tints js) (.one 5) (exs P.C (callF P (i + 6)) P.sub (bSets X))
      [.val (.int s), .val (.int (k : Nat)), .val (.int many), .val (.bl ring), x4, x5, .own (.lst (rs.map Row.T)), .own (.lst (own.map T.str)), x8, x9, x10, x11, x12] = .next [.val (.int s), .val (.int (k : Nat)), .val (.int many), .val (.bl ring), x4, z5, .own (.lst ((rs ++ ts).map Row.T)), .own (.lst (own.map T.str)), x8, x9, z10, x11, z12] := by
  intro js
  induction js with
  | nil =>
    intro _ rs x5 x8 x9 x10 x11 x12 v5 v11 _
    exact ⟨[], x5, x10, x12, .nil, rfl, v5, by simp⟩
  | cons j js ih =>
    intro hj rs x5 x8 x9 x10 x11 x12 v5 v11 l1
    simp only [List.length_cons] at l1
    have hsd := law_seed H.toHG s (10 + (j : Int)) (i + 5)
    generalize hone : sd s (10 + (j : Int)) = one at hsd
    have hkn : ∀ w ∈ own ++ sNames k, wordW w = true := fun w hw => (List.mem_append.mp hw).elim (how w) (sNames_w k w)
    have htn := sN (hj j (List.mem_cons_self ..))
    obtain ⟨d, hd1, hd2⟩ : ∃ d : Nat, (2 : Int) + (if (s + (j : Int)) / 23 % 5 = 0 then 1 else 0) = (d : Nat) ∧ d ≤ 3 := by
      split
      · exact ⟨3, rfl, Nat.le_refl _⟩
      · exact ⟨2, rfl, by omega⟩
    obtain ⟨e, he, hx⟩ := law_expression H.toHG (own ++ sNames k) hkn d one (i + 6) (by omega)
    have hrg : rangeT 0 (3 + (k : Int) % 2) = tints (List.range (3 + k % 2)) := by
      rw [show (3 + (k : Int) % 2) = ((3 + k % 2 : Nat) : Int) by omega]
      exact range_nat _
    have hb1 : -1000000 ≤ 3 + (k : Int) % 2 ∧ 3 + (k : Int) % 2 ≤ 1000000 := by omega
    have hlc := lc_sNames (P := P) k (callF P (i + 6)) (i := 11) (ρ := [.val (.int s), .val (.int (k : Nat)), .val (.int many), .val (.bl ring), x4, .val (.int (j : Nat)), .own (.lst (rs.map Row.T)), .own (.lst (own.map T.str)), x8, x9, x10, x11, x12]) (by simp) (by simp [v11])
    have hln : own.length + (sNames k).length ≤ 1000000 := by
      simp [sNames]
      omega
    have c1 : rs.length < 1000000 := by omega
    obtain ⟨ts, z5, z10, z12, h1, h2, u5, h3⟩ := ih (fun j hj' => hj j (List.mem_cons_of_mem _ hj')) (rs ++ [.set (sName j) e]) (.val (.int (j : Nat))) x8 x9 (.own (.lst ((own ++ sNames k).map T.str))) x11 (.val e.T) rfl v11 (by simp; omega)
    refine ⟨.set (sName j) e :: ts, z5, z10, z12, .cons (he.up hd2) h1, by simp [h2], u5, ?_⟩
    rw [show tints (j :: js) = T.int (j : Nat) :: tints js from rfl, forR_cons]
    simp [sName] at h3
    simp only [List.map_append] at hx
    simp [hrg, hb1, hlc, hln, hsd, hone, hd1, hx, htn, c1, sName, h3]
end M
set_option Elab.async false
set_option linter.all false
set_option autoImplicit false
set_option maxRecDepth 100000
namespace M
open Py
variable {P : Prg} {X : Ix}
def othersOf (ring : Bool) (many k : Nat) : List Nat := (List.range many).filter fun j => decide (k < j) || (ring && decide (j ≠ k))
structure GenM (ring : Bool) (many k : Nat) (m : Mod) : Prop where
  nm : m.nm = mName k
  ex : ∃ (nt : Nat) (ts ss rs1 gs : List Row) (last : Row), nt < 3 ∧ Takes (othersOf ring many k) (List.range nt) ts ∧ ts.length = nt ∧ Sets ((List.range nt).map tName ++ sNames k) (List.range (3 + k % 2)) ss ∧ ss.length = 3 + k % 2 ∧
    Noted ((List.range nt).map tName ++ sNames k) (othersOf ring many k) (ts ++ ss) rs1 ∧ rs1.length ≤ (ts ++ ss).length + 2 ∧ Gives ring ((List.range nt).map tName ++ sNames k) (List.range (3 + k % 2)) gs ∧ gs.length = 3 + k % 2 ∧ LastOk k (othersOf ring many k) last ∧ m.rows = rs1 ++ gs ++ [last] ∧ (othersOf ring many k = [] → nt = 0)
theorem sW_isS (j : Nat) : isS (sName j) = true := rfl
theorem law_module (H : HGn P X) (s : Int) (k many : Nat) (hk : k < many) (hm : many ≤ 6) (ring : Bool) (i : Nat) : ∃ m, GenM ring many k m ∧ callF P (i + 8) X.law_module [.int s, .int (k : Nat), .int (many : Nat), .bl ring] = .ok (.tmp m.T) := by
  have ho6 : ∀ o ∈ othersOf ring many k, o < 6 := fun o ho => by
    have := List.mem_range.mp (List.mem_filter.mp ho).1
    omega
  have hol : (othersOf ring many k).length ≤ 1000 := by
    have : (othersOf ring many k).length ≤ (List.range many).length := List.length_filter_le _ _
    simp at this
    omega
  obtain ⟨nt, hnt, hnt3, hnt0⟩ : ∃ nt : Nat, (if (othersOf ring many k).isEmpty then (0 : Int) else s / 5 % 3) = (nt : Nat) ∧ nt < 3 ∧ (othersOf ring many k = [] → nt = 0) := by
    by_cases c : othersOf ring many k = []
    · exact ⟨0, by simp [c], by omega, fun _ => rfl⟩
    · obtain ⟨c3, h1, h2⟩ := range3 (s / 5)
      exact ⟨c3, by simp [c, h1], h2, fun z => absurd z c⟩
  obtain ⟨ts, z5, z8, z9, t1, t2, u5, t3⟩ := takes_loop H s k many ring (othersOf ring many k) ho6 (i + 5) (List.range nt) (fun hne z => hne (by rw [hnt0 z]; rfl)) (fun j hj => by have := List.mem_range.mp hj; omega) [] [] .un .un .un rfl (by simp; omega) (by simp; omega)
  simp only [List.length_range] at t2
  have how : ∀ w ∈ (List.range nt).map tName, wordW w = true := fun w hw => by
    obtain ⟨j, hj, rfl⟩ := List.mem_map.mp hw
    have := List.mem_range.mp hj
    exact tW (by omega)
  obtain ⟨ss, y5, y10, y12, s1, s2, w5, s3⟩ := sets_loop H s many k ring ((List.range nt).map tName) how (by simp; omega) (.own (.lst (tints (othersOf ring many k)))) (i + 1) (List.range (3 + k % 2)) (fun j hj => by have := List.mem_range.mp hj; omega) ts z5 z8 z9 .un .un .un u5 rfl (by simp; omega)
  simp only [List.length_range] at s2
  have hkn : ∀ w ∈ (List.range nt).map tName ++ sNames k, wordW w = true := fun w hw => (List.mem_append.mp hw).elim (how w) (sNames_w k w)
  obtain ⟨rs1, gs, last, f1, f2, f3, f4, f5, f6⟩ := law_filled H s k (by omega) ring ((List.range nt).map tName ++ sNames k) hkn ⟨sName 0, List.mem_append_right _ (List.mem_map.mpr ⟨0, List.mem_range.mpr (by omega), rfl⟩), rfl⟩ (by simp [sNames]; omega) (othersOf ring many k) ho6 hol (ts ++ ss) (by simp; omega) (i + 1)
  refine ⟨⟨mName k, rs1 ++ gs ++ [last]⟩, ⟨rfl, nt, ts, ss, rs1, gs, last, hnt3, t1, t2, s1, s2, f1, f2, f3, f4, f5, rfl, hnt0⟩, ?_⟩
  have e1 : ∀ ρ : Py.Env, ρ = [.val (.int s), .val (.int (k : Nat)), .val (.int (many : Nat)), .val (.bl ring), .un, .un, .un, .un, .un, .un, .un, .un, .un] → _ := fun ρ hρ =>
    lcR_one (List.range many) (fun j => T.int (j : Nat)) (fun j => decide (k < j) || (ring && decide (j ≠ k))) (fun j => T.int (j : Nat)) (i := 5) (ρ := ρ) (vc := (go P.C (callF P (i + 7)) (.or2 (.cmp .gt (.loc 5) (.loc 1)) (.and2 (.loc 3) (.cmp .ne (.loc 5) (.loc 1))))).2) (ve := (go P.C (callF P (i + 7)) (.loc 5)).1) (by simp [hρ]) (by simp [hρ]) (by simp; omega) fun j hj => by
      by_cases q : k < j
      · simp [hρ, q]
      · by_cases q2 : j = k
        · cases ring <;> simp [hρ, q2]
        · have q3 : ¬ (j : Int) = k := by omega
          cases ring <;> simp [hρ, q, q2, q3]
  have e1 := e1 _ rfl
  have hrg : rangeT 0 (many : Int) = tints (List.range many) := range_nat _
  have hb1 : (-1000000 : Int) ≤ many ∧ (many : Int) ≤ 1000000 := by omega
  have hrt : rangeT 0 (nt : Int) = tints (List.range nt) := range_nat _
  have hb2 : (-1000000 : Int) ≤ nt ∧ (nt : Int) ≤ 1000000 := by omega
  have hrs : rangeT 0 (3 + (k : Int) % 2) = tints (List.range (3 + k % 2)) := by
    rw [show (3 + (k : Int) % 2) = ((3 + k % 2 : Nat) : Int) by omega]
    exact range_nat _
  have hb3 : -1000000 ≤ 3 + (k : Int) % 2 ∧ 3 + (k : Int) % 2 ≤ 1000000 := by omega
  have gi := goods_ints 60 (othersOf ring many k)
  have hlc := lc_sNames (P := P) k (callF P (i + 7)) (i := 5) (ρ := [.val (.int s), .val (.int (k : Nat)), .val (.int (many : Nat)), .val (.bl ring), .own (.lst (tints (othersOf ring many k))), y5, .own (.lst ((ts ++ ss).map Row.T)), .own (.lst (((List.range nt).map tName).map T.str)), z8, z9, y10, .un, y12]) (by simp) (by simp [w5])
  have hln : nt + (sNames k).length ≤ 1000000 := by
    simp [sNames]
    omega
  rw [call_py H.law_module rfl]
  replace e1 : lcR (tints (List.range many)) (.one 5) (go P.C (callF P (i + 7)) (.or2 (.cmp .gt (.loc 5) (.loc 1)) (.and2 (.loc 3) (.cmp .ne (.loc 5) (.loc 1))))).2 (go P.C (callF P (i + 7)) (.loc 5)).1 [.val (.int s), .val (.int (k : Nat)), .val (.int (many : Nat)), .val (.bl ring), .un, .un, .un, .un, .un, .un, .un, .un, .un] = .ok (.new (.lst (tints (othersOf ring many k))), [.val (.int s), .val (.int (k : Nat)), .val (.int (many : Nat)), .val (.bl ring), .un, .un, .un, .un, .un, .un, .un, .un, .un]) := e1
  generalize hoth : othersOf ring many k = oth at *
  simp only [List.map_append, List.map_nil, List.nil_append] at t3 s3 hlc f6
  have hnt' : (if oth = [] then (0 : Int) else s / 5 % 3) = nt := by
    rw [← hnt]
    cases oth <;> simp
  have hol2 : oth.length ≤ 1000000 := by omega
  have hol3 : oth.length + 1 ≤ 1000000 := by omega
  cases hE : oth.isEmpty with
  | true =>
    rw [hE] at hnt
    simp at hnt
    have hnt0' : (0 : Int) = nt := hnt ▸ rfl
    have hrt0 : rangeT 0 0 = tints (List.range nt) := by rw [← hrt, ← hnt0']
    cases ring
    · simp [-List.map_map, b_law_module, hrg, hb1, e1, gi, hE, hrt0, t3, hrs, hb3, s3, hlc, hln, repL, movedS, hol2] at f6 ⊢
      simp [-List.map_map, f6]
    · simp [-List.map_map, b_law_module, hrg, hb1, e1, gi, hE, hrt0, t3, hrs, hb3, s3, hlc, hln, repL, movedS, hol3] at f6 ⊢
      simp [-List.map_map, f6]
  | false =>
    rw [hE] at hnt
    simp at hnt
    cases ring
    · simp [-List.map_map, b_law_module, hrg, hb1, e1, gi, hE, hnt, hrt, hb2, t3, hrs, hb3, s3, hlc, hln, repL, movedS, hol2] at f6 ⊢
      simp [-List.map_map, f6]
    · simp [-List.map_map, b_law_module, hrg, hb1, e1, gi, hE, hnt, hrt, hb2, t3, hrs, hb3, s3, hlc, hln, repL, movedS, hol3] at f6 ⊢
      simp [-List.map_map, f6]
end M
set_option Elab.async false
set_option linter.all false
set_option autoImplicit false
set_option maxRecDepth 100000
namespace M
open Py
variable {P : Prg} {X : Ix}
inductive Mods (ring : Bool) (many : Nat) : List Nat → List Mod → Prop
  | nil : Mods ring many [] []
  | cons {k : Nat} {m : Mod} {ks : List Nat} {ms : List Mod} : GenM ring many k m → Mods ring many ks ms → Mods ring many (k :: ks) (m :: ms)
abbrev bProg (X : Ix) : List Stm := [.exp (.m1 .append (.loc 5) (.call X.law_module [(.call X.law_seed [(.bin .add (.call X.law_cell [(.loc 0), (.bin .add (.bin .add (.loc 1) (.int 2)) (.bin .mod (.loc 6) (.int 3)))]) (.bin .mul (.int 17) (.loc 6))), (.loc 6)]), (.loc 6), (.loc 3), (.loc 4)]))]
theorem prog_loop (H : HGn P X) (ns : List Int) (at_ : Nat) (many : Nat) (hm : many ≤ 6) (ring : Bool) (x2 : Sl) (i : Nat) : ∀ (ks : List Nat), (∀ k ∈ ks, k < many) → ∀ (ms : List Mod) (x6 : Sl), ms.length + ks.length ≤ 100 →
    ∃ ms' z6, Mods ring many ks ms' ∧ ms'.length = ks.length ∧ forR (tints ks) (.one 6) (exs P.C (callF P (i + 8)) P.sub (bProg X))
      [.val (.scr ns), .val (.int (at_ : Nat)), x2, .val (.int (many : Nat)), .val (.bl ring), .own (.lst (ms.map Mod.T)), x6, .un] = .next [.val (.scr ns), .val (.int (at_ : Nat)), x2, .val (.int (many : Nat)), .val (.bl ring), .own (.lst ((ms ++ ms').map Mod.T)), z6, .un] := by
  intro ks
  induction ks with
  | nil =>
    intro _ ms x6 _
    exact ⟨[], x6, .nil, rfl, by simp⟩
  | cons k ks ih =>
    intro hk ms x6 hl
    simp only [List.length_cons] at hl
    have hce := law_cell H.toHG ns (at_ + 2 + k % 3) (i + 7)
    have e1 : ((at_ + 2 + k % 3 : Nat) : Int) = (at_ : Int) + 2 + (k : Int) % 3 := by omega
    rw [e1] at hce
    have hsd := law_seed H.toHG (cell ns (at_ + 2 + k % 3) + 17 * (k : Int)) (k : Int) (i + 7)
    obtain ⟨m, hm1, hm2⟩ := law_module H (sd (cell ns (at_ + 2 + k % 3) + 17 * (k : Int)) (k : Int)) k many (hk k (List.mem_cons_self ..)) hm ring i
    obtain ⟨ms', z6, h1, h2, h3⟩ := ih (fun k hk' => hk k (List.mem_cons_of_mem _ hk')) (ms ++ [m]) (.val (.int (k : Nat))) (by simp; omega)
    refine ⟨m :: ms', z6, .cons hm1 h1, by simp [h2], ?_⟩
    rw [show tints (k :: ks) = T.int (k : Nat) :: tints ks from rfl, forR_cons]
    have c1 : ms.length < 1000000 := by omega
    have s17 : small64 17 = true := by decide
    simp at h3
    simp [hce, s17, hsd, hm2, c1, h3]
theorem law_program (H : HGn P X) (ns : List Int) (at_ : Nat) (i : Nat) : ∃ (many turn : Nat) (ring : Bool) (ms : List Mod), 1 ≤ many ∧ many ≤ 5 ∧ turn < many ∧ ring = (cell ns (at_ + 1) % 2 == 1) ∧ Mods ring many (List.range many) ms ∧ ms.length = many ∧
    callF P (i + 9) X.law_program [.scr ns, .int (at_ : Nat)] = .ok (.tmp (pgT (ms.drop turn ++ ms.take turn))) := by
  have hc0 := law_cell H.toHG ns at_ (i + 7)
  have hc1 := law_cell H.toHG ns (at_ + 1) (i + 7)
  rw [show ((at_ + 1 : Nat) : Int) = (at_ : Int) + 1 by omega] at hc1
  have hsd := law_seed H.toHG (cell ns at_) 0 (i + 7)
  generalize hs : sd (cell ns at_) 0 = s at hsd
  obtain ⟨many, hmany, h1, h5⟩ : ∃ many : Nat, (1 : Int) + (if s / 19 % 3 = 0 then s / 3 % 5 else s / 3 % 4) = (many : Nat) ∧ 1 ≤ many ∧ many ≤ 5 := by
    split
    · exact ⟨(1 + s / 3 % 5).toNat, by omega, by omega, by omega⟩
    · exact ⟨(1 + s / 3 % 4).toNat, by omega, by omega, by omega⟩
  have hmp : (0 : Int) < many := by omega
  have hmp2 : 0 < many := h1
  obtain ⟨turn, hturn, ht⟩ : ∃ turn : Nat, s / 13 % (many : Int) = (turn : Nat) ∧ turn < many := by
    have a := Int.emod_nonneg (s / 13) (b := (many : Int)) (by omega)
    have b := Int.emod_lt_of_pos (s / 13) hmp
    exact ⟨(s / 13 % (many : Int)).toNat, by omega, by omega⟩
  obtain ⟨ms, z6, m1, m2, m3⟩ := prog_loop H ns at_ many (by omega) ((cell ns (at_ + 1) % 2 == 1)) (.val (.int s)) i (List.range many) (fun k hk => List.mem_range.mp hk) [] .un (by simp; omega)
  simp only [List.length_range] at m2
  refine ⟨many, turn, _, ms, h1, h5, ht, rfl, m1, m2, ?_⟩
  have hrg : rangeT 0 (many : Int) = tints (List.range many) := range_nat _
  have hb1 : (-1000000 : Int) ≤ many ∧ (many : Int) ≤ 1000000 := by omega
  have hcf := cut_from (ms.map Mod.T) (turn : Int) (by omega)
  have hct := cut_to (ms.map Mod.T) (turn : Int) (by omega)
  simp only [Int.toNat_natCast] at hcf hct
  have hcap : ms.length - turn + min turn ms.length ≤ 1000000 := by omega
  rw [call_py H.law_program rfl]
  simp at m3
  by_cases c : s / 19 % 3 = 0
  · rw [if_pos c] at hmany
    simp [b_law_program, hc0, hsd, c, hmany, hc1, hrg, hb1, m3, hmp2, hturn, hcf, hct, hcap, pgT]
  · rw [if_neg c] at hmany
    simp [b_law_program, hc0, hsd, c, hmany, hc1, hrg, hb1, m3, hmp2, hturn, hcf, hct, hcap, pgT]
end M
set_option Elab.async false
set_option linter.all false
set_option autoImplicit false
set_option maxRecDepth 100000
namespace M
open Py
variable {P : Prg} {X : Ix}
theorem filter_ins {α : Type} (p : α → Bool) (n : Nat) (l : List α) (x : α) (h : p x = false) : (l.take n ++ x :: l.drop n).filter p = l.filter p := by
  rw [List.filter_append, List.filter_cons_of_neg (by simp [h]), ← List.filter_append, List.take_append_drop]
theorem noted_own {own : List W} {others : List Nat} {a b : List Row} (h : Noted own others a b) : b.filter Row.isOwn = a.filter Row.isOwn ∧ b.filter Row.isGiv = a.filter Row.isGiv := by
  induction h with
  | refl => exact ⟨rfl, rfl⟩
  | note n _ he ih => exact ⟨(filter_ins _ _ _ _ rfl).trans ih.1, (filter_ins _ _ _ _ rfl).trans ih.2⟩
  | run n _ ho ih => exact ⟨(filter_ins _ _ _ _ rfl).trans ih.1, (filter_ins _ _ _ _ rfl).trans ih.2⟩
theorem noted_mem {own : List W} {others : List Nat} {a b : List Row} (h : Noted own others a b) : ∀ r ∈ b, r ∈ a ∨ (∃ e, EG own 2 e ∧ r = .note e) ∨ (∃ o ∈ others, r = .run (mName o)) := by
  induction h with
  | refl => exact fun r h => .inl h
  | note n _ he ih =>
    intro r hr
    rcases List.mem_append.mp hr with h | h
    · exact ih r (List.mem_of_mem_take h)
    · rcases List.mem_cons.mp h with rfl | h
      · exact .inr (.inl ⟨_, he, rfl⟩)
      · exact ih r (List.mem_of_mem_drop h)
  | run n _ ho ih =>
    intro r hr
    rcases List.mem_append.mp hr with h | h
    · exact ih r (List.mem_of_mem_take h)
    · rcases List.mem_cons.mp h with rfl | h
      · exact .inr (.inr ⟨_, ho, rfl⟩)
      · exact ih r (List.mem_of_mem_drop h)
theorem takes_mem {others : List Nat} {js : List Nat} {ts : List Row} (h : Takes others js ts) : ∀ r ∈ ts, ∃ j o g, j ∈ js ∧ o ∈ others ∧ g ∈ (gives o).take 4 ∧ r = .take (mName o) g (tName j) := by
  induction h with
  | nil => exact fun r h => by cases h
  | cons ho hg _ ih =>
    intro r hr
    rcases List.mem_cons.mp hr with rfl | hr
    · exact ⟨_, _, _, List.mem_cons_self .., ho, hg, rfl⟩
    · obtain ⟨j, o, g, h1, h2⟩ := ih r hr
      exact ⟨j, o, g, List.mem_cons_of_mem _ h1, h2⟩
theorem sets_mem {known : List W} {js : List Nat} {ts : List Row} (h : Sets known js ts) : ∀ r ∈ ts, ∃ j e, j ∈ js ∧ EG known 3 e ∧ r = .set (sName j) e := by
  induction h with
  | nil => exact fun r h => by cases h
  | cons he _ ih =>
    intro r hr
    rcases List.mem_cons.mp hr with rfl | hr
    · exact ⟨_, _, List.mem_cons_self .., he, rfl⟩
    · obtain ⟨j, e, h1, h2⟩ := ih r hr
      exact ⟨j, e, List.mem_cons_of_mem _ h1, h2⟩
theorem gives_mem {ring : Bool} {own : List W} {js : List Nat} {gs : List Row} (h : Gives ring own js gs) : ∀ r ∈ gs, ∃ j w, j ∈ js ∧ w ∈ someOf ring own j ∧ r = .give w (gW j) := by
  induction h with
  | nil => exact fun r h => by cases h
  | cons hw _ ih =>
    intro r hr
    rcases List.mem_cons.mp hr with rfl | hr
    · exact ⟨_, _, List.mem_cons_self .., hw, rfl⟩
    · obtain ⟨j, e, h1, h2⟩ := ih r hr
      exact ⟨j, e, List.mem_cons_of_mem _ h1, h2⟩
theorem takes_own {others : List Nat} {js : List Nat} {ts : List Row} (h : Takes others js ts) : ts.filter Row.isOwn = ts ∧ ts.filter Row.isGiv = [] ∧ ts.map Row.ownW = js.map tName := by
  induction h with
  | nil => exact ⟨rfl, rfl, rfl⟩
  | cons ho hg _ ih => exact ⟨by rw [List.filter_cons_of_pos rfl, ih.1], by rw [List.filter_cons_of_neg (by simp [Row.isGiv]), ih.2.1], by simp only [List.map_cons, ih.2.2, Row.ownW]⟩
theorem sets_own {known : List W} {js : List Nat} {ts : List Row} (h : Sets known js ts) : ts.filter Row.isOwn = ts ∧ ts.filter Row.isGiv = [] ∧ ts.map Row.ownW = js.map sName := by
  induction h with
  | nil => exact ⟨rfl, rfl, rfl⟩
  | cons he _ ih => exact ⟨by rw [List.filter_cons_of_pos rfl, ih.1], by rw [List.filter_cons_of_neg (by simp [Row.isGiv]), ih.2.1], by simp only [List.map_cons, ih.2.2, Row.ownW]⟩
theorem gives_giv {ring : Bool} {own : List W} {js : List Nat} {gs : List Row} (h : Gives ring own js gs) : gs.filter Row.isGiv = gs ∧ gs.filter Row.isOwn = [] ∧ gs.map Row.givW = js.map gW := by
  induction h with
  | nil => exact ⟨rfl, rfl, rfl⟩
  | cons he _ ih => exact ⟨by rw [List.filter_cons_of_pos rfl, ih.1], by rw [List.filter_cons_of_neg (by simp [Row.isOwn]), ih.2.1], by simp only [List.map_cons, ih.2.2, Row.givW]⟩
theorem last_giv {k : Nat} {others : List Nat} {r : Row} (h : LastOk k others r) : r.isGiv = true ∧ r.isOwn = false ∧ r.givW = pW := by
  cases h <;> exact ⟨rfl, rfl, rfl⟩
structure GM (ring : Bool) (many k : Nat) (m : Mod) (nt : Nat) (ts ss gs : List Row) (last : Row) : Prop where
  nm : m.nm = mName k
  nt3 : nt < 3
  tk : Takes (othersOf ring many k) (List.range nt) ts
  st : Sets ((List.range nt).map tName ++ sNames k) (List.range (3 + k % 2)) ss
  gv : Gives ring ((List.range nt).map tName ++ sNames k) (List.range (3 + k % 2)) gs
  la : LastOk k (othersOf ring many k) last
  fo : m.rows.filter Row.isOwn = ts ++ ss
  fg : m.rows.filter Row.isGiv = gs ++ [last]
  mem : ∀ r ∈ m.rows, r ∈ ts ∨ r ∈ ss ∨ r ∈ gs ∨ r = last ∨ (∃ e, EG ((List.range nt).map tName ++ sNames k) 2 e ∧ r = .note e) ∨ (∃ o ∈ othersOf ring many k, r = .run (mName o))
  len : m.rows.length ≤ nt + 9 + 2 * (k % 2)
  nt0 : othersOf ring many k = [] → nt = 0
theorem GenM.gm {ring : Bool} {many k : Nat} {m : Mod} (h : GenM ring many k m) : ∃ nt ts ss gs last, GM ring many k m nt ts ss gs last := by
  obtain ⟨nt, ts, ss, rs1, gs, last, h1, h2, h3, h4, h5, h6, h7, h8, h9, h10, h11, h12⟩ := h.ex
  obtain ⟨n1, n2⟩ := noted_own h6
  obtain ⟨t1, t2, t3⟩ := takes_own h2
  obtain ⟨s1, s2, s3⟩ := sets_own h4
  obtain ⟨g1, g2, g3⟩ := gives_giv h8
  obtain ⟨l1, l2, l3⟩ := last_giv h10
  refine ⟨nt, ts, ss, gs, last, h.nm, h1, h2, h4, h8, h10, ?_, ?_, fun r hr => ?_, ?_, h12⟩
  · rw [h11]
    simp [List.filter_append, n1, t1, s1, g2, l2]
  · rw [h11]
    simp [List.filter_append, n2, t2, s2, g1, l1]
  · rw [h11] at hr
    rcases List.mem_append.mp hr with hr | hr
    · rcases List.mem_append.mp hr with hr | hr
      · rcases noted_mem h6 r hr with z | z | z
        · rcases List.mem_append.mp z with z | z
          · exact .inl z
          · exact .inr (.inl z)
        · exact .inr (.inr (.inr (.inr (.inl z))))
        · exact .inr (.inr (.inr (.inr (.inr z))))
      · exact .inr (.inr (.inl hr))
    · simp only [List.mem_singleton] at hr
      exact .inr (.inr (.inr (.inl hr)))
  · rw [h11]
    simp only [List.length_append, List.length_singleton] at h7 ⊢
    omega
variable {ring : Bool} {many k nt : Nat} {m : Mod} {ts ss gs : List Row} {last : Row}
theorem GM.own (g : GM ring many k m nt ts ss gs last) : ownN m.rows = (List.range nt).map tName ++ sNames k := by
  unfold ownN
  rw [g.fo, List.map_append, (takes_own g.tk).2.2, (sets_own g.st).2.2]
  rfl
theorem GM.giv (g : GM ring many k m nt ts ss gs last) : givN m.rows = gives k := by
  unfold givN gives
  rw [g.fg, List.map_append, (gives_giv g.gv).2.2, List.map_singleton, (last_giv g.la).2.2]
theorem nodup_map {α β : Type} {f : α → β} (hf : ∀ a b, f a = f b → a = b) {l : List α} (h : l.Nodup) : (l.map f).Nodup :=
  List.Pairwise.map f (fun a b hab z => hab (hf a b z)) h
theorem own_nodup (nt k : Nat) : ((List.range nt).map tName ++ sNames k).Nodup := by
  rw [List.nodup_append]
  refine ⟨nodup_map (fun a b h => by simp [tName] at h; omega) List.nodup_range, nodup_map (fun a b h => by simp [sName] at h; omega) List.nodup_range, fun a ha b hb => ?_⟩
  obtain ⟨i, _, rfl⟩ := List.mem_map.mp ha
  obtain ⟨j, _, rfl⟩ := List.mem_map.mp hb
  simp [tName, sName]
theorem gives_nodup (k : Nat) : (gives k).Nodup := by
  unfold gives
  rw [List.nodup_append]
  refine ⟨nodup_map (fun a b h => by simp [gW] at h; omega) List.nodup_range, by simp, fun a ha b hb => ?_⟩
  obtain ⟨i, _, rfl⟩ := List.mem_map.mp ha
  simp only [List.mem_singleton] at hb
  rw [hb]
  simp [gW]
theorem othersOf_lt {o : Nat} (h : o ∈ othersOf ring many k) : o < many ∧ o ≠ k ∧ (ring = false → k < o) := by
  obtain ⟨h1, h2⟩ := List.mem_filter.mp h
  have h1 := List.mem_range.mp h1
  refine ⟨h1, ?_, ?_⟩
  · intro z
    subst z
    simp at h2
  · intro z
    subst z
    simpa using h2
theorem gW_w {j : Nat} (h : j < 4) : wordW (gW j) = true := by
  have : j = 0 ∨ j = 1 ∨ j = 2 ∨ j = 3 := by omega
  rcases this with rfl | rfl | rfl | rfl <;> decide
theorem known_w (hn : nt < 3) : ∀ w ∈ (List.range nt).map tName ++ sNames k, wordW w = true := fun w hw => by
  rcases List.mem_append.mp hw with hw | hw
  · obtain ⟨j, hj, rfl⟩ := List.mem_map.mp hw
    have := List.mem_range.mp hj
    exact tW (by omega)
  · exact sNames_w k w hw
theorem someOf_mem {own : List W} {j : Nat} {w : W} (h : w ∈ someOf ring own j) : w ∈ own ∧ (ring = true ∨ j = 0 → isS w = true) := by
  obtain ⟨h1, h2⟩ := List.mem_filter.mp h
  refine ⟨h1, fun z => ?_⟩
  rcases z with rfl | rfl <;> simpa using h2
theorem sw_own : swW ∈ (List.range nt).map tName ++ sNames k := List.mem_append_right _ (List.mem_map.mpr ⟨0, List.mem_range.mpr (by omega), rfl⟩)
theorem GM.rowok (g : GM ring many k m nt ts ss gs last) (hm : many ≤ 6) : ∀ r ∈ m.rows, r.ok := by
  intro r hr
  rcases g.mem r hr with h | h | h | h | ⟨e, he, rfl⟩ | ⟨o, ho, rfl⟩
  · obtain ⟨j, o, gg, h1, h2, h3, rfl⟩ := takes_mem g.tk r h
    have a := (othersOf_lt h2).1
    have b := List.mem_range.mp h1
    have := g.nt3
    exact ⟨mW (by omega), gives_w o _ (List.mem_of_mem_take h3), tW (by omega)⟩
  · obtain ⟨j, e, h1, h2, rfl⟩ := sets_mem g.st r h
    have b := List.mem_range.mp h1
    exact ⟨sW (by omega), h2.good (by omega)⟩
  · obtain ⟨j, w, h1, h2, rfl⟩ := gives_mem g.gv r h
    have b := List.mem_range.mp h1
    exact ⟨known_w g.nt3 w (someOf_mem h2).1, gW_w (by omega)⟩
  · have la := g.la
    rw [h]
    cases la with
    | pass ho hk =>
      have a := (othersOf_lt ho).1
      exact ⟨mW (by omega), by decide, by decide⟩
    | give _ => exact ⟨by decide, by decide⟩
  · exact he.good (by omega)
  · have a := (othersOf_lt ho).1
    exact mW (by omega)
theorem GM.good (g : GM ring many k m nt ts ss gs last) (hm : many ≤ 6) (hk : k < many) : m.good := by
  have n3 := g.nt3
  have hl := g.len
  refine ⟨by rw [g.nm]; exact mW (by omega), by omega, g.rowok hm, by rw [g.own]; exact own_nodup nt k, by rw [g.giv]; exact gives_nodup k, fun n hn => ?_⟩
  rw [g.own]
  obtain ⟨r, hr, hw⟩ := List.mem_flatMap.mp hn
  rcases g.mem r hr with h | h | h | h | ⟨e, he, rfl⟩ | ⟨o, ho, rfl⟩
  · obtain ⟨j, o, gg, h1, h2, h3, rfl⟩ := takes_mem g.tk r h
    simp [Row.used] at hw
  · obtain ⟨j, e, h1, h2, rfl⟩ := sets_mem g.st r h
    exact h2.nm n hw
  · obtain ⟨j, w, h1, h2, rfl⟩ := gives_mem g.gv r h
    simp only [Row.used, List.mem_singleton] at hw
    rw [hw]
    exact (someOf_mem h2).1
  · have la := g.la
    rw [h] at hw
    cases la with
    | pass ho hk => simp [Row.used] at hw
    | give _ =>
      simp only [Row.used, List.mem_singleton] at hw
      rw [hw]
      exact sw_own
  · exact he.nm n hw
  · simp [Row.used] at hw
end M
set_option Elab.async false
set_option linter.all false
set_option autoImplicit false
set_option maxRecDepth 100000
namespace M
open Py
variable {P : Prg} {X : Ix}
variable {ring : Bool} {many k nt : Nat} {m : Mod} {ts ss gs : List Row} {last : Row}
theorem mods_at {ks : List Nat} {ms : List Mod} (h : Mods ring many ks ms) : ms.length = ks.length ∧ ∀ (i k : Nat), ks[i]? = some k → ∃ m, ms[i]? = some m ∧ GenM ring many k m := by
  induction h with
  | nil => exact ⟨rfl, fun i k h => by simp at h⟩
  | cons hm _ ih =>
    refine ⟨by simp [ih.1], fun i k h => ?_⟩
    cases i with
    | zero =>
      simp at h
      subst h
      exact ⟨_, rfl, hm⟩
    | succ i =>
      simp at h
      obtain ⟨m, h1, h2⟩ := ih.2 i k h
      exact ⟨m, by simpa using h1, h2⟩
theorem mods_rows {ks : List Nat} {ms : List Mod} (h : Mods ring many ks ms) : rowsP ms ≤ (ks.map fun k => 11 + 2 * (k % 2)).sum := by
  induction h with
  | nil => exact Nat.le_refl _
  | cons hm _ ih =>
    obtain ⟨nt, ts, ss, gs, last, g⟩ := hm.gm
    have := g.len
    have := g.nt3
    simp only [rowsP, List.map_cons, List.sum_cons] at ih ⊢
    omega
theorem mods_names {ks : List Nat} {ms : List Mod} (h : Mods ring many ks ms) : namesP ms = ks.map mName := by
  induction h with
  | nil => rfl
  | cons hm _ ih =>
    simp only [namesP, List.map_cons] at ih ⊢
    rw [hm.nm, ih]
theorem mName_inj {a b : Nat} (h : mName a = mName b) : a = b := by
  simp [mName] at h
  exact h
structure GP (ring : Bool) (many : Nat) (p : Pg) (md : Nat → Mod) : Prop where
  lo : 1 ≤ many
  hi : many ≤ 5
  len : p.length = many
  gen : ∀ k, k < many → GenM ring many k (md k)
  mem : ∀ m, m ∈ p ↔ ∃ k, k < many ∧ m = md k
  nd : (namesP p).Nodup
  rows : rowsP p ≤ 60
theorem modOf_nd {p : Pg} (h : (namesP p).Nodup) {m : Mod} (hm : m ∈ p) : modOf p m.nm = some m := by
  unfold modOf
  induction p with
  | nil => cases hm
  | cons a p ih =>
    simp only [namesP, List.map_cons, List.nodup_cons] at h
    by_cases c : a.nm = m.nm
    · rcases List.mem_cons.mp hm with rfl | hm
      · simp
      · exact absurd (by rw [c]; exact List.mem_map_of_mem hm) h.1
    · have hc : (a.nm == m.nm) = false := by simpa using c
      rcases List.mem_cons.mp hm with rfl | hm
      · exact absurd rfl c
      · rw [List.find?_cons, hc]
        exact ih h.2 hm
theorem GP.mo {p : Pg} {md : Nat → Mod} (g : GP ring many p md) {k : Nat} (hk : k < many) : modOf p (mName k) = some (md k) := by
  have := modOf_nd g.nd ((g.mem _).mpr ⟨k, hk, rfl⟩)
  rwa [(g.gen k hk).nm] at this
theorem gp_of {ms : List Mod} {turn : Nat} (h1 : 1 ≤ many) (h5 : many ≤ 5) (h : Mods ring many (List.range many) ms) (ht : turn < many) : GP ring many (ms.drop turn ++ ms.take turn) (fun k => ms.getD k ⟨[], []⟩) := by
  have hl := (mods_at h).1
  simp only [List.length_range] at hl
  have pm : (ms.drop turn ++ ms.take turn).Perm ms := by
    have := List.perm_append_comm (l₁ := ms.drop turn) (l₂ := ms.take turn)
    rwa [List.take_append_drop] at this
  have gen : ∀ k, k < many → ms[k]? = some (ms.getD k ⟨[], []⟩) ∧ GenM ring many k (ms.getD k ⟨[], []⟩) := fun k hk => by
    obtain ⟨m, h1, h2⟩ := (mods_at h).2 k k (by simp [hk])
    rw [List.getD_eq_getElem?_getD, h1]
    exact ⟨rfl, h2⟩
  refine ⟨h1, h5, by rw [pm.length_eq, hl], fun k hk => (gen k hk).2, fun m => ?_, ?_, ?_⟩
  · rw [pm.mem_iff]
    constructor
    · intro hm
      obtain ⟨i, hi, rfl⟩ := List.getElem_of_mem hm
      refine ⟨i, by omega, ?_⟩
      rw [List.getD_eq_getElem?_getD, List.getElem?_eq_getElem hi]
      rfl
    · rintro ⟨k, hk, rfl⟩
      exact List.mem_of_getElem? (gen k hk).1
  · have : (namesP (ms.drop turn ++ ms.take turn)).Perm (namesP ms) := pm.map _
    rw [this.nodup_iff, mods_names h]
    exact nodup_map (fun a b => mName_inj) List.nodup_range
  · have e : rowsP (ms.drop turn ++ ms.take turn) = rowsP ms := (pm.map _).sum_nat
    rw [e]
    have := mods_rows h
    have h2 : ((List.range many).map fun k => 11 + 2 * (k % 2)).sum ≤ 60 := by
      have : many = 1 ∨ many = 2 ∨ many = 3 ∨ many = 4 ∨ many = 5 := by omega
      rcases this with rfl | rfl | rfl | rfl | rfl <;> decide
    omega
theorem GP.good {p : Pg} {md : Nat → Mod} (g : GP ring many p md) : PgGood p := by
  have h5 := g.hi
  refine ⟨by rw [g.len]; omega, fun m hm => ?_, g.nd, g.rows⟩
  obtain ⟨k, hk, rfl⟩ := (g.mem m).mp hm
  obtain ⟨nt, ts, ss, gs, last, q⟩ := (g.gen k hk).gm
  exact q.good (by omega) hk
theorem rowOf_flt (m : Mod) (w : W) : rowOf m w = (m.rows.filter Row.isOwn).find? fun r => r.ownW == w := by
  unfold rowOf
  rw [List.find?_filter]
  congr 1
  funext r
  by_cases h : r.ownW = w
  · cases r.isOwn <;> simp [h]
  · cases r.isOwn <;> simp [h]
theorem givOf_flt (m : Mod) (w : W) : givOf m w = (m.rows.filter Row.isGiv).find? fun r => r.givW == w := by
  unfold givOf
  rw [List.find?_filter]
  congr 1
  funext r
  by_cases h : r.givW = w
  · cases r.isGiv <;> simp [h]
  · cases r.isGiv <;> simp [h]
theorem GM.rowS (g : GM ring many k m nt ts ss gs last) {w : W} (hw : w ∈ (List.range nt).map tName ++ sNames k) (hs : isS w = true) : ∃ e, rowOf m w = some (.set w e) := by
  have ho : w ∈ ownN m.rows := by rw [g.own]; exact hw
  obtain ⟨r, hr⟩ := rowOf_own ho
  obtain ⟨h1, h2, h3⟩ := rowOf_mem hr
  have hf : r ∈ m.rows.filter Row.isOwn := List.mem_filter.mpr ⟨h1, h2⟩
  rw [g.fo] at hf
  rcases List.mem_append.mp hf with hf | hf
  · obtain ⟨j, o, gg, _, _, _, rfl⟩ := takes_mem g.tk r hf
    rw [← h3] at hs
    cases hs
  · obtain ⟨j, e, _, _, rfl⟩ := sets_mem g.st r hf
    refine ⟨e, ?_⟩
    rw [hr, ← h3]
    rfl
theorem GM.rowA (g : GM ring many k m nt ts ss gs last) {w : W} (hw : w ∈ (List.range nt).map tName ++ sNames k) : (∃ e, rowOf m w = some (.set w e)) ∨ ∃ o gg, o ∈ othersOf ring many k ∧ gg ∈ (gives o).take 4 ∧ rowOf m w = some (.take (mName o) gg w) := by
  have ho : w ∈ ownN m.rows := by rw [g.own]; exact hw
  obtain ⟨r, hr⟩ := rowOf_own ho
  obtain ⟨h1, h2, h3⟩ := rowOf_mem hr
  have hf : r ∈ m.rows.filter Row.isOwn := List.mem_filter.mpr ⟨h1, h2⟩
  rw [g.fo] at hf
  rcases List.mem_append.mp hf with hf | hf
  · obtain ⟨j, o, gg, _, a, b, rfl⟩ := takes_mem g.tk r hf
    exact .inr ⟨o, gg, a, b, by rw [hr, ← h3]; rfl⟩
  · obtain ⟨j, e, _, _, rfl⟩ := sets_mem g.st r hf
    exact .inl ⟨e, by rw [hr, ← h3]; rfl⟩
theorem gives_find {own : List W} {js : List Nat} (h : Gives ring own js gs) {j : Nat} (hj : j ∈ js) : ∃ w, w ∈ someOf ring own j ∧ gs.find? (fun r => r.givW == gW j) = some (.give w (gW j)) := by
  induction h with
  | nil => cases hj
  | @cons i js w rs hw _ ih =>
    by_cases c : i = j
    · subst c
      exact ⟨w, hw, by simp [Row.givW]⟩
    · have c2 : (gW i == gW j) = false := by simp [gW, c]
      rcases List.mem_cons.mp hj with rfl | hj
      · exact absurd rfl c
      · obtain ⟨w', h1, h2⟩ := ih hj
        refine ⟨w', h1, ?_⟩
        rw [List.find?_cons]
        simp only [Row.givW, c2]
        exact h2
theorem GM.givG (g : GM ring many k m nt ts ss gs last) {j : Nat} (hj : j < 3 + k % 2) : ∃ w, w ∈ someOf ring ((List.range nt).map tName ++ sNames k) j ∧ givOf m (gW j) = some (.give w (gW j)) := by
  obtain ⟨w, h1, h2⟩ := gives_find g.gv (List.mem_range.mpr hj)
  refine ⟨w, h1, ?_⟩
  rw [givOf_flt, g.fg, List.find?_append, h2]
  rfl
theorem GM.givP (g : GM ring many k m nt ts ss gs last) : givOf m pW = some last := by
  have hn : gs.find? (fun r => r.givW == pW) = none := by
    rw [List.find?_eq_none]
    intro r hr
    obtain ⟨j, w, _, _, rfl⟩ := gives_mem g.gv r hr
    simp [Row.givW, gW]
  rw [givOf_flt, g.fg, List.find?_append, hn]
  have := (last_giv g.la).2.2
  simp [this]
theorem gives_cases {g : W} (h : g ∈ gives k) : (∃ j, j < 3 + k % 2 ∧ g = gW j) ∨ g = pW := by
  rcases List.mem_append.mp h with h | h
  · obtain ⟨j, hj, rfl⟩ := List.mem_map.mp h
    exact .inl ⟨j, List.mem_range.mp hj, rfl⟩
  · exact .inr (List.mem_singleton.mp h)
theorem hg_set {p : Pg} {n : Nat} {met : List (W × W)} {pl nm o o' : W} {e : E} (hm : (pl, nm) ∉ met) (h1 : modOf p pl = some m) (h2 : givOf m nm = some (.give o o')) (h3 : rowOf m o = some (.set o e)) : hgF (n + 1) p met pl nm = some (.home pl o) := by
  simp only [hgF, if_neg hm, h1, h2, h3]
theorem hg_take {p : Pg} {n : Nat} {met : List (W × W)} {pl nm o o' a b c : W} (hm : (pl, nm) ∉ met) (h1 : modOf p pl = some m) (h2 : givOf m nm = some (.give o o')) (h3 : rowOf m o = some (.take a b c)) : hgF (n + 1) p met pl nm = hgF n p (met ++ [(pl, nm)]) a b := by
  simp only [hgF, if_neg hm, h1, h2, h3]
theorem hg_pass {p : Pg} {n : Nat} {met : List (W × W)} {pl nm a b c : W} (hm : (pl, nm) ∉ met) (h1 : modOf p pl = some m) (h2 : givOf m nm = some (.pass a b c)) : hgF (n + 1) p met pl nm = hgF n p (met ++ [(pl, nm)]) a b := by
  simp only [hgF, if_neg hm, h1, h2]
theorem ga_mem (o : Nat) : gaW ∈ gives o := List.mem_append_left _ (List.mem_map.mpr ⟨0, List.mem_range.mpr (by omega), rfl⟩)
theorem GP.homeR {p : Pg} {md : Nat → Mod} (g : GP true many p md) {k : Nat} (hk : k < many) {w : W} (hw : w ∈ gives k) (n : Nat) : ∃ a b, hgF (n + 2) p [] (mName k) w = some (.home a b) := by
  obtain ⟨nt, ts, ss, gs, last, q⟩ := (g.gen k hk).gm
  rcases gives_cases hw with ⟨j, hj, rfl⟩ | rfl
  · obtain ⟨v, h1, h2⟩ := q.givG hj
    obtain ⟨h3, h4⟩ := someOf_mem h1
    obtain ⟨e, h5⟩ := q.rowS h3 (h4 (.inl rfl))
    exact ⟨_, _, hg_set (by simp) (g.mo hk) h2 h5⟩
  · have h1 := q.givP
    have la := q.la
    cases la with
    | give _ =>
      obtain ⟨e, h5⟩ := q.rowS (w := swW) sw_own rfl
      exact ⟨_, _, hg_set (by simp) (g.mo hk) h1 h5⟩
    | @pass o ho _ =>
      have ho' := (othersOf_lt ho).1
      obtain ⟨nt', ts', ss', gs', last', q'⟩ := (g.gen o ho').gm
      obtain ⟨v, h2, h3⟩ := q'.givG (j := 0) (by omega)
      obtain ⟨h4, h5⟩ := someOf_mem h2
      obtain ⟨e, h6⟩ := q'.rowS h4 (h5 (.inl rfl))
      refine ⟨_, _, (hg_pass (by simp) (g.mo hk) h1).trans (hg_set (by simp) (g.mo ho') h3 h6)⟩
theorem GP.homeN {p : Pg} {md : Nat → Mod} (g : GP false many p md) : ∀ (d k : Nat), k < many → many - k ≤ d → ∀ (w : W), w ∈ gives k → ∀ (met : List (W × W)), (∀ q ∈ met, ∃ j, j < k ∧ q.1 = mName j) → ∀ n, ∃ a b, hgF (n + d) p met (mName k) w = some (.home a b) := by
  intro d
  induction d with
  | zero =>
    intro k hk hd
    omega
  | succ d ih =>
    intro k hk hd w hw met hmet n
    obtain ⟨nt, ts, ss, gs, last, q⟩ := (g.gen k hk).gm
    have hm : (mName k, w) ∉ met := fun z => by
      obtain ⟨j, hj, e⟩ := hmet _ z
      have := mName_inj e
      omega
    have hmet' : ∀ o, k < o → ∀ q ∈ met ++ [(mName k, w)], ∃ j, j < o ∧ q.1 = mName j := fun o ho q hq => by
      rcases List.mem_append.mp hq with h | h
      · obtain ⟨j, hj, e⟩ := hmet q h
        exact ⟨j, by omega, e⟩
      · simp only [List.mem_singleton] at h
        exact ⟨k, ho, by rw [h]⟩
    have own : ∀ (v v' : W), v ∈ (List.range nt).map tName ++ sNames k → givOf (md k) w = some (.give v v') → ∃ a b, hgF (n + (d + 1)) p met (mName k) w = some (.home a b) := fun v v' hv hgv => by
      rcases q.rowA hv with ⟨e, h5⟩ | ⟨o, gg, h5, h6, h7⟩
      · exact ⟨_, _, hg_set hm (g.mo hk) hgv h5⟩
      · obtain ⟨o1, o2, o3⟩ := othersOf_lt h5
        obtain ⟨a, b, e⟩ := ih o o1 (by have := o3 rfl; omega) gg (List.mem_of_mem_take h6) _ (hmet' o (o3 rfl)) n
        exact ⟨a, b, (hg_take hm (g.mo hk) hgv h7).trans e⟩
    rcases gives_cases hw with ⟨j, hj, rfl⟩ | rfl
    · obtain ⟨v, h1, h2⟩ := q.givG hj
      exact own v _ (someOf_mem h1).1 h2
    · have h1 := q.givP
      have la := q.la
      cases la with
      | give _ => exact own swW _ sw_own h1
      | @pass o ho hko =>
        obtain ⟨o1, o2, o3⟩ := othersOf_lt ho
        obtain ⟨a, b, e⟩ := ih o o1 (by omega) gaW (ga_mem o) _ (hmet' o hko) n
        exact ⟨a, b, (hg_pass hm (g.mo hk) h1).trans e⟩
theorem GP.home {p : Pg} {md : Nat → Mod} (g : GP ring many p md) {k : Nat} (hk : k < many) {w : W} (hw : w ∈ gives k) : ∃ a b, hg p (mName k) w = .home a b := by
  have h5 := g.hi
  have hs := hg_some g.good (mName k) w
  cases ring with
  | true =>
    obtain ⟨a, b, e⟩ := g.homeR hk hw 60
    exact ⟨a, b, by rw [hs] at e; exact Option.some.inj e⟩
  | false =>
    obtain ⟨a, b, e⟩ := g.homeN 5 k hk (by omega) w hw [] (fun _ h => by cases h) 57
    exact ⟨a, b, by rw [hs] at e; exact Option.some.inj e⟩
theorem GP.wants {p : Pg} {md : Nat → Mod} (g : GP ring many p md) {k : Nat} (hk : k < many) {r : Row} (hr : r ∈ (md k).rows) {w : W} (hw : r.wants = some w) : ∃ o, o ∈ othersOf ring many k ∧ w = mName o := by
  obtain ⟨nt, ts, ss, gs, last, q⟩ := (g.gen k hk).gm
  rcases q.mem r hr with h | h | h | h | ⟨e, he, rfl⟩ | ⟨o, ho, rfl⟩
  · obtain ⟨j, o, gg, h1, h2, h3, rfl⟩ := takes_mem q.tk r h
    simp [Row.wants] at hw
    exact ⟨o, h2, hw.symm⟩
  · obtain ⟨j, e, h1, h2, rfl⟩ := sets_mem q.st r h
    simp [Row.wants] at hw
  · obtain ⟨j, w, h1, h2, rfl⟩ := gives_mem q.gv r h
    simp [Row.wants] at hw
  · have la := q.la
    rw [h] at hw
    cases la with
    | pass ho hk =>
      simp [Row.wants] at hw
      exact ⟨_, ho, hw.symm⟩
    | give _ => simp [Row.wants] at hw
  · simp [Row.wants] at hw
  · simp [Row.wants] at hw
    exact ⟨o, ho, hw.symm⟩
theorem GP.err {p : Pg} {md : Nat → Mod} (g : GP ring many p md) : pgErr X p = none := by
  unfold pgErr
  rw [List.findSome?_eq_none_iff]
  intro m hm
  obtain ⟨k, hk, rfl⟩ := (g.mem m).mp hm
  rw [List.findSome?_eq_none_iff]
  intro r hr
  obtain ⟨nt, ts, ss, gs, last, q⟩ := (g.gen k hk).gm
  rcases q.mem r hr with h | h | h | h | ⟨e, he, rfl⟩ | ⟨o, ho, rfl⟩
  · obtain ⟨j, o, gg, h1, h2, h3, rfl⟩ := takes_mem q.tk r h
    obtain ⟨a, b, e⟩ := g.home (othersOf_lt h2).1 (List.mem_of_mem_take h3)
    simp only [rowErr, e]
  · obtain ⟨j, e, h1, h2, rfl⟩ := sets_mem q.st r h
    rfl
  · obtain ⟨j, w, h1, h2, rfl⟩ := gives_mem q.gv r h
    rfl
  · have la := q.la
    rw [h]
    cases la with
    | pass ho hk =>
      obtain ⟨a, b, e⟩ := g.home (othersOf_lt ho).1 (ga_mem _)
      simp only [rowErr, e]
    | give _ => rfl
  · rfl
  · simp only [rowErr, g.mo (othersOf_lt ho).1]
    rfl
theorem drawn (H : HGn P X) (ns : List Int) (at_ : Nat) (i : Nat) : ∃ (ring : Bool) (many : Nat) (p : Pg) (md : Nat → Mod), GP ring many p md ∧ ring = (cell ns (at_ + 1) % 2 == 1) ∧ callF P (i + 9) X.law_program [.scr ns, .int (at_ : Nat)] = .ok (.tmp (pgT p)) := by
  obtain ⟨many, turn, ring, ms, h1, h2, h3, h4, h5, h6, h7⟩ := law_program H ns at_ i
  exact ⟨ring, many, _, _, gp_of h1 h2 h5 h3, h4, h7⟩
end M
set_option Elab.async false
set_option linter.all false
set_option autoImplicit false
set_option maxRecDepth 100000
namespace M
open Py
variable {P : Prg} {X : Ix}
variable {ring : Bool} {many k nt : Nat} {m : Mod} {ts ss gs : List Row} {last : Row}
theorem visF_call {p : Pg} (R : VS → VS → Prop) (rf : ∀ s, R s s) (tr : ∀ a b c, R a b → R b c → R a c) (st : ∀ (s : VS) (pl : W) (m : Mod) (s2 : VS), pl ∉ s.1 → modOf p pl = some m → R (s.1 ++ [pl], s.2) s2 → R s (s2.1, s2.2 ++ [pl])) :
    ∀ (n : Nat) (pl : W) (s s' : VS), visF p n pl s = some s' → R s s' := by
  intro n
  induction n with
  | zero =>
    intro pl s s' h
    cases h
  | succ n ih =>
    intro pl s s' h
    simp only [visF] at h
    split at h
    · cases h
      exact rf _
    · rename_i hn
      split at h
      · cases h
      · rename_i m hm
        obtain ⟨s2, h2, rfl⟩ := Option.map_eq_some_iff.mp h
        exact st s pl m s2 hn hm (visRows_rel R rf tr (fun w s s' => ih w s s') m.rows _ _ h2)
def ExtR (s s' : VS) : Prop := ∃ new new2, s'.1 = s.1 ++ new ∧ s'.2 = s.2 ++ new2 ∧ new2.Perm new
theorem ExtR.refl (s : VS) : ExtR s s := ⟨[], [], by simp, by simp, List.Perm.refl _⟩
theorem ExtR.trans {a b c : VS} (h : ExtR a b) (g : ExtR b c) : ExtR a c := by
  obtain ⟨n1, m1, e1, e2, p1⟩ := h
  obtain ⟨n2, m2, e3, e4, p2⟩ := g
  exact ⟨n1 ++ n2, m1 ++ m2, by rw [e3, e1, List.append_assoc], by rw [e4, e2, List.append_assoc], p1.append p2⟩
theorem visF_ext {p : Pg} {n : Nat} {pl : W} {s s' : VS} (h : visF p n pl s = some s') : ExtR s s' :=
  visF_call ExtR ExtR.refl (fun a b c => ExtR.trans) (fun s pl m s2 _ _ ⟨n1, m1, e1, e2, p1⟩ => ⟨[pl] ++ n1, m1 ++ [pl], by simp [e1], by simp [e2], by
    have := List.perm_append_comm (l₁ := m1) (l₂ := [pl])
    exact this.trans (p1.append_left [pl])⟩) n pl s s' h
def NdR (p : Pg) (s s' : VS) : Prop := s.1.Nodup → (∀ w ∈ s.1, (modOf p w).isSome = true) → s'.1.Nodup ∧ ∀ w ∈ s'.1, (modOf p w).isSome = true
theorem visF_nd {p : Pg} {n : Nat} {pl : W} {s s' : VS} (h : visF p n pl s = some s') : NdR p s s' :=
  visF_rel (NdR p) (fun s a b => ⟨a, b⟩) (fun a b c h g x y => (g (h x y).1 (h x y).2)) (fun s pl m hn hm a b => by
    refine ⟨?_, fun w hw => ?_⟩
    · rw [List.nodup_append]
      refine ⟨a, by simp, fun x hx y hy => ?_⟩
      simp only [List.mem_singleton] at hy
      exact fun z => hn (by rw [← hy, ← z]; exact hx)
    · rcases List.mem_append.mp hw with hw | hw
      · exact b w hw
      · simp only [List.mem_singleton] at hw
        rw [hw, hm]
        rfl) (fun s pl m _ a b => ⟨a, b⟩) n pl s s' h
def PgW (p : Pg) : Prop := ∀ m ∈ p, ∀ r ∈ m.rows, ∀ w, r.wants = some w → (modOf p w).isSome = true
theorem modOf_name {p : Pg} {w : W} (h : (modOf p w).isSome = true) : w ∈ namesP p := by
  obtain ⟨m, hm⟩ := Option.isSome_iff_exists.mp h
  obtain ⟨h1, h2⟩ := modOf_mem hm
  rw [← h2]
  exact List.mem_map_of_mem h1
theorem visF_total {p : Pg} (hw : PgW p) : ∀ (n : Nat) (pl : W) (s : VS), (modOf p pl).isSome = true → s.1.Nodup → (∀ w ∈ s.1, (modOf p w).isSome = true) → p.length + 1 ≤ n + s.1.length → ∃ s', visF p n pl s = some s' := by
  intro n
  induction n with
  | zero =>
    intro pl s _ h1 h2 h3
    have := nodup_le s.1 (namesP p) h1 fun w hw => modOf_name (h2 w hw)
    simp [namesP] at this
    omega
  | succ n ih =>
    intro pl s hpl h1 h2 h3
    obtain ⟨m, hm⟩ := Option.isSome_iff_exists.mp hpl
    simp only [visF]
    by_cases c : pl ∈ s.1
    · exact ⟨s, by rw [if_pos c]⟩
    · rw [if_neg c, hm]
      have key : ∀ (rs : List Row), (∀ r ∈ rs, r ∈ m.rows) → ∀ (s1 : VS), s1.1.Nodup → (∀ w ∈ s1.1, (modOf p w).isSome = true) → p.length + 1 ≤ n + s1.1.length → ∃ s', visRows (visF p n) rs s1 = some s' := by
        intro rs
        induction rs with
        | nil => exact fun _ s1 _ _ _ => ⟨s1, rfl⟩
        | cons r rs ihr =>
          intro hr s1 a b c
          simp only [visRows]
          cases e : r.wants with
          | none => exact ihr (fun r h => hr r (List.mem_cons_of_mem _ h)) s1 a b c
          | some w =>
            obtain ⟨s2, h2⟩ := ih w s1 (hw m (modOf_mem hm).1 r (hr r (List.mem_cons_self ..)) w e) a b c
            obtain ⟨a2, b2⟩ := visF_nd h2 a b
            have := (visF_len h2).1
            obtain ⟨s3, h3⟩ := ihr (fun r h => hr r (List.mem_cons_of_mem _ h)) s2 a2 b2 (by omega)
            exact ⟨s3, by show (visF p n w s1).bind _ = _; rw [h2]; exact h3⟩
      obtain ⟨a1, b1⟩ : (s.1 ++ [pl]).Nodup ∧ ∀ w ∈ s.1 ++ [pl], (modOf p w).isSome = true := by
        refine ⟨?_, fun w hw => ?_⟩
        · rw [List.nodup_append]
          refine ⟨h1, by simp, fun x hx y hy => ?_⟩
          simp only [List.mem_singleton] at hy
          exact fun z => c (by rw [← hy, ← z]; exact hx)
        · rcases List.mem_append.mp hw with hw | hw
          · exact h2 w hw
          · simp only [List.mem_singleton] at hw
            rw [hw, hm]
            rfl
      obtain ⟨s2, h2⟩ := key m.rows (fun _ h => h) (s.1 ++ [pl], s.2) a1 b1 (by simp; omega)
      exact ⟨_, by simp only [h2]; rfl⟩
def ordS (p : Pg) (pl : W) : VS := (visF p 8 pl ([], [])).getD ([], [])
def ord (p : Pg) (pl : W) : List W := (ordS p pl).2
theorem ord_some {p : Pg} (hw : PgW p) (hl : p.length ≤ 6) {pl : W} (h : (modOf p pl).isSome = true) : visF p 8 pl ([], []) = some (ordS p pl) := by
  obtain ⟨s', e⟩ := visF_total hw 8 pl ([], []) h (by simp) (fun _ h => by cases h) (by simp; omega)
  unfold ordS
  rw [e]
  rfl
structure OrdOk (p : Pg) (pl : W) : Prop where
  perm : (ord p pl).Perm (ordS p pl).1
  nd : (ord p pl).Nodup
  mods : ∀ w ∈ ord p pl, (modOf p w).isSome = true
  last : ∃ t, ord p pl = t ++ [pl]
  len : (ord p pl).length ≤ 6 ∧ (ordS p pl).1.length ≤ 6
theorem ord_ok {p : Pg} (hw : PgW p) (hl : p.length ≤ 6) {pl : W} (h : (modOf p pl).isSome = true) : OrdOk p pl := by
  have e := ord_some hw hl h
  obtain ⟨n1, n2, e1, e2, pm⟩ := visF_ext e
  simp only [List.nil_append] at e1 e2
  obtain ⟨nd1, nd2⟩ := visF_nd e (by simp) (fun _ h => by cases h)
  have pm : (ord p pl).Perm (ordS p pl).1 := by
    unfold ord
    rw [e1, e2]
    exact pm
  have l1 := nodup_le (ordS p pl).1 (namesP p) nd1 fun w hw => modOf_name (nd2 w hw)
  simp [namesP] at l1
  refine ⟨pm, pm.nodup_iff.mpr nd1, fun w hw => nd2 w (pm.mem_iff.mp hw), ?_, by rw [pm.length_eq]; omega, by omega⟩
  obtain ⟨m, hm⟩ := Option.isSome_iff_exists.mp h
  simp only [visF, hm] at e
  simp at e
  obtain ⟨a, b, _, e4⟩ := e
  exact ⟨b, by unfold ord; rw [← e4]⟩
theorem order_ofS (H : HO P X) {p : Pg} (hp : PgOk p) (hw : PgW p) (hl : p.length ≤ 6) {pl : W} (h : (modOf p pl).isSome = true) (k : Nat) : callF P (k + 10) X.order_of [pgT p, .str pl] = .ok (.new (.lst (tstrs (ord p pl)))) := by
  have ok := ord_ok hw hl h
  have g1 : gdW pl = true := by
    obtain ⟨m, hm⟩ := Option.isSome_iff_exists.mp h
    obtain ⟨h1, h2⟩ := modOf_mem hm
    rw [← h2]
    exact (wordW_gd (hp m h1).1).2.1
  have l1 := ok.len.1
  have l2 := ok.len.2
  exact order_of H hp (ord_some hw hl h) g1 (by omega) (show (ord p pl).length ≤ 1000 by omega) k
theorem GP.w {p : Pg} {md : Nat → Mod} (g : GP ring many p md) : PgW p := fun m hm r hr w hw => by
  obtain ⟨k, hk, rfl⟩ := (g.mem m).mp hm
  obtain ⟨o, ho, rfl⟩ := g.wants hk hr hw
  rw [g.mo (othersOf_lt ho).1]
  rfl
def Topo (p : Pg) (f : List W) : Prop := ∀ a w b, f = a ++ w :: b → ∀ m, modOf p w = some m → ∀ r ∈ m.rows, ∀ v, r.wants = some v → v ∈ a
theorem topo_snoc {p : Pg} {f : List W} {w : W} (h : Topo p f) (hw : ∀ m, modOf p w = some m → ∀ r ∈ m.rows, ∀ v, r.wants = some v → v ∈ f) : Topo p (f ++ [w]) := by
  intro a u b e m hm r hr v hv
  rcases List.eq_nil_or_concat b with rfl | ⟨b', x, rfl⟩
  · have e' : f ++ [w] = a ++ [u] := e
    obtain ⟨rfl, e2⟩ := List.append_inj' e' rfl
    simp only [List.cons.injEq, and_true] at e2
    subst e2
    exact hw m hm r hr v hv
  · have e' : f ++ [w] = (a ++ u :: b') ++ [x] := by rw [e]; simp
    obtain ⟨e1, e2⟩ := List.append_inj' e' rfl
    exact h a u b' e1 m hm r hr v hv
def InvT (p : Pg) (K : Nat) (s : VS) : Prop := Topo p s.2 ∧ ∀ w ∈ s.1, w ∈ s.2 ∨ ∃ j, j < K ∧ w = mName j
theorem GP.topo {p : Pg} {md : Nat → Mod} (g : GP false many p md) : ∀ (n k : Nat), k < many → ∀ (s s' : VS) (K : Nat), K ≤ k → visF p n (mName k) s = some s' → InvT p K s → InvT p K s' ∧ mName k ∈ s'.2 := by
  intro n
  induction n with
  | zero =>
    intro k _ s s' K _ h
    cases h
  | succ n ih =>
    intro k hk s s' K hK h hi
    simp only [visF] at h
    split at h
    · rename_i hm
      cases h
      refine ⟨hi, ?_⟩
      rcases hi.2 _ hm with z | ⟨j, hj, e⟩
      · exact z
      · have := mName_inj e
        omega
    · rename_i hn
      rw [g.mo hk] at h
      obtain ⟨s2, h2, rfl⟩ := Option.map_eq_some_iff.mp h
      have key : ∀ (rs : List Row), (∀ r ∈ rs, r ∈ (md k).rows) → ∀ (s1 s2 : VS), visRows (visF p n) rs s1 = some s2 → InvT p (k + 1) s1 → InvT p (k + 1) s2 ∧ ∀ r ∈ rs, ∀ v, r.wants = some v → v ∈ s2.2 := by
        intro rs
        induction rs with
        | nil =>
          intro _ s1 s2 h hi
          cases h
          exact ⟨hi, fun r h => by cases h⟩
        | cons r rs ihr =>
          intro hr s1 s2 h hi
          simp only [visRows] at h
          cases e : r.wants with
          | none =>
            rw [e] at h
            obtain ⟨a, b⟩ := ihr (fun r h => hr r (List.mem_cons_of_mem _ h)) s1 s2 h hi
            refine ⟨a, fun x hx v hv => ?_⟩
            rcases List.mem_cons.mp hx with rfl | hx
            · rw [e] at hv
              cases hv
            · exact b x hx v hv
          | some w =>
            rw [e] at h
            obtain ⟨s3, h3, h4⟩ := Option.bind_eq_some_iff.mp h
            obtain ⟨o, ho, rfl⟩ := g.wants hk (hr r (List.mem_cons_self ..)) e
            obtain ⟨o1, o2, o3⟩ := othersOf_lt ho
            have o3 := o3 rfl
            obtain ⟨i3, m3⟩ := ih o o1 s1 s3 (k + 1) (by omega) h3 hi
            obtain ⟨a, b⟩ := ihr (fun r h => hr r (List.mem_cons_of_mem _ h)) s3 s2 h4 i3
            obtain ⟨_, n2, _, e2, _⟩ := visRows_rel ExtR ExtR.refl (fun a b c => ExtR.trans) (fun w s s' => visF_ext) rs s3 s2 h4
            refine ⟨a, fun x hx v hv => ?_⟩
            rcases List.mem_cons.mp hx with rfl | hx
            · rw [e] at hv
              cases hv
              rw [e2]
              exact List.mem_append_left _ m3
            · exact b x hx v hv
      have i1 : InvT p (k + 1) (s.1 ++ [mName k], s.2) := ⟨hi.1, fun w hw => by
        rcases List.mem_append.mp hw with hw | hw
        · rcases hi.2 w hw with z | ⟨j, hj, e⟩
          · exact .inl z
          · exact .inr ⟨j, by omega, e⟩
        · simp only [List.mem_singleton] at hw
          exact .inr ⟨k, by omega, hw⟩⟩
      obtain ⟨i2, all⟩ := key (md k).rows (fun _ h => h) _ s2 h2 i1
      obtain ⟨n1, n2, e1, e2, pm⟩ := visRows_rel ExtR ExtR.refl (fun a b c => ExtR.trans) (fun w s s' => visF_ext) _ _ s2 h2
      refine ⟨⟨topo_snoc i2.1 fun m hm r hr v hv => ?_, fun w hw => ?_⟩, by simp⟩
      · rw [g.mo hk] at hm
        cases hm
        exact all r hr v hv
      · have hw : w ∈ s2.1 := hw
        rw [e1] at hw
        rcases List.mem_append.mp hw with hw | hw
        · rcases List.mem_append.mp hw with hw | hw
          · rcases hi.2 w hw with z | z
            · refine .inl (List.mem_append_left _ ?_)
              rw [e2]
              exact List.mem_append_left _ z
            · exact .inr z
          · simp only [List.mem_singleton] at hw
            exact .inl (List.mem_append_right _ (by rw [hw]; simp))
        · refine .inl (List.mem_append_left _ ?_)
          rw [e2]
          exact List.mem_append_right _ (pm.mem_iff.mpr hw)
theorem GP.topoO {p : Pg} {md : Nat → Mod} (g : GP false many p md) {k : Nat} (hk : k < many) : Topo p (ord p (mName k)) := by
  have h5 := g.hi
  have e := ord_some g.w (by rw [g.len]; omega) (pl := mName k) (by rw [g.mo hk]; rfl)
  exact (g.topo 8 k hk _ _ 0 (by omega) e ⟨fun a w b h => by simp at h, fun w h => by cases h⟩).1.1
abbrev St := List (W × Nat) × List W × List W
def stepS (p : Pg) (here : W) (at_ : Nat) (stk : List (W × Nat)) (met found : List W) : Option St := match modOf p here with
  | none => none
  | some m => match m.rows[at_]? with
    | none => if at_ = m.rows.length then some (stk, met, found ++ [here]) else none
    | some r => match r.wants with
      | none => some (stk ++ [(here, at_ + 1)], met, found)
      | some w => if w ∈ met then some (stk ++ [(here, at_ + 1)], met, found) else some (stk ++ [(here, at_ + 1), (w, 0)], met ++ [w], found)
inductive Run (p : Pg) : Nat → St → St → Prop
  | zero (s : St) : Run p 0 s s
  | step {n : Nat} {here : W} {at_ : Nat} {stk : List (W × Nat)} {met found : List W} {s t : St} : at_ ≤ 60 → stepS p here at_ stk met found = some s → Run p n s t → Run p (n + 1) (stk ++ [(here, at_)], met, found) t
theorem Run.trans {p : Pg} {a b : Nat} {s t u : St} (h : Run p a s t) (g : Run p b t u) : Run p (a + b) s u := by
  induction h with
  | zero => simpa using g
  | @step n here at_ stk met found s t hat hs _ ih =>
    have := Run.step hat hs (ih g)
    rwa [show n + 1 + b = n + b + 1 by omega]
def cost (p : Pg) (l : List W) : Nat := (l.map fun w => ((modOf p w).map fun m => m.rows.length).getD 0 + 1).sum
theorem run_vis {p : Pg} (hr60 : ∀ m ∈ p, m.rows.length ≤ 60) : ∀ (n : Nat) (pl : W) (s s' : VS), visF p n pl s = some s' → pl ∉ s.1 → ∀ stk, ∃ N, Run p N (stk ++ [(pl, 0)], s.1 ++ [pl], s.2) (stk, s'.1, s'.2) ∧ N + cost p s.1 = cost p s'.1 := by
  intro n
  induction n with
  | zero =>
    intro pl s s' h
    cases h
  | succ n ih =>
    intro pl s s' h hn stk
    simp only [visF, if_neg hn] at h
    cases hm : modOf p pl with
    | none =>
      rw [hm] at h
      cases h
    | some m =>
      rw [hm] at h
      obtain ⟨s2, h2, rfl⟩ := Option.map_eq_some_iff.mp h
      have h60 := hr60 m (modOf_mem hm).1
      have key : ∀ (rs : List Row) (i : Nat), m.rows.drop i = rs → i ≤ m.rows.length → ∀ (s1 s2 : VS), visRows (visF p n) rs s1 = some s2 → ∃ N, Run p N (stk ++ [(pl, i)], s1.1, s1.2) (stk ++ [(pl, m.rows.length)], s2.1, s2.2) ∧ N + cost p s1.1 = cost p s2.1 + (m.rows.length - i) := by
        intro rs
        induction rs with
        | nil =>
          intro i hd hi s1 s2 h
          cases h
          have : i = m.rows.length := by
            have := congrArg List.length hd
            simp at this
            omega
          subst this
          exact ⟨0, .zero _, by omega⟩
        | cons r rs ihr =>
          intro i hd hi s1 s2 h
          have hlt : i < m.rows.length := by
            have := congrArg List.length hd
            simp at this
            omega
          have hri : m.rows[i]? = some r := by
            have := List.drop_eq_getElem_cons hlt
            rw [this] at hd
            rw [List.getElem?_eq_getElem hlt, (List.cons.inj hd).1]
          have hd2 : m.rows.drop (i + 1) = rs := by
            have := List.drop_eq_getElem_cons hlt
            rw [this] at hd
            exact (List.cons.inj hd).2
          simp only [visRows] at h
          cases e : r.wants with
          | none =>
            rw [e] at h
            obtain ⟨N, r1, r2⟩ := ihr (i + 1) hd2 (by omega) s1 s2 h
            exact ⟨N + 1, .step (by omega) (by simp only [stepS, hm, hri, e]) r1, by omega⟩
          | some w =>
            rw [e] at h
            obtain ⟨s3, h3, h4⟩ := Option.bind_eq_some_iff.mp h
            obtain ⟨N, r1, r2⟩ := ihr (i + 1) hd2 (by omega) s3 s2 h4
            by_cases hw : w ∈ s1.1
            · have e3 : s3 = s1 := by
                cases n with
                | zero => cases h3
                | succ n =>
                  simp only [visF, if_pos hw] at h3
                  exact (Option.some.inj h3).symm
              subst e3
              exact ⟨N + 1, .step (by omega) (by simp only [stepS, hm, hri, e, if_pos hw]) r1, by omega⟩
            · obtain ⟨N2, r3, r4⟩ := ih w s1 s3 h3 hw (stk ++ [(pl, i + 1)])
              refine ⟨(N2 + N) + 1, .step (by omega) (s := (stk ++ [(pl, i + 1), (w, 0)], s1.1 ++ [w], s1.2)) (by simp only [stepS, hm, hri, e, if_neg hw]) ?_, by omega⟩
              have r3' : Run p N2 (stk ++ [(pl, i + 1), (w, 0)], s1.1 ++ [w], s1.2) (stk ++ [(pl, i + 1)], s3.1, s3.2) := by
                simpa using r3
              exact r3'.trans r1
      obtain ⟨N, r1, r2⟩ := key m.rows 0 rfl (by omega) _ s2 h2
      refine ⟨N + 1, r1.trans (.step (by omega) (by simp [stepS, hm]) (.zero _)), ?_⟩
      have ec : cost p (s.1 ++ [pl]) = cost p s.1 + (m.rows.length + 1) := by
        simp [cost, hm]
      simp only [ec] at r2
      show N + 1 + cost p s.1 = cost p s2.1
      omega
theorem cost_le {p : Pg} (hr60 : ∀ m ∈ p, m.rows.length ≤ 60) (l : List W) : cost p l ≤ 61 * l.length := by
  induction l with
  | nil => exact Nat.le_refl _
  | cons w l ih =>
    have : ((modOf p w).map fun m => m.rows.length).getD 0 ≤ 60 := by
      cases e : modOf p w with
      | none => simp
      | some m => exact hr60 m (modOf_mem e).1
    simp only [cost, List.map_cons, List.sum_cons, List.length_cons] at ih ⊢
    omega
theorem run_ord {p : Pg} (hr60 : ∀ m ∈ p, m.rows.length ≤ 60) (hw : PgW p) (hl : p.length ≤ 6) {pl : W} (h : (modOf p pl).isSome = true) : ∃ N met, N ≤ 1000 ∧ Run p N ([(pl, 0)], [pl], []) ([], met, ord p pl) := by
  obtain ⟨N, r, e⟩ := run_vis hr60 8 pl ([], []) (ordS p pl) (ord_some hw hl h) (by simp) []
  have ok := ord_ok hw hl h
  have := cost_le hr60 (ordS p pl).1
  have := ok.len.2
  have e0 : cost p ([] : List W) = 0 := rfl
  refine ⟨N, (ordS p pl).1, ?_, by simpa [ord] using r⟩
  simp only [e0] at e
  omega
end M
set_option Elab.async false
set_option linter.all false
set_option autoImplicit false
set_option maxRecDepth 100000
namespace Py
theorem whlR_succ (c : Ex) (b : List Stm) (C : List T) (call : Nat → List T → CRes) (sub : Nat → Nat → Bool) (n : Nat) (ρ : Env) : whlR c b C call sub (n + 1) ρ = sbndP ((go C call c).2 ρ) fun k ρ => if k then sseq (exs C call sub b ρ) (whlR c b C call sub n) else .next ρ := by
  unfold whlR
  conv => lhs; unfold whlGo
  simp only [sbndP, sbnd, sseq]
  cases (go C call c).2 ρ with
  | ok a =>
    obtain ⟨k, ρ'⟩ := a
    cases k
    · rfl
    · simp only [if_true]
      all_goals (cases exs C call sub b ρ' <;> rfl)
  | exc c ρ' => rfl
  | stuck => rfl
@[simp] theorem eqTs_app_nil (l : List T) (x : T) : eqTs (l ++ [x]) [] = false := by cases l <;> rfl
@[simp] theorem popT_app (l : List T) (x : T) : popT (.lst (l ++ [x])) = some (.lst l, .tmp x) := by
  simp [popT]
end Py
namespace M
open Py
variable {P : Prg} {X : Ix}
variable {ring : Bool} {many k nt : Nat} {m : Mod}
theorem law_rows (H : P.fns[X.law_rows]? = some (F_law_rows X)) (p : Pg) (hp : PgOk p) (w : W) (hw : gdW w = true) (i : Nat) : callF P (i + 1) X.law_rows [pgT p, .str w] = .ok (.tmp (optT (fun m => .tup (m.rows.map Row.T)) (modOf p w))) := by
  rw [call_py H rfl]
  have key : ∀ (ms : Pg), (∀ m ∈ ms, m ∈ p) → ∀ x2 x3 : Sl, ∃ z2 z3, forR (ms.map Mod.T) (.many [2, 3]) (exs P.C (callF P i) P.sub [.ite (.cmp .eq (.loc 2) (.loc 1)) [.ret (.loc 3)] []]) [.val (pgT p), .val (.str w), x2, x3] = match modOf ms w with
      | some m => .ret (.tmp (.tup (m.rows.map Row.T))) [.val (pgT p), .val (.str w), z2, z3]
      | none => .next [.val (pgT p), .val (.str w), z2, z3] := by
    intro ms
    induction ms with
    | nil => exact fun _ x2 x3 => ⟨x2, x3, rfl⟩
    | cons m ms ih =>
      intro hm x2 x3
      have g := wordW_gd (hp m (hm m (List.mem_cons_self ..))).1
      by_cases c : m.nm = w
      · refine ⟨.val (.str m.nm), .val (.tup (m.rows.map Row.T)), ?_⟩
        rw [List.map_cons, forR_cons]
        simp [Mod.T, modOf, c, hw]
      · obtain ⟨z2, z3, e⟩ := ih (fun m h => hm m (List.mem_cons_of_mem _ h)) (.val (.str m.nm)) (.val (.tup (m.rows.map Row.T)))
        refine ⟨z2, z3, ?_⟩
        rw [List.map_cons, forR_cons]
        have hc : (m.nm == w) = false := by simpa using c
        have em : modOf (m :: ms) w = modOf ms w := by
          unfold modOf
          rw [List.find?_cons, hc]
        rw [em, ← e]
        simp [Mod.T, c, hw, g]
  obtain ⟨z2, z3, e⟩ := key p (fun m h => h) .un .un
  simp only [pgT] at e ⊢
  cases hm : modOf p w with
  | none =>
    rw [hm] at e
    simp [b_law_rows, e, optT]
  | some m =>
    rw [hm] at e
    simp [b_law_rows, e, optT]
structure HOr (P : Prg) (X : Ix) : Prop extends HO P X where
  order : P.fns[X.order]? = some (F_order X)
theorem order_ok (H : HOr P X) {p : Pg} (hp : PgGood p) (he : pgErr X p = none) (hw : PgW p) {pl : W} (hpl : wordW pl = true) (h : (modOf p pl).isSome = true) (k : Nat) : callF P (k + 24) X.order [pgT p, .str pl] = .ok (.new (.lst (tstrs (ord p pl)))) := by
  have ok : okT (.str pl) = true := by simp [wl hpl]
  have lm := look_module_ok H.toHH H.look_module hp he ok k
  have e : (modT p (.str pl)).isSome = true := by simp [modT, hpl, h]
  rw [if_pos e] at lm
  have oo := order_ofS H.toHO hp.ok hw hp.len h (k + 13)
  rw [call_py H.order rfl]
  simp [b_order, lm, oo]
theorem order_no (H : HOr P X) {p : Pg} (hp : PgGood p) (he : pgErr X p = none) {t : T} (ho : okT t = true) (h : modT p t = none) (k : Nat) : callF P (k + 24) X.order [pgT p, t] = .exc X.xNoModule := by
  have lm := look_module_ok H.toHH H.look_module hp he ho k
  rw [h] at lm
  simp at lm
  rw [call_py H.order rfl]
  simp [b_order, lm]
abbrev frT (f : W × Nat) : T := .tup [.str f.1, .int (f.2 : Nat)]
abbrev bStack (X : Ix) : List Stm := [.asgt [5, 6] (.m0 .pop (.loc 4)), .asg 7 (.call X.law_rows [(.loc 0), (.loc 5)]), .ite (.cmp .eq (.loc 6) (.b1 .len (.loc 7))) [.exp (.m1 .append (.loc 2) (.loc 5))] [.exp (.m1 .append (.loc 4) (.tup [(.loc 5), (.bin .add (.loc 6) (.int 1))])), .ite (.and2 (.cmp .isin (.ix (.ix (.loc 7) (.loc 6)) (.int 0)) (.tup [(.str [116, 97, 107, 101]), (.str [112, 97, 115, 115]), (.str [114, 117, 110])])) (.cmp .notin (.ix (.ix (.loc 7) (.loc 6)) (.int 1)) (.loc 3))) [.exp (.m1 .append (.loc 3) (.ix (.ix (.loc 7) (.loc 6)) (.int 1))), .exp (.m1 .append (.loc 4) (.tup [(.ix (.ix (.loc 7) (.loc 6)) (.int 1)), (.int 0)]))] []]]
@[simp] theorem goods_frs : ∀ (n : Nat) (l : List (W × Nat)), (∀ q ∈ l, gdW q.1 = true) → goods (n + 1) (l.map frT) = true
  | n, [], _ => by simp
  | n, q :: l, h => by
    have := h q (List.mem_cons_self ..)
    have := goods_frs n l fun w hw => h w (List.mem_cons_of_mem _ hw)
    simp [*]
structure StOk (s : St) : Prop where
  a : ∀ q ∈ s.1, gdW q.1 = true
  b : ∀ w ∈ s.2.1, gdW w = true
  la : s.1.length ≤ 5000
  lb : s.2.1.length ≤ 5000
  lc : s.2.2.length ≤ 5000
theorem stack_run (H : P.fns[X.law_rows]? = some (F_law_rows X)) {p : Pg} (hp : PgOk p) (i : Nat) : ∀ (N : Nat) (s t : St), Run p N s t → t.1 = [] → (∀ q ∈ s.1, gdW q.1 = true) → (∀ w ∈ s.2.1, gdW w = true) → s.1.length + 2 * N ≤ 5000 → s.2.1.length + N ≤ 5000 → s.2.2.length + N ≤ 5000 → ∀ (fuel : Nat) (pl : T) (x5 x6 x7 : Sl), N < fuel →
    ∃ z5 z6 z7, whlR (.cmp .ne (.loc 4) (.lst [])) (bStack X) P.C (callF P (i + 1)) P.sub fuel [.val (pgT p), .val pl, .own (.lst (tstrs s.2.2)), .own (.lst (tstrs s.2.1)), .own (.lst (s.1.map frT)), x5, x6, x7] =
      .next [.val (pgT p), .val pl, .own (.lst (tstrs t.2.2)), .own (.lst (tstrs t.2.1)), .own (.lst []), z5, z6, z7] := by
  intro N s t hr
  induction hr with
  | zero s =>
    intro ht ga gb la lb lc fuel pl x5 x6 x7 hf
    obtain ⟨fuel, rfl⟩ : ∃ j, fuel = j + 1 := ⟨fuel - 1, by omega⟩
    refine ⟨x5, x6, x7, ?_⟩
    rw [whlR_succ, ht]
    simp
  | @step n here at_ stk met found s t hat hs hrun ih =>
    intro ht ga gb la lb lc fuel pl x5 x6 x7 hf
    obtain ⟨fuel, rfl⟩ : ∃ j, fuel = j + 1 := ⟨fuel - 1, by omega⟩
    have gh : gdW here = true := ga (here, at_) (by simp)
    have gst : ∀ q ∈ stk, gdW q.1 = true := fun q hq => ga q (List.mem_append_left _ hq)
    have gall : goods 60 ((stk ++ [(here, at_)]).map frT) = true := goods_frs 59 _ ga
    have lr := law_rows H p hp here gh i
    simp only [stepS] at hs
    simp only [List.length_append, List.length_singleton] at la
    simp only at lb lc
    have gmet := goods_gd 60 met gb
    cases hm : modOf p here with
    | none =>
      rw [hm] at hs
      cases hs
    | some m =>
      rw [hm] at hs lr
      simp only [optT] at lr
      have mm := (modOf_mem hm).1
      simp only at hs
      cases hri : m.rows[at_]? with
      | none =>
        rw [hri] at hs
        simp only at hs
        split at hs
        · rename_i hlen
          cases hs
          have c2 : found.length < 1000000 := by omega
          obtain ⟨z5, z6, z7, e⟩ := ih ht gst gb (by simp only; omega) (by simp only; omega) (by simp only [List.length_append, List.length_singleton]; omega) fuel pl (.val (.str here)) (.val (.int (at_ : Nat))) (.val (.tup (m.rows.map Row.T))) (by omega)
          refine ⟨z5, z6, z7, ?_⟩
          rw [whlR_succ]
          have hl2 : (at_ : Int) = (m.rows.length : Nat) := by rw [hlen]
          simp only [List.map_append, List.map_cons, List.map_nil] at gall e ⊢
          simp [-List.any_map, gall, lr, hl2, c2] at e ⊢
          simp [e]
        · cases hs
      | some r =>
        rw [hri] at hs
        simp only at hs
        have hlt : at_ < m.rows.length := (List.getElem?_eq_some_iff.mp hri).1
        have hne : ¬ (at_ : Int) = (m.rows.length : Nat) := by omega
        have hat2 : atI (m.rows.map Row.T) (at_ : Int) = some r.T := by
          rw [atI_nat _ at_ (by simpa using hlt)]
          have := (List.getElem?_eq_some_iff.mp hri).2
          simp [this]
        have rok := (hp m mm).2 r (List.mem_of_getElem? hri)
        have c2 : stk.length < 1000000 := by omega
        have c3 : stk.length + 1 < 1000000 := by omega
        have c4 : met.length < 1000000 := by omega
        have fin : ∀ (h : r.wants = none ∨ ∃ w, r.wants = some w ∧ w ∈ met), s = (stk ++ [(here, at_ + 1)], met, found) → ∃ z5 z6 z7, whlR (.cmp .ne (.loc 4) (.lst [])) (bStack X) P.C (callF P (i + 1)) P.sub (fuel + 1) [.val (pgT p), .val pl, .own (.lst (tstrs found)), .own (.lst (tstrs met)), .own (.lst ((stk ++ [(here, at_)]).map frT)), x5, x6, x7] =
            .next [.val (pgT p), .val pl, .own (.lst (tstrs t.2.2)), .own (.lst (tstrs t.2.1)), .own (.lst []), z5, z6, z7] := fun h es => by
          subst es
          obtain ⟨z5, z6, z7, e⟩ := ih ht (fun q hq => by
            rcases List.mem_append.mp hq with hq | hq
            · exact gst q hq
            · simp only [List.mem_singleton] at hq
              rw [hq]
              exact gh) gb (by simp only [List.length_append, List.length_singleton]; omega) (by simp only; omega) (by simp only; omega) fuel pl (.val (.str here)) (.val (.int (at_ : Nat))) (.val (.tup (m.rows.map Row.T))) (by omega)
          refine ⟨z5, z6, z7, ?_⟩
          rw [whlR_succ]
          simp only [List.map_append, List.map_cons, List.map_nil] at gall e ⊢
          cases r <;> simp [Row.wants] at h
          · have g1 := (wordW_gd rok.1).2.1
            simp [-List.any_map, gall, lr, hne, hat2, c2, gmet, g1, h]
            exact e
          · simp [-List.any_map, gall, lr, hne, hat2, c2]
            exact e
          · simp [-List.any_map, gall, lr, hne, hat2, c2]
            exact e
          · have g1 := (wordW_gd rok.1).2.1
            simp [-List.any_map, gall, lr, hne, hat2, c2, gmet, g1, h]
            exact e
          · have g1 := (wordW_gd rok).2.1
            simp [-List.any_map, gall, lr, hne, hat2, c2, gmet, g1, h]
            exact e
          · simp [-List.any_map, gall, lr, hne, hat2, c2]
            exact e
        cases hw : r.wants with
        | none =>
          rw [hw] at hs
          exact fin (.inl hw) (Option.some.inj hs).symm
        | some w =>
          rw [hw] at hs
          simp only at hs
          split at hs
          · rename_i hwm
            exact fin (.inr ⟨w, hw, hwm⟩) (Option.some.inj hs).symm
          · rename_i hwm
            cases hs
            have gw : gdW w = true := by
              cases r <;> simp [Row.wants] at hw
              · rw [← hw]; exact (wordW_gd rok.1).2.1
              · rw [← hw]; exact (wordW_gd rok.1).2.1
              · rw [← hw]; exact (wordW_gd rok).2.1
            obtain ⟨z5, z6, z7, e⟩ := ih ht (fun q hq => by
              rcases List.mem_append.mp hq with hq | hq
              · exact gst q hq
              · simp only [List.mem_cons, List.not_mem_nil, or_false] at hq
                rcases hq with rfl | rfl
                · exact gh
                · exact gw) (fun v hv => by
              rcases List.mem_append.mp hv with hv | hv
              · exact gb v hv
              · simp only [List.mem_singleton] at hv
                rw [hv]
                exact gw) (by simp only [List.length_append, List.length_cons, List.length_nil]; omega) (by simp only [List.length_append, List.length_singleton]; omega) (by simp only; omega) fuel pl (.val (.str here)) (.val (.int (at_ : Nat))) (.val (.tup (m.rows.map Row.T))) (by omega)
            refine ⟨z5, z6, z7, ?_⟩
            rw [whlR_succ]
            simp only [List.map_append, List.map_cons, List.map_nil] at gall e ⊢
            cases r <;> simp [Row.wants] at hw
            · subst hw
              simp [-List.any_map, gall, lr, hne, hat2, c2, c3, c4, gmet, gw, hwm]
              exact e
            · subst hw
              simp [-List.any_map, gall, lr, hne, hat2, c2, c3, c4, gmet, gw, hwm]
              exact e
            · subst hw
              simp [-List.any_map, gall, lr, hne, hat2, c2, c3, c4, gmet, gw, hwm]
              exact e
theorem mName_ne {w : W} (h : w.head? ≠ some 109) (j : Nat) : w ≠ mName j := fun z => h (by rw [z]; rfl)
theorem GP.none {p : Pg} {md : Nat → Mod} (g : GP ring many p md) {w : W} (h : w.head? ≠ some 109) : modOf p w = none := by
  cases e : modOf p w with
  | none => rfl
  | some m =>
    obtain ⟨h1, h2⟩ := modOf_mem e
    obtain ⟨k, hk, rfl⟩ := (g.mem m).mp h1
    rw [(g.gen k hk).nm] at h2
    exact absurd h2.symm (mName_ne h k)
@[simp] theorem eqTs_strs : ∀ l : List W, eqTs (l.map T.str) (l.map T.str) = true
  | [] => rfl
  | w :: r => by simp [eqTs_strs r]
end M
set_option Elab.async false
set_option linter.all false
set_option autoImplicit false
set_option maxRecDepth 100000
namespace M
open Py
variable {P : Prg} {X : Ix}
variable {ring : Bool} {many k nt : Nat} {m : Mod}
theorem law_order (Hr : P.fns[X.law_rows]? = some (F_law_rows X)) (Ho : P.fns[X.law_order]? = some (F_law_order X)) {p : Pg} (hp : PgGood p) (hw : PgW p) {pl : W} (hpl : gdW pl = true) (h : (modOf p pl).isSome = true) (i : Nat) : callF P (i + 2) X.law_order [pgT p, .str pl] = .ok (.new (.lst (tstrs (ord p pl)))) := by
  obtain ⟨N, met, hN, hr⟩ := run_ord (fun m hm => (hp.mods m hm).len) hw hp.len h
  obtain ⟨z5, z6, z7, e⟩ := stack_run Hr hp.ok i N _ _ hr rfl (fun q hq => by
    simp only [List.mem_singleton] at hq
    rw [hq]
    exact hpl) (fun w hw => by
    simp only [List.mem_singleton] at hw
    rw [hw]
    exact hpl) (by simp; omega) (by simp; omega) (by simp; omega) whlFuel (.str pl) .un .un .un (by unfold whlFuel; omega)
  rw [call_py Ho rfl]
  simp only [bStack] at e
  simp [b_law_order, frT] at e ⊢
  simp [e]
def Row.isW (r : Row) : Bool := r.wants.isSome
def Row.wW (r : Row) : W := r.wants.getD []
structure H04 (P : Prg) (X : Ix) : Prop extends HOr P X, HGn P X where
  law_rows : P.fns[X.law_rows]? = some (F_law_rows X)
  law_order : P.fns[X.law_order]? = some (F_law_order X)
  nomod : P.sub X.xNoModule X.xNoModule = true
theorem words_ord {p : Pg} (hp : PgOk p) {pl : W} (ok : OrdOk p pl) : ∀ w ∈ ord p pl, wordW w = true := fun w hw => by
  obtain ⟨m, hm⟩ := Option.isSome_iff_exists.mp (ok.mods w hw)
  obtain ⟨h1, h2⟩ := modOf_mem hm
  rw [← h2]
  exact (hp m h1).1
theorem enumT_at (f : List W) : enumT (tstrs f) = (f.zipIdx).map fun q => T.tup [.int (q.2 : Nat), .str q.1] := by
  unfold enumT tstrs
  rw [List.zipIdx_map, List.map_map]
  rfl
abbrev bWant (X : Ix) : List Stm := [.asg 6 (.lc (.ix (.loc 7) (.int 1)) (.one 7) .seq [(.call X.law_rows [(.loc 1), (.loc 5)])] (.cmp .isin (.ix (.loc 7) (.int 0)) (.tup [(.str [116, 97, 107, 101]), (.str [112, 97, 115, 115]), (.str [114, 117, 110])]))), .ite (.cmp .ne (.lc (.loc 8) (.one 8) .seq [(.loc 6)] (.cmp .notin (.loc 8) (.slc (.loc 3) .non (.loc 4)))) (.lst [])) [.ret (.bl false)] []]
theorem want_loop (Hr : P.fns[X.law_rows]? = some (F_law_rows X)) {p : Pg} (hp : PgGood p) (f : List W) (hf : ∀ w ∈ f, wordW w = true) (hm : ∀ w ∈ f, (modOf p w).isSome = true) (ht : Topo p f) (x0 x2 : Sl) (i : Nat) : ∀ (b a : List W), f = a ++ b → ∀ x4 x5 x6 : Sl, ∃ z4 z5 z6, forR ((b.zipIdx a.length).map fun q => T.tup [.int (q.2 : Nat), .str q.1]) (.many [4, 5]) (exs P.C (callF P (i + 1)) P.sub (bWant X))
    [x0, .val (pgT p), x2, .val (.lst (tstrs f)), x4, x5, x6, .un, .un, .un, .un] = .next [x0, .val (pgT p), x2, .val (.lst (tstrs f)), z4, z5, z6, .un, .un, .un, .un] := by
  intro b
  induction b with
  | nil => exact fun a _ x4 x5 x6 => ⟨x4, x5, x6, by simp⟩
  | cons w b ih =>
    intro a hfa x4 x5 x6
    have hwf : w ∈ f := by rw [hfa]; simp
    have gw := wordW_gd (hf w hwf)
    obtain ⟨m, hmw⟩ := Option.isSome_iff_exists.mp (hm w hwf)
    have mm := (modOf_mem hmw).1
    have mg := hp.mods m mm
    have lr := law_rows Hr p hp.ok w gw.2.1 i
    rw [hmw] at lr
    simp only [optT] at lr
    have h60 := mg.len
    have wok : ∀ r ∈ m.rows, r.isW = true → wordW r.wW = true := fun r hr h => by
      have := mg.rows r hr
      cases r <;> simp [Row.isW, Row.wants] at h <;> simp [Row.wW, Row.wants]
      · exact this.1
      · exact this.1
      · exact this
    have e1 : ∀ ρ : Py.Env, ρ = [x0, .val (pgT p), x2, .val (.lst (tstrs f)), .val (.int (a.length : Nat)), .val (.str w), x6, .un, .un, .un, .un] → _ := fun ρ hρ =>
      lcR_one m.rows Row.T Row.isW (fun r => T.str r.wW) (i := 7) (ρ := ρ) (vc := (go P.C (callF P (i + 1)) (.cmp .isin (.ix (.loc 7) (.int 0)) (.tup [(.str [116, 97, 107, 101]), (.str [112, 97, 115, 115]), (.str [114, 117, 110])]))).2) (ve := (go P.C (callF P (i + 1)) (.ix (.loc 7) (.int 1))).1) (by simp [hρ]) (by simp [hρ]) (by omega) fun r _ => by
        cases r <;> simp [hρ, Row.isW, Row.wW, Row.wants]
    have e1 := e1 _ rfl
    have eW : ((m.rows.filter Row.isW).map fun r => T.str r.wW) = ((m.rows.filter Row.isW).map Row.wW).map T.str := by simp [Function.comp_def]
    rw [eW] at e1
    have hin : ∀ v ∈ (m.rows.filter Row.isW).map Row.wW, v ∈ a ∧ wordW v = true := fun v hv => by
      obtain ⟨r, hr, rfl⟩ := List.mem_map.mp hv
      obtain ⟨h1, h2⟩ := List.mem_filter.mp hr
      refine ⟨?_, wok r h1 h2⟩
      obtain ⟨u, hu⟩ := Option.isSome_iff_exists.mp h2
      have := ht a w b hfa m hmw r h1 u hu
      simp [Row.wW, hu, this]
    have hlw : ((m.rows.filter Row.isW).map Row.wW).length ≤ 1000000 := by
      have : (m.rows.filter Row.isW).length ≤ m.rows.length := List.length_filter_le _ _
      simp
      omega
    generalize (m.rows.filter Row.isW).map Row.wW = ws at e1 hin hlw
    have hct : cut (tstrs f) none (some ((a.length : Nat) : Int)) = tstrs a := by
      rw [cut_to _ _ (by omega)]
      simp only [Int.toNat_natCast, tstrs, ← List.map_take]
      rw [hfa]
      simp
    have ga : goods 60 (tstrs a) = true := goods_words 60 a fun v hv => hf v (by rw [hfa]; exact List.mem_append_left _ hv)
    have e2 : ∀ ρ : Py.Env, ρ = [x0, .val (pgT p), x2, .val (.lst (tstrs f)), .val (.int (a.length : Nat)), .val (.str w), .val (.lst (tstrs ws)), .un, .un, .un, .un] → _ := fun ρ hρ =>
      lcR_one ws T.str (fun v => !decide (v ∈ a)) T.str (i := 8) (ρ := ρ) (vc := (go P.C (callF P (i + 1)) (.cmp .notin (.loc 8) (.slc (.loc 3) .non (.loc 4)))).2) (ve := (go P.C (callF P (i + 1)) (.loc 8)).1) (by simp [hρ]) (by simp [hρ]) hlw fun v hv => by
        have gv := wordW_gd (hin v hv).2
        have hva := (hin v hv).1
        have an := any_strs v a
        simp [-List.any_map, hρ, hct, gv, ga, an, hva]
    have e2 := e2 _ rfl
    have efl : ws.filter (fun v => !decide (v ∈ a)) = [] := by
      rw [List.filter_eq_nil_iff]
      intro v hv
      simp [(hin v hv).1]
    rw [efl] at e2
    obtain ⟨z4, z5, z6, e3⟩ := ih (a ++ [w]) (by simp [hfa]) (.val (.int (a.length : Nat))) (.val (.str w)) (.val (.lst (tstrs ws)))
    refine ⟨z4, z5, z6, ?_⟩
    rw [List.zipIdx_cons, List.map_cons, forR_cons]
    simp only [List.length_append, List.length_singleton] at e3
    simp at e2
    simp [lr, e1, e2]
    exact e3
theorem law04 (H : H04 P X) {fi : Nat} (hf : P.fns[fi]? = some (F_lawk04 X)) (ns : List Int) (i : Nat) : callF P (i + 40) fi [.scr ns] = .ok (.tmp (.bl true)) := by
  obtain ⟨ring, many, p, md, g, hring, hprog⟩ := drawn H.toHGn ns 0 (i + 30)
  have hprog : callF P (i + 39) X.law_program [.scr ns, .int 0] = _ := hprog
  have hp := g.good
  have hw := g.w
  have he : pgErr X p = none := g.err
  have c5 : callF P (i + 39) X.law_cell [.scr ns, .int 5] = _ := law_cell H.toHG ns 5 (i + 38)
  have c1 : callF P (i + 39) X.law_cell [.scr ns, .int 1] = _ := law_cell H.toHG ns 1 (i + 38)
  have hpos : 0 < p.length := by
    have := g.len
    have := g.lo
    omega
  have hpne : p ≠ [] := List.length_pos_iff.mp hpos
  obtain ⟨t, a1, a2⟩ := atI_mod (p.map Mod.T) (cell ns 5) (by simpa using hpne)
  simp only [List.length_map] at a1
  obtain ⟨m, hm, rfl⟩ := List.mem_map.mp a2
  obtain ⟨k, hk, rfl⟩ := (g.mem m).mp hm
  have hmo := g.mo hk
  have hnm := (g.gen k hk).nm
  have h5 := g.hi
  have hmW : wordW (md k).nm = true := by rw [hnm]; exact mW (by omega)
  have gm := wordW_gd hmW
  have hsome : (modOf p (md k).nm).isSome = true := by rw [hnm, hmo]; rfl
  have oo := order_ok H.toHOr hp he hw hmW hsome (i + 15)
  have lo := law_order H.law_rows H.law_order hp hw gm.2.1 hsome (i + 37)
  have ok := ord_ok hw hp.len hsome
  have wd := words_ord hp.ok ok
  have gd := goods_words 60 _ wd
  obtain ⟨t0, hlast⟩ := ok.last
  have hat : atI (tstrs (ord p (md k).nm)) (-1) = some (.str (md k).nm) := by
    rw [hlast]
    unfold tstrs
    rw [List.map_append]
    exact atI_last _ _
  have hl6 := ok.len.1
  have hln : (ord p (md k).nm).length < 4000 := by omega
  have hdd : (dedupW (ord p (md k).nm)).length = (ord p (md k).nm).length := by
    have h1 := dedup_len (ord p (md k).nm)
    have h2 : ¬ (dedupW (ord p (md k).nm)).length < (ord p (md k).nm).length := fun z => (dedup_lt (ord p (md k).nm)).mp z ok.nd
    omega
  have en := enumT_at (ord p (md k).nm)
  have n1 := order_no H.toHOr hp he (t := .str [113]) rfl (by simp only [modT]; split; exact g.none (by decide); rfl) (i + 15)
  have n2 := order_no H.toHOr hp he (t := .non) rfl rfl (i + 15)
  have n3 := order_no H.toHOr hp he (t := .int 3) rfl rfl (i + 15)
  have T1 : pgT p = .tup (p.map Mod.T) := rfl
  have T2 : (md k).T = .tup [.str (md k).nm, .tup ((md k).rows.map Row.T)] := rfl
  rw [call_py hf rfl]
  by_cases c : cell ns 1 % 2 = 0
  · have hr : ring = false := by
      rw [hring]
      have : cell ns (0 + 1) % 2 = 0 := c
      simp [this]
    subst hr
    have ht : Topo p (ord p (md k).nm) := by rw [hnm]; exact g.topoO hk
    obtain ⟨z4, z5, z6, e⟩ := want_loop H.law_rows hp (ord p (md k).nm) wd ok.mods ht (.val (.scr ns)) (.val (.str (md k).nm)) (i + 38) (ord p (md k).nm) [] rfl .un .un .un
    simp at e
    rw [T1] at e lo oo hprog n1 n2 n3
    rw [T2] at a1
    simp [b_lawk04, hprog, c5, c1, hpos, a1, oo, lo, gd, hat, gm, hln, hdd, c, en, e, forR_cons, n1, n2, n3, H.nomod]
  · rw [T1] at lo oo hprog n1 n2 n3
    rw [T2] at a1
    simp [b_lawk04, hprog, c5, c1, hpos, a1, oo, lo, gd, hat, gm, hln, hdd, c, forR_cons, n1, n2, n3, H.nomod]
end M
set_option Elab.async false
set_option linter.all false
set_option autoImplicit false
set_option maxRecDepth 100000
namespace M
open Py
variable {P : Prg} {X : Ix}
variable {ring : Bool} {many k nt : Nat} {m : Mod} {ts ss gs : List Row} {last : Row}
theorem modP_inv {a b : T} (h : modP (.tup [a, b])) : ∃ m : Mod, a = .str m.nm ∧ b = .tup (m.rows.map Row.T) ∧ m.good := by
  obtain ⟨m, e, g⟩ := h
  unfold Mod.T at e
  simp only [T.tup.injEq, List.cons.injEq, and_true] at e
  exact ⟨m, e.1, e.2, g⟩
theorem modP_row {a : T} {rs : List Row} {r : T} (h : modP (.tup [a, .tup (rs.map Row.T ++ [r])])) : ∃ (r' : Row) (nm : W), r = r'.T ∧ Mod.good ⟨nm, rs ++ [r']⟩ := by
  obtain ⟨m, _, e, g⟩ := modP_inv h
  simp only [T.tup.injEq] at e
  have hl : (rs.map Row.T ++ [r]).length = (m.rows.map Row.T).length := by rw [e]
  simp only [List.length_append, List.length_map, List.length_cons, List.length_nil] at hl
  have hne : m.rows ≠ [] := fun z => by
    rw [z] at hl
    simp at hl
  have e2 := List.dropLast_concat_getLast hne
  rw [← e2, List.map_append, List.map_cons, List.map_nil] at e
  obtain ⟨e3, e4⟩ := List.append_inj' e rfl
  have e5 := Rs_inj e3
  simp only [List.cons.injEq, and_true] at e4
  refine ⟨m.rows.getLast hne, m.nm, e4, ?_⟩
  rw [e5, e2]
  exact g
theorem no_row {a : T} {rs : List Row} {r : T} (h : ¬ rowP r) : ¬ modP (.tup [a, .tup (rs.map Row.T ++ [r])]) := fun z => by
  obtain ⟨r', nm, rfl, g⟩ := modP_row z
  exact h ⟨r', rfl, g.rows r' (by simp)⟩
theorem no_rowB {r : T} (h : rowB r = false) : ¬ rowP r := fun z => by
  rw [rowP_T z] at h
  cases h
theorem no_note {x : T} (h : ¬ exprP x) : ¬ rowP (.tup [.str NOTE, x]) := no_rowB (by simp [rowB, h])
theorem no_expr {x : T} (h : roomF 15 x 15 = none) : ¬ exprP x := fun ⟨e, he, g1, g2⟩ => by
  rw [he, roomF_E e 15 15 g1 (by omega), if_pos g2] at h
  cases h
def deepE : Nat → E
  | 0 => .num 1
  | n + 1 => .op false (deepE n) (.num 1)
theorem deep_parts : ∀ n, (deepE n).parts = 2 * n + 1
  | 0 => rfl
  | n + 1 => by
    show 1 + (deepE n).parts + 1 = _
    rw [deep_parts n]
    omega
theorem no_deep : ¬ exprP (deepE 8).T := fun h => by
  have := (exprP_E.mp h).2
  rw [deep_parts] at this
  omega
abbrev badRows (d : T) : List T := [.tup [.str [116, 97, 107, 101], .str [109, 98], .str [103, 97]], .int 3, .tup [.str [115, 101, 116], .str [115, 119], .int 1], .tup [.str [103, 105, 118, 101], .str [122, 122], .str [113]], .tup [.str [114, 117, 110], .str [65]], .tup [.str [103, 105, 118, 101], .str [115, 119], .str [103, 97]]]
abbrev badNotes (d : T) : List T := [.tup [.str [110, 97, 109, 101], .str [122, 122]], .tup [.str [110, 97, 109, 101], .str [103, 97]], .int 10007, .bl true, .int (-1), .tup [.str [112, 108, 117, 115], .int 1], .tup [.str [108, 101, 115, 115], .int 1, .int 2], d]
theorem own_app (rs : List Row) (r : Row) : ownN (rs ++ [r]) = ownN rs ++ (if r.isOwn then [r.ownW] else []) := by
  unfold ownN
  rw [List.filter_append]
  cases h : r.isOwn <;> simp [h]
theorem giv_app (rs : List Row) (r : Row) : givN (rs ++ [r]) = givN rs ++ (if r.isGiv then [r.givW] else []) := by
  unfold givN
  rw [List.filter_append]
  cases h : r.isGiv <;> simp [h]
theorem used_app (rs : List Row) (r : Row) : usedN (rs ++ [r]) = usedN rs ++ r.used := by simp [usedN]
theorem bad_row (g : GM ring many k m nt ts ss gs last) : ∀ r ∈ badRows (deepE 8).T ++ (badNotes (deepE 8).T).map (fun x => T.tup [.str NOTE, x]), ¬ modP (.tup [.str m.nm, .tup (m.rows.map Row.T ++ [r])]) := by
  have hsw : swW ∈ ownN m.rows := by
    rw [g.own]
    exact sw_own
  have hga : gaW ∈ givN m.rows := by
    rw [g.giv]
    exact ga_mem k
  have hno : ∀ {w : W}, w.head? ≠ some 116 → w.head? ≠ some 115 → w ∉ ownN m.rows := fun h1 h2 => by
    rw [g.own]
    exact fun z => by
      rcases List.mem_append.mp z with z | z
      · obtain ⟨j, _, rfl⟩ := List.mem_map.mp z
        exact h1 rfl
      · obtain ⟨j, _, rfl⟩ := List.mem_map.mp z
        exact h2 rfl
  have noteU : ∀ w : W, w.head? ≠ some 116 → w.head? ≠ some 115 → ¬ modP (.tup [.str m.nm, .tup (m.rows.map Row.T ++ [.tup [.str NOTE, .tup [.str NAME, .str w]]])]) := fun w h1 h2 z => by
    obtain ⟨r', nm, e, gg⟩ := modP_row z
    have e : (Row.note (.nam w)).T = r'.T := e
    have e := R_inj e
    subst e
    have := gg.used w (by show w ∈ usedN (m.rows ++ _); rw [used_app]; simp [Row.used, E.names])
    have this : w ∈ ownN (m.rows ++ [Row.note (.nam w)]) := this
    rw [own_app] at this
    simp [Row.isOwn] at this
    exact hno h1 h2 this
  intro r hr
  simp only [badRows, badNotes, List.map_cons, List.map_nil, List.cons_append, List.nil_append, List.mem_cons, List.not_mem_nil, or_false] at hr
  rcases hr with rfl | rfl | rfl | rfl | rfl | rfl | rfl | rfl | rfl | rfl | rfl | rfl | rfl | rfl
  · exact no_row (no_rowB (by simp [rowB]))
  · exact no_row (no_rowB rfl)
  · intro z
    obtain ⟨r', nm, e, gg⟩ := modP_row z
    have e : (Row.set swW (.num 1)).T = r'.T := e
    have e := R_inj e
    subst e
    have := gg.own
    have this : (ownN (m.rows ++ [Row.set swW (.num 1)])).Nodup := this
    rw [own_app] at this
    simp only [Row.isOwn, Row.ownW, if_true, List.nodup_append] at this
    exact this.2.2 _ hsw _ (List.mem_singleton.mpr rfl) rfl
  · intro z
    obtain ⟨r', nm, e, gg⟩ := modP_row z
    have e : (Row.give [122, 122] [113]).T = r'.T := e
    have e := R_inj e
    subst e
    have := gg.used [122, 122] (by show _ ∈ usedN (m.rows ++ _); rw [used_app]; simp [Row.used])
    have this : [122, 122] ∈ ownN (m.rows ++ [Row.give [122, 122] [113]]) := this
    rw [own_app] at this
    simp [Row.isOwn] at this
    exact hno (by decide) (by decide) this
  · exact no_row (no_rowB (by simp [rowB, wordB, wordW, smallB]))
  · intro z
    obtain ⟨r', nm, e, gg⟩ := modP_row z
    have e : (Row.give swW gaW).T = r'.T := e
    have e := R_inj e
    subst e
    have := gg.giv
    have this : (givN (m.rows ++ [Row.give swW gaW])).Nodup := this
    rw [giv_app] at this
    simp only [Row.isGiv, Row.givW, if_true, List.nodup_append] at this
    exact this.2.2 _ hga _ (List.mem_singleton.mpr rfl) rfl
  · exact noteU _ (by decide) (by decide)
  · exact noteU _ (by decide) (by decide)
  · exact no_row (no_note (no_expr rfl))
  · exact no_row (no_note (no_expr rfl))
  · exact no_row (no_note (no_expr rfl))
  · exact no_row (no_note (no_expr (by simp [roomF, figB])))
  · exact no_row (no_note (no_expr (by simp [roomF, figB])))
  · exact no_row (no_note no_deep)
abbrev badMods (m : Mod) (d : T) : List T := [.tup [.str [65], .tup (m.rows.map Row.T)], .tup [.str m.nm, .lst (m.rows.map Row.T)], .tup [.str m.nm], .lst [.str m.nm, .tup (m.rows.map Row.T)], .tup [.str m.nm, .tup (repL (m.rows.map Row.T) 20)]] ++
  (badRows d ++ (badNotes d).map (fun x => T.tup [.str NOTE, x])).map fun r => .tup [.str m.nm, .tup (m.rows.map Row.T ++ [r])]
theorem repL_len (xs : List T) (n : Nat) : (repL xs (n : Int)).length = n * xs.length := by
  simp [repL]
theorem bad_mod (g : GM ring many k m nt ts ss gs last) : ∀ t ∈ badMods m (deepE 8).T, ¬ modP t := by
  intro t ht
  have hpos : 7 ≤ m.rows.length := by
    have h1 : (ownN m.rows).length ≤ (m.rows.filter Row.isOwn).length := by simp [ownN]
    have h2 : (givN m.rows).length ≤ (m.rows.filter Row.isGiv).length := by simp [givN]
    rw [g.own] at h1
    rw [g.giv] at h2
    have h3 : (m.rows.filter Row.isOwn).length + (m.rows.filter Row.isGiv).length ≤ m.rows.length := by
      generalize m.rows = l
      induction l with
      | nil => simp
      | cons r l ih => cases r <;> simp [List.filter_cons, Row.isOwn, Row.isGiv] <;> omega
    simp [sNames, gives] at h1 h2
    omega
  rcases List.mem_append.mp ht with h | h
  · simp only [List.mem_cons, List.not_mem_nil, or_false] at h
    rcases h with rfl | rfl | rfl | rfl | rfl
    · intro z
      obtain ⟨m', e1, _, gg⟩ := modP_inv z
      simp only [T.str.injEq] at e1
      have := gg.nm
      rw [← e1] at this
      exact absurd this (by decide)
    · intro z
      obtain ⟨m', _, e2, gg⟩ := modP_inv z
      cases e2
    · rintro ⟨m', e, _⟩
      simp [Mod.T] at e
    · rintro ⟨m', e, _⟩
      simp [Mod.T] at e
    · intro z
      obtain ⟨m', _, e2, gg⟩ := modP_inv z
      simp only [T.tup.injEq] at e2
      have h1 := repL_len (m.rows.map Row.T) 20
      have h2 : (repL (m.rows.map Row.T) 20).length = m'.rows.length := by rw [e2]; simp
      have := gg.len
      simp only [List.length_map] at h1
      have h1 : (repL (m.rows.map Row.T) 20).length = 20 * m.rows.length := h1
      omega
  · obtain ⟨r, hr, rfl⟩ := List.mem_map.mp h
    exact bad_row g r hr
end M
set_option Elab.async false
set_option linter.all false
set_option autoImplicit false
set_option maxRecDepth 100000
namespace M
open Py
variable {P : Prg} {X : Ix}
variable {ring : Bool} {many k nt : Nat} {m : Mod}
theorem forR_first {α : Type} {F : α → T} {p : α → Bool} {i : Nat} {b : Env → SRes} {ρ : Py.Env} (hi : i < ρ.length) {r : R} {ρ2 : Py.Env} :
    ∀ (xs : List α) {x : α}, xs.find? p = some x → (∀ x ∈ xs, p x = false → b (ρ.set i (.val (F x))) = .next (ρ.set i (.val (F x)))) → b (ρ.set i (.val (F x))) = .ret r ρ2 → forR (xs.map F) (.one i) b ρ = .ret r ρ2 := by
  have key : ∀ (xs : List α) (y : Sl) {x : α}, xs.find? p = some x → (∀ x ∈ xs, p x = false → b (ρ.set i (.val (F x))) = .next (ρ.set i (.val (F x)))) → b (ρ.set i (.val (F x))) = .ret r ρ2 → forR (xs.map F) (.one i) b (ρ.set i y) = .ret r ρ2 := by
    intro xs
    induction xs with
    | nil => exact fun y x h => by cases h
    | cons a xs ih =>
      intro y x hf hn hr
      rw [List.map_cons, forR_cons]
      by_cases c : p a = true
      · rw [List.find?_cons_of_pos c] at hf
        cases hf
        simp [hi, hr]
      · rw [List.find?_cons_of_neg c] at hf
        have e1 := hn a (List.mem_cons_self ..) (by simpa using c)
        have e2 := ih (.val (F a)) hf (fun z hz => hn z (List.mem_cons_of_mem _ hz)) hr
        simp [hi, e1, e2]
  intro xs x hf hn hr
  have := key xs (ρ[i]) hf hn hr
  rwa [List.set_getElem_self] at this
structure HLH (P : Prg) (X : Ix) : Prop where
  law_rows : P.fns[X.law_rows]? = some (F_law_rows X)
  law_home : P.fns[X.law_home]? = some (F_law_home X)
  law_given_home : P.fns[X.law_given_home]? = some (F_law_given_home X)
theorem law_home_set (H : HLH P X) {p : Pg} (hp : PgOk p) {pl o : W} (g1 : gdW pl = true) (g2 : gdW o = true) {e : E} (hm : modOf p pl = some m) (hr : rowOf m o = some (.set o e)) (i : Nat) : callF P (i + 2) X.law_home [pgT p, .str pl, .str o] = .ok (.tmp (pairT (pl, o))) := by
  have lr := law_rows H.law_rows p hp pl g1 i
  rw [hm] at lr
  simp only [optT] at lr
  have mr := (hp m (modOf_mem hm).1).2
  have e1 : ∀ ρ : Py.Env, ρ = [.val (pgT p), .val (.str pl), .val (.str o), .un] → _ := fun ρ hρ => forR_first (F := Row.T) (i := 3) (b := exs P.C (callF P (i + 1)) P.sub [.ite (.and2 (.cmp .eq (.ix (.loc 3) (.int 0)) (.str [115, 101, 116])) (.cmp .eq (.ix (.loc 3) (.int 1)) (.loc 2))) [.ret (.tup [(.loc 1), (.loc 2)])] [], .ite (.and2 (.cmp .eq (.ix (.loc 3) (.int 0)) (.str [116, 97, 107, 101])) (.cmp .eq (.ix (.loc 3) (.int 3)) (.loc 2))) [.ret (.call X.law_given_home [(.loc 0), (.ix (.loc 3) (.int 1)), (.ix (.loc 3) (.int 2))])] []]) (ρ := ρ) (by simp [hρ]) m.rows hr (fun r hr c => by
    have := mr r hr
    cases r with
    | take a b d =>
      have g := wordW_gd this.2.2
      have c : ¬ d = o := by simpa [Row.isOwn, Row.ownW] using c
      simp [hρ, g, c, g2]
    | set a e =>
      have g := wordW_gd this.1
      have c : ¬ a = o := by simpa [Row.isOwn, Row.ownW] using c
      simp [hρ, g, c, g2]
    | _ => simp [hρ]) (r := .tmp (pairT (pl, o))) (ρ2 := ρ.set 3 (.val (Row.T (.set o e)))) (by simp [hρ, g2])
  have e1 := e1 _ rfl
  rw [call_py H.law_home rfl]
  simp [b_law_home, lr, e1]
theorem law_home_take (H : HLH P X) {p : Pg} (hp : PgOk p) {pl o a b : W} (g1 : gdW pl = true) (g2 : gdW o = true) (hm : modOf p pl = some m) (hr : rowOf m o = some (.take a b o)) (i : Nat) {q : W × W} (hq : callF P (i + 1) X.law_given_home [pgT p, .str a, .str b] = .ok (.tmp (pairT q))) : callF P (i + 2) X.law_home [pgT p, .str pl, .str o] = .ok (.tmp (pairT q)) := by
  have lr := law_rows H.law_rows p hp pl g1 i
  rw [hm] at lr
  simp only [optT] at lr
  have mr := (hp m (modOf_mem hm).1).2
  have e1 : ∀ ρ : Py.Env, ρ = [.val (pgT p), .val (.str pl), .val (.str o), .un] → _ := fun ρ hρ => forR_first (F := Row.T) (i := 3) (b := exs P.C (callF P (i + 1)) P.sub [.ite (.and2 (.cmp .eq (.ix (.loc 3) (.int 0)) (.str [115, 101, 116])) (.cmp .eq (.ix (.loc 3) (.int 1)) (.loc 2))) [.ret (.tup [(.loc 1), (.loc 2)])] [], .ite (.and2 (.cmp .eq (.ix (.loc 3) (.int 0)) (.str [116, 97, 107, 101])) (.cmp .eq (.ix (.loc 3) (.int 3)) (.loc 2))) [.ret (.call X.law_given_home [(.loc 0), (.ix (.loc 3) (.int 1)), (.ix (.loc 3) (.int 2))])] []]) (ρ := ρ) (by simp [hρ]) m.rows hr (fun r hr c => by
    have := mr r hr
    cases r with
    | take a b d =>
      have g := wordW_gd this.2.2
      have c : ¬ d = o := by simpa [Row.isOwn, Row.ownW] using c
      simp [hρ, g, c, g2]
    | set a e =>
      have g := wordW_gd this.1
      have c : ¬ a = o := by simpa [Row.isOwn, Row.ownW] using c
      simp [hρ, g, c, g2]
    | _ => simp [hρ]) (r := .tmp (pairT q)) (ρ2 := ρ.set 3 (.val (Row.T (.take a b o)))) (by simp [hρ, g2, hq])
  have e1 := e1 _ rfl
  rw [call_py H.law_home rfl]
  simp [b_law_home, lr, e1]
theorem law_given_row (H : HLH P X) {p : Pg} (hp : PgOk p) {pl nm : W} (g1 : gdW pl = true) (g2 : gdW nm = true) (hm : modOf p pl = some m) {gr : Row} (hr : givOf m nm = some gr) (i : Nat) {q : W × W}
    (h1 : ∀ o n, gr = .give o n → callF P (i + 1) X.law_home [pgT p, .str pl, .str o] = .ok (.tmp (pairT q))) (h2 : ∀ a b n, gr = .pass a b n → callF P (i + 1) X.law_given_home [pgT p, .str a, .str b] = .ok (.tmp (pairT q))) : callF P (i + 2) X.law_given_home [pgT p, .str pl, .str nm] = .ok (.tmp (pairT q)) := by
  have lr := law_rows H.law_rows p hp pl g1 i
  rw [hm] at lr
  simp only [optT] at lr
  have mr := (hp m (modOf_mem hm).1).2
  obtain ⟨gm1, gm2, gm3⟩ := givOf_mem hr
  have e1 : ∀ ρ : Py.Env, ρ = [.val (pgT p), .val (.str pl), .val (.str nm), .un] → _ := fun ρ hρ => forR_first (F := Row.T) (i := 3) (b := exs P.C (callF P (i + 1)) P.sub [.ite (.and2 (.cmp .eq (.ix (.loc 3) (.int 0)) (.str [103, 105, 118, 101])) (.cmp .eq (.ix (.loc 3) (.int 2)) (.loc 2))) [.ret (.call X.law_home [(.loc 0), (.loc 1), (.ix (.loc 3) (.int 1))])] [], .ite (.and2 (.cmp .eq (.ix (.loc 3) (.int 0)) (.str [112, 97, 115, 115])) (.cmp .eq (.ix (.loc 3) (.int 3)) (.loc 2))) [.ret (.call X.law_given_home [(.loc 0), (.ix (.loc 3) (.int 1)), (.ix (.loc 3) (.int 2))])] []]) (ρ := ρ) (by simp [hρ]) m.rows hr (fun r hr c => by
    have := mr r hr
    cases r with
    | give a d =>
      have g := wordW_gd this.2
      have c : ¬ d = nm := by simpa [Row.isGiv, Row.givW] using c
      simp [hρ, g, c, g2]
    | pass a b d =>
      have g := wordW_gd this.2.2
      have c : ¬ d = nm := by simpa [Row.isGiv, Row.givW] using c
      simp [hρ, g, c, g2]
    | _ => simp [hρ]) (r := .tmp (pairT q)) (ρ2 := ρ.set 3 (.val gr.T)) (by
      cases gr with
      | give o n =>
        have gm3 : n = nm := gm3
        subst gm3
        simp [hρ, g2, h1 o n rfl]
      | pass a b n =>
        have gm3 : n = nm := gm3
        subst gm3
        simp [hρ, g2, h2 a b n rfl]
      | _ => simp [Row.isGiv] at gm2)
  have e1 := e1 _ rfl
  rw [call_py H.law_given_home rfl]
  simp [b_law_given_home, lr, e1]
theorem hgF_mono {p : Pg} {r : HR} {j : Nat} : ∀ {n : Nat} {met : List (W × W)} {pl nm : W}, hgF n p met pl nm = some r → hgF (n + j) p met pl nm = some r := by
  intro n
  induction n with
  | zero =>
    intro met pl nm h
    cases h
  | succ n ih =>
    intro met pl nm h
    rw [show n + 1 + j = (n + j) + 1 by omega]
    simp only [hgF] at h ⊢
    split at h
    · rename_i c
      rw [if_pos c, h]
    · rename_i c
      rw [if_neg c]
      split at h
      · exact h
      · split at h
        · exact h
        · split at h
          · exact h
          · exact ih h
          · cases h
        · exact ih h
        · cases h
theorem law_given_home (H : HLH P X) {p : Pg} (hp : PgOk p) : ∀ (n : Nat) (met : List (W × W)) (pl nm a b : W), hgF n p met pl nm = some (.home a b) → gdW pl = true → gdW nm = true → ∀ i, callF P (i + 2 * n + 1) X.law_given_home [pgT p, .str pl, .str nm] = .ok (.tmp (pairT (a, b))) := by
  intro n
  induction n with
  | zero =>
    intro met pl nm a b h
    cases h
  | succ n ih =>
    intro met pl nm a b h g1 g2 i
    simp only [hgF] at h
    split at h
    · cases h
    cases h1 : modOf p pl with
    | none =>
      rw [h1] at h
      cases h
    | some m =>
      rw [h1] at h
      have mr := (hp m (modOf_mem h1).1).2
      cases h2 : givOf m nm with
      | none =>
        simp only [h2] at h
        cases h
      | some gr =>
        have gok := mr gr (givOf_mem h2).1
        simp only [h2] at h
        cases gr with
        | give o n2 =>
          have go := (wordW_gd gok.1).2.1
          refine law_given_row H hp g1 g2 h1 h2 (i + 2 * n + 1) (q := (a, b)) (fun o' n' e => ?_) (fun _ _ _ e => by cases e)
          cases e
          cases h3 : rowOf m o with
          | none =>
            simp only [h3] at h
            cases h
          | some r2 =>
            obtain ⟨rm1, rm2, rm3⟩ := rowOf_mem h3
            have rok := mr r2 rm1
            cases r2 with
            | set o3 e3 =>
              simp only [h3] at h
              cases h
              have rm3 : o3 = b := rm3
              subst rm3
              exact law_home_set H hp g1 go h1 h3 (i + 2 * n)
            | take m2 n3 o3 =>
              simp only [h3] at h
              have rm3 : o3 = o := rm3
              subst rm3
              have gg := wordW_gd rok.1
              have gg2 := wordW_gd rok.2.1
              exact law_home_take H hp g1 go h1 h3 _ (ih _ _ _ _ _ h gg.2.1 gg2.2.1 i)
            | _ => simp [Row.isOwn] at rm2
        | pass m2 n2 n3 =>
          have gg := wordW_gd gok.1
          have gg2 := wordW_gd gok.2.1
          refine law_given_row H hp g1 g2 h1 h2 (i + 2 * n + 1) (q := (a, b)) (fun _ _ e => by cases e) (fun a' b' n' e => ?_)
          cases e
          have := ih _ _ _ _ _ h gg.2.1 gg2.2.1 (i + 1)
          rwa [show i + 1 + 2 * n + 1 = i + 2 * n + 1 + 1 by omega] at this
        | _ => simp at h
theorem GP.home7 {p : Pg} {md : Nat → Mod} (g : GP ring many p md) {k : Nat} (hk : k < many) {w : W} (hw : w ∈ gives k) : ∃ a b, hgF 7 p [] (mName k) w = some (.home a b) ∧ hg p (mName k) w = .home a b := by
  have h5 := g.hi
  obtain ⟨a, b, e⟩ := g.home hk hw
  have key : ∃ a b, hgF 7 p [] (mName k) w = some (.home a b) := by
    cases ring with
    | true => exact g.homeR hk hw 5
    | false => exact g.homeN 5 k hk (by omega) w hw [] (fun _ h => by cases h) 2
  obtain ⟨a', b', e'⟩ := key
  have := hgF_mono (j := 55) e'
  rw [hg_some g.good] at this
  have this := Option.some.inj this
  exact ⟨a', b', e', this⟩
end M
set_option Elab.async false
set_option linter.all false
set_option autoImplicit false
set_option maxRecDepth 100000
namespace M
open Py
variable {P : Prg} {X : Ix}
variable {ring : Bool} {many k nt : Nat} {m : Mod}
structure HHm (P : Prg) (X : Ix) : Prop extends HH P X where
  look_module : P.fns[X.look_module]? = some (F_look_module X)
  home_of : P.fns[X.home_of]? = some (F_home_of X)
theorem home_ofS (H : HHm P X) {p : Pg} (hp : PgOk p) {pl o : W} (g1 : gdW pl = true) (g2 : gdW o = true) {e : E} (hm : modOf p pl = some m) (hr : rowOf m o = some (.set o e)) (i : Nat) : callF P (i + 3) X.home_of [pgT p, .str pl, .str o] = .ok (.tmp (pairT (pl, o))) := by
  have mo := mod_of H.toHH hp g1 (i + 1)
  rw [hm] at mo
  have ro := row_of H.toHH m (hp m (modOf_mem hm).1).2 o g2 (i + 1)
  rw [hr] at ro
  rw [call_py H.home_of rfl]
  simp [b_home_of, mo, optT, ro]
theorem home_ofT (H : HHm P X) {p : Pg} (hp : PgGood p) {pl o a b : W} (g1 : gdW pl = true) (g2 : gdW o = true) (hm : modOf p pl = some m) (hr : rowOf m o = some (.take a b o)) (i : Nat) : callF P (i + 3) X.home_of [pgT p, .str pl, .str o] = hgRes X (hg p a b) := by
  have mo := mod_of H.toHH hp.ok g1 (i + 1)
  rw [hm] at mo
  have mr := (hp.ok m (modOf_mem hm).1).2
  have ro := row_of H.toHH m mr o g2 (i + 1)
  rw [hr] at ro
  have rok := mr _ (rowOf_mem hr).1
  have ho := hofg H.toHH hp (wordW_gd rok.1).2.1 (wordW_gd rok.2.1).2.1 i
  rw [call_py H.home_of rfl]
  generalize hg p a b = r at ho ⊢
  cases r <;> simp only [hgRes] at ho ⊢ <;> simp [b_home_of, mo, optT, ro, ho, hgRes]
structure HHo (P : Prg) (X : Ix) : Prop extends HHm P X where
  home : P.fns[X.home]? = some (F_home X)
theorem home_okS (H : HHo P X) {p : Pg} (hp : PgGood p) (he : pgErr X p = none) {pl o : W} (w1 : wordW pl = true) (w2 : wordW o = true) {e : E} (hm : modOf p pl = some m) (hr : rowOf m o = some (.set o e)) (k : Nat) : callF P (k + 24) X.home [pgT p, .str pl, .str o] = .ok (.tmp (pairT (pl, o))) := by
  have ok : okT (.str pl) = true := by simp [wl w1]
  have lm := look_module_ok H.toHH H.look_module hp he ok k
  rw [if_pos (by simp [modT, w1, hm])] at lm
  have iw := is_word H.toHX (.str o) (by simp [wl w2]) (k + 22)
  have ib : wordB (.str o) = true := w2
  have g1 := (wordW_gd w1).2.1
  have g2 := (wordW_gd w2).2.1
  have mo := mod_of H.toHH hp.ok g1 (k + 22)
  rw [hm] at mo
  have ro := row_of H.toHH m (hp.ok m (modOf_mem hm).1).2 o g2 (k + 22)
  rw [hr] at ro
  have hof := home_ofS H.toHHm hp.ok g1 g2 hm hr (k + 20)
  rw [call_py H.home rfl]
  simp [b_home, lm, iw, ib, mo, optT, ro, hof]
theorem home_okT (H : HHo P X) {p : Pg} (hp : PgGood p) (he : pgErr X p = none) {pl o a b : W} (w1 : wordW pl = true) (w2 : wordW o = true) (hm : modOf p pl = some m) (hr : rowOf m o = some (.take a b o)) (k : Nat) : callF P (k + 24) X.home [pgT p, .str pl, .str o] = hgRes X (hg p a b) := by
  have ok : okT (.str pl) = true := by simp [wl w1]
  have lm := look_module_ok H.toHH H.look_module hp he ok k
  rw [if_pos (by simp [modT, w1, hm])] at lm
  have iw := is_word H.toHX (.str o) (by simp [wl w2]) (k + 22)
  have ib : wordB (.str o) = true := w2
  have g1 := (wordW_gd w1).2.1
  have g2 := (wordW_gd w2).2.1
  have mo := mod_of H.toHH hp.ok g1 (k + 22)
  rw [hm] at mo
  have ro := row_of H.toHH m (hp.ok m (modOf_mem hm).1).2 o g2 (k + 22)
  rw [hr] at ro
  have hof := home_ofT H.toHHm hp g1 g2 hm hr (k + 20)
  rw [call_py H.home rfl]
  generalize hg p a b = r at hof ⊢
  cases r <;> simp only [hgRes] at hof ⊢ <;> simp [b_home, lm, iw, ib, mo, optT, ro, hof, hgRes]
theorem home_nomod (H : HHo P X) {p : Pg} (hp : PgGood p) (he : pgErr X p = none) {t u : T} (ho : okT t = true) (h : modT p t = none) (k : Nat) : callF P (k + 24) X.home [pgT p, t, u] = .exc X.xNoModule := by
  have lm := look_module_ok H.toHH H.look_module hp he ho k
  rw [h] at lm
  simp at lm
  rw [call_py H.home rfl]
  simp [b_home, lm]
theorem home_noword (H : HHo P X) {p : Pg} (hp : PgGood p) (he : pgErr X p = none) {pl : W} (w1 : wordW pl = true) (hm : (modOf p pl).isSome = true) {u : T} (ho : okT u = true) (hb : wordB u = false) (k : Nat) : callF P (k + 24) X.home [pgT p, .str pl, u] = .exc X.xBadName := by
  have ok : okT (.str pl) = true := by simp [wl w1]
  have lm := look_module_ok H.toHH H.look_module hp he ok k
  rw [if_pos (by simp [modT, w1, hm])] at lm
  have iw := is_word H.toHX u ho (k + 22)
  rw [call_py H.home rfl]
  simp [b_home, lm, iw, hb]
theorem home_noname (H : HHo P X) {p : Pg} (hp : PgGood p) (he : pgErr X p = none) {pl o : W} (w1 : wordW pl = true) (w2 : wordW o = true) (hm : modOf p pl = some m) (hr : rowOf m o = none) (k : Nat) : callF P (k + 24) X.home [pgT p, .str pl, .str o] = .exc X.xBadName := by
  have ok : okT (.str pl) = true := by simp [wl w1]
  have lm := look_module_ok H.toHH H.look_module hp he ok k
  rw [if_pos (by simp [modT, w1, hm])] at lm
  have iw := is_word H.toHX (.str o) (by simp [wl w2]) (k + 22)
  have ib : wordB (.str o) = true := w2
  have mo := mod_of H.toHH hp.ok (wordW_gd w1).2.1 (k + 22)
  rw [hm] at mo
  have ro := row_of H.toHH m (hp.ok m (modOf_mem hm).1).2 o (wordW_gd w2).2.1 (k + 22)
  rw [hr] at ro
  rw [call_py H.home rfl]
  simp [b_home, lm, iw, ib, mo, optT, ro]
def usesW (pl : W) (m : Mod) : Bool := m.rows.any fun r => r.wants == some pl
def usersOf (p : Pg) (pl : W) : List W := (p.filter (usesW pl)).map Mod.nm
theorem srt_eq (l : List W) (h : l.length < 64) : b1T .srt (.lst (tstrs l)) = some (.new (.lst (tstrs (sortW l)))) := by
  show (match strsOf (l.map T.str) with
    | some ws => if ws.length < 64 then (sortT (ws.map T.str)).map fun s => R.new (.lst s) else none
    | none => _) = _
  rw [M.strsOf_map]
  show (if l.length < 64 then (sortT (l.map T.str)).map fun s => R.new (.lst s) else none) = _
  rw [if_pos h, sortT_str]
  rfl
theorem insW_mem {x y : W} : ∀ {l : List W}, y ∈ insW x l → y = x ∨ y ∈ l
  | [], h => by simpa [insW] using h
  | z :: r, h => by
    unfold insW at h
    split at h
    · simpa using h
    · rcases List.mem_cons.mp h with h | h
      · exact .inr (by simp [h])
      · rcases insW_mem h with h | h
        · exact .inl h
        · exact .inr (List.mem_cons_of_mem _ h)
theorem sortW_mem {y : W} : ∀ {l : List W}, y ∈ sortW l → y ∈ l
  | [], h => by cases h
  | x :: r, h => by
    rcases insW_mem (l := sortW r) h with h | h
    · exact h ▸ List.mem_cons_self ..
    · exact List.mem_cons_of_mem _ (sortW_mem h)
theorem uses_ne {pl : W} {m : Mod} : ((m.rows.filter fun r => r.wants == some pl).map Row.T ≠ []) ↔ usesW pl m = true := by
  unfold usesW
  rw [List.any_eq_true, Ne, List.map_eq_nil_iff, List.filter_eq_nil_iff]
  constructor
  · intro h
    exact Classical.byContradiction fun z => h fun r hr hw => z ⟨r, hr, hw⟩
  · rintro ⟨r, hr, hw⟩ h
    exact h r hr hw
abbrev cWant : Ex := .and2 (.cmp .isin (.ix (.loc 4) (.int 0)) (.tup [(.str [116, 97, 107, 101]), (.str [112, 97, 115, 115]), (.str [114, 117, 110])])) (.cmp .eq (.ix (.loc 4) (.int 1)) (.loc 1))
abbrev bUsers : List Stm := [.ite (.lc (.loc 4) (.one 4) .seq [(.ix (.loc 3) (.int 1))] (.and2 (.cmp .isin (.ix (.loc 4) (.int 0)) (.tup [(.str [116, 97, 107, 101]), (.str [112, 97, 115, 115]), (.str [114, 117, 110])])) (.cmp .eq (.ix (.loc 4) (.int 1)) (.loc 1)))) [.exp (.m1 .append (.loc 2) (.ix (.loc 3) (.int 0)))] []]
theorem users_loop {p : Pg} {pl : W} (g : gdW pl = true) (i : Nat) : ∀ (ms : Pg), (∀ m ∈ ms, m.rows.length ≤ 60 ∧ ∀ r ∈ m.rows, r.ok) → ∀ (acc : List W) (x3 : Sl), acc.length + ms.length ≤ 1000 → ∃ z3, forR (ms.map Mod.T) (.one 3) (exs P.C (callF P i) P.sub bUsers)
    [.val (pgT p), .val (.str pl), .own (.lst (tstrs acc)), x3, .un] = .next [.val (pgT p), .val (.str pl), .own (.lst (tstrs (acc ++ usersOf ms pl))), z3, .un] := by
  intro ms
  induction ms with
  | nil => exact fun _ acc x3 _ => ⟨x3, by simp [usersOf]⟩
  | cons m ms ih =>
    intro hm acc x3 hl
    obtain ⟨h60, hr⟩ := hm m (List.mem_cons_self ..)
    simp only [List.length_cons] at hl
    have e1 : ∀ ρ : Py.Env, ρ = [.val (pgT p), .val (.str pl), .own (.lst (tstrs acc)), .val m.T, .un] → _ := fun ρ hρ =>
      lcR_one m.rows Row.T (fun r => r.wants == some pl) Row.T (i := 4) (ρ := ρ) (vc := (go P.C (callF P i) (.and2 (.cmp .isin (.ix (.loc 4) (.int 0)) (.tup [(.str [116, 97, 107, 101]), (.str [112, 97, 115, 115]), (.str [114, 117, 110])])) (.cmp .eq (.ix (.loc 4) (.int 1)) (.loc 1)))).2) (ve := (go P.C (callF P i) (.loc 4)).1) (by simp [hρ]) (by simp [hρ]) (by omega) fun r h => by
        have rk := hr r h
        cases r with
        | take a b c =>
          have ga := wordW_gd rk.1
          by_cases c : a = pl <;> simp [hρ, Row.wants, ga, g, c]
        | pass a b c =>
          have ga := wordW_gd rk.1
          by_cases c : a = pl <;> simp [hρ, Row.wants, ga, g, c]
        | run a =>
          have ga := wordW_gd rk
          by_cases c : a = pl <;> simp [hρ, Row.wants, ga, g, c]
        | _ => simp [hρ, Row.wants]
    have e1 := e1 _ rfl
    have un := uses_ne (pl := pl) (m := m)
    generalize (m.rows.filter fun r => r.wants == some pl).map Row.T = ls at e1 un
    rw [List.map_cons, forR_cons]
    simp only [Mod.T] at e1
    by_cases c : usesW pl m = true
    · have hne := un.mpr c
      obtain ⟨z3, e2⟩ := ih (fun m hm' => hm m (List.mem_cons_of_mem _ hm')) (acc ++ [m.nm]) (.val m.T) (by simp; omega)
      refine ⟨z3, ?_⟩
      have eu : usersOf (m :: ms) pl = m.nm :: usersOf ms pl := by simp [usersOf, c]
      have hcap : acc.length < 1000000 := by omega
      simp [Mod.T, e1, hne, hcap] at e2 ⊢
      rw [eu]
      exact e2
    · have hne : ls = [] := Classical.byContradiction fun z => c (un.mp z)
      obtain ⟨z3, e2⟩ := ih (fun m hm' => hm m (List.mem_cons_of_mem _ hm')) acc (.val m.T) (by omega)
      refine ⟨z3, ?_⟩
      have eu : usersOf (m :: ms) pl = usersOf ms pl := by simp [usersOf, c]
      simp [Mod.T, e1, hne] at e2 ⊢
      rw [eu]
      exact e2
theorem users_len (p : Pg) (pl : W) : (usersOf p pl).length ≤ p.length := by
  unfold usersOf
  rw [List.length_map]
  exact List.length_filter_le _ _
structure HUs (P : Prg) (X : Ix) : Prop extends HHo P X where
  users : P.fns[X.users]? = some (F_users X)
theorem users_ok (H : HUs P X) {p : Pg} (hp : PgGood p) (he : pgErr X p = none) {pl : W} (w1 : wordW pl = true) (hm : (modOf p pl).isSome = true) (k : Nat) : callF P (k + 24) X.users [pgT p, .str pl] = .ok (.new (.lst (tstrs (sortW (usersOf p pl))))) := by
  have ok : okT (.str pl) = true := by simp [wl w1]
  have lm := look_module_ok H.toHH H.look_module hp he ok k
  rw [if_pos (by simp [modT, w1, hm])] at lm
  have h6 := hp.len
  obtain ⟨z3, e⟩ := users_loop (P := P) (p := p) (wordW_gd w1).2.1 (k + 23) p (fun m hm => ⟨(hp.mods m hm).len, (hp.mods m hm).rows⟩) [] .un (by simp; omega)
  have sl := users_len p pl
  have se := srt_eq (usersOf p pl) (by omega)
  have T1 : pgT p = .tup (p.map Mod.T) := rfl
  rw [call_py H.users rfl]
  rw [T1] at lm e ⊢
  simp at e
  simp [b_users, lm, e, se]
theorem users_nomod (H : HUs P X) {p : Pg} (hp : PgGood p) (he : pgErr X p = none) {t : T} (ho : okT t = true) (h : modT p t = none) (k : Nat) : callF P (k + 24) X.users [pgT p, t] = .exc X.xNoModule := by
  have lm := look_module_ok H.toHH H.look_module hp he ho k
  rw [h] at lm
  simp at lm
  rw [call_py H.users rfl]
  simp [b_users, lm]
end M
namespace M
open Py
variable {P : Prg} {X : Ix}
variable {ring : Bool} {many k nt : Nat} {m : Mod}
theorem hgF_gd {p : Pg} (hp : PgOk p) : ∀ (n : Nat) (met : List (W × W)) (pl nm a b : W), hgF n p met pl nm = some (.home a b) → gdW pl = true → gdW a = true ∧ gdW b = true := by
  intro n
  induction n with
  | zero =>
    intro met pl nm a b h
    cases h
  | succ n ih =>
    intro met pl nm a b h g1
    simp only [hgF] at h
    split at h
    · cases h
    cases h1 : modOf p pl with
    | none =>
      rw [h1] at h
      cases h
    | some m =>
      rw [h1] at h
      have mr := (hp m (modOf_mem h1).1).2
      cases h2 : givOf m nm with
      | none =>
        simp only [h2] at h
        cases h
      | some gr =>
        have gok := mr gr (givOf_mem h2).1
        simp only [h2] at h
        cases gr with
        | give o n2 =>
          have go := (wordW_gd gok.1).2.1
          cases h3 : rowOf m o with
          | none =>
            simp only [h3] at h
            cases h
          | some r2 =>
            obtain ⟨rm1, rm2, rm3⟩ := rowOf_mem h3
            have rok := mr r2 rm1
            cases r2 with
            | set o3 e3 =>
              simp only [h3] at h
              cases h
              exact ⟨g1, go⟩
            | take m2 n3 o3 =>
              simp only [h3] at h
              exact ih _ _ _ _ _ h (wordW_gd rok.1).2.1
            | _ => simp [Row.isOwn] at rm2
        | pass m2 n2 n3 => exact ih _ _ _ _ _ h (wordW_gd gok.1).2.1
        | _ => simp at h
structure H02 (P : Prg) (X : Ix) : Prop extends HUs P X, HGn P X, HLH P X where
  nn : P.sub X.xNoModule X.xNoModule = true
  bn : P.sub X.xBadName X.xNoModule = false
  bb : P.sub X.xBadName X.xBadName = true
theorem home_same (H : HHo P X) (L : HLH P X) {p : Pg} {md : Nat → Mod} (g : GP ring many p md) {k : Nat} (hk : k < many) {w : W} (hw : w ∈ ownN (md k).rows) (i : Nat) :
    ∃ q : W × W, gdW q.1 = true ∧ gdW q.2 = true ∧ callF P (i + 24) X.home [pgT p, .str (mName k), .str w] = .ok (.tmp (pairT q)) ∧ callF P (i + 24) X.law_home [pgT p, .str (mName k), .str w] = .ok (.tmp (pairT q)) := by
  have h5 := g.hi
  obtain ⟨nt, ts, ss, gs, last, q⟩ := (g.gen k hk).gm
  rw [q.own] at hw
  have w1 : wordW (mName k) = true := mW (by omega)
  have w2 := known_w q.nt3 w hw
  have hm := g.mo hk
  have he : pgErr X p = none := g.err
  have g1 := (wordW_gd w1).2.1
  have g2 := (wordW_gd w2).2.1
  rcases q.rowA hw with ⟨e, hr⟩ | ⟨o, gg, ho, hgg, hr⟩
  · exact ⟨(mName k, w), g1, g2, home_okS H g.good he w1 w2 hm hr i, law_home_set L g.good.ok g1 g2 hm hr (i + 22)⟩
  · have hol := (othersOf_lt ho).1
    have hgw : gg ∈ gives o := List.mem_of_mem_take hgg
    obtain ⟨a, b, e1, e2⟩ := g.home7 hol hgw
    have w3 : wordW (mName o) = true := mW (by omega)
    have w4 := gives_w o gg hgw
    have hh := home_okT H g.good he w1 w2 hm hr i
    rw [e2] at hh
    have lg := law_given_home L g.good.ok 7 [] _ _ _ _ e1 (wordW_gd w3).2.1 (wordW_gd w4).2.1 (i + 8)
    obtain ⟨ga, gb⟩ := hgF_gd g.good.ok 7 [] _ _ _ _ e1 (wordW_gd w3).2.1
    exact ⟨(a, b), ga, gb, hh, law_home_take L g.good.ok g1 g2 hm hr (i + 22) lg⟩
theorem forR_skip {α : Type} (xs : List α) (F : α → T) {i : Nat} {b : Env → SRes} (ρ : Py.Env) (hi : i < ρ.length)
    (h : ∀ x ∈ xs, b (ρ.set i (.val (F x))) = .next (ρ.set i (.val (F x)))) : ∃ z, forR (xs.map F) (.one i) b ρ = .next (ρ.set i z) := by
  obtain ⟨z, e⟩ := forR_find xs F (fun _ => false) (i := i) (b := b) ρ hi (fun x hx => by rw [h x hx]; rfl)
  have : xs.find? (fun _ => false) = none := by simp
  rw [this] at e
  exact ⟨z, e⟩
abbrev bUs2 : List Stm := [.ite (.cmp .ne (.lc (.loc 5) (.one 5) .seq [(.loc 9)] (.and2 (.cmp .isin (.ix (.loc 5) (.int 0)) (.tup [(.str [116, 97, 107, 101]), (.str [112, 97, 115, 115]), (.str [114, 117, 110])])) (.cmp .eq (.ix (.loc 5) (.int 1)) (.loc 2)))) (.lst [])) [.exp (.m1 .append (.loc 7) (.loc 8))] []]
theorem goods_wants : ∀ (l : List Row), (∀ r ∈ l, r.ok ∧ r.wants.isSome = true) → goods 60 (l.map Row.T) = true
  | [], _ => by simp
  | r :: l, h => by
    obtain ⟨h1, h2⟩ := h r (List.mem_cons_self ..)
    have ih := goods_wants l fun r hr => h r (List.mem_cons_of_mem _ hr)
    cases r with
    | take a b c =>
      have ga := wordW_gd h1.1
      have gb := wordW_gd h1.2.1
      have gc := wordW_gd h1.2.2
      simp [ih, ga, gb, gc]
    | pass a b c =>
      have ga := wordW_gd h1.1
      have gb := wordW_gd h1.2.1
      have gc := wordW_gd h1.2.2
      simp [ih, ga, gb, gc]
    | run a =>
      have ga := wordW_gd h1
      simp [ih, ga]
    | _ => simp [Row.wants] at h2
theorem users_loop2 {pl : W} (g : gdW pl = true) (i : Nat) (x0 x1 x3 x4 x6 x10 x11 : Sl) : ∀ (ms : Pg), (∀ m ∈ ms, m.rows.length ≤ 60 ∧ ∀ r ∈ m.rows, r.ok) → ∀ (acc : List W) (x8 x9 : Sl), acc.length + ms.length ≤ 1000 → ∃ z8 z9, forR (ms.map Mod.T) (.many [8, 9]) (exs P.C (callF P i) P.sub bUs2)
    [x0, x1, .val (.str pl), x3, x4, .un, x6, .own (.lst (tstrs acc)), x8, x9, x10, x11] = .next [x0, x1, .val (.str pl), x3, x4, .un, x6, .own (.lst (tstrs (acc ++ usersOf ms pl))), z8, z9, x10, x11] := by
  intro ms
  induction ms with
  | nil => exact fun _ acc x8 x9 _ => ⟨x8, x9, by simp [usersOf]⟩
  | cons m ms ih =>
    intro hm acc x8 x9 hl
    obtain ⟨h60, hr⟩ := hm m (List.mem_cons_self ..)
    simp only [List.length_cons] at hl
    have e1 : ∀ ρ : Py.Env, ρ = [x0, x1, .val (.str pl), x3, x4, .un, x6, .own (.lst (tstrs acc)), .val (.str m.nm), .val (.tup (m.rows.map Row.T)), x10, x11] → _ := fun ρ hρ =>
      lcR_one m.rows Row.T (fun r => r.wants == some pl) Row.T (i := 5) (ρ := ρ) (vc := (go P.C (callF P i) (.and2 (.cmp .isin (.ix (.loc 5) (.int 0)) (.tup [(.str [116, 97, 107, 101]), (.str [112, 97, 115, 115]), (.str [114, 117, 110])])) (.cmp .eq (.ix (.loc 5) (.int 1)) (.loc 2)))).2) (ve := (go P.C (callF P i) (.loc 5)).1) (by simp [hρ]) (by simp [hρ]) (by omega) fun r h => by
        have rk := hr r h
        cases r with
        | take a b c =>
          have ga := wordW_gd rk.1
          by_cases c : a = pl <;> simp [hρ, Row.wants, ga, g, c]
        | pass a b c =>
          have ga := wordW_gd rk.1
          by_cases c : a = pl <;> simp [hρ, Row.wants, ga, g, c]
        | run a =>
          have ga := wordW_gd rk
          by_cases c : a = pl <;> simp [hρ, Row.wants, ga, g, c]
        | _ => simp [hρ, Row.wants]
    have e1 := e1 _ rfl
    have un := uses_ne (pl := pl) (m := m)
    have gl : goods 60 ((m.rows.filter fun r => r.wants == some pl).map Row.T) = true := goods_wants _ fun r h => ⟨hr r (List.mem_filter.mp h).1, by simpa using (Option.isSome_iff_exists.mpr ⟨pl, by simpa using (List.mem_filter.mp h).2⟩)⟩
    generalize (m.rows.filter fun r => r.wants == some pl).map Row.T = ls at e1 un gl
    rw [List.map_cons, forR_cons]
    by_cases c : usesW pl m = true
    · have hne := un.mpr c
      obtain ⟨z8, z9, e2⟩ := ih (fun m hm' => hm m (List.mem_cons_of_mem _ hm')) (acc ++ [m.nm]) (.val (.str m.nm)) (.val (.tup (m.rows.map Row.T))) (by simp; omega)
      refine ⟨z8, z9, ?_⟩
      have eu : usersOf (m :: ms) pl = m.nm :: usersOf ms pl := by simp [usersOf, c]
      have hcap : acc.length < 1000000 := by omega
      have hz : eqTs ls [] = false := by cases ls <;> simp_all [eqTs]
      simp [Mod.T, e1, hne, hcap, gl, hz] at e2 ⊢
      rw [eu]
      exact e2
    · have hne : ls = [] := Classical.byContradiction fun z => c (un.mp z)
      obtain ⟨z8, z9, e2⟩ := ih (fun m hm' => hm m (List.mem_cons_of_mem _ hm')) acc (.val (.str m.nm)) (.val (.tup (m.rows.map Row.T))) (by omega)
      refine ⟨z8, z9, ?_⟩
      have eu : usersOf (m :: ms) pl = usersOf ms pl := by simp [usersOf, c]
      simp [Mod.T, e1, hne] at e2 ⊢
      rw [eu]
      exact e2
theorem rowOf_none {m : Mod} {w : W} (h : w ∉ ownN m.rows) : rowOf m w = none := by
  cases e : rowOf m w with
  | none => rfl
  | some r =>
    obtain ⟨h1, h2, h3⟩ := rowOf_mem e
    exact absurd (List.mem_map.mpr ⟨r, List.mem_filter.mpr ⟨h1, h2⟩, h3⟩) h
end M
set_option Elab.async false
set_option linter.all false
set_option autoImplicit false
set_option maxRecDepth 100000
namespace M
open Py
variable {P : Prg} {X : Ix}
variable {ring : Bool} {many k nt : Nat} {m : Mod}
abbrev Vs := List ((W × W) × Int)
def dicK (v : Vs) : List (T × T) := v.map fun q => (pairT q.1, T.int q.2)
abbrev dicT (v : Vs) : T := .dct false (dicK v)
def getV : Vs → W × W → Int
  | [], _ => 0
  | (k, v) :: r, x => if k = x then v else getV r x
def putV (vs : Vs) (x : W × W) (v : Int) : Vs := if vs.any (fun q => decide (q.1 = x)) then vs.map (fun q => if q.1 = x then (q.1, v) else q) else vs ++ [(x, v)]
theorem eqT_pair (a b : W × W) : eqT (pairT a) (pairT b) = decide (a = b) := by
  obtain ⟨a1, a2⟩ := a
  obtain ⟨b1, b2⟩ := b
  by_cases h : a1 = b1 <;> by_cases h' : a2 = b2 <;> simp [h, h']
theorem getK_vs (x : W × W) : ∀ vs : Vs, (getK (dicK vs) (pairT x)).getD (.int 0) = .int (getV vs x)
  | [] => rfl
  | (k, v) :: r => by
    have ih := getK_vs x r
    show (if eqT (pairT k) (pairT x) = true then some (T.int v) else getK (dicK r) (pairT x)).getD (.int 0) = .int (if k = x then v else getV r x)
    rw [eqT_pair]
    by_cases h : k = x <;> simp [h, ih]
theorem putK_vs (x : W × W) (v : Int) (vs : Vs) : putK (dicK vs) (pairT x) (.int v) = dicK (putV vs x v) := by
  unfold putK putV dicK
  have e : ((vs.map fun q => (pairT q.1, T.int q.2)).any fun kv => eqT kv.1 (pairT x)) = vs.any fun q => decide (q.1 = x) := by
    rw [List.any_map]
    congr 1
    funext q
    exact eqT_pair q.1 x
  rw [e]
  split
  · simp only [List.map_map]
    refine List.map_congr_left fun q _ => ?_
    simp only [Function.comp_apply, eqT_pair]
    by_cases h : q.1 = x <;> simp [h]
  · simp
@[simp] theorem keyT_pair (x : W × W) : keyT false (pairT x) = true := (rfl)
def VsOk (vs : Vs) : Prop := ∀ x, 0 ≤ getV vs x ∧ getV vs x < 10007
theorem getV_app (x y : W × W) (v : Int) : ∀ vs : Vs, (vs.any (fun q => decide (q.1 = x))) = false → getV (vs ++ [(x, v)]) y = if x = y then v else getV vs y
  | [], _ => by simp [getV]
  | (k, u) :: r, h => by
    simp only [List.any_cons, Bool.or_eq_false_iff, decide_eq_false_iff_not] at h
    have ih := getV_app x y v r h.2
    simp only [List.cons_append, getV]
    by_cases c : k = y
    · have : ¬ x = y := fun z => h.1 (c.trans z.symm)
      simp [c, this]
    · simp [c, ih]
theorem getV_map (x y : W × W) (v : Int) : ∀ vs : Vs, getV (vs.map (fun q => if q.1 = x then (q.1, v) else q)) y = v ∨ getV (vs.map (fun q => if q.1 = x then (q.1, v) else q)) y = getV vs y
  | [] => .inr rfl
  | (k, u) :: r => by
    have ih := getV_map x y v r
    simp only [List.map_cons]
    by_cases c : k = x
    · rw [if_pos c]
      simp only [getV]
      by_cases d : k = y
      · simp [d]
      · simp only [if_neg d]
        exact ih
    · rw [if_neg c]
      simp only [getV]
      by_cases d : k = y
      · simp [d]
      · simp only [if_neg d]
        exact ih
theorem VsOk.put {vs : Vs} (h : VsOk vs) (x : W × W) {v : Int} (hv : 0 ≤ v ∧ v < 10007) : VsOk (putV vs x v) := fun y => by
  unfold putV
  split
  · rcases getV_map x y v vs with e | e <;> rw [e]
    · exact hv
    · exact h y
  · rename_i c
    rw [getV_app x y v vs (Bool.eq_false_iff.mpr c)]
    split
    · exact hv
    · exact h y
theorem putV_len (vs : Vs) (x : W × W) (v : Int) : (putV vs x v).length ≤ vs.length + 1 := by
  unfold putV
  split <;> simp
def ownH (p : Pg) (pl w : W) : W × W := match modOf p pl with
  | some m => (match rowOf m w with
    | some (.take a b _) => (match hg p a b with
      | .home x y => (x, y)
      | _ => (pl, w))
    | _ => (pl, w))
  | none => (pl, w)
theorem home_ofD (H : HHm P X) (L : HLH P X) {p : Pg} {md : Nat → Mod} (g : GP ring many p md) {k : Nat} (hk : k < many) {w : W} (hw : w ∈ ownN (md k).rows) (i : Nat) :
    callF P (i + 18) X.home_of [pgT p, .str (mName k), .str w] = .ok (.tmp (pairT (ownH p (mName k) w))) ∧ callF P (i + 18) X.law_home [pgT p, .str (mName k), .str w] = .ok (.tmp (pairT (ownH p (mName k) w))) ∧ gdW (ownH p (mName k) w).1 = true ∧ gdW (ownH p (mName k) w).2 = true := by
  have h5 := g.hi
  obtain ⟨nt, ts, ss, gs, last, q⟩ := (g.gen k hk).gm
  rw [q.own] at hw
  have w1 : wordW (mName k) = true := mW (by omega)
  have w2 := known_w q.nt3 w hw
  have hm := g.mo hk
  have g1 := (wordW_gd w1).2.1
  have g2 := (wordW_gd w2).2.1
  rcases q.rowA hw with ⟨e, hr⟩ | ⟨o, gg, ho, hgg, hr⟩
  · have eo : ownH p (mName k) w = (mName k, w) := by simp only [ownH, hm, hr]
    rw [eo]
    exact ⟨home_ofS H g.good.ok g1 g2 hm hr (i + 15), law_home_set L g.good.ok g1 g2 hm hr (i + 16), g1, g2⟩
  · have hol := (othersOf_lt ho).1
    have hgw : gg ∈ gives o := List.mem_of_mem_take hgg
    obtain ⟨a, b, e1, e2⟩ := g.home7 hol hgw
    have w3 : wordW (mName o) = true := mW (by omega)
    have w4 := gives_w o gg hgw
    have hh := home_ofT H g.good g1 g2 hm hr (i + 15)
    rw [e2] at hh
    have lg := law_given_home L g.good.ok 7 [] _ _ _ _ e1 (wordW_gd w3).2.1 (wordW_gd w4).2.1 (i + 2)
    obtain ⟨ga, gb⟩ := hgF_gd g.good.ok 7 [] _ _ _ _ e1 (wordW_gd w3).2.1
    have eo : ownH p (mName k) w = (a, b) := by simp only [ownH, hm, hr, e2]
    rw [eo]
    exact ⟨hh, law_home_take L g.good.ok g1 g2 hm hr (i + 16) lg, ga, gb⟩
def valIn (p : Pg) (pl : W) (vs : Vs) (e : E) : Int := e.val fun w => getV vs (ownH p pl w)
theorem VsOk.vals {vs : Vs} (h : VsOk vs) (p : Pg) (pl : W) : Vals fun w => getV vs (ownH p pl w) := fun w => h _
structure HVl (P : Prg) (X : Ix) : Prop extends HHm P X, HLH P X where
  value_of : P.fns[X.value_of]? = some (F_value_of X)
  law_value : P.fns[X.law_value]? = some (F_law_value X)
theorem value_of (H : HVl P X) {p : Pg} {md : Nat → Mod} (g : GP ring many p md) {k : Nat} (hk : k < many) {vs : Vs} (hv : VsOk vs) (i : Nat) : ∀ (e : E), e.ok → (∀ w ∈ e.names, w ∈ ownN (md k).rows) → ∀ j, e.dep < j → callF P (i + 18 + j) X.value_of [pgT p, .str (mName k), e.T, dicT vs] = .ok (.tmp (.int (valIn p (mName k) vs e))) := by
  intro e
  induction e with
  | num n =>
    intro ho hn j hj
    obtain ⟨j, rfl⟩ : ∃ d, j = d + 1 := ⟨j - 1, by omega⟩
    rw [← Nat.add_assoc, call_py H.value_of rfl]
    simp [b_value_of, E.T, valIn, E.val]
  | nam w =>
    intro ho hn j hj
    obtain ⟨j, rfl⟩ : ∃ d, j = d + 1 := ⟨j - 1, by omega⟩
    obtain ⟨h1, h2, h3, h4⟩ := home_ofD H.toHHm H.toHLH g hk (hn w (by simp [E.names])) (i + j)
    rw [show i + j + 18 = i + 18 + j by omega] at h1
    have gk := getK_vs (ownH p (mName k) w) vs
    rw [← Nat.add_assoc, call_py H.value_of rfl]
    simp [b_value_of, E.T, valIn, E.val, h1, get2Go, keyT_pair (ownH p (mName k) w), gk]
  | op t a b iha ihb =>
    intro ho hn j hj
    obtain ⟨j, rfl⟩ : ∃ d, j = d + 1 := ⟨j - 1, by omega⟩
    simp only [E.dep] at hj
    have ea := iha ho.1 (fun w hw => hn w (by simp [E.names, hw])) j (by omega)
    have eb := ihb ho.2 (fun w hw => hn w (by simp [E.names, hw])) j (by omega)
    rw [← Nat.add_assoc, call_py H.value_of rfl]
    have va := val_lt (hv.vals p (mName k)) ho.1
    have sm : small64 (E.val (fun w => getV vs (ownH p (mName k) w)) a) = true := by simp [small64]; omega
    cases t <;> simp [b_value_of, E.T, valIn, E.val, ea, eb, prime H.toHX, sm]
theorem law_value (H : HVl P X) {p : Pg} {md : Nat → Mod} (g : GP ring many p md) {k : Nat} (hk : k < many) {vs : Vs} (hv : VsOk vs) (i : Nat) : ∀ (e : E), e.ok → (∀ w ∈ e.names, w ∈ ownN (md k).rows) → ∀ j, e.dep < j → callF P (i + 18 + j) X.law_value [pgT p, .str (mName k), e.T, dicT vs] = .ok (.tmp (.int (valIn p (mName k) vs e))) := by
  intro e
  induction e with
  | num n =>
    intro ho hn j hj
    obtain ⟨j, rfl⟩ : ∃ d, j = d + 1 := ⟨j - 1, by omega⟩
    rw [← Nat.add_assoc, call_py H.law_value rfl]
    simp [b_law_value, E.T, valIn, E.val]
  | nam w =>
    intro ho hn j hj
    obtain ⟨j, rfl⟩ : ∃ d, j = d + 1 := ⟨j - 1, by omega⟩
    obtain ⟨h1, h2, h3, h4⟩ := home_ofD H.toHHm H.toHLH g hk (hn w (by simp [E.names])) (i + j)
    rw [show i + j + 18 = i + 18 + j by omega] at h2
    have gk := getK_vs (ownH p (mName k) w) vs
    rw [← Nat.add_assoc, call_py H.law_value rfl]
    simp [b_law_value, E.T, valIn, E.val, h2, get2Go, keyT_pair (ownH p (mName k) w), gk]
  | op t a b iha ihb =>
    intro ho hn j hj
    obtain ⟨j, rfl⟩ : ∃ d, j = d + 1 := ⟨j - 1, by omega⟩
    simp only [E.dep] at hj
    have ea := iha ho.1 (fun w hw => hn w (by simp [E.names, hw])) j (by omega)
    have eb := ihb ho.2 (fun w hw => hn w (by simp [E.names, hw])) j (by omega)
    rw [← Nat.add_assoc, call_py H.law_value rfl]
    have va := val_lt (hv.vals p (mName k)) ho.1
    have sm : small64 (E.val (fun w => getV vs (ownH p (mName k) w)) a) = true := by simp [small64]; omega
    cases t <;> simp [b_law_value, E.T, valIn, E.val, ea, eb, sm]
end M
set_option Elab.async false
set_option linter.all false
set_option autoImplicit false
set_option maxRecDepth 100000
namespace M
open Py
variable {P : Prg} {X : Ix}
variable {ring : Bool} {many k nt : Nat} {m : Mod}
abbrev RS := Vs × List Int
def rowV (p : Pg) (pl : W) (s : RS) : Row → RS
  | .set o e => (putV s.1 (pl, o) (valIn p pl s.1 e), s.2)
  | .note e => (s.1, s.2 ++ [valIn p pl s.1 e])
  | _ => s
def rowsV (p : Pg) (pl : W) : List Row → RS → RS
  | [], s => s
  | r :: rs, s => rowsV p pl rs (rowV p pl s r)
def RowE (own : List W) : Row → Prop
  | .set o e => EG own 3 e ∧ gdW o = true
  | .note e => EG own 3 e
  | _ => True
theorem valIn_lt {p : Pg} {pl : W} {vs : Vs} (hv : VsOk vs) {e : E} (h : e.ok) : 0 ≤ valIn p pl vs e ∧ valIn p pl vs e < 10007 := val_lt (hv.vals p pl) h
def RsOk (s : RS) : Prop := VsOk s.1 ∧ ∀ n ∈ s.2, 0 ≤ n ∧ n < 10007
theorem rowV_ok {p : Pg} {pl : W} {own : List W} {s : RS} (h : RsOk s) {r : Row} (hr : RowE own r) : RsOk (rowV p pl s r) ∧ (rowV p pl s r).1.length ≤ s.1.length + 1 ∧ (rowV p pl s r).2.length ≤ s.2.length + 1 := by
  cases r with
  | set o e => exact ⟨⟨h.1.put _ (valIn_lt h.1 hr.1.ok), h.2⟩, putV_len _ _ _, by simp [rowV]⟩
  | note e =>
    refine ⟨⟨h.1, fun n hn => ?_⟩, by simp [rowV], by simp [rowV]⟩
    rcases List.mem_append.mp hn with z | z
    · exact h.2 n z
    · simp only [List.mem_singleton] at z
      rw [z]
      exact valIn_lt h.1 hr.ok
  | _ => exact ⟨h, by simp [rowV], by simp [rowV]⟩
theorem rowsV_ok {p : Pg} {pl : W} {own : List W} : ∀ (rs : List Row) {s : RS}, RsOk s → (∀ r ∈ rs, RowE own r) → RsOk (rowsV p pl rs s) ∧ (rowsV p pl rs s).1.length ≤ s.1.length + rs.length ∧ (rowsV p pl rs s).2.length ≤ s.2.length + rs.length
  | [], s, h, _ => ⟨h, by simp [rowsV], by simp [rowsV]⟩
  | r :: rs, s, h, hr => by
    obtain ⟨a1, a2, a3⟩ := rowV_ok (p := p) (pl := pl) h (hr r (List.mem_cons_self ..))
    obtain ⟨b1, b2, b3⟩ := rowsV_ok (p := p) (pl := pl) rs a1 fun r hr' => hr r (List.mem_cons_of_mem _ hr')
    refine ⟨b1, ?_, ?_⟩ <;> simp only [rowsV, List.length_cons] <;> omega
abbrev bIn (vf : Nat) : List Stm := [.ite (.cmp .eq (.ix (.loc 5) (.int 0)) (.str [115, 101, 116])) [.sst 2 (.tup [(.loc 4), (.ix (.loc 5) (.int 1))]) (.call vf [(.loc 0), (.loc 4), (.ix (.loc 5) (.int 2)), (.loc 2)])] [], .ite (.cmp .eq (.ix (.loc 5) (.int 0)) (.str [110, 111, 116, 101])) [.exp (.m1 .append (.loc 3) (.call vf [(.loc 0), (.loc 4), (.ix (.loc 5) (.int 1)), (.loc 2)]))] []]
abbrev intsT (l : List Int) : T := .lst (l.map T.int)
theorem rows_loop {p : Pg} {pl : W} {own : List W} {vf i : Nat} (hv : ∀ e, EG own 3 e → ∀ vs, VsOk vs → callF P i vf [pgT p, .str pl, e.T, dicT vs] = .ok (.tmp (.int (valIn p pl vs e)))) (x1 : Sl) (tl : List Sl) :
    ∀ (rs : List Row), (∀ r ∈ rs, RowE own r) → ∀ (s : RS) (x5 : Sl), RsOk s → s.1.length + rs.length ≤ 5000 → s.2.length + rs.length ≤ 5000 → ∃ z5, forR (rs.map Row.T) (.one 5) (exs P.C (callF P i) P.sub (bIn vf))
      (.val (pgT p) :: x1 :: .own (dicT s.1) :: .own (intsT s.2) :: .val (.str pl) :: x5 :: tl) = .next (.val (pgT p) :: x1 :: .own (dicT (rowsV p pl rs s).1) :: .own (intsT (rowsV p pl rs s).2) :: .val (.str pl) :: z5 :: tl) := by
  intro rs
  induction rs with
  | nil => exact fun _ s x5 _ _ _ => ⟨x5, by simp [rowsV]⟩
  | cons r rs ih =>
    intro hr s x5 hs h1 h2
    simp only [List.length_cons] at h1 h2
    have hr1 := hr r (List.mem_cons_self ..)
    obtain ⟨a1, a2, a3⟩ := rowV_ok (p := p) (pl := pl) hs hr1
    obtain ⟨z5, ei⟩ := ih (fun r h => hr r (List.mem_cons_of_mem _ h)) (rowV p pl s r) (.val r.T) a1 (by omega) (by omega)
    refine ⟨z5, ?_⟩
    rw [List.map_cons, forR_cons]
    cases r with
    | set o e =>
      have hc := hv e hr1.1 s.1 hs.1
      have pk := putK_vs (pl, o) (valIn p pl s.1 e) s.1
      have kt := keyT_pair (pl, o)
      have hlen : (dicK s.1).length < 1000000 := by simp [dicK]; omega
      simp only [rowV] at ei
      simp [hc, putT, pk, kt, hlen, rowsV, rowV]
      exact ei
    | note e =>
      have hc := hv e hr1 s.1 hs.1
      have hlen : s.2.length < 1000000 := by omega
      simp [rowV] at ei
      simp [hc, hlen, rowsV, rowV]
      simp only [intsT, List.map_append, List.map_cons, List.map_nil] at ei ⊢
      exact ei
    | _ =>
      simp [rowsV, rowV]
      exact ei

def runV (p : Pg) : List W → RS → RS
  | [], s => s
  | w :: ws, s => runV p ws (match modOf p w with
    | some m => rowsV p w m.rows s
    | none => s)
theorem GM.rowE (q : ∃ nt ts ss gs last, GM ring many k m nt ts ss gs last) : ∀ r ∈ m.rows, RowE (ownN m.rows) r := by
  obtain ⟨nt, ts, ss, gs, last, q⟩ := q
  intro r hr
  rw [q.own]
  rcases q.mem r hr with h | h | h | h | ⟨e, he, rfl⟩ | ⟨o, ho, rfl⟩
  · obtain ⟨j, o, gg, h1, h2, h3, rfl⟩ := takes_mem q.tk r h
    trivial
  · obtain ⟨j, e, h1, h2, rfl⟩ := sets_mem q.st r h
    have b := List.mem_range.mp h1
    exact ⟨h2, (wordW_gd (sW (by omega))).2.1⟩
  · obtain ⟨j, w, h1, h2, rfl⟩ := gives_mem q.gv r h
    trivial
  · have la := q.la
    rw [h]
    cases la <;> trivial
  · exact he.up (by omega)
  · trivial
theorem run_loop {p : Pg} {md : Nat → Mod} (g : GP ring many p md) {vf i : Nat} {re : Ex} (hv : ∀ k, k < many → ∀ e, EG (ownN (md k).rows) 3 e → ∀ vs, VsOk vs → callF P i vf [pgT p, .str (mName k), e.T, dicT vs] = .ok (.tmp (.int (valIn p (mName k) vs e)))) (x1 : Sl) (tl : List Sl)
    (hre : ∀ k, k < many → ∀ x2 x3 x5, (go P.C (callF P i) re).1 (.val (pgT p) :: x1 :: x2 :: x3 :: .val (.str (mName k)) :: x5 :: tl) = .ok (.tmp (.tup ((md k).rows.map Row.T)), .val (pgT p) :: x1 :: x2 :: x3 :: .val (.str (mName k)) :: x5 :: tl)) :
    ∀ (ws : List W), (∀ w ∈ ws, ∃ k, k < many ∧ w = mName k) → ∀ (s : RS) (x4 x5 : Sl), RsOk s → s.1.length + 60 * ws.length ≤ 5000 → s.2.length + 60 * ws.length ≤ 5000 → ∃ z4 z5, forR (ws.map T.str) (.one 4) (exs P.C (callF P i) P.sub [.for (.one 5) .seq [re] (bIn vf)])
      (.val (pgT p) :: x1 :: .own (dicT s.1) :: .own (intsT s.2) :: x4 :: x5 :: tl) = .next (.val (pgT p) :: x1 :: .own (dicT (runV p ws s).1) :: .own (intsT (runV p ws s).2) :: z4 :: z5 :: tl) ∧ RsOk (runV p ws s) := by
  intro ws
  induction ws with
  | nil => exact fun _ s x4 x5 hs _ _ => ⟨x4, x5, by simp [runV], hs⟩
  | cons w ws ih =>
    intro hw s x4 x5 hs h1 h2
    simp only [List.length_cons] at h1 h2
    obtain ⟨k, hk, rfl⟩ := hw w (List.mem_cons_self ..)
    have h5 := g.hi
    have hm := g.mo hk
    have re' := GM.rowE (g.gen k hk).gm
    have h60 := (g.good.mods _ (modOf_mem hm).1).len
    obtain ⟨b1, b2, b3⟩ := rowsV_ok (p := p) (pl := mName k) (md k).rows hs re'
    obtain ⟨z5, e1⟩ := rows_loop (hv k hk) x1 tl (md k).rows re' s x5 hs (by omega) (by omega)
    obtain ⟨z4, z5', e2, e3⟩ := ih (fun w h => hw w (List.mem_cons_of_mem _ h)) (rowsV p (mName k) (md k).rows s) (.val (.str (mName k))) z5 b1 (by omega) (by omega)
    have er : runV p (mName k :: ws) s = runV p ws (rowsV p (mName k) (md k).rows s) := by simp only [runV, hm]
    rw [er]
    refine ⟨z4, z5', ?_, e3⟩
    have hr := hre k hk (.own (dicT s.1)) (.own (intsT s.2)) x5
    rw [List.map_cons, forR_cons]
    simp [hr, e1]
    exact e2
def giveH (p : Pg) (pl : W) : Row → W × W
  | .give o _ => ownH p pl o
  | .pass a b _ => (match hg p a b with
    | .home x y => (x, y)
    | _ => (pl, pl))
  | _ => (pl, pl)
def giv (m : Mod) : List Row := m.rows.filter Row.isGiv
theorem find_nodup {f : Row → W} {q : Row → Bool} : ∀ (l : List Row), ((l.filter q).map f).Nodup → ∀ r ∈ l, q r = true → l.find? (fun z => q z && f z == f r) = some r
  | x :: l, h, r, hr, hq => by
    by_cases c : q x = true
    · rw [List.filter_cons_of_pos c, List.map_cons] at h
      obtain ⟨n1, n2⟩ := List.nodup_cons.mp h
      by_cases d : f x = f r
      · rcases List.mem_cons.mp hr with e | hr
        · rw [e] at hq ⊢
          simp [hq]
        · exact absurd (List.mem_map.mpr ⟨r, List.mem_filter.mpr ⟨hr, hq⟩, d.symm⟩) n1
      · rcases List.mem_cons.mp hr with e | hr
        · exact absurd (by rw [e]) d
        · rw [List.find?_cons_of_neg (by simp [d])]
          exact find_nodup l n2 r hr hq
    · rw [List.filter_cons_of_neg c] at h
      rcases List.mem_cons.mp hr with e | hr
      · rw [e] at hq
        exact absurd hq c
      · rw [List.find?_cons_of_neg (by simp [c])]
        exact find_nodup l h r hr hq
theorem giv_spec (H : HVl P X) {p : Pg} {md : Nat → Mod} (g : GP ring many p md) {k : Nat} (hk : k < many) {r : Row} (hr : r ∈ giv (md k)) (i : Nat) :
    wordW r.givW = true ∧ gdW (giveH p (mName k) r).1 = true ∧ gdW (giveH p (mName k) r).2 = true ∧
    callF P (i + 20) X.law_given_home [pgT p, .str (mName k), .str r.givW] = .ok (.tmp (pairT (giveH p (mName k) r))) ∧
    ((∃ o n, r = .give o n ∧ callF P (i + 20) X.home_of [pgT p, .str (mName k), .str o] = .ok (.tmp (pairT (giveH p (mName k) r)))) ∨
     (∃ a b n, r = .pass a b n ∧ callF P (i + 20) X.home_of_given [pgT p, .str a, .str b] = .ok (.tmp (pairT (giveH p (mName k) r))))) := by
  have h5 := g.hi
  obtain ⟨hrm, hrg⟩ := List.mem_filter.mp hr
  have hm := g.mo hk
  have mg := g.good.mods _ (modOf_mem hm).1
  have gok := mg.rows r hrm
  have w1 : wordW (mName k) = true := mW (by omega)
  have g1 := (wordW_gd w1).2.1
  have wg : wordW r.givW = true := by
    cases r with
    | give o n => exact gok.2
    | pass a b n => exact gok.2.2
    | _ => simp [Row.isGiv] at hrg
  have gg := (wordW_gd wg).2.1
  have hf : givOf (md k) r.givW = some r := find_nodup (md k).rows (by exact mg.giv) r hrm hrg
  obtain ⟨nt, ts, ss, gs, last, q⟩ := (g.gen k hk).gm
  have hr2 : r ∈ gs ++ [last] := by rw [← q.fg]; exact hr
  have key : (∃ o n, r = .give o n ∧ o ∈ ownN (md k).rows) ∨ (∃ o n, r = .pass (mName o) gaW n ∧ o < many) := by
    rcases List.mem_append.mp hr2 with h | h
    · obtain ⟨j, w, h1, h2, rfl⟩ := gives_mem q.gv r h
      refine .inl ⟨_, _, rfl, ?_⟩
      rw [q.own]
      exact (someOf_mem h2).1
    · simp only [List.mem_singleton] at h
      have la := q.la
      rw [h]
      cases la with
      | pass ho _ => exact .inr ⟨_, _, rfl, (othersOf_lt ho).1⟩
      | give _ =>
        refine .inl ⟨_, _, rfl, ?_⟩
        rw [q.own]
        exact sw_own
  rcases key with ⟨o, n, rfl, ho⟩ | ⟨o, n, rfl, ho⟩
  · obtain ⟨h1, h2, h3, h4⟩ := home_ofD H.toHHm H.toHLH g hk ho (i + 1)
    obtain ⟨e1, e2, _, _⟩ := home_ofD H.toHHm H.toHLH g hk ho (i + 2)
    refine ⟨wg, h3, h4, ?_, .inl ⟨o, n, rfl, e1⟩⟩
    exact law_given_row H.toHLH g.good.ok g1 gg hm hf (i + 18) (fun o' n' e => by cases e; exact h2) (fun _ _ _ e => by cases e)
  · obtain ⟨a, b, e1, e2⟩ := g.home7 ho (ga_mem o)
    have w3 : wordW (mName o) = true := mW (by omega)
    have w4 : wordW gaW = true := by decide
    have lg := law_given_home H.toHLH g.good.ok 7 [] _ _ _ _ e1 (wordW_gd w3).2.1 (wordW_gd w4).2.1 (i + 4)
    have hh := hofg H.toHH g.good (wordW_gd w3).2.1 (wordW_gd w4).2.1 (i + 18)
    rw [e2] at hh
    obtain ⟨ga, gb⟩ := hgF_gd g.good.ok 7 [] _ _ _ _ e1 (wordW_gd w3).2.1
    have eo : giveH p (mName k) (.pass (mName o) gaW n) = (a, b) := by simp only [giveH, e2]
    rw [eo]
    refine ⟨wg, ga, gb, ?_, .inr ⟨_, _, _, rfl, hh⟩⟩
    exact law_given_row H.toHLH g.good.ok g1 gg hm hf (i + 18) (fun _ _ e => by cases e) (fun a' b' n' e => by cases e; exact lg)
end M
set_option Elab.async false
set_option linter.all false
set_option autoImplicit false
set_option maxRecDepth 100000
namespace M
open Py
variable {P : Prg} {X : Ix}
variable {ring : Bool} {many k nt : Nat} {m : Mod}
section
variable {α : Type} (κ : α → W)
def insK (x : α) : List α → List α
  | [] => [x]
  | y :: r => if ltW (κ x) (κ y) = true then x :: y :: r else y :: insK x r
def sortK : List α → List α
  | [] => []
  | x :: r => insK κ x (sortK r)
theorem insK_mem {x y : α} : ∀ {l : List α}, y ∈ insK κ x l → y = x ∨ y ∈ l
  | [], h => by simpa [insK] using h
  | z :: r, h => by
    unfold insK at h
    split at h
    · simpa using h
    · rcases List.mem_cons.mp h with h | h
      · exact .inr (by simp [h])
      · rcases insK_mem h with h | h
        · exact .inl h
        · exact .inr (List.mem_cons_of_mem _ h)
theorem sortK_mem {y : α} : ∀ {l : List α}, y ∈ sortK κ l → y ∈ l
  | [], h => by cases h
  | x :: r, h => by
    rcases insK_mem κ (l := sortK κ r) h with h | h
    · exact h ▸ List.mem_cons_self ..
    · exact List.mem_cons_of_mem _ (sortK_mem h)
theorem ltT_pair {a b : W} (u v : T) (h : a ≠ b) : ltT (.tup [.str a, u]) (.tup [.str b, v]) = some (ltW a b) := by
  have e : eqT (.str a) (.str b) = false := by simp [h]
  show (if eqT (.str a) (.str b) = true then ltTs [u] [v] else ltT (.str a) (.str b)) = some (ltW a b)
  rw [e]
  rfl
theorem insT_k (F : α → T) (x : α) : ∀ ys : List α, (∀ y ∈ ys, κ x ≠ κ y) → insT (.tup [.str (κ x), F x]) (ys.map fun y => T.tup [.str (κ y), F y]) = some ((insK κ x ys).map fun y => T.tup [.str (κ y), F y])
  | [], _ => rfl
  | y :: r, h => by
    have ih := insT_k F x r fun z hz => h z (List.mem_cons_of_mem _ hz)
    rw [List.map_cons]
    unfold insT
    rw [ltT_pair _ _ (h y (List.mem_cons_self ..))]
    unfold insK
    cases c : ltW (κ x) (κ y) with
    | true => rfl
    | false =>
      simp only [ih]
      rfl
theorem sortT_k (F : α → T) : ∀ l : List α, (l.map κ).Nodup → sortT (l.map fun y => T.tup [.str (κ y), F y]) = some ((sortK κ l).map fun y => T.tup [.str (κ y), F y])
  | [], _ => rfl
  | x :: r, h => by
    obtain ⟨n1, n2⟩ := List.nodup_cons.mp h
    rw [List.map_cons]
    unfold sortT
    rw [sortT_k F r n2]
    exact insT_k κ F x _ fun y hy e => n1 (List.mem_map.mpr ⟨y, sortK_mem κ hy, e.symm⟩)
theorem headsOf_k (F : α → T) : ∀ l : List α, headsOf (l.map fun y => T.tup [.str (κ y), F y]) = some (l.map κ)
  | [] => rfl
  | x :: r => by
    show (headsOf (r.map fun y => T.tup [.str (κ y), F y])).map (κ x :: ·) = _
    rw [headsOf_k F r]
    rfl
theorem srt_k (F : α → T) (l : List α) (h : (l.map κ).Nodup) : b1T .srt (.lst (l.map fun y => T.tup [.str (κ y), F y])) = some (.new (.lst ((sortK κ l).map fun y => T.tup [.str (κ y), F y]))) := by
  cases l with
  | nil => rfl
  | cons x r =>
    show (match headsOf ((x :: r).map fun y => T.tup [.str (κ y), F y]) with
      | some ws => if ws.Nodup then (sortT ((x :: r).map fun y => T.tup [.str (κ y), F y])).map fun s => R.new (.lst s) else _
      | none => none) = _
    rw [headsOf_k]
    show (if ((x :: r).map κ).Nodup then (sortT ((x :: r).map fun y => T.tup [.str (κ y), F y])).map fun s => R.new (.lst s) else _) = _
    rw [if_pos h, sortT_k κ F _ h]
    rfl
end
theorem eqTs_map {α : Type} (f : α → T) (h : ∀ x, eqT (f x) (f x) = true) : ∀ l : List α, eqTs (l.map f) (l.map f) = true
  | [] => rfl
  | x :: r => by simp [h x, eqTs_map f h r]
theorem goods_map {α : Type} (f : α → T) (n : Nat) : ∀ l : List α, (∀ x ∈ l, good n (f x) = true) → goods n (l.map f) = true
  | [], _ => by simp
  | x :: r, h => by simp [h x (List.mem_cons_self ..), goods_map f n r fun y hy => h y (List.mem_cons_of_mem _ hy)]
abbrev ghT (p : Pg) (pl : W) (r : Row) : T := .tup [.str r.givW, pairT (giveH p pl r)]
structure HRn (P : Prg) (X : Ix) : Prop extends HO P X, HVl P X where
  given_homes : P.fns[X.given_homes]? = some (F_given_homes X)
  run_of : P.fns[X.run_of]? = some (F_run_of X)
  run : P.fns[X.run]? = some (F_run X)
  law_order : P.fns[X.law_order]? = some (F_law_order X)
  law_run : P.fns[X.law_run]? = some (F_law_run X)
abbrev bGh (X : Ix) : List Stm := [.ite (.cmp .eq (.ix (.loc 3) (.int 0)) (.str [103, 105, 118, 101])) [.exp (.m1 .append (.loc 2) (.tup [(.ix (.loc 3) (.int 2)), (.call X.home_of [(.loc 0), (.loc 1), (.ix (.loc 3) (.int 1))])]))] [], .ite (.cmp .eq (.ix (.loc 3) (.int 0)) (.str [112, 97, 115, 115])) [.exp (.m1 .append (.loc 2) (.tup [(.ix (.loc 3) (.int 3)), (.call X.home_of_given [(.loc 0), (.ix (.loc 3) (.int 1)), (.ix (.loc 3) (.int 2))])]))] []]
theorem gh_loop (H : HVl P X) {p : Pg} {md : Nat → Mod} (g : GP ring many p md) {k : Nat} (hk : k < many) (i : Nat) : ∀ (rs : List Row), (∀ r ∈ rs, r ∈ (md k).rows) → ∀ (acc : List T) (x3 : Sl), acc.length + rs.length ≤ 1000 → ∃ z3, forR (rs.map Row.T) (.one 3) (exs P.C (callF P (i + 20)) P.sub (bGh X))
    [.val (pgT p), .val (.str (mName k)), .own (.lst acc), x3] = .next [.val (pgT p), .val (.str (mName k)), .own (.lst (acc ++ (rs.filter Row.isGiv).map (ghT p (mName k)))), z3] := by
  intro rs
  induction rs with
  | nil => exact fun _ acc x3 _ => ⟨x3, by simp⟩
  | cons r rs ih =>
    intro hm acc x3 hl
    simp only [List.length_cons] at hl
    have hcap : acc.length < 1000000 := by omega
    by_cases c : r.isGiv = true
    · obtain ⟨z3, e⟩ := ih (fun r h => hm r (List.mem_cons_of_mem _ h)) (acc ++ [ghT p (mName k) r]) (.val r.T) (by simp; omega)
      refine ⟨z3, ?_⟩
      obtain ⟨_, _, _, _, h⟩ := giv_spec H g hk (List.mem_filter.mpr ⟨hm r (List.mem_cons_self ..), c⟩) i
      rw [List.map_cons, forR_cons, List.filter_cons_of_pos c]
      rcases h with ⟨o, n, rfl, h⟩ | ⟨a, b, n, rfl, h⟩
      · simp [h, hcap] at e ⊢
        exact e
      · simp [h, hcap] at e ⊢
        exact e
    · obtain ⟨z3, e⟩ := ih (fun r h => hm r (List.mem_cons_of_mem _ h)) acc (.val r.T) (by omega)
      refine ⟨z3, ?_⟩
      rw [List.map_cons, forR_cons, List.filter_cons_of_neg c]
      cases r <;> simp [Row.isGiv] at c <;> simp at e ⊢ <;> exact e
theorem given_homes (H : HRn P X) {p : Pg} {md : Nat → Mod} (g : GP ring many p md) {k : Nat} (hk : k < many) (i : Nat) : callF P (i + 21) X.given_homes [pgT p, .str (mName k)] = .ok (.new (.lst ((sortK Row.givW (giv (md k))).map (ghT p (mName k))))) := by
  have h5 := g.hi
  have hm := g.mo hk
  have mg := g.good.mods _ (modOf_mem hm).1
  have h60 := mg.len
  have mo := mod_of H.toHH g.good.ok (wordW_gd (mW (by omega) : wordW (mName k) = true)).2.1 (i + 19)
  rw [hm] at mo
  obtain ⟨z3, e⟩ := gh_loop H.toHVl g hk i (md k).rows (fun _ h => h) [] .un (by simp; omega)
  have se := srt_k Row.givW (fun r => pairT (giveH p (mName k) r)) (giv (md k)) mg.giv
  rw [call_py H.given_homes rfl]
  simp only [List.nil_append] at e
  have e' := e
  simp only [giv, ghT] at se e' ⊢
  simp [b_given_homes, mo, optT, Mod.T, e', se]
end M
set_option Elab.async false
set_option linter.all false
set_option autoImplicit false
set_option maxRecDepth 100000
namespace M
open Py
variable {P : Prg} {X : Ix}
variable {ring : Bool} {many k nt : Nat} {m : Mod}
theorem lcR_67 {α : Type} (xs : List α) (F F2 G : α → T) {vc : Env → Res (Bool × Env)} {ve : Env → Res (R × Env)} {a0 a1 a2 a3 a4 a5 : Sl} (hl : xs.length ≤ 1000000)
    (h : ∀ x ∈ xs, (bndP (vc [a0, a1, a2, a3, a4, a5, .val (F x), .val (F2 x)]) fun b ρ => if b then (bndP (ve ρ) fun r ρ => liftP (esc r ρ) fun p => .ok (some p.1, p.2)) else .ok (none, ρ)) = .ok (some (G x), [a0, a1, a2, a3, a4, a5, .val (F x), .val (F2 x)])) :
    lcR (xs.map fun x => T.tup [F x, F2 x]) (.many [6, 7]) vc ve [a0, a1, a2, a3, a4, a5, .un, .un] = .ok (.new (.lst (xs.map G)), [a0, a1, a2, a3, a4, a5, .un, .un]) := by
  have key : ∀ (ys : List α), (∀ x ∈ ys, x ∈ xs) → ∀ (acc : List T) (y z : Sl), ∃ y' z', lcGo (lcStep (.many [6, 7]) vc ve) (ys.map fun x => T.tup [F x, F2 x]) acc [a0, a1, a2, a3, a4, a5, y, z] = .ok (acc ++ ys.map G, [a0, a1, a2, a3, a4, a5, y', z']) := by
    intro ys
    induction ys with
    | nil =>
      intro _ acc y z
      exact ⟨y, z, by simp [lcGo]⟩
    | cons x ys ih =>
      intro hm acc y z
      have hx := h x (hm x (List.mem_cons_self ..))
      obtain ⟨y', z', e2⟩ := ih (fun z hz => hm z (List.mem_cons_of_mem _ hz)) (acc ++ [G x]) (.val (F x)) (.val (F2 x))
      refine ⟨y', z', ?_⟩
      have e : lcStep (.many [6, 7]) vc ve (.tup [F x, F2 x]) [a0, a1, a2, a3, a4, a5, y, z] = .ok (some (G x), [a0, a1, a2, a3, a4, a5, .val (F x), .val (F2 x)]) := by
        have e0 : put (.many [6, 7]) (.tup [F x, F2 x]) (wipeE (Tg.many [6, 7]).slots [a0, a1, a2, a3, a4, a5, y, z]) = some [a0, a1, a2, a3, a4, a5, .val (F x), .val (F2 x)] := by
          rfl
        simp only [lcStep, e0, lift_some]
        exact hx
      simp [lcGo, e, e2]
  obtain ⟨y', z', hz⟩ := key xs (fun x hx => hx) [] .un .un
  have hb : backE [6, 7] [a0, a1, a2, a3, a4, a5, .un, .un] [a0, a1, a2, a3, a4, a5, y', z'] = [a0, a1, a2, a3, a4, a5, .un, .un] := rfl
  have hs : (Tg.many [6, 7]).slots = [6, 7] := rfl
  simp [lcR, hs, hl, hz, noExc, hb, isVal]
theorem ord_names {p : Pg} {md : Nat → Mod} (g : GP ring many p md) {pl : W} (ok : OrdOk p pl) : ∀ w ∈ ord p pl, ∃ k, k < many ∧ w = mName k := fun w hw => by
  obtain ⟨m, hm⟩ := Option.isSome_iff_exists.mp (ok.mods w hw)
  obtain ⟨h1, h2⟩ := modOf_mem hm
  obtain ⟨k, hk, rfl⟩ := (g.mem m).mp h1
  exact ⟨k, hk, by rw [← h2]; exact (g.gen k hk).nm⟩
def runS (p : Pg) (pl : W) : RS := runV p (ord p pl) ([], [])
abbrev gvT (p : Pg) (pl : W) (vs : Vs) (r : Row) : T := .tup [.str r.givW, .int (getV vs (giveH p pl r))]
def runT (p : Pg) (pl : W) (m : Mod) : T := .tup [intsT (runS p pl).2, .lst ((sortK Row.givW (giv m)).map (gvT p pl (runS p pl).1))]
theorem rs0 : RsOk ([], []) := ⟨fun x => by simp [getV], fun n h => by cases h⟩
theorem eg_ok {own : List W} {e : E} (h : EG own 3 e) : e.ok ∧ e.dep < 4 ∧ ∀ w ∈ e.names, w ∈ own := ⟨h.ok, by have := h.dep; omega, h.nm⟩
theorem run_of (H : HRn P X) {p : Pg} {md : Nat → Mod} (g : GP ring many p md) {k : Nat} (hk : k < many) (i : Nat) : callF P (i + 23) X.run_of [pgT p, .str (mName k)] = .ok (.tmp (runT p (mName k) (md k))) ∧ RsOk (runS p (mName k)) := by
  have h5 := g.hi
  have hm := g.mo hk
  have hs : (modOf p (mName k)).isSome = true := by rw [hm]; rfl
  have ok := ord_ok g.w g.good.len hs
  have oo := order_ofS H.toHO g.good.ok g.w g.good.len hs (i + 12)
  have gh := given_homes H g hk (i + 1)
  have hv : ∀ k, k < many → ∀ e, EG (ownN (md k).rows) 3 e → ∀ vs, VsOk vs → callF P (i + 22) X.value_of [pgT p, .str (mName k), e.T, dicT vs] = .ok (.tmp (.int (valIn p (mName k) vs e))) := fun k hk e he vs hvs => by
    obtain ⟨e1, e2, e3⟩ := eg_ok he
    exact value_of H.toHVl g hk hvs i e e1 e3 4 e2
  have hre : ∀ k', k' < many → ∀ x2 x3 x5, (go P.C (callF P (i + 22)) (.ix (.call X.module_of [(.loc 0), (.loc 4)]) (.int 1))).1 (.val (pgT p) :: .val (.str (mName k)) :: x2 :: x3 :: .val (.str (mName k')) :: x5 :: [.un, .un]) = .ok (.tmp (.tup ((md k').rows.map Row.T)), .val (pgT p) :: .val (.str (mName k)) :: x2 :: x3 :: .val (.str (mName k')) :: x5 :: [.un, .un]) := fun k' hk' x2 x3 x5 => by
    have hm' := g.mo hk'
    have mo := mod_of H.toHH g.good.ok (wordW_gd (mW (by omega) : wordW (mName k') = true)).2.1 (i + 21)
    rw [hm'] at mo
    simp [mo, optT, Mod.T]
  have l6 := ok.len.1
  have l6' := g.good.len
  obtain ⟨z4, z5, e, ro⟩ := run_loop g hv (.val (.str (mName k))) [.un, .un] hre (ord p (mName k)) (ord_names g ok) ([], []) .un .un rs0 (by simp; omega) (by simp; omega)
  have e' : runV p (ord p (mName k)) ([], []) = runS p (mName k) := rfl
  rw [e'] at e ro
  refine ⟨?_, ro⟩
  unfold runT
  generalize runS p (mName k) = s at e ro
  have hgl : (sortK Row.givW (giv (md k))).length ≤ 1000000 := by
    have h60 := (g.good.mods _ (modOf_mem hm).1).len
    have : (giv (md k)).length ≤ (md k).rows.length := List.length_filter_le _ _
    have : ∀ (l : List Row), (sortK Row.givW l).length = l.length := fun l => by
      have hi : ∀ (x : Row) (l : List Row), (insK Row.givW x l).length = l.length + 1 := fun x l => by
        induction l with
        | nil => rfl
        | cons y l ih =>
          unfold insK
          split <;> simp [ih]
      induction l with
      | nil => rfl
      | cons x l ih => simp [sortK, hi, ih]
    rw [this]
    omega
  have el := lcR_67 (sortK Row.givW (giv (md k))) (fun r => .str r.givW) (fun r => pairT (giveH p (mName k) r)) (gvT p (mName k) s.1) (vc := (go P.C (callF P (i + 22)) (.bl true)).2) (ve := (go P.C (callF P (i + 22)) (.tup [(.loc 6), (.get2 (.loc 2) (.loc 7) (.int 0))])).1) (a0 := .val (pgT p)) (a1 := .val (.str (mName k))) (a2 := .own (dicT s.1)) (a3 := .val (intsT s.2)) (a4 := z4) (a5 := z5) hgl (fun r _ => by
    have gk := getK_vs (giveH p (mName k) r) s.1
    have kt := keyT_pair (giveH p (mName k) r)
    simp [gk, kt])
  rw [call_py H.run_of rfl]
  have e0 : dicK [] = [] := rfl
  simp only [dicT, e0, List.map_nil, intsT, bIn] at e el ⊢
  simp [b_run_of, oo, e, gh, el]
end M
namespace M
open Py
variable {P : Prg} {X : Ix}
variable {ring : Bool} {many k nt : Nat} {m : Mod}
abbrev bLg (X : Ix) : List Stm := [.ite (.cmp .isin (.ix (.loc 5) (.int 0)) (.tup [(.str [103, 105, 118, 101]), (.str [112, 97, 115, 115])])) [.exp (.m1 .append (.loc 6) (.tup [(.ix (.loc 5) (.neg (.int 1))), (.get2 (.loc 2) (.call X.law_given_home [(.loc 0), (.loc 1), (.ix (.loc 5) (.neg (.int 1)))]) (.int 0))]))] []]
theorem lg_loop (H : HVl P X) {p : Pg} {md : Nat → Mod} (g : GP ring many p md) {k : Nat} (hk : k < many) (vs : Vs) (x3 x4 : Sl) (i : Nat) : ∀ (rs : List Row), (∀ r ∈ rs, r ∈ (md k).rows) → ∀ (acc : List T) (x5 : Sl), acc.length + rs.length ≤ 1000 → ∃ z5, forR (rs.map Row.T) (.one 5) (exs P.C (callF P (i + 20)) P.sub (bLg X))
    [.val (pgT p), .val (.str (mName k)), .own (dicT vs), x3, x4, x5, .own (.lst acc)] = .next [.val (pgT p), .val (.str (mName k)), .own (dicT vs), x3, x4, z5, .own (.lst (acc ++ (rs.filter Row.isGiv).map (gvT p (mName k) vs)))] := by
  intro rs
  induction rs with
  | nil => exact fun _ acc x5 _ => ⟨x5, by simp⟩
  | cons r rs ih =>
    intro hm acc x5 hl
    simp only [List.length_cons] at hl
    have hcap : acc.length < 1000000 := by omega
    by_cases c : r.isGiv = true
    · obtain ⟨z5, e⟩ := ih (fun r h => hm r (List.mem_cons_of_mem _ h)) (acc ++ [gvT p (mName k) vs r]) (.val r.T) (by simp; omega)
      refine ⟨z5, ?_⟩
      obtain ⟨_, _, _, h, h'⟩ := giv_spec H g hk (List.mem_filter.mpr ⟨hm r (List.mem_cons_self ..), c⟩) i
      have gk := getK_vs (giveH p (mName k) r) vs
      have kt := keyT_pair (giveH p (mName k) r)
      rw [List.map_cons, forR_cons, List.filter_cons_of_pos c]
      cases r with
      | give o n =>
        simp only [Row.givW] at h e
        simp [h, hcap, gk, kt, Row.givW] at e ⊢
        exact e
      | pass a b n =>
        simp only [Row.givW] at h e
        simp [h, hcap, gk, kt, Row.givW] at e ⊢
        exact e
      | _ => simp [Row.isGiv] at c
    · obtain ⟨z5, e⟩ := ih (fun r h => hm r (List.mem_cons_of_mem _ h)) acc (.val r.T) (by omega)
      refine ⟨z5, ?_⟩
      rw [List.map_cons, forR_cons, List.filter_cons_of_neg c]
      cases r <;> simp [Row.isGiv] at c <;> simp at e ⊢ <;> exact e
theorem law_run (H : HRn P X) {p : Pg} {md : Nat → Mod} (g : GP ring many p md) {k : Nat} (hk : k < many) (i : Nat) : callF P (i + 23) X.law_run [pgT p, .str (mName k)] = .ok (.tmp (runT p (mName k) (md k))) := by
  have h5 := g.hi
  have hm := g.mo hk
  have hs : (modOf p (mName k)).isSome = true := by rw [hm]; rfl
  have ok := ord_ok g.w g.good.len hs
  have gm := wordW_gd (mW (by omega) : wordW (mName k) = true)
  have lo := law_order H.toHLH.law_rows H.law_order g.good g.w gm.2.1 hs (i + 20)
  have lr := law_rows H.toHLH.law_rows p g.good.ok (mName k) gm.2.1 (i + 21)
  rw [hm] at lr
  simp only [optT] at lr
  have hv : ∀ k, k < many → ∀ e, EG (ownN (md k).rows) 3 e → ∀ vs, VsOk vs → callF P (i + 22) X.law_value [pgT p, .str (mName k), e.T, dicT vs] = .ok (.tmp (.int (valIn p (mName k) vs e))) := fun k hk e he vs hvs => by
    obtain ⟨e1, e2, e3⟩ := eg_ok he
    exact law_value H.toHVl g hk hvs i e e1 e3 4 e2
  have hre : ∀ k', k' < many → ∀ x2 x3 x5, (go P.C (callF P (i + 22)) (.call X.law_rows [(.loc 0), (.loc 4)])).1 (.val (pgT p) :: .val (.str (mName k)) :: x2 :: x3 :: .val (.str (mName k')) :: x5 :: [.un]) = .ok (.tmp (.tup ((md k').rows.map Row.T)), .val (pgT p) :: .val (.str (mName k)) :: x2 :: x3 :: .val (.str (mName k')) :: x5 :: [.un]) := fun k' hk' x2 x3 x5 => by
    have hm' := g.mo hk'
    have lr := law_rows H.toHLH.law_rows p g.good.ok (mName k') (wordW_gd (mW (by omega) : wordW (mName k') = true)).2.1 (i + 21)
    rw [hm'] at lr
    simp only [optT] at lr
    simp [lr]
  have l6 := ok.len.1
  have l6' := g.good.len
  have mg := g.good.mods _ (modOf_mem hm).1
  have h60 := mg.len
  obtain ⟨z4, z5, e, ro⟩ := run_loop g hv (.val (.str (mName k))) [.un] hre (ord p (mName k)) (ord_names g ok) ([], []) .un .un rs0 (by simp; omega) (by simp; omega)
  have e' : runV p (ord p (mName k)) ([], []) = runS p (mName k) := rfl
  rw [e'] at e ro
  unfold runT
  generalize runS p (mName k) = s at e ro
  obtain ⟨z5', el⟩ := lg_loop H.toHVl g hk s.1 (.own (intsT s.2)) z4 (i + 2) (md k).rows (fun _ h => h) [] z5 (by simp; omega)
  have se := srt_k Row.givW (fun r => T.int (getV s.1 (giveH p (mName k) r))) (giv (md k)) mg.giv
  rw [call_py H.law_run rfl]
  have e0 : dicK [] = [] := rfl
  simp only [dicT, e0, List.map_nil, intsT, bIn, bLg, List.nil_append] at e el ⊢
  simp only [giv, gvT] at se el ⊢
  simp [b_law_run, lo, lr, e, el, se]
theorem run (H : HRn P X) {p : Pg} {md : Nat → Mod} (g : GP ring many p md) (he : pgErr X p = none) {k : Nat} (hk : k < many) (i : Nat) : callF P (i + 24) X.run [pgT p, .str (mName k)] = .ok (.tmp (runT p (mName k) (md k))) := by
  have h5 := g.hi
  have w1 : wordW (mName k) = true := mW (by omega)
  have lm := look_module_ok H.toHH H.toHVl.look_module g.good he (t := .str (mName k)) (by simp [wl w1]) i
  rw [if_pos (by simp [modT, w1, g.mo hk])] at lm
  have ro := (run_of H g hk i).1
  rw [call_py H.run rfl]
  simp [b_run, lm, ro]
end M
set_option Elab.async false
set_option linter.all false
set_option autoImplicit false
set_option maxRecDepth 100000
namespace M
open Py
@[simp] theorem eqT_E : ∀ e : E, eqT e.T e.T = true
  | .num n => by simp
  | .nam w => by simp
  | .op t a b => by simp [eqT_E a, eqT_E b]
@[simp] theorem eqT_row (r : Row) : eqT r.T r.T = true := by cases r <;> simp
@[simp] theorem eqT_mod (m : Mod) : eqT m.T m.T = true := by
  have := eqTs_map Row.T eqT_row m.rows
  simp [Mod.T, this]
@[simp] theorem eqT_pg (p : Pg) : eqT (pgT p) (pgT p) = true := eqTs_map Mod.T eqT_mod p
theorem good_row {r : Row} (h : r.ok) (n : Nat) : Py.good (n + 12) r.T = true := by
  have ge : ∀ {e : E}, e.good → Py.good (n + 11) e.T = true := fun {e} he => good_E _ he.1 (by have := dep_parts e; have := he.2; omega)
  cases r with
  | take a b c =>
    have ga := wordW_gd h.1
    have gb := wordW_gd h.2.1
    have gc := wordW_gd h.2.2
    simp [ga, gb, gc]
  | pass a b c =>
    have ga := wordW_gd h.1
    have gb := wordW_gd h.2.1
    have gc := wordW_gd h.2.2
    simp [ga, gb, gc]
  | run a =>
    have ga := wordW_gd h
    simp [ga]
  | give a b =>
    have ga := wordW_gd h.1
    have gb := wordW_gd h.2
    simp [ga, gb]
  | set o e =>
    have ga := wordW_gd h.1
    have := ge h.2
    simp [ga, this]
  | note e =>
    have := ge h
    simp [this]
theorem good_rows {rs : List Row} (h : ∀ r ∈ rs, r.ok) (n : Nat) : goods (n + 12) (rs.map Row.T) = true := goods_map _ _ _ fun r hr => good_row (h r hr) n
theorem good_mod {m : Mod} (h : wordW m.nm = true ∧ ∀ r ∈ m.rows, r.ok) (n : Nat) : Py.good (n + 14) m.T = true := by
  have g1 := wordW_gd h.1
  have g2 := good_rows h.2 n
  simp [Mod.T, g1, g2]
theorem good_mods {p : Pg} (h : PgOk p) (n : Nat) : goods (n + 14) (p.map Mod.T) = true := goods_map _ _ _ fun m hm => good_mod (h m hm) n
theorem good_pg {p : Pg} (h : PgOk p) (n : Nat) : Py.good (n + 15) (pgT p) = true := good_mods h n
end M
set_option Elab.async false
set_option linter.all false
set_option autoImplicit false
set_option maxRecDepth 100000
namespace M
open Py
variable {P : Prg} {X : Ix}
variable {ring : Bool} {many k nt : Nat} {m : Mod} {ts ss gs : List Row} {last : Row}
theorem okTs_app : ∀ a b : List T, okTs (a ++ b) = (okTs a && okTs b)
  | [], b => by simp
  | t :: a, b => by simp [okTs_app a b, Bool.and_assoc]
theorem okTs_rows {rs : List Row} (h : ∀ r ∈ rs, r.ok) : okTs (rs.map Row.T) = true := okTs_of fun t ht => by
  obtain ⟨r, hr, rfl⟩ := List.mem_map.mp ht
  exact okT_row (h r hr)
theorem deep_ok : ∀ n, (deepE n).ok
  | 0 => by show (0 : Int) ≤ 1 ∧ (1 : Int) < 10007; decide
  | n + 1 => ⟨deep_ok n, by show (0 : Int) ≤ 1 ∧ (1 : Int) < 10007; decide⟩
theorem repL_ok (xs : List T) (n : Nat) (h : okTs xs = true) : okTs (repL xs (n : Int)) = true := okTs_of fun t ht => by
  unfold repL at ht
  obtain ⟨l, hl, ht⟩ := List.mem_flatten.mp ht
  have := (List.mem_replicate.mp hl).2
  rw [this] at ht
  exact okTs_mem h t ht
theorem badMods_ok (hg : m.good) : ∀ t ∈ badMods m (deepE 8).T, okT t = true := by
  have h1 := okTs_rows hg.rows
  have h2 := wordW_gd hg.nm
  have h60 := hg.len
  have hl : m.nm.length ≤ 1000000 := by omega
  have hl2 : m.rows.length ≤ 1000000 := by omega
  have hl3 : m.rows.length + 1 ≤ 1000000 := by omega
  have hd : okT (deepE 8).T = true := E.okT_of (deep_ok 8)
  have h3 : okTs (repL (m.rows.map Row.T) 20) = true := repL_ok _ 20 h1
  have h4 : (repL (m.rows.map Row.T) 20).length ≤ 1000000 := by
    have : (repL (m.rows.map Row.T) 20).length = 20 * (m.rows.map Row.T).length := repL_len _ 20
    rw [this, List.length_map]
    omega
  generalize (deepE 8).T = d at hd
  intro t ht
  simp only [badMods, badRows, badNotes, List.map_cons, List.map_nil, List.cons_append, List.nil_append, List.mem_cons, List.not_mem_nil, or_false] at ht
  rcases ht with rfl | rfl | rfl | rfl | ht
  · simp [h1, h2, hl, hl2]
  · simp [h1, h2, hl, hl2]
  · simp [h1, h2, hl, hl2]
  · simp [h1, h2, hl, hl2]
  · rcases ht with rfl | rfl | rfl | rfl | rfl | rfl | rfl | rfl | rfl | rfl | rfl | rfl | rfl | rfl | rfl <;> simp [okTs_app, h1, h2, hl, hl3, hd, h3, h4]
theorem no_pg {ts : List T} {t : T} (ht : t ∈ ts) (h : ¬ modP t) : ¬ pgP (.tup ts) := by
  rintro ⟨p, e, g⟩
  unfold pgT at e
  simp only [T.tup.injEq] at e
  rw [e] at ht
  obtain ⟨m, hm, rfl⟩ := List.mem_map.mp ht
  exact h ⟨m, rfl, g.mods m hm⟩
structure H01 (P : Prg) (X : Ix) : Prop extends HOr P X, HGn P X where
  bundle : P.fns[X.bundle]? = some (F_bundle X)
  shown : P.fns[X.shown]? = some (F_shown X)
  pp : P.sub X.xBadProgram X.xBadProgram = true
theorem bundle_bad (H : H01 P X) {q t u : T} (ho : okT q = true) (h : ¬ pgP q) (i : Nat) : callF P (i + 24) X.bundle [q, t, u] = .exc X.xBadProgram := by
  have lm := look_module_bad H.toHH H.look_module (t := t) ho h i
  rw [call_py H.bundle rfl]
  simp [b_bundle, lm]
theorem order_bad (H : H01 P X) {q t : T} (ho : okT q = true) (h : ¬ pgP q) (i : Nat) : callF P (i + 24) X.order [q, t] = .exc X.xBadProgram := by
  have lm := look_module_bad H.toHH H.look_module (t := t) ho h i
  rw [call_py H.order rfl]
  simp [b_order, lm]
theorem shown_bad (H : H01 P X) {q : T} (ho : okT q = true) (h : ¬ pgP q) (i : Nat) : callF P (i + 22) X.shown [q] = .exc X.xBadProgram := by
  have lk := look H.toHC q ho i
  rw [if_neg h] at lk
  rw [call_py H.shown rfl]
  simp [b_shown, lk]
theorem bads_pg {p : Pg} (hp : PgGood p) (hne : p ≠ []) : ∀ b ∈ [T.lst (p.map Mod.T), .tup (p.map Mod.T ++ (p.map Mod.T).take 1), .tup (p.map Mod.T ++ repL [T.tup [.str [113], .tup []]] 7), .non], ¬ pgP b ∧ okT b = true := by
  have h6 := hp.len
  have ho : okTs (p.map Mod.T) = true := okTs_of fun t ht => by
    obtain ⟨m, hm, rfl⟩ := List.mem_map.mp ht
    exact okT_mod (hp.mods m hm)
  have ho1 : okTs ((p.map Mod.T).take 1) = true := okTs_of fun t ht => okTs_mem ho t (List.mem_of_mem_take ht)
  have ho2 : okTs (repL [T.tup [.str [113], .tup []]] 7) = true := rfl
  have l2 : (repL [T.tup [.str [113], .tup []]] 7).length = 7 := rfl
  intro b hb
  simp only [List.mem_cons, List.not_mem_nil, or_false] at hb
  rcases hb with rfl | rfl | rfl | rfl
  · refine ⟨fun ⟨p', e, _⟩ => (by cases e), ?_⟩
    have : p.length ≤ 1000000 := by omega
    simp [ho, this]
  · refine ⟨fun ⟨p', e, g⟩ => ?_, ?_⟩
    · unfold pgT at e
      simp only [T.tup.injEq] at e
      cases p with
      | nil => exact hne rfl
      | cons m p =>
        have e : ((m :: p) ++ [m]).map Mod.T = p'.map Mod.T := by simpa using e
        have e := Ms_inj e
        have := g.nms
        rw [← e] at this
        simp [namesP] at this
    · have : p.length + 1 ≤ 1000000 := by omega
      have : p.length + min 1 p.length ≤ 1000000 := by omega
      simp [okTs_app, ho, ho1, this]
  · refine ⟨fun ⟨p', e, g⟩ => ?_, ?_⟩
    · unfold pgT at e
      simp only [T.tup.injEq] at e
      have e2 : (p.map Mod.T ++ repL [T.tup [.str [113], .tup []]] 7).length = (p'.map Mod.T).length := by rw [e]
      have := g.len
      simp [l2] at e2
      omega
    · have : p.length + 7 ≤ 1000000 := by omega
      simp [okTs_app, ho, ho2, this, l2]
  · exact ⟨fun ⟨p', e, _⟩ => (by cases e), rfl⟩
theorem take_map {α β : Type} (f : α → β) (l : List α) (n : Nat) : (l.map f).take n = (l.take n).map f := by simp
theorem mul_tup (x : List T) (n : Int) (h1 : 2 ≤ n) (h2 : n ≤ 1000) (h3 : x.length ≤ 1000) (h4 : x ≠ []) : binT .mul (.tup x) (.int n) = some (.tmp (.tup (repL x n))) := by
  show (if (decide (2 ≤ n) && decide (n ≤ 1000) && decide (x.length ≤ 1000) && !x.isEmpty) = true then some (R.tmp (.tup (repL x n))) else none) = _
  rw [if_pos (by simp [h1, h2, h3, h4])]
theorem law01 (H : H01 P X) {fi : Nat} (hf : P.fns[fi]? = some (F_lawk01 X)) (ns : List Int) (i : Nat) : callF P (i + 40) fi [.scr ns] = .ok (.tmp (.bl true)) := by
  obtain ⟨ring, many, p, md, g, hring, hprog⟩ := drawn H.toHGn ns 0 (i + 30)
  have hprog : callF P (i + 39) X.law_program [.scr ns, .int 0] = _ := hprog
  have hp := g.good
  have he : pgErr X p = none := g.err
  have ck := checked H.toHH hp (i + 17)
  rw [he] at ck
  have ck : callF P (i + 39) X.checked [pgT p] = .ok (.tmp (pgT p)) := ck
  have c5 : callF P (i + 39) X.law_cell [.scr ns, .int 5] = _ := law_cell H.toHG ns 5 (i + 38)
  have c6 : callF P (i + 39) X.law_cell [.scr ns, .int 6] = _ := law_cell H.toHG ns 6 (i + 38)
  have c7 : callF P (i + 39) X.law_cell [.scr ns, .int 7] = _ := law_cell H.toHG ns 7 (i + 38)
  have hpos : 0 < p.length := by
    have := g.len
    have := g.lo
    omega
  have hpne : p ≠ [] := List.length_pos_iff.mp hpos
  obtain ⟨t, a1, a2⟩ := atI_mod (p.map Mod.T) (cell ns 5) (by simpa using hpne)
  simp only [List.length_map] at a1
  obtain ⟨m, hm, rfl⟩ := List.mem_map.mp a2
  obtain ⟨k, hk, rfl⟩ := (g.mem m).mp hm
  have hmg := hp.mods _ hm
  obtain ⟨nt, ts, ss, gs, last, q⟩ := (g.gen k hk).gm
  have hnm := q.nm
  obtain ⟨b, b1, b2⟩ := atI_mod (badMods (md k) (deepE 8).T) (cell ns 6) (by simp)
  have hb := bad_mod q b b2
  have hbo := badMods_ok hmg b b2
  have hbl : (badMods (md k) (deepE 8).T).length = 19 := rfl
  rw [hbl] at b1
  have b1 : atI (badMods (md k) (deepE 8).T) (cell ns 6 % 19) = some b := b1
  have n5 : 0 ≤ cell ns 5 % (p.length : Int) := Int.emod_nonneg _ (by omega)
  have T1 : pgT p = .tup (p.map Mod.T) := rfl
  have T2 : (md k).T = .tup [.str (md k).nm, .tup ((md k).rows.map Row.T)] := rfl
  have ho : okTs (p.map Mod.T) = true := okTs_of fun t ht => by
    obtain ⟨m, hm, rfl⟩ := List.mem_map.mp ht
    exact okT_mod (hp.mods m hm)
  have h6 := hp.len
  have hr60 := hmg.len
  generalize hat : cell ns 5 % (p.length : Int) = at_ at a1 n5
  have bb : ¬ pgP (.tup (cut (p.map Mod.T) none (some at_) ++ [b] ++ cut (p.map Mod.T) (some (at_ + 1)) none)) := no_pg (t := b) (by simp) hb
  have bo : okT (.tup (cut (p.map Mod.T) none (some at_) ++ [b] ++ cut (p.map Mod.T) (some (at_ + 1)) none)) = true := by
    rw [cut_to _ _ n5, cut_from _ _ (by omega)]
    have o1 : okTs ((p.map Mod.T).take at_.toNat) = true := okTs_of fun t ht => okTs_mem ho t (List.mem_of_mem_take ht)
    have o2 : okTs ((p.map Mod.T).drop (at_ + 1).toNat) = true := okTs_of fun t ht => okTs_mem ho t (List.mem_of_mem_drop ht)
    have l1 : ((p.map Mod.T).take at_.toNat ++ [b] ++ (p.map Mod.T).drop (at_ + 1).toNat).length ≤ 1000000 := by
      simp only [List.length_append, List.length_take, List.length_drop, List.length_map, List.length_cons, List.length_nil]
      omega
    rw [okT_tup, okTs_app, okTs_app, o1, o2, decide_eq_true l1]
    simp [hbo]
  have cl1 : (cut (p.map Mod.T) none (some at_)).length ≤ 6 := by
    rw [cut_to _ _ n5]
    simp only [List.length_take, List.length_map]
    omega
  have cl2 : (cut (p.map Mod.T) (some (at_ + 1)) none).length ≤ 6 := by
    rw [cut_from _ _ (by omega)]
    simp only [List.length_drop, List.length_map]
    omega
  generalize hpa : cut (p.map Mod.T) none (some at_) = pa at bb bo cl1
  generalize hpb : cut (p.map Mod.T) (some (at_ + 1)) none = pb at bb bo cl2
  have c01 : cut (p.map Mod.T) none (some 1) = (p.map Mod.T).take 1 := cut_to _ _ (by omega)
  obtain ⟨z, z1, z2⟩ := atI_mod [T.tup (pa ++ [b] ++ pb), .tup (pa ++ [b] ++ pb), .tup (pa ++ [b] ++ pb), T.lst (p.map Mod.T), .tup (p.map Mod.T ++ (p.map Mod.T).take 1), .tup (p.map Mod.T ++ repL [T.tup [.str [113], .tup []]] 7), .non] (cell ns 7) (by simp)
  have z3 : ¬ pgP z ∧ okT z = true := by
    simp only [List.mem_cons, List.not_mem_nil, or_false] at z2
    rcases z2 with rfl | rfl | rfl | z2
    · exact ⟨bb, bo⟩
    · exact ⟨bb, bo⟩
    · exact ⟨bb, bo⟩
    · exact bads_pg hp hpne z (by simpa using z2)
  have z1 : atI [T.tup (pa ++ [b] ++ pb), .tup (pa ++ [b] ++ pb), .tup (pa ++ [b] ++ pb), T.lst (p.map Mod.T), .tup (p.map Mod.T ++ (p.map Mod.T).take 1), .tup (p.map Mod.T ++ repL [T.tup [.str [113], .tup []]] 7), .non] (cell ns 7 % 7) = some z := z1
  simp only [List.append_assoc, List.cons_append, List.nil_append] at z1
  have k1 := checked_bad H.toHH z3.2 z3.1 (i + 17)
  have k1 : callF P (i + 39) X.checked [z] = _ := k1
  have k2 : callF P (i + 39) X.order [z, .non] = _ := order_bad H z3.2 z3.1 (i + 15)
  have k3 : callF P (i + 39) X.bundle [z, .non, .non] = _ := bundle_bad H z3.2 z3.1 (i + 15)
  have k4 : callF P (i + 39) X.shown [z] = _ := shown_bad H z3.2 z3.1 (i + 17)
  have m20 : binT .mul (.tup ((md k).rows.map Row.T)) (.int 20) = some (.tmp (.tup (repL ((md k).rows.map Row.T) 20))) := mul_tup _ _ (by omega) (by omega) (by simp; omega) (by
    intro z
    have : (md k).rows = [] := by simpa using z
    have h := q.own
    rw [this] at h
    simp [ownN, sNames] at h)
  have m7 : binT .mul (.tup [T.tup [.str [113], .tup []]]) (.int 7) = some (.tmp (.tup (repL [T.tup [.str [113], .tup []]] 7))) := mul_tup _ _ (by omega) (by omega) (by simp) (by simp)
  have r8 : rangeT 0 8 = [.int 0, .int 1, .int 2, .int 3, .int 4, .int 5, .int 6, .int 7] := rfl
  have r4 : rangeT 0 4 = [.int 0, .int 1, .int 2, .int 3] := rfl
  have lr : (md k).rows.length + 1 ≤ 1000000 := by omega
  have lp : pa.length + 1 ≤ 1000000 := by omega
  have lp2 : pa.length + 1 + pb.length ≤ 1000000 := by omega
  have lp3 : p.length + min 1 p.length ≤ 1000000 := by omega
  have lp4 : p.length + (repL [T.tup [.str [113], .tup []]] 7).length ≤ 1000000 := by
    have : (repL [T.tup [.str [113], .tup []]] 7).length = 7 := rfl
    omega
  have gp : Py.good 61 (pgT p) = true := good_pg hp.ok 46
  have gq : eqT (pgT p) (pgT p) = true := eqT_pg p
  rw [T1] at ck hprog gp gq
  simp only [good_tup, q_tt] at gp gq
  rw [T2] at a1
  have d8 : T.tup [.str PLUS, .tup [.str PLUS, .tup [.str PLUS, .tup [.str PLUS, .tup [.str PLUS, .tup [.str PLUS, .tup [.str PLUS, .tup [.str PLUS, .int 1, .int 1], .int 1], .int 1], .int 1], .int 1], .int 1], .int 1], .int 1] = (deepE 8).T := rfl
  simp only [badMods, badRows, badNotes, List.map_cons, List.map_nil, List.cons_append, List.nil_append] at b1
  generalize (deepE 8).T = dd at d8 b1
  rw [call_py hf rfl]
  have pp := H.pp
  simp [b_lawk01, hprog, ck, c5, c6, c7, hpos, a1, gp, gq, r8, r4, forR_cons, m20, m7, lr, d8, b1, lp, lp2, c01, z1, k1, k2, k3, k4, pp, hat, hpa, hpb, lp3, lp4]
end M
set_option Elab.async false
set_option linter.all false
set_option autoImplicit false
set_option maxRecDepth 100000
namespace Sd
open PySem PySem.Spec PyProof.Rows L2
open Py (T Sl R Res CRes SRes Ex Stm W)
def kT : Key → T
  | .inl i => .int i
  | .inr x => .str x.cps.toList
mutual
inductive Rep (K : PySem.W.Frag) (H : Hp) (A : Addr → Prop) : V → T → Prop
  | non : Rep K H A .non .non
  | bl (b : Bool) : Rep K H A (.bl b) (.bl b)
  | int (i : Int) : Rep K H A (.int i) (.int i)
  | str (x : Str) : Rep K H A (.str x) (.str x.cps.toList)
  | scrF {a : Addr} {ns : List Int} {o : Obj} : H a = some (.frz o (.lst (ns.map V.int))) → ¬ A a → Rep K H A (.ref a) (.scr ns)
  | scrK {a : Addr} {ns : List Int} : (∀ H : Hp, SqL K H a (ns.map V.int)) → Rep K H A (.ref a) (.scr ns)
  | tup {a : Addr} {vs : List V} {ts : List T} : H a = some (.tup vs) → Reps K H A vs ts → Rep K H A (.ref a) (.tup ts)
  | lst {a : Addr} {vs : List V} {ts : List T} : H a = some (.lst vs) → ¬ A a → Reps K H A vs ts → Rep K H A (.ref a) (.lst ts)
  | dk {a : Addr} {kvs : List (Key × V)} {ts : List (T × T)} : H a = some (.dK kvs) → ¬ A a → RepK K H A kvs ts → Rep K H A (.ref a) (.dct true ts)
  | dt {a : Addr} {kvs : List (List Key × V)} {ts : List (T × T)} : H a = some (.dT kvs) → ¬ A a → RepT K H A kvs ts → Rep K H A (.ref a) (.dct false ts)
inductive Reps (K : PySem.W.Frag) (H : Hp) (A : Addr → Prop) : List V → List T → Prop
  | nil : Reps K H A [] []
  | cons {v : V} {vs : List V} {t : T} {ts : List T} : Rep K H A v t → Reps K H A vs ts → Reps K H A (v :: vs) (t :: ts)
inductive RepK (K : PySem.W.Frag) (H : Hp) (A : Addr → Prop) : List (Key × V) → List (T × T) → Prop
  | nil : RepK K H A [] []
  | cons {k : Key} {v : V} {r : List (Key × V)} {t : T} {ts : List (T × T)} : Rep K H A v t → RepK K H A r ts → RepK K H A ((k, v) :: r) ((kT k, t) :: ts)
inductive RepT (K : PySem.W.Frag) (H : Hp) (A : Addr → Prop) : List (List Key × V) → List (T × T) → Prop
  | nil : RepT K H A [] []
  | cons {k : List Key} {v : V} {r : List (List Key × V)} {t : T} {ts : List (T × T)} : Rep K H A v t → RepT K H A r ts → RepT K H A ((k, v) :: r) ((.tup (k.map kT), t) :: ts)
end
variable {K : PySem.W.Frag} {H H' : Hp} {A A' : Addr → Prop}
structure Kp (H H' : Hp) (A A' : Addr → Prop) : Prop where
  obj : ∀ a o, H a = some o → ¬ A a → H' a = some o ∧ ¬ A' a
  tup : ∀ a xs, H a = some (.tup xs) → H' a = some (.tup xs)
mutual
theorem Rep.keep (k : Kp H H' A A') : ∀ {v : V} {t : T}, Rep K H A v t → Rep K H' A' v t
  | _, _, .non => .non
  | _, _, .bl b => .bl b
  | _, _, .int i => .int i
  | _, _, .str x => .str x
  | _, _, .scrF h n => .scrF (k.obj _ _ h n).1 (k.obj _ _ h n).2
  | _, _, .scrK h => .scrK h
  | _, _, .tup h r => .tup (k.tup _ _ h) (Reps.keep k r)
  | _, _, .lst h n r => .lst (k.obj _ _ h n).1 (k.obj _ _ h n).2 (Reps.keep k r)
  | _, _, .dk h n r => .dk (k.obj _ _ h n).1 (k.obj _ _ h n).2 (RepK.keep k r)
  | _, _, .dt h n r => .dt (k.obj _ _ h n).1 (k.obj _ _ h n).2 (RepT.keep k r)
theorem Reps.keep (k : Kp H H' A A') : ∀ {vs : List V} {ts : List T}, Reps K H A vs ts → Reps K H' A' vs ts
  | _, _, .nil => .nil
  | _, _, .cons r s => .cons (Rep.keep k r) (Reps.keep k s)
theorem RepK.keep (k : Kp H H' A A') : ∀ {vs : List (Key × V)} {ts : List (T × T)}, RepK K H A vs ts → RepK K H' A' vs ts
  | _, _, .nil => .nil
  | _, _, .cons r s => .cons (Rep.keep k r) (RepK.keep k s)
theorem RepT.keep (k : Kp H H' A A') : ∀ {vs : List (List Key × V)} {ts : List (T × T)}, RepT K H A vs ts → RepT K H' A' vs ts
  | _, _, .nil => .nil
  | _, _, .cons r s => .cons (Rep.keep k r) (RepT.keep k s)
end
end Sd
set_option Elab.async false
set_option linter.all false
set_option autoImplicit false
set_option maxRecDepth 100000
namespace Sd
open PySem PySem.Spec PyProof.Rows L2
open Py (T Sl R Res CRes SRes Ex Stm W)
structure B0 where
  hp : Hp
  fx : Nat → Option V
instance : CoeFun B0 (fun _ => Addr → Option HO) := ⟨B0.hp⟩
variable {K : PySem.W.Frag} {H H' : Hp} {H0 : B0} {A A' Z : Addr → Prop}
abbrev PEnv := List Sl
def Ext (H H' : Hp) : Prop := ∀ a o, H a = some o → H' a = some o
theorem Ext.refl (H : Hp) : Ext H H := fun _ _ h => h
theorem Ext.trans {H1 H2 H3 : Hp} (a : Ext H1 H2) (b : Ext H2 H3) : Ext H1 H3 := fun c o h => b c o (a c o h)
theorem Ext.upd {p : Addr} {o : HO} (h : H p = none) : Ext H (upd H p o) := fun b x e => by
  rw [upd_ne (ne_of_none e h)]
  exact e
theorem Kp.ext (e : Ext H H') (s : ∀ a o, H a = some o → A' a → A a) : Kp H H' A A' :=
  ⟨fun a o h n => ⟨e a o h, fun z => n (s a o h z)⟩, fun a xs h => e a _ h⟩
theorem Rep.weak {v : V} {t : T} (h : Rep K H A v t) (s : ∀ a o, H a = some o → A' a → A a) : Rep K H A' v t := h.keep (Kp.ext (Ext.refl H) s)
theorem Reps.weak {vs : List V} {ts : List T} (h : Reps K H A vs ts) (s : ∀ a o, H a = some o → A' a → A a) : Reps K H A' vs ts := h.keep (Kp.ext (Ext.refl H) s)
theorem Rep.ext {v : V} {t : T} (h : Rep K H A v t) (e : Ext H H') : Rep K H' A v t := h.keep (Kp.ext e fun _ _ _ z => z)
theorem Reps.ext {vs : List V} {ts : List T} (h : Reps K H A vs ts) (e : Ext H H') : Reps K H' A vs ts := h.keep (Kp.ext e fun _ _ _ z => z)
abbrev NoA : Addr → Prop := fun _ => False
theorem Rep.noA {v : V} {t : T} (h : Rep K H A v t) : Rep K H NoA v t := h.weak fun _ _ _ z => z.elim
theorem Reps.noA {vs : List V} {ts : List T} (h : Reps K H A vs ts) : Reps K H NoA vs ts := h.weak fun _ _ _ z => z.elim
mutual
theorem Rep.pure : ∀ {v : V} {t : T}, Rep K H A v t → Py.pureT t = true → Rep K H A' v t
  | _, _, .non, _ => .non
  | _, _, .bl b, _ => .bl b
  | _, _, .int i, _ => .int i
  | _, _, .str x, _ => .str x
  | _, _, .tup h r, p => .tup h (Reps.pure r (by simpa [Py.pureT] using p))
  | _, _, .scrF _ _, p => by simp [Py.pureT] at p
  | _, _, .scrK _, p => by simp [Py.pureT] at p
  | _, _, .lst _ _ _, p => by simp [Py.pureT] at p
  | _, _, .dk _ _ _, p => by simp [Py.pureT] at p
  | _, _, .dt _ _ _, p => by simp [Py.pureT] at p
theorem Reps.pure : ∀ {vs : List V} {ts : List T}, Reps K H A vs ts → Py.pureTs ts = true → Reps K H A' vs ts
  | _, _, .nil, _ => .nil
  | _, _, .cons r s, p => by
    simp only [Py.pureTs, Bool.and_eq_true] at p
    exact .cons (Rep.pure r p.1) (Reps.pure s p.2)
end
theorem RepK.pure : ∀ {vs : List (Key × V)} {ts : List (T × T)}, RepK K H A vs ts → (ts.all fun kv => Py.pureT kv.2) = true → RepK K H A' vs ts
  | _, _, .nil, _ => .nil
  | _, _, .cons r s, p => by
    simp only [List.all_cons, Bool.and_eq_true] at p
    exact .cons (r.pure p.1) (RepK.pure s p.2)
theorem RepT.pure : ∀ {vs : List (List Key × V)} {ts : List (T × T)}, RepT K H A vs ts → (ts.all fun kv => Py.pureT kv.2) = true → RepT K H A' vs ts
  | _, _, .nil, _ => .nil
  | _, _, .cons r s, p => by
    simp only [List.all_cons, Bool.and_eq_true] at p
    exact .cons (r.pure p.1) (RepT.pure s p.2)
theorem Reps.length : ∀ {vs : List V} {ts : List T}, Reps K H A vs ts → vs.length = ts.length
  | _, _, .nil => rfl
  | _, _, .cons _ s => by simp [Reps.length s]
theorem Reps.get : ∀ {vs : List V} {ts : List T} {i : Nat} {t : T}, Reps K H A vs ts → ts[i]? = some t → ∃ v, vs[i]? = some v ∧ Rep K H A v t
  | _, _, _, _, .nil, e => by simp at e
  | _, _, 0, _, .cons r _, e => by
    simp at e
    subst e
    exact ⟨_, rfl, r⟩
  | _, _, i + 1, _, .cons _ s, e => by
    obtain ⟨v, h1, h2⟩ := Reps.get (i := i) s (by simpa using e)
    exact ⟨v, by simpa using h1, h2⟩
theorem Reps.app : ∀ {vs us : List V} {ts ws : List T}, Reps K H A vs ts → Reps K H A us ws → Reps K H A (vs ++ us) (ts ++ ws)
  | _, _, _, _, .nil, s => s
  | _, _, _, _, .cons r t, s => .cons r (Reps.app t s)
theorem Reps.take : ∀ {vs : List V} {ts : List T} (n : Nat), Reps K H A vs ts → Reps K H A (vs.take n) (ts.take n)
  | _, _, 0, _ => by simp; exact .nil
  | _, _, _ + 1, .nil => .nil
  | _, _, n + 1, .cons r t => .cons r (Reps.take n t)
theorem Reps.drop : ∀ {vs : List V} {ts : List T} (n : Nat), Reps K H A vs ts → Reps K H A (vs.drop n) (ts.drop n)
  | _, _, 0, r => r
  | _, _, _ + 1, .nil => .nil
  | _, _, n + 1, .cons _ t => Reps.drop n t
theorem Reps.set {v : V} {t : T} (r : Rep K H A v t) : ∀ {vs : List V} {ts : List T} (n : Nat), Reps K H A vs ts → Reps K H A (vs.set n v) (ts.set n t)
  | _, _, _, .nil => .nil
  | _, _, 0, .cons _ s => .cons r s
  | _, _, n + 1, .cons q s => .cons q (Reps.set r n s)
theorem Reps.dropLast {vs : List V} {ts : List T} (r : Reps K H A vs ts) : Reps K H A vs.dropLast ts.dropLast := by
  rw [List.dropLast_eq_take, List.dropLast_eq_take, r.length]
  exact r.take _
theorem Reps.rep {vs : List V} {ts : List T} (r : Reps K H A vs ts) : ∀ n : Nat, Reps K H A (List.replicate n vs).flatten (List.replicate n ts).flatten
  | 0 => .nil
  | n + 1 => by
    simp only [List.replicate_succ, List.flatten_cons]
    exact r.app (Reps.rep r n)

def RepO (K : PySem.W.Frag) (H : Hp) (A : Addr → Prop) (a : Addr) : T → Prop
  | .lst ts => ∃ vs, H a = some (.lst vs) ∧ Reps K H A vs ts
  | .dct true ks => ∃ kvs, H a = some (.dK kvs) ∧ RepK K H A kvs ks
  | .dct false ks => ∃ kvs, H a = some (.dT kvs) ∧ RepT K H A kvs ks
  | _ => False
theorem RepO.keep {a : Addr} {t : T} (h : RepO K H A a t) (k : Kp H H' A A') (e : H' a = H a) : RepO K H' A' a t := by
  cases t with
  | lst ts =>
    obtain ⟨vs, h1, h2⟩ := h
    exact ⟨vs, e.trans h1, h2.keep k⟩
  | dct b ks =>
    cases b with
    | true =>
      obtain ⟨vs, h1, h2⟩ := h
      exact ⟨vs, e.trans h1, h2.keep k⟩
    | false =>
      obtain ⟨vs, h1, h2⟩ := h
      exact ⟨vs, e.trans h1, h2.keep k⟩
  | _ => exact h.elim
theorem RepO.rep {a : Addr} {t : T} (h : RepO K H A a t) (n : ¬ A a) : Rep K H A (.ref a) t := by
  cases t with
  | lst ts =>
    obtain ⟨vs, h1, h2⟩ := h
    exact .lst h1 n h2
  | dct b ks =>
    cases b with
    | true =>
      obtain ⟨vs, h1, h2⟩ := h
      exact .dk h1 n h2
    | false =>
      obtain ⟨vs, h1, h2⟩ := h
      exact .dt h1 n h2
  | _ => exact h.elim
theorem RepO.some {a : Addr} {t : T} (h : RepO K H A a t) : ∃ o, H a = some o ∧ ∀ xs, o ≠ .tup xs := by
  cases t with
  | lst ts =>
    obtain ⟨vs, h1, h2⟩ := h
    exact ⟨_, h1, fun _ z => by cases z⟩
  | dct b ks =>
    cases b with
    | true =>
      obtain ⟨vs, h1, h2⟩ := h
      exact ⟨_, h1, fun _ z => by cases z⟩
    | false =>
      obtain ⟨vs, h1, h2⟩ := h
      exact ⟨_, h1, fun _ z => by cases z⟩
  | _ => exact h.elim
theorem RepO.pure {p : Addr} {t : T} (h : RepO K H A p t) (e : Py.apartR (.new t) = true) : RepO K H A' p t := by
  cases t with
  | lst ts =>
    obtain ⟨vs, h1, h2⟩ := h
    exact ⟨vs, h1, h2.pure (by simpa [Py.apartR] using e)⟩
  | dct b ks =>
    cases b with
    | true =>
      obtain ⟨vs, h1, h2⟩ := h
      exact ⟨vs, h1, h2.pure (by simpa [Py.apartR] using e)⟩
    | false =>
      obtain ⟨vs, h1, h2⟩ := h
      exact ⟨vs, h1, h2.pure (by simpa [Py.apartR] using e)⟩
  | _ => exact h.elim

def Ow (σ : L2.St) (ρ : PEnv) (a : Addr) : Prop := ∃ (i : Nat) (t : T), ρ[i]? = some (Sl.own t) ∧ σ[i]? = some (some (V.ref a))
def Av (Z : Addr → Prop) (σ : L2.St) (ρ : PEnv) (a : Addr) : Prop := Z a ∨ Ow σ ρ a
structure SR (K : PySem.W.Frag) (H0 : B0) (Z : Addr → Prop) (σ : L2.St) (H : Hp) (ρ : PEnv) : Prop where
  len : σ.length = ρ.length
  base : ∀ a o, H0 a = some o → H a = some o
  zin : ∀ a, Z a → ∃ o, H a = some o ∧ ∀ xs, o ≠ .tup xs
  val : ∀ (i : Nat) (t : T), ρ[i]? = some (Sl.val t) → ∃ v, σ[i]? = some (some v) ∧ Rep K H (Av Z σ ρ) v t
  own : ∀ (i : Nat) (t : T), ρ[i]? = some (Sl.own t) → ∃ a, σ[i]? = some (some (V.ref a)) ∧ H0 a = none ∧ ¬ Z a ∧ RepO K H (Av Z σ ρ) a t
  uniq : ∀ (i j : Nat) (t u : T) (a : Addr), ρ[i]? = some (Sl.own t) → ρ[j]? = some (Sl.own u) → σ[i]? = some (some (V.ref a)) → σ[j]? = some (some (V.ref a)) → i = j
  fix : ∀ (i : Nat) (v : V), H0.fx i = some v → σ[i]? = some (some v)
variable {σ σ' : L2.St} {ρ ρ' : PEnv}
theorem SR.owIn (s : SR K H0 Z σ H ρ) {a : Addr} (h : Ow σ ρ a) : ∃ o, H a = some o ∧ ∀ xs, o ≠ .tup xs := by
  obtain ⟨i, t, e1, e2⟩ := h
  obtain ⟨b, e3, _, _, r⟩ := s.own i t e1
  rw [e2] at e3
  cases e3
  exact r.some
theorem SR.avIn (s : SR K H0 Z σ H ρ) {a : Addr} (h : Av Z σ ρ a) : ∃ o, H a = some o ∧ ∀ xs, o ≠ .tup xs := h.elim (s.zin a) s.owIn
theorem SR.ext (s : SR K H0 Z σ H ρ) (e : Ext H H') : SR K H0 Z σ H' ρ where
  len := s.len
  base := fun a o h => e a o (s.base a o h)
  zin := fun a h => by
    obtain ⟨o, h1, h2⟩ := s.zin a h
    exact ⟨o, e a o h1, h2⟩
  val := fun i t h => by
    obtain ⟨v, h1, h2⟩ := s.val i t h
    exact ⟨v, h1, h2.ext e⟩
  own := fun i t h => by
    obtain ⟨a, h1, h2, h3, h4⟩ := s.own i t h
    obtain ⟨o, h5, _⟩ := h4.some
    exact ⟨a, h1, h2, h3, h4.keep (Kp.ext e fun _ _ _ z => z) ((e a o h5).trans h5.symm)⟩
  uniq := s.uniq
  fix := s.fix
theorem SR.aside (s : SR K H0 Z σ H ρ) (e : Ext H H') {p : Addr} (h : H p = none) {o : HO} (hp : H' p = some o) (ho : ∀ xs, o ≠ .tup xs) : SR K H0 (fun a => Z a ∨ a = p) σ H' ρ where
  len := s.len
  base := fun a o h => e a o (s.base a o h)
  zin := fun a h => by
    rcases h with h | h
    · obtain ⟨o, h1, h2⟩ := s.zin a h
      exact ⟨o, e a o h1, h2⟩
    · subst h
      exact ⟨o, hp, ho⟩
  val := fun i t h' => by
    obtain ⟨v, h1, h2⟩ := s.val i t h'
    refine ⟨v, h1, h2.keep (Kp.ext e fun a o q z => ?_)⟩
    rcases z with (z | z) | z
    · exact .inl z
    · subst z
      rw [h] at q
      cases q
    · exact .inr z
  own := fun i t h' => by
    obtain ⟨a, h1, h2, h3, h4⟩ := s.own i t h'
    obtain ⟨o, h5, _⟩ := h4.some
    refine ⟨a, h1, h2, fun z => ?_, h4.keep (Kp.ext e fun a o q z => ?_) ((e a o h5).trans h5.symm)⟩
    · rcases z with z | z
      · exact h3 z
      · subst z
        rw [h] at h5
        cases h5
    · rcases z with (z | z) | z
      · exact .inl z
      · subst z
        rw [h] at q
        cases q
      · exact .inr z
  uniq := s.uniq
  fix := s.fix
theorem SR.less {Z' : Addr → Prop} (s : SR K H0 Z σ H ρ) (h : ∀ a, Z' a → Z a) : SR K H0 Z' σ H ρ where
  len := s.len
  base := s.base
  zin := fun a z => s.zin a (h a z)
  val := fun i t h' => by
    obtain ⟨v, h1, h2⟩ := s.val i t h'
    exact ⟨v, h1, h2.weak fun a o q z => z.elim (fun z => .inl (h a z)) .inr⟩
  own := fun i t h' => by
    obtain ⟨a, h1, h2, h3, h4⟩ := s.own i t h'
    exact ⟨a, h1, h2, fun z => h3 (h a z), h4.keep (Kp.ext (Ext.refl H) fun a o q z => z.elim (fun z => .inl (h a z)) .inr) rfl⟩
  uniq := s.uniq
  fix := s.fix
theorem SR.fewer (s : SR K H0 Z σ H ρ) (hl : ρ'.length = ρ.length) (hv : ∀ (i : Nat) (t : T), ρ'[i]? = some (Sl.val t) → ρ[i]? = some (Sl.val t) ∨ ρ[i]? = some (Sl.own t))
    (ho : ∀ (i : Nat) (t : T), ρ'[i]? = some (Sl.own t) → ρ[i]? = some (Sl.own t)) : SR K H0 Z σ H ρ' := by
  have ow : ∀ a, Ow σ ρ' a → Ow σ ρ a := fun a ⟨i, t, e1, e2⟩ => ⟨i, t, ho i t e1, e2⟩
  have av : ∀ a, Av Z σ ρ' a → Av Z σ ρ a := fun a h => h.elim .inl fun h => .inr (ow a h)
  refine ⟨s.len.trans hl.symm, s.base, s.zin, fun i t h => ?_, fun i t h => ?_, fun i j t u a h1 h2 => s.uniq i j t u a (ho i t h1) (ho j u h2), s.fix⟩
  · rcases hv i t h with h1 | h1
    · obtain ⟨v, h2, h3⟩ := s.val i t h1
      exact ⟨v, h2, h3.weak fun a _ _ z => av a z⟩
    · obtain ⟨a, h2, h3, h4, h5⟩ := s.own i t h1
      refine ⟨_, h2, (h5.keep (Kp.ext (Ext.refl H) fun a _ _ z => av a z) rfl).rep fun z => ?_⟩
      rcases z with z | ⟨j, u, e1, e2⟩
      · exact h4 z
      · have e : i = j := s.uniq i j t u a h1 (ho j u e1) h2 e2
        subst e
        rw [h] at e1
        cases e1
  · obtain ⟨a, h2, h3, h4, h5⟩ := s.own i t (ho i t h)
    exact ⟨a, h2, h3, h4, h5.keep (Kp.ext (Ext.refl H) fun a _ _ z => av a z) rfl⟩
theorem get_set {α : Type} (l : List α) (i j : Nat) (a : α) : (l.set i a)[j]? = if i = j then (if i < l.length then some a else none) else l[j]? := List.getElem?_set
theorem set_some {α : Type} {l : List α} {i j : Nat} {a b : α} (e : (l.set i a)[j]? = some b) : (i = j ∧ a = b) ∨ (i ≠ j ∧ l[j]? = some b) := by
  rw [get_set] at e
  by_cases q : i = j
  · rw [if_pos q] at e
    by_cases hl : i < l.length
    · rw [if_pos hl] at e
      exact .inl ⟨q, Option.some.inj e⟩
    · rw [if_neg hl] at e
      cases e
  · rw [if_neg q] at e
    exact .inr ⟨q, e⟩
theorem set_at {α : Type} {l : List α} {i : Nat} {a : α} (h : i < l.length) : (l.set i a)[i]? = some a := by rw [get_set, if_pos rfl, if_pos h]
theorem set_off {α : Type} {l : List α} {i j : Nat} {a : α} (h : i ≠ j) : (l.set i a)[j]? = l[j]? := by rw [get_set, if_neg h]
theorem SR.freeze (s : SR K H0 Z σ H ρ) {i : Nat} {t : T} (h : ρ[i]? = some (Sl.own t)) : SR K H0 Z σ H (ρ.set i (.val t)) := by
  refine s.fewer (by simp) (fun j u e => ?_) (fun j u e => ?_)
  · rcases set_some e with ⟨rfl, e0⟩ | ⟨_, e⟩
    · cases e0
      exact .inr h
    · exact .inl e
  · rcases set_some e with ⟨_, e⟩ | ⟨_, e⟩
    · cases e
    · exact e
theorem SR.drop (s : SR K H0 Z σ H ρ) (i : Nat) : SR K H0 Z σ H (ρ.set i .un) := by
  refine s.fewer (by simp) (fun j u e => ?_) (fun j u e => ?_)
  · rcases set_some e with ⟨_, e⟩ | ⟨_, e⟩
    · cases e
    · exact .inl e
  · rcases set_some e with ⟨_, e⟩ | ⟨_, e⟩
    · cases e
    · exact e
theorem ow_set_own {i : Nat} {t u : T} (h : ρ[i]? = some (Sl.own t)) (a : Addr) : Ow σ (ρ.set i (.own u)) a ↔ Ow σ ρ a := by
  have hl : i < ρ.length := (List.getElem?_eq_some_iff.mp h).1
  constructor
  · rintro ⟨j, w, e1, e2⟩
    rcases set_some e1 with ⟨rfl, _⟩ | ⟨_, e⟩
    · exact ⟨i, t, h, e2⟩
    · exact ⟨j, w, e, e2⟩
  · rintro ⟨j, w, e1, e2⟩
    by_cases q : i = j
    · subst q
      exact ⟨i, u, set_at hl, e2⟩
    · exact ⟨j, w, by rw [set_off q]; exact e1, e2⟩
theorem SR.change (s : SR K H0 Z σ H ρ) {i : Nat} {t u : T} {a : Addr} {o : HO} (h : ρ[i]? = some (Sl.own t)) (ha : σ[i]? = some (some (V.ref a)))
    (r : RepO K (upd H a o) (Av Z σ ρ) a u) : SR K H0 Z σ (upd H a o) (ρ.set i (.own u)) ∧ Kp H (upd H a o) (Ow σ ρ) (Ow σ (ρ.set i (.own u))) := by
  obtain ⟨b, hb, h0, hz, ro⟩ := s.own i t h
  rw [ha] at hb
  cases hb
  obtain ⟨oo, ho1, ho2⟩ := ro.some
  have ow : Ow σ ρ a := ⟨i, t, h, ha⟩
  have kp : Kp H (upd H a o) (Ow σ ρ) (Ow σ (ρ.set i (.own u))) := ⟨fun b x e n => by
      have ne : b ≠ a := fun z => n (z ▸ ow)
      exact ⟨by rw [upd_ne ne]; exact e, fun z => n ((ow_set_own h b).mp z)⟩, fun b xs e => by
      have ne : b ≠ a := fun z => by
        subst z
        rw [ho1] at e
        exact ho2 _ (Option.some.inj e)
      rw [upd_ne ne]
      exact e⟩
  have av : ∀ b, Av Z σ (ρ.set i (.own u)) b ↔ Av Z σ ρ b := fun b => or_congr Iff.rfl (ow_set_own h b)
  have kpA : Kp H (upd H a o) (Av Z σ ρ) (Av Z σ (ρ.set i (.own u))) := ⟨fun b x e n => by
      obtain ⟨q1, q2⟩ := kp.obj b x e fun z => n (.inr z)
      exact ⟨q1, fun z => n ((av b).mp z)⟩, kp.tup⟩
  refine ⟨⟨by simpa using s.len, fun b x e => ?_, fun b z => ?_, fun j w e => ?_, fun j w e => ?_, fun j l w w' b e1 e2 e3 e4 => ?_, s.fix⟩, kp⟩
  · have ne : b ≠ a := fun z => by
      subst z
      rw [h0] at e
      cases e
    rw [upd_ne ne]
    exact s.base b x e
  · have ne : b ≠ a := fun q => hz (q ▸ z)
    obtain ⟨x, q1, q2⟩ := s.zin b z
    exact ⟨x, by rw [upd_ne ne]; exact q1, q2⟩
  · rcases set_some e with ⟨_, e⟩ | ⟨_, e⟩
    · cases e
    · obtain ⟨v, q1, q2⟩ := s.val j w e
      exact ⟨v, q1, q2.keep kpA⟩
  · rcases set_some e with ⟨rfl, e0⟩ | ⟨q, e⟩
    · cases e0
      exact ⟨a, ha, h0, hz, r.keep (Kp.ext (Ext.refl _) fun b _ _ z => (av b).mp z) rfl⟩
    · obtain ⟨b, q1, q2, q3, q4⟩ := s.own j w e
      have ne : b ≠ a := fun z => by
        subst z
        exact q (s.uniq i j t w b h e ha q1)
      exact ⟨b, q1, q2, q3, q4.keep kpA (upd_ne ne)⟩
  · have back : ∀ (j : Nat) (w : T), (ρ.set i (.own u))[j]? = some (Sl.own w) → ∃ w', ρ[j]? = some (Sl.own w') := fun j w e => by
      rcases set_some e with ⟨rfl, _⟩ | ⟨_, e⟩
      · exact ⟨t, h⟩
      · exact ⟨w, e⟩
    obtain ⟨x1, b1⟩ := back j w e1
    obtain ⟨x2, b2⟩ := back l w' e2
    exact s.uniq j l x1 x2 b b1 b2 e3 e4
theorem ow_set {i : Nat} {v : Option V} {s : Sl} (hs : ∀ t, s ≠ .own t) {a : Addr} (h : Ow (σ.set i v) (ρ.set i s) a) : Ow σ ρ a := by
  obtain ⟨j, w, e1, e2⟩ := h
  rcases set_some e1 with ⟨_, e⟩ | ⟨q, e⟩
  · exact absurd e (hs w)
  · rw [set_off q] at e2
    exact ⟨j, w, e, e2⟩
theorem SR.fixSet (s : SR K H0 Z σ H ρ) {i : Nat} {x : Option V} (hf : H0.fx i = none) : ∀ (j : Nat) (v : V), H0.fx j = some v → (σ.set i x)[j]? = some (some v) := fun j v e => by
  have ne : i ≠ j := fun z => by
    subst z
    rw [hf] at e
    cases e
  rw [set_off ne]
  exact s.fix j v e
theorem SR.setAny (s : SR K H0 Z σ H ρ) {i : Nat} {v : Option V} {x : Sl} (hf : H0.fx i = none) (hx : ∀ t, x ≠ .own t) (hi : i < ρ.length) (r : ∀ t, x = .val t → ∃ u, v = some u ∧ Rep K H (Av Z σ ρ) u t) : SR K H0 Z (σ.set i v) H (ρ.set i x) := by
  have hi' : i < σ.length := by rw [s.len]; exact hi
  have av : ∀ b, Av Z (σ.set i v) (ρ.set i x) b → Av Z σ ρ b := fun b h => h.elim .inl fun h => .inr (ow_set hx h)
  refine ⟨by simpa using s.len, s.base, s.zin, fun j w e => ?_, fun j w e => ?_, fun j l w w' b e1 e2 e3 e4 => ?_, s.fixSet hf⟩
  · rcases set_some e with ⟨rfl, e0⟩ | ⟨q, e⟩
    · obtain ⟨u, rfl, ru⟩ := r w e0
      exact ⟨u, set_at hi', ru.weak fun b _ _ z => av b z⟩
    · obtain ⟨u, q1, q2⟩ := s.val j w e
      exact ⟨u, by rw [set_off q]; exact q1, q2.weak fun b _ _ z => av b z⟩
  · rcases set_some e with ⟨_, e⟩ | ⟨q, e⟩
    · exact absurd e (hx w)
    · obtain ⟨b, q1, q2, q3, q4⟩ := s.own j w e
      exact ⟨b, by rw [set_off q]; exact q1, q2, q3, q4.keep (Kp.ext (Ext.refl _) fun b _ _ z => av b z) rfl⟩
  · rcases set_some e1 with ⟨_, e⟩ | ⟨q1, f1⟩
    · exact absurd e (hx w)
    · rcases set_some e2 with ⟨_, e⟩ | ⟨q2, f2⟩
      · exact absurd e (hx w')
      · rw [set_off q1] at e3
        rw [set_off q2] at e4
        exact s.uniq j l w w' b f1 f2 e3 e4
theorem SR.setVal (s : SR K H0 Z σ H ρ) {i : Nat} {v : V} {t : T} (hf : H0.fx i = none) (hi : i < ρ.length) (r : Rep K H (Av Z σ ρ) v t) : SR K H0 Z (σ.set i (some v)) H (ρ.set i (.val t)) :=
  s.setAny hf (fun _ z => by cases z) hi fun t e => by
    cases e
    exact ⟨v, rfl, r⟩
theorem SR.setNew {i : Nat} {p : Addr} {t : T} (s : SR K H0 (fun a => Z a ∨ a = p) σ H ρ) (hf : H0.fx i = none) (hi : i < ρ.length) (h0 : H0 p = none) (hz : ¬ Z p) (r : RepO K H (fun a => Av Z σ ρ a ∨ a = p) p t) :
    SR K H0 Z (σ.set i (some (.ref p))) H (ρ.set i (.own t)) := by
  have hi' : i < σ.length := by rw [s.len]; exact hi
  have ow : ∀ b, Ow (σ.set i (some (.ref p))) (ρ.set i (.own t)) b → Ow σ ρ b ∨ b = p := fun b h => by
    obtain ⟨j, w, e1, e2⟩ := h
    rcases set_some e1 with ⟨rfl, _⟩ | ⟨q, e⟩
    · rw [set_at hi'] at e2
      cases e2
      exact .inr rfl
    · rw [set_off q] at e2
      exact .inl ⟨j, w, e, e2⟩
  have av : ∀ b, Av Z (σ.set i (some (.ref p))) (ρ.set i (.own t)) b → (Z b ∨ b = p) ∨ Ow σ ρ b := fun b h => h.elim (fun z => .inl (.inl z)) fun h => (ow b h).elim .inr fun z => .inl (.inr z)
  have np : ∀ (j : Nat) (w : T), ρ[j]? = some (Sl.own w) → σ[j]? ≠ some (some (V.ref p)) := fun j w e z => by
    obtain ⟨b, q1, _, q3, _⟩ := s.own j w e
    rw [z] at q1
    cases q1
    exact q3 (.inr rfl)
  refine ⟨by simpa using s.len, s.base, fun a z => s.zin a (.inl z), fun j w e => ?_, fun j w e => ?_, fun j l w w' b e1 e2 e3 e4 => ?_, s.fixSet hf⟩
  · rcases set_some e with ⟨_, e⟩ | ⟨q, e⟩
    · cases e
    · obtain ⟨u, q1, q2⟩ := s.val j w e
      exact ⟨u, by rw [set_off q]; exact q1, q2.weak fun b _ _ z => av b z⟩
  · rcases set_some e with ⟨rfl, e0⟩ | ⟨q, e⟩
    · cases e0
      refine ⟨p, set_at hi', h0, hz, r.keep (Kp.ext (Ext.refl _) fun b _ _ z => ?_) rfl⟩
      rcases av b z with (z | z) | z
      · exact .inl (.inl z)
      · exact .inr z
      · exact .inl (.inr z)
    · obtain ⟨b, q1, q2, q3, q4⟩ := s.own j w e
      exact ⟨b, by rw [set_off q]; exact q1, q2, fun z => q3 (.inl z), q4.keep (Kp.ext (Ext.refl _) fun b _ _ z => av b z) rfl⟩
  · rcases set_some e1 with ⟨q1, _⟩ | ⟨q1, f1⟩
    · rcases set_some e2 with ⟨q2, _⟩ | ⟨q2, f2⟩
      · exact q1.symm.trans q2
      · rw [← q1, set_at hi'] at e3
        rw [set_off q2] at e4
        cases e3
        exact absurd e4 (np l w' f2)
    · rw [set_off q1] at e3
      rcases set_some e2 with ⟨q2, _⟩ | ⟨q2, f2⟩
      · rw [← q2, set_at hi'] at e4
        cases e4
        exact absurd e3 (np j w f1)
      · rw [set_off q2] at e4
        exact s.uniq j l w w' b f1 f2 e3 e4
end Sd
set_option Elab.async false
set_option linter.all false
set_option autoImplicit false
set_option maxRecDepth 100000
namespace Sd
open PySem PySem.Spec PyProof.Rows L2
open Py (T Sl R Res CRes SRes Ex Stm W)
variable {K : PySem.W.Frag} {H H' : Hp} {H0 : B0} {A A' Z : Addr → Prop} {σ σ' : L2.St} {ρ ρ' : PEnv}
def RV (K : PySem.W.Frag) (H0 : B0) (Z : Addr → Prop) (σ : L2.St) (H : Hp) (ρ : PEnv) (v : V) : R → Prop
  | .tmp t => Rep K H (Av Z σ ρ) v t
  | .new t => ∃ p, v = .ref p ∧ H0 p = none ∧ ¬ Z p ∧ SR K H0 (fun a => Z a ∨ a = p) σ H ρ ∧ RepO K H (fun a => Av Z σ ρ a ∨ a = p) p t
  | .slot i => σ[i]? = some (some v)
def RVD (K : PySem.W.Frag) (Z : Addr → Prop) (σ : L2.St) (H : Hp) (ρ : PEnv) (v : V) : R → Prop
  | .tmp t => Rep K H (Av Z σ ρ) v t
  | .new t => Rep K H (Av Z σ ρ) v t
  | .slot i => σ[i]? = some (some v)
theorem SR.newOff {p : Addr} (s : SR K H0 (fun a => Z a ∨ a = p) σ H ρ) : ¬ Ow σ ρ p := fun ⟨i, t, e1, e2⟩ => by
  obtain ⟨b, q1, _, q3, _⟩ := s.own i t e1
  rw [e2] at q1
  cases q1
  exact q3 (.inr rfl)
theorem RV.d {v : V} {r : R} (h : RV K H0 Z σ H ρ v r) : RVD K Z σ H ρ v r := by
  cases r with
  | tmp t => exact h
  | slot i => exact h
  | new t =>
    obtain ⟨p, rfl, h1, h2, h3, h4⟩ := h
    refine (h4.keep (Kp.ext (Ext.refl H) fun a _ _ z => .inl z) rfl).rep fun z => ?_
    exact z.elim h2 h3.newOff
theorem av_kp (k : Kp H H' (Ow σ ρ) (Ow σ' ρ')) : Kp H H' (Av Z σ ρ) (Av Z σ' ρ') :=
  ⟨fun a o h n => by
    obtain ⟨q1, q2⟩ := k.obj a o h fun z => n (.inr z)
    exact ⟨q1, fun z => z.elim (fun z => n (.inl z)) q2⟩, k.tup⟩
theorem RVD.keep {v : V} {r : R} (h : RVD K Z σ H ρ v r) (k : Kp H H' (Ow σ ρ) (Ow σ ρ')) : RVD K Z σ H' ρ' v r := by
  cases r with
  | tmp t => exact Rep.keep (av_kp k) h
  | new t => exact Rep.keep (av_kp k) h
  | slot i => exact h
def Top (K : PySem.W.Frag) (H : Hp) (A : Addr → Prop) (v : V) (t : T) : Prop := (∃ a, v = .ref a ∧ RepO K H A a t) ∨ Rep K H A v t
theorem RVD.top {v : V} {r : R} {t : T} (h : RVD K Z σ H ρ v r) (s : SR K H0 Z σ H ρ) (e : Py.rd r ρ = some t) : Top K H (Av Z σ ρ) v t := by
  cases r with
  | tmp u =>
    simp only [Py.rd] at e
    cases e
    exact .inr h
  | new u =>
    simp only [Py.rd] at e
    cases e
    exact .inr h
  | slot i =>
    have h : σ[i]? = some (some v) := h
    simp only [Py.rd] at e
    split at e
    · rename_i u q
      cases e
      obtain ⟨w, q1, q2⟩ := s.val i _ q
      rw [h] at q1
      cases q1
      exact .inr q2
    · rename_i u q
      cases e
      obtain ⟨a, q1, _, _, q4⟩ := s.own i _ q
      rw [h] at q1
      cases q1
      exact .inl ⟨a, rfl, q4⟩
    · cases e
theorem Top.noA {v : V} {t : T} (h : Top K H A v t) : Rep K H NoA v t := by
  rcases h with ⟨a, rfl, h⟩ | h
  · exact (h.keep (Kp.ext (Ext.refl H) fun _ _ _ z => z.elim) rfl).rep fun z => z
  · exact h.noA
theorem esc_ok {v : V} {r : R} {t : T} (h : RVD K Z σ H ρ v r) (s : SR K H0 Z σ H ρ) (e : Py.esc r ρ = some (t, ρ')) :
    SR K H0 Z σ H ρ' ∧ Kp H H (Ow σ ρ) (Ow σ ρ') ∧ Rep K H (Av Z σ ρ') v t := by
  have same : Kp H H (Ow σ ρ) (Ow σ ρ) := Kp.ext (Ext.refl H) fun _ _ _ z => z
  cases r with
  | tmp u =>
    simp only [Py.esc] at e
    cases e
    exact ⟨s, same, h⟩
  | new u =>
    simp only [Py.esc] at e
    cases e
    exact ⟨s, same, h⟩
  | slot i =>
    have h : σ[i]? = some (some v) := h
    simp only [Py.esc] at e
    split at e
    · rename_i u q
      cases e
      obtain ⟨w, q1, q2⟩ := s.val i _ q
      rw [h] at q1
      cases q1
      exact ⟨s, same, q2⟩
    · rename_i u q
      cases e
      have hl : i < ρ.length := (List.getElem?_eq_some_iff.mp q).1
      have s2 := s.freeze q
      obtain ⟨w, q1, q2⟩ := s2.val i t (set_at hl)
      rw [h] at q1
      cases q1
      exact ⟨s2, Kp.ext (Ext.refl H) fun a _ _ z => by
        obtain ⟨j, w, e1, e2⟩ := z
        rcases set_some e1 with ⟨_, e0⟩ | ⟨_, e0⟩
        · cases e0
        · exact ⟨j, w, e0, e2⟩, q2⟩
    · cases e
theorem Kp.trans {H1 H2 H3 : Hp} {A1 A2 A3 : Addr → Prop} (a : Kp H1 H2 A1 A2) (b : Kp H2 H3 A2 A3) : Kp H1 H3 A1 A3 :=
  ⟨fun c o h n => by
    obtain ⟨q1, q2⟩ := a.obj c o h n
    exact b.obj c o q1 q2, fun c xs h => b.tup c xs (a.tup c xs h)⟩
theorem Kp.same {A : Addr → Prop} : Kp H H A A := Kp.ext (Ext.refl H) fun _ _ _ z => z

abbrev XW := Nat → L2.St → Hp → Prop
def Post {α β : Type} (K : PySem.W.Frag) (H0 : B0) (Wf : XW) (Z : Addr → Prop) (σ : L2.St) (H : Hp) (ρ : PEnv) (Rel : Hp → PEnv → β → α → Prop) (res : Res (α × PEnv)) (Q : β → Hp → Prop) : Prop :=
  match res with
  | .ok (a, ρ') => ∀ b H', SR K H0 Z σ H' ρ' → Kp H H' (Ow σ ρ) (Ow σ ρ') → Rel H' ρ' b a → Q b H'
  | .exc c ρ' => ∀ H', SR K H0 Z σ H' ρ' → Kp H H' (Ow σ ρ) (Ow σ ρ') → Wf c σ H'
  | .stuck => False
variable {Wf : XW} {α β γ δ : Type}
theorem Post.rebase {Rel : Hp → PEnv → β → α → Prop} {res : Res (α × PEnv)} {Q : β → Hp → Prop} (h : Post K H0 Wf Z σ H ρ Rel res Q) (k : Kp H H' (Ow σ ρ) (Ow σ ρ')) : Post K H0 Wf Z σ H' ρ' Rel res Q := by
  cases res with
  | ok p => exact fun b H2 s2 k2 r => h b H2 s2 (k.trans k2) r
  | exc c ρ2 => exact fun H2 s2 k2 => h H2 s2 (k.trans k2)
  | stuck => exact h.elim
theorem post_bnd {RelX : Hp → PEnv → δ → γ → Prop} {Rel : Hp → PEnv → β → α → Prop} {x : Res (γ × PEnv)} {f : γ → PEnv → Res (α × PEnv)} {Q : β → Hp → Prop} {QX : δ → Hp → Prop}
    (h : Post K H0 Wf Z σ H ρ Rel (Py.bnd x f) Q)
    (n : ∀ a ρ1 b H1, SR K H0 Z σ H1 ρ1 → Kp H H1 (Ow σ ρ) (Ow σ ρ1) → RelX H1 ρ1 b a → Post K H0 Wf Z σ H1 ρ1 Rel (f a ρ1) Q → QX b H1) : Post K H0 Wf Z σ H ρ RelX x QX := by
  cases x with
  | ok p => exact fun b H1 s1 k1 r => n p.1 p.2 b H1 s1 k1 r (Post.rebase (show Post K H0 Wf Z σ H ρ Rel (f p.1 p.2) Q from h) k1)
  | exc c ρ2 => exact h
  | stuck => exact h.elim
theorem post_lift {Rel : Hp → PEnv → β → α → Prop} {o : Option γ} {f : γ → Res (α × PEnv)} {Q : β → Hp → Prop} (h : Post K H0 Wf Z σ H ρ Rel (Py.lift o f) Q) : ∃ a, o = some a ∧ Post K H0 Wf Z σ H ρ Rel (f a) Q := by
  cases o with
  | some a => exact ⟨a, rfl, h⟩
  | none => exact h.elim
theorem Post.ret {Rel : Hp → PEnv → β → α → Prop} {a : α} {Q : β → Hp → Prop} (h : Post K H0 Wf Z σ H ρ Rel (.ok (a, ρ)) Q) (s : SR K H0 Z σ H ρ) {b : β} (r : Rel H ρ b a) : Q b H := h b H s Kp.same r

def PostE (K : PySem.W.Frag) (H0 : B0) (Wf : XW) (Z : Addr → Prop) (σ : L2.St) (H : Hp) (ρ : PEnv) (res : Res (R × PEnv)) (Q : VK) : Prop :=
  Post K H0 Wf Z σ H ρ (fun H' ρ' v r => RV K H0 Z σ H' ρ' v r) res Q
def PostB (K : PySem.W.Frag) (H0 : B0) (Wf : XW) (Z : Addr → Prop) (σ : L2.St) (H : Hp) (ρ : PEnv) (res : Res (Bool × PEnv)) (Q : Bool → Hp → Prop) : Prop :=
  Post K H0 Wf Z σ H ρ (fun _ _ b a => b = a) res Q
def OpPost (K : PySem.W.Frag) (H : Hp) (A : Addr → Prop) (r : R) (Q : VK) : Prop :=
  match r with
  | .tmp t => ∀ v H', Ext H H' → Rep K H' A v t → Q v H'
  | .new t => ∀ p H', Ext H H' → H p = none → RepO K H' (fun a => A a ∨ a = p) p t → Q (.ref p) H'
  | .slot _ => False
theorem op_post {r : R} {Q : VK} (s : SR K H0 Z σ H ρ) (h : PostE K H0 Wf Z σ H ρ (.ok (r, ρ)) Q) (ns : Py.isNewR r = true) : OpPost K H (Av Z σ ρ) r Q := by
  cases r with
  | tmp t => exact fun v H' e r => h v H' (s.ext e) (Kp.ext e fun _ _ _ z => z) r
  | new t =>
    intro p H' e hp r
    obtain ⟨o, ho, ht⟩ := r.some
    have h0 : H0 p = none := by
      cases q : H0 p with
      | none => rfl
      | some x =>
        have := s.base p x q
        rw [hp] at this
        cases this
    refine h (.ref p) H' (s.ext e) (Kp.ext e fun _ _ _ z => z) ⟨p, rfl, h0, fun z => ?_, s.aside e hp ho ht, r⟩
    obtain ⟨x, q, _⟩ := s.zin p z
    rw [hp] at q
    cases q
  | slot i => simp [Py.isNewR] at ns
theorem Kp.fresh {p : Addr} (e : Ext H H') (hp : H p = none) : Kp H H' A (fun a => A a ∨ a = p) :=
  Kp.ext e fun a o q z => z.elim id fun z => by
    subst z
    rw [hp] at q
    cases q
theorem new_lst {vs : List V} {ts : List T} {p : Addr} (r : Reps K H A vs ts) (hp : H p = none) : RepO K (upd H p (.lst vs)) (fun a => A a ∨ a = p) p (.lst ts) :=
  ⟨vs, upd_same, r.keep (Kp.fresh (Ext.upd hp) hp)⟩
theorem new_tup {vs : List V} {ts : List T} {p : Addr} (r : Reps K H A vs ts) (hp : H p = none) : Rep K (upd H p (.tup vs)) A (.ref p) (.tup ts) :=
  .tup upd_same (r.ext (Ext.upd hp))

theorem Top.int {v : V} {i : Int} (h : Top K H A v (.int i)) : v = .int i := by
  rcases h with ⟨a, _, h⟩ | h
  · exact h.elim
  · cases h
    rfl
theorem Top.bl {v : V} {i : Bool} (h : Top K H A v (.bl i)) : v = .bl i := by
  rcases h with ⟨a, _, h⟩ | h
  · exact h.elim
  · cases h
    rfl
theorem Top.non {v : V} (h : Top K H A v .non) : v = .non := by
  rcases h with ⟨a, _, h⟩ | h
  · exact h.elim
  · cases h
    rfl
theorem Rep.str_of {v : V} {s : W} (h : Rep K H A v (.str s)) : ∃ x : Str, v = .str x ∧ s = x.cps.toList := by
  generalize e : T.str s = t at h
  cases h with
  | str x => exact ⟨x, rfl, T.str.inj e⟩
  | _ => cases e
theorem Top.str {v : V} {s : W} (h : Top K H A v (.str s)) : ∃ x : Str, v = .str x ∧ s = x.cps.toList := by
  rcases h with ⟨a, _, h⟩ | h
  · exact h.elim
  · exact h.str_of
theorem Top.tup {v : V} {ts : List T} (h : Top K H A v (.tup ts)) : ∃ a vs, v = .ref a ∧ H a = some (.tup vs) ∧ Reps K H A vs ts := by
  rcases h with ⟨a, _, h⟩ | h
  · exact h.elim
  · cases h with
    | tup h r => exact ⟨_, _, rfl, h, r⟩
theorem Top.lst {v : V} {ts : List T} (h : Top K H A v (.lst ts)) : ∃ a vs, v = .ref a ∧ H a = some (.lst vs) ∧ Reps K H A vs ts := by
  rcases h with ⟨a, rfl, vs, h, r⟩ | h
  · exact ⟨a, vs, rfl, h, r⟩
  · cases h with
    | lst h _ r => exact ⟨_, _, rfl, h, r⟩
theorem Top.dk {v : V} {ts : List (T × T)} (h : Top K H A v (.dct true ts)) : ∃ a vs, v = .ref a ∧ H a = some (.dK vs) ∧ RepK K H A vs ts := by
  rcases h with ⟨a, rfl, vs, h, r⟩ | h
  · exact ⟨a, vs, rfl, h, r⟩
  · cases h with
    | dk h _ r => exact ⟨_, _, rfl, h, r⟩
theorem Top.dt {v : V} {ts : List (T × T)} (h : Top K H A v (.dct false ts)) : ∃ a vs, v = .ref a ∧ H a = some (.dT vs) ∧ RepT K H A vs ts := by
  rcases h with ⟨a, rfl, vs, h, r⟩ | h
  · exact ⟨a, vs, rfl, h, r⟩
  · cases h with
    | dt h _ r => exact ⟨_, _, rfl, h, r⟩
theorem Top.scr {v : V} {ns : List Int} (h : Top K H A v (.scr ns)) : ∃ a, v = .ref a ∧ SqL K H a (ns.map V.int) := by
  rcases h with ⟨a, _, h⟩ | h
  · exact h.elim
  · cases h with
    | scrF h _ => exact ⟨_, rfl, .inl (.inr ⟨_, h⟩)⟩
    | scrK h => exact ⟨_, rfl, h H⟩
theorem Top.ext {v : V} {t : T} (h : Top K H A v t) (e : Ext H H') : Top K H' A v t := by
  rcases h with ⟨a, rfl, h⟩ | h
  · obtain ⟨o, ho, _⟩ := h.some
    exact .inl ⟨a, rfl, h.keep (Kp.ext e fun _ _ _ z => z) ((e a o ho).trans ho.symm)⟩
  · exact .inr (h.ext e)
theorem rep_str (s : W) : Rep K H A (.str ⟨s.toArray⟩) (.str s) := by
  have h := Rep.str (K := K) (H := H) (A := A) (⟨s.toArray⟩ : Str)
  simpa using h
theorem str_ext {x y : Str} (h : x.cps.toList = y.cps.toList) : x = y := TL.ext_tl h
theorem str_len (x : Str) : x.length = x.cps.toList.length := TL.len_tl x
end Sd
set_option Elab.async false
set_option linter.all false
set_option autoImplicit false
set_option maxRecDepth 100000
namespace Sd
open PySem PySem.Spec PyProof.Rows L2
open Py (T Sl R Res CRes SRes Ex Stm W)
variable {H H' : Hp} {H0 : B0} {A A' Z : Addr → Prop} {σ σ' : L2.St} {ρ ρ' : PEnv} {X : Cx}
theorem cap_le {n : Nat} (h : n ≤ 1000000) : n ≤ sizeLine := Nat.le_trans h (by decide)
theorem cap_lt {n : Nat} (h : n < 1000000) : n < sizeLine := Nat.lt_of_lt_of_le h (by decide)
theorem ite_some {α : Type} {c : Prop} [Decidable c] {x : α} {y : α} (h : (if c then some x else none) = some y) : c ∧ x = y := by
  by_cases q : c
  · rw [if_pos q] at h
    exact ⟨q, Option.some.inj h⟩
  · rw [if_neg q] at h
    cases h
def BinOk (X : Cx) (op : Operator) (bop : Py.BOp) : Prop :=
  ∃ r : R2, OpR X (binaryOp op) r ∧ ∀ (H : Hp) (A : Addr → Prop) (x y : V) (tx ty : T) (res : R) (Q : VK), Top X.K H A x tx → Top X.K H A y ty → Py.binT bop tx ty = some res → OpPost X.K H A res Q → r x y H Q
theorem bin_new {bop : Py.BOp} {x y : T} {r : R} (h : Py.binT bop x y = some r) : Py.isNewR r = true := by
  unfold Py.binT at h
  split at h <;> (try split at h) <;> (try cases h) <;> rfl
theorem bin_add : BinOk X .Add .add := by
  refine ⟨_, OpR.or op_add (OpR.or op_add_str (OpR.or op_cat op_catA)), fun H A x y tx ty res Q hx hy h q => ?_⟩
  cases tx <;> cases ty <;> first | (simp [Py.binT] at h; done) | skip
  case int.int i j =>
    cases h
    exact .inl ⟨i, j, hx.int, hy.int, q (.int (i + j)) H (Ext.refl H) (.int _)⟩
  case str.str s s' =>
    obtain ⟨hl, rfl⟩ := ite_some h
    obtain ⟨u, rfl, rfl⟩ := hx.str
    obtain ⟨w, rfl, rfl⟩ := hy.str
    refine .inr (.inl ⟨u, w, rfl, rfl, cap_le (by rw [str_len, str_len]; exact hl), q _ H (Ext.refl H) ?_⟩)
    have e : (u ++ w).cps.toList = u.cps.toList ++ w.cps.toList := TL.tl_append u w
    rw [← e]
    exact .str _
  case lst.lst xs ys =>
    obtain ⟨hl, rfl⟩ := ite_some h
    obtain ⟨a, us, rfl, h1, r1⟩ := hx.lst
    obtain ⟨b, ws, rfl, h2, r2⟩ := hy.lst
    exact .inr (.inr (.inl ⟨a, b, us, ws, rfl, rfl, h1, h2, cap_le (by rw [r1.length, r2.length]; exact hl), fun p hp => q p _ (Ext.upd hp) hp (new_lst (r1.app r2) hp)⟩))
  case tup.tup xs ys =>
    obtain ⟨hl, rfl⟩ := ite_some h
    obtain ⟨a, us, rfl, h1, r1⟩ := hx.tup
    obtain ⟨b, ws, rfl, h2, r2⟩ := hy.tup
    refine .inr (.inr (.inr ⟨a, b, us, ws, rfl, rfl, .of h1, .of h2, cap_le (by rw [r1.length, r2.length]; exact hl), fun e => ?_, fun _ e => ?_, fun _ _ p hp => q _ _ (Ext.upd hp) (new_tup (r1.app r2) hp)⟩))
    · subst e
      cases r1
      exact q _ H (Ext.refl H) (.tup h2 r2)
    · subst e
      cases r2
      refine q _ H (Ext.refl H) ?_
      rw [List.append_nil]
      exact .tup h1 r1
theorem bin_sub : BinOk X .Sub .sub := by
  refine ⟨_, op_sub, fun H A x y tx ty res Q hx hy h q => ?_⟩
  cases tx <;> cases ty <;> first | (simp [Py.binT] at h; done) | skip
  case int.int i j =>
    cases h
    exact ⟨i, j, hx.int, hy.int, q (.int (i - j)) H (Ext.refl H) (.int _)⟩
theorem small64_iff {i : Int} (h : Py.small64 i = true) : -(2 ^ 64) < i ∧ i < 2 ^ 64 := by
  simp only [Py.small64, Bool.and_eq_true, decide_eq_true_eq] at h
  omega
theorem bin_mul : BinOk X .Mult .mul := by
  refine ⟨_, OpR.or op_mul (OpR.or op_rep op_repT), fun H A x y tx ty res Q hx hy h q => ?_⟩
  cases tx <;> cases ty <;> first | (simp [Py.binT] at h; done) | skip
  case int.int i j =>
    obtain ⟨hs, rfl⟩ := ite_some h
    refine .inl ⟨i, j, hx.int, hy.int, ?_, q (.int (i * j)) H (Ext.refl H) (.int _)⟩
    rcases Bool.or_eq_true_iff.mp hs with hs | hs
    · exact .inl (small64_iff hs)
    · exact .inr (small64_iff hs)
  case lst.int xs k =>
    obtain ⟨hs, rfl⟩ := ite_some h
    simp only [Bool.and_eq_true, decide_eq_true_eq] at hs
    obtain ⟨⟨h1, h2⟩, h3⟩ := hs
    obtain ⟨a, us, rfl, e1, r1⟩ := hx.lst
    exact .inr (.inl ⟨a, k, us, rfl, hy.int, e1, by omega, by omega, cap_le (by rw [r1.length]; exact h3), fun p hp => q p _ (Ext.upd hp) hp (new_lst (r1.rep _) hp)⟩)
  case tup.int xs k =>
    obtain ⟨hs, rfl⟩ := ite_some h
    simp only [Bool.and_eq_true, decide_eq_true_eq, Bool.not_eq_true', List.isEmpty_eq_false_iff] at hs
    obtain ⟨⟨⟨h1, h2⟩, h3⟩, h4⟩ := hs
    obtain ⟨a, us, rfl, e1, r1⟩ := hx.tup
    refine .inr (.inr ⟨a, k, us, rfl, hy.int, .of e1, fun z => ?_, h1, h2, by rw [r1.length]; exact h3, fun p hp => q _ _ (Ext.upd hp) (new_tup (r1.rep _) hp)⟩)
    subst z
    cases r1
    exact h4 rfl
theorem bin_fdiv : BinOk X .FloorDiv .fdiv := by
  refine ⟨_, op_fdiv, fun H A x y tx ty res Q hx hy h q => ?_⟩
  cases tx <;> cases ty <;> first | (simp [Py.binT] at h; done) | skip
  case int.int i j =>
    obtain ⟨hs, rfl⟩ := ite_some h
    simp only [Bool.and_eq_true, decide_eq_true_eq] at hs
    exact ⟨i, j, hx.int, hy.int, hs, q (.int (i / j)) H (Ext.refl H) (.int _)⟩
theorem bin_mod : BinOk X .Mod .mod := by
  refine ⟨_, op_mod, fun H A x y tx ty res Q hx hy h q => ?_⟩
  cases tx <;> cases ty <;> first | (simp [Py.binT] at h; done) | skip
  case int.int i j =>
    obtain ⟨hs, rfl⟩ := ite_some h
    simp only [decide_eq_true_eq] at hs
    exact ⟨i, j, hx.int, hy.int, hs, q (.int (i % j)) H (Ext.refl H) (.int _)⟩
theorem bin_pow : BinOk X .Pow .pow := by
  refine ⟨_, op_pow, fun H A x y tx ty res Q hx hy h q => ?_⟩
  cases tx <;> cases ty <;> first | (simp [Py.binT] at h; done) | skip
  case int.int i j =>
    obtain ⟨hs, rfl⟩ := ite_some h
    simp only [Bool.and_eq_true, decide_eq_true_eq] at hs
    obtain ⟨⟨h1, h2⟩, h3⟩ := hs
    exact ⟨i, j, hx.int, hy.int, ⟨h1, h2, by omega⟩, q (.int (i ^ j.toNat)) H (Ext.refl H) (.int _)⟩

mutual
def toD : T → PyData
  | .non => .none
  | .bl b => .bool b
  | .int i => .int i
  | .str s => .str ⟨s.toArray⟩
  | .tup ts => .tuple (toDs ts)
  | .lst ts => .list (toDs ts)
  | .scr _ => .none
  | .dct _ _ => .none
def toDs : List T → List PyData
  | [] => []
  | t :: ts => toD t :: toDs ts
end
theorem toDs_map : ∀ ts : List T, toDs ts = ts.map toD
  | [] => rfl
  | t :: ts => by simp [toDs, toDs_map ts]
mutual
theorem Rep.dp {K : PySem.W.Frag} : ∀ {v : V} {t : T} {n : Nat}, Rep K H A v t → Py.good n t = true → Dp K H v (toD t)
  | _, _, _, .non, _ => .non
  | _, _, _, .bl b, _ => .bl b
  | _, _, _, .int i, _ => .int i
  | _, _, _, .str x, _ => by
    simp only [toD]
    exact .str x
  | _, _, 0, .tup h r, g => by simp [Py.good] at g
  | _, _, n + 1, .tup h r, g => by
    simp only [Py.good] at g
    simp only [toD]
    exact .tup (.of h) (Reps.dp r g)
  | _, _, 0, .lst h _ r, g => by simp [Py.good] at g
  | _, _, n + 1, .lst h _ r, g => by
    simp only [Py.good] at g
    simp only [toD]
    exact .lst (.of h) (Reps.dp r g)
  | _, _, n, .scrF _ _, g => by cases n <;> simp [Py.good] at g
  | _, _, n, .scrK _, g => by cases n <;> simp [Py.good] at g
  | _, _, n, .dk _ _ _, g => by cases n <;> simp [Py.good] at g
  | _, _, n, .dt _ _ _, g => by cases n <;> simp [Py.good] at g
theorem Reps.dp {K : PySem.W.Frag} : ∀ {vs : List V} {ts : List T} {n : Nat}, Reps K H A vs ts → Py.goods n ts = true → DpAll K H vs (toDs ts)
  | _, _, _, .nil, _ => by
    simp only [toDs]
    exact .nil
  | _, _, n, .cons r s, g => by
    cases n <;> simp only [Py.goods, Bool.and_eq_true] at g <;> simp only [toDs] <;> exact .cons (Rep.dp r g.1) (Reps.dp s g.2)
end
mutual
theorem good_lay : ∀ {t : T} {n : Nat}, Py.good n t = true → (toD t).canLay0 = true ∧ (toD t).depth ≤ n
  | .non, n, _ => by simp [toD, PyData.canLay0, PyData.depth]
  | .bl b, n, _ => by simp [toD, PyData.canLay0, PyData.depth]
  | .int i, n, _ => by simp [toD, PyData.canLay0, PyData.depth]
  | .str s, n, g => by
    have g : (s.all fun c => decide (c < 1114112)) = true := by cases n <;> simpa [Py.good] using g
    refine ⟨?_, by simp [toD, PyData.depth]⟩
    simp only [toD, PyData.canLay0, PyData.strOk]
    simpa using g
  | .tup ts, 0, g => by simp [Py.good] at g
  | .tup ts, n + 1, g => by
    simp only [Py.good] at g
    have h := goods_lay g
    simp only [toD, PyData.canLay0, PyData.depth]
    exact ⟨h.1, by omega⟩
  | .lst ts, 0, g => by simp [Py.good] at g
  | .lst ts, n + 1, g => by
    simp only [Py.good] at g
    have h := goods_lay g
    simp only [toD, PyData.canLay0, PyData.depth]
    exact ⟨h.1, by omega⟩
  | .scr _, n, g => by cases n <;> simp [Py.good] at g
  | .dct _ _, n, g => by cases n <;> simp [Py.good] at g
theorem goods_lay : ∀ {ts : List T} {n : Nat}, Py.goods n ts = true → PyData.canLayAll0 (toDs ts) = true ∧ PyData.depthAll (toDs ts) ≤ n
  | [], n, _ => by simp [toDs, PyData.canLayAll0, PyData.depthAll]
  | t :: ts, n, g => by
    have g : Py.good n t = true ∧ Py.goods n ts = true := by cases n <;> simpa [Py.goods] using g
    have h1 := good_lay g.1
    have h2 := goods_lay g.2
    simp only [toDs, PyData.canLayAll0, PyData.depthAll, Bool.and_eq_true]
    exact ⟨⟨h1.1, h2.1⟩, by omega⟩
end
theorem good_shaped {t : T} {n : Nat} (hn : n ≤ 64) (g : Py.good n t = true) : SeqAt.shaped (toD t) = true := by
  have h := good_lay g
  show ((toD t).canLay0 && decide ((toD t).depth ≤ 64)) = true
  rw [Bool.and_eq_true]
  exact ⟨h.1, decide_eq_true (by omega)⟩
theorem goods_shaped {ts : List T} {n : Nat} (hn : n ≤ 63) (g : Py.goods n ts = true) : SeqAt.shaped (.list (ts.map toD)) = true := by
  have h := goods_lay g
  rw [toDs_map] at h
  show (PyData.canLay0 (.list (ts.map toD)) && decide ((PyData.list (ts.map toD)).depth ≤ 64)) = true
  rw [Bool.and_eq_true]
  simp only [PyData.canLay0, PyData.depth]
  exact ⟨h.1, decide_eq_true (by omega)⟩
theorem str_beq (x y : W) : ((⟨x.toArray⟩ : Str) == ⟨y.toArray⟩) = (x == y) := by
  rw [Bool.eq_iff_iff]
  simp
mutual
theorem eqv_eqT : ∀ {a b : T} {n m : Nat}, Py.good n a = true → Py.good m b = true → PyData.eqv (toD a) (toD b) = Py.eqT a b
  | .scr _, _, n, _, g, _ => by cases n <;> simp [Py.good] at g
  | .dct _ _, _, n, _, g, _ => by cases n <;> simp [Py.good] at g
  | a, .scr _, _, m, _, g => by cases m <;> simp [Py.good] at g
  | a, .dct _ _, _, m, _, g => by cases m <;> simp [Py.good] at g
  | .tup xs, .tup ys, 0, _, g, _ => by simp [Py.good] at g
  | .tup xs, .tup ys, _, 0, _, g => by simp [Py.good] at g
  | .tup xs, .tup ys, n + 1, m + 1, g, g' => by
    simp only [Py.good] at g g'
    simp only [toD, PyData.eqv, Py.eqT]
    exact eqv_eqTs g g'
  | .lst xs, .lst ys, 0, _, g, _ => by simp [Py.good] at g
  | .lst xs, .lst ys, _, 0, _, g => by simp [Py.good] at g
  | .lst xs, .lst ys, n + 1, m + 1, g, g' => by
    simp only [Py.good] at g g'
    simp only [toD, PyData.eqv, Py.eqT]
    exact eqv_eqTs g g'
  | .str x, .str y, _, _, _, _ => by
    simp only [toD, PyData.eqv, Py.eqT]
    exact str_beq x y
  | .non, .non, _, _, _, _ => by simp [toD, PyData.eqv, Py.eqT]
  | .non, .bl _, _, _, _, _ => by simp [toD, PyData.eqv, Py.eqT]
  | .non, .int _, _, _, _, _ => by simp [toD, PyData.eqv, Py.eqT]
  | .non, .str _, _, _, _, _ => by simp [toD, PyData.eqv, Py.eqT]
  | .non, .tup _, _, _, _, _ => by simp [toD, PyData.eqv, Py.eqT]
  | .non, .lst _, _, _, _, _ => by simp [toD, PyData.eqv, Py.eqT]
  | .bl _, .non, _, _, _, _ => by simp [toD, PyData.eqv, Py.eqT]
  | .bl _, .bl _, _, _, _, _ => by simp [toD, PyData.eqv, Py.eqT]
  | .bl _, .int _, _, _, _, _ => by simp [toD, PyData.eqv, Py.eqT]
  | .bl _, .str _, _, _, _, _ => by simp [toD, PyData.eqv, Py.eqT]
  | .bl _, .tup _, _, _, _, _ => by simp [toD, PyData.eqv, Py.eqT]
  | .bl _, .lst _, _, _, _, _ => by simp [toD, PyData.eqv, Py.eqT]
  | .int _, .non, _, _, _, _ => by simp [toD, PyData.eqv, Py.eqT]
  | .int _, .bl _, _, _, _, _ => by simp [toD, PyData.eqv, Py.eqT]
  | .int _, .int _, _, _, _, _ => by simp [toD, PyData.eqv, Py.eqT]
  | .int _, .str _, _, _, _, _ => by simp [toD, PyData.eqv, Py.eqT]
  | .int _, .tup _, _, _, _, _ => by simp [toD, PyData.eqv, Py.eqT]
  | .int _, .lst _, _, _, _, _ => by simp [toD, PyData.eqv, Py.eqT]
  | .str _, .non, _, _, _, _ => by simp [toD, PyData.eqv, Py.eqT]
  | .str _, .bl _, _, _, _, _ => by simp [toD, PyData.eqv, Py.eqT]
  | .str _, .int _, _, _, _, _ => by simp [toD, PyData.eqv, Py.eqT]
  | .str _, .tup _, _, _, _, _ => by simp [toD, PyData.eqv, Py.eqT]
  | .str _, .lst _, _, _, _, _ => by simp [toD, PyData.eqv, Py.eqT]
  | .tup _, .non, _, _, _, _ => by simp [toD, PyData.eqv, Py.eqT]
  | .tup _, .bl _, _, _, _, _ => by simp [toD, PyData.eqv, Py.eqT]
  | .tup _, .int _, _, _, _, _ => by simp [toD, PyData.eqv, Py.eqT]
  | .tup _, .str _, _, _, _, _ => by simp [toD, PyData.eqv, Py.eqT]
  | .tup _, .lst _, _, _, _, _ => by simp [toD, PyData.eqv, Py.eqT]
  | .lst _, .non, _, _, _, _ => by simp [toD, PyData.eqv, Py.eqT]
  | .lst _, .bl _, _, _, _, _ => by simp [toD, PyData.eqv, Py.eqT]
  | .lst _, .int _, _, _, _, _ => by simp [toD, PyData.eqv, Py.eqT]
  | .lst _, .str _, _, _, _, _ => by simp [toD, PyData.eqv, Py.eqT]
  | .lst _, .tup _, _, _, _, _ => by simp [toD, PyData.eqv, Py.eqT]
theorem eqv_eqTs : ∀ {xs ys : List T} {n m : Nat}, Py.goods n xs = true → Py.goods m ys = true → PyData.eqvAll (toDs xs) (toDs ys) = Py.eqTs xs ys
  | [], [], _, _, _, _ => by simp [toDs, PyData.eqvAll, Py.eqTs]
  | [], _ :: _, _, _, _, _ => by simp [toDs, PyData.eqvAll, Py.eqTs]
  | _ :: _, [], _, _, _, _ => by simp [toDs, PyData.eqvAll, Py.eqTs]
  | x :: xs, y :: ys, n, m, g, g' => by
    have g : Py.good n x = true ∧ Py.goods n xs = true := by cases n <;> simpa [Py.goods] using g
    have g' : Py.good m y = true ∧ Py.goods m ys = true := by cases m <;> simpa [Py.goods] using g'
    simp only [toDs, PyData.eqvAll, Py.eqTs]
    rw [eqv_eqT g.1 g'.1, eqv_eqTs g.2 g'.2]
end
end Sd
set_option Elab.async false
set_option linter.all false
set_option autoImplicit false
set_option maxRecDepth 100000
namespace Sd
open PySem PySem.Spec PyProof.Rows L2
open Py (T Sl R Res CRes SRes Ex Stm W)
variable {H H' : Hp} {H0 : B0} {A A' Z : Addr → Prop} {σ σ' : L2.St} {ρ ρ' : PEnv} {X : Cx}
theorem kT_inj {a b : Key} (h : kT a = kT b) : a = b := by
  cases a <;> cases b <;> simp only [kT, T.int.injEq, T.str.injEq, reduceCtorEq] at h
  · rw [h]
  · rw [str_ext h]
theorem eqT_kT (a b : Key) : Py.eqT (kT a) (kT b) = decide (a = b) := by
  cases a with
  | inl i => cases b with
    | inl j =>
      simp only [kT, Py.eqT]
      by_cases e : i = j <;> simp [e]
    | inr y => simp [kT, Py.eqT]
  | inr x => cases b with
    | inl j => simp [kT, Py.eqT]
    | inr y =>
      simp only [kT, Py.eqT]
      by_cases e : x = y
      · simp [e]
      · have n : ¬ x.cps.toList = y.cps.toList := fun z => e (str_ext z)
        rw [decide_eq_false (fun z => e (Sum.inr.inj z))]
        exact beq_eq_false_iff_ne.mpr n
theorem eqTs_kT : ∀ (a b : List Key), Py.eqTs (a.map kT) (b.map kT) = decide (a = b)
  | [], [] => by simp [Py.eqTs]
  | [], _ :: _ => by simp [Py.eqTs]
  | _ :: _, [] => by simp [Py.eqTs]
  | x :: xs, y :: ys => by
    simp only [List.map_cons, Py.eqTs, eqT_kT, eqTs_kT xs ys]
    by_cases e : x = y <;> by_cases f : xs = ys <;> simp [e, f]
theorem eqT_kTs (a b : List Key) : Py.eqT (.tup (a.map kT)) (.tup (b.map kT)) = decide (a = b) := by
  simp only [Py.eqT]
  exact eqTs_kT a b
theorem key_true {K : PySem.W.Frag} {v : V} {t : T} (h : Top K H A v t) (k : Py.keyT true t = true) : ∃ x : Key, v = kV x ∧ t = kT x := by
  cases t <;> simp [Py.keyT] at k
  case int i => exact ⟨.inl i, h.int, rfl⟩
  case str s =>
    obtain ⟨x, rfl, rfl⟩ := h.str
    exact ⟨.inr x, rfl, rfl⟩
theorem keys_of {K : PySem.W.Frag} : ∀ {vs : List V} {ts : List T}, Reps K H A vs ts → (∀ t ∈ ts, (∃ i, t = T.int i) ∨ ∃ s, t = T.str s) → ∃ ks : List Key, vs = ks.map kV ∧ ts = ks.map kT
  | _, _, .nil, _ => ⟨[], rfl, rfl⟩
  | _, _, .cons r s, h => by
    obtain ⟨ks, rfl, rfl⟩ := keys_of s fun t m => h t (List.mem_cons_of_mem _ m)
    rcases h _ List.mem_cons_self with ⟨i, rfl⟩ | ⟨x, rfl⟩
    · cases r
      exact ⟨.inl i :: ks, rfl, rfl⟩
    · obtain ⟨y, rfl, rfl⟩ := r.str_of
      exact ⟨.inr y :: ks, rfl, rfl⟩
theorem key_false {K : PySem.W.Frag} {v : V} {t : T} (h : Top K H A v t) (k : Py.keyT false t = true) : ∃ (x : List Key) (b : Addr), v = .ref b ∧ H b = some (.tup (x.map kV)) ∧ t = .tup (x.map kT) := by
  cases t <;> simp [Py.keyT] at k
  case tup ts =>
    obtain ⟨a, vs, rfl, h1, r⟩ := h.tup
    obtain ⟨ks, rfl, rfl⟩ := keys_of r fun t m => by
      have := k t m
      cases t <;> simp at this
      · exact .inl ⟨_, rfl⟩
      · exact .inr ⟨_, rfl⟩
    exact ⟨ks, a, rfl, h1, rfl⟩
def RelOT (K : PySem.W.Frag) (H : Hp) (A : Addr → Prop) : Option V → Option T → Prop
  | some v, some t => Rep K H A v t
  | none, none => True
  | _, _ => False
theorem RelOT.isSome {K : PySem.W.Frag} {o : Option V} {u : Option T} (r : RelOT K H A o u) : o.isSome = u.isSome := by
  cases o <;> cases u <;> first | rfl | exact r.elim
theorem RelOT.getD {K : PySem.W.Frag} {o : Option V} {u : Option T} {v : V} {t : T} (r : RelOT K H A o u) (d : Rep K H A v t) : Rep K H A (o.getD v) (u.getD t) := by
  cases o <;> cases u
  · exact d
  · exact r.elim
  · exact r.elim
  · exact r
theorem RepK.get {K : PySem.W.Frag} (k : Key) : ∀ {kvs : List (Key × V)} {ts : List (T × T)}, RepK K H A kvs ts → RelOT K H A (valV kvs k) (Py.getK ts (kT k))
  | _, _, .nil => by
    rw [valV_nil]
    exact trivial
  | _, _, .cons (k := j) r s => by
    simp only [Py.getK, eqT_kT]
    by_cases e : j = k
    · rw [valV_pos e, if_pos (decide_eq_true e)]
      exact r
    · rw [valV_neg e, if_neg (by simp [e])]
      exact RepK.get k s
theorem RepT.get {K : PySem.W.Frag} (k : List Key) : ∀ {kvs : List (List Key × V)} {ts : List (T × T)}, RepT K H A kvs ts → RelOT K H A (valV kvs k) (Py.getK ts (.tup (k.map kT)))
  | _, _, .nil => by
    rw [valV_nil]
    exact trivial
  | _, _, .cons (k := j) r s => by
    simp only [Py.getK, eqT_kTs]
    by_cases e : j = k
    · rw [valV_pos e, if_pos (decide_eq_true e)]
      exact r
    · rw [valV_neg e, if_neg (by simp [e])]
      exact RepT.get k s
theorem Top.dget {K : PySem.W.Frag} {v u : V} {tk : Bool} {ts : List (T × T)} {k : T} (h : Top K H A v (.dct tk ts)) (hk : Top K H A' u k) (kk : Py.keyT tk k = true) :
    ∃ a o, v = .ref a ∧ DGet H a u o ∧ RelOT K H A o (Py.getK ts k) := by
  cases tk with
  | true =>
    obtain ⟨a, kvs, rfl, h1, r⟩ := h.dk
    obtain ⟨x, rfl, rfl⟩ := key_true hk kk
    exact ⟨a, _, rfl, DGet.k h1, r.get x⟩
  | false =>
    obtain ⟨a, kvs, rfl, h1, r⟩ := h.dt
    obtain ⟨x, b, rfl, h2, rfl⟩ := key_false hk kk
    exact ⟨a, _, rfl, DGet.t h1 h2, r.get x⟩
theorem putK_cons_same {κ : Type} [DecidableEq κ] (k : κ) (v u : V) (r : List (κ × V)) (h : ∀ p ∈ r, p.1 ≠ k) : L2.putK ((k, u) :: r) k v = (k, v) :: r := by
  have e : (r.map fun kv => if kv.1 = k then (kv.1, v) else kv) = r := by
    conv => rhs; rw [← List.map_id r]
    exact List.map_congr_left fun p hp => if_neg (h p hp)
  unfold L2.putK
  rw [if_pos (by simp), List.map_cons, if_pos rfl, e]
theorem putK_cons_other {κ : Type} [DecidableEq κ] (k j : κ) (v u : V) (r : List (κ × V)) (h : j ≠ k) : L2.putK ((j, u) :: r) k v = (j, u) :: L2.putK r k v := by
  unfold L2.putK
  simp only [List.any_cons, decide_eq_false h, Bool.false_or, List.map_cons, if_neg h]
  split
  · rfl
  · rfl
def CmpOk (X : Cx) (op : CmpOp) (cop : Py.COp) : Prop :=
  ∃ r : R2, OpR X (compareOp op) r ∧ ∀ (H : Hp) (A : Addr → Prop) (x y : V) (tx ty : T) (b : Bool) (Q : VK), Top X.K H A x tx → Top X.K H A y ty → Py.cmpT cop tx ty = some b → Q (.bl b) H → r x y H Q
theorem cmp_eq (hu : X.A.units + 65 < cLine) : CmpOk X .Eq .eq := by
  refine ⟨_, op_eqD (by omega), fun H A x y tx ty b Q hx hy h q => ?_⟩
  obtain ⟨g, rfl⟩ := ite_some h
  rw [Bool.and_eq_true] at g
  exact ⟨toD tx, toD ty, hx.noA.dp g.1, hy.noA.dp g.2, good_shaped (by decide) g.1, good_shaped (by decide) g.2, by rw [eqv_eqT g.1 g.2]; exact q⟩
theorem cmp_ne (hu : X.A.units + 65 < cLine) : CmpOk X .NotEq .ne := by
  refine ⟨_, op_neD (by omega), fun H A x y tx ty b Q hx hy h q => ?_⟩
  obtain ⟨g, rfl⟩ := ite_some h
  rw [Bool.and_eq_true] at g
  exact ⟨toD tx, toD ty, hx.noA.dp g.1, hy.noA.dp g.2, good_shaped (by decide) g.1, good_shaped (by decide) g.2, by rw [eqv_eqT g.1 g.2]; exact q⟩
theorem cmp_lt : CmpOk X .Lt .lt := by
  refine ⟨_, OpR.or op_lt op_lt_str, fun H A x y tx ty b Q hx hy h q => ?_⟩
  cases tx <;> cases ty <;> first | (simp [Py.cmpT] at h; done) | skip
  case int.int i j =>
    cases h
    exact .inl ⟨i, j, hx.int, hy.int, q⟩
  case str.str s s' =>
    cases h
    obtain ⟨u, rfl, rfl⟩ := hx.str
    obtain ⟨w, rfl, rfl⟩ := hy.str
    exact .inr ⟨u, w, rfl, rfl, q⟩
theorem cmp_le : CmpOk X .LtE .le := by
  refine ⟨_, OpR.or op_le op_le_str, fun H A x y tx ty b Q hx hy h q => ?_⟩
  cases tx <;> cases ty <;> first | (simp [Py.cmpT] at h; done) | skip
  case int.int i j =>
    cases h
    exact .inl ⟨i, j, hx.int, hy.int, q⟩
  case str.str s s' =>
    cases h
    obtain ⟨u, rfl, rfl⟩ := hx.str
    obtain ⟨w, rfl, rfl⟩ := hy.str
    exact .inr ⟨u, w, rfl, rfl, q⟩
theorem cmp_gt : CmpOk X .Gt .gt := by
  refine ⟨_, op_gt, fun H A x y tx ty b Q hx hy h q => ?_⟩
  cases tx <;> cases ty <;> first | (simp [Py.cmpT] at h; done) | skip
  case int.int i j =>
    cases h
    exact ⟨i, j, hx.int, hy.int, q⟩
theorem cmp_ge : CmpOk X .GtE .ge := by
  refine ⟨_, op_ge, fun H A x y tx ty b Q hx hy h q => ?_⟩
  cases tx <;> cases ty <;> first | (simp [Py.cmpT] at h; done) | skip
  case int.int i j =>
    cases h
    exact ⟨i, j, hx.int, hy.int, q⟩
theorem flat_rep {K : PySem.W.Frag} {v : V} {t : T} (h : Rep K H A v t) (f : Py.flatT t = true) : flatV v = true := by
  cases h <;> first | rfl | (simp [Py.flatT] at f)
theorem flats_rep {K : PySem.W.Frag} : ∀ {vs : List V} {ts : List T}, Reps K H A vs ts → ts.all Py.flatT = true → vs.all flatV = true
  | _, _, .nil, _ => rfl
  | _, _, .cons r s, f => by
    simp only [List.all_cons, Bool.and_eq_true] at f ⊢
    exact ⟨flat_rep r f.1, flats_rep s f.2⟩
theorem eqV_rep {K : PySem.W.Frag} {v u : V} {t w : T} (h : Rep K H A v t) (g : Rep K H A' u w) (f : Py.flatT t = true) (f' : Py.flatT w = true) : eqV v u = Py.eqT t w := by
  cases h <;> first | (simp [Py.flatT] at f; done) | skip
  all_goals (cases g <;> first | (simp [Py.flatT] at f'; done) | skip)
  all_goals first | rfl | skip
  all_goals (simp only [eqV, Py.eqT])
  rename_i x y
  by_cases e : x = y
  · subst e
    simp
  · have n : ¬ x.cps.toList = y.cps.toList := fun z => e (str_ext z)
    rw [beq_eq_false_iff_ne.mpr e, beq_eq_false_iff_ne.mpr n]
theorem inV_rep {K : PySem.W.Frag} {v : V} {t : T} (h : Rep K H A v t) (f : Py.flatT t = true) : ∀ {vs : List V} {ts : List T}, Reps K H A' vs ts → ts.all Py.flatT = true → inV v vs = ts.any fun z => Py.eqT z t
  | _, _, .nil, _ => rfl
  | _, _, .cons r s, g => by
    simp only [List.all_cons, Bool.and_eq_true] at g
    have ih := inV_rep h f s g.2
    unfold inV at ih ⊢
    simp only [List.any_cons]
    rw [eqV_rep r h g.1 f, ih]
theorem or_din (hu : X.A.units + 1 < cLine) : OpR X (compareOp .In) (fun x y H Q => ∃ a o, y = .ref a ∧ DGet H a x o ∧ Q (.bl o.isSome) H) := by
  intro pins s σ H x y v u Q I rx ry h
  obtain ⟨a, o, rfl, g, q⟩ := h
  cases ry
  exact d_in hu I g rx fun s' I' => ⟨.bl _, H, I', rfl, q⟩
theorem or_dnotin (hu : X.A.units + 1 < cLine) : OpR X (compareOp .NotIn) (fun x y H Q => ∃ a o, y = .ref a ∧ DGet H a x o ∧ Q (.bl (!o.isSome)) H) := by
  intro pins s σ H x y v u Q I rx ry h
  obtain ⟨a, o, rfl, g, q⟩ := h
  cases ry
  exact d_notIn hu I g rx fun s' I' => ⟨.bl _, H, I', rfl, q⟩
theorem any_toD {t : T} {n m : Nat} (g : Py.good n t = true) : ∀ {ts : List T}, Py.goods m ts = true → ((ts.map toD).any fun z => PyData.eqv z (toD t)) = ts.any fun z => Py.eqT z t
  | [], _ => rfl
  | x :: ts, h => by
    have h : Py.good m x = true ∧ Py.goods m ts = true := by cases m <;> simpa [Py.goods] using h
    simp only [List.map_cons, List.any_cons]
    rw [eqv_eqT h.1 g, any_toD g h.2]
theorem found_nil (j : Str) : (!(Builtin.Str.occurrences j ⟨([] : W).toArray⟩ 0 j.length 1).isEmpty) = true := by
  refine (StrLaws.found_iff j _).mpr ⟨0, ?_, ?_⟩
  · show 0 + (0 : Nat) ≤ _
    omega
  · rw [StrLaws.subAt_eq]
    rfl
theorem in_post {K : PySem.W.Frag} {P : Prop} {H : Hp} {A : Addr → Prop} {x y : V} {tx ty : T} {b : Bool} (hx : Top K H A x tx) (hy : Top K H A y ty) (h : Py.inT tx ty = some b)
    (l : ∀ d ds, Dp K H x d → Dp K H y (.list ds) → SeqAt.shaped d = true → SeqAt.shaped (.list ds) = true → (ds.any fun z => PyData.eqv z d) = b → P)
    (t : ∀ p xs, y = .ref p → (SqL K H p xs ∨ SqT K H p xs) → flatV x = true → xs.all flatV = true → inV x xs = b → P)
    (s : ∀ i j : Str, x = .str i → y = .str j → (!(Builtin.Str.occurrences j i 0 j.length 1).isEmpty) = b → P)
    (d : ∀ a o, y = .ref a → DGet H a x o → o.isSome = b → P) : P := by
  cases ty <;> first | (simp [Py.inT] at h; done) | skip
  case str z =>
    obtain ⟨j, rfl, rfl⟩ := hy.str
    cases tx <;> first | (simp [Py.inT] at h; done) | skip
    case str w =>
      obtain ⟨i, rfl, e⟩ := hx.str
      cases w with
      | nil =>
        have h2 : true = b := Option.some.inj h
        refine s i j rfl rfl ?_
        have ei : i = ⟨([] : W).toArray⟩ := str_ext (by simpa using e.symm)
        rw [ei, found_nil]
        exact h2
      | cons c w => cases w with
        | nil =>
          have h2 : decide (c ∈ j.cps.toList) = b := Option.some.inj h
          refine s i j rfl rfl ?_
          have ei : i = ⟨#[c]⟩ := str_ext (by simpa using e.symm)
          rw [ei, StrLaws.found_one]
          exact h2
        | cons c' w => simp [Py.inT] at h
  case tup ts =>
    obtain ⟨g, e⟩ := ite_some h
    rw [Bool.and_eq_true] at g
    obtain ⟨a, vs, rfl, h1, r⟩ := hy.tup
    exact t a vs rfl (.inr (.of h1)) (flat_rep hx.noA g.1) (flats_rep r g.2) ((inV_rep hx.noA g.1 r g.2).trans e)
  case lst ts =>
    obtain ⟨g, e⟩ := ite_some h
    rw [Bool.and_eq_true] at g
    obtain ⟨a, vs, rfl, h1, r⟩ := hy.lst
    refine l (toD tx) (ts.map toD) (hx.noA.dp g.1) (.lst (.of h1) ?_) (good_shaped (by decide) g.1) (goods_shaped (by decide) g.2) ((any_toD g.1 g.2).trans e)
    rw [← toDs_map]
    exact r.noA.dp g.2
  case dct tk kvs =>
    obtain ⟨g, e⟩ := ite_some h
    obtain ⟨a, o, rfl, h1, h2⟩ := hy.dget hx g
    exact d a o rfl h1 (h2.isSome.trans e)
theorem cmp_in (hu : X.A.units + 65 < cLine) : CmpOk X .In .isin := by
  refine ⟨_, OpR.or (op_inD hu) (OpR.or op_in_seq (OpR.or op_in_str (or_din (by omega)))), fun H A x y tx ty b Q hx hy h q => ?_⟩
  refine in_post hx hy h (fun d ds h1 h2 h3 h4 e => .inl ⟨d, ds, h1, h2, h3, h4, by rw [e]; exact q⟩) (fun p xs h1 h2 h3 h4 e => .inr (.inl ⟨p, xs, h1, h2, h3, h4, ?_⟩))
    (fun i j h1 h2 e => .inr (.inr (.inl ⟨i, j, h1, h2, by rw [e]; exact q⟩))) (fun a o h1 h2 e => .inr (.inr (.inr ⟨a, o, h1, h2, by rw [e]; exact q⟩)))
  rw [if_neg (by simp), e]
  exact q
theorem cmp_notin (hu : X.A.units + 65 < cLine) : CmpOk X .NotIn .notin := by
  refine ⟨_, OpR.or (op_notInD hu) (OpR.or op_notIn_seq (OpR.or op_notIn_str (or_dnotin (by omega)))), fun H A x y tx ty b Q hx hy h q => ?_⟩
  obtain ⟨c, hc, rfl⟩ := Option.map_eq_some_iff.mp (show (Py.inT tx ty).map (!·) = some b from h)
  refine in_post hx hy hc (fun d ds h1 h2 h3 h4 e => .inl ⟨d, ds, h1, h2, h3, h4, by rw [e]; exact q⟩) (fun p xs h1 h2 h3 h4 e => .inr (.inl ⟨p, xs, h1, h2, h3, h4, ?_⟩))
    (fun i j h1 h2 e => .inr (.inr (.inl ⟨i, j, h1, h2, by rw [e]; exact q⟩))) (fun a o h1 h2 e => .inr (.inr (.inr ⟨a, o, h1, h2, by rw [e]; exact q⟩)))
  rw [if_pos rfl, e]
  exact q
end Sd
set_option Elab.async false
set_option linter.all false
set_option autoImplicit false
set_option maxRecDepth 100000
namespace Sd
open PySem PySem.Spec PyProof.Rows L2
open Py (T Sl R Res CRes SRes Ex Stm W)
variable {H H' : Hp} {H0 : B0} {A A' Z : Addr → Prop} {σ σ' : L2.St} {ρ ρ' : PEnv} {X : Cx}
theorem reps_empty {K : PySem.W.Frag} {vs : List V} {ts : List T} (r : Reps K H A vs ts) : vs.isEmpty = ts.isEmpty := by cases r <;> rfl
theorem repk_empty {K : PySem.W.Frag} {vs : List (Key × V)} {ts : List (T × T)} (r : RepK K H A vs ts) : vs.isEmpty = ts.isEmpty := by cases r <;> rfl
theorem repk_len {K : PySem.W.Frag} : ∀ {vs : List (Key × V)} {ts : List (T × T)}, RepK K H A vs ts → vs.length = ts.length
  | _, _, .nil => rfl
  | _, _, .cons _ s => by simp [repk_len s]
theorem rept_len {K : PySem.W.Frag} : ∀ {vs : List (List Key × V)} {ts : List (T × T)}, RepT K H A vs ts → vs.length = ts.length
  | _, _, .nil => rfl
  | _, _, .cons _ s => by simp [rept_len s]
theorem top_truth {K : PySem.W.Frag} {v : V} {t : T} {b : Bool} (h : Top K H A v t) (e : Py.truthT t = some b) : TruV K v H b := by
  cases t <;> first | (simp [Py.truthT] at e; done) | skip
  case non =>
    cases e
    rw [h.non]
    exact rfl
  case bl c =>
    cases e
    rw [h.bl]
    exact rfl
  case int i =>
    cases e
    rw [h.int]
    exact rfl
  case str s =>
    obtain ⟨hl, rfl⟩ := ite_some e
    obtain ⟨x, rfl, rfl⟩ := h.str
    refine ⟨cap_le (by rw [str_len]; exact hl), ?_⟩
    rw [str_len]
    cases x.cps.toList with
    | nil => rfl
    | cons a r =>
      simp only [List.isEmpty_cons, Bool.not_false, List.length_cons]
      exact (bne_iff_ne.mpr (by omega)).symm
  case tup ts =>
    cases e
    obtain ⟨a, vs, rfl, h1, r⟩ := h.tup
    exact .inr (.inl ⟨vs, .of h1, by rw [reps_empty r]⟩)
  case lst ts =>
    cases e
    obtain ⟨a, vs, rfl, h1, r⟩ := h.lst
    exact .inl ⟨vs, .of h1, by rw [reps_empty r]⟩
  case dct tk kvs =>
    cases tk
    · simp [Py.truthT] at e
    · cases e
      obtain ⟨a, vs, rfl, h1, r⟩ := h.dk
      exact .inr (.inr ⟨vs, h1, by rw [repk_empty r]⟩)
def CallOk (X : Cx) (f : Value) (m : T → Option R) : Prop :=
  ∃ r, CallR X f r ∧ ∀ (H : Hp) (A : Addr → Prop) (x : V) (t : T) (res : R) (Q : VK), Top X.K H A x t → m t = some res → OpPost X.K H A res Q → r [x] H Q
theorem call_len_ok : CallOk X (.builtin "len") (Py.b1T .len) := by
  refine ⟨_, CallR.or call_len (CallR.or call_lenD call_len_dT), fun H A x t res Q h e q => ?_⟩
  obtain ⟨n, hn, rfl⟩ := Option.map_eq_some_iff.mp (show (Py.lenT t).map (fun (n : Nat) => R.tmp (.int n)) = some res from e)
  have q : Q (.int n) H := q _ H (Ext.refl H) (.int _)
  cases t <;> first | (simp [Py.lenT] at hn; done) | skip
  case str s =>
    obtain ⟨hl, rfl⟩ := ite_some hn
    obtain ⟨x, rfl, rfl⟩ := h.str
    exact .inl ⟨_, _, rfl, ⟨cap_le (by rw [str_len]; exact hl), rfl⟩, by rw [str_len]; exact q⟩
  case scr ns =>
    cases hn
    obtain ⟨a, rfl, h1⟩ := h.scr
    refine .inl ⟨_, ns.length, rfl, .inl ⟨_, h1, by simp⟩, q⟩
  case tup ts =>
    cases hn
    obtain ⟨a, vs, rfl, h1, r⟩ := h.tup
    exact .inl ⟨_, _, rfl, .inr ⟨_, .of h1, r.length.symm⟩, q⟩
  case lst ts =>
    cases hn
    obtain ⟨a, vs, rfl, h1, r⟩ := h.lst
    exact .inl ⟨_, _, rfl, .inl ⟨_, .of h1, r.length.symm⟩, q⟩
  case dct tk kvs =>
    cases hn
    cases tk
    · obtain ⟨a, vs, rfl, h1, r⟩ := h.dt
      exact .inr (.inr ⟨a, vs, rfl, h1, by rw [rept_len r]; exact q⟩)
    · obtain ⟨a, vs, rfl, h1, r⟩ := h.dk
      exact .inr (.inl ⟨a, vs, rfl, h1, by rw [repk_len r]; exact q⟩)
theorem call_tuple_ok : CallOk X (.type "tuple") (Py.b1T .tupo) := by
  refine ⟨_, call_tuple_of, fun H A x t res Q h e q => ?_⟩
  cases t <;> first | (simp [Py.b1T] at e; done) | skip
  case tup ts =>
    cases e
    obtain ⟨a, vs, rfl, h1, r⟩ := h.tup
    exact ⟨a, vs, rfl, .inr ⟨.of h1, q _ H (Ext.refl H) (.tup h1 r)⟩⟩
  case lst ts =>
    cases e
    obtain ⟨a, vs, rfl, h1, r⟩ := h.lst
    exact ⟨a, vs, rfl, .inl ⟨.of h1, fun p hp => q _ _ (Ext.upd hp) (new_tup r hp)⟩⟩
theorem call_list_ok : CallOk X (.type "list") (Py.b1T .lsto) := by
  refine ⟨_, call_list_of, fun H A x t res Q h e q => ?_⟩
  cases t <;> first | (simp [Py.b1T] at e; done) | skip
  case tup ts =>
    cases e
    obtain ⟨a, vs, rfl, h1, r⟩ := h.tup
    exact ⟨a, vs, rfl, .inr (.of h1), fun p hp => q p _ (Ext.upd hp) hp (new_lst r hp)⟩
  case lst ts =>
    cases e
    obtain ⟨a, vs, rfl, h1, r⟩ := h.lst
    exact ⟨a, vs, rfl, .inl (.of h1), fun p hp => q p _ (Ext.upd hp) hp (new_lst r hp)⟩
theorem repk_any {K : PySem.W.Frag} (k : Key) : ∀ {kvs : List (Key × V)} {ts : List (T × T)}, RepK K H A kvs ts → (kvs.any fun kv => decide (kv.1 = k)) = ts.any fun kv => Py.eqT kv.1 (kT k)
  | _, _, .nil => rfl
  | _, _, .cons (k := j) r s => by
    simp only [List.any_cons, eqT_kT]
    rw [repk_any k s]
theorem repk_map {K : PySem.W.Frag} {k : Key} {v : V} {t : T} (h : Rep K H A v t) : ∀ {kvs : List (Key × V)} {ts : List (T × T)}, RepK K H A kvs ts →
    RepK K H A (kvs.map fun kv => if kv.1 = k then (kv.1, v) else kv) (ts.map fun kv => if Py.eqT kv.1 (kT k) then (kv.1, t) else kv)
  | _, _, .nil => .nil
  | _, _, .cons (k := j) r s => by
    simp only [List.map_cons, eqT_kT]
    by_cases e : j = k
    · rw [if_pos e, if_pos (by simp [e])]
      exact .cons h (repk_map h s)
    · rw [if_neg e, if_neg (by simp [e])]
      exact .cons r (repk_map h s)
theorem repk_snoc {K : PySem.W.Frag} {k : Key} {v : V} {t : T} (h : Rep K H A v t) : ∀ {kvs : List (Key × V)} {ts : List (T × T)}, RepK K H A kvs ts → RepK K H A (kvs ++ [(k, v)]) (ts ++ [(kT k, t)])
  | _, _, .nil => .cons h .nil
  | _, _, .cons r s => .cons r (repk_snoc h s)
theorem repk_put {K : PySem.W.Frag} {k : Key} {v : V} {t : T} (h : Rep K H A v t) {kvs : List (Key × V)} {ts : List (T × T)} (r : RepK K H A kvs ts) : RepK K H A (L2.putK kvs k v) (Py.putK ts (kT k) t) := by
  unfold L2.putK Py.putK
  rw [repk_any k r]
  split
  · exact repk_map h r
  · exact repk_snoc h r
theorem rept_any {K : PySem.W.Frag} (k : List Key) : ∀ {kvs : List (List Key × V)} {ts : List (T × T)}, RepT K H A kvs ts → (kvs.any fun kv => decide (kv.1 = k)) = ts.any fun kv => Py.eqT kv.1 (.tup (k.map kT))
  | _, _, .nil => rfl
  | _, _, .cons (k := j) r s => by
    simp only [List.any_cons, eqT_kTs]
    rw [rept_any k s]
theorem rept_map {K : PySem.W.Frag} {k : List Key} {v : V} {t : T} (h : Rep K H A v t) : ∀ {kvs : List (List Key × V)} {ts : List (T × T)}, RepT K H A kvs ts →
    RepT K H A (kvs.map fun kv => if kv.1 = k then (kv.1, v) else kv) (ts.map fun kv => if Py.eqT kv.1 (.tup (k.map kT)) then (kv.1, t) else kv)
  | _, _, .nil => .nil
  | _, _, .cons (k := j) r s => by
    simp only [List.map_cons, eqT_kTs]
    by_cases e : j = k
    · rw [if_pos e, if_pos (by simp [e])]
      exact .cons h (rept_map h s)
    · rw [if_neg e, if_neg (by simp [e])]
      exact .cons r (rept_map h s)
theorem rept_snoc {K : PySem.W.Frag} {k : List Key} {v : V} {t : T} (h : Rep K H A v t) : ∀ {kvs : List (List Key × V)} {ts : List (T × T)}, RepT K H A kvs ts → RepT K H A (kvs ++ [(k, v)]) (ts ++ [(.tup (k.map kT), t)])
  | _, _, .nil => .cons h .nil
  | _, _, .cons r s => .cons r (rept_snoc h s)
theorem rept_put {K : PySem.W.Frag} {k : List Key} {v : V} {t : T} (h : Rep K H A v t) {kvs : List (List Key × V)} {ts : List (T × T)} (r : RepT K H A kvs ts) : RepT K H A (L2.putK kvs k v) (Py.putK ts (.tup (k.map kT)) t) := by
  unfold L2.putK Py.putK
  rw [rept_any k r]
  split
  · exact rept_map h r
  · exact rept_snoc h r
theorem repk_all {K : PySem.W.Frag} : ∀ {more : List (Key × V)} {ms : List (T × T)} {kvs : List (Key × V)} {ts : List (T × T)}, RepK K H A more ms → RepK K H A kvs ts → RepK K H A (L2.mergeK kvs more) (Py.putAll ts ms)
  | _, _, _, _, .nil, s => s
  | _, _, kvs, ts, .cons (k := k) (v := v) (t := t) (r := mr) (ts := tr) r m, s => by
    have ih := repk_all (more := mr) (ms := tr) (kvs := L2.putK kvs k v) (ts := Py.putK ts (kT k) t) m (repk_put (k := k) r s)
    exact ih
theorem pairs_ok {K : PySem.W.Frag} : ∀ {vs : List V} {ts : List T} {prs : List (T × T)}, Reps K H A vs ts → Py.pairsOf ts = some prs →
    ∃ (ps : List Addr) (kvs : List (Key × V)), vs = ps.map V.ref ∧ Paired (fun p kv => SqT K H p [kV kv.1, kv.2]) ps kvs ∧ RepK K H A kvs prs
  | _, _, _, .nil, e => by
    cases e
    exact ⟨[], [], rfl, .nil, .nil⟩
  | _, _, _, .cons r s, e => by
    unfold Py.pairsOf at e
    split at e
    · rename_i h1
      cases h1
    · rename_i k v tr h1
      cases h1
      by_cases g : Py.keyT true k = true
      · rw [if_pos g] at e
        obtain ⟨q, hq, rfl⟩ := Option.map_eq_some_iff.mp e
        obtain ⟨ps, kvs, rfl, hp, hk⟩ := pairs_ok s hq
        cases r with
        | tup h2 r2 =>
          cases r2 with
          | cons rk r3 =>
            cases r3 with
            | cons rv r4 =>
              cases r4
              obtain ⟨x, rfl, rfl⟩ := key_true (.inr rk) g
              exact ⟨_ :: ps, (x, _) :: kvs, rfl, .cons (.of h2) hp, .cons rv hk⟩
      · rw [if_neg g] at e
        cases e
    · cases e
theorem call_dict_ok (hc : X.calm = true) : CallOk X (.type "dict") (Py.b1T .dcto) := by
  refine ⟨_, call_dictP hc, fun H A x t res Q h e q => ?_⟩
  cases t <;> first | (simp [Py.b1T] at e; done) | skip
  case lst ts =>
    obtain ⟨prs, hp, rfl⟩ := Option.map_eq_some_iff.mp (show (Py.pairsOf ts).map (fun ps => R.new (.dct true (Py.putAll [] ps))) = some res from e)
    obtain ⟨a, vs, rfl, h1, r⟩ := h.lst
    obtain ⟨ps, kvs, rfl, hk, hr⟩ := pairs_ok r hp
    refine ⟨a, ps, kvs, rfl, .of h1, hk, fun p hp => q p _ (Ext.upd hp) hp ⟨_, upd_same, ?_⟩⟩
    exact (repk_all hr .nil).keep (Kp.fresh (Ext.upd hp) hp)
theorem call_int_ok : CallOk X (.type "int") (Py.b1T .into) := by
  refine ⟨_, CallR.or call_int1 call_int_str, fun H A x t res Q h e q => ?_⟩
  cases t <;> first | (simp [Py.b1T] at e; done) | skip
  case bl b =>
    cases e
    rw [h.bl]
    exact .inl (.inr ⟨b, rfl, q _ H (Ext.refl H) (.int _)⟩)
  case int i =>
    cases e
    rw [h.int]
    exact .inl (.inl ⟨i, rfl, q _ H (Ext.refl H) (.int _)⟩)
  case str s =>
    obtain ⟨hs, rfl⟩ := ite_some e
    simp only [Bool.and_eq_true, decide_eq_true_eq, Bool.not_eq_true', List.isEmpty_eq_false_iff] at hs
    obtain ⟨⟨h1, h2⟩, h3⟩ := hs
    obtain ⟨x, rfl, rfl⟩ := h.str
    refine .inr ⟨x, (Py.valW x.cps.toList : Nat), rfl, ?_, by rw [str_len]; omega, q _ H (Ext.refl H) (.int _)⟩
    have e := intText_digits (x := x) (fun c hc => by
      have := List.all_eq_true.mp h3 c hc
      simpa using this) h1 (by rw [str_len]; omega)
    rw [e]
    rfl
theorem call_sum_ok (hc : X.calm = true) : CallOk X (.builtin "sum") (Py.b1T .sumo) := by
  refine ⟨_, cr_sum hc, fun H A x t res Q h e q => ?_⟩
  cases t <;> first | (simp [Py.b1T] at e; done) | skip
  case lst ts =>
    obtain ⟨ns, hn, rfl⟩ := Option.map_eq_some_iff.mp (show (Py.intsOf ts).map (fun ns => R.tmp (.int ns.sum)) = some res from e)
    obtain ⟨a, vs, rfl, h1, r⟩ := h.lst
    have hv : ∀ {vs : List V} {ts : List T} {ns : List Int}, Reps X.K H A vs ts → Py.intsOf ts = some ns → vs = ns.map V.int := by
      intro vs ts
      induction ts generalizing vs with
      | nil =>
        intro ns r e
        cases r
        cases e
        rfl
      | cons t ts ih =>
        intro ns r e
        cases r with
        | cons r1 r2 =>
          cases t <;> first | (simp [Py.intsOf] at e; done) | skip
          obtain ⟨ms, hm, rfl⟩ := Option.map_eq_some_iff.mp e
          cases r1
          rw [ih r2 hm]
          rfl
    have e2 := hv r hn
    subst e2
    exact ⟨a, ns, rfl, .of h1, q _ H (Ext.refl H) (.int _)⟩
theorem ix_dict (hu : X.A.units + 1 < cLine) : IxR X (fun x y H Q => ∃ a v, x = .ref a ∧ DGet H a y (some v) ∧ Q v H) := by
  intro value slice pins s σ H x y v u Q I rx ry h hs
  obtain ⟨a, z, rfl, g, q⟩ := h
  cases rx
  exact tail_any (dict_typeIs I g) slot_dict_getitem.lookup (d_getItem hu I g ry fun w' s' I' r => ⟨z, H, I', r, q⟩) hs
theorem ixN_eq : Py.ixN = L2.ixN := rfl
theorem atI_eq {α : Type} (xs : List α) (i : Int) : Py.atI xs i = L2.atI xs i := rfl
theorem reps_at {K : PySem.W.Frag} {vs : List V} {ts : List T} {i : Int} {t : T} (r : Reps K H A vs ts) (e : Py.atI ts i = some t) : ∃ v, L2.atI vs i = some v ∧ Rep K H A v t := by
  unfold Py.atI at e
  obtain ⟨j, h1, h2⟩ := Option.bind_eq_some_iff.mp e
  obtain ⟨v, h3, h4⟩ := r.get h2
  refine ⟨v, ?_, h4⟩
  unfold L2.atI
  rw [r.length]
  exact Option.bind_eq_some_iff.mpr ⟨j, h1, h3⟩
def IxOk (X : Cx) : Prop := ∃ r, IxR X r ∧ ∀ (H : Hp) (A : Addr → Prop) (x y : V) (t k u : T) (Q : VK), Top X.K H A x t → Top X.K H A y k → Py.ixT t k = some u → (∀ v, Rep X.K H A v u → Q v H) → r x y H Q
theorem ix_ok (hu : X.A.units + 1 < cLine) : IxOk X := by
  refine ⟨_, IxR.or ix_list (IxR.or ix_tup (IxR.or ix_str (ix_dict hu))), fun H A x y t k u Q hx hy h q => ?_⟩
  cases t <;> first | (simp [Py.ixT] at h; done) | skip
  case str s =>
    cases k <;> first | (simp [Py.ixT] at h; done) | skip
    case int i =>
      obtain ⟨z, rfl, rfl⟩ := hx.str
      have h2 : (if z.cps.toList.length ≤ 1000000 then (Py.atI z.cps.toList i).map fun c => T.str [c] else none) = some u := h
      by_cases hl : z.cps.toList.length ≤ 1000000
      · rw [if_pos hl] at h2
        obtain ⟨c, hc, rfl⟩ := Option.map_eq_some_iff.mp h2
        exact .inr (.inr (.inl ⟨z, i, c, rfl, hy.int, cap_le (by rw [str_len]; exact hl), hc, q _ (rep_str [c])⟩))
      · rw [if_neg hl] at h2
        cases h2
  case scr ns =>
    cases k <;> first | (simp [Py.ixT] at h; done) | skip
    case int i =>
      obtain ⟨n, hn, rfl⟩ := Option.map_eq_some_iff.mp (show (Py.atI ns i).map T.int = some u from h)
      obtain ⟨a, rfl, h1⟩ := hx.scr
      refine .inl ⟨a, _, i, .int n, rfl, hy.int, h1, ?_, q _ (.int n)⟩
      unfold Py.atI at hn
      unfold L2.atI
      rw [List.length_map]
      obtain ⟨j, e1, e2⟩ := Option.bind_eq_some_iff.mp hn
      exact Option.bind_eq_some_iff.mpr ⟨j, e1, by rw [List.getElem?_map, e2]; rfl⟩
  case tup ts =>
    cases k <;> first | (simp [Py.ixT] at h; done) | skip
    case int i =>
      obtain ⟨a, vs, rfl, h1, r⟩ := hx.tup
      obtain ⟨v, e1, e2⟩ := reps_at r h
      exact .inr (.inl ⟨a, vs, i, v, rfl, hy.int, .of h1, e1, q v e2⟩)
  case lst ts =>
    cases k <;> first | (simp [Py.ixT] at h; done) | skip
    case int i =>
      obtain ⟨a, vs, rfl, h1, r⟩ := hx.lst
      obtain ⟨v, e1, e2⟩ := reps_at r h
      exact .inl ⟨a, vs, i, v, rfl, hy.int, .of h1, e1, q v e2⟩
  case dct tk kvs =>
    have h2 : (if Py.keyT tk k = true then Py.getK kvs k else none) = some u := by
      have h3 := h
      simp only [Py.ixT] at h3
      exact h3
    by_cases g : Py.keyT tk k = true
    · rw [if_pos g] at h2
      obtain ⟨a, o, rfl, h1, r⟩ := hx.dget hy g
      rw [h2] at r
      cases o with
      | none => exact r.elim
      | some v => exact .inr (.inr (.inr ⟨a, v, rfl, h1, q v r⟩))
    · rw [if_neg g] at h2
      cases h2
theorem sIx_eq : Py.sIx = HT.sIx := by
  funext n d o
  cases o <;> rfl
theorem cut_eq {α : Type} (xs : List V) (lo hi : Option Int) : L2.cutV xs lo hi = Py.cut xs lo hi := by
  unfold L2.cutV Py.cut
  rw [sIx_eq]
theorem reps_cut {K : PySem.W.Frag} {vs : List V} {ts : List T} (r : Reps K H A vs ts) (lo hi : Option Int) : Reps K H A (L2.cutV vs lo hi) (Py.cut ts lo hi) := by
  unfold L2.cutV Py.cut
  rw [sIx_eq, r.length]
  exact (r.drop _).take _
theorem cut_whole {α : Type} (xs : List α) (lo hi : Option Int) (h : HT.sIx xs.length 0 lo = 0 ∧ HT.sIx xs.length xs.length hi = xs.length) : Py.cut xs lo hi = xs := by
  unfold Py.cut
  rw [sIx_eq, h.1, h.2]
  simp
def SlcOk (X : Cx) : Prop := ∃ r, SlR X r ∧ ∀ (H : Hp) (A : Addr → Prop) (x : V) (t : T) (lo hi : Option Int) (res : R) (Q : VK), Top X.K H A x t → Py.slcT t lo hi = some res → OpPost X.K H A res Q → r x lo hi H Q
theorem slc_ok : SlcOk X := by
  refine ⟨_, SlR.or sl_list (SlR.or sl_tupA sl_str), fun H A x t lo hi res Q hx h q => ?_⟩
  cases t <;> first | (simp [Py.slcT] at h; done) | skip
  case str s =>
    obtain ⟨z, rfl, rfl⟩ := hx.str
    obtain ⟨hl, rfl⟩ := ite_some h
    refine .inr (.inr ⟨z, rfl, cap_le (by rw [str_len]; exact hl), q _ H (Ext.refl H) ?_⟩)
    have e : (cutS z lo hi).cps.toList = Py.cut z.cps.toList lo hi := by
      unfold cutS Py.cut
      rw [sIx_eq, str_len]
    rw [← e]
    exact .str _
  case tup ts =>
    cases h
    obtain ⟨a, vs, rfl, h1, r⟩ := hx.tup
    refine .inr (.inl ⟨a, vs, rfl, .of h1, fun e => q _ H (Ext.refl H) ?_, fun _ p hp => q _ _ (Ext.upd hp) (new_tup (reps_cut r lo hi) hp)⟩)
    rw [cut_whole ts lo hi (by rw [← r.length]; exact e)]
    exact .tup h1 r
  case lst ts =>
    cases h
    obtain ⟨a, vs, rfl, h1, r⟩ := hx.lst
    exact .inl ⟨a, vs, rfl, .of h1, fun p hp => q p _ (Ext.upd hp) hp (new_lst (reps_cut r lo hi) hp)⟩
def tyName : Py.Ty → String
  | .int => "int" | .str => "str" | .tuple => "tuple" | .list => "list" | .bool => "bool"
theorem isi_ok {K : PySem.W.Frag} {k : Py.Ty} {v : V} {t : T} {b : Bool} (h : Top K H A v t) (e : Py.isiT k t = some b) : ∃ ty, TyX K H v (.type ty) ∧ PySem.W.kitOne K (.type ty) (.type (tyName k)) = some b := by
  have go : ∀ (ty : String), TyX K H v (.type ty) → kitB ty (tyName k) = some b → ∃ ty, TyX K H v (.type ty) ∧ PySem.W.kitOne K (.type ty) (.type (tyName k)) = some b := fun ty h1 h2 => ⟨ty, h1, kit_ty h2⟩
  cases t with
  | non =>
    have e2 := h.non
    subst e2
    refine go "NoneType" (.base .non) ?_
    cases k <;> (cases e; decide +kernel)
  | bl c =>
    have e2 := h.bl
    subst e2
    refine go "bool" (.base (.bl c)) ?_
    cases k <;> (cases e; decide +kernel)
  | int i =>
    have e2 := h.int
    subst e2
    refine go "int" (.base (.int i)) ?_
    cases k <;> (cases e; decide +kernel)
  | str s =>
    obtain ⟨x, rfl, rfl⟩ := h.str
    refine go "str" (.base (.str x)) ?_
    cases k <;> (cases e; decide +kernel)
  | scr ns => cases k <;> (simp [Py.isiT] at e)
  | tup ts =>
    obtain ⟨a, vs, rfl, h1, r⟩ := h.tup
    refine go "tuple" (.base (.tup h1)) ?_
    cases k <;> (cases e; decide +kernel)
  | lst ts =>
    obtain ⟨a, vs, rfl, h1, r⟩ := h.lst
    refine go "list" (.base (.lst h1)) ?_
    cases k <;> (cases e; decide +kernel)
  | dct tk kvs =>
    cases tk
    · obtain ⟨a, vs, rfl, h1, r⟩ := h.dt
      refine go "dict" (.base (.dT h1)) ?_
      cases k <;> (cases e; decide +kernel)
    · obtain ⟨a, vs, rfl, h1, r⟩ := h.dk
      refine go "dict" (.base (.dK h1)) ?_
      cases k <;> (cases e; decide +kernel)
end Sd
set_option Elab.async false
set_option linter.all false
set_option autoImplicit false
set_option maxRecDepth 100000
namespace Sd
open PySem PySem.Spec PyProof.Rows L2
open Py (T Sl R Res CRes SRes Ex Stm W)
variable {H H' : Hp} {H0 : B0} {A A' Z : Addr → Prop} {σ σ' : L2.St} {ρ ρ' : PEnv} {X : Cx} {K : PySem.W.Frag} {Wf : XW} {α β : Type}
def Sim (K : PySem.W.Frag) (H0 : B0) (Wf : XW) (t : TE) (m : PEnv → Res (R × PEnv)) : Prop :=
  ∀ (σ : L2.St) (H : Hp) (Q : VK) (ρ : PEnv) (Z : Addr → Prop), SR K H0 Z σ H ρ → PostE K H0 Wf Z σ H ρ (m ρ) Q → t σ H Q
def SimT (K : PySem.W.Frag) (H0 : B0) (Wf : XW) (t : TT) (m : PEnv → Res (Bool × PEnv)) : Prop :=
  ∀ (σ : L2.St) (H : Hp) (Q : Bool → Hp → Prop) (ρ : PEnv) (Z : Addr → Prop), SR K H0 Z σ H ρ → PostB K H0 Wf Z σ H ρ (m ρ) Q → t σ H Q
def PostL (K : PySem.W.Frag) (H0 : B0) (Wf : XW) (Z : Addr → Prop) (σ : L2.St) (H : Hp) (ρ : PEnv) (res : Res (List T × PEnv)) (Q : List V → Hp → Prop) : Prop :=
  Post K H0 Wf Z σ H ρ (fun H' ρ' vs ts => Reps K H' (Av Z σ ρ') vs ts) res Q
def RVDs (K : PySem.W.Frag) (Z : Addr → Prop) (σ : L2.St) (H : Hp) (ρ : PEnv) (vs : List V) (rs : List R) : Prop := Paired (fun v r => RVD K Z σ H ρ v r) vs rs
def PostR (K : PySem.W.Frag) (H0 : B0) (Wf : XW) (Z : Addr → Prop) (σ : L2.St) (H : Hp) (ρ : PEnv) (res : Res (List R × PEnv)) (Q : List V → Hp → Prop) : Prop :=
  Post K H0 Wf Z σ H ρ (fun H' ρ' vs rs => RVDs K Z σ H' ρ' vs rs) res Q
def SimL (K : PySem.W.Frag) (H0 : B0) (Wf : XW) (t : TA) (m : PEnv → Res (List T × PEnv)) : Prop :=
  ∀ (σ : L2.St) (H : Hp) (Q : List V → Hp → Prop) (ρ : PEnv) (Z : Addr → Prop), SR K H0 Z σ H ρ → PostL K H0 Wf Z σ H ρ (m ρ) Q → t σ H Q
def SimR (K : PySem.W.Frag) (H0 : B0) (Wf : XW) (t : TA) (m : PEnv → Res (List R × PEnv)) : Prop :=
  ∀ (σ : L2.St) (H : Hp) (Q : List V → Hp → Prop) (ρ : PEnv) (Z : Addr → Prop), SR K H0 Z σ H ρ → PostR K H0 Wf Z σ H ρ (m ρ) Q → t σ H Q
def SE (X : Cx) (H0 : B0) (Wf : XW) (e : Expr) (m : PEnv → Res (R × PEnv)) : Prop := ∃ t, PE X e t ∧ Sim X.K H0 Wf t m
def STst (X : Cx) (H0 : B0) (Wf : XW) (e : Expr) (m : PEnv → Res (Bool × PEnv)) : Prop := ∃ t, PT X e t ∧ SimT X.K H0 Wf t m
def SL (X : Cx) (H0 : B0) (Wf : XW) (es : List Expr) (m : PEnv → Res (List T × PEnv)) : Prop := ∃ t, PA X es t ∧ SimL X.K H0 Wf t m
def SRs (X : Cx) (H0 : B0) (Wf : XW) (es : List Expr) (m : PEnv → Res (List R × PEnv)) : Prop := ∃ t, PA X es t ∧ SimR X.K H0 Wf t m

theorem one_op {ta : TE} {ma : PEnv → Res (R × PEnv)} (ha : Sim K H0 Wf ta ma) (s : SR K H0 Z σ H ρ) {Rel : Hp → PEnv → β → α → Prop} {g : R → PEnv → Res (α × PEnv)} {Q : β → Hp → Prop}
    (h : Post K H0 Wf Z σ H ρ Rel (Py.bnd (ma ρ) g) Q) {R1 : V → Hp → Prop}
    (n : ∀ (r : R) (ρ' : PEnv) (x : V) (H' : Hp), SR K H0 Z σ H' ρ' → RV K H0 Z σ H' ρ' x r → Post K H0 Wf Z σ H' ρ' Rel (g r ρ') Q → R1 x H') : ta σ H R1 :=
  ha σ H R1 ρ Z s (post_bnd (RelX := fun H' ρ' v r => RV K H0 Z σ H' ρ' v r) h fun r ρ1 v H1 s1 k1 rv q => n r ρ1 v H1 s1 rv q)
theorem two_op {ta tb : TE} {ma mb : PEnv → Res (R × PEnv)} (ha : Sim K H0 Wf ta ma) (hb : Sim K H0 Wf tb mb) (s : SR K H0 Z σ H ρ) {Rel : Hp → PEnv → β → α → Prop} {g : R → R → PEnv → Res (α × PEnv)} {Q : β → Hp → Prop}
    (h : Post K H0 Wf Z σ H ρ Rel (Py.bnd (ma ρ) fun ra ρ => Py.bnd (mb ρ) fun rb ρ => g ra rb ρ) Q) {R2' : V → V → Hp → Prop}
    (n : ∀ (ra rb : R) (ρ' : PEnv) (x y : V) (H' : Hp), SR K H0 Z σ H' ρ' → RVD K Z σ H' ρ' x ra → RVD K Z σ H' ρ' y rb → Post K H0 Wf Z σ H' ρ' Rel (g ra rb ρ') Q → R2' x y H') :
    ta σ H fun x H1 => tb σ H1 fun y H2 => R2' x y H2 := by
  refine ha σ H _ ρ Z s (post_bnd (RelX := fun H' ρ' v r => RV K H0 Z σ H' ρ' v r) h fun ra ρ1 x H1 s1 k1 rv q => ?_)
  exact hb σ H1 _ ρ1 Z s1 (post_bnd (RelX := fun H' ρ' v r => RV K H0 Z σ H' ρ' v r) q fun rb ρ2 y H2 s2 k2 rw q2 => n ra rb ρ2 x y H2 s2 (rv.d.keep k2) rw.d q2)
theorem pe_imp {e : Expr} {t t' : TE} (h : PE X e t) (i : ∀ σ H Q, t' σ H Q → t σ H Q) : PE X e t' := ⟨fun pins s σ H Q I q => h.run pins s σ H Q I (i σ H Q q)⟩

theorem se_loc {C : List T} {call : Nat → List T → CRes} {i : Nat} {x : Str} {pos : Pos} (hN : X.N[i]? = some x) (hv : Vis X.env.scope x) (hd : (x == ("__debug__" : Str)) = false) (hcd : (x == ("__classdict__" : Str)) = false) :
    SE X H0 Wf (.Name x pos) (Py.go C call (.loc i)).1 := by
  refine ⟨_, pe_var hN hv hd hcd, fun σ H Q ρ Z s h => ?_⟩
  simp only [Py.go, Py.vt] at h
  split at h
  · rename_i t e
    obtain ⟨v, q1, q2⟩ := s.val i t e
    exact ⟨v, q1, h v H s Kp.same q2⟩
  · rename_i t e
    obtain ⟨a, q1, _⟩ := s.own i t e
    exact ⟨_, q1, h _ H s Kp.same q1⟩
  · exact h.elim
theorem sim_const {v : V} {t : T} {m : PEnv → Res (R × PEnv)} (r : ∀ H A, Rep K H A v t) (e : ∀ ρ, m ρ = .ok (.tmp t, ρ)) : Sim K H0 Wf (tC v) m := fun σ H Q ρ Z s h => by
  rw [e] at h
  exact h v H s Kp.same (r H _)
theorem sim_truth {e : Expr} {ta : TE} {m : PEnv → Res (R × PEnv)} (h : Sim X.K H0 Wf ta m) : SimT X.K H0 Wf (fun σ H Q => ta σ H fun x H' => ∃ k, TruV X.K x H' k ∧ Q k H') (Py.tru m) := fun σ H Q ρ Z s p => by
  refine one_op h s p fun r ρ' x H' s' rv q => ?_
  obtain ⟨t, e1, q⟩ := post_lift q
  obtain ⟨b, e2, q⟩ := post_lift q
  exact ⟨b, top_truth (rv.d.top s' e1) e2, q b H' s' Kp.same rfl⟩
theorem st_truth {e : Expr} {m : PEnv → Res (R × PEnv)} (h : SE X H0 Wf e m) (he : ∀ whole, isTrue e X.env whole = (do let v ← whole; standAt e.pos; holding [v] (truthy v))) : STst X H0 Wf e (Py.tru m) := by
  obtain ⟨t, p, q⟩ := h
  exact ⟨_, pt_truth p he, sim_truth (e := e) q⟩
theorem bin_all (op : Py.BOp) : ∃ o : Operator, ∀ X : Cx, BinOk X o op := by
  cases op
  · exact ⟨_, fun _ => bin_add⟩
  · exact ⟨_, fun _ => bin_sub⟩
  · exact ⟨_, fun _ => bin_mul⟩
  · exact ⟨_, fun _ => bin_fdiv⟩
  · exact ⟨_, fun _ => bin_mod⟩
  · exact ⟨_, fun _ => bin_pow⟩
def opOf : Py.BOp → Operator
  | .add => .Add | .sub => .Sub | .mul => .Mult | .fdiv => .FloorDiv | .mod => .Mod | .pow => .Pow
theorem bin_ok (op : Py.BOp) : BinOk X (opOf op) op := by
  cases op
  · exact bin_add
  · exact bin_sub
  · exact bin_mul
  · exact bin_fdiv
  · exact bin_mod
  · exact bin_pow
def copOf : Py.COp → CmpOp
  | .eq => .Eq | .ne => .NotEq | .lt => .Lt | .le => .LtE | .gt => .Gt | .ge => .GtE | .isin => .In | .notin => .NotIn
theorem cmp_ok (hu : X.A.units + 65 < cLine) (op : Py.COp) : CmpOk X (copOf op) op := by
  cases op
  · exact cmp_eq hu
  · exact cmp_ne hu
  · exact cmp_lt
  · exact cmp_le
  · exact cmp_gt
  · exact cmp_ge
  · exact cmp_in hu
  · exact cmp_notin hu
variable {C : List T} {call : Nat → List T → CRes} {a b c : Expr} {ea eb ec : Ex} {pos : Pos}
theorem se_bin {op : Py.BOp} (ha : SE X H0 Wf a (Py.go C call ea).1) (hb : SE X H0 Wf b (Py.go C call eb).1) : SE X H0 Wf (.BinOp a (opOf op) b pos) (Py.go C call (.bin op ea eb)).1 := by
  obtain ⟨ta, pa, sa⟩ := ha
  obtain ⟨tb, pb, sb⟩ := hb
  obtain ⟨r, ro, rok⟩ := bin_ok (X := X) op
  refine ⟨_, pe_op ro pa pb, fun σ H Q ρ Z s h => ?_⟩
  simp only [Py.go, Py.vt] at h
  refine two_op sa sb s h fun ra rb ρ' x y H' s' rx ry q => ?_
  obtain ⟨tx, e1, q⟩ := post_lift q
  obtain ⟨ty, e2, q⟩ := post_lift q
  obtain ⟨res, e3, q⟩ := post_lift q
  exact rok H' _ x y tx ty res Q (rx.top s' e1) (ry.top s' e2) e3 (op_post s' q (bin_new e3))
theorem sim_cmp {r : R2} {op : Py.COp} {ta tb : TE} {ma mb : PEnv → Res (R × PEnv)}
    (rok : ∀ (H : Hp) (A : Addr → Prop) (x y : V) (tx ty : T) (b : Bool) (Q : VK), Top K H A x tx → Top K H A y ty → Py.cmpT op tx ty = some b → Q (.bl b) H → r x y H Q)
    (sa : Sim K H0 Wf ta ma) (sb : Sim K H0 Wf tb mb) : Sim K H0 Wf (tOp r ta tb) (fun ρ => Py.bnd (ma ρ) fun ra ρ => Py.bnd (mb ρ) fun rb ρ => Py.lift (Py.rd ra ρ) fun x => Py.lift (Py.rd rb ρ) fun y => Py.lift (Py.cmpT op x y) fun k => .ok (.tmp (.bl k), ρ)) := fun σ H Q ρ Z s h => by
  refine two_op sa sb s h fun ra rb ρ' x y H' s' rx ry q => ?_
  obtain ⟨tx, e1, q⟩ := post_lift q
  obtain ⟨ty, e2, q⟩ := post_lift q
  obtain ⟨k, e3, q⟩ := post_lift q
  exact rok H' _ x y tx ty k Q (rx.top s' e1) (ry.top s' e2) e3 (q _ H' s' Kp.same (.bl k))
theorem se_cmp {op : Py.COp} (hu : X.A.units + 65 < cLine) (ha : SE X H0 Wf a (Py.go C call ea).1) (hb : SE X H0 Wf b (Py.go C call eb).1) (hm : behindInMarks (copOf op) b = false) :
    SE X H0 Wf (.Compare a [copOf op] [b] pos) (Py.go C call (.cmp op ea eb)).1 := by
  obtain ⟨ta, pa, sa⟩ := ha
  obtain ⟨tb, pb, sb⟩ := hb
  obtain ⟨r, ro, rok⟩ := cmp_ok hu op
  exact ⟨_, pe_cmpR ro pa pb hm, sim_cmp rok sa sb⟩
theorem sim_test {ta : TE} {m : PEnv → Res (R × PEnv)} (h : Sim K H0 Wf ta m) (hb : ∀ ρ r ρ', m ρ = .ok (r, ρ') → ∃ k, r = .tmp (.bl k)) : SimT K H0 Wf (tTest ta) (Py.tru m) := fun σ H Q ρ Z s p => by
  refine h σ H _ ρ Z s ?_
  unfold PostB Py.tru at p
  generalize e : m ρ = mr at p
  cases mr with
  | ok q =>
    obtain ⟨r, ρ'⟩ := q
    obtain ⟨k, rfl⟩ := hb ρ r ρ' e
    intro v H' s' kp rv
    have e2 : v = .bl k := by
      cases rv
      rfl
    exact ⟨k, e2, p k H' s' kp rfl⟩
  | exc c ρ' => exact p
  | stuck => exact p.elim
theorem ok_lift {γ δ : Type} {o : Option γ} {f : γ → Res δ} {p : δ} (h : Py.lift o f = .ok p) : ∃ a, o = some a ∧ f a = .ok p := by
  cases o with
  | none => cases h
  | some a => exact ⟨a, rfl, h⟩
theorem ok_bnd {γ δ : Type} {x : Res (γ × PEnv)} {f : γ → PEnv → Res δ} {p : δ} (h : Py.bnd x f = .ok p) : ∃ a ρ, x = .ok (a, ρ) ∧ f a ρ = .ok p := by
  cases x with
  | ok q => exact ⟨q.1, q.2, rfl, h⟩
  | exc c ρ => cases h
  | stuck => cases h
theorem st_cmp {op : Py.COp} (hu : X.A.units + 65 < cLine) (ha : SE X H0 Wf a (Py.go C call ea).1) (hb : SE X H0 Wf b (Py.go C call eb).1) (hm : behindInMarks (copOf op) b = false) :
    STst X H0 Wf (.Compare a [copOf op] [b] pos) (Py.go C call (.cmp op ea eb)).2 := by
  obtain ⟨ta, pa, sa⟩ := ha
  obtain ⟨tb, pb, sb⟩ := hb
  obtain ⟨r, ro, rok⟩ := cmp_ok hu op
  refine ⟨_, pt_cmpR ro pa pb hm, sim_test (sim_cmp rok sa sb) fun ρ r ρ' e => ?_⟩
  obtain ⟨_, _, _, e⟩ := ok_bnd e
  obtain ⟨_, _, _, e⟩ := ok_bnd e
  obtain ⟨_, _, e⟩ := ok_lift e
  obtain ⟨_, _, e⟩ := ok_lift e
  obtain ⟨k, _, e⟩ := ok_lift e
  cases e
  exact ⟨k, rfl⟩
theorem chain_sim {r r' : R2} {op op' : Py.COp} {ta tb tc : TE} {ma mb mc : PEnv → Res (R × PEnv)}
    (rok : ∀ (H : Hp) (A : Addr → Prop) (x y : V) (tx ty : T) (b : Bool) (Q : VK), Top K H A x tx → Top K H A y ty → Py.cmpT op tx ty = some b → Q (.bl b) H → r x y H Q)
    (rok' : ∀ (H : Hp) (A : Addr → Prop) (x y : V) (tx ty : T) (b : Bool) (Q : VK), Top K H A x tx → Top K H A y ty → Py.cmpT op' tx ty = some b → Q (.bl b) H → r' x y H Q)
    (sa : Sim K H0 Wf ta ma) (sb : Sim K H0 Wf tb mb) (sc : Sim K H0 Wf tc mc) : Sim K H0 Wf (tChain r r' ta tb tc) (fun ρ => Py.bnd (ma ρ) fun ra ρ => Py.bnd (mb ρ) fun rb ρ => Py.lift (Py.rd ra ρ) fun x => Py.lift (Py.rd rb ρ) fun y => Py.lift (Py.cmpT op x y) fun k =>
      if k then (Py.bnd (mc ρ) fun rc ρ => Py.lift (Py.rd rb ρ) fun y => Py.lift (Py.rd rc ρ) fun z => Py.lift (Py.cmpT op' y z) fun k => .ok (.tmp (.bl k), ρ)) else .ok (.tmp (.bl false), ρ)) := fun σ H Q ρ Z s h => by
  refine two_op sa sb s h fun ra rb ρ' x y H' s' rx ry q => ?_
  obtain ⟨tx, e1, q⟩ := post_lift q
  obtain ⟨ty, e2, q⟩ := post_lift q
  obtain ⟨k, e3, q⟩ := post_lift q
  refine rok H' _ x y tx ty k _ (rx.top s' e1) (ry.top s' e2) e3 ⟨k, rfl, ?_⟩
  cases k with
  | false =>
    rw [if_neg Bool.false_ne_true] at q ⊢
    exact q _ H' s' Kp.same (.bl false)
  | true =>
    rw [if_pos rfl] at q ⊢
    refine sc σ H' _ ρ' Z s' (post_bnd (RelX := fun H' ρ' v r => RV K H0 Z σ H' ρ' v r) q fun rc ρ2 z H2 s2 k2 rz q2 => ?_)
    obtain ⟨ty', f1, q2⟩ := post_lift q2
    obtain ⟨tz, f2, q2⟩ := post_lift q2
    obtain ⟨k', f3, q2⟩ := post_lift q2
    exact rok' H2 _ y z ty' tz k' Q ((ry.keep k2).top s2 f1) (rz.d.top s2 f2) f3 (q2 _ H2 s2 Kp.same (.bl k'))
theorem se_chn {op op' : Py.COp} (hu : X.A.units + 65 < cLine) (ha : SE X H0 Wf a (Py.go C call ea).1) (hb : SE X H0 Wf b (Py.go C call eb).1) (hc : SE X H0 Wf c (Py.go C call ec).1) (hm : lastMarks [copOf op, copOf op'] [b, c] = false) :
    SE X H0 Wf (.Compare a [copOf op, copOf op'] [b, c] pos) (Py.go C call (.chn op op' ea eb ec)).1 := by
  obtain ⟨ta, pa, sa⟩ := ha
  obtain ⟨tb, pb, sb⟩ := hb
  obtain ⟨tc, pc, sc⟩ := hc
  obtain ⟨r, ro, rok⟩ := cmp_ok hu op
  obtain ⟨r', ro', rok'⟩ := cmp_ok hu op'
  exact ⟨_, pe_chain ro ro' pa pb pc hm, chain_sim rok rok' sa sb sc⟩
theorem st_chn {op op' : Py.COp} (hu : X.A.units + 65 < cLine) (ha : SE X H0 Wf a (Py.go C call ea).1) (hb : SE X H0 Wf b (Py.go C call eb).1) (hc : SE X H0 Wf c (Py.go C call ec).1) (hm : lastMarks [copOf op, copOf op'] [b, c] = false) :
    STst X H0 Wf (.Compare a [copOf op, copOf op'] [b, c] pos) (Py.go C call (.chn op op' ea eb ec)).2 := by
  obtain ⟨ta, pa, sa⟩ := ha
  obtain ⟨tb, pb, sb⟩ := hb
  obtain ⟨tc, pc, sc⟩ := hc
  obtain ⟨r, ro, rok⟩ := cmp_ok hu op
  obtain ⟨r', ro', rok'⟩ := cmp_ok hu op'
  refine ⟨_, pt_chain ro ro' pa pb pc hm, sim_test (chain_sim rok rok' sa sb sc) fun ρ r ρ' e => ?_⟩
  obtain ⟨_, _, _, e⟩ := ok_bnd e
  obtain ⟨_, _, _, e⟩ := ok_bnd e
  obtain ⟨_, _, e⟩ := ok_lift e
  obtain ⟨_, _, e⟩ := ok_lift e
  obtain ⟨k, _, e⟩ := ok_lift e
  cases k with
  | false =>
    rw [if_neg Bool.false_ne_true] at e
    cases e
    exact ⟨_, rfl⟩
  | true =>
    rw [if_pos rfl] at e
    obtain ⟨_, _, _, e⟩ := ok_bnd e
    obtain ⟨_, _, e⟩ := ok_lift e
    obtain ⟨_, _, e⟩ := ok_lift e
    obtain ⟨k, _, e⟩ := ok_lift e
    cases e
    exact ⟨_, rfl⟩
theorem top_none {v : V} {t : T} {A : Addr → Prop} (h : Top K H A v t) : decide (v = .non) = Py.isNonT t := by
  cases t with
  | non =>
    have e := h.non
    subst e
    rfl
  | bl b =>
    have e := h.bl
    subst e
    rfl
  | int i =>
    have e := h.int
    subst e
    rfl
  | str s =>
    obtain ⟨x, rfl, _⟩ := h.str
    rfl
  | scr ns =>
    obtain ⟨x, rfl, _⟩ := h.scr
    rfl
  | tup ts =>
    obtain ⟨x, _, rfl, _⟩ := h.tup
    rfl
  | lst ts =>
    obtain ⟨x, _, rfl, _⟩ := h.lst
    rfl
  | dct tk ts =>
    cases tk
    · obtain ⟨x, _, rfl, _⟩ := h.dt
      rfl
    · obtain ⟨x, _, rfl, _⟩ := h.dk
      rfl
theorem isn_sim {ng : Bool} {ta : TE} (sa : Sim K H0 Wf ta (Py.go C call ea).1) : Sim K H0 Wf (if ng then tNotN ta else tIsN ta) (Py.go C call (.isn ng ea)).1 := fun σ H Q ρ Z s h => by
  simp only [Py.go, Py.vt] at h
  cases ng with
  | false =>
    rw [if_neg Bool.false_ne_true]
    refine one_op sa s h fun r ρ' x H' s' rv q => ?_
    obtain ⟨t, e1, q⟩ := post_lift q
    rw [top_none (rv.d.top s' e1)]
    exact q _ H' s' Kp.same (.bl _)
  | true =>
    rw [if_pos rfl]
    refine one_op sa s h fun r ρ' x H' s' rv q => ?_
    obtain ⟨t, e1, q⟩ := post_lift q
    rw [top_none (rv.d.top s' e1)]
    exact q _ H' s' Kp.same (.bl _)
theorem isn_pc {ng : Bool} {j : Nat} {p2 : Pos} {ta : TE} (pa : PE X a ta) : PC X (if ng then .IsNot else .Is) a (.Constant .none j p2) (if ng then tNotN ta else tIsN ta) := by
  cases ng with
  | false => exact pc_isN pa
  | true => exact pc_notN pa
theorem isn_mark {ng : Bool} {j : Nat} {p2 : Pos} : behindInMarks (if ng then .IsNot else .Is) (.Constant .none j p2) = false := by cases ng <;> rfl
theorem se_isn {ng : Bool} {j : Nat} {p2 : Pos} (ha : SE X H0 Wf a (Py.go C call ea).1) : SE X H0 Wf (.Compare a [if ng then .IsNot else .Is] [.Constant .none j p2] pos) (Py.go C call (.isn ng ea)).1 := by
  obtain ⟨ta, pa, sa⟩ := ha
  exact ⟨_, pe_cmp (isn_pc pa) isn_mark, isn_sim sa⟩
theorem st_isn {ng : Bool} {j : Nat} {p2 : Pos} (ha : SE X H0 Wf a (Py.go C call ea).1) : STst X H0 Wf (.Compare a [if ng then .IsNot else .Is] [.Constant .none j p2] pos) (Py.go C call (.isn ng ea)).2 := by
  obtain ⟨ta, pa, sa⟩ := ha
  refine ⟨_, pt_cmp (isn_pc pa) isn_mark, sim_test (isn_sim sa) fun ρ r ρ' e => ?_⟩
  obtain ⟨_, _, _, e⟩ := ok_bnd e
  obtain ⟨_, _, e⟩ := ok_lift e
  cases e
  exact ⟨_, rfl⟩
theorem se_nt (ha : SE X H0 Wf a (Py.go C call ea).1) : SE X H0 Wf (.UnaryOp .Not a pos) (Py.go C call (.nt ea)).1 := by
  obtain ⟨ta, pa, sa⟩ := ha
  refine ⟨_, pe_notT pa, fun σ H Q ρ Z s h => ?_⟩
  have h : PostE X.K H0 Wf Z σ H ρ (Py.bnd (Py.tru (Py.go C call ea).1 ρ) fun b ρ => .ok (.tmp (.bl (!b)), ρ)) Q := h
  refine sim_truth (e := a) sa σ H _ ρ Z s (post_bnd (RelX := fun _ _ b a => b = a) h fun k ρ1 b H1 s1 k1 e q => ?_)
  subst e
  exact q _ H1 s1 Kp.same (.bl _)
theorem st_nt (ha : STst X H0 Wf a (Py.go C call ea).2) : STst X H0 Wf (.UnaryOp .Not a pos) (Py.go C call (.nt ea)).2 := by
  obtain ⟨ta, pa, sa⟩ := ha
  refine ⟨_, pt_not pa, fun σ H Q ρ Z s h => ?_⟩
  have h : PostB X.K H0 Wf Z σ H ρ (Py.bnd ((Py.go C call ea).2 ρ) fun b ρ => .ok (!b, ρ)) Q := h
  refine sa σ H _ ρ Z s (post_bnd (RelX := fun _ _ b a => b = a) h fun k ρ1 b H1 s1 k1 e q => ?_)
  subst e
  exact q _ H1 s1 Kp.same rfl
theorem and_sim {ta tb : TE} {ma mb : PEnv → Res (R × PEnv)} (sa : Sim K H0 Wf ta ma) (sb : Sim K H0 Wf tb mb) :
    Sim K H0 Wf (tAndT K ta tb) (fun ρ => Py.bnd (ma ρ) fun ra ρ => Py.lift (Py.rd ra ρ) fun x => Py.lift (Py.truthT x) fun k => if k then mb ρ else .ok (ra, ρ)) := fun σ H Q ρ Z s h => by
  refine one_op sa s h fun r ρ' x H' s' rv q => ?_
  obtain ⟨t, e1, q⟩ := post_lift q
  obtain ⟨k, e2, q⟩ := post_lift q
  refine ⟨k, top_truth (rv.d.top s' e1) e2, ?_⟩
  cases k with
  | false =>
    rw [if_neg Bool.false_ne_true] at q ⊢
    exact q _ H' s' Kp.same rv
  | true =>
    rw [if_pos rfl] at q ⊢
    exact sb σ H' Q ρ' Z s' q
theorem or_sim {ta tb : TE} {ma mb : PEnv → Res (R × PEnv)} (sa : Sim K H0 Wf ta ma) (sb : Sim K H0 Wf tb mb) :
    Sim K H0 Wf (tOrT K ta tb) (fun ρ => Py.bnd (ma ρ) fun ra ρ => Py.lift (Py.rd ra ρ) fun x => Py.lift (Py.truthT x) fun k => if k then .ok (ra, ρ) else mb ρ) := fun σ H Q ρ Z s h => by
  refine one_op sa s h fun r ρ' x H' s' rv q => ?_
  obtain ⟨t, e1, q⟩ := post_lift q
  obtain ⟨k, e2, q⟩ := post_lift q
  refine ⟨k, top_truth (rv.d.top s' e1) e2, ?_⟩
  cases k with
  | true =>
    rw [if_pos rfl] at q ⊢
    exact q _ H' s' Kp.same rv
  | false =>
    rw [if_neg Bool.false_ne_true] at q ⊢
    exact sb σ H' Q ρ' Z s' q
theorem andt_sim {ta tb : TT} {ma mb : PEnv → Res (Bool × PEnv)} (sa : SimT K H0 Wf ta ma) (sb : SimT K H0 Wf tb mb) :
    SimT K H0 Wf (tAnd ta tb) (fun ρ => Py.bnd (ma ρ) fun k ρ => if k then mb ρ else .ok (false, ρ)) := fun σ H Q ρ Z s h => by
  refine sa σ H _ ρ Z s (post_bnd (RelX := fun _ _ b a => b = a) h fun k ρ1 b H1 s1 k1 e q => ?_)
  subst e
  cases b with
  | false =>
    rw [if_neg Bool.false_ne_true] at q ⊢
    exact q _ H1 s1 Kp.same rfl
  | true =>
    rw [if_pos rfl] at q ⊢
    exact sb σ H1 Q ρ1 Z s1 q
theorem ort_sim {ta tb : TT} {ma mb : PEnv → Res (Bool × PEnv)} (sa : SimT K H0 Wf ta ma) (sb : SimT K H0 Wf tb mb) :
    SimT K H0 Wf (tOr ta tb) (fun ρ => Py.bnd (ma ρ) fun k ρ => if k then .ok (true, ρ) else mb ρ) := fun σ H Q ρ Z s h => by
  refine sa σ H _ ρ Z s (post_bnd (RelX := fun _ _ b a => b = a) h fun k ρ1 b H1 s1 k1 e q => ?_)
  subst e
  cases b with
  | true =>
    rw [if_pos rfl] at q ⊢
    exact q _ H1 s1 Kp.same rfl
  | false =>
    rw [if_neg Bool.false_ne_true] at q ⊢
    exact sb σ H1 Q ρ1 Z s1 q
theorem se_ife (hc : STst X H0 Wf c (Py.go C call ec).2) (ha : SE X H0 Wf a (Py.go C call ea).1) (hb : SE X H0 Wf b (Py.go C call eb).1) : SE X H0 Wf (.IfExp c a b pos) (Py.go C call (.ife ec ea eb)).1 := by
  obtain ⟨tc, pc, sc⟩ := hc
  obtain ⟨ta, pa, sa⟩ := ha
  obtain ⟨tb, pb, sb⟩ := hb
  refine ⟨_, pe_ifExp pc pa pb, fun σ H Q ρ Z s h => ?_⟩
  have h : PostE X.K H0 Wf Z σ H ρ (Py.bnd ((Py.go C call ec).2 ρ) fun k ρ => if k then (Py.go C call ea).1 ρ else (Py.go C call eb).1 ρ) Q := h
  refine sc σ H _ ρ Z s (post_bnd (RelX := fun _ _ b a => b = a) h fun k ρ1 b H1 s1 k1 e q => ?_)
  subst e
  cases b with
  | true =>
    rw [if_pos rfl] at q ⊢
    exact sa σ H1 Q ρ1 Z s1 q
  | false =>
    rw [if_neg Bool.false_ne_true] at q ⊢
    exact sb σ H1 Q ρ1 Z s1 q
theorem se_neg (ha : SE X H0 Wf a (Py.go C call ea).1) : SE X H0 Wf (.UnaryOp .USub a pos) (Py.go C call (.neg ea)).1 := by
  obtain ⟨ta, pa, sa⟩ := ha
  refine ⟨_, pe_un un_neg pa, fun σ H Q ρ Z s h => ?_⟩
  simp only [Py.go, Py.vt] at h
  refine one_op sa s h fun r ρ' x H' s' rv q => ?_
  obtain ⟨t, e1, q⟩ := post_lift q
  cases t <;> first | exact q.elim | skip
  rename_i i
  exact ⟨i, (rv.d.top s' e1).int, q _ H' s' Kp.same (.int _)⟩
theorem se_ix (hu : X.A.units + 65 < cLine) (ha : SE X H0 Wf a (Py.go C call ea).1) (hb : SE X H0 Wf b (Py.go C call eb).1) (hs : PlainIx b) : SE X H0 Wf (.Subscript a b pos) (Py.go C call (.ix ea eb)).1 := by
  obtain ⟨ta, pa, sa⟩ := ha
  obtain ⟨tb, pb, sb⟩ := hb
  obtain ⟨r, ro, rok⟩ := ix_ok (X := X) (by omega)
  refine ⟨_, pe_ix ro pa pb hs, fun σ H Q ρ Z s h => ?_⟩
  simp only [Py.go, Py.vt] at h
  refine two_op sa sb s h fun ra rb ρ' x y H' s' rx ry q => ?_
  obtain ⟨tx, e1, q⟩ := post_lift q
  obtain ⟨ty, e2, q⟩ := post_lift q
  obtain ⟨u, e3, q⟩ := post_lift q
  exact rok H' _ x y tx ty u Q (rx.top s' e1) (ry.top s' e2) e3 fun v rv => q v H' s' Kp.same rv
def SPo (X : Cx) (H0 : B0) (Wf : XW) (e : Option Expr) (m : PEnv → Res (Option Int × PEnv)) : Prop :=
  ∃ t : TO, PO X e t ∧ ∀ (σ : L2.St) (H : Hp) (Q : Option Int → Hp → Prop) (ρ : PEnv) (Z : Addr → Prop), SR X.K H0 Z σ H ρ → Post X.K H0 Wf Z σ H ρ (fun _ _ o r => o = r) (m ρ) Q → t σ H Q
theorem spo_none {v : PEnv → Res (R × PEnv)} : SPo X H0 Wf none (Py.part true v) := ⟨_, po_none, fun σ H Q ρ Z s h => h none H s Kp.same rfl⟩
theorem spo_some (ha : SE X H0 Wf a (Py.go C call ea).1) : SPo X H0 Wf (some a) (Py.part false (Py.go C call ea).1) := by
  obtain ⟨ta, pa, sa⟩ := ha
  refine ⟨_, po_some pa, fun σ H Q ρ Z s h => ?_⟩
  refine sa σ H _ ρ Z s (post_bnd (RelX := fun H' ρ' v r => RV X.K H0 Z σ H' ρ' v r) h fun r ρ' x H' s' k' rv q => ?_)
  obtain ⟨i, e1, q⟩ := post_lift q
  obtain ⟨t, e2, e3⟩ := Option.bind_eq_some_iff.mp e1
  have e4 : t = .int i := by
    cases t <;> first | (simp [Py.partT] at e3; done) | skip
    cases e3
    rfl
  subst e4
  exact ⟨i, (rv.d.top s' e2).int, q _ H' s' Kp.same rfl⟩
theorem se_slc {lo hi : Option Expr} {el eh : Ex} {p2 : Pos} (ha : SE X H0 Wf a (Py.go C call ea).1) (hl : SPo X H0 Wf lo (Py.part (Py.isNonE el) (Py.go C call el).1)) (hh : SPo X H0 Wf hi (Py.part (Py.isNonE eh) (Py.go C call eh).1)) :
    SE X H0 Wf (.Subscript a (.Slice lo hi none p2) pos) (Py.go C call (.slc ea el eh)).1 := by
  obtain ⟨ta, pa, sa⟩ := ha
  obtain ⟨tl, pl, sl⟩ := hl
  obtain ⟨th, ph, sh⟩ := hh
  obtain ⟨r, ro, rok⟩ := slc_ok (X := X)
  refine ⟨_, pe_slice ro pa pl ph, fun σ H Q ρ Z s h => ?_⟩
  simp only [Py.go, Py.vt] at h
  refine sa σ H _ ρ Z s (post_bnd (RelX := fun H' ρ' v r => RV X.K H0 Z σ H' ρ' v r) h fun ra ρ1 x H1 s1 k1 rv q => ?_)
  refine sl σ H1 _ ρ1 Z s1 (post_bnd (RelX := fun _ _ o r => o = r) q fun l ρ2 l' H2 s2 k2 e2 q => ?_)
  subst e2
  refine sh σ H2 _ ρ2 Z s2 (post_bnd (RelX := fun _ _ o r => o = r) q fun h ρ3 h' H3 s3 k3 e3 q => ?_)
  subst e3
  obtain ⟨t, e1, q⟩ := post_lift q
  obtain ⟨res, e4, q⟩ := post_lift q
  refine rok H3 _ x t _ _ res Q (((rv.d.keep k2).keep k3).top s3 e1) e4 (op_post s3 q ?_)
  unfold Py.slcT at e4
  split at e4 <;> (try split at e4) <;> (try cases e4) <;> rfl
end Sd
set_option Elab.async false
set_option linter.all false
set_option autoImplicit false
set_option maxRecDepth 100000
namespace HT
open PySem PySem.Spec PySem.Calls PyProof.Rows
variable {prog : Program} {w : World} {A : Around} {E : Value → Shared → Prop} {s : Shared}
theorem adjust_rev (n : Nat) : Builtin.Slice.sliceAdjust none none (-1) (n : Int) = ((n : Int) - 1, -1) := rfl
theorem places_rev (n : Nat) : Builtin.Slice.slicePlaces ((n : Int) - 1) (-1) (-1) = n := by
  unfold Builtin.Slice.slicePlaces
  have h1 : ¬ ((-1 : Int) > 0) := by decide
  have h2 : (- -1 : Int) = 1 := by decide
  simp only [h1, if_false, h2, Int.ediv_one]
  split <;> omega
theorem sliceApplied_rev {sl : Addr} {vs : Value} {n : Nat} {Q : Int × Int × Nat → Shared → Prop} (hs : s.heap.IsSliceOf sl .none .none vs) (ps : IsPart vs (some (-1)))
    (h : Q ((n : Int) - 1, -1, n) s) : wpAny (model prog w) A (Builtin.Slice.sliceApplied (.ref sl) (pure (n : Int))) Q E s := by
  obtain ⟨os, hos, hcs, hds⟩ := id hs
  unfold Builtin.Slice.sliceApplied Builtin.Slice.sliceFields
  refine wpAny_bind (wpAny_bind (wpAny_field hos hds (x := .none) rfl (wpAny_bind (wpAny_field hos hds (x := .none) rfl (wpAny_bind (wpAny_field hos hds (x := vs) rfl (wpAny_pure ?_)))))))
  refine wpAny_bind (slicePart_ ps ?_)
  show wpAny _ _ (if ((-1 : Int) == 0) = true then _ else _) _ _ s
  rw [if_neg (by decide)]
  refine wpAny_bind (slicePart_none (wpAny_bind (slicePart_none (wpAny_bind (wpAny_pure ?_)))))
  show wpAny _ _ (match Builtin.Slice.sliceAdjust none none (-1) (n : Int) with | (lo, hi) => pure (lo, (-1 : Int), Builtin.Slice.slicePlaces lo hi (-1))) _ _ s
  rw [adjust_rev]
  show wpAny _ _ (pure ((n : Int) - 1, (-1 : Int), Builtin.Slice.slicePlaces ((n : Int) - 1) (-1) (-1))) _ _ s
  rw [places_rev]
  exact wpAny_pure h
theorem fm_some {α β : Type} {f : α → Option β} {g : α → β} : ∀ l : List α, (∀ x ∈ l, f x = some (g x)) → l.filterMap f = l.map g
  | [], _ => rfl
  | a :: l, h => by
    rw [List.filterMap_cons, h a (List.mem_cons_self ..), List.map_cons, fm_some l fun x hx => h x (List.mem_cons_of_mem _ hx)]
theorem pick_rev (xs : Array Value) : ((List.range xs.size).filterMap fun (m : Nat) => xs[(((xs.size : Int) - 1) + (m : Int) * (-1)).toNat]?).toArray = xs.toList.reverse.toArray := by
  congr 1
  apply List.ext_getElem?
  intro i
  have key : ((List.range xs.size).filterMap fun (m : Nat) => xs[(((xs.size : Int) - 1) + (m : Int) * (-1)).toNat]?) = (List.range xs.size).map fun m => xs[xs.size - 1 - m]! := by
    refine fm_some _ fun m hm => ?_
    have hm := List.mem_range.mp hm
    have e : (((xs.size : Int) - 1) + (m : Int) * (-1)).toNat = xs.size - 1 - m := by omega
    rw [e]
    have : xs.size - 1 - m < xs.size := by omega
    simp [this, getElem!_pos]
  rw [key]
  by_cases hi : i < xs.size
  · have h2 : xs.size - 1 - i < xs.size := by omega
    simp [List.getElem?_map, List.getElem?_range, hi, List.getElem?_reverse, getElem!_pos, h2]
  · simp [List.getElem?_map, List.getElem?_range, hi]
theorem getItem_tuple_rev {t sl : Addr} {items : Array Value} {vs : Value} {Q : Value → Shared → Prop} (ht : IsTup s.heap t items) (hs : s.heap.IsSliceOf sl .none .none vs) (ps : IsPart vs (some (-1)))
    (h : Q (.ref s.heap.objs.size) { s with heap := s.heap.push { cls := .type "tuple", data := .seq items.toList.reverse.toArray } })
    (hsz : items.size ≤ sizeLine) : wpAny (model prog w) A (getItem (.ref t) (.ref sl)) Q E s := by
  have htake : sizeOk (.seq items.toList.reverse.toArray) := by
    show items.toList.reverse.toArray.size ≤ sizeLine
    rw [List.size_toArray, List.length_reverse, Array.length_toList]
    exact hsz
  obtain ⟨os, hos, hcs, hds⟩ := id hs
  have hTs : s.TypeIs (.ref sl) "slice" := ⟨os, hos, hcs⟩
  unfold getItem
  try with_reducible refine wpAny_holding ?_
  first | refine wpAny_bind (wpAny_pure ?_) | skip
  refine wpAny_bind (wpAny_sequenceKey ht.typeIs (by decide) ?_)
  refine wpAny_bind (wpAny_callSpecial?_slot (name := Str.ofString "__getitem__") ht.typeIs PyProof.Rows.slot_tuple_getitem
    (wpAny_call_entry PyProof.Rows.slot_tuple_getitem ht.typeIs entry_tuple_getitem ?_ (args_tuple_getitem _ _)))
  show wpAny _ _ (Builtin.Tuple.tupleItemsOf (.ref t) >>= _) _ _ s
  refine wpAny_bind (tupleItemsOf_ ht ?_)
  refine wpAny_bind (wpAny_typeOf hTs ?_)
  rw [if_pos (by decide)]
  refine wpAny_bind (sliceApplied_rev hs ps ?_)
  have hno : ¬ (((((items.size : Nat) : Int) - 1) == 0 && (-1 : Int) == 1 && items.size == items.size) = true) := by
    intro q
    rw [Bool.and_eq_true, Bool.and_eq_true] at q
    exact absurd q.1.2 (by decide)
  show wpAny _ _ (if ((((items.size : Nat) : Int) - 1) == 0 && (-1 : Int) == 1 && items.size == items.size) = true then _ else _) _ _ s
  rw [if_neg hno, pick_rev]
  first
    | exact wpAny_bind (m := Builtin.Tuple.tupleExact _) (wpAny_newObj_type (wpAny_pure ⟨_, rfl, wpAny_pure h⟩) htake)
    | exact wpAny_bind (m := Builtin.Tuple.tupleExact _) (wpAny_newObj_type (wpAny_bind (wpAny_pure (wpAny_pure ⟨_, rfl, wpAny_pure h⟩))) htake)
    | exact wpAny_bind (wpAny_bind (m := Builtin.Tuple.tupleExact _) (wpAny_newObj_type (wpAny_pure (wpAny_pure ⟨_, rfl, wpAny_pure h⟩)) htake))
    | exact wpAny_bind (wpAny_bind (m := Builtin.Tuple.tupleExact _) (wpAny_newObj_type (wpAny_pure ⟨_, rfl, wpAny_pure h⟩) htake))
end HT
namespace Sd
open PySem PySem.Spec PyProof.Rows L2
open Py (T Sl R Res CRes SRes Ex Stm W)
variable {H H' : Hp} {H0 : B0} {A A' Z : Addr → Prop} {σ σ' : L2.St} {ρ ρ' : PEnv} {X : Cx} {K : PySem.W.Frag} {Wf : XW}
def tRevT (K : PySem.W.Frag) (te : TE) : TE := fun σ H Q => te σ H fun x H1 => ∃ a xs, x = .ref a ∧ SqT K H1 a xs ∧ ∀ p, H1 p = none → Q (.ref p) (upd H1 p (.tup xs.reverse))
theorem pe_revT {e : Expr} {te : TE} {k : Nat} {p1 p2 p3 pos : Pos} (he : PE X e te) : PE X (.Subscript e (.Slice none none (some (.UnaryOp .USub (.Constant (.int 1) k p1) p2)) p3) pos) (tRevT X.K te) := by
  refine ⟨fun pins s σ H Q I h => ?_⟩
  refine Subscript_ (thn (he.run pins s σ H _ I h) fun v s1 ⟨x, H1, I1, r1, q1⟩ => ?_)
  obtain ⟨a, xs, ex, hx, q⟩ := q1
  subst ex
  cases r1
  have hst : PO X (some (.UnaryOp .USub (.Constant (.int 1) k p1) p2)) (tPart (tUn (rU fun i => .int (-i)) (tC (.int 1)))) := po_some (pe_un un_neg pe_int)
  refine wpAny_Slice (thn (po_none.run pins s1 σ H1 (fun o H2 => o = none ∧ H2 = H1) I1 ⟨rfl, rfl⟩) fun vl s2 ⟨l, H2, I2, pl, el, e2⟩ => ?_)
  subst el e2
  refine thn (po_none.run pins s2 σ H2 (fun o H3 => o = none ∧ H3 = H2) I2 ⟨rfl, rfl⟩) fun vu s3 ⟨u, H3, I3, pu, eu, e3⟩ => ?_
  subst eu e3
  refine thn (hst.run pins s3 σ H3 (fun o H4 => o = some (-1) ∧ H4 = H3) I3 ⟨1, rfl, -1, rfl, rfl, rfl⟩) fun vs s4 ⟨o, H4, I4, ps, eo, e4⟩ => ?_
  subst eo e4
  cases pl
  cases pu
  have I5 : Inv X pins σ H4 { s4 with heap := s4.heap.push { cls := .type "slice", data := .fields #[.none, .none, vs] } } := I4.kept (t' := s4.toks) fun b ob q => Heap.get?_push_of_some _ q
  obtain ⟨its, r, ht, hz⟩ := I5.tuple hx
  have hlen := r.length
  show wpAny (model X.prog X.w) X.A (subscriptTail e (.Slice none none (some (.UnaryOp .USub (.Constant (.int 1) k p1) p2)) p3) (.ref a) (.ref s4.heap.objs.size)) (EP X pins σ Q) X.xe { s4 with heap := s4.heap.push { cls := .type "slice", data := .fields #[.none, .none, vs] } }
  refine tail_any (ops := [.ref a, .ref s4.heap.objs.size]) ht.typeIs (PyProof.Rows.slot_tuple_getitem.lookup) ?_ (by with_unfolding_all rfl)
  refine HT.getItem_tuple_rev ht (Heap.IsSliceOf.new _ _ _ vs) ps ?_ (by rw [List.size_toArray]; omega)
  refine ⟨.ref _, _, I5.laid (t' := s4.toks) (o := .tup xs.reverse) (fun b ob q => Heap.get?_push_of_some _ q) (Nat.le_refl _) ?_, rfl, q _ (I5.hok.fresh (Nat.le_refl _))⟩
  exact ⟨by rw [List.length_reverse]; omega, _, r.reverse, IsTup.new _ _⟩
theorem reps_snoc : ∀ {vs : List V} {ts : List T} {v : V} {t : T}, Reps K H A vs ts → Rep K H A v t → Reps K H A (vs ++ [v]) (ts ++ [t])
  | _, _, _, _, .nil, h => .cons h .nil
  | _, _, _, _, .cons r rs, h => .cons r (reps_snoc rs h)
theorem reps_rev : ∀ {vs : List V} {ts : List T}, Reps K H A vs ts → Reps K H A vs.reverse ts.reverse
  | _, _, .nil => .nil
  | _, _, .cons r rs => by
    rw [List.reverse_cons, List.reverse_cons]
    exact reps_snoc (reps_rev rs) r
theorem se_rev {a : Expr} {ea : Ex} {C : List T} {call : Nat → List T → CRes} {k : Nat} {p1 p2 p3 pos : Pos} (ha : SE X H0 Wf a (Py.go C call ea).1) :
    SE X H0 Wf (.Subscript a (.Slice none none (some (.UnaryOp .USub (.Constant (.int 1) k p1) p2)) p3) pos) (Py.go C call (.rev ea)).1 := by
  obtain ⟨ta, pa, sa⟩ := ha
  refine ⟨_, pe_revT pa, fun σ H Q ρ Z s h => ?_⟩
  simp only [Py.go, Py.vt] at h
  refine sa σ H _ ρ Z s (post_bnd (RelX := fun H' ρ' v r => RV X.K H0 Z σ H' ρ' v r) h fun ra ρ1 x H1 s1 k1 rv q => ?_)
  obtain ⟨t, e1, q⟩ := post_lift q
  obtain ⟨res, e4, q⟩ := post_lift q
  have top := rv.d.top s1 e1
  cases t <;> first | (simp [Py.revT] at e4; done) | skip
  case tup ts =>
    cases e4
    obtain ⟨a, vs, rfl, h1, r⟩ := top.tup
    have q := op_post s1 q rfl
    exact ⟨a, vs, rfl, .of h1, fun p hp => q _ _ (Ext.upd hp) (new_tup (reps_rev r) hp)⟩
end Sd
set_option Elab.async false
set_option linter.all false
set_option autoImplicit false
set_option maxRecDepth 100000
namespace Sd
open PySem PySem.Spec PyProof.Rows L2
open Py (T Sl R Res CRes SRes Ex Stm W)
variable {H H' : Hp} {H0 : B0} {A A' Z : Addr → Prop} {σ σ' : L2.St} {ρ ρ' : PEnv} {X : Cx} {K : PySem.W.Frag} {Wf : XW} {α β γ δ : Type}
variable {C : List T} {call : Nat → List T → CRes} {a b c : Expr} {ea eb ec : Ex} {pos : Pos} {es : List Expr} {xs : List Ex}
theorem post_bnd_eq {RelX : Hp → PEnv → δ → γ → Prop} {Rel : Hp → PEnv → β → α → Prop} {x : Res (γ × PEnv)} {f : γ → PEnv → Res (α × PEnv)} {Q : β → Hp → Prop} {QX : δ → Hp → Prop}
    (h : Post K H0 Wf Z σ H ρ Rel (Py.bnd x f) Q)
    (n : ∀ a ρ1 b H1, x = .ok (a, ρ1) → SR K H0 Z σ H1 ρ1 → Kp H H1 (Ow σ ρ) (Ow σ ρ1) → RelX H1 ρ1 b a → Post K H0 Wf Z σ H1 ρ1 Rel (f a ρ1) Q → QX b H1) : Post K H0 Wf Z σ H ρ RelX x QX := by
  cases x with
  | ok p => exact fun b H1 s1 k1 r => n p.1 p.2 b H1 rfl s1 k1 r (Post.rebase (show Post K H0 Wf Z σ H ρ Rel (f p.1 p.2) Q from h) k1)
  | exc c ρ2 => exact h
  | stuck => exact h.elim
def plainE : Expr → Bool
  | .Starred .. => false
  | _ => true
theorem star_plain {e : Expr} (h : plainE e = true) (es : List Expr) (env : Env) : starEach (e :: es) env = (false, eval e env) :: starEach es env := by
  cases e <;> first | rfl | (cases h)
theorem star_all : ∀ {es : List Expr} (h : es.all plainE = true) (env : Env), starEach es env = es.map fun e => (false, eval e env)
  | [], _, _ => rfl
  | e :: es, h, env => by
    simp only [List.all_cons, Bool.and_eq_true] at h
    rw [star_plain h.1, star_all h.2]
    rfl
theorem back_all {es : List Expr} (h : es.all plainE = true) (env : Env) (pos : Pos) : backTo pos (starEach es env) = es.map fun e => (false, eval e env) := by
  rw [star_all h]
  unfold backTo
  rw [List.map_map]
  rfl
theorem back_any {es : List Expr} (h : es.all plainE = true) (env : Env) (pos : Pos) : (backTo pos (starEach es env)).any (·.1) = false := by
  rw [back_all h]
  simp
theorem sl_nil : SL X H0 Wf [] (Py.goS C call []).1 := ⟨_, pa_nil, fun σ H Q ρ Z s h => h [] H s Kp.same .nil⟩
theorem sl_cons (hp : plainE a = true) (ha : SE X H0 Wf a (Py.go C call ea).1) (hr : SL X H0 Wf es (Py.goS C call xs).1) : SL X H0 Wf (a :: es) (Py.goS C call (ea :: xs)).1 := by
  obtain ⟨ta, pa, sa⟩ := ha
  obtain ⟨tr, pr, sr⟩ := hr
  refine ⟨_, pa_cons pa pr (star_plain hp _ _), fun σ H Q ρ Z s h => ?_⟩
  have h : PostL X.K H0 Wf Z σ H ρ (Py.bnd ((Py.go C call ea).1 ρ) fun r ρ => Py.lift (Py.esc r ρ) fun p => Py.bnd ((Py.goS C call xs).1 p.2) fun ts ρ => .ok (p.1 :: ts, ρ)) Q := h
  refine sa σ H _ ρ Z s (post_bnd (RelX := fun H' ρ' v r => RV X.K H0 Z σ H' ρ' v r) h fun r ρ1 x H1 s1 k1 rv q => ?_)
  obtain ⟨p, e1, q⟩ := post_lift q
  obtain ⟨s2, k2, rp⟩ := esc_ok rv.d s1 e1
  have q := q.rebase k2
  refine sr σ H1 _ p.2 Z s2 (post_bnd (RelX := fun H' ρ' vs ts => Reps X.K H' (Av Z σ ρ') vs ts) q fun ts ρ3 vs H3 s3 k3 r3 q => ?_)
  exact q _ H3 s3 Kp.same (.cons (rp.keep (av_kp k3)) r3)
theorem srs_nil : SRs X H0 Wf [] (Py.goS C call []).2 := ⟨_, pa_nil, fun σ H Q ρ Z s h => h [] H s Kp.same .nil⟩
theorem RVDs.keep : ∀ {vs : List V} {rs : List R}, RVDs K Z σ H ρ vs rs → Kp H H' (Ow σ ρ) (Ow σ ρ') → RVDs K Z σ H' ρ' vs rs
  | _, _, .nil, _ => .nil
  | _, _, .cons r s, k => .cons (r.keep k) (RVDs.keep s k)
theorem srs_cons (hp : plainE a = true) (ha : SE X H0 Wf a (Py.go C call ea).1) (hr : SRs X H0 Wf es (Py.goS C call xs).2) : SRs X H0 Wf (a :: es) (Py.goS C call (ea :: xs)).2 := by
  obtain ⟨ta, pa, sa⟩ := ha
  obtain ⟨tr, pr, sr⟩ := hr
  refine ⟨_, pa_cons pa pr (star_plain hp _ _), fun σ H Q ρ Z s h => ?_⟩
  have h : PostR X.K H0 Wf Z σ H ρ (Py.bnd ((Py.go C call ea).1 ρ) fun r ρ => Py.bnd ((Py.goS C call xs).2 ρ) fun rs ρ => .ok (r :: rs, ρ)) Q := h
  refine sa σ H _ ρ Z s (post_bnd (RelX := fun H' ρ' v r => RV X.K H0 Z σ H' ρ' v r) h fun r ρ1 x H1 s1 k1 rv q => ?_)
  refine sr σ H1 _ ρ1 Z s1 (post_bnd (RelX := fun H' ρ' vs rs => RVDs X.K Z σ H' ρ' vs rs) q fun rs ρ3 vs H3 s3 k3 r3 q => ?_)
  exact q _ H3 s3 Kp.same (.cons (rv.d.keep k3) r3)
theorem goS_len : ∀ {xs : List Ex} {ρ ρ' : PEnv} {ts : List T}, (Py.goS C call xs).1 ρ = .ok (ts, ρ') → ts.length = xs.length
  | [], ρ, ρ', ts, h => by
    have h : Res.ok (([] : List T), ρ) = .ok (ts, ρ') := h
    cases h
    rfl
  | x :: xs, ρ, ρ', ts, h => by
    have h : (Py.bnd ((Py.go C call x).1 ρ) fun r ρ => Py.lift (Py.esc r ρ) fun p => Py.bnd ((Py.goS C call xs).1 p.2) fun ts ρ => .ok (p.1 :: ts, ρ)) = .ok (ts, ρ') := h
    obtain ⟨_, _, _, h⟩ := ok_bnd h
    obtain ⟨_, _, h⟩ := ok_lift h
    obtain ⟨ts', _, e, h⟩ := ok_bnd h
    cases h
    rw [List.length_cons, List.length_cons, goS_len e]
theorem se_tup {k : Nat} (hl : xs.length ≤ 1000) (h : SL X H0 Wf es (Py.goS C call xs).1) : SE X H0 Wf (.Tuple es k pos) (Py.go C call (.tup xs)).1 := by
  obtain ⟨t, p, sm⟩ := h
  refine ⟨_, pe_tup p, fun σ H Q ρ Z s h => ?_⟩
  have h : PostE X.K H0 Wf Z σ H ρ (Py.bnd ((Py.goS C call xs).1 ρ) fun ts ρ => .ok (.tmp (.tup ts), ρ)) Q := h
  refine sm σ H _ ρ Z s (post_bnd_eq (RelX := fun H' ρ' vs ts => Reps X.K H' (Av Z σ ρ') vs ts) h fun ts ρ1 vs H1 e s1 k1 r q => ?_)
  refine ⟨cap_le (by rw [r.length, goS_len e]; omega), fun p hp => ?_⟩
  exact op_post s1 q rfl _ _ (Ext.upd hp) (new_tup r hp)
theorem se_lst (hl : xs.length ≤ 1000) (h : SL X H0 Wf es (Py.goS C call xs).1) : SE X H0 Wf (.List es pos) (Py.go C call (.lst xs)).1 := by
  obtain ⟨t, p, sm⟩ := h
  refine ⟨_, pe_lst p, fun σ H Q ρ Z s h => ?_⟩
  have h : PostE X.K H0 Wf Z σ H ρ (Py.bnd ((Py.goS C call xs).1 ρ) fun ts ρ => .ok (.new (.lst ts), ρ)) Q := h
  refine sm σ H _ ρ Z s (post_bnd_eq (RelX := fun H' ρ' vs ts => Reps X.K H' (Av Z σ ρ') vs ts) h fun ts ρ1 vs H1 e s1 k1 r q => ?_)
  refine ⟨cap_le (by rw [r.length, goS_len e]; omega), fun p hp => ?_⟩
  exact op_post s1 q rfl _ _ (Ext.upd hp) hp (new_lst r hp)
theorem se_dnw {tk : Bool} : SE X H0 Wf (.Dict [] [] pos) (Py.go C call (.dnw tk)).1 := by
  cases tk with
  | true =>
    refine ⟨_, pe_dnewK, fun σ H Q ρ Z s h => fun p hp => ?_⟩
    exact op_post s h rfl _ _ (Ext.upd hp) hp ⟨[], upd_same, .nil⟩
  | false =>
    refine ⟨_, pe_dnewT, fun σ H Q ρ Z s h => fun p hp => ?_⟩
    exact op_post s h rfl _ _ (Ext.upd hp) hp ⟨[], upd_same, .nil⟩
theorem b1_new {op : Py.B1} {t : T} {r : R} (h : Py.b1T op t = some r) : Py.isNewR r = true := by
  unfold Py.b1T at h
  split at h <;> (try split at h) <;> (try split at h) <;> (try split at h) <;> (try split at h) <;> (try split at h) <;> (try cases h) <;> (try rfl) <;> (obtain ⟨_, _, rfl⟩ := Option.map_eq_some_iff.mp h) <;> rfl
theorem se_callB {op : Py.B1} {x : Str} {id : String} {p : Pos} (ok : CallOk X (.builtin id) (Py.b1T op)) (hg : Gl X x) (hm : X.mg x = none) (hv : bootBuiltins x = some (.builtin id)) (hn : x ≠ "__name__") (hd : (x == ("__debug__" : Str)) = false) (hp : plainE a = true)
    (ha : SE X H0 Wf a (Py.go C call ea).1) : SE X H0 Wf (.Call (.Name x p) [a] [] pos) (Py.go C call (.b1 op ea)).1 := by
  obtain ⟨ta, pa, sa⟩ := ha
  obtain ⟨r, rc, rok⟩ := ok
  refine ⟨_, pe_callB rc hg hm hv (pa_cons pa pa_nil (star_plain hp _ _)) hn hd (star_plain hp _ _) rfl, fun σ H Q ρ Z s h => ?_⟩
  have h : PostE X.K H0 Wf Z σ H ρ (Py.bnd ((Py.go C call ea).1 ρ) fun ra ρ => Py.lift (Py.rd ra ρ) fun x => Py.fin (Py.b1T op x) ρ) Q := h
  refine one_op sa s h fun r ρ' x H' s' rv q => ?_
  obtain ⟨t, e1, q⟩ := post_lift q
  obtain ⟨res, e2, q⟩ := post_lift q
  exact rok H' _ x t res Q (rv.d.top s' e1) e2 (op_post s' q (b1_new e2))
theorem se_callTy {op : Py.B1} {x : Str} {id : String} {p : Pos} (ok : CallOk X (.type id) (Py.b1T op)) (hg : Gl X x) (hm : X.mg x = none) (hv : bootBuiltins x = some (.type id)) (hn : x ≠ "__name__") (hd : (x == ("__debug__" : Str)) = false) (hp : plainE a = true)
    (ha : SE X H0 Wf a (Py.go C call ea).1) : SE X H0 Wf (.Call (.Name x p) [a] [] pos) (Py.go C call (.b1 op ea)).1 := by
  obtain ⟨ta, pa, sa⟩ := ha
  obtain ⟨r, rc, rok⟩ := ok
  refine ⟨_, pe_callTy rc hg hm hv (pa_cons pa pa_nil (star_plain hp _ _)) hn hd (star_plain hp _ _) rfl, fun σ H Q ρ Z s h => ?_⟩
  have h : PostE X.K H0 Wf Z σ H ρ (Py.bnd ((Py.go C call ea).1 ρ) fun ra ρ => Py.lift (Py.rd ra ρ) fun x => Py.fin (Py.b1T op x) ρ) Q := h
  refine one_op sa s h fun r ρ' x H' s' rv q => ?_
  obtain ⟨t, e1, q⟩ := post_lift q
  obtain ⟨res, e2, q⟩ := post_lift q
  exact rok H' _ x t res Q (rv.d.top s' e1) e2 (op_post s' q (b1_new e2))
theorem se_isi {k : Py.Ty} {p p2 : Pos} (hg : Gl X "isinstance") (hm : X.mg "isinstance" = none) (hg2 : Gl X (Str.ofString (tyName k))) (hm2 : X.mg (Str.ofString (tyName k)) = none) (hp : plainE a = true) (ha : SE X H0 Wf a (Py.go C call ea).1) :
    SE X H0 Wf (.Call (.Name "isinstance" p) [a, .Name (Str.ofString (tyName k)) p2] [] pos) (Py.go C call (.isi k ea)).1 := by
  obtain ⟨ta, pa, sa⟩ := ha
  have hb : bootBuiltins (Str.ofString (tyName k)) = some (.type (tyName k)) := by cases k <;> decide +kernel
  have hn : (Str.ofString (tyName k)) ≠ "__name__" := by cases k <;> decide +kernel
  have hd : ((Str.ofString (tyName k)) == ("__debug__" : Str)) = false := by cases k <;> decide +kernel
  have pt : PE X (.Name (Str.ofString (tyName k)) p2) (tC (.ty (tyName k))) := pe_bltn hg2 hm2 hb rfl hn hd
  refine ⟨_, pe_callB call_isi hg hm (by decide +kernel) (pa_cons pa (pa_cons pt pa_nil rfl) (star_plain hp _ _)) (by decide +kernel) (by decide +kernel) (star_plain hp _ _) rfl, fun σ H Q ρ Z s h => ?_⟩
  have h : PostE X.K H0 Wf Z σ H ρ (Py.bnd ((Py.go C call ea).1 ρ) fun ra ρ => Py.lift (Py.rd ra ρ) fun x => Py.lift (Py.isiT k x) fun b => .ok (.tmp (.bl b), ρ)) Q := h
  refine one_op sa s h fun r ρ' x H' s' rv q => ?_
  obtain ⟨t, e1, q⟩ := post_lift q
  obtain ⟨bb, e2, q⟩ := post_lift q
  obtain ⟨ty, h1, h2⟩ := isi_ok (rv.d.top s' e1) e2
  exact ⟨x, .ty (tyName k), .type ty, .type (tyName k), bb, rfl, .ty _, h1, h2, q _ H' s' Kp.same (.bl _)⟩
theorem se_max2 {p : Pos} (hc : X.calm = true) (hg : Gl X "max") (hm : X.mg "max" = none) (hpa : plainE a = true) (hpb : plainE b = true) (ha : SE X H0 Wf a (Py.go C call ea).1) (hb : SE X H0 Wf b (Py.go C call eb).1) :
    SE X H0 Wf (.Call (.Name "max" p) [a, b] [] pos) (Py.go C call (.max2 ea eb)).1 := by
  obtain ⟨ta, pa, sa⟩ := ha
  obtain ⟨tb, pb, sb⟩ := hb
  refine ⟨_, pe_callB (call_max2 hc) hg hm (by decide +kernel) (pa_cons pa (pa_cons pb pa_nil (star_plain hpb _ _)) (star_plain hpa _ _)) (by decide +kernel) (by decide +kernel) (star_plain hpa _ _) (back_any (by simp [hpb]) _ _), fun σ H Q ρ Z s h => ?_⟩
  have h : PostE X.K H0 Wf Z σ H ρ (Py.bnd ((Py.go C call ea).1 ρ) fun ra ρ => Py.bnd ((Py.go C call eb).1 ρ) fun rb ρ => Py.lift (Py.rd ra ρ) fun x => Py.lift (Py.rd rb ρ) fun y => match x, y with | .int i, .int j => .ok (.tmp (.int (if j > i then j else i)), ρ) | _, _ => .stuck) Q := h
  refine two_op sa sb s h fun ra rb ρ' x y H' s' rx ry q => ?_
  obtain ⟨tx, e1, q1⟩ := post_lift q
  obtain ⟨ty, e2, q2⟩ := post_lift q1
  clear q q1 h
  cases tx <;> first | exact q2.elim | skip
  rename_i i
  cases ty <;> first | exact q2.elim | skip
  rename_i j
  exact ⟨i, j, by rw [(rx.top s' e1).int, (ry.top s' e2).int], q2 _ H' s' Kp.same (.int _)⟩
end Sd
set_option Elab.async false
set_option linter.all false
set_option autoImplicit false
set_option maxRecDepth 100000
namespace Sd
open PySem PySem.Spec PyProof.Rows L2
open Py (T Sl R Res CRes SRes Ex Stm W)
variable {H H' : Hp} {H0 : B0} {A A' Z : Addr → Prop} {σ σ' : L2.St} {ρ ρ' : PEnv} {X : Cx} {K : PySem.W.Frag} {Wf : XW} {α β γ δ : Type}
variable {C : List T} {call : Nat → List T → CRes} {a b c o : Expr} {ea eb ec eo : Ex} {pos : Pos} {es : List Expr} {xs : List Ex}
theorem own_up {r : R} {x : V} {f : T → Option (T × R)} {Q : VK} (rx : RVD K Z σ H ρ x r) (s : SR K H0 Z σ H ρ) (h : PostE K H0 Wf Z σ H ρ (Py.upOwn r ρ f) Q) :
    ∃ (a : Addr) (t t' : T) (res : R), x = .ref a ∧ f t = some (t', res) ∧ RepO K H (Av Z σ ρ) a t ∧ Av Z σ ρ a ∧
      ∀ (o : HO) (v : V), RepO K (upd H a o) (Av Z σ ρ) a t' → (∀ rt, res = .tmp rt → Rep K (upd H a o) (Av Z σ ρ) v rt) → (∃ rt, res = .tmp rt) → Q v (upd H a o) := by
  unfold Py.upOwn at h
  cases r with
  | tmp t => exact h.elim
  | new t => exact h.elim
  | slot i =>
    simp only at h
    split at h
    · rename_i t e
      obtain ⟨p, e1, h⟩ := post_lift h
      obtain ⟨a, q1, q2, q3, q4⟩ := s.own i t e
      have rx : σ[i]? = some (some x) := rx
      rw [rx] at q1
      cases q1
      refine ⟨a, t, p.1, p.2, rfl, e1, q4, .inr ⟨i, t, e, rx⟩, fun o v r1 r2 ⟨rt, r3⟩ => ?_⟩
      obtain ⟨s2, k2⟩ := s.change e rx r1
      refine h v (upd H a o) s2 k2 ?_
      rw [r3]
      exact (r2 rt r3).weak fun b _ _ z => z.elim .inl fun z => .inr ((ow_set_own e b).mp z)
    · exact h.elim
theorem kp_upd {a : Addr} {o : HO} {o0 : HO} (ha : A a) (h : H a = some o0) (ht : ∀ xs, o0 ≠ .tup xs) : Kp H (upd H a o) A A :=
  ⟨fun b x e n => by
    have ne : b ≠ a := fun z => by
      subst z
      exact n ha
    exact ⟨by rw [upd_ne ne]; exact e, n⟩, fun b xs e => by
    have ne : b ≠ a := fun z => by
      subst z
      rw [h] at e
      exact ht xs (Option.some.inj e)
    rw [upd_ne ne]
    exact e⟩
theorem lst_kp {a : Addr} {vs : List V} {o : HO} (ha : A a) (h : H a = some (.lst vs)) : Kp H (upd H a o) A A := kp_upd ha h fun _ z => by cases z
theorem rd_lst {r : R} {x : V} {t : T} (rx : RVD K Z σ H ρ x r) (s : SR K H0 Z σ H ρ) (e : Py.rd r ρ = some t) (hr : Py.recv .append t = true) : tyV K "list" x H := by
  cases t <;> first | (simp [Py.recv] at hr; done) | skip
  obtain ⟨a, vs, rfl, h1, _⟩ := (rx.top s e).lst
  exact .inl ⟨rfl, vs, .of h1⟩
structure MTxt (X : Cx) (o : Expr) (m : Str) (apos : Pos) (es : List Expr) (cpos : Pos) : Prop where
  base : attributeBase o m X.env (eval o X.env) = eval o X.env
  line : (apos.endLine == cpos.line) = true
  plain : es.all plainE = true
  few : es.length ≤ 2
theorem MTxt.few1 {m : Str} {apos cpos : Pos} (t : MTxt X o m apos es cpos) : ((backTo cpos (starEach es X.env)).all (fun x => !x.1) && (backToKw cpos (keywordEach [] X.env)).all (fun x => x.1.isSome)
      && decide (es.length + ([] : List Keyword).length + (if ([] : List Keyword).isEmpty then 0 else 1) < 30)) = true := by
  rw [back_all t.plain]
  simp [backToKw, keywordEach]
  have := t.few
  omega
theorem se_append {apos cpos : Pos} (tx : MTxt X o "append" apos [a] cpos) (ho : SE X H0 Wf o (Py.go C call eo).1) (ha : SE X H0 Wf a (Py.go C call ea).1) : SE X H0 Wf (.Call (.Attribute o "append" apos) [a] [] cpos) (Py.go C call (.m1 .append eo ea)).1 := by
  obtain ⟨to, po, so⟩ := ho
  obtain ⟨ta, pa, sa⟩ := ha
  have hp : plainE a = true := by simpa using tx.plain
  refine ⟨_, pe_bm PySem.F.plainAttrs_list PySem.F.slot_list_append PySem.F.type_list_append mt_append po (pa_cons pa pa_nil (star_plain hp _ _)) tx.base tx.few1 tx.line (star_plain hp _ _) rfl, fun σ H Q ρ Z s h => ?_⟩
  have h : PostE X.K H0 Wf Z σ H ρ (Py.bnd ((Py.go C call eo).1 ρ) fun r ρ => Py.lift (Py.rd r ρ) fun x0 => if Py.recv .append x0 then (Py.bnd ((Py.go C call ea).1 ρ) fun ra ρ => Py.m1Go .append r ra ρ) else .stuck) Q := h
  refine so σ H _ ρ Z s (post_bnd (RelX := fun H' ρ' v r => RV X.K H0 Z σ H' ρ' v r) h fun r ρ1 x H1 s1 k1 rv q => ?_)
  obtain ⟨x0, e1, q⟩ := post_lift q
  by_cases hr : Py.recv .append x0 = true
  · rw [if_pos hr] at q
    refine ⟨rd_lst rv.d s1 e1 hr, ?_⟩
    refine sa σ H1 _ ρ1 Z s1 (post_bnd (RelX := fun H' ρ' v r => RV X.K H0 Z σ H' ρ' v r) q fun ra ρ2 y H2 s2 k2 ry q => ?_)
    obtain ⟨p, e2, q⟩ := post_lift q
    obtain ⟨s3, k3, rp⟩ := esc_ok ry.d s2 e2
    obtain ⟨l, t, t', res, rfl, e3, ro, al, fin⟩ := own_up ((rv.d.keep k2).keep k3) s3 (q.rebase k3)
    cases t <;> first | (simp [Py.appT] at e3; done) | skip
    rename_i ts
    obtain ⟨hl, e4⟩ := ite_some e3
    cases e4
    obtain ⟨vs, h1, r1⟩ := ro
    refine ⟨l, vs, y, rfl, rfl, h1, cap_lt (by rw [r1.length]; exact hl), ?_⟩
    exact fin _ .non ⟨_, upd_same, (r1.app (.cons rp .nil)).keep (lst_kp al h1)⟩ (fun rt e => by cases e; exact .non) ⟨_, rfl⟩
  · rw [if_neg hr] at q
    exact q.elim
theorem se_extend {apos cpos : Pos} (tx : MTxt X o "extend" apos [a] cpos) (ho : SE X H0 Wf o (Py.go C call eo).1) (ha : SE X H0 Wf a (Py.go C call ea).1) : SE X H0 Wf (.Call (.Attribute o "extend" apos) [a] [] cpos) (Py.go C call (.m1 .extend eo ea)).1 := by
  obtain ⟨to, po, so⟩ := ho
  obtain ⟨ta, pa, sa⟩ := ha
  have hp : plainE a = true := by simpa using tx.plain
  refine ⟨_, pe_bm PySem.F.plainAttrs_list PySem.F.slot_list_extend PySem.F.type_list_extend mt_extend po (pa_cons pa pa_nil (star_plain hp _ _)) tx.base tx.few1 tx.line (star_plain hp _ _) rfl, fun σ H Q ρ Z s h => ?_⟩
  have h : PostE X.K H0 Wf Z σ H ρ (Py.bnd ((Py.go C call eo).1 ρ) fun r ρ => Py.lift (Py.rd r ρ) fun x0 => if Py.recv .extend x0 then (Py.bnd ((Py.go C call ea).1 ρ) fun ra ρ => Py.m1Go .extend r ra ρ) else .stuck) Q := h
  refine so σ H _ ρ Z s (post_bnd (RelX := fun H' ρ' v r => RV X.K H0 Z σ H' ρ' v r) h fun r ρ1 x H1 s1 k1 rv q => ?_)
  obtain ⟨x0, e1, q⟩ := post_lift q
  by_cases hr : Py.recv .extend x0 = true
  · rw [if_pos hr] at q
    refine ⟨rd_lst rv.d s1 e1 (by cases x0 <;> first | rfl | (simp [Py.recv] at hr)), ?_⟩
    refine sa σ H1 _ ρ1 Z s1 (post_bnd (RelX := fun H' ρ' v r => RV X.K H0 Z σ H' ρ' v r) q fun ra ρ2 y H2 s2 k2 ry q => ?_)
    obtain ⟨⟨pt, pρ⟩, e2, q⟩ := post_lift q
    obtain ⟨s3, k3, rp⟩ := esc_ok ry.d s2 e2
    cases pt <;> first | exact q.elim | skip
    rename_i ys
    obtain ⟨l, t, t', res, rfl, e3, ro, al, fin⟩ := own_up ((rv.d.keep k2).keep k3) s3 (q.rebase k3)
    cases t <;> first | (simp [Py.extT] at e3; done) | skip
    rename_i ts
    obtain ⟨hl, e4⟩ := ite_some e3
    cases e4
    obtain ⟨vs, h1, r1⟩ := ro
    cases rp with
    | lst h2 n2 r2 =>
      refine ⟨l, _, vs, _, rfl, rfl, h1, h2, cap_le (by rw [r1.length, r2.length]; exact hl), ?_⟩
      exact fin _ .non ⟨_, upd_same, (r1.app r2).keep (lst_kp al h1)⟩ (fun rt e => by cases e; exact .non) ⟨_, rfl⟩
  · rw [if_neg hr] at q
    exact q.elim
theorem last_get {α : Type} (l : List α) : l.getLast? = l[l.length - 1]? := List.getLast?_eq_getElem?
theorem se_pop {apos cpos : Pos} (tx : MTxt X o "pop" apos [] cpos) (ho : SE X H0 Wf o (Py.go C call eo).1) : SE X H0 Wf (.Call (.Attribute o "pop" apos) [] [] cpos) (Py.go C call (.m0 .pop eo)).1 := by
  obtain ⟨to, po, so⟩ := ho
  refine ⟨_, pe_bm0 PySem.F.plainAttrs_list PySem.F.slot_list_pop PySem.F.type_list_pop mt_pop po tx.base tx.line, fun σ H Q ρ Z s h => ?_⟩
  have h : PostE X.K H0 Wf Z σ H ρ (Py.bnd ((Py.go C call eo).1 ρ) fun r ρ => Py.upOwn r ρ Py.popT) Q := h
  refine so σ H _ ρ Z s (post_bnd (RelX := fun H' ρ' v r => RV X.K H0 Z σ H' ρ' v r) h fun r ρ1 x H1 s1 k1 rv q => ?_)
  obtain ⟨l, t, t', res, rfl, e3, ro, al, fin⟩ := own_up rv.d s1 q
  cases t <;> first | (simp [Py.popT] at e3; done) | skip
  rename_i ts
  simp only [Py.popT] at e3
  split at e3
  · rename_i y hy
    cases e3
    obtain ⟨vs, h1, r1⟩ := ro
    rw [last_get] at hy
    obtain ⟨v, hv, rv2⟩ := r1.get hy
    refine ⟨.inl ⟨rfl, vs, .of h1⟩, l, vs, v, rfl, rfl, h1, by rw [r1.length]; exact hv, ?_⟩
    exact fin _ v ⟨_, upd_same, r1.dropLast.keep (lst_kp al h1)⟩ (fun rt e => by cases e; exact rv2.keep (lst_kp al h1)) ⟨_, rfl⟩
  · cases e3
theorem se_clear {apos cpos : Pos} (tx : MTxt X o "clear" apos [] cpos) (ho : SE X H0 Wf o (Py.go C call eo).1) : SE X H0 Wf (.Call (.Attribute o "clear" apos) [] [] cpos) (Py.go C call (.m0 .clear eo)).1 := by
  obtain ⟨to, po, so⟩ := ho
  refine ⟨_, pe_bm0 PySem.F.plainAttrs_list PySem.F.slot_list_clear PySem.F.type_list_clear mt_clear po tx.base tx.line, fun σ H Q ρ Z s h => ?_⟩
  have h : PostE X.K H0 Wf Z σ H ρ (Py.bnd ((Py.go C call eo).1 ρ) fun r ρ => Py.upOwn r ρ Py.clearT) Q := h
  refine so σ H _ ρ Z s (post_bnd (RelX := fun H' ρ' v r => RV X.K H0 Z σ H' ρ' v r) h fun r ρ1 x H1 s1 k1 rv q => ?_)
  obtain ⟨l, t, t', res, rfl, e3, ro, al, fin⟩ := own_up rv.d s1 q
  cases t <;> first | (simp [Py.clearT] at e3; done) | skip
  rename_i ts
  cases e3
  obtain ⟨vs, h1, r1⟩ := ro
  refine ⟨.inl ⟨rfl, vs, .of h1⟩, l, vs, rfl, rfl, h1, ?_⟩
  exact fin _ .non ⟨_, upd_same, .nil⟩ (fun rt e => by cases e; exact .non) ⟨_, rfl⟩
theorem isD_of {r : R} {x : V} {t : T} (rx : RVD K Z σ H ρ x r) (s : SR K H0 Z σ H ρ) (e : Py.rd r ρ = some t) (hr : Py.isDct t = true) : ∃ a, x = .ref a ∧ IsD H a := by
  cases t <;> first | (simp [Py.isDct] at hr; done) | skip
  rename_i tk kvs
  cases tk
  · obtain ⟨a, vs, rfl, h1, _⟩ := (rx.top s e).dt
    exact ⟨a, rfl, .inr ⟨vs, .inl h1⟩⟩
  · obtain ⟨a, vs, rfl, h1, _⟩ := (rx.top s e).dk
    exact ⟨a, rfl, .inl ⟨vs, .inl h1⟩⟩
theorem m1_of {m : Str} {apos cpos : Pos} (t : MTxt X o m apos [a] cpos) : M1 X o m apos a cpos :=
  ⟨t.base, t.few1, t.line, by rw [back_all t.plain]; rfl⟩
theorem m2_of {m : Str} {apos cpos : Pos} (t : MTxt X o m apos [a, b] cpos) : M2 X o m apos a b cpos :=
  ⟨t.base, t.few1, t.line, by rw [back_all t.plain]; rfl⟩
theorem se_get1 {apos cpos : Pos} (hu : X.A.units + 65 < cLine) (tx : MTxt X o "get" apos [a] cpos) (ho : SE X H0 Wf o (Py.go C call eo).1) (ha : SE X H0 Wf a (Py.go C call ea).1) : SE X H0 Wf (.Call (.Attribute o "get" apos) [a] [] cpos) (Py.go C call (.m1 .get1 eo ea)).1 := by
  obtain ⟨to, po, so⟩ := ho
  obtain ⟨ta, pa, sa⟩ := ha
  refine ⟨_, pe_dget1 (by omega) po pa (m1_of tx), fun σ H Q ρ Z s h => ?_⟩
  have h : PostE X.K H0 Wf Z σ H ρ (Py.bnd ((Py.go C call eo).1 ρ) fun r ρ => Py.lift (Py.rd r ρ) fun x0 => if Py.recv .get1 x0 then (Py.bnd ((Py.go C call ea).1 ρ) fun ra ρ => Py.m1Go .get1 r ra ρ) else .stuck) Q := h
  refine so σ H _ ρ Z s (post_bnd (RelX := fun H' ρ' v r => RV X.K H0 Z σ H' ρ' v r) h fun r ρ1 x H1 s1 k1 rv q => ?_)
  obtain ⟨x0, e1, q⟩ := post_lift q
  by_cases hr : Py.recv .get1 x0 = true
  · rw [if_pos hr] at q
    obtain ⟨d, rfl, hd⟩ := isD_of rv.d s1 e1 (by cases x0 <;> first | rfl | (simp [Py.recv] at hr))
    refine ⟨d, rfl, hd, ?_⟩
    refine sa σ H1 _ ρ1 Z s1 (post_bnd (RelX := fun H' ρ' v r => RV X.K H0 Z σ H' ρ' v r) q fun ra ρ2 y H2 s2 k2 ry q => ?_)
    obtain ⟨tx, e2, q'⟩ := post_lift q
    obtain ⟨ty, e3, q''⟩ := post_lift q'
    obtain ⟨res, e4, q'''⟩ := post_lift q''
    clear q q' q''
    cases tx <;> first | (simp [Py.m1T] at e4; done) | skip
    rename_i tk kvs
    have e4 : (if Py.keyT tk ty = true then some (R.tmp ((Py.getK kvs ty).getD .non)) else none) = some res := e4
    obtain ⟨g, rfl⟩ := ite_some e4
    obtain ⟨a', o', ea', h1, h2⟩ := ((rv.d.keep k2).top s2 e2).dget (ry.d.top s2 e3) g
    cases ea'
    exact ⟨o', h1, q''' _ H2 s2 Kp.same (h2.getD .non)⟩
  · rw [if_neg hr] at q
    exact q.elim
theorem rep_flat {v : V} {t : T} (h : Top K H A v t) (f : Py.flatT t = true) : Rep K H A' v t := by
  cases t <;> first | (simp [Py.flatT] at f; done) | skip
  · rw [h.non]
    exact .non
  · rw [h.bl]
    exact .bl _
  · rw [h.int]
    exact .int _
  · obtain ⟨x, rfl, rfl⟩ := h.str
    exact .str x
theorem se_get2 {apos cpos : Pos} (hu : X.A.units + 65 < cLine) (tx : MTxt X o "get" apos [a, b] cpos) (ho : SE X H0 Wf o (Py.go C call eo).1) (ha : SE X H0 Wf a (Py.go C call ea).1) (hb : SE X H0 Wf b (Py.go C call eb).1) :
    SE X H0 Wf (.Call (.Attribute o "get" apos) [a, b] [] cpos) (Py.go C call (.get2 eo ea eb)).1 := by
  obtain ⟨to, po, so⟩ := ho
  obtain ⟨ta, pa, sa⟩ := ha
  obtain ⟨tb, pb, sb⟩ := hb
  refine ⟨_, pe_dget2 (by omega) po pa pb (m2_of tx), fun σ H Q ρ Z s h => ?_⟩
  have h : PostE X.K H0 Wf Z σ H ρ (Py.bnd ((Py.go C call eo).1 ρ) fun r ρ => Py.lift (Py.rd r ρ) fun x0 => if Py.isDct x0 then (Py.bnd ((Py.go C call ea).1 ρ) fun ra ρ => Py.bnd ((Py.go C call eb).1 ρ) fun rb ρ => Py.lift (Py.rd r ρ) fun x => Py.lift (Py.rd ra ρ) fun y => Py.lift (Py.rd rb ρ) fun z => Py.get2Go x y z ρ) else .stuck) Q := h
  refine so σ H _ ρ Z s (post_bnd (RelX := fun H' ρ' v r => RV X.K H0 Z σ H' ρ' v r) h fun r ρ1 x H1 s1 k1 rv q => ?_)
  obtain ⟨x0, e1, q⟩ := post_lift q
  by_cases hr : Py.isDct x0 = true
  · rw [if_pos hr] at q
    obtain ⟨d, rfl, hd⟩ := isD_of rv.d s1 e1 hr
    refine ⟨d, rfl, hd, ?_⟩
    refine sa σ H1 _ ρ1 Z s1 (post_bnd (RelX := fun H' ρ' v r => RV X.K H0 Z σ H' ρ' v r) q fun ra ρ2 y H2 s2 k2 ry q => ?_)
    refine sb σ H2 _ ρ2 Z s2 (post_bnd (RelX := fun H' ρ' v r => RV X.K H0 Z σ H' ρ' v r) q fun rb ρ3 z H3 s3 k3 rz q => ?_)
    obtain ⟨tx, e2, q'⟩ := post_lift q
    obtain ⟨ty, e3, q''⟩ := post_lift q'
    obtain ⟨tz, e4, q'''⟩ := post_lift q''
    clear q q' q''
    cases tx <;> first | exact q'''.elim | skip
    rename_i tk kvs
    have q : PostE X.K H0 Wf Z σ H3 ρ3 (if (Py.keyT tk ty && Py.flatT tz) = true then .ok (.tmp ((Py.getK kvs ty).getD tz), ρ3) else .stuck) Q := q'''
    by_cases g : (Py.keyT tk ty && Py.flatT tz) = true
    · rw [if_pos g] at q
      rw [Bool.and_eq_true] at g
      obtain ⟨a', o', ea', h1, h2⟩ := (((rv.d.keep k2).keep k3).top s3 e2).dget ((ry.d.keep k3).top s3 e3) g.1
      cases ea'
      exact ⟨o', h1, q _ H3 s3 Kp.same (h2.getD (rep_flat (rz.d.top s3 e4) g.2))⟩
    · rw [if_neg g] at q
      exact q.elim
  · rw [if_neg hr] at q
    exact q.elim
end Sd
set_option Elab.async false
set_option linter.all false
set_option autoImplicit false
set_option maxRecDepth 100000
namespace Sd
open PySem PySem.Spec PyProof.Rows L2
open Py (T Sl R Res CRes SRes Ex Stm W)
variable {H H' : Hp} {H0 : B0} {A A' Z : Addr → Prop} {σ σ' : L2.St} {ρ ρ' : PEnv} {X : Cx} {K : PySem.W.Frag} {Wf : XW} {α β γ δ : Type}
variable {C : List T} {call : Nat → List T → CRes} {a b c o e : Expr} {ea eb ec eo : Ex} {pos : Pos} {es : List Expr} {xs : List Ex}
theorem se_gl {x : Str} {n : Nat} {t : T} {u : Value} {v : V} (hg : Gl X x) (hm : X.mg x = some u) (r : RelV v u) (hd : (x == ("__debug__" : Str)) = false) (hc : C[n]? = some t) (rep : ∀ (H : Hp) (A : Addr → Prop), Rep X.K H A v t) :
    SE X H0 Wf (.Name x pos) (Py.go C call (.gl n)).1 := by
  refine ⟨_, pe_glob hg hm r hd, fun σ H Q ρ Z s h => ?_⟩
  have h : PostE X.K H0 Wf Z σ H ρ (Py.lift C[n]? fun t => .ok (.tmp t, ρ)) Q := h
  rw [hc] at h
  exact h _ H s Kp.same (rep _ _)
def ArgsOk (K : PySem.W.Frag) (H : Hp) (A : Addr → Prop) (mv : Option Nat) (M : Option Addr) (vs : List V) (ts : List T) : Prop :=
  match mv with
  | none => M = none ∧ Reps K H A vs ts
  | some i => ∃ p t, M = some p ∧ vs[i]? = some (V.ref p) ∧ ts[i]? = some t ∧ ¬ A p ∧ RepO K H (fun a => A a ∨ a = p) p t ∧ vs.length = ts.length ∧ ∀ (j : Nat) (v : V) (u : T), j ≠ i → vs[j]? = some v → ts[j]? = some u → Rep K H (fun a => A a ∨ a = p) v u
def Frm (M : Option Addr) (H H' : Hp) : Prop := ∀ b o, H b = some o → M ≠ some b → H' b = some o
def ResOk (K : PySem.W.Frag) (H : Hp) (M : Option Addr) (H' : Hp) (A : Addr → Prop) (v : V) : R → Prop
  | .tmp t => Rep K H' A v t
  | .new t => ∃ p, v = .ref p ∧ (H p = none ∨ M = some p) ∧ ¬ A p ∧ RepO K H' (fun a => A a ∨ a = p) p t
  | .slot _ => False
def spF (K : PySem.W.Frag) (xa : Nat → Addr) (mv : Option Nat) (np : Nat) (F : List T → CRes) : Sp := fun vs H Q E =>
  ∃ (A : Addr → Prop) (ts : List T) (M : Option Addr), (∀ a, A a → ∃ o, H a = some o ∧ ∀ xs, o ≠ .tup xs) ∧ ts.length = np ∧ ArgsOk K H A mv M vs ts ∧
    match F ts with
    | .ok r => ∀ v H', Frm M H H' → ResOk K H M H' A v r → Q v H'
    | .exc c => ∀ H', Frm M H H' → E (.ref (xa c)) none H'
    | .stuck => False
theorem ArgsOk.len {mv : Option Nat} {M : Option Addr} {vs : List V} {ts : List T} (h : ArgsOk K H A mv M vs ts) : vs.length = ts.length := by
  cases mv with
  | none => exact h.2.length
  | some i =>
    obtain ⟨_, _, _, _, _, _, _, h, _⟩ := h
    exact h
theorem spF_len {xa : Nat → Addr} {mv : Option Nat} {np : Nat} {F : List T → CRes} {vs : List V} {Q : VK} {E : XK} (h : spF K xa mv np F vs H Q E) : vs.length = np := by
  obtain ⟨_, _, _, _, e, h, _⟩ := h
  exact h.len.trans e
theorem Frm.ext (h : Frm none H H') : Ext H H' := fun a o e => h a o e (by simp)
def WOf (xa : Nat → Addr) (Wf : XW) : WX := fun cls d σ H => ∃ c, cls = .ref (xa c) ∧ d = none ∧ Wf c σ H
theorem rd_noA {v : V} {r : R} {t : T} (h : RVD K Z σ H ρ v r) (s : SR K H0 Z σ H ρ) (e : Py.rd r ρ = some t) : Rep K H NoA v t := (h.top s e).noA
theorem rds_noA : ∀ {vs : List V} {rs : List R} {ts : List T}, RVDs K Z σ H ρ vs rs → SR K H0 Z σ H ρ → Py.rds rs ρ = some ts → Reps K H NoA vs ts
  | _, _, ts, .nil, s, e => by
    have e : some [] = some ts := e
    cases e
    exact .nil
  | _, _, ts, .cons (b := r) (l₂ := rs) h1 h2, s, e => by
    have e : ((Py.rd r ρ).bind fun t => (Py.rds rs ρ).map (t :: ·)) = some ts := e
    obtain ⟨t, e1, e2⟩ := Option.bind_eq_some_iff.mp e
    obtain ⟨ts', e3, rfl⟩ := Option.map_eq_some_iff.mp e2
    exact .cons (rd_noA h1 s e1) (rds_noA h2 s e3)
theorem esc_rd {r : R} {t : T} (e : Py.esc r ρ = some (t, ρ')) : Py.rd r ρ = some t ∧ ∀ q, Py.rd q ρ' = Py.rd q ρ := by
  cases r with
  | tmp u =>
    simp only [Py.esc] at e
    cases e
    exact ⟨rfl, fun _ => rfl⟩
  | new u =>
    simp only [Py.esc] at e
    cases e
    exact ⟨rfl, fun _ => rfl⟩
  | slot i =>
    simp only [Py.esc] at e
    split at e
    · rename_i u q
      cases e
      exact ⟨by simp only [Py.rd, q], fun _ => rfl⟩
    · rename_i u q
      cases e
      refine ⟨by simp only [Py.rd, q], fun r => ?_⟩
      cases r with
      | tmp u => rfl
      | new u => rfl
      | slot j =>
        have hl : i < ρ.length := (List.getElem?_eq_some_iff.mp q).1
        by_cases ij : i = j
        · subst ij
          simp only [Py.rd, set_at hl, q]
        · simp only [Py.rd, set_off ij]
    · cases e
theorem rds_same (h : ∀ q, Py.rd q ρ' = Py.rd q ρ) : ∀ rs, Py.rds rs ρ' = Py.rds rs ρ
  | [] => rfl
  | r :: rs => by
    show ((Py.rd r ρ').bind fun t => (Py.rds rs ρ').map (t :: ·)) = ((Py.rd r ρ).bind fun t => (Py.rds rs ρ).map (t :: ·))
    rw [h r, rds_same h rs]
theorem escs_ok : ∀ {vs : List V} {rs : List R} {ts : List T} {ρ ρ' : PEnv}, RVDs K Z σ H ρ vs rs → SR K H0 Z σ H ρ → Py.rds rs ρ = some ts → Py.escs rs ρ = some ρ' →
    SR K H0 Z σ H ρ' ∧ Kp H H (Ow σ ρ) (Ow σ ρ') ∧ Reps K H (Av Z σ ρ') vs ts
  | _, _, ts, ρ, ρ', .nil, s, e, f => by
    have e : some [] = some ts := e
    have f : some ρ = some ρ' := f
    cases e
    cases f
    exact ⟨s, Kp.same, .nil⟩
  | _, _, ts, ρ, ρ', .cons (b := r) (l₂ := rs) h1 h2, s, e, f => by
    have e : ((Py.rd r ρ).bind fun t => (Py.rds rs ρ).map (t :: ·)) = some ts := e
    have f : ((Py.esc r ρ).bind fun p => Py.escs rs p.2) = some ρ' := f
    obtain ⟨t, e1, e2⟩ := Option.bind_eq_some_iff.mp e
    obtain ⟨ts', e3, rfl⟩ := Option.map_eq_some_iff.mp e2
    obtain ⟨⟨t2, ρ1⟩, f1, f2⟩ := Option.bind_eq_some_iff.mp f
    obtain ⟨s1, k1, r1⟩ := esc_ok h1 s f1
    obtain ⟨g1, g2⟩ := esc_rd f1
    rw [g1] at e1
    cases e1
    obtain ⟨s2, k2, r2⟩ := escs_ok (RVDs.keep h2 k1) s1 ((rds_same g2 rs).trans e3) f2
    exact ⟨s2, k1.trans k2, .cons (r1.keep (av_kp k2)) r2⟩
theorem apart_res {r : R} {v : V} {p : Option Addr} (ap : Py.apartR r = true) (s : SR K H0 Z σ H ρ) (e : Ext H H') (h : ResOk K H none H' A v r) : RV K H0 Z σ H' ρ v r := by
  cases r with
  | tmp t => exact Rep.pure h (by simpa [Py.apartR] using ap)
  | slot i => exact h.elim
  | new t =>
    obtain ⟨q, rfl, h1, _, h2⟩ := h
    have h1 : H q = none := h1.elim id fun z => by cases z
    obtain ⟨o, ho, ht⟩ := h2.some
    refine ⟨q, rfl, ?_, fun z => ?_, s.aside e h1 ho ht, h2.pure ap⟩
    · cases z : H0 q with
      | none => rfl
      | some x =>
        have := s.base q x z
        rw [h1] at this
        cases this
    · obtain ⟨x, y, _⟩ := s.zin q z
      rw [h1] at y
      cases y
theorem any_res {r : R} {v : V} (s : SR K H0 Z σ H ρ) (e : Ext H H') (h : ResOk K H none H' (Av Z σ ρ) v r) : RV K H0 Z σ H' ρ v r := by
  cases r with
  | tmp t => exact h
  | slot i => exact h.elim
  | new t =>
    obtain ⟨q, rfl, h1, _, h2⟩ := h
    have h1 : H q = none := h1.elim id fun z => by cases z
    obtain ⟨o, ho, ht⟩ := h2.some
    refine ⟨q, rfl, ?_, fun z => ?_, s.aside e h1 ho ht, h2⟩
    · cases z : H0 q with
      | none => rfl
      | some x =>
        have := s.base q x z
        rw [h1] at this
        cases this
    · obtain ⟨x, y, _⟩ := s.zin q z
      rw [h1] at y
      cases y
theorem starE_cons {e : Expr} {es : List Expr} (h : (e :: es).all plainE = true) (env : Env) (pos : Pos) : starEach (e :: es) env = (false, eval e env) :: starEach es env ∧ (backTo pos (starEach es env)).any (·.1) = false := by
  simp only [List.all_cons, Bool.and_eq_true] at h
  exact ⟨star_plain h.1 _ _, back_any h.2 _ _⟩
theorem rds_len : ∀ {rs : List R} {ts : List T}, Py.rds rs ρ = some ts → ts.length = rs.length
  | [], ts, e => by
    have e : some [] = some ts := e
    cases e
    rfl
  | r :: rs, ts, e => by
    have e : ((Py.rd r ρ).bind fun t => (Py.rds rs ρ).map (t :: ·)) = some ts := e
    obtain ⟨t, e1, e2⟩ := Option.bind_eq_some_iff.mp e
    obtain ⟨ts', e3, rfl⟩ := Option.map_eq_some_iff.mp e2
    simp [rds_len e3]
theorem goS2_len : ∀ {xs : List Ex} {ρ ρ' : PEnv} {rs : List R}, (Py.goS C call xs).2 ρ = .ok (rs, ρ') → rs.length = xs.length
  | [], ρ, ρ', rs, h => by
    have h : Res.ok (([] : List R), ρ) = .ok (rs, ρ') := h
    cases h
    rfl
  | x :: xs, ρ, ρ', rs, h => by
    have h : (Py.bnd ((Py.go C call x).1 ρ) fun r ρ => Py.bnd ((Py.goS C call xs).2 ρ) fun rs ρ => .ok (r :: rs, ρ)) = .ok (rs, ρ') := h
    obtain ⟨_, _, _, h⟩ := ok_bnd h
    obtain ⟨ts', _, e, h⟩ := ok_bnd h
    cases h
    rw [List.length_cons, List.length_cons, goS2_len e]
theorem callR_len {f : Nat} {rs : List R} {x : R × PEnv} : Py.callR call f rs ρ = .ok x → True := fun _ => trivial
variable {k np fI : Nat} {fa : Addr} {fd : FuncData} {ps : List Str} {xa : Nat → Addr} {x : Str} {p : Pos}
theorem se_call (F : FnOk X.prog X.w X.K X.mg X.base (L2.CX X.prog X.w) k fa fd ps (spF X.K xa none np (call fI))) (hr : Room k X.A) (hg : Gl X x) (hm : X.mg x = some (.ref fa)) (hk : PySem.W.keepIn X.K (.ref fa) = true) (hb : Binds X.K fd ps []) (tk : Takes X (WOf xa Wf))
    (hdb : (x == ("__debug__" : Str)) = false) (hpl : (e :: es).all plainE = true) (hlen : xs.length = np) (ha : SRs X H0 Wf (e :: es) (Py.goS C call xs).2) : SE X H0 Wf (.Call (.Name x p) (e :: es) [] pos) (Py.go C call (.call fI xs)).1 := by
  obtain ⟨t, pt, sm⟩ := ha
  refine ⟨_, pe_callS F hr hg hm hk hb (passAt tk) pt hdb (starE_cons hpl _ pos).1 (starE_cons hpl _ pos).2, fun σ H Q ρ Z s h => ?_⟩
  have h : PostE X.K H0 Wf Z σ H ρ (Py.bnd ((Py.goS C call xs).2 ρ) fun rs ρ => Py.callR call fI rs ρ) Q := h
  refine sm σ H _ ρ Z s (post_bnd_eq (RelX := fun H' ρ' vs rs => RVDs X.K Z σ H' ρ' vs rs) h fun rs ρ1 vs H1 eq1 s1 k1 rv q => ?_)
  obtain ⟨ts, e1, q⟩ := post_lift q
  have hl : ts.length = np := (rds_len e1).trans ((goS2_len eq1).trans hlen)
  cases hcall : call fI ts with
  | ok r =>
    rw [hcall] at q
    have q : PostE X.K H0 Wf Z σ H1 ρ1 (if Py.apartR r = true then .ok (r, ρ1) else Py.lift (Py.escs rs ρ1) fun ρ' => .ok (r, ρ')) Q := q
    by_cases ap : Py.apartR r = true
    · rw [if_pos ap] at q
      refine ⟨NoA, ts, none, fun a z => z.elim, hl, ⟨rfl, rds_noA rv s1 e1⟩, ?_⟩
      rw [hcall]
      intro v H2 fr res
      exact q v H2 (s1.ext fr.ext) (Kp.ext fr.ext fun _ _ _ z => z) (apart_res (p := none) ap s1 fr.ext res)
    · rw [if_neg ap] at q
      obtain ⟨ρ2, e2, q⟩ := post_lift q
      obtain ⟨s2, k2, r2⟩ := escs_ok rv s1 e1 e2
      refine ⟨Av Z σ ρ2, ts, none, fun a z => s2.avIn z, hl, ⟨rfl, r2⟩, ?_⟩
      rw [hcall]
      intro v H2 fr res
      exact q v H2 (s2.ext fr.ext) (k2.trans (Kp.ext fr.ext fun _ _ _ z => z)) (any_res s2 fr.ext res)
  | exc c =>
    rw [hcall] at q
    refine ⟨NoA, ts, none, fun a z => z.elim, hl, ⟨rfl, rds_noA rv s1 e1⟩, ?_⟩
    rw [hcall]
    intro H2 fr
    exact ⟨c, rfl, rfl, q H2 (s1.ext fr.ext) (Kp.ext fr.ext fun _ _ _ z => z)⟩
  | stuck =>
    rw [hcall] at q
    exact q.elim
end Sd
set_option Elab.async false
set_option linter.all false
set_option autoImplicit false
set_option maxRecDepth 100000
namespace Sd
open PySem PySem.Spec PyProof.Rows L2
open Py (T Sl R Res CRes SRes Ex Stm W Tg)
variable {H H' : Hp} {H0 : B0} {A A' Z : Addr → Prop} {σ σ' : L2.St} {ρ ρ' : PEnv} {X : Cx} {K : PySem.W.Frag} {Wf : XW} {α β γ δ : Type}
variable {C : List T} {call : Nat → List T → CRes} {a b c o e : Expr} {ea eb ec eo : Ex} {pos : Pos} {es : List Expr} {xs : List Ex}
def GSim (K : PySem.W.Frag) (H0 : B0) (g : TG) (tg : Tg) : Prop :=
  ∀ (σ : L2.St) (H : Hp) (ρ ρ' : PEnv) (Z : Addr → Prop) (x : V) (t : T) (Q : L2.St → Hp → Prop), SR K H0 Z σ H ρ → Rep K H (Av Z σ ρ) x t → Py.put tg t ρ = some ρ' →
    (∀ σ', SR K H0 Z σ' H ρ' → (∀ a, Ow σ' ρ' a → Ow σ ρ a) → (∀ vs : List Nat, (∀ i ∈ tg.slots, i ∈ vs) → wipe σ' vs = wipe σ vs) → Q σ' H) → g x σ H Q
theorem uni_E {ι : Type} {B : ι → Cx} {m : PEnv → Res (R × PEnv)} (h : ∀ i, ∃ t, PE (B i) e t ∧ Sim K H0 Wf t m) : ∃ t, (∀ i, PE (B i) e t) ∧ Sim K H0 Wf t m :=
  ⟨fun σ H Q => ∀ i pins s, Inv (B i) pins σ H s → wpAny (model (B i).prog (B i).w) (B i).A (eval e (B i).env) (EP (B i) pins σ Q) (B i).xe s,
    fun i => ⟨fun pins s σ H Q I q => q i pins s I⟩, fun σ H Q ρ Z s q i pins sh I => by
      obtain ⟨t, pt, st⟩ := h i
      exact pt.run pins sh σ H Q I (st σ H Q ρ Z s q)⟩
theorem uni_G {ι : Type} {B : ι → Cx} {tg : Tg} {te : Expr} (h : ∀ i, ∃ g, PG (B i) te g ∧ GSim K H0 g tg) : ∃ g, (∀ i, PG (B i) te g) ∧ GSim K H0 g tg := by
  refine ⟨fun x σ H Q => ∀ i pins s u, Inv (B i) pins σ H s → RelV x u → wpAny (model (B i).prog (B i).w) (B i).A (assign te (B i).env u) (fun _ s' => ∃ σ' H', Inv (B i) pins σ' H' s' ∧ Q σ' H') (B i).xe s,
    fun i => ⟨fun pins s σ H v u Q I r q => q i pins s u I r⟩, fun σ H ρ ρ' Z x t Q s r e q i pins sh u I rv => ?_⟩
  obtain ⟨g, pt, st⟩ := h i
  exact pt.run pins sh σ H x u Q I rv (st σ H ρ ρ' Z x t Q s r e q)
theorem uni_Ts {ι : Type} {B : ι → Cx} {ifs : List Expr} {m : PEnv → Res (Bool × PEnv)} (h : ∀ i, ∃ t, PTs (B i) ifs t ∧ SimT K H0 Wf t m) : ∃ t, (∀ i, PTs (B i) ifs t) ∧ SimT K H0 Wf t m :=
  ⟨fun σ H Q => ∀ i pins s, Inv (B i) pins σ H s → wpAny (model (B i).prog (B i).w) (B i).A (forIn ifs true fun c r => if r = true then do let ok ← isTrue c (B i).env (eval c (B i).env); pure (ForInStep.yield ok) else pure (ForInStep.yield r)) (TP (B i) pins σ Q) (B i).xe s,
    fun i => ⟨fun pins s σ H Q I q => q i pins s I⟩, fun σ H Q ρ Z s q i pins sh I => by
      obtain ⟨t, pt, st⟩ := h i
      exact pt.run pins sh σ H Q I (st σ H Q ρ Z s q)⟩
theorem wipe_get (σ : L2.St) : ∀ (vs : List Nat) (i : Nat), (wipe σ vs)[i]? = if i ∈ vs then (if i < σ.length then some none else none) else σ[i]?
  | [], i => by simp [wipe]
  | v :: vs, i => by
    show ((wipe σ vs).set v none)[i]? = _
    by_cases h : v = i
    · subst h
      rw [get_set, if_pos rfl, if_pos (List.mem_cons_self ..), wipe_length]
    · rw [set_off h, wipe_get σ vs i]
      have e : (i ∈ v :: vs) ↔ i ∈ vs := ⟨fun q => (List.mem_cons.mp q).elim (fun z => absurd z.symm h) id, List.mem_cons_of_mem _⟩
      simp only [e]
theorem wipe_ext {σ τ : L2.St} {vs : List Nat} (hl : σ.length = τ.length) (h : ∀ i, i ∉ vs → σ[i]? = τ[i]?) : wipe σ vs = wipe τ vs := by
  apply List.ext_getElem?
  intro i
  rw [wipe_get, wipe_get]
  by_cases q : i ∈ vs
  · rw [if_pos q, if_pos q, hl]
  · rw [if_neg q, if_neg q, h i q]
theorem wipe_wipe (σ : L2.St) (vs : List Nat) : wipe (wipe σ vs) vs = wipe σ vs := wipe_ext (wipe_length _ _) fun i q => by rw [wipe_get, if_neg q]
theorem wipe_set (σ : L2.St) {vs : List Nat} {i : Nat} (v : Option V) (h : i ∈ vs) : wipe (σ.set i v) vs = wipe σ vs := wipe_ext (by simp) fun j q => set_off fun z => q (z ▸ h)
def SG (X : Cx) (H0 : B0) (te : Expr) (tg : Tg) : Prop := ∃ g, PG X te g ∧ GSim X.K H0 g tg
theorem gone_sim {i : Nat} (hf : H0.fx i = none) : GSim K H0 (gName i) (.one i) := fun σ H ρ ρ' Z x t Q s r e q => by
  simp only [Py.put] at e
  obtain ⟨hi, e⟩ := ite_some e
  cases e
  exact q _ (s.setVal hf hi r) (fun a h => ow_set (fun t z => by cases z) h) fun vs h => wipe_set _ _ (h i (by simp [Tg.slots]))
theorem av_setv {i : Nat} {v : Option V} {t : T} {a : Addr} (h : Av Z (σ.set i v) (ρ.set i (.val t)) a) : Av Z σ ρ a := h.elim .inl fun h => .inr (ow_set (fun t z => by cases z) h)
theorem many_sim {L : Nat} : ∀ (is : List Nat) (hf : ∀ i ∈ is, H0.fx i = none) (xs : List V) (ts : List T) (σ : L2.St) (H : Hp) (ρ : PEnv) (Z : Addr → Prop) (Q : L2.St → Hp → Prop), SR K H0 Z σ H ρ → Reps K H (Av Z σ ρ) xs ts → is.length = ts.length → ρ.length = L → is.all (· < L) = true →
    (∀ σ', SR K H0 Z σ' H ((is.zip ts).foldl (fun ρ p => ρ.set p.1 (.val p.2)) ρ) → (∀ a, Ow σ' ((is.zip ts).foldl (fun ρ p => ρ.set p.1 (.val p.2)) ρ) a → Ow σ ρ a) → (∀ vs : List Nat, (∀ i ∈ is, i ∈ vs) → wipe σ' vs = wipe σ vs) → Q σ' H) → (is.map gName).foldr gCons gNil xs σ H Q
  | [], hf, xs, ts, σ, H, ρ, Z, Q, s, r, hl, hL, ha, q => by
    cases r with
    | nil => exact ⟨rfl, q σ s (fun _ z => z) fun _ _ => rfl⟩
    | cons _ _ => simp at hl
  | i :: is, hf, xs, ts, σ, H, ρ, Z, Q, s, r, hl, hL, ha, q => by
    cases r with
    | nil => simp at hl
    | @cons x xs t ts r rs =>
      simp only [List.all_cons, Bool.and_eq_true, decide_eq_true_eq] at ha
      have hi : i < ρ.length := by rw [hL]; exact ha.1
      have s1 := s.setVal (hf i (List.mem_cons_self ..)) hi r
      refine ⟨x, xs, rfl, ?_⟩
      refine many_sim (L := L) is (fun j hj => hf j (List.mem_cons_of_mem _ hj)) xs ts (σ.set i (some x)) H (ρ.set i (.val t)) Z Q s1 (rs.weak fun a _ _ z => av_setv z) (by simpa using hl) (by simpa using hL) ha.2 fun σ' s2 k2 w2 => ?_
      refine q σ' s2 (fun a z => ow_set (fun t z => by cases z) (k2 a z)) fun vs h => ?_
      rw [w2 vs fun j hj => h j (List.mem_cons_of_mem _ hj)]
      exact wipe_set _ _ (h i (List.mem_cons_self ..))
theorem gmany_sim {is : List Nat} (hf : ∀ i ∈ is, H0.fx i = none) : GSim K H0 (gTup K is.length ((is.map gName).foldr gCons gNil)) (.many is) := fun σ H ρ ρ' Z x t Q s r e q => by
  cases t <;> first | (simp [Py.put] at e; done) | skip
  rename_i ts
  simp only [Py.put] at e
  obtain ⟨⟨h1, h2⟩, e⟩ := ite_some e
  cases e
  cases r with
  | tup h r =>
    refine ⟨_, _, rfl, .of h, by rw [r.length]; exact h1.symm, ?_⟩
    exact many_sim (L := ρ.length) is hf _ ts σ H ρ Z Q s r h1 rfl h2 q
theorem sg_one {i : Nat} {x : Str} (hx0 : H0.fx i = none) (hN : X.N.Nodup) (hi : X.N[i]? = some x) (hx : Loc X.env.scope x) (hf : X.fn x = true ∨ X.env.scope.names.lookup x = some .local) : SG X H0 (.Name x pos) (.one i) := ⟨_, pg_name hN hi hx hf, gone_sim hx0⟩
def nameOf : Expr → Option Str
  | .Name x _ => some x
  | _ => none
theorem assignEach_names : ∀ {es : List Expr} {ns : List Str} (env : Env), es.map nameOf = ns.map some → assignEach es env = es.map fun e => (false, assign e env)
  | [], _, env, _ => rfl
  | e :: es, ns, env, h => by
    cases ns with
    | nil => simp at h
    | cons n ns =>
      simp only [List.map_cons, List.cons.injEq] at h
      obtain ⟨h1, h2⟩ := h
      have ih := assignEach_names env h2
      cases e <;> first | (simp [nameOf] at h1; done) | skip
      show (false, assign _ env) :: assignEach es env = _
      rw [ih]
      rfl
theorem pgs_many (hN : X.N.Nodup) : ∀ {es : List Expr} {ns : List Str} {is : List Nat}, es.map nameOf = ns.map some → is.map (fun i => X.N[i]?) = ns.map some → (∀ n ∈ ns, Loc X.env.scope n) → (∀ n ∈ ns, X.fn n = true ∨ X.env.scope.names.lookup n = some .local) →
    PGs X es ((is.map gName).foldr gCons gNil)
  | [], ns, is, h1, h2, _, _ => by
    cases ns with
    | cons _ _ => simp at h1
    | nil =>
      cases is with
      | cons _ _ => simp at h2
      | nil => exact pgs_nil
  | e :: es, ns, is, h1, h2, h3, h4 => by
    cases ns with
    | nil => simp at h1
    | cons n ns =>
      cases is with
      | nil => simp at h2
      | cons i is =>
        simp only [List.map_cons, List.cons.injEq] at h1 h2
        obtain ⟨g1, g2⟩ := h1
        obtain ⟨f1, f2⟩ := h2
        cases e <;> first | (simp [nameOf] at g1; done) | skip
        simp only [nameOf, Option.some.injEq] at g1
        subst g1
        refine pgs_cons (pg_name hN f1 (h3 _ (List.mem_cons_self ..)) (h4 _ (List.mem_cons_self ..))) (pgs_many hN g2 f2 (fun n hn => h3 n (List.mem_cons_of_mem _ hn)) fun n hn => h4 n (List.mem_cons_of_mem _ hn)) ?_
        rfl
theorem sg_many {ns : List Str} {is : List Nat} {k : Nat} (hx0 : ∀ i ∈ is, H0.fx i = none) (hc : X.calm = true) (hN : X.N.Nodup) (h1 : es.map nameOf = ns.map some) (h2 : is.map (fun i => X.N[i]?) = ns.map some) (h3 : ∀ n ∈ ns, Loc X.env.scope n) (h4 : ∀ n ∈ ns, X.fn n = true ∨ X.env.scope.names.lookup n = some .local) :
    SG X H0 (.Tuple es k pos) (.many is) := by
  have hl : es.length = is.length := by
    have e1 := congrArg List.length h1
    have e2 := congrArg List.length h2
    simp only [List.length_map] at e1 e2
    omega
  refine ⟨_, pg_tup (n := is.length) hc (pgs_many hN h1 h2 h3 h4) ?_ ?_, gmany_sim hx0⟩
  · rw [assignEach_names _ h1, List.length_map, hl]
  · rw [assignEach_names _ h1, List.findIdx?_map]
    simp [Function.comp_def]
def Wk (K : PySem.W.Frag) (J : L2.It) (items : List T) (H : Hp) (A : Addr → Prop) : Prop :=
  ∃ (G : Hp → Prop) (Y : Nat → Hp → V → Hp → Prop), Walk J items.length G Y ∧ ∀ (H' : Hp) (A' : Addr → Prop), Kp H H' A A' → G H' ∧ ∀ (i : Nat) (x : V) (H'' : Hp), Y i H' x H'' → Ext H' H'' ∧ ∀ t, items[i]? = some t → Rep K H'' A' x t
def itemsM (k : Py.It) (m : PEnv → Res (List T × PEnv)) (ρ : PEnv) : Res (List T × PEnv) := Py.bnd (m ρ) fun ts ρ => Py.lift (Py.itemsT k ts) fun items => .ok (items, ρ)
def SI (X : Cx) (H0 : B0) (Wf : XW) (tg iter : Expr) (k : Py.It) (m : PEnv → Res (List T × PEnv)) : Prop :=
  ∃ wi : TI, PI X tg iter wi ∧ ∀ (σ : L2.St) (H : Hp) (Q : L2.It → Hp → Prop) (ρ : PEnv) (Z : Addr → Prop), SR X.K H0 Z σ H ρ → Post X.K H0 Wf Z σ H ρ (fun H' ρ' J items => Wk X.K J items H' (Av Z σ ρ')) (itemsM k m ρ) Q → wi σ H Q
theorem wk_list {p : Addr} {vs : List V} {ts : List T} (h : H p = some (.lst vs)) (n : ¬ A p) (r : Reps K H A vs ts) : Wk K (Itl K p) ts H A := by
  refine ⟨fun H => SqL K H p vs, YAt vs, by rw [← r.length]; exact walk_list, fun H' A' k => ⟨.of (k.obj _ _ h n).1, fun i x H'' y => ?_⟩⟩
  obtain ⟨rfl, e⟩ := y
  refine ⟨Ext.refl _, fun t e2 => ?_⟩
  obtain ⟨v, e3, rv⟩ := (r.keep k).get e2
  rw [e] at e3
  cases e3
  exact rv
theorem wk_tup {p : Addr} {vs : List V} {ts : List T} (h : H p = some (.tup vs)) (r : Reps K H A vs ts) : Wk K (Itt K p) ts H A := by
  refine ⟨fun H => SqT K H p vs, YAt vs, by rw [← r.length]; exact walk_tup, fun H' A' k => ⟨.of (k.tup _ _ h), fun i x H'' y => ?_⟩⟩
  obtain ⟨rfl, e⟩ := y
  refine ⟨Ext.refl _, fun t e2 => ?_⟩
  obtain ⟨v, e3, rv⟩ := (r.keep k).get e2
  rw [e] at e3
  cases e3
  exact rv
theorem wk_str {z : Str} : Wk K (Its z) (z.cps.toList.map fun c => T.str [c]) H A := by
  refine ⟨fun _ => True, _, by rw [List.length_map, Array.length_toList]; exact walk_str, fun H' A' k => ⟨trivial, fun i x H'' y => ?_⟩⟩
  obtain ⟨rfl, c, e, rfl⟩ := y
  refine ⟨Ext.refl _, fun t e2 => ?_⟩
  rw [List.getElem?_map, Array.getElem?_toList, e] at e2
  cases e2
  exact rep_str [c]
theorem wk_range {lo hi : Int} : Wk K (Itr lo (hi - lo).toNat) (Py.rangeT lo hi) H A := by
  refine ⟨fun _ => True, _, by rw [Py.rangeT, List.length_map, List.length_range]; exact walk_range, fun H' A' k => ⟨trivial, fun i x H'' y => ?_⟩⟩
  obtain ⟨rfl, rfl⟩ := y
  refine ⟨Ext.refl _, fun t e2 => ?_⟩
  rw [Py.rangeT, List.getElem?_map] at e2
  obtain ⟨n, e3, rfl⟩ := Option.map_eq_some_iff.mp e2
  rw [List.getElem?_range (by
    have := (List.getElem?_eq_some_iff.mp e3).1
    simpa using this)] at e3
  cases e3
  exact .int _
theorem wk_enum {p : Addr} {vs : List V} {ts : List T} (h : H p = some (.lst vs)) (n : ¬ A p) (r : Reps K H A vs ts) : Wk K (Ite K p) (Py.enumT ts) H A := by
  refine ⟨fun H => SqL K H p vs, _, by rw [Py.enumT, List.length_map, List.length_zipIdx, ← r.length]; exact walk_enum, fun H' A' k => ⟨.of (k.obj _ _ h n).1, fun i x H'' y => ?_⟩⟩
  obtain ⟨q, x1, y1, rfl, hq, rfl, e1, e2⟩ := y
  refine ⟨Ext.upd hq, fun t e3 => ?_⟩
  rw [Py.enumT, List.getElem?_map] at e3
  obtain ⟨u, e4, rfl⟩ := Option.map_eq_some_iff.mp e3
  rw [List.getElem?_zipIdx] at e4
  obtain ⟨w, e5, rfl⟩ := Option.map_eq_some_iff.mp e4
  obtain ⟨v, e6, rv⟩ := (r.keep k).get e5
  have e2 : vs[i]? = some y1 := e2
  rw [e2] at e6
  cases e6
  cases e1
  refine new_tup (.cons ?_ (.cons rv .nil)) hq
  rw [Nat.zero_add]
  exact .int _
def iSeq (K : PySem.W.Frag) (te : TE) : TI := fun σ H R => iList K te σ H R ∨ iTup K te σ H R ∨ iStr te σ H R
theorem pi_seq {tg : Expr} {te : TE} (h : PE X e te) : PI X tg e (iSeq X.K te) := ⟨fun pins s σ H Q I q => by
  rcases q with q | q | q
  · exact (pi_list h).run pins s σ H Q I q
  · exact (pi_tup h).run pins s σ H Q I q
  · exact (pi_str h).run pins s σ H Q I q⟩
theorem goS1_one {ρ : PEnv} : (Py.goS C call [ea]).1 ρ = Py.bnd ((Py.go C call ea).1 ρ) fun r ρ => Py.lift (Py.esc r ρ) fun p => .ok ([p.1], p.2) := by
  show (Py.bnd ((Py.go C call ea).1 ρ) fun r ρ => Py.lift (Py.esc r ρ) fun p => Py.bnd ((Py.goS C call []).1 p.2) fun ts ρ => .ok (p.1 :: ts, ρ)) = _
  rfl
theorem bnd_bnd {x : Res (α × PEnv)} {f : α → PEnv → Res (β × PEnv)} {g : β → PEnv → Res γ} : Py.bnd (Py.bnd x f) g = Py.bnd x fun a ρ => Py.bnd (f a ρ) g := by
  cases x <;> rfl
theorem lift_bnd {x : Option α} {f : α → Res (β × PEnv)} {g : β → PEnv → Res γ} : Py.bnd (Py.lift x f) g = Py.lift x fun a => Py.bnd (f a) g := by
  cases x <;> rfl
theorem si_seq {tg : Expr} (ha : SE X H0 Wf a (Py.go C call ea).1) : SI X H0 Wf tg a .seq (Py.goS C call [ea]).1 := by
  obtain ⟨ta, pa, sa⟩ := ha
  refine ⟨_, pi_seq pa, fun σ H Q ρ Z s h => ?_⟩
  unfold itemsM at h
  rw [goS1_one, bnd_bnd] at h
  cases em : (Py.go C call ea).1 ρ with
  | stuck =>
    rw [em] at h
    exact h.elim
  | exc c ρ1 =>
    refine .inl (sa σ H _ ρ Z s ?_)
    rw [em] at h ⊢
    exact h
  | ok x =>
    obtain ⟨r, ρ1⟩ := x
    rw [em] at h
    have h : Post X.K H0 Wf Z σ H ρ (fun H' ρ' J items => Wk X.K J items H' (Av Z σ ρ')) (Py.bnd (Py.lift (Py.esc r ρ1) fun p => .ok ([p.1], p.2)) fun ts ρ => Py.lift (Py.itemsT .seq ts) fun items => .ok (items, ρ)) Q := h
    rw [lift_bnd] at h
    obtain ⟨⟨t, ρ2⟩, e2, h⟩ := post_lift h
    have h : Post X.K H0 Wf Z σ H ρ (fun H' ρ' J items => Wk X.K J items H' (Av Z σ ρ')) (Py.lift (Py.itemsT .seq [t]) fun items => .ok (items, ρ2)) Q := h
    obtain ⟨items, e3, h⟩ := post_lift h
    cases t <;> first | (simp [Py.itemsT] at e3; done) | skip
    · cases e3
      refine .inr (.inr (sa σ H _ ρ Z s ?_))
      rw [em]
      intro v H1 s1 k1 rv
      obtain ⟨s2, k2, rp⟩ := esc_ok rv.d s1 e2
      obtain ⟨x, rfl, rfl⟩ := rp.str_of
      exact ⟨x, rfl, h _ H1 s2 (k1.trans k2) wk_str⟩
    · cases e3
      refine .inr (.inl (sa σ H _ ρ Z s ?_))
      rw [em]
      intro v H1 s1 k1 rv
      obtain ⟨s2, k2, rp⟩ := esc_ok rv.d s1 e2
      cases rp with
      | tup h1 r1 => exact ⟨_, rfl, ⟨_, .of h1⟩, h _ H1 s2 (k1.trans k2) (wk_tup h1 r1)⟩
    · cases e3
      refine .inl (sa σ H _ ρ Z s ?_)
      rw [em]
      intro v H1 s1 k1 rv
      obtain ⟨s2, k2, rp⟩ := esc_ok rv.d s1 e2
      cases rp with
      | lst h1 n1 r1 => exact ⟨_, rfl, ⟨_, .of h1⟩, h _ H1 s2 (k1.trans k2) (wk_list h1 n1 r1)⟩
theorem paired1 {t : T} {vs : List V} (h : Reps K H A vs [t]) : ∃ v, vs = [v] ∧ Rep K H A v t := by
  cases h with
  | cons r q =>
    cases q
    exact ⟨_, rfl, r⟩
theorem paired2 {t u : T} {vs : List V} (h : Reps K H A vs [t, u]) : ∃ v w, vs = [v, w] ∧ Rep K H A v t ∧ Rep K H A w u := by
  cases h with
  | cons r q =>
    obtain ⟨w, rfl, q'⟩ := paired1 q
    exact ⟨_, _, rfl, r, q'⟩
theorem it_rng1 {ts items : List T} (h : Py.itemsT .rng1 ts = some items) : ∃ b : Int, ts = [.int b] ∧ -1000000 ≤ b ∧ b ≤ 1000000 ∧ items = Py.rangeT 0 b := by
  cases ts with
  | nil => simp [Py.itemsT] at h
  | cons t ts =>
    cases t <;> cases ts <;> first | (simp [Py.itemsT] at h; done) | skip
    rename_i b
    have h : (if decide (-1000000 ≤ b) && decide (b ≤ 1000000) then some (Py.rangeT 0 b) else none) = some items := h
    obtain ⟨g, e⟩ := ite_some h
    cases e
    simp only [Bool.and_eq_true, decide_eq_true_eq] at g
    exact ⟨b, rfl, g.1, g.2, rfl⟩
theorem it_rng2 {ts items : List T} (h : Py.itemsT .rng2 ts = some items) : ∃ a b : Int, ts = [.int a, .int b] ∧ -1000000 ≤ a ∧ a ≤ 1000000 ∧ -1000000 ≤ b ∧ b ≤ 1000000 ∧ items = Py.rangeT a b := by
  cases ts with
  | nil => simp [Py.itemsT] at h
  | cons t ts =>
    cases ts with
    | nil => cases t <;> (simp [Py.itemsT] at h; done)
    | cons u ts =>
      cases t <;> first | (simp [Py.itemsT] at h; done) | skip
      cases u <;> cases ts <;> first | (simp [Py.itemsT] at h; done) | skip
      rename_i a b
      have h : (if decide (-1000000 ≤ a) && decide (a ≤ 1000000) && decide (-1000000 ≤ b) && decide (b ≤ 1000000) then some (Py.rangeT a b) else none) = some items := h
      obtain ⟨g, e⟩ := ite_some h
      cases e
      simp only [Bool.and_eq_true, decide_eq_true_eq] at g
      exact ⟨a, b, rfl, g.1.1.1, g.1.1.2, g.1.2, g.2, rfl⟩
theorem it_enm {ts items : List T} (h : Py.itemsT .enm ts = some items) : ∃ us, ts = [.lst us] ∧ items = Py.enumT us := by
  cases ts with
  | nil => simp [Py.itemsT] at h
  | cons t ts =>
    cases t <;> cases ts <;> first | (simp [Py.itemsT] at h; done) | skip
    rename_i us
    have h : some (Py.enumT us) = some items := h
    cases h
    exact ⟨us, rfl, rfl⟩
theorem Rep.int_of {v : V} {i : Int} (h : Rep K H A v (.int i)) : v = .int i := Top.int (.inr h)
theorem si_rng1 {tg : Expr} {p : Pos} (hg : Gl X "range") (hm : X.mg "range" = none) (hp : plainE a = true) (ha : SE X H0 Wf a (Py.go C call ea).1) : SI X H0 Wf tg (.Call (.Name "range" p) [a] [] pos) .rng1 (Py.goS C call [ea]).1 := by
  obtain ⟨t, pt, st⟩ := sl_cons hp ha sl_nil
  refine ⟨_, pi_range1 hg hm pt (star_plain hp _ _), fun σ H Q ρ Z s h => ?_⟩
  refine st σ H _ ρ Z s (post_bnd (RelX := fun H' ρ' vs ts => Reps X.K H' (Av Z σ ρ') vs ts) h fun ts ρ1 vs H1 s1 k1 r q => ?_)
  obtain ⟨items, e, q⟩ := post_lift q
  obtain ⟨b, rfl, g1, g2, rfl⟩ := it_rng1 e
  obtain ⟨v, rfl, rv⟩ := paired1 r
  cases rv.int_of
  have w := wk_range (K := X.K) (lo := 0) (hi := b) (H := H1) (A := Av Z σ ρ1)
  rw [Int.sub_zero] at w
  exact ⟨b, rfl, by omega, by omega, q _ H1 s1 Kp.same w⟩
theorem si_rng2 {tg : Expr} {p : Pos} (hg : Gl X "range") (hm : X.mg "range" = none) (hp : plainE a = true) (hp2 : plainE b = true) (ha : SE X H0 Wf a (Py.go C call ea).1) (hb : SE X H0 Wf b (Py.go C call eb).1) :
    SI X H0 Wf tg (.Call (.Name "range" p) [a, b] [] pos) .rng2 (Py.goS C call [ea, eb]).1 := by
  obtain ⟨t, pt, st⟩ := sl_cons hp ha (sl_cons hp2 hb sl_nil)
  refine ⟨_, pi_range2 hg hm pt (by rw [star_plain hp, star_plain hp2]; rfl) (star_plain hp2 _ _), fun σ H Q ρ Z s h => ?_⟩
  refine st σ H _ ρ Z s (post_bnd (RelX := fun H' ρ' vs ts => Reps X.K H' (Av Z σ ρ') vs ts) h fun ts ρ1 vs H1 s1 k1 r q => ?_)
  obtain ⟨items, e, q⟩ := post_lift q
  obtain ⟨lo, hi, rfl, g1, g2, g3, g4, rfl⟩ := it_rng2 e
  obtain ⟨v, w, rfl, rv, rw'⟩ := paired2 r
  cases rv.int_of
  cases rw'.int_of
  exact ⟨lo, hi, rfl, ⟨by omega, by omega, by omega, by omega⟩, q _ H1 s1 Kp.same wk_range⟩
theorem si_enm {elts : List Expr} {kk : Nat} {tpos p : Pos} (hg : Gl X "enumerate") (hm : X.mg "enumerate" = none) (hp : plainE a = true) (ha : SE X H0 Wf a (Py.go C call ea).1) : SI X H0 Wf (.Tuple elts kk tpos) (.Call (.Name "enumerate" p) [a] [] pos) .enm (Py.goS C call [ea]).1 := by
  obtain ⟨t, pt, st⟩ := sl_cons hp ha sl_nil
  refine ⟨_, pi_enum hg hm pt (star_plain hp _ _), fun σ H Q ρ Z s h => ?_⟩
  refine st σ H _ ρ Z s (post_bnd (RelX := fun H' ρ' vs ts => Reps X.K H' (Av Z σ ρ') vs ts) h fun ts ρ1 vs H1 s1 k1 r q => ?_)
  obtain ⟨items, e, q⟩ := post_lift q
  obtain ⟨us, rfl, rfl⟩ := it_enm e
  obtain ⟨v, rfl, rv⟩ := paired1 r
  cases rv with
  | lst h1 n1 r1 => exact ⟨_, _, rfl, .of h1, q _ H1 s1 Kp.same (wk_enum h1 n1 r1)⟩
end Sd
set_option Elab.async false
set_option linter.all false
set_option autoImplicit false
set_option maxRecDepth 100000
namespace Sd
open PySem PySem.Spec PyProof.Rows L2
open Py (T Sl R Res CRes SRes Ex Stm W Tg)
variable {H H' : Hp} {H0 : B0} {A A' Z : Addr → Prop} {σ σ' : L2.St} {ρ ρ' : PEnv} {X : Cx} {K : PySem.W.Frag} {Wf : XW} {α β γ δ : Type}
variable {C : List T} {call : Nat → List T → CRes} {a b c o e : Expr} {ea eb ec eo : Ex} {pos : Pos} {es : List Expr} {xs : List Ex}
theorem SR.zchg (s : SR K H0 Z σ H ρ) {D : Addr} (hz : Z D) (h0 : H0 D = none) {o : HO} (ho : ∀ xs, o ≠ .tup xs) : SR K H0 Z σ (upd H D o) ρ := by
  obtain ⟨o0, q1, q2⟩ := s.zin D hz
  have kp : Kp H (upd H D o) (Av Z σ ρ) (Av Z σ ρ) := kp_upd (.inl hz) q1 q2
  refine ⟨s.len, fun a x e => ?_, fun a z => ?_, fun i t e => ?_, fun i t e => ?_, s.uniq, s.fix⟩
  · have ne : a ≠ D := fun z => by
      subst z
      rw [h0] at e
      cases e
    rw [upd_ne ne]
    exact s.base a x e
  · by_cases ne : a = D
    · subst ne
      exact ⟨o, upd_same, ho⟩
    · obtain ⟨x, e1, e2⟩ := s.zin a z
      exact ⟨x, by rw [upd_ne ne]; exact e1, e2⟩
  · obtain ⟨v, e1, e2⟩ := s.val i t e
    exact ⟨v, e1, e2.keep kp⟩
  · obtain ⟨a, e1, e2, e3, e4⟩ := s.own i t e
    have ne : a ≠ D := fun z => e3 (z ▸ hz)
    exact ⟨a, e1, e2, e3, e4.keep kp (upd_ne ne)⟩
theorem wipeE_len : ∀ (is : List Nat) (ρ : PEnv), (Py.wipeE is ρ).length = ρ.length
  | [], _ => rfl
  | i :: is, ρ => by
    show (Py.wipeE is (ρ.set i .un)).length = _
    rw [wipeE_len is]
    simp
theorem wipeE_get : ∀ (is : List Nat) (ρ : PEnv) (i : Nat), (Py.wipeE is ρ)[i]? = if i ∈ is then (if i < ρ.length then some .un else none) else ρ[i]?
  | [], ρ, i => by simp [Py.wipeE]
  | v :: vs, ρ, i => by
    show (Py.wipeE vs (ρ.set v .un))[i]? = _
    rw [wipeE_get vs]
    by_cases h : v = i
    · subst h
      rw [if_pos (List.mem_cons_self ..), List.length_set]
      by_cases q : v ∈ vs
      · rw [if_pos q]
      · rw [if_neg q, get_set, if_pos rfl]
    · have e : (i ∈ v :: vs) ↔ i ∈ vs := ⟨fun q => (List.mem_cons.mp q).elim (fun z => absurd z.symm h) id, List.mem_cons_of_mem _⟩
      simp only [e, List.length_set, set_off h]
theorem backE_len (old : PEnv) : ∀ (is : List Nat) (ρ : PEnv), (Py.backE is old ρ).length = ρ.length
  | [], _ => rfl
  | i :: is, ρ => by
    show (Py.backE is old (ρ.set i (old.getD i .un))).length = _
    rw [backE_len old is]
    simp
theorem backE_get (old : PEnv) : ∀ (is : List Nat) (ρ : PEnv) (i : Nat), (Py.backE is old ρ)[i]? = if i ∈ is then (if i < ρ.length then some (old.getD i .un) else none) else ρ[i]?
  | [], ρ, i => by simp [Py.backE]
  | v :: vs, ρ, i => by
    show (Py.backE vs old (ρ.set v (old.getD v .un)))[i]? = _
    rw [backE_get old vs]
    by_cases h : v = i
    · subst h
      rw [if_pos (List.mem_cons_self ..), List.length_set]
      by_cases q : v ∈ vs
      · rw [if_pos q]
      · rw [if_neg q, get_set, if_pos rfl]
    · have e : (i ∈ v :: vs) ↔ i ∈ vs := ⟨fun q => (List.mem_cons.mp q).elim (fun z => absurd z.symm h) id, List.mem_cons_of_mem _⟩
      simp only [e, List.length_set, set_off h]
theorem ow_wipe {is : List Nat} {a : Addr} (h : Ow (wipe σ is) (Py.wipeE is ρ) a) : Ow σ ρ a := by
  obtain ⟨i, t, e1, e2⟩ := h
  rw [wipeE_get] at e1
  rw [wipe_get] at e2
  by_cases q : i ∈ is
  · rw [if_pos q] at e1
    split at e1 <;> cases e1
  · rw [if_neg q] at e1 e2
    exact ⟨i, t, e1, e2⟩
theorem SR.wipe (s : SR K H0 Z σ H ρ) (is : List Nat) (hf : ∀ i ∈ is, H0.fx i = none) : SR K H0 Z (L2.wipe σ is) H (Py.wipeE is ρ) := by
  have av : ∀ a, Av Z (L2.wipe σ is) (Py.wipeE is ρ) a → Av Z σ ρ a := fun a h => h.elim .inl fun h => .inr (ow_wipe h)
  have at_ : ∀ (i : Nat) (x : Sl), x ≠ .un → (Py.wipeE is ρ)[i]? = some x → ρ[i]? = some x ∧ (L2.wipe σ is)[i]? = σ[i]? := fun i x hx e => by
    rw [wipeE_get] at e
    rw [wipe_get]
    by_cases q : i ∈ is
    · rw [if_pos q] at e
      split at e
      · exact absurd (Option.some.inj e).symm hx
      · cases e
    · rw [if_neg q] at e ⊢
      exact ⟨e, rfl⟩
  refine ⟨by rw [wipe_length, wipeE_len, s.len], s.base, s.zin, fun i t e => ?_, fun i t e => ?_, fun i j t u a e1 e2 e3 e4 => ?_, fun i v e => ?_⟩
  rotate_right
  · have hn : i ∉ is := fun z => by
      rw [hf i z] at e
      cases e
    rw [wipe_get, if_neg hn]
    exact s.fix i v e
  · obtain ⟨q1, q2⟩ := at_ i _ (by simp) e
    obtain ⟨v, h1, h2⟩ := s.val i t q1
    exact ⟨v, q2.trans h1, h2.weak fun a _ _ z => av a z⟩
  · obtain ⟨q1, q2⟩ := at_ i _ (by simp) e
    obtain ⟨v, h1, h2, h3, h4⟩ := s.own i t q1
    exact ⟨v, q2.trans h1, h2, h3, h4.keep (Kp.ext (Ext.refl _) fun a _ _ z => av a z) rfl⟩
  · obtain ⟨q1, q2⟩ := at_ i _ (by simp) e1
    obtain ⟨q3, q4⟩ := at_ j _ (by simp) e2
    exact s.uniq i j t u a q1 q3 (q2.symm.trans e3) (q4.symm.trans e4)
abbrev Bk (X : Cx) (scope : Scope) (i : Shared × Hp × Addr × List (Str × Addr) × List Addr) : Cx := X.blk i.1 i.2.1 scope (compEnvC scope i.2.2.2.1 i.2.2.1 X.env) i.2.2.2.2
abbrev NoW : XW := fun _ _ _ => False
theorem kp_d {D : Addr} {H1 H2 : Hp} {A B : Addr → Prop} (k : Kp H1 H2 A B) : Kp H1 H2 (fun a => A a ∨ a = D) (fun a => B a ∨ a = D) :=
  ⟨fun a o e n => by
    obtain ⟨q1, q2⟩ := k.obj a o e fun z => n (.inl z)
    exact ⟨q1, fun z => z.elim q2 fun z => n (.inr z)⟩, k.tup⟩
theorem noExc_ok {x : Res α} {p : α} (h : x = .ok p) : Py.noExc x = .ok p := by rw [h]; rfl
theorem lc_sim {elt tg iter : Expr} {ifs : List Expr} {scope : Scope} {own : List (Str × Nat)} {tgt : Tg} {k : Py.It} {ie : List Ex} {ee : Ex}
    (hfx : ∀ i ∈ tgt.slots, H0.fx i = none) (hi : SI X H0 Wf tg iter k (Py.goS C call ie).1) (hv : own.map (·.2) = tgt.slots)
    (hg : ∀ i, ∃ g, PG (Bk X scope i) tg g ∧ GSim X.K H0 g tgt) (ht : ∀ i, ∃ t, PTs (Bk X scope i) ifs t ∧ SimT X.K H0 NoW t (Py.go C call ec).2) (he : ∀ i, ∃ t, PE (Bk X scope i) elt t ∧ Sim X.K H0 NoW t (Py.go C call ee).1) : ∃ wi g tt te, PI X tg iter wi ∧ (∀ i, PG (Bk X scope i) tg g) ∧ (∀ i, PTs (Bk X scope i) ifs tt) ∧ (∀ i, PE (Bk X scope i) elt te) ∧ Sim X.K H0 Wf (tLc wi g tt te (own.map (·.2))) (Py.go C call (.lc ee tgt k ie ec)).1 := by
  obtain ⟨wi, pi, si⟩ := hi
  obtain ⟨g, pg, sg⟩ := uni_G hg
  obtain ⟨tt, pt, st⟩ := uni_Ts ht
  obtain ⟨te, pe, se⟩ := uni_E he
  refine ⟨wi, g, tt, te, pi, pg, pt, pe, fun σ H Q ρ Z s h => ?_⟩
  rw [hv]
  generalize eslots : tgt.slots = is at hfx
  have h : PostE X.K H0 Wf Z σ H ρ (Py.bnd (itemsM k (Py.goS C call ie).1 ρ) fun items ρ =>
      if (is.all (fun i => Py.isVal ρ[i]?) && decide (items.length ≤ Py.cap)) = true then (Py.bnd (Py.noExc (Py.lcGo (Py.lcStep tgt (Py.go C call ec).2 (Py.go C call ee).1) items [] ρ)) fun acc ρ' => .ok (.new (.lst acc), Py.backE is ρ ρ')) else .stuck) Q := by
    subst eslots
    unfold itemsM
    rw [bnd_bnd]
    simp only [lift_bnd]
    exact h
  refine si σ H _ ρ Z s (post_bnd (RelX := fun H' ρ' J items => Wk X.K J items H' (Av Z σ ρ')) h fun items ρ1 J H1 s1 k1 wk q => ?_)
  intro D hD
  by_cases hcond : (is.all (fun i => Py.isVal ρ1[i]?) && decide (items.length ≤ Py.cap)) = true
  case neg =>
    rw [if_neg hcond] at q
    exact q.elim
  rw [if_pos hcond] at q
  simp only [Bool.and_eq_true, decide_eq_true_eq, List.all_eq_true] at hcond
  obtain ⟨hval, hlen⟩ := hcond
  cases hrun : Py.lcGo (Py.lcStep tgt (Py.go C call ec).2 (Py.go C call ee).1) items [] ρ1 with
  | stuck =>
    rw [hrun] at q
    exact q.elim
  | exc c ρ' =>
    rw [hrun] at q
    exact q.elim
  | ok x =>
    obtain ⟨accF, ρF⟩ := x
    rw [hrun] at q
    have q : PostE X.K H0 Wf Z σ H1 ρ1 (.ok (.new (.lst accF), Py.backE is ρ1 ρF)) Q := q
    obtain ⟨G, Y, walk, wkp⟩ := wk
    have h0D : H0 D = none := by
      cases z : H0 D with
      | none => rfl
      | some x =>
        have := s1.base D x z
        rw [hD] at this
        cases this
    have hZD : ¬ Z D := fun z => by
      obtain ⟨x, y, _⟩ := s1.zin D z
      rw [hD] at y
      cases y
    have notOwn : ∀ i ∈ is, ∀ t, ρ1[i]? ≠ some (.own t) := fun i hi t e => by
      have := hval i hi
      rw [e] at this
      cases this
    have owEq : ∀ a, Ow (wipe σ is) (Py.wipeE is ρ1) a ↔ Ow σ ρ1 a := fun a => ⟨ow_wipe, fun ⟨i, t, e1, e2⟩ => by
      have hn : i ∉ is := fun z => notOwn i z t e1
      exact ⟨i, t, by rw [wipeE_get, if_neg hn]; exact e1, by rw [wipe_get, if_neg hn]; exact e2⟩⟩
    have sD : SR X.K H0 (fun a => Z a ∨ a = D) (wipe σ is) (upd H1 D (.lst [])) (Py.wipeE is ρ1) :=
      (s1.wipe is hfx).aside (Ext.upd hD) hD upd_same (fun _ z => by cases z)
    refine lc_it walk (fun i H2 => ∃ (ρi : PEnv) (acc : List T) (ys : List V), SR X.K H0 (fun a => Z a ∨ a = D) (wipe σ is) H2 (Py.wipeE is ρi) ∧ Kp (upd H1 D (.lst [])) H2 (fun a => Ow (wipe σ is) (Py.wipeE is ρ1) a ∨ a = D) (fun a => Ow (wipe σ is) (Py.wipeE is ρi) a ∨ a = D) ∧
      H2 D = some (.lst ys) ∧ Reps X.K H2 (Av (fun a => Z a ∨ a = D) (wipe σ is) (Py.wipeE is ρi)) ys acc ∧ acc.length ≤ i ∧ Py.lcGo (Py.lcStep tgt (Py.go C call ec).2 (Py.go C call ee).1) (items.drop i) acc ρi = .ok (accF, ρF)) ?_ ?_ ?_ ?_
    · exact ⟨ρ1, [], [], sD, Kp.same, upd_same, .nil, Nat.le_refl _, hrun⟩
    · rintro i H2 hi ⟨ρi, acc, ys, s2, k2, d2, r2, l2, run2⟩
      refine (wkp H2 (Av (fun a => Z a ∨ a = D) (wipe σ is) (Py.wipeE is ρi)) ?_).1
      refine ⟨fun a o e n => ?_, fun a vs e => k2.tup a vs (Ext.upd hD a _ e)⟩
      have ne : a ≠ D := ne_of_none e hD
      obtain ⟨q1, q2⟩ := k2.obj a o (Ext.upd hD a _ e) fun z => z.elim (fun z => n (.inr ((owEq a).mp z))) ne
      exact ⟨q1, fun z => z.elim (fun z => z.elim (fun z => n (.inl z)) ne) fun z => q2 (.inl z)⟩
    · rintro i x H2 H3 hi ⟨ρi, acc, ys, s2, k2, d2, r2, l2, run2⟩ hY
      have kpA : Kp H1 H2 (Av Z σ ρ1) (Av (fun a => Z a ∨ a = D) (wipe σ is) (Py.wipeE is ρi)) := by
        refine ⟨fun a o e n => ?_, fun a vs e => k2.tup a vs (Ext.upd hD a _ e)⟩
        have ne : a ≠ D := ne_of_none e hD
        obtain ⟨q1, q2⟩ := k2.obj a o (Ext.upd hD a _ e) fun z => z.elim (fun z => n (.inr ((owEq a).mp z))) ne
        exact ⟨q1, fun z => z.elim (fun z => z.elim (fun z => n (.inl z)) ne) fun z => q2 (.inl z)⟩
      obtain ⟨ex, rx⟩ := (wkp H2 _ kpA).2 i x H3 hY
      have hit : items[i]? = some (items[i]'hi) := List.getElem?_eq_getElem hi
      have rx := rx _ hit
      generalize items[i]'hi = t at hit rx
      have hdrop : items.drop i = t :: items.drop (i + 1) := by
        obtain ⟨hi', e⟩ := List.getElem?_eq_some_iff.mp hit
        rw [List.drop_eq_getElem_cons hi', e]
      rw [hdrop] at run2
      have run2 : (Py.bnd (Py.lcStep tgt (Py.go C call ec).2 (Py.go C call ee).1 t ρi) fun o ρ => match o with
        | some y => Py.lcGo (Py.lcStep tgt (Py.go C call ec).2 (Py.go C call ee).1) (items.drop (i + 1)) (acc ++ [y]) ρ
        | none => Py.lcGo (Py.lcStep tgt (Py.go C call ec).2 (Py.go C call ee).1) (items.drop (i + 1)) acc ρ) = .ok (accF, ρF) := run2
      obtain ⟨oo, ρn, run3, run4⟩ := ok_bnd run2
      unfold Py.lcStep at run3
      obtain ⟨ρ2, e2, run5⟩ := ok_lift run3
      rw [eslots] at e2
      obtain ⟨bb, ρ3, e3, run6⟩ := ok_bnd run5
      refine sg (wipe σ is) H3 (Py.wipeE is ρi) ρ2 (fun a => Z a ∨ a = D) x t _ (s2.ext ex) rx e2 fun σ2 s3 ow2 w2 => ?_
      have ws : wipe σ2 is = wipe σ is := by rw [w2 is (fun j hj => by rw [eslots] at hj; exact hj), wipe_wipe]
      have d3 : H3 D = some (.lst ys) := ex D _ d2
      refine ⟨ws, st σ2 H3 _ ρ2 _ s3 ?_⟩
      rw [e3]
      intro b' H4 s4 k4 eb
      subst eb
      have nD : ¬ Ow σ2 ρ2 D := fun ⟨j, u, e1, e2⟩ => by
        obtain ⟨p, q1, _, q3, _⟩ := s3.own j u e1
        rw [e2] at q1
        cases q1
        exact q3 (.inr rfl)
      have d4 : H4 D = some (.lst ys) := (k4.obj D _ d3 nD).1
      have k23 : Kp H2 H3 (Ow (wipe σ is) (Py.wipeE is ρi)) (Ow σ2 ρ2) := Kp.ext ex fun a _ _ z => ow2 a z
      have k24 := k23.trans k4
      cases b' with
      | false =>
        rw [if_neg Bool.false_ne_true] at run6 ⊢
        cases run6
        have s5 := s4.wipe is hfx
        rw [ws] at s5
        have kw : Kp H4 H4 (Ow σ2 ρn) (Ow (wipe σ is) (Py.wipeE is ρn)) := by
          rw [← ws]
          exact Kp.ext (Ext.refl _) fun a _ _ z => ow_wipe z
        exact ⟨ρn, acc, ys, s5, k2.trans (kp_d (k24.trans kw)), d4, r2.keep (av_kp (k24.trans kw)), by omega, run4⟩
      | true =>
        rw [if_pos rfl] at run6 ⊢
        obtain ⟨r, ρ4, e4, run7⟩ := ok_bnd run6
        obtain ⟨⟨u, ρ5⟩, e5, run8⟩ := ok_lift run7
        cases run8
        refine se σ2 H4 _ ρ3 _ s4 ?_
        rw [e4]
        intro y H5 s5 k5 rv
        obtain ⟨s6, k6, rp⟩ := esc_ok rv.d s5 e5
        have nD3 : ¬ Ow σ2 ρ3 D := (k4.obj D _ d3 nD).2
        have d5 : H5 D = some (.lst ys) := (k5.obj D _ d4 nD3).1
        have lys : ys.length = acc.length := r2.length
        have s7 := s6.wipe is hfx
        rw [ws] at s7
        have kw : Kp H5 H5 (Ow σ2 ρ5) (Ow (wipe σ is) (Py.wipeE is ρ5)) := by
          rw [← ws]
          exact Kp.ext (Ext.refl _) fun a _ _ z => ow_wipe z
        have kall := (k24.trans k5).trans (k6.trans kw)
        have kd : Kp H5 (upd H5 D (.lst (ys ++ [y]))) (fun a => Ow (wipe σ is) (Py.wipeE is ρ5) a ∨ a = D) (fun a => Ow (wipe σ is) (Py.wipeE is ρ5) a ∨ a = D) := lst_kp (.inr rfl) d5
        have kz : Kp H5 (upd H5 D (.lst (ys ++ [y]))) (Av (fun a => Z a ∨ a = D) (wipe σ is) (Py.wipeE is ρ5)) (Av (fun a => Z a ∨ a = D) (wipe σ is) (Py.wipeE is ρ5)) := lst_kp (.inl (.inr rfl)) d5
        refine ⟨ys, d5, cap_lt (by rw [lys]; have : Py.cap = 1000000 := rfl; omega), ρ5, acc ++ [u], ys ++ [y], s7.zchg (.inr rfl) h0D (fun _ z => by cases z), (k2.trans (kp_d kall)).trans kd, upd_same, ?_, ?_, run4⟩
        · exact ((r2.keep (av_kp kall)).app (.cons (rp.keep (av_kp kw)) .nil)).keep kz
        · rw [List.length_append]
          simp
          omega
    · rintro H2 ⟨ρi, acc, ys, s2, k2, d2, r2, l2, run2⟩
      rw [List.drop_length] at run2
      have run2 : Res.ok (acc, ρi) = .ok (accF, ρF) := run2
      cases run2
      have lρ : ρF.length = σ.length := by
        have := s2.len
        rw [wipe_length, wipeE_len] at this
        exact this.symm
      have lρ1 : ρ1.length = σ.length := s1.len.symm
      have at_ : ∀ (i : Nat) (x : Sl), (Py.backE is ρ1 ρF)[i]? = some x → (i ∈ is ∧ ρ1[i]? = some x) ∨ (i ∉ is ∧ (Py.wipeE is ρF)[i]? = some x ∧ (wipe σ is)[i]? = σ[i]?) := fun i x e => by
        rw [backE_get] at e
        by_cases hi : i ∈ is
        · rw [if_pos hi] at e
          split at e
          · rename_i hl
            left
            refine ⟨hi, ?_⟩
            have hl1 : i < ρ1.length := by rw [lρ1, ← lρ]; exact hl
            rw [List.getD_eq_getElem?_getD, List.getElem?_eq_getElem hl1] at e
            rw [List.getElem?_eq_getElem hl1]
            exact e
          · cases e
        · rw [if_neg hi] at e
          right
          exact ⟨hi, by rw [wipeE_get, if_neg hi]; exact e, by rw [wipe_get, if_neg hi]⟩
      have owB : ∀ a, Ow σ (Py.backE is ρ1 ρF) a → Ow (wipe σ is) (Py.wipeE is ρF) a := fun a ⟨i, t, e1, e2⟩ => by
        rcases at_ i _ e1 with ⟨hi, e⟩ | ⟨hi, e, es⟩
        · exact absurd e (notOwn i hi t)
        · exact ⟨i, t, e, es.trans e2⟩
      have avB : ∀ a, Av (fun a => Z a ∨ a = D) σ (Py.backE is ρ1 ρF) a → Av (fun a => Z a ∨ a = D) (wipe σ is) (Py.wipeE is ρF) a := fun a z => z.elim .inl fun z => .inr (owB a z)
      have kO : Kp H1 H2 (Ow σ ρ1) (Ow σ (Py.backE is ρ1 ρF)) := by
        refine ⟨fun a o e n => ?_, fun a vs e => k2.tup a vs (Ext.upd hD a _ e)⟩
        have ne : a ≠ D := ne_of_none e hD
        obtain ⟨q1, q2⟩ := k2.obj a o (Ext.upd hD a _ e) fun z => z.elim (fun z => n ((owEq a).mp z)) ne
        exact ⟨q1, fun z => q2 (.inl (owB a z))⟩
      have kA : Kp H1 H2 (Av Z σ ρ1) (Av (fun a => Z a ∨ a = D) σ (Py.backE is ρ1 ρF)) := by
        refine ⟨fun a o e n => ?_, fun a vs e => k2.tup a vs (Ext.upd hD a _ e)⟩
        have ne : a ≠ D := ne_of_none e hD
        obtain ⟨q1, q2⟩ := kO.obj a o e fun z => n (.inr z)
        exact ⟨q1, fun z => z.elim (fun z => z.elim (fun z => n (.inl z)) ne) q2⟩
      have sB : SR X.K H0 (fun a => Z a ∨ a = D) σ H2 (Py.backE is ρ1 ρF) := by
        refine ⟨by rw [backE_len, lρ], s2.base, s2.zin, fun i t e => ?_, fun i t e => ?_, fun i j t u a e1 e2 e3 e4 => ?_, s1.fix⟩
        · rcases at_ i _ e with ⟨hi, e⟩ | ⟨hi, e, es⟩
          · obtain ⟨v, v1, v2⟩ := s1.val i t e
            exact ⟨v, v1, v2.keep kA⟩
          · obtain ⟨v, v1, v2⟩ := s2.val i t e
            exact ⟨v, es.symm.trans v1, v2.weak fun a _ _ z => avB a z⟩
        · rcases at_ i _ e with ⟨hi, e⟩ | ⟨hi, e, es⟩
          · exact absurd e (notOwn i hi t)
          · obtain ⟨p, v1, v2, v3, v4⟩ := s2.own i t e
            exact ⟨p, es.symm.trans v1, v2, v3, v4.keep (Kp.ext (Ext.refl _) fun a _ _ z => avB a z) rfl⟩
        · rcases at_ i _ e1 with ⟨hi, e⟩ | ⟨hi, e, es⟩
          · exact absurd e (notOwn i hi t)
          · rcases at_ j _ e2 with ⟨hj, f⟩ | ⟨hj, f, fs⟩
            · exact absurd f (notOwn j hj u)
            · exact s2.uniq i j t u a e f (es.trans e3) (fs.trans e4)
      refine q (.ref D) H2 (sB.less fun a z => .inl z) kO ⟨D, rfl, h0D, hZD, sB, ys, d2, ?_⟩
      refine r2.weak fun a _ _ z => avB a ?_
      rcases z with (z | z) | z
      · exact .inl (.inl z)
      · exact .inr z
      · exact .inl (.inr z)
theorem se_lc {elt tg iter : Expr} {ifs : List Expr} {scope : Scope} {own : List (Str × Nat)} {tgt : Tg} {k : Py.It} {ie : List Ex} {ee : Ex}
    (hfx : ∀ i ∈ tgt.slots, H0.fx i = none) (hc : X.calm = true) (hN : X.N.Nodup) (hi : SI X H0 Wf tg iter k (Py.goS C call ie).1) (ok : BlkOk X.N X.env.scope scope own) (hv : own.map (·.2) = tgt.slots)
    (hg : ∀ i, ∃ g, PG (Bk X scope i) tg g ∧ GSim X.K H0 g tgt) (ht : ∀ i, ∃ t, PTs (Bk X scope i) ifs t ∧ SimT X.K H0 NoW t (Py.go C call ec).2) (he : ∀ i, ∃ t, PE (Bk X scope i) elt t ∧ Sim X.K H0 NoW t (Py.go C call ee).1)
    (hs : ∀ x, foldedSetIterable iter X.env x = pure x) : SE X H0 Wf (.ListComp elt [⟨tg, iter, ifs, 0⟩] scope pos) (Py.go C call (.lc ee tgt k ie ec)).1 := by
  obtain ⟨wi, g, tt, te, pi, pg, pt, pe, sm⟩ := lc_sim (Wf := Wf) hfx hi hv hg ht he
  exact ⟨_, pe_lc hc hN pi ok (fun s H C cl fp => pg (s, H, C, cl, fp)) (fun s H C cl fp => pt (s, H, C, cl, fp)) (fun s H C cl fp => pe (s, H, C, cl, fp)) hs, sm⟩
end Sd
set_option Elab.async false
set_option linter.all false
set_option autoImplicit false
set_option maxRecDepth 100000
namespace Sd
open PySem PySem.Spec PyProof.Rows L2
open Py (T Sl R Res CRes SRes Ex Stm W Tg)
variable {H H' H1 : Hp} {H0 : B0} {A A' Z Z' : Addr → Prop} {σ σ' : L2.St} {ρ ρ' : PEnv} {X : Cx} {K : PySem.W.Frag} {Wf : XW} {α β γ δ : Type}
variable {C : List T} {call : Nat → List T → CRes} {sub : Nat → Nat → Bool} {a b c o e : Expr} {ea eb ec eo : Ex} {pos : Pos} {es : List Expr} {xs : List Ex}
def RO (K : PySem.W.Frag) (H0 : B0) (Z : Addr → Prop) (H : Hp) (v : V) : R → Prop
  | .tmp t => Rep K H Z v t
  | .new t => ∃ p, v = .ref p ∧ H0 p = none ∧ ¬ Z p ∧ RepO K H (fun a => Z a ∨ a = p) p t
  | .slot _ => False
def PostS (K : PySem.W.Frag) (H0 : B0) (Wf : XW) (Z : Addr → Prop) (res : SRes) (D : Ends) : Prop :=
  match res with
  | .next ρ' => ∀ σ' H', SR K H0 Z σ' H' ρ' → D.nx σ' H'
  | .ret r ρ' => ∀ v σ' H', SR K H0 Z σ' H' ρ' → RO K H0 Z H' v r → D.rt v H'
  | .exc c ρ' => ∀ σ' H', SR K H0 Z σ' H' ρ' → Wf c σ' H'
  | .stuck => False
def SimS (K : PySem.W.Frag) (H0 : B0) (Wf : XW) (t : TS) (m : PEnv → SRes) : Prop :=
  ∀ (σ : L2.St) (H : Hp) (D : Ends) (ρ : PEnv) (Z : Addr → Prop), SR K H0 Z σ H ρ → PostS K H0 Wf Z (m ρ) D → t D σ H
def SS (X : Cx) (H0 : B0) (Wf : XW) (s : Stmt) (m : PEnv → SRes) : Prop := ∃ t, PS X s t ∧ SimS X.K H0 Wf t m
def SSs (X : Cx) (H0 : B0) (Wf : XW) (s : List Stmt) (m : PEnv → SRes) : Prop := ∃ t, PSs X s t ∧ SimS X.K H0 Wf t m
theorem post_sbnd {RelX : Hp → PEnv → δ → γ → Prop} {x : Res (γ × PEnv)} {f : γ → PEnv → SRes} {D : Ends} {QX : δ → Hp → Prop} (hz : ∀ a, Z a → Z' a) (h : PostS K H0 Wf Z (Py.sbnd x f) D)
    (n : ∀ a ρ1 b H1, SR K H0 Z' σ H1 ρ1 → Kp H H1 (Ow σ ρ) (Ow σ ρ1) → RelX H1 ρ1 b a → PostS K H0 Wf Z (f a ρ1) D → QX b H1) : Post K H0 Wf Z' σ H ρ RelX x QX := by
  cases x with
  | ok p => exact fun b H1 s1 k1 r => n p.1 p.2 b H1 s1 k1 r h
  | exc c ρ2 => exact fun H1 s1 k1 => h σ H1 (s1.less hz)
  | stuck => exact h.elim
theorem post_slift {o : Option γ} {f : γ → SRes} {D : Ends} (h : PostS K H0 Wf Z (Py.slift o f) D) : ∃ a, o = some a ∧ PostS K H0 Wf Z (f a) D := by
  cases o with
  | some a => exact ⟨a, rfl, h⟩
  | none => exact h.elim
theorem one_stm {ta : TE} {ma : PEnv → Res (R × PEnv)} (ha : Sim K H0 Wf ta ma) (s : SR K H0 Z σ H ρ) {g : R → PEnv → SRes} {D : Ends} (h : PostS K H0 Wf Z (Py.sbnd (ma ρ) g) D) {R1 : V → Hp → Prop}
    (n : ∀ (r : R) (ρ' : PEnv) (x : V) (H' : Hp), SR K H0 Z σ H' ρ' → RV K H0 Z σ H' ρ' x r → PostS K H0 Wf Z (g r ρ') D → R1 x H') : ta σ H R1 :=
  ha σ H R1 ρ Z s (post_sbnd (RelX := fun H' ρ' v r => RV K H0 Z σ H' ρ' v r) (fun _ z => z) h fun r ρ1 v H1 s1 k1 rv q => n r ρ1 v H1 s1 rv q)
theorem setR_ok {i : Nat} {v : V} {r : R} (hf : H0.fx i = none) (rv : RV K H0 Z σ H ρ v r) (s : SR K H0 Z σ H ρ) (e : Py.setR i r ρ = some ρ') : SR K H0 Z (σ.set i (some v)) H ρ' := by
  unfold Py.setR at e
  by_cases hi : i < ρ.length
  case neg =>
    rw [if_neg hi] at e
    cases e
  rw [if_pos hi] at e
  cases r with
  | tmp t =>
    cases e
    exact s.setVal hf hi rv
  | new t =>
    cases e
    obtain ⟨p, rfl, h0, hz, sp, ro⟩ := rv
    exact sp.setNew hf hi h0 hz ro
  | slot j =>
    have rv : σ[j]? = some (some v) := rv
    simp only at e
    split at e
    · rename_i t q
      cases e
      obtain ⟨w, q1, q2⟩ := s.val j _ q
      rw [rv] at q1
      cases q1
      exact s.setVal hf hi q2
    · rename_i t q
      cases e
      have s2 := s.freeze q
      have hl : j < ρ.length := (List.getElem?_eq_some_iff.mp q).1
      obtain ⟨w, q1, q2⟩ := s2.val j t (set_at hl)
      rw [rv] at q1
      cases q1
      exact s2.setVal hf (by simpa using hi) q2
    · cases e
theorem asg_sim {i : Nat} {te : TE} (hf : H0.fx i = none) (ha : Sim K H0 Wf te (Py.go C call ea).1) : SimS K H0 Wf (tAsg te (gName i)) (Py.ex1 C call sub (.asg i ea)) := fun σ H D ρ Z s h => by
  simp only [Py.ex1] at h
  refine one_stm ha s h fun r ρ1 x H1 s1 rv q => ?_
  obtain ⟨ρ2, e, q⟩ := post_slift q
  exact q _ H1 (setR_ok hf rv s1 e)
def notComp : Expr → Bool
  | .ListComp .. => false
  | .SetComp .. => false
  | .DictComp .. => false
  | _ => true
theorem swap_no {e : Expr} (h : notComp e = true) (t : Option Expr) (l : Nat) (env : Env) : swapsWith e t l env = pure false := by
  cases e <;> first | rfl | (cases h)
theorem ss_asg {i : Nat} {x : Str} {p : Pos} (hf0 : H0.fx i = none) (hN : X.N.Nodup) (hi : X.N[i]? = some x) (hx : Loc X.env.scope x) (hf : X.fn x = true ∨ X.env.scope.names.lookup x = some .local) (hc : notComp a = true) (ha : SE X H0 Wf a (Py.go C call ea).1) :
    SS X H0 Wf (.Assign [.Name x p] a pos) (Py.ex1 C call sub (.asg i ea)) := by
  obtain ⟨ta, pa, sa⟩ := ha
  exact ⟨_, ps_set hN hi hx pa (swap_no hc _ _ _) hf, asg_sim hf0 sa⟩
theorem ss_asgLc {i : Nat} {y : Str} {py spos : Pos} {elt tg iter : Expr} {ifs : List Expr} {scope : Scope} {own : List (Str × Nat)} {tgt : Tg} {k : Py.It} {ie : List Ex} {ee : Ex}
    (hf0 : H0.fx i = none) (hfx : ∀ i ∈ tgt.slots, H0.fx i = none) (hc : X.calm = true) (hN : X.N.Nodup) (hy : X.N[i]? = some y) (hyl : X.env.scope.names.lookup y = some .local) (hk : X.env.scope.kind = .function) (hl : (py.line == pos.line) = true) (hnn : (scope.names.any fun (n, k) => n == y && (k == .local || k == .cell)) = false)
    (hi : SI X H0 Wf tg iter k (Py.goS C call ie).1) (ok : BlkOk X.N X.env.scope scope own) (hv : own.map (·.2) = tgt.slots)
    (hg : ∀ i, ∃ g, PG (Bk X scope i) tg g ∧ GSim X.K H0 g tgt) (ht : ∀ i, ∃ t, PTs (Bk X scope i) ifs t ∧ SimT X.K H0 NoW t (Py.go C call ec).2) (he : ∀ i, ∃ t, PE (Bk X scope i) elt t ∧ Sim X.K H0 NoW t (Py.go C call ee).1)
    (hs : ∀ x, foldedSetIterable iter X.env x = pure x) : SS X H0 Wf (.Assign [.Name y py] (.ListComp elt [⟨tg, iter, ifs, 0⟩] scope pos) spos) (Py.ex1 C call sub (.asg i (.lc ee tgt k ie ec))) := by
  obtain ⟨wi, g, tt, te, pi, pg, pt, pe, sm⟩ := lc_sim (Wf := Wf) hfx hi hv hg ht he
  exact ⟨_, ps_setLc hc hN hy hyl (sw_true hk hyl hl hnn) pi ok (fun s H C cl fp => pg (s, H, C, cl, fp)) (fun s H C cl fp => pt (s, H, C, cl, fp)) (fun s H C cl fp => pe (s, H, C, cl, fp)) hs, asg_sim hf0 sm⟩
def isTup : Expr → Bool
  | .Tuple .. => true
  | _ => false
theorem swapped_no {t : Expr} {e : Expr} (h : isTup e = false) (env : Env) : swappedStores [t] e env = pure none := by
  cases e <;> first | (cases t <;> rfl) | (cases h)
theorem ss_asgt {is : List Nat} {tg : Expr} (hg : SG X H0 tg (.many is)) (hc : notComp a = true) (ht : isTup a = false) (h1 : (assignEach [tg] X.env).map (·.2) = [assign tg X.env]) (ha : SE X H0 Wf a (Py.go C call ea).1) :
    SS X H0 Wf (.Assign [tg] a pos) (Py.ex1 C call sub (.asgt is ea)) := by
  obtain ⟨ta, pa, sa⟩ := ha
  obtain ⟨g, pg, sg⟩ := hg
  refine ⟨_, ps_asg pa pg (swap_no hc _ _ _) (swapped_no ht _) h1, fun σ H D ρ Z s h => ?_⟩
  simp only [Py.ex1] at h
  refine one_stm sa s h fun r ρ1 x H1 s1 rv q => ?_
  obtain ⟨p, e, q⟩ := post_slift q
  obtain ⟨ρ2, e2, q⟩ := post_slift q
  obtain ⟨s2, k2, rp⟩ := esc_ok rv.d s1 e
  exact sg σ H1 p.2 ρ2 Z x p.1 _ s2 rp e2 fun σ' s3 _ _ => q σ' H1 s3
theorem ss_exp (hc : notComp a = true) (ha : SE X H0 Wf a (Py.go C call ea).1) : SS X H0 Wf (.Expr a pos) (Py.ex1 C call sub (.exp ea)) := by
  obtain ⟨ta, pa, sa⟩ := ha
  refine ⟨_, ps_expr pa (swap_no hc _ _ _), fun σ H D ρ Z s h => ?_⟩
  simp only [Py.ex1] at h
  exact one_stm sa s h fun r ρ1 x H1 s1 rv q => q σ H1 s1
theorem ss_pss : SS X H0 Wf (.Pass pos) (Py.ex1 C call sub .pss) := ⟨_, ps_pass, fun σ H D ρ Z s h => h σ H s⟩
theorem ss_ite {p q : List Stmt} {sp sq : List Stm} (hc : STst X H0 Wf c (Py.go C call ec).2) (hp : SSs X H0 Wf p (Py.exs C call sub sp)) (hq : SSs X H0 Wf q (Py.exs C call sub sq)) : SS X H0 Wf (.If c p q pos) (Py.ex1 C call sub (.ite ec sp sq)) := by
  obtain ⟨tc, pc, sc⟩ := hc
  obtain ⟨tp, pp, sip⟩ := hp
  obtain ⟨tq, pq, siq⟩ := hq
  refine ⟨_, ps_if pc pp pq, fun σ H D ρ Z s h => ?_⟩
  simp only [Py.ex1] at h
  refine sc σ H _ ρ Z s (post_sbnd (RelX := fun _ _ b a => b = a) (fun _ z => z) h fun k ρ1 b H1 s1 k1 e q => ?_)
  subst e
  cases b with
  | true =>
    rw [if_pos rfl] at q ⊢
    exact sip σ H1 D ρ1 Z s1 q
  | false =>
    rw [if_neg Bool.false_ne_true] at q ⊢
    exact siq σ H1 D ρ1 Z s1 q
theorem ss_nil : SSs X H0 Wf [] (Py.exs C call sub []) := ⟨_, pss_nil, fun σ H D ρ Z s h => h σ H s⟩
theorem ss_cons {s : Stmt} {r : List Stmt} {sm : Stm} {rm : List Stm} (hs : SS X H0 Wf s (Py.ex1 C call sub sm)) (hr : SSs X H0 Wf r (Py.exs C call sub rm)) : SSs X H0 Wf (s :: r) (Py.exs C call sub (sm :: rm)) := by
  obtain ⟨t, p, sp⟩ := hs
  obtain ⟨u, q, sq⟩ := hr
  refine ⟨_, pss_cons p q, fun σ H D ρ Z s h => sp σ H _ ρ Z s ?_⟩
  simp only [Py.exs] at h
  cases em : Py.ex1 C call sub sm ρ with
  | next ρ1 =>
    rw [em] at h
    exact fun σ1 H1 s1 => sq σ1 H1 D ρ1 Z s1 h
  | ret r ρ1 =>
    rw [em] at h
    exact h
  | exc c ρ1 =>
    rw [em] at h
    exact h
  | stuck =>
    rw [em] at h
    exact h.elim
theorem outR_ok {v : V} {r r' : R} (rv : RV K H0 Z σ H ρ v r) (s : SR K H0 Z σ H ρ) (e : Py.outR r ρ = some r') : RO K H0 Z H v r' := by
  cases r with
  | tmp t =>
    cases e
    exact rv.weak fun a _ _ z => .inl z
  | new t =>
    cases e
    obtain ⟨p, rfl, h0, hz, sp, ro⟩ := rv
    exact ⟨p, rfl, h0, hz, ro.keep (Kp.ext (Ext.refl _) fun a _ _ z => z.elim (fun z => .inl (.inl z)) .inr) rfl⟩
  | slot i =>
    have rv : σ[i]? = some (some v) := rv
    simp only [Py.outR] at e
    split at e
    · rename_i t q
      cases e
      obtain ⟨w, q1, q2⟩ := s.val i _ q
      rw [rv] at q1
      cases q1
      exact q2.weak fun a _ _ z => .inl z
    · rename_i t q
      cases e
      obtain ⟨p, q1, q2, q3, q4⟩ := s.own i _ q
      rw [rv] at q1
      cases q1
      refine ⟨p, rfl, q2, q3, q4.keep (Kp.ext (Ext.refl _) fun a _ _ z => z.elim .inl fun z => ?_) rfl⟩
      subst z
      exact .inr ⟨i, _, q, rv⟩
    · cases e
theorem ss_ret (ha : SE X H0 Wf a (Py.go C call ea).1) : SS X H0 Wf (.Return (some a) pos) (Py.ex1 C call sub (.ret ea)) := by
  obtain ⟨ta, pa, sa⟩ := ha
  refine ⟨_, ps_ret pa, fun σ H D ρ Z s h => ?_⟩
  simp only [Py.ex1] at h
  refine one_stm sa s h fun r ρ1 x H1 s1 rv q => ?_
  obtain ⟨r', e, q⟩ := post_slift q
  exact q x σ H1 s1 (outR_ok rv s1 e)
theorem ss_retN : SS X H0 Wf (.Return none pos) (Py.ex1 C call sub (.ret .non)) := by
  refine ⟨_, ps_retN, fun σ H D ρ Z s h => ?_⟩
  simp only [Py.ex1, Py.go, Py.vt, Py.sbnd, Py.slift, Py.outR] at h
  exact h .non σ H s .non
theorem ss_aug {i : Nat} {x : Str} {p : Pos} (hf0 : H0.fx i = none) (hN : X.N.Nodup) (hi : X.N[i]? = some x) (hx : Loc X.env.scope x) (hf : X.fn x = true ∨ X.env.scope.names.lookup x = some .local) (ha : SE X H0 Wf a (Py.go C call ea).1) :
    SS X H0 Wf (.AugAssign (.Name x p) .Add a pos) (Py.ex1 C call sub (.aug i ea)) := by
  obtain ⟨ta, pa, sa⟩ := ha
  refine ⟨_, ps_aug hN hi hx pa ip_add hf, fun σ H D ρ Z s h => ?_⟩
  simp only [Py.ex1] at h
  split at h
  · rename_i n e
    obtain ⟨v, q1, q2⟩ := s.val i _ e
    cases q2.int_of
    refine ⟨_, q1, one_stm sa s h fun r ρ1 y H1 s1 rv q => ?_⟩
    obtain ⟨t, e2, q⟩ := post_slift q
    cases t <;> first | exact q.elim | skip
    rename_i m
    refine ⟨n, m, rfl, (rv.d.top s1 e2).int, ?_⟩
    have hl : i < ρ1.length := by rw [← s1.len, s.len]; exact (List.getElem?_eq_some_iff.mp e).1
    exact q _ H1 (s1.setVal hf0 hl (.int _))
  · exact h.elim
theorem keep_at {p : Addr} (k : Kp H H1 A A') (n : ¬ A p) {o : HO} (e : H p = some o) : H1 p = H p := by
  rw [(k.obj p o e n).1, e]
theorem reps_av {B : Addr → Prop} {v : V} {t : T} (h : Rep K H A v t) (k : Kp H H1 A A') (hp : Py.pureT t = true) : Rep K H1 B v t := (h.keep k).pure hp
theorem par_store {i j : Nat} {va vb : V} {ra rb : R} {p q : T × PEnv} {ρ1 ρ2 : PEnv} {H2 : Hp} (fi : H0.fx i = none) (fj : H0.fx j = none) (rva : RV K H0 Z σ H1 ρ1 va ra) (s1 : SR K H0 Z σ H1 ρ1) (ea : Py.esc ra ρ1 = some p)
    (hi : i < q.2.length) (hj : j < q.2.length) (hij : i ≠ j) (eb : Py.esc rb ρ2 = some q) (k : Kp H1 H2 (Ow σ p.2) (Ow σ ρ2))
    (h : (∃ t, ra = .new t ∧ Py.apartR ra = true ∧ ∃ pa, va = .ref pa ∧ SR K H0 (fun a => Z a ∨ a = pa) σ H2 ρ2 ∧ RV K H0 (fun a => Z a ∨ a = pa) σ H2 ρ2 vb rb) ∨ (¬ (∃ t, ra = .new t ∧ Py.apartR ra = true) ∧ SR K H0 Z σ H2 ρ2 ∧ RV K H0 Z σ H2 ρ2 vb rb)) :
    SR K H0 Z ((σ.set i (some va)).set j (some vb)) H2 ((q.2.set j (if Py.apartR ra = true then Py.ownR rb q.1 else .val q.1)).set i (if Py.apartR ra = true then Py.ownR ra p.1 else .val p.1)) := by
  rw [List.set_comm _ _ hij]
  obtain ⟨tp, ρp⟩ := p
  obtain ⟨tq, ρq⟩ := q
  have escn : ∀ {t : T} {ρ ρ' : PEnv} {u : T}, Py.esc (.new t) ρ = some (u, ρ') → u = t ∧ ρ' = ρ := fun e => by
    simp only [Py.esc] at e
    cases e
    exact ⟨rfl, rfl⟩
  have second : ∀ (Z1 : Addr → Prop), SR K H0 Z1 σ H2 ρ2 → RV K H0 Z1 σ H2 ρ2 vb rb → Py.apartR ra = true → SR K H0 Z1 (σ.set j (some vb)) H2 (ρq.set j (Py.ownR rb tq)) := fun Z1 s2 rvb _ => by
    cases rb with
    | new u =>
      obtain ⟨rfl, rfl⟩ := escn eb
      obtain ⟨pq, rfl, h0, hz, sp, ro⟩ := rvb
      exact sp.setNew fj hj h0 hz ro
    | tmp u =>
      obtain ⟨s3, k3, r3⟩ := esc_ok rvb.d s2 eb
      exact s3.setVal fj hj r3
    | slot u =>
      obtain ⟨s3, k3, r3⟩ := esc_ok rvb.d s2 eb
      exact s3.setVal fj hj r3
  rcases h with ⟨t, rfl, ap, pa, rfl, s2, rvb⟩ | ⟨hn, s2, rvb⟩
  · rw [if_pos ap, if_pos ap]
    obtain ⟨rfl, rfl⟩ := escn ea
    have s3 := second _ s2 rvb ap
    obtain ⟨pa', e0, h0, hz, sp, ro⟩ := rva
    cases e0
    refine s3.setNew fi (by simpa using hi) h0 hz ?_
    obtain ⟨o, ho, _⟩ := ro.some
    have e2 : H2 pa = H1 pa := keep_at k sp.newOff ho
    exact ((RepO.pure ro ap (A' := Ow σ _)).keep k e2).pure ap
  · by_cases ap : Py.apartR ra = true
    · rw [if_pos ap, if_pos ap]
      have s3 := second _ s2 rvb ap
      cases ra with
      | new t => exact absurd ⟨t, rfl, ap⟩ hn
      | slot u => simp [Py.apartR] at ap
      | tmp t =>
        simp only [Py.esc] at ea
        cases ea
        have pt : Py.pureT tp = true := by simpa [Py.apartR] using ap
        exact s3.setVal fi (by simpa using hi) ((Rep.pure rva pt (A' := Ow σ ρ1)).keep k |>.pure pt)
    · rw [if_neg ap, if_neg ap]
      obtain ⟨sA, kA, rA⟩ := esc_ok rva.d s1 ea
      obtain ⟨s3, k3, r3⟩ := esc_ok rvb.d s2 eb
      have s4 := s3.setVal fj hj r3
      refine s4.setVal fi (by simpa using hi) ?_
      exact ((rA.keep (av_kp k)).keep (av_kp k3)).weak fun a _ _ z => av_setv z
theorem ss_par {i j : Nat} {x y : Str} {px py pt : Pos} {kt k2 : Nat} {pt2 : Pos} (fi : H0.fx i = none) (fj : H0.fx j = none) (hc : X.calm = true) (hN : X.N.Nodup) (hi : X.N[i]? = some x) (hj : X.N[j]? = some y) (hij : i ≠ j)
    (hx : X.env.scope.names.lookup x = some .local) (hy : X.env.scope.names.lookup y = some .local) (hpa : plainE a = true) (hpb : plainE b = true)
    (hw : swappedStores [.Tuple [.Name x px, .Name y py] kt pt] (.Tuple [a, b] k2 pt2) X.env = pure (some [x, y])) (ha : SE X H0 Wf a (Py.go C call ea).1) (hb : SE X H0 Wf b (Py.go C call eb).1) :
    SS X H0 Wf (.Assign [.Tuple [.Name x px, .Name y py] kt pt] (.Tuple [a, b] k2 pt2) pos) (Py.ex1 C call sub (.par i j ea eb)) := by
  obtain ⟨ta, pa, sa⟩ := ha
  obtain ⟨tb, pb, sb⟩ := hb
  refine ⟨_, ps_par hc hN hi hj hij hx hy (pa_cons pa (pa_cons pb pa_nil (star_plain hpb _ _)) (star_plain hpa _ _)) hw rfl, fun σ H D ρ Z s h => ?_⟩
  simp only [Py.ex1] at h
  refine one_stm sa s h fun ra ρ1 va H1 s1 rva q => ?_
  obtain ⟨p, e1, q⟩ := post_slift q
  obtain ⟨sp, kp, rp⟩ := esc_ok rva.d s1 e1
  by_cases hn : ∃ t, ra = .new t ∧ Py.apartR ra = true
  · obtain ⟨t, rfl, ap⟩ := hn
    obtain ⟨pa, rfl, h0, hz, s1p, ro⟩ := id rva
    have ep : p = (t, ρ1) := by
      simp only [Py.esc] at e1
      cases e1
      rfl
    subst ep
    refine sb σ H1 _ ρ1 (fun a => Z a ∨ a = pa) s1p (post_sbnd (RelX := fun H' ρ' v r => RV X.K H0 (fun a => Z a ∨ a = pa) σ H' ρ' v r) (fun _ z => .inl z) q fun rb ρ2 vb H2 s2 k2 rvb q => ?_)
    obtain ⟨p2, e2, q⟩ := post_slift q
    refine ⟨_, _, rfl, ?_⟩
    by_cases hc : i < p2.2.length ∧ j < p2.2.length ∧ i ≠ j
    · rw [if_pos hc] at q
      exact q _ H2 (par_store fi fj rva s1 e1 hc.1 hc.2.1 hij e2 k2 (.inl ⟨t, rfl, ap, pa, rfl, s2, rvb⟩))
    · rw [if_neg hc] at q
      exact q.elim
  · refine sb σ H1 _ p.2 Z sp (post_sbnd (RelX := fun H' ρ' v r => RV X.K H0 Z σ H' ρ' v r) (fun _ z => z) q fun rb ρ2 vb H2 s2 k2 rvb q => ?_)
    obtain ⟨p2, e2, q⟩ := post_slift q
    refine ⟨_, _, rfl, ?_⟩
    by_cases hc : i < p2.2.length ∧ j < p2.2.length ∧ i ≠ j
    · rw [if_pos hc] at q
      exact q _ H2 (par_store fi fj rva s1 e1 hc.1 hc.2.1 hij e2 k2 (.inr ⟨hn, s2, rvb⟩))
    · rw [if_neg hc] at q
      exact q.elim
end Sd
set_option Elab.async false
set_option linter.all false
set_option autoImplicit false
set_option maxRecDepth 100000
namespace Sd
open PySem PySem.Spec PyProof.Rows L2
open Py (T Sl R Res CRes SRes Ex Stm W Tg)
variable {H H' H1 : Hp} {H0 : B0} {A A' Z Z' : Addr → Prop} {σ σ' : L2.St} {ρ ρ' : PEnv} {X : Cx} {K : PySem.W.Frag} {Wf : XW} {α β γ δ : Type}
variable {C : List T} {call : Nat → List T → CRes} {sub : Nat → Nat → Bool} {a b c o e : Expr} {ea eb ec eo : Ex} {pos : Pos} {es : List Expr} {xs : List Ex} {xa : Nat → Addr}
def notSl : Expr → Bool
  | .Slice .. => false
  | _ => true
def rSet : TSet := fun o i v H Q => rSetL o i v H Q ∨ rSetD o i v H Q
theorem set_any (hu : X.A.units + 1 < cLine) : PSet X rSet := by
  intro pins s σ H o i v ov iv u Q I ro ri rv h
  rcases h with h | h
  · exact set_list pins s σ H o i v ov iv u Q I ro ri rv h
  · exact set_dict hu pins s σ H o i v ov iv u Q I ro ri rv h
theorem ss_sst {i : Nat} {x : Str} {p p2 : Pos} (hu : X.A.units + 65 < cLine) (hN : X.N[i]? = some x) (hv : Vis X.env.scope x) (hd : (x == ("__debug__" : Str)) = false) (hcd : (x == ("__classdict__" : Str)) = false)
    (hc : notComp a = true) (hsl : notSl b = true) (ha : SE X H0 Wf a (Py.go C call ea).1) (hb : SE X H0 Wf b (Py.go C call eb).1) : SS X H0 Wf (.Assign [.Subscript (.Name x p) b p2] a pos) (Py.ex1 C call sub (.sst i eb ea)) := by
  obtain ⟨ta, pa, sa⟩ := ha
  obtain ⟨tb, pb, sb⟩ := hb
  have pgs : PG X (.Subscript (.Name x p) b p2) (gSub (tVar i) tb rSet) := pg_sub (pe_var hN hv hd hcd) pb (set_any (by omega)) (by
    intro v
    cases b <;> first | rfl | (cases hsl))
  refine ⟨_, ps_asg pa pgs (swap_no hc (some (.Subscript (.Name x p) b p2)) pos.line X.env) ?_ rfl, fun σ H D ρ Z s h => ?_⟩
  · cases a <;> rfl
  simp only [Py.ex1] at h
  refine one_stm sa s h fun r ρ1 x H1 s1 rv q => ?_
  obtain ⟨⟨t, ρ2⟩, e, q⟩ := post_slift q
  obtain ⟨s2, k2, rp⟩ := esc_ok rv.d s1 e
  by_cases hown : Py.isOwn ρ2[i]? = true
  case neg =>
    rw [if_neg hown] at q
    exact q.elim
  rw [if_pos hown] at q
  obtain ⟨w, ew⟩ : ∃ w, ρ2[i]? = some (.own w) := by
    unfold Py.isOwn at hown
    split at hown
    · rename_i w ew
      exact ⟨w, ew⟩
    · cases hown
  obtain ⟨pa, q1, _⟩ := s2.own i w ew
  refine ⟨_, q1, ?_⟩
  refine sb σ H1 _ ρ2 Z s2 (post_sbnd (RelX := fun H' ρ' v r => RV X.K H0 Z σ H' ρ' v r) (fun _ z => z) q fun rk ρ3 kv H3 s3 k3 rk' q => ?_)
  obtain ⟨kt, e3, q⟩ := post_slift q
  unfold Py.upOwn at q
  simp only at q
  split at q
  · rename_i u eu
    obtain ⟨pb', f1, f2, f3, f4⟩ := s3.own i u eu
    rw [q1] at f1
    cases f1
    cases eput : Py.putT kt t u with
    | none =>
      rw [eput] at q
      exact q.elim
    | some pr =>
      rw [eput] at q
      have q : PostS X.K H0 Wf Z (.next (ρ3.set i (.own pr.1))) D := q
      have rpk : Rep X.K H3 (Av Z σ ρ3) x t := rp.keep (av_kp k3)
      have topk := rk'.d.top s3 e3
      have al : Av Z σ ρ3 pa := .inr ⟨i, u, eu, q1⟩
      cases u <;> first | (simp [Py.putT] at eput; done) | skip
      · rename_i us
        cases kt <;> first | (simp [Py.putT] at eput; done) | skip
        rename_i n
        simp only [Py.putT] at eput
        obtain ⟨j, ej, rfl⟩ := Option.map_eq_some_iff.mp eput
        obtain ⟨vs, h1, r1⟩ := f4
        left
        refine ⟨pa, vs, n, j, rfl, topk.int, h1, ?_, ?_⟩
        · rw [r1.length, ← ixN_eq]
          exact ej
        · exact q σ _ (s3.change (u := T.lst (us.set j t)) (o := .lst (vs.set j x)) eu q1 ⟨_, upd_same, (r1.set rpk j).keep (lst_kp al h1)⟩).1
      · rename_i tk kvs
        simp only [Py.putT] at eput
        obtain ⟨g, e5⟩ := ite_some eput
        cases e5
        simp only [Bool.and_eq_true, decide_eq_true_eq] at g
        right
        cases tk with
        | true =>
          obtain ⟨y, rfl, rfl⟩ := key_true topk g.1
          obtain ⟨vs, h1, r1⟩ := f4
          refine ⟨pa, _, rfl, DPut.k h1 (cap_lt (by rw [repk_len r1]; exact g.2)), ?_⟩
          exact q σ _ (s3.change (u := T.dct true (Py.putK kvs (kT y) t)) (o := .dK (L2.putK vs y x)) eu q1 ⟨_, upd_same, (repk_put rpk r1).keep (kp_upd al h1 fun _ z => by cases z)⟩).1
        | false =>
          obtain ⟨y, pb, rfl, hb, rfl⟩ := key_false topk g.1
          obtain ⟨vs, h1, r1⟩ := f4
          refine ⟨pa, _, rfl, DPut.t h1 hb (cap_lt (by rw [rept_len r1]; exact g.2)), ?_⟩
          exact q σ _ (s3.change (u := T.dct false (Py.putK kvs (.tup (y.map kT)) t)) (o := .dT (L2.putK vs y x)) eu q1 ⟨_, upd_same, (rept_put rpk r1).keep (kp_upd al h1 fun _ z => by cases z)⟩).1
  · exact q.elim
theorem whl_succ (c : PEnv → Res (Bool × PEnv)) (b : PEnv → SRes) (n : Nat) (ρ : PEnv) : Py.whlGo c b (n + 1) ρ = Py.sbnd (c ρ) fun k ρ => if k = true then (match b ρ with | .next ρ => Py.whlGo c b n ρ | r => r) else .next ρ := by
  show (match c ρ with
    | .ok (true, ρ) => (match b ρ with
      | .next ρ => Py.whlGo c b n ρ
      | r => r)
    | .ok (false, ρ) => .next ρ
    | .exc k ρ => .exc k ρ
    | .stuck => .stuck) = _
  cases c ρ with
  | ok x =>
    obtain ⟨k, ρ1⟩ := x
    cases k <;> rfl
  | exc k ρ => rfl
  | stuck => rfl
theorem ss_whl {body : List Stmt} {sb : List Stm} (hp : PassesOwn (model X.prog X.w) X.A X.env X.xe) (hc : STst X H0 Wf c (Py.go C call ec).2) (hb : SSs X H0 Wf body (Py.exs C call sub sb)) : SS X H0 Wf (.While c body [] pos) (Py.ex1 C call sub (.whl ec sb)) := by
  obtain ⟨tc, pc, sc⟩ := hc
  obtain ⟨tb, pb, sib⟩ := hb
  refine ⟨_, ps_while hp pc pb, fun σ H D ρ Z s h => ?_⟩
  simp only [Py.ex1] at h
  refine ⟨fun m σ H => ∃ ρ, SR X.K H0 Z σ H ρ ∧ PostS X.K H0 Wf Z (Py.whlGo (Py.go C call ec).2 (Py.exs C call sub sb) m ρ) D, ⟨_, ρ, s, h⟩, ?_⟩
  rintro m σ1 H1 ⟨ρ1, s1, q⟩
  cases m with
  | zero => exact q.elim
  | succ n =>
    rw [whl_succ] at q
    refine sc σ1 H1 _ ρ1 Z s1 (post_sbnd (RelX := fun _ _ b a => b = a) (fun _ z => z) q fun k ρ2 b H2 s2 k2 e q => ?_)
    subst e
    cases b with
    | false =>
      rw [if_neg Bool.false_ne_true] at q ⊢
      exact q σ1 H2 s2
    | true =>
      rw [if_pos rfl] at q ⊢
      refine ⟨fun σ H => ∃ ρ, SR X.K H0 Z σ H ρ ∧ PostS X.K H0 Wf Z (Py.whlGo (Py.go C call ec).2 (Py.exs C call sub sb) n ρ) D, fun σ' H' z => ⟨n, Nat.lt_succ_self n, z⟩, sib σ1 H2 _ ρ2 Z s2 ?_⟩
      cases eb : Py.exs C call sub sb ρ2 with
      | next ρ3 =>
        rw [eb] at q
        exact fun σ3 H3 s3 => ⟨ρ3, s3, q⟩
      | ret r ρ3 =>
        rw [eb] at q
        exact q
      | exc c ρ3 =>
        rw [eb] at q
        exact q
      | stuck =>
        rw [eb] at q
        exact q.elim
theorem uni_SSs {ι κ : Type} {B : ι → Cx} {G : κ → B0} {st : List Stmt} {m : PEnv → SRes} (h : ∀ i j, ∃ t, PSs (B i) st t ∧ SimS K (G j) Wf t m) : ∃ t, (∀ i, PSs (B i) st t) ∧ ∀ j, SimS K (G j) Wf t m :=
  ⟨fun D σ H => ∀ i pins s, Inv (B i) pins σ H s → wpAny (model (B i).prog (B i).w) (B i).A (execs st (B i).env) (SP (B i) pins D) (B i).xe s,
    fun i => ⟨fun pins s σ H D I q => q i pins s I⟩, fun j σ H D ρ Z s q i pins sh I => by
      obtain ⟨t, pt, st⟩ := h i j
      exact pt.run pins sh σ H D I (st σ H D ρ Z s q)⟩
theorem uni_G2 {tg : Tg} {te : Expr} {fx : Nat → Option V} (h : ∀ H0 : B0, H0.fx = fx → ∃ g, PG X te g ∧ GSim K H0 g tg) : ∃ g, PG X te g ∧ ∀ H0 : B0, H0.fx = fx → GSim K H0 g tg := by
  refine ⟨fun x σ H Q => ∀ pins s u, Inv X pins σ H s → RelV x u → wpAny (model X.prog X.w) X.A (assign te X.env u) (fun _ s' => ∃ σ' H', Inv X pins σ' H' s' ∧ Q σ' H') X.xe s,
    ⟨fun pins s σ H v u Q I r q => q pins s u I r⟩, fun H0 hf σ H ρ ρ' Z x t Q s r e q pins sh u I rv => ?_⟩
  obtain ⟨g, pt, st⟩ := h H0 hf
  exact pt.run pins sh σ H x u Q I rv (st σ H ρ ρ' Z x t Q s r e q)
open Classical in
noncomputable def hold (B : B0) (σ : L2.St) (ρ : PEnv) (H : Hp) : B0 := ⟨fun a => if Ow σ ρ a then none else H a, B.fx⟩
theorem hold_some {a : Addr} {o : HO} (h : hold H0 σ ρ H a = some o) : ¬ Ow σ ρ a ∧ H a = some o := by
  unfold hold at h
  dsimp only at h
  split at h
  · cases h
  · exact ⟨by assumption, h⟩
theorem hold_at {a : Addr} {o : HO} (n : ¬ Ow σ ρ a) (h : H a = some o) : hold H0 σ ρ H a = some o := by
  unfold hold
  dsimp only
  rw [if_neg n]
  exact h
theorem SR.hold (s : SR K H0 Z σ H ρ) : SR K (Sd.hold H0 σ ρ H) Z σ H ρ where
  len := s.len
  base := fun a o h => (hold_some h).2
  zin := s.zin
  val := s.val
  own := fun i t e => by
    obtain ⟨a, h1, h2, h3, h4⟩ := s.own i t e
    refine ⟨a, h1, ?_, h3, h4⟩
    have ow : Ow σ ρ a := ⟨i, t, e, h1⟩
    unfold Sd.hold
    dsimp only
    rw [if_pos ow]
  uniq := s.uniq
  fix := s.fix
theorem hold_none (s : SR K H0 Z σ H ρ) {a : Addr} (h : Sd.hold H0 σ ρ H a = none) : H0 a = none := by
  cases e : H0 a with
  | none => rfl
  | some o =>
    have e1 := s.base a o e
    have n : ¬ Ow σ ρ a := fun ⟨i, t, e1, e2⟩ => by
      obtain ⟨b, h1, h2, _⟩ := s.own i t e1
      rw [e2] at h1
      cases h1
      rw [e] at h2
      cases h2
    rw [hold_at n e1] at h
    cases h
theorem SR.lower {ρ1 : PEnv} {σ1 : L2.St} (s : SR K H0 Z σ H ρ) (s1 : SR K (Sd.hold H0 σ ρ H) Z σ1 H1 ρ1) : SR K H0 Z σ1 H1 ρ1 where
  len := s1.len
  base := fun a o e => by
    have e1 := s.base a o e
    have n : ¬ Ow σ ρ a := fun ⟨i, t, e1, e2⟩ => by
      obtain ⟨b, h1, h2, _⟩ := s.own i t e1
      rw [e2] at h1
      cases h1
      rw [e] at h2
      cases h2
    exact s1.base a o (hold_at n e1)
  zin := s1.zin
  val := s1.val
  own := fun i t e => by
    obtain ⟨a, h1, h2, h3, h4⟩ := s1.own i t e
    exact ⟨a, h1, hold_none s h2, h3, h4⟩
  uniq := s1.uniq
  fix := s1.fix
theorem RO.lower {v : V} {r : R} (s : SR K H0 Z σ H ρ) (h : RO K (Sd.hold H0 σ ρ H) Z H1 v r) : RO K H0 Z H1 v r := by
  cases r with
  | tmp t => exact h
  | slot i => exact h
  | new t =>
    obtain ⟨p, rfl, h1, h2⟩ := h
    exact ⟨p, rfl, hold_none s h1, h2⟩
theorem SR.kp {ρ1 : PEnv} {σ1 : L2.St} (s : SR K H0 Z σ H ρ) (s1 : SR K (Sd.hold H0 σ ρ H) Z σ1 H1 ρ1) : Kp H H1 (Av Z σ ρ) (Av Z σ1 ρ1) := by
  refine ⟨fun a o e n => ?_, fun a xs e => ?_⟩
  · have e2 := hold_at (H0 := H0) (fun z => n (.inr z)) e
    refine ⟨s1.base a o e2, fun z => z.elim (fun z => n (.inl z)) fun ⟨i, t, f1, f2⟩ => ?_⟩
    obtain ⟨b, h1, h2, _⟩ := s1.own i t f1
    rw [f2] at h1
    cases h1
    rw [e2] at h2
    cases h2
  · refine s1.base a _ (hold_at (fun ⟨i, t, f1, f2⟩ => ?_) e)
    obtain ⟨b, h1, _, _, h4⟩ := s.own i t f1
    rw [f2] at h1
    cases h1
    obtain ⟨o, h5, h6⟩ := h4.some
    rw [e] at h5
    exact h6 xs (Option.some.inj h5).symm
theorem for_items {k : Py.It} {m : PEnv → Res (List T × PEnv)} {f : List T → PEnv → SRes} (ρ : PEnv) : (Py.sbnd (m ρ) fun ts ρ => Py.slift (Py.itemsT k ts) fun items => f items ρ) = Py.sbnd (itemsM k m ρ) f := by
  unfold itemsM
  cases m ρ with
  | ok x =>
    obtain ⟨ts, ρ1⟩ := x
    show Py.slift (Py.itemsT k ts) (fun items => f items ρ1) = Py.sbnd (Py.lift (Py.itemsT k ts) fun items => .ok (items, ρ1)) f
    cases Py.itemsT k ts <;> rfl
  | exc c ρ => rfl
  | stuck => rfl
theorem ss_for {tg iter : Expr} {tgt : Tg} {k : Py.It} {ie : List Ex} {body : List Stmt} {sb : List Stm} (hp : PassesOwn (model X.prog X.w) X.A X.env X.xe) (hc : X.calm = true) (hi : SI X H0 Wf tg iter k (Py.goS C call ie).1) (hg : ∀ G : B0, G.fx = H0.fx → SG X G tg tgt)
    (hb : ∀ G : B0, G.fx = H0.fx → SSs X G Wf body (Py.exs C call sub sb)) (hs : ∀ x, foldedSetIterable iter X.env x = pure x) : SS X H0 Wf (.For tg iter body [] pos) (Py.ex1 C call sub (.for tgt k ie sb)) := by
  obtain ⟨wi, pi, si⟩ := hi
  obtain ⟨g, pg, sg⟩ := uni_G2 (K := X.K) (fx := H0.fx) hg
  obtain ⟨tb, pb', sib⟩ := uni_SSs (ι := Unit) (B := fun _ => X) (K := X.K) (Wf := Wf) (G := fun G : {G : B0 // G.fx = H0.fx} => G.1) (fun _ j => hb j.1 j.2)
  have pb := pb' ()
  refine ⟨_, ps_for hp hc pi pg pb hs, fun σ H D ρ Z s h => ?_⟩
  simp only [Py.ex1] at h
  rw [for_items] at h
  refine si σ H _ ρ Z s (post_sbnd (RelX := fun H' ρ' J items => Wk X.K J items H' (Av Z σ ρ')) (fun _ z => z) h fun items ρ1 J H1 s1 k1 wk q => ?_)
  obtain ⟨G, Y, walk, wkp⟩ := wk
  refine for_it walk (fun i σi Hi => ∃ ρi, SR X.K (hold H0 σ ρ1 H1) Z σi Hi ρi ∧ PostS X.K H0 Wf Z (Py.forGo (fun t ρ => Py.slift (Py.put tgt t ρ) fun ρ => Py.exs C call sub sb ρ) (items.drop i) ρi) D) ?_ ?_ ?_ ?_
  · exact ⟨ρ1, s1.hold, q⟩
  · rintro i σi Hi hi ⟨ρi, si, qi⟩
    exact (wkp Hi _ (s1.kp si)).1
  · rintro i x σi Hi H2 hi ⟨ρi, si, qi⟩ hY
    obtain ⟨ex, rx⟩ := (wkp Hi _ (s1.kp si)).2 i x H2 hY
    have hit : items[i]? = some (items[i]'hi) := List.getElem?_eq_getElem hi
    have rx := rx _ hit
    generalize items[i]'hi = t at hit rx
    have hdrop : items.drop i = t :: items.drop (i + 1) := by
      obtain ⟨hi', e⟩ := List.getElem?_eq_some_iff.mp hit
      rw [List.drop_eq_getElem_cons hi', e]
    rw [hdrop] at qi
    have qi : PostS X.K H0 Wf Z (match Py.slift (Py.put tgt t ρi) fun ρ => Py.exs C call sub sb ρ with
      | .next ρ => Py.forGo (fun t ρ => Py.slift (Py.put tgt t ρ) fun ρ => Py.exs C call sub sb ρ) (items.drop (i + 1)) ρ
      | r => r) D := qi
    cases ep : Py.put tgt t ρi with
    | none =>
      rw [ep] at qi
      exact qi.elim
    | some ρ2 =>
      rw [ep] at qi
      refine sg (hold H0 σ ρ1 H1) rfl σi H2 ρi ρ2 Z x t _ (si.ext ex) rx ep fun σ2 s2 _ _ => sib ⟨hold H0 σ ρ1 H1, rfl⟩ σ2 H2 _ ρ2 Z s2 ?_
      have qi : PostS X.K H0 Wf Z (match Py.exs C call sub sb ρ2 with
        | .next ρ => Py.forGo (fun t ρ => Py.slift (Py.put tgt t ρ) fun ρ => Py.exs C call sub sb ρ) (items.drop (i + 1)) ρ
        | r => r) D := qi
      cases eb : Py.exs C call sub sb ρ2 with
      | next ρ3 =>
        rw [eb] at qi
        exact fun σ3 H3 s3 => ⟨ρ3, s3, qi⟩
      | ret r ρ3 =>
        rw [eb] at qi
        exact fun v σ3 H3 s3 ro => qi v σ3 H3 (s1.lower s3) (ro.lower s1)
      | exc c ρ3 =>
        rw [eb] at qi
        exact fun σ3 H3 s3 => qi σ3 H3 (s1.lower s3)
      | stuck =>
        rw [eb] at qi
        exact qi.elim
  · rintro σi Hi ⟨ρi, si, qi⟩
    rw [List.drop_length] at qi
    exact qi σi Hi (s1.lower si)
theorem ss_rse {x m : Str} {j n : Nat} {p p2 p3 : Pos} {bmB : List Value} {B newId initId : String} (hc : X.calm = true) (tk : Takes X (WOf xa Wf)) (F : ExcBaseFacts B newId initId bmB) (q : PySem.W.excIn X.K (xa n) bmB newId = true) (gC : X.mg x = some (.ref (xa n))) (kC : PySem.W.keepIn X.K (.ref (xa n)) = true) (r : Raises X (.ref (xa n))) (hg : Gl X x)
    (hdb : (x == ("__debug__" : Str)) = false) : SS X H0 Wf (.Raise (some (.Call (.Name x p) [.Constant (.str m) j p2] [] p3)) none pos) (Py.ex1 C call sub (.rse n)) :=
  ⟨_, ps_raise hc tk (pmk_own F q gC kC r hg hdb), fun σ H D ρ Z s h => ⟨n, rfl, rfl, h σ H s⟩⟩
def HdSim (X : Cx) (H0 : B0) (Wf : XW) (xa : Nat → Addr) (C : List T) (call : Nat → List T → CRes) (sub : Nat → Nat → Bool) (hds : List ExceptHandler) (hs : List (Nat × List Stm)) : Prop :=
  ∃ l, HdsOk X hds l ∧ ∀ (c : Nat) (ρ : PEnv) (D : Ends) (Z : Addr → Prop) (σ : L2.St) (H : Hp), SR X.K H0 Z σ H ρ → PostS X.K H0 Wf Z (Py.exh C call sub hs c ρ) D → wMany X.K (WOf xa Wf) D l (.ref (xa c)) none σ H
theorem hd_nil : HdSim X H0 Wf xa C call sub [] [] := ⟨[], .nil, fun c ρ D Z σ H s h => ⟨c, rfl, rfl, h σ H s⟩⟩
theorem hd_cons {x : Str} {d : Nat} {np pos' : Pos} {b₀ : Stmt} {suite : List Stmt} {sb : List Stm} {hds : List ExceptHandler} {hs : List (Nat × List Stm)} (hc : Names X x (.ref (xa d))) (hex : ∀ c, PySem.W.exmOne X.K (.ref (xa c)) (.ref (xa d)) = some (sub c d))
    (hsu : ∀ (a : Addr) (oe : Obj) (pn : List (Addr × Obj)), SSs (X.suite a ((a, oe) :: pn)) H0 NoW (b₀ :: suite) (Py.exs C call sub sb)) (hr : HdSim X H0 Wf xa C call sub hds hs) :
    HdSim X H0 Wf xa C call sub (.ExceptHandler (some (.Name x np)) none (b₀ :: suite) pos' :: hds) ((d, sb) :: hs) := by
  obtain ⟨l, hl, hq⟩ := hr
  obtain ⟨t, pt, st⟩ := uni_SSs (ι := Addr × Obj × List (Addr × Obj)) (B := fun i => X.suite i.1 ((i.1, i.2.1) :: i.2.2)) (K := X.K) (Wf := NoW) (G := fun _ : Unit => H0) (fun i _ => hsu i.1 i.2.1 i.2.2)
  refine ⟨(.ref (xa d), fun _ _ _ => t) :: l, .cons hc (fun a oe cls dd pn _ _ => pt (a, oe, pn)) hl, fun c ρ D Z σ H s h => ⟨sub c d, hex c, fun e a na => ?_, fun e => ?_⟩⟩
  · refine st () σ H D ρ Z s ?_
    have h : PostS X.K H0 Wf Z (if sub c d = true then Py.noExcS (Py.exs C call sub sb ρ) else Py.exh C call sub hs c ρ) D := h
    rw [if_pos e] at h
    cases eb : Py.exs C call sub sb ρ with
    | next ρ3 =>
      rw [eb] at h
      exact h
    | ret r ρ3 =>
      rw [eb] at h
      exact h
    | exc c ρ3 =>
      rw [eb] at h
      exact h.elim
    | stuck =>
      rw [eb] at h
      exact h.elim
  · have h : PostS X.K H0 Wf Z (if sub c d = true then Py.noExcS (Py.exs C call sub sb ρ) else Py.exh C call sub hs c ρ) D := h
    rw [if_neg (by rw [e]; exact Bool.false_ne_true)] at h
    exact hq c ρ D Z σ H s h
theorem ss_try {body : List Stmt} {sb : List Stm} {h₀ : ExceptHandler} {hds : List ExceptHandler} {hs : List (Nat × List Stm)} (hst : X.stack = X.env :: X.outer) (hf : X.env.frame = some X.env.locals) (tk : Takes X (WOf xa Wf))
    (hb : ∀ (W : WX) (pn : List (Addr × Obj)) (xe : Value → Shared → Prop), Takes (X.tr pn xe) W → PassesOwn (model X.prog X.w) X.A X.env xe → SSs (X.tr pn xe) H0 (fun c σ H => W (.ref (xa c)) none σ H) body (Py.exs C call sub sb))
    (hh : HdSim X H0 Wf xa C call sub (h₀ :: hds) hs) : SS X H0 Wf (.Try body (h₀ :: hds) [] [] pos) (Py.ex1 C call sub (.try sb hs)) := by
  obtain ⟨l, hl, hq⟩ := hh
  refine ⟨_, ps_try_many (tb := fun W D σ H => ∀ (pn : List (Addr × Obj)) (xe : Value → Shared → Prop), Takes (X.tr pn xe) W → PassesOwn (model X.prog X.w) X.A X.env xe → ∀ pins s, Inv (X.tr pn xe) pins σ H s → wpAny (model X.prog X.w) X.A (execs body X.env) (SP (X.tr pn xe) pins D) xe s)
    hst hf tk (fun W pn xe tkW po => ⟨fun pins s σ H D I q => q pn xe tkW po pins s I⟩) hl, fun σ H D ρ Z s h pn xe tkW po pins sh I => ?_⟩
  obtain ⟨t, pt, st⟩ := hb _ pn xe tkW po
  refine pt.run pins sh σ H D I (st σ H D ρ Z s ?_)
  simp only [Py.ex1] at h
  cases eb : Py.exs C call sub sb ρ with
  | next ρ3 =>
    rw [eb] at h
    exact h
  | ret r ρ3 =>
    rw [eb] at h
    exact h
  | exc c ρ3 =>
    rw [eb] at h
    exact fun σ3 H3 s3 => hq c ρ3 D Z σ3 H3 s3 h
  | stuck =>
    rw [eb] at h
    exact h.elim
end Sd
set_option Elab.async false
set_option linter.all false
set_option autoImplicit false
set_option maxRecDepth 100000
namespace Sd
open PySem PySem.Spec PyProof.Rows L2
open Py (T Sl R Res CRes SRes Ex Stm W)
variable {H H' H1 : Hp} {H0 : B0} {A A' Z : Addr → Prop} {σ σ' : L2.St} {ρ ρ' : PEnv} {X : Cx} {K : PySem.W.Frag} {Wf : XW} {α β γ δ : Type}
variable {C : List T} {call : Nat → List T → CRes} {sub : Nat → Nat → Bool} {a b c o e : Expr} {ea eb ec eo : Ex} {pos cpos : Pos} {es : List Expr} {xs : List Ex}
def spR (K : PySem.W.Frag) (F : List T → CRes) : Sp := fun vs H Q _ =>
  ∃ (va vb : V) (p q : Addr) (ta tb : T) (us ws : List T), vs = [va, vb, .ref p, .ref q] ∧ p ≠ q ∧ Rep K H (fun x => x = p ∨ x = q) va ta ∧ Rep K H (fun x => x = p ∨ x = q) vb tb ∧
    RepO K H NoA p (.lst us) ∧ RepO K H NoA q (.lst ws) ∧ Py.pureTs us = true ∧ Py.pureTs ws = true ∧
    match F [ta, tb, .lst us, .lst ws] with
    | .ok (.tmp (.tup [.lst c, .lst d])) => ∀ H', (∀ x o, H x = some o → x ≠ p → x ≠ q → H' x = some o) → RepO K H' NoA p (.lst c) → RepO K H' NoA q (.lst d) → Q .non H'
    | _ => False
theorem SR.chgM (s : SR K H0 Z σ H ρ) {M : Addr → Prop} (hF : ∀ x o, H x = some o → ¬ M x → H' x = some o) (hA : ∀ x, M x → Av Z σ ρ x) (h0 : ∀ x, M x → H0 x = none) (hz : ∀ x, M x → Z x → ∃ o, H' x = some o ∧ ∀ xs, o ≠ .tup xs)
    (hl : ρ'.length = ρ.length) (hv : ∀ (i : Nat) (t : T), ρ'[i]? = some (Sl.val t) → ρ[i]? = some (Sl.val t))
    (ho : ∀ (i : Nat) (t : T), ρ'[i]? = some (Sl.own t) → ∃ u, ρ[i]? = some (Sl.own u) ∧ ∀ x, σ[i]? = some (some (V.ref x)) → (M x ∧ RepO K H' NoA x t ∧ Py.apartR (.new t) = true) ∨ (¬ M x ∧ t = u)) :
    SR K H0 Z σ H' ρ' ∧ Kp H H' (Ow σ ρ) (Ow σ ρ') ∨ (∃ x, M x ∧ ¬ Ow σ ρ x) ∧ SR K H0 Z σ H' ρ' := by
  have ow : ∀ x, Ow σ ρ' x → Ow σ ρ x := fun x ⟨i, t, e1, e2⟩ => by
    obtain ⟨u, h1, _⟩ := ho i t e1
    exact ⟨i, u, h1, e2⟩
  have av : ∀ x, Av Z σ ρ' x → Av Z σ ρ x := fun x h => h.elim .inl fun h => .inr (ow x h)
  have kA : Kp H H' (Av Z σ ρ) (Av Z σ ρ') := ⟨fun x o e n => ⟨hF x o e fun z => n (hA x z), fun z => n (av x z)⟩, fun x xs e => hF x _ e fun z => by
    obtain ⟨o, h1, h2⟩ := s.avIn (hA x z)
    rw [e] at h1
    exact h2 xs (Option.some.inj h1).symm⟩
  have main : SR K H0 Z σ H' ρ' := by
    refine ⟨s.len.trans hl.symm, fun x o e => ?_, fun x z => ?_, fun i t e => ?_, fun i t e => ?_, fun i j t u x e1 e2 e3 e4 => ?_, s.fix⟩
    · refine hF x o (s.base x o e) fun z => ?_
      rw [h0 x z] at e
      cases e
    · by_cases m : M x
      · exact hz x m z
      · obtain ⟨o, h1, h2⟩ := s.zin x z
        exact ⟨o, hF x o h1 m, h2⟩
    · obtain ⟨v, h1, h2⟩ := s.val i t (hv i t e)
      exact ⟨v, h1, h2.keep kA⟩
    · obtain ⟨u, h1, h2⟩ := ho i t e
      obtain ⟨x, g1, g2, g3, g4⟩ := s.own i u h1
      refine ⟨x, g1, g2, g3, ?_⟩
      rcases h2 x g1 with ⟨_, h4, h5⟩ | ⟨m, rfl⟩
      · exact h4.pure h5
      · obtain ⟨o, h5, _⟩ := g4.some
        exact g4.keep kA ((hF x o h5 m).trans h5.symm)
    · obtain ⟨u1, h1, _⟩ := ho i t e1
      obtain ⟨u2, h2, _⟩ := ho j u e2
      exact s.uniq i j u1 u2 x h1 h2 e3 e4
  by_cases q : ∃ x, M x ∧ ¬ Ow σ ρ x
  · exact .inr ⟨q, main⟩
  · refine .inl ⟨main, ⟨fun x o e n => ⟨hF x o e fun z => ?_, fun z => n (ow x z)⟩, kA.tup⟩⟩
    exact q ⟨x, z, n⟩
theorem SR.chgM' (s : SR K H0 Z σ H ρ) {M : Addr → Prop} (hF : ∀ x o, H x = some o → ¬ M x → H' x = some o) (hA : ∀ x, M x → Av Z σ ρ x) (h0 : ∀ x, M x → H0 x = none) (hz : ∀ x, M x → Z x → ∃ o, H' x = some o ∧ ∀ xs, o ≠ .tup xs)
    (hl : ρ'.length = ρ.length) (hv : ∀ (i : Nat) (t : T), ρ'[i]? = some (Sl.val t) → ρ[i]? = some (Sl.val t))
    (ho : ∀ (i : Nat) (t : T), ρ'[i]? = some (Sl.own t) → ∃ u, ρ[i]? = some (Sl.own u) ∧ ∀ x, σ[i]? = some (some (V.ref x)) → (M x ∧ RepO K H' NoA x t ∧ Py.apartR (.new t) = true) ∨ (¬ M x ∧ t = u)) :
    SR K H0 Z σ H' ρ' := (s.chgM hF hA h0 hz hl hv ho).elim (·.1) (·.2)
variable {k fI : Nat} {fa : Addr} {fd : FuncData} {ps : List Str} {xa : Nat → Addr} {x y : Str} {p py : Pos} {j : Nat}
theorem refT_slot {i : Nat} {t : T} (h : Py.refT (.slot i) ρ = some t) : ∃ ts, t = .lst ts ∧ ρ[i]? = some (.own (.lst ts)) ∧ Py.pureTs ts = true := by
  simp only [Py.refT] at h
  split at h
  · rename_i ts e
    split at h
    · cases h
      exact ⟨ts, rfl, e, by assumption⟩
    · cases h
  · cases h
theorem refT_new {u t : T} (h : Py.refT (.new u) ρ = some t) : ∃ ts, t = .lst ts ∧ u = .lst ts ∧ Py.pureTs ts = true := by
  cases u <;> first | (simp [Py.refT] at h; done) | skip
  rename_i ts
  simp only [Py.refT] at h
  split at h
  · cases h
    exact ⟨ts, rfl, rfl, by assumption⟩
  · cases h
theorem own_pure {i : Nat} {ts : List T} (s : SR K H0 Z σ H ρ) (h : ρ[i]? = some (.own (.lst ts))) (hp : Py.pureTs ts = true) : ∃ q, σ[i]? = some (some (.ref q)) ∧ H0 q = none ∧ ¬ Z q ∧ Ow σ ρ q ∧ RepO K H NoA q (.lst ts) := by
  obtain ⟨q, h1, h2, h3, h4⟩ := s.own i _ h
  exact ⟨q, h1, h2, h3, ⟨i, _, h, h1⟩, h4.pure (by simpa [Py.apartR] using hp)⟩
theorem calE_ok {x : CRes} {rc : R} {D : Ends} (h : PostS K H0 Wf Z (Py.calE x rc j ρ) D) : ∃ c d, x = .ok (.tmp (.tup [.lst c, .lst d])) ∧ Py.pureTs c = true ∧ Py.pureTs d = true ∧ PostS K H0 Wf Z (.next ((Py.refSet rc (.lst c) ρ).set j (.own (.lst d)))) D := by
  unfold Py.calE at h
  split at h
  · split at h
    · rename_i hp
      rw [Bool.and_eq_true] at hp
      exact ⟨_, _, rfl, hp.1, hp.2, h⟩
    · exact h.elim
  · exact h.elim
theorem ss_cal (F : FnOk X.prog X.w X.K X.mg X.base (L2.CX X.prog X.w) k fa fd ps (spR X.K (call fI))) (hr : Room k X.A) (hg : Gl X x) (hm : X.mg x = some (.ref fa)) (hk : PySem.W.keepIn X.K (.ref fa) = true) (hb : Binds X.K fd ps []) (tk : Takes X (WOf xa Wf))
    (hdb : (x == ("__debug__" : Str)) = false) (pla : plainE a = true) (plb : plainE b = true) (plc : plainE c = true) (hN : X.N[j]? = some y) (hv : Vis X.env.scope y) (hd : (y == ("__debug__" : Str)) = false) (hcd : (y == ("__classdict__" : Str)) = false)
    (ha : SE X H0 Wf a (Py.go C call ea).1) (hbb : SE X H0 Wf b (Py.go C call eb).1) (hc : SE X H0 Wf c (Py.go C call ec).1) :
    SS X H0 Wf (.Expr (.Call (.Name x p) [a, b, c, .Name y py] [] cpos) pos) (Py.ex1 C call sub (.cal fI ea eb ec j)) := by
  obtain ⟨ta, pa, sa⟩ := ha
  obtain ⟨tb, pb, sb⟩ := hbb
  obtain ⟨tc, pc, sc⟩ := hc
  have hpl : [a, b, c, Expr.Name y py].all plainE = true := by
    simp only [List.all_cons, List.all_nil, Bool.and_eq_true]
    exact ⟨pla, plb, plc, rfl, trivial⟩
  have pt := pa_cons pa (pa_cons pb (pa_cons pc (pa_cons (pe_var (pos := py) hN hv hd hcd) pa_nil (star_plain rfl _ _)) (star_plain plc _ _)) (star_plain plb _ _)) (star_plain pla _ _)
  refine ⟨_, ps_expr (pe_callS F hr hg hm hk hb (passAt tk) pt hdb (starE_cons hpl _ cpos).1 (starE_cons hpl _ cpos).2) (swap_no rfl _ _ _), fun σ H D ρ Z s h => ?_⟩
  simp only [Py.ex1] at h
  refine sa σ H _ ρ Z s (post_sbnd (RelX := fun H' ρ' v r => RV X.K H0 Z σ H' ρ' v r) (fun _ z => z) h fun ra ρ1 va H1 s1 k1 rva q => ?_)
  refine sb σ H1 _ ρ1 Z s1 (post_sbnd (RelX := fun H' ρ' v r => RV X.K H0 Z σ H' ρ' v r) (fun _ z => z) q fun rb ρ2 vb H2 s2 k2 rvb q => ?_)
  refine sc σ H2 _ ρ2 Z s2 (post_sbnd (RelX := fun H' ρ' v r => RV X.K H0 Z σ H' ρ' v r) (fun _ z => z) q fun rc ρ3 vc H3 s3 k3 rvc q => ?_)
  have hab : ∃ ta' tb', ra = .tmp ta' ∧ rb = .tmp tb' := by
    cases ra <;> cases rb <;> first | exact q.elim | exact ⟨_, _, rfl, rfl⟩
  obtain ⟨ta', tb', rfl, rfl⟩ := hab
  replace q : PostS X.K H0 Wf Z (if (!(Py.pureT ta' && Py.pureT tb')) = true then .stuck else Py.slift (Py.refT rc ρ3) fun tc => Py.slift (Py.refT (.slot j) ρ3) fun td => if Py.refOk rc j = true then Py.calE (call fI [ta', tb', tc, td]) rc j ρ3 else .stuck) D := q
  by_cases hpu : (!(Py.pureT ta' && Py.pureT tb')) = true
  · rw [if_pos hpu] at q
    exact q.elim
  rw [if_neg hpu] at q
  simp only [Bool.not_eq_true', Bool.not_eq_false, Bool.and_eq_true] at hpu
  obtain ⟨tc', e1, q⟩ := post_slift q
  obtain ⟨td', e2, q⟩ := post_slift q
  by_cases hro : Py.refOk rc j = true
  case neg =>
    rw [if_neg hro] at q
    exact q.elim
  rw [if_pos hro] at q
  obtain ⟨c', d', ecall, pc', pd', q9⟩ := calE_ok q
  clear q
  obtain ⟨ws, rfl, ej, pw⟩ := refT_slot e2
  obtain ⟨q0, hq1, hq2, hq3, hq4, hq5⟩ := own_pure s3 ej pw
  have ra3 : Rep X.K H3 (Av Z σ ρ3) va ta' := Rep.keep (av_kp (k2.trans k3)) rva
  have rb3 : Rep X.K H3 (Av Z σ ρ3) vb tb' := Rep.keep (av_kp k3) rvb
  refine ⟨.ref q0, hq1, ?_⟩
  cases rc with
  | tmp t => simp [Py.refT] at e1
  | slot i =>
    obtain ⟨us, rfl, ei, pu⟩ := refT_slot e1
    obtain ⟨p0, hp1, hp2, hp3, hp4, hp5⟩ := own_pure s3 ei pu
    have rvc : σ[i]? = some (some vc) := rvc
    rw [hp1] at rvc
    cases rvc
    have hij : i ≠ j := by simpa [Py.refOk] using hro
    have hne : p0 ≠ q0 := fun z => by
      subst z
      exact hij (s3.uniq i j _ _ _ ei ej hp1 hq1)
    have hM : ∀ x, (x = p0 ∨ x = q0) → Av Z σ ρ3 x := fun x z => by
      rcases z with rfl | rfl
      · exact .inr hp4
      · exact .inr hq4
    refine ⟨va, vb, p0, q0, ta', tb', us, ws, rfl, hne, ra3.weak fun x _ _ z => hM x z, rb3.weak fun x _ _ z => hM x z, hp5, hq5, pu, pw, ?_⟩
    rw [ecall]
    intro H' fr rp rq
    refine q9 σ H' (s3.chgM' (M := fun x => x = p0 ∨ x = q0) (fun x o e n => fr x o e (fun z => n (.inl z)) fun z => n (.inr z)) hM ?_ ?_ ?_ ?_ ?_)
    · rintro x (rfl | rfl)
      · exact hp2
      · exact hq2
    · rintro x (rfl | rfl) z
      · exact absurd z hp3
      · exact absurd z hq3
    · simp [Py.refSet]
    · intro i' t e
      rcases set_some e with ⟨_, e⟩ | ⟨_, e⟩
      · cases e
      · rcases set_some e with ⟨_, e⟩ | ⟨_, e⟩
        · cases e
        · exact e
    · intro i' t e
      rcases set_some e with ⟨rfl, e0⟩ | ⟨hn1, e⟩
      · cases e0
        refine ⟨_, ej, fun x hx => .inl ?_⟩
        rw [hq1] at hx
        cases hx
        exact ⟨.inr rfl, rq, by simpa [Py.apartR] using pd'⟩
      · rcases set_some e with ⟨rfl, e0⟩ | ⟨hn2, e⟩
        · cases e0
          refine ⟨_, ei, fun x hx => .inl ?_⟩
          rw [hp1] at hx
          cases hx
          exact ⟨.inl rfl, rp, by simpa [Py.apartR] using pc'⟩
        · refine ⟨t, e, fun x hx => .inr ⟨?_, rfl⟩⟩
          rintro (rfl | rfl)
          · exact hn2 (s3.uniq i i' _ _ _ ei e hp1 hx)
          · exact hn1 (s3.uniq j i' _ _ _ ej e hq1 hx)
  | new u =>
    obtain ⟨us, rfl, rfl, pu⟩ := refT_new e1
    obtain ⟨p0, rfl, hp2, hp3, sp, rp0⟩ := rvc
    have hne : p0 ≠ q0 := fun z => by
      subst z
      exact sp.newOff hq4
    have hM : ∀ x, (x = p0 ∨ x = q0) → Av (fun a => Z a ∨ a = p0) σ ρ3 x := fun x z => by
      rcases z with rfl | rfl
      · exact .inl (.inr rfl)
      · exact .inr hq4
    have ra4 : Rep X.K H3 (fun x => x = p0 ∨ x = q0) va ta' := ra3.pure hpu.1
    have rb4 : Rep X.K H3 (fun x => x = p0 ∨ x = q0) vb tb' := rb3.pure hpu.2
    refine ⟨va, vb, p0, q0, ta', tb', us, ws, rfl, hne, ra4, rb4, rp0.pure (by simpa [Py.apartR] using pu), hq5, pu, pw, ?_⟩
    rw [ecall]
    intro H' fr rp rq
    refine q9 σ H' (SR.less (Z := fun a => Z a ∨ a = p0) (sp.chgM' (M := fun x => x = p0 ∨ x = q0) (fun x o e n => fr x o e (fun z => n (.inl z)) fun z => n (.inr z)) hM ?_ ?_ ?_ ?_ ?_) fun x z => .inl z)
    · rintro x (rfl | rfl)
      · exact hp2
      · exact hq2
    · rintro x (rfl | rfl) z
      · exact rp.some
      · exact rq.some
    · simp [Py.refSet]
    · intro i' t e
      rcases set_some e with ⟨_, e⟩ | ⟨_, e⟩
      · cases e
      · exact e
    · intro i' t e
      rcases set_some e with ⟨rfl, e0⟩ | ⟨hn1, e⟩
      · cases e0
        refine ⟨_, ej, fun x hx => .inl ?_⟩
        rw [hq1] at hx
        cases hx
        exact ⟨.inr rfl, rq, by simpa [Py.apartR] using pd'⟩
      · refine ⟨t, e, fun x hx => .inr ⟨?_, rfl⟩⟩
        rintro (rfl | rfl)
        · exact sp.newOff ⟨i', t, e, hx⟩
        · exact hn1 (s3.uniq j i' _ _ _ ej e hq1 hx)
theorem RVDs.get : ∀ {vs : List V} {rs : List R} {ts : List T} {j : Nat} {v : V} {t : T}, RVDs K Z σ H ρ vs rs → Py.rds rs ρ = some ts → vs[j]? = some v → ts[j]? = some t → ∃ r, rs[j]? = some r ∧ RVD K Z σ H ρ v r ∧ Py.rd r ρ = some t
  | _, _, ts, j, v, t, .nil, e, e1, e2 => by simp at e1
  | _, _, ts, j, v, t, .cons (b := r) (l₂ := rs) h1 h2, e, e1, e2 => by
    have e : ((Py.rd r ρ).bind fun t => (Py.rds rs ρ).map (t :: ·)) = some ts := e
    obtain ⟨u, f1, f2⟩ := Option.bind_eq_some_iff.mp e
    obtain ⟨us, f3, rfl⟩ := Option.map_eq_some_iff.mp f2
    cases j with
    | zero =>
      simp at e1 e2
      subst e1
      subst e2
      exact ⟨r, rfl, h1, f1⟩
    | succ j =>
      simp at e1 e2
      obtain ⟨r', g1, g2, g3⟩ := RVDs.get (j := j) h2 f3 e1 e2
      exact ⟨r', by simpa using g1, g2, g3⟩
theorem RVDs.len : ∀ {vs : List V} {rs : List R}, RVDs K Z σ H ρ vs rs → vs.length = rs.length
  | _, _, .nil => rfl
  | _, _, .cons _ h => by simp [RVDs.len h]
theorem rvd_off {v : V} {r : R} {t u : T} {s0 : Nat} {p : Addr} (h : RVD K Z σ H ρ v r) (s : SR K H0 Z σ H ρ) (e : Py.rd r ρ = some t) (hn : r ≠ .slot s0) (e0 : ρ[s0]? = some (.own u)) (hp : σ[s0]? = some (some (.ref p))) : Rep K H (fun x => False ∨ x = p) v t := by
  have ow : Ow σ ρ p := ⟨s0, u, e0, hp⟩
  have wk : ∀ {v : V} {t : T}, Rep K H (Av Z σ ρ) v t → Rep K H (fun x => False ∨ x = p) v t := fun h => h.weak fun x _ _ z => by
    rcases z with z | rfl
    · exact z.elim
    · exact .inr ow
  cases r with
  | tmp w =>
    simp only [Py.rd] at e
    cases e
    exact wk h
  | new w =>
    simp only [Py.rd] at e
    cases e
    exact wk h
  | slot i =>
    have h : σ[i]? = some (some v) := h
    simp only [Py.rd] at e
    split at e
    · rename_i w q
      cases e
      obtain ⟨v', q1, q2⟩ := s.val i _ q
      rw [h] at q1
      cases q1
      exact wk q2
    · rename_i w q
      cases e
      obtain ⟨a, q1, q2, q3, q4⟩ := s.own i _ q
      rw [h] at q1
      cases q1
      refine (q4.keep (Kp.ext (Ext.refl _) fun x _ _ z => ?_) rfl).rep (A := fun x => False ∨ x = p) fun z => ?_
      · rcases z with z | rfl
        · exact z.elim
        · exact .inr ow
      · rcases z with z | rfl
        · exact z
        · exact hn (by rw [s.uniq i s0 _ _ _ q e0 h hp])
    · cases e
theorem moved_ok {i s0 : Nat} {rs : List R} (h : Py.movedS i rs ρ = some s0) : rs[i]? = some (.slot s0) ∧ (∃ ls, ρ[s0]? = some (.own (.lst ls))) ∧ ∀ j r, j ≠ i → rs[j]? = some r → r ≠ .slot s0 := by
  unfold Py.movedS at h
  split at h
  · rename_i s e
    split at h
    · rename_i ls e2
      split at h
      · rename_i ha
        cases h
        refine ⟨e, ⟨ls, e2⟩, fun j r hj er z => ?_⟩
        subst z
        have hm : (R.slot s0) ∈ rs.eraseIdx i := by
          rw [List.mem_eraseIdx_iff_getElem?]
          exact ⟨j, hj, er⟩
        have := List.all_eq_true.mp ha _ hm
        simp at this
      · cases h
    · cases h
  · cases h
theorem se_callm {np i : Nat} (F : FnOk X.prog X.w X.K X.mg X.base (L2.CX X.prog X.w) k fa fd ps (spF X.K xa (some i) np (call fI))) (hr : Room k X.A) (hg : Gl X x) (hm : X.mg x = some (.ref fa)) (hk : PySem.W.keepIn X.K (.ref fa) = true) (hb : Binds X.K fd ps []) (tk : Takes X (WOf xa Wf))
    (hdb : (x == ("__debug__" : Str)) = false) (hpl : (e :: es).all plainE = true) (hlen : xs.length = np) (ha : SRs X H0 Wf (e :: es) (Py.goS C call xs).2) : SE X H0 Wf (.Call (.Name x p) (e :: es) [] pos) (Py.go C call (.callm fI i xs)).1 := by
  obtain ⟨t, pt, sm⟩ := ha
  refine ⟨_, pe_callS F hr hg hm hk hb (passAt tk) pt hdb (starE_cons hpl _ pos).1 (starE_cons hpl _ pos).2, fun σ H Q ρ Z s h => ?_⟩
  have h : PostE X.K H0 Wf Z σ H ρ (Py.bnd ((Py.goS C call xs).2 ρ) fun rs ρ => Py.callM call fI i rs ρ) Q := h
  refine sm σ H _ ρ Z s (post_bnd_eq (RelX := fun H' ρ' vs rs => RVDs X.K Z σ H' ρ' vs rs) h fun rs ρ1 vs H1 eq1 s1 k1 rv q => ?_)
  obtain ⟨ts, e1, q⟩ := post_lift q
  obtain ⟨s0, e2, q⟩ := post_lift q
  have hl : ts.length = np := (rds_len e1).trans ((goS2_len eq1).trans hlen)
  obtain ⟨m1, ⟨ls, m2⟩, m3⟩ := moved_ok e2
  obtain ⟨pa, o1, o2, o3, o4⟩ := s1.own s0 _ m2
  have hi : i < rs.length := (List.getElem?_eq_some_iff.mp m1).1
  have hiv : i < vs.length := by rw [RVDs.len rv]; exact hi
  have hit : i < ts.length := by rw [rds_len e1]; exact hi
  obtain ⟨r0, g1, g2, g3⟩ := RVDs.get rv e1 (List.getElem?_eq_getElem hiv) (List.getElem?_eq_getElem hit)
  rw [m1] at g1
  cases g1
  have g2 : σ[s0]? = some (some vs[i]) := g2
  rw [o1] at g2
  have ev : vs[i] = .ref pa := (Option.some.inj (Option.some.inj g2)).symm
  have et : ts[i] = .lst ls := by
    simp only [Py.rd, m2] at g3
    exact (Option.some.inj g3).symm
  have ow : Ow σ ρ1 pa := ⟨s0, _, m2, o1⟩
  have args : ArgsOk X.K H1 NoA (some i) (some pa) vs ts := by
    refine ⟨pa, .lst ls, rfl, by rw [List.getElem?_eq_getElem hiv, ev], by rw [List.getElem?_eq_getElem hit, et], fun z => z, ?_, by rw [RVDs.len rv, rds_len e1], fun j v u hj hv hu => ?_⟩
    · refine o4.keep (Kp.ext (Ext.refl _) fun x _ _ z => ?_) rfl
      rcases z with z | rfl
      · exact z.elim
      · exact .inr ow
    · obtain ⟨r, f1, f2, f3⟩ := RVDs.get rv e1 hv hu
      exact rvd_off f2 s1 f3 (m3 j r hj f1) m2 o1
  have fin : ∀ H2, Frm (some pa) H1 H2 → SR X.K H0 Z σ H2 (ρ1.set s0 .un) ∧ Kp H1 H2 (Ow σ ρ1) (Ow σ (ρ1.set s0 .un)) := fun H2 fr => by
    have back : ∀ (i' : Nat) (t : T), (ρ1.set s0 Sl.un)[i']? = some (Sl.own t) → i' ≠ s0 ∧ ρ1[i']? = some (Sl.own t) := fun i' t e => by
      rcases set_some e with ⟨_, e0⟩ | ⟨hn, e⟩
      · cases e0
      · exact ⟨fun z => hn z.symm, e⟩
    have hM : ∀ x, x = pa → Ow σ ρ1 x := fun x z => z ▸ ow
    rcases s1.chgM (M := fun x => x = pa) (H' := H2) (ρ' := ρ1.set s0 .un) (fun x o e n => fr x o e fun z => n (by cases z; rfl)) (fun x z => .inr (hM x z)) (fun x z => z ▸ o2) (fun x z zz => absurd (z ▸ zz) o3) (by simp) (fun i' t e => by
      rcases set_some e with ⟨_, e0⟩ | ⟨_, e⟩
      · cases e0
      · exact e) (fun i' t e => by
      obtain ⟨h1, h2⟩ := back i' t e
      exact ⟨t, h2, fun x hx => .inr ⟨fun z => h1 (s1.uniq i' s0 _ _ pa h2 m2 (z ▸ hx) o1), rfl⟩⟩) with z | ⟨⟨x, z1, z2⟩, _⟩
    · exact z
    · exact absurd (hM x z1) z2
  cases hcall : call fI ts with
  | ok r =>
    rw [hcall] at q
    cases r with
    | tmp t =>
      replace q : PostE X.K H0 Wf Z σ H1 ρ1 (if Py.pureT t = true then .ok (.tmp t, ρ1.set s0 .un) else .stuck) Q := q
      by_cases hp : Py.pureT t = true
      · rw [if_pos hp] at q
        refine ⟨NoA, ts, some pa, fun a z => z.elim, hl, args, ?_⟩
        rw [hcall]
        intro v H2 fr res
        obtain ⟨s2, k2⟩ := fin H2 fr
        exact q v H2 s2 k2 (Rep.pure res hp)
      · rw [if_neg hp] at q
        exact q.elim
    | new t => exact q.elim
    | slot j => exact q.elim
  | exc c =>
    rw [hcall] at q
    refine ⟨NoA, ts, some pa, fun a z => z.elim, hl, args, ?_⟩
    rw [hcall]
    intro H2 fr
    obtain ⟨s2, k2⟩ := fin H2 fr
    exact ⟨c, rfl, rfl, q H2 s2 k2⟩
  | stuck =>
    rw [hcall] at q
    exact q.elim
end Sd
set_option Elab.async false
set_option linter.all false
set_option autoImplicit false
set_option maxRecDepth 100000
namespace Sx
open PySem PySem.Spec PyProof.Rows L2
abbrev kd (P : Program) (w : World) := PySem.strKind P w
def keyS (e : Int × Value) : Str := match e.2 with
  | .str x _ => x
  | _ => ⟨#[]⟩
def GoodS (w : World) (e : Int × Value) : Prop := ∃ x tk, e.2 = Value.str x tk ∧ e.1 = hashStr w x
def SetS (w : World) (h : Heap) (a : Addr) (l : List Str) : Prop :=
  ∃ o es ep t, h.get? a = some o ∧ o.ExactSet ∧ o.data = .set es ep t ∧ (∀ e ∈ es.toList, GoodS w e) ∧ (es.toList.map keyS).Perm l ∧ l.Nodup ∧ l.length < scanBound ∧ t.fits es.size = true ∧ Ris t.place.toList ∧
    (w.params.followText "set-order" = true ∨ t.led = true)
section
variable {P : Program} {w : World} {h h' : Heap} {a : Addr} {l : List Str}
theorem SetS.at (R : SetS w h a l) (k : ∀ o, h.get? a = some o → h'.get? a = some o) : SetS w h' a l := by
  obtain ⟨o, es, ep, t, ho, r⟩ := R
  exact ⟨o, es, ep, t, k o ho, r⟩
theorem good_elems {es : List (Int × Value)} (g : ∀ e ∈ es, GoodS w e) : ElemsOf (kd P w) es := fun e he => by
  obtain ⟨x, tk, h1, h2⟩ := g e he
  exact ⟨⟨x, by rw [h1]; exact strKind_is P w x tk, h2⟩, by rw [h1] <;> rfl⟩
theorem good_is {e : Int × Value} (g : GoodS w e) (x : Str) : (kd P w).is x e.2 = true ↔ keyS e = x := by
  obtain ⟨y, tk, h1, _⟩ := g
  unfold keyS
  rw [h1]
  show (y == x) = true ↔ y = x
  exact beq_iff_eq
end
section
variable {P : Program} {w : World} {A : Around} {E : Value → Shared → Prop} {s : Shared} {a : Addr} {l : List Str}
theorem add_tail {g : Bool → Sem Unit} (hg : ∀ (b : Bool) (s₁ : Shared) (Q' : Unit → Shared → Prop), Q' () s₁ → wpAny (model P w) A (g b) Q' E s₁)
    {o : Obj} {es : Array (Int × Value)} {ep : Nat} {t : SetTable} (ho : s.heap.get? a = some o) (hex : o.ExactSet) (hd : o.data = .set es ep t)
    {es1 : Array (Int × Value)} {t2 : SetTable} {l' : List Str} (g1 : ∀ e ∈ es1.toList, GoodS w e) (p1 : (es1.toList.map keyS).Perm l') (nd : l'.Nodup) (hb : l'.length < scanBound)
    (hf2 : t2.fits es1.size = true) (hr : Ris t2.place.toList) (hl : w.params.followText "set-order" = true ∨ t2.led = true) {wasDummy : Bool} {R : Option Bool → Shared → Prop}
    (hR : ∀ h', Heap.SameBut a s.heap h' → SetS w h' a l' → R (some true) { s with heap := h' }) :
    wpAny (model P w) A (do
        storeSet a es1 t2
        if (!wasDummy && t2.tooFull) = true then do
            g (relayAll t2 es1 (SetTable.grown es1.size)).2.2
            storeSet a (relayAll t2 es1 (SetTable.grown es1.size)).1 (relayAll t2 es1 (SetTable.grown es1.size)).2.1
            pure (some true)
          else pure (some true)) R E s := by
  have sz1 : es1.size = l'.length := by rw [← p1.length_eq, List.length_map, Array.length_toList]
  refine wpAny_bind (wpAny_storeSet_of ho hd ?_ (fits_of_scanBound (by rw [sz1]; exact hb)))
  have ho1 := store_at (es' := es1) (t' := t2) ho hd
  have sb1 := Heap.SameBut.update s.heap a (Obj.putSet es1 t2)
  split
  · have pm := relayAll_perm t2 es1 (SetTable.grown es1.size)
    have hf3 := relayAll_fits t2 es1 (SetTable.grown es1.size)
    have hr3 := relayAll_ris t2 es1 (SetTable.grown es1.size)
    have hl3 := relayAll_led t2 es1 (SetTable.grown es1.size)
    generalize relayAll t2 es1 (SetTable.grown es1.size) = Y at pm hf3 hr3 hl3 ⊢
    obtain ⟨es2, t3, gave⟩ := Y
    dsimp only at pm hf3 hr3 hl3 ⊢
    have sz2 : es2.size = es1.size := by rw [← Array.length_toList, pm.length_eq, Array.length_toList]
    refine wpAny_bind (hg _ _ _ (wpAny_bind (wpAny_storeSet_of ho1 rfl ?_ (fits_of_scanBound (by rw [sz2, sz1]; exact hb)))))
    refine wpAny_pure (hR _ (sb1.trans (Heap.SameBut.update _ a _)) ⟨_, es2, _, t3, store_at (es' := es2) (t' := t3) ho1 rfl, hex, rfl, fun e he => g1 e (pm.mem_iff.mp he), (pm.map keyS).trans p1, nd, hb, hf3, hr3, hl.imp id fun z => ?_⟩)
    rw [hl3]
    exact z
  · exact wpAny_pure (hR _ sb1 ⟨_, es1, _, t2, ho1, hex, rfl, g1, p1, nd, hb, hf2, hr, hl⟩)
theorem add_hashed {x : Str} {tk : Tok} {Q : Bool → Shared → Prop} (R : SetS w s.heap a l) (room : l.length + 1 < scanBound)
    (hQ : ∀ h' b, Heap.SameBut a s.heap h' → SetS w h' a (if x ∈ l then l else x :: l) → Q b { s with heap := h' }) :
    wpAny (model P w) A (setAddHashed a (.str x tk) ((kd P w).hash x)) Q E s := by
  obtain ⟨o, es, ep, t, ho, hex, hd, g, pm0, nd, hb, hf, hr, hl⟩ := R
  have sz : es.size = l.length := by rw [← pm0.length_eq, List.length_map, Array.length_toList]
  have hsc : (Value.str x tk).scannable = true := rfl
  have hel : ElemsOf (kd P w) es.toList := good_elems g
  unfold setAddHashed setAddHashedIn
  refine wpAny_holding (wpAny_bind (wpAny_setState_of ho hd hf ?_))
  dsimp only
  rw [byScan_of hsc (by rw [sz]; exact hb) hel]
  simp only [↓reduceIte]
  unfold setAddByScan
  refine wpAny_bind (wpAny_bind (wpAny_rule (wpAny_bind (wpAny_setScan_of (strKind_is P w x tk) ho hd hf hel ?_))))
  cases hfi : List.findIdx? (fun e => (kd P w).is x e.2) es.toList with
  | some j =>
    dsimp only
    obtain ⟨hj, pj, _⟩ := List.findIdx?_eq_some_iff_getElem.mp hfi
    have hx : x ∈ l := by
      refine pm0.mem_iff.mp (List.mem_map.mpr ⟨es.toList[j], List.getElem_mem hj, ?_⟩)
      exact (good_is (P := P) (g _ (List.getElem_mem hj)) x).mp pj
    refine wpAny_pure (wpAny_pure (hQ s.heap _ (Heap.SameBut.refl a s.heap) ?_))
    rw [if_pos hx]
    exact ⟨o, es, ep, t, ho, hex, hd, g, pm0, nd, hb, hf, hr, hl⟩
  | none =>
    dsimp only
    have hx : x ∉ l := fun z => by
      obtain ⟨e, he, q⟩ := List.mem_map.mp (pm0.mem_iff.mpr z)
      have c := List.findIdx?_eq_none_iff.mp hfi e he
      rw [(good_is (P := P) (g e he) x).mpr q] at c
      cases c
    have hgw : ∀ (b : Bool) {s₁ : Shared} {Q' : Unit → Shared → Prop}, Q' () s₁ → wpAny (model P w) A (match b with | true => rule "set.scan.the-table-gave-way" | false => pure ()) Q' E s₁ :=
      fun b s₁ Q' q => by cases b <;> first | exact wpAny_pure q | exact wpAny_rule q
    have pm := layNew_perm t es ((kd P w).hash x) (.str x tk)
    have hf1 := layNew_fits t es ((kd P w).hash x) (.str x tk)
    have hr1 := layNew_ris t es ((kd P w).hash x) (.str x tk) hr
    have hl1 := layNew_led t es ((kd P w).hash x) (.str x tk)
    generalize layNew t es ((kd P w).hash x) (.str x tk) = Y at pm hf1 hr1 hl1 ⊢
    obtain ⟨es1, t1, wasDummy, gave⟩ := Y
    dsimp only at pm hf1 hr1 hl1 ⊢
    rw [Array.toList_push] at pm
    have pc : es1.toList.Perm (((kd P w).hash x, Value.str x tk) :: es.toList) := pm.trans (List.perm_append_singleton _ _)
    have pk : (es1.toList.map keyS).Perm (x :: l) := (pc.map keyS).trans (List.Perm.cons x pm0)
    have g1 : ∀ e ∈ es1.toList, GoodS w e := fun e he => by
      rcases List.mem_cons.mp (pc.mem_iff.mp he) with z | z
      · rw [z]
        exact ⟨x, tk, rfl, rfl⟩
      · exact g e z
    have hled : w.params.followText "set-order" = true ∨ t1.led = true := hl.imp id fun z => by rw [hl1]; exact z
    have fin : ∀ h', Heap.SameBut a s.heap h' → SetS w h' a (x :: l) → Q true { s with heap := h' } := fun h' sb r => hQ h' true sb (by rw [if_neg hx]; exact r)
    refine wpAny_bind (hgw _ ?_)
    split
    · refine wpAny_bind ?_
      rw [hashByValue_scannable 8 hsc]
      refine wpAny_pure ?_
      refine add_tail ?_ ho hex hd g1 pk (List.nodup_cons.mpr ⟨hx, nd⟩) room ?_ ?_ ?_ ?_
      · intro b s₁ Q' q
        cases b <;> first | exact wpAny_pure q | exact wpAny_rule q
      · first | (split <;> first | exact hf1 | exact SetTable.fits_plain_off hf1) | exact hf1
      · first | (split <;> exact hr1) | exact hr1
      · first | (split <;> exact hled) | exact hled
      · intro h' sb r
        dsimp only
        exact wpAny_pure (fin h' sb r)
    · refine wpAny_bind (wpAny_pure ?_)
      simp only [↓reduceIte]
      refine add_tail ?_ ho hex hd g1 pk (List.nodup_cons.mpr ⟨hx, nd⟩) room hf1 hr1 hled ?_
      · intro b s₁ Q' q
        cases b <;> first | exact wpAny_pure q | exact wpAny_rule q
      · intro h' sb r
        dsimp only
        exact wpAny_pure (fin h' sb r)
def addAll (l : List Str) (xs : List Str) : List Str := xs.foldl (fun l x => if x ∈ l then l else x :: l) l
theorem addAll_len : ∀ (xs l : List Str), (addAll l xs).length ≤ l.length + xs.length
  | [], l => by simp [addAll]
  | x :: xs, l => by
    have h := addAll_len xs (if x ∈ l then l else x :: l)
    show (addAll (if x ∈ l then l else x :: l) xs).length ≤ _
    have e : (if x ∈ l then l else x :: l).length ≤ l.length + 1 := by split <;> simp
    simp only [List.length_cons]
    omega
theorem update_loop {I : Addr} {fp wr : List Addr} {G : Array GenState → Array GenState → Prop} {n : Nat} {Pv : Nat → Value → Prop} {St : Nat → Shared → Prop} {R : Result → Shared → Prop}
    (W : WalksS P w A.in1 I fp wr G n Pv St) (S : Addr) (hSf : S ∉ fp) (xs : List Str) (hn : n = xs.length) (hb : xs.length + 1 < scanBound) (hval : ∀ i v, Pv i v → ∃ x t, xs[i]? = some x ∧ v = .str x t) :
    ∀ (k i : Nat) (s : Shared), n - i = k → i ≤ n → St i s → SetS w s.heap S (addAll [] (xs.take i)) →
      (∀ s', Moved (S :: wr) G s s' → SetS w s'.heap S (addAll [] xs) → R (.ok (.ret .none)) s') →
      codeAny (model P w) A (.builtin "set.update.loop" ⟨[.ref S, .ref I], []⟩) R s := by
  have hSw : S ∉ wr := fun h => hSf (W.sub _ h)
  have hsub : ∀ b ∈ wr, b ∈ S :: wr := fun b hb => List.mem_cons_of_mem _ hb
  intro k
  induction k with
  | zero =>
    intro i s hk' hi hst hS hR
    have hin : i = n := by omega
    subst hin
    refine codeAny_builtin F.entry_set_update_loop ?_
    rw [Around.under_plainId F.plain_set_update_loop _]
    show wpAny _ A.in1 (pyNext (.ref I) >>= _) _ _ s
    refine wpAny_bind (W.done s _ _ hst fun s' hm => ?_)
    show wpAny _ A.in1 (ret Value.none) _ _ s'
    have e : xs.take i = xs := List.take_of_length_le (by omega)
    rw [e] at hS
    exact wpAny_pure (hR s' (hm.mono hsub) (hS.at fun o e => hm.heap S o hSw e))
  | succ k ih =>
    intro i s hk' hi hst hS hR
    have hlt : i < n := by omega
    refine codeAny_builtin F.entry_set_update_loop ?_
    rw [Around.under_plainId F.plain_set_update_loop _]
    show wpAny _ A.in1 (pyNext (.ref I) >>= _) _ _ s
    refine wpAny_bind (W.item i s _ _ hlt hst fun v s' hP hst' hm => ?_)
    obtain ⟨z, t, hz, rfl⟩ := hval i v hP
    have hS' : SetS w s'.heap S (addAll [] (xs.take i)) := hS.at fun o e => hm.heap S o hSw e
    show wpAny _ A.in1 (holding [Value.str z t] (setAdd S (.str z t)) >>= _) _ _ s'
    refine wpAny_bind (wpAny_holding ?_)
    unfold setAdd
    refine wpAny_holding ?_
    refine wpAny_bind ((kd P w).pyHash (k := z) (strKind_is _ _ _ _) ?_)
    have hlen := addAll_len (xs.take i) []
    rw [List.length_take, List.length_nil] at hlen
    refine add_hashed (s := { s' with toks := s'.toks + 1 }) hS' (by omega) fun h' b hsb hS2 => ?_
    have e : (if z ∈ addAll [] (xs.take i) then addAll [] (xs.take i) else z :: addAll [] (xs.take i)) = addAll [] (xs.take (i + 1)) := by
      rw [List.take_add_one, hz]
      unfold addAll
      rw [List.foldl_append]
      rfl
    rw [e] at hS2
    refine wpAny_pure ⟨plainId_quiet F.plain_set_update_loop _, ih (i + 1) _ (by omega) hlt (W.frame _ s' _ _ hst' (Nat.le_succ _) fun b hb o e => ?_) hS2 fun s'' hm'' hS'' => ?_⟩
    · rw [hsb.2 b (fun h : b = S => hSf (by rw [← h]; exact hb))]
      exact e
    · refine hR s'' (Moved.trans W.gtrans ((hm.mono hsub).then_heap (Nat.le_succ _) fun b o hb e => ?_) hm'') hS''
      rw [hsb.2 b (fun h : b = S => hb (by rw [h]; exact List.mem_cons_self))]
      exact e
theorem new_at {h : Heap} (ho : h.get? a = some { cls := .type "set", dict := none, data := .set #[] 0 (.fresh 0 0 (!w.params.followText "set-order")) }) : SetS w h a [] :=
  ⟨_, #[], 0, _, ho, ⟨rfl, rfl, rfl⟩, rfl, (fun e he => by simp at he), (by simp), List.nodup_nil, (by decide), (by rfl), List.Pairwise.nil, by
    show _ ∨ (!w.params.followText "set-order") = true
    cases w.params.followText "set-order"
    · exact .inr rfl
    · exact .inl rfl⟩
end
end Sx
set_option Elab.async false
set_option linter.all false
set_option autoImplicit false
set_option maxRecDepth 100000
namespace Sx
open PySem PySem.Spec PyProof.Rows L2
section
variable {P : Program} {w : World} {A : Around} {E : Value → Shared → Prop} {s : Shared} {a : Addr}
theorem strs_at2 : ∀ {us : List Value} {xs : List Str}, StrsAre us xs → ∀ (i : Nat) (v : Value), us[i]? = some v → ∃ x t, xs[i]? = some x ∧ v = .str x t
  | _, _, .nil, i, v, h => by simp at h
  | _, _, .cons x t r, 0, v, h => by
    simp at h
    exact ⟨x, t, rfl, h.symm⟩
  | _, _, .cons x t r, i + 1, v, h => by
    obtain ⟨y, u, h1, h2⟩ := strs_at2 r i v (by simpa using h)
    exact ⟨y, u, by simpa using h1, h2⟩
theorem strs_len : ∀ {us : List Value} {xs : List Str}, StrsAre us xs → us.length = xs.length
  | _, _, .nil => rfl
  | _, _, .cons x t r => by simp [strs_len r]
set_option maxHeartbeats 3200000 in
theorem call_set {l : Addr} {items : Array Value} (xs : List Str) {Q : Value → Shared → Prop} (hh : A.handled = none) (hl : s.heap.IsList l items) (hit : StrsAre items.toList xs) (hb : xs.length + 1 < scanBound)
    (h : ∀ (h' : Heap) (tk : Nat), SetS w h' s.heap.objs.size (addAll [] xs) → (∀ b o, s.heap.get? b = some o → h'.get? b = some o) → Q (.ref s.heap.objs.size) { s with heap := h', toks := tk }) :
    wpAny (model P w) A (call (.type "set") [.ref l]) Q E s := by
  have hisz : items.size = xs.length := by
    have q := strs_len hit
    rw [Array.length_toList] at q
    exact q
  obtain ⟨c, tl, hmro⟩ := F.called_set.mro
  have hmade := F.called_set.made
  have hsub := F.called_set.sub
  refine wpAny_call (codeAny_of_tree ?_)
  show wpAny _ _ (callAny (.type "set") _) _ _ _
  refine wpAny_pure ⟨Code.quiet_builtin _ (by decide +kernel), codeAny_builtin F.entry_type_call ?_⟩
  rw [Around.under_plain (weight_type_call_type "set" [.ref l] []) rfl]
  have h1 := F.called_set.notType
  have h2 := F.called_set.canCreate
  have hct := F.typeCall_set_1 (.ref l)
  repeat (any_goals (first | assumption | wp_step))
  refine codeAny_mono (code_set_led1 (.ref l) (E := E) (Q₁ := fun obj s₁ => obj = .ref s.heap.objs.size ∧ s₁ = { s with heap := s.heap.push { cls := .type "set", dict := none, data := .set #[] 0 (.fresh 0 0 (!w.params.followText "set-order")) } }) ⟨rfl, rfl⟩) fun r s₁ hr => ?_
  cases r with
  | error e => exact hr
  | ok fl =>
    cases fl with
    | ret obj =>
      obtain ⟨rfl, rfl⟩ := hr
      have hS : (s.heap.push { cls := .type "set", dict := none, data := .set #[] 0 (.fresh 0 0 (!w.params.followText "set-order")) }).get? s.heap.objs.size = some { cls := .type "set", dict := none, data := .set #[] 0 (.fresh 0 0 (!w.params.followText "set-order")) } := Heap.get?_push_size _ rfl
      have hT : Shared.TypeIs { s with heap := s.heap.push { cls := .type "set", dict := none, data := .set #[] 0 (.fresh 0 0 (!w.params.followText "set-order")) } } (.ref s.heap.objs.size) "set" := ⟨_, hS, rfl⟩
      have hli := F.called_set.init.lookup
      have hbi := F.called_set.init.bind (.ref s.heap.objs.size)
      repeat (any_goals (first | assumption | wp_step))
      refine codeAny_mono (codeAny_call_builtin (R := wants (fun r s₂ => r = .none ∧ ∃ h' tk, s₂ = { s with heap := h', toks := tk } ∧ SetS w h' s.heap.objs.size (addAll [] xs) ∧
          (∀ b o, s.heap.get? b = some o → h'.get? b = some o)) E) F.called_set.init.plain F.entry_set_init (check_set_init_1 hT ?_)) fun r₂ s₂ hr₂ => ?_
      · obtain ⟨ol, hol, hcl, nl, hdl⟩ := hl
        obtain ⟨ocls, odict, odata, oslots⟩ := ol
        simp only at hcl hdl
        subst hcl; subst hdl
        have hol' : (s.heap.push { cls := .type "set", dict := none, data := .set #[] 0 (.fresh 0 0 (!w.params.followText "set-order")) }).get? l = some { cls := .type "list", dict := odict, data := .seq items nl, slots := oslots } := Heap.get?_push_of_some _ hol
        have hsls := PySem.F.sub_list_set
        have hslf := PySem.F.sub_list_frozenset
        have hne : (Value.type "list" == Value.type "dict") = false := by decide
        have hl1 : (s.heap.push { cls := .type "set", dict := none, data := .set #[] 0 (.fresh 0 0 (!w.params.followText "set-order")) }).IsList l items := ⟨_, hol', rfl, nl, rfl⟩
        unfold Builtin.«set.__init__» noKeywords Builtin.Frozenset.updateFrom
        generalize hPI : pyIter = PI
        wp_walk
        subst hPI
        refine wpAny_pyIter_list hl1 ?_
        refine wpAny_bind (wpAny_runValue ?_)
        have hlS : l < s.heap.objs.size := Heap.lt_size hol
        have hh3 : A.in1.in1.in1.handled = none := by simp [hh]
        have hneI : l ≠ (s.heap.push { cls := .type "set", dict := none, data := .set #[] 0 (.fresh 0 0 (!w.params.followText "set-order")) }).objs.size := by
          rw [Heap.size_push]; exact Nat.ne_of_lt (Nat.lt_succ_of_lt hlS)
        have hSf : s.heap.objs.size ∉ [(s.heap.push { cls := .type "set", dict := none, data := .set #[] 0 (.fresh 0 0 (!w.params.followText "set-order")) }).objs.size, l] := by
          rw [Heap.size_push]; simp only [List.mem_cons, List.mem_singleton, List.not_mem_nil, or_false, not_or]
          exact ⟨Nat.ne_of_lt (Nat.lt_succ_self _), Nat.ne_of_gt hlS⟩
        have hval : ∀ (i : Nat) (v : Value), items[i]? = some v → ∃ x t, xs[i]? = some x ∧ v = .str x t := fun i v hv => strs_at2 hit i v (by rw [Array.getElem?_toList]; exact hv)
        refine update_loop ((Walks.list hh3 _ l hneI items).toS) s.heap.objs.size
          hSf xs hisz hb hval (items.size - 0) 0 _ (by omega) (Nat.zero_le _)
          ⟨⟨_, Heap.get?_push_size _ rfl, rfl, rfl⟩, (hl1.push _)⟩ ?hS0 ?hR
        case hS0 =>
          have hget : ((s.heap.push { cls := .type "set", dict := none, data := .set #[] 0 (.fresh 0 0 (!w.params.followText "set-order")) }).push { cls := .type "list_iterator", data := .fields #[.ref l, .int 0 0] }).get? s.heap.objs.size
              = some { cls := .type "set", dict := none, data := .set #[] 0 (.fresh 0 0 (!w.params.followText "set-order")) } := Heap.get?_push_of_some _ hS
          exact new_at hget
        case hR =>
          intro s' hm hS'
          obtain ⟨h', g2, d', tk', os'⟩ := s'
          have eg : g2 = s.gens := hm.gens
          have ed : d' = s.drawn := hm.drawn
          have eo : os' = s.os := hm.os
          subst eg; subst ed; subst eo
          show wpAny _ _ _ _ _ _
          refine wpAny_pure ?_
          show wpAny _ _ (ret Value.none) _ _ _
          refine wpAny_pure ⟨rfl, h', tk', rfl, hS', fun b o e => ?_⟩
          have hb0 : b < s.heap.objs.size := Heap.lt_size e
          have hb1 : b ≠ s.heap.objs.size := Nat.ne_of_lt hb0
          have hb2 : b ≠ (s.heap.push { cls := .type "set", dict := none, data := .set #[] 0 (.fresh 0 0 (!w.params.followText "set-order")) }).objs.size := by
            rw [Heap.size_push]; exact Nat.ne_of_lt (Nat.lt_succ_of_lt hb0)
          exact hm.heap b o (by simp only [List.mem_cons, List.mem_singleton, List.not_mem_nil, or_false, not_or]; exact ⟨hb1, hb2⟩) (Heap.get?_push_of_some _ (Heap.get?_push_of_some _ e))
      · cases r₂ with
        | error e => exact hr₂
        | ok fl₂ =>
          cases fl₂ with
          | ret r =>
            obtain ⟨rfl, h', tk, rfl, hS', hk'⟩ := hr₂
            repeat (any_goals (first | assumption | wp_step))
            exact h _ _ hS' hk'
          | _ => exact hr₂.elim
    | _ => exact hr.elim
theorem sorted_set {l : List Str} {Q : Value → Shared → Prop} (R : SetS w s.heap a l) (hh : A.handled = none)
    (hQ : ∀ s' p (out : Array Value) (c : Nat) (ss : List Str), (∀ b o, s.heap.get? b = some o → s'.heap.get? b = some o) → s'.gens = s.gens → s'.os = s.os → s.heap.objs.size ≤ p →
      s'.heap.get? p = some (seqObj "list" out c) → StrsAre out.toList ss → ss.Perm l → sortedS ss = true → Q (.ref p) s') :
    wpAny (model P w) A (call (.builtin "sorted") [.ref a]) Q E s := by
  obtain ⟨o, es, ep, t, ho, hex, hd, g, pm0, nd, hb, hf, hr, hl⟩ := R
  have sz : es.size = l.length := by rw [← pm0.length_eq, List.length_map, Array.length_toList]
  refine Calls.call_function_entry kind_sorted plain_sorted entry_sorted (args_sorted1 _) ?_
  unfold Builtin.«sorted»
  refine wpAny_bind (m := checkCount "sorted" 1 1 _) (wpAny_pure ?_)
  refine wpAny_bind (collect_set (A := A.in1) hh ⟨o, ho, hex.1, hd⟩ hf (by rw [sz]; exact hb) hr hl fun s1 vs k1 hz g1 o1 pm => ?_)
  have hvl : vs.length = l.length := by rw [pm.length_eq, List.length_map, Array.length_toList, sz]
  have hall : ∀ v ∈ vs, ∃ x tk, v = Value.str x tk := fun v hv => by
    obtain ⟨e, he, q⟩ := List.mem_map.mp (pm.mem_iff.mp hv)
    obtain ⟨x, tk, h1, _⟩ := g e he
    exact ⟨x, tk, by rw [← q]; exact h1⟩
  have hI : StrsAre vs (vs.map strOf) := strsAre_map vs hall
  have pk : (vs.map strOf).Perm l := by
    have q := pm.map strOf
    rw [List.map_map] at q
    refine q.trans (List.Perm.trans (List.Perm.of_eq ?_) pm0)
    refine List.map_congr_left fun e he => ?_
    obtain ⟨x, tk, h1, _⟩ := g e he
    show strOf e.2 = keyS e
    unfold keyS
    rw [h1]
    rfl
  have hls : vs.length ≤ sizeLine := by
    rw [hvl]
    exact fits_of_scanBound hb
  refine wpAny_bind (wpAny_newList ?_ hls)
  have hoL : (s1.heap.push (seqObj "list" vs.toArray 0)).get? s1.heap.objs.size = some (seqObj "list" vs.toArray 0) := Heap.get?_push_size _ rfl
  refine wpAny_bind (wpAny_holding (wpAny_call_entry slot_list_sort ⟨_, hoL, rfl⟩ entry_list_sort (list_sort_treeKAny strKind_oneLt hoL hI.keysOf (fun v₁ v₂ rest e => keyKind_strs (by rw [← e]; exact hI)) hls fun st' hp hs => ⟨_, rfl, ?_⟩) (args_list_sort _)))
  obtain ⟨ss', a1, a2, a3⟩ := sorted_out_str hI hp hs
  obtain ⟨c, hc⟩ := sortedHeap_at (vs := vs) (out := (arrOf st').map (·.2)) hoL
  refine wpAny_pure ⟨_, rfl, hQ _ s1.heap.objs.size _ c ss' (fun b u e => ?_) g1 o1 hz hc a1 (a2.trans pk) a3⟩
  have q := k1 b u e
  have hlt := Heap.lt_size q
  show (sortedHeap (s1.heap.push (seqObj "list" vs.toArray 0)) s1.heap.objs.size vs ((arrOf st').map (·.2))).get? b = some u
  rw [sortedHeap_old (Nat.ne_of_lt hlt) (by rw [size_push']; exact Nat.lt_succ_of_lt hlt)]
  exact Heap.get?_push_of_some _ q
end
end Sx
set_option Elab.async false
set_option linter.all false
set_option autoImplicit false
set_option maxRecDepth 100000
namespace Sd
open PySem PySem.Spec PyProof.Rows L2
open Py (T Sl R Res CRes SRes Ex Stm W Tg)
variable {H H' : Hp} {H0 : B0} {A A' Z : Addr → Prop} {σ σ' : L2.St} {ρ ρ' : PEnv} {X : Cx} {K : PySem.W.Frag} {Wf : XW} {α β γ δ : Type}
variable {C : List T} {call : Nat → List T → CRes} {a b c o e : Expr} {ea eb ec eo : Ex} {pos : Pos}
theorem ite_some' {p : Prop} [Decidable p] {x : Option α} {y : α} (h : (if p then x else none) = some y) : p ∧ x = some y := by
  by_cases q : p
  · rw [if_pos q] at h
    exact ⟨q, h⟩
  · rw [if_neg q] at h
    cases h
def SetX (w : World) (a : Addr) (l : List Str) : HO := .ext fun h => Sx.SetS w h a l
theorem setX_new {w : World} {P : Program} {h : Heap} {a : Addr} {l : List Str} (R : Sx.SetS w h a l) : ObjOk P w H h a (SetX w a l) := by
  have ⟨o, _, _, _, ho, _⟩ := R
  exact ⟨R, ⟨o, ho⟩, fun h1 h2 p k => p.at k⟩
def rSetS (w : World) (K : PySem.W.Frag) : List V → Hp → VK → Prop := fun xs H Q => ∃ (a : Addr) (ss : List Str), xs = [V.ref a] ∧ SqL K H a (ss.map V.str) ∧ ss.length + 1 < scanBound ∧ ∀ p, H p = none → Q (.ref p) (upd H p (SetX w p (Sx.addAll [] ss)))
theorem cr_setS (hc : X.calm = true) : CallR X (.type "set") (rSetS X.w X.K) := by
  intro pins s σ H xs us Q I r h
  obtain ⟨a, ss, rfl, hq, hb, q⟩ := h
  rw [Vals.ref1 r]
  obtain ⟨its, rv, pl, hz⟩ := I.list hq
  refine Sx.call_set ss (I.ok.hd hc) pl.isList (by simpa using Vals.strs rv) hb fun h' tk R k => ?_
  have hp := I.hok.fresh (Nat.le_refl s.heap.objs.size)
  exact ⟨.ref s.heap.objs.size, _, I.laid (t' := tk) k (Nat.le_refl _) (setX_new R), rfl, q _ hp⟩
def rSortS (w : World) : List V → Hp → VK → Prop := fun xs H Q => ∃ (a : Addr) (l : List Str), xs = [V.ref a] ∧ H a = some (SetX w a l) ∧ l.length ≤ sizeLine ∧ ∀ (ss : List Str) (p : Addr), ss.Perm l → sortedS ss = true → H p = none → Q (.ref p) (upd H p (.lst (ss.map V.str)))
theorem cr_sortS (hc : X.calm = true) : CallR X (.builtin "sorted") (rSortS X.w) := by
  intro pins s σ H vs us Q I r h
  obtain ⟨a, l, rfl, ha, hz, q⟩ := h
  have R : Sx.SetS X.w s.heap a l := (I.hok a _ ha).1
  rw [Vals.ref1 r]
  refine Sx.sorted_set R (I.ok.hd hc) fun s' p out c ss k g o hp hg hi pm hs => ?_
  have hn : H p = none := I.hok.fresh hp
  have J : Inv X pins σ (upd H p (.lst (ss.map V.str))) { s with heap := s'.heap, gens := s'.gens, drawn := s'.drawn, toks := s'.toks } :=
    I.call (ch := []) (Un.laid k hp hn) (I.hok.laid k hp ⟨by rw [List.length_map, pm.length_eq]; exact hz, out.toList, c, vals_of_strs hi, hg⟩) (by rw [g]; exact I.bare) (fun _ z => nomatch z)
  have e : s' = { s with heap := s'.heap, gens := s'.gens, drawn := s'.drawn, toks := s'.toks } := by
    cases s'
    cases s
    cases o
    rfl
  rw [e]
  exact ⟨.ref p, _, J, rfl, q ss p pm hs hn⟩
def rLenS (w : World) : List V → Hp → VK → Prop := fun xs H Q => ∃ (a : Addr) (l : List Str), xs = [V.ref a] ∧ H a = some (SetX w a l) ∧ Q (.int l.length) H
theorem cr_lenS : CallR X (.builtin "len") (rLenS X.w) := by
  intro pins s σ H vs us Q I r h
  obtain ⟨a, l, rfl, ha, q⟩ := h
  obtain ⟨o, es, ep, t, ho, hex, hd, g, pm0, nd, hb, hf, hr, hl⟩ : Sx.SetS X.w s.heap a l := (I.hok a _ ha).1
  have sz : es.size = l.length := by rw [← pm0.length_eq, List.length_map, Array.length_toList]
  rw [Vals.ref1 r]
  refine call_len_set ho hex hd hf ?_ ⟨.int l.length, H, I.tok _, ⟨_, by rw [sz]⟩, q⟩
  rw [sz]
  have : scanBound ≤ sizeLine := by
    have := fits_of_scanBound (n := scanBound - 1)
    unfold scanBound at *
    decide
  have h2 : sizeLine < 2 ^ 63 := by decide
  omega
def insW (x : W) : List W → List W
  | [] => [x]
  | y :: r => if Py.ltW x y = true then x :: y :: r else y :: insW x r
def sortW : List W → List W
  | [] => []
  | x :: r => insW x (sortW r)
theorem insT_str (x : W) : ∀ ys : List W, Py.insT (.str x) (ys.map T.str) = some ((insW x ys).map T.str)
  | [] => rfl
  | y :: r => by
    show (match Py.ltT (.str x) (.str y) with
      | some true => some (T.str x :: T.str y :: r.map T.str)
      | some false => (Py.insT (.str x) (r.map T.str)).map (T.str y :: ·)
      | none => none) = _
    rw [insT_str x r]
    show (match some (Py.ltW x y) with
      | some true => some (T.str x :: T.str y :: r.map T.str)
      | some false => (some ((insW x r).map T.str)).map (T.str y :: ·)
      | none => none) = some ((if Py.ltW x y = true then x :: y :: r else y :: insW x r).map T.str)
    cases Py.ltW x y <;> rfl
theorem sortT_str : ∀ ws : List W, Py.sortT (ws.map T.str) = some ((sortW ws).map T.str)
  | [] => rfl
  | x :: r => by
    show (match Py.sortT (r.map T.str) with
      | some s => Py.insT (.str x) s
      | none => none) = _
    rw [sortT_str r]
    exact insT_str x _
theorem insW_perm (x : W) : ∀ ys : List W, (insW x ys).Perm (x :: ys)
  | [] => List.Perm.refl _
  | y :: r => by
    unfold insW
    split
    · exact List.Perm.refl _
    · exact (List.Perm.cons y (insW_perm x r)).trans (List.Perm.swap x y r)
theorem sortW_perm : ∀ ws : List W, (sortW ws).Perm ws
  | [] => List.Perm.refl _
  | x :: r => (insW_perm x _).trans (List.Perm.cons x (sortW_perm r))
theorem ltW_iff {x y : W} : Py.ltW x y = true ↔ x < y := decide_eq_true_iff
abbrev LeW (x y : W) : Prop := Py.ltW y x = false
theorem leW_of {x y : W} (h : x < y) : LeW x y := by
  cases e : Py.ltW y x with
  | false => exact e
  | true => exact absurd (ltW_iff.mp e) (List.lt_asymm h)
theorem leW_trans {x y z : W} (h1 : LeW x y) (h2 : LeW y z) : LeW x z := by
  cases e : Py.ltW z x with
  | false => exact e
  | true =>
    have e := ltW_iff.mp e
    have n1 : ¬ y < x := fun q => by rw [LeW, ltW_iff.mpr q] at h1; cases h1
    have n2 : ¬ z < y := fun q => by rw [LeW, ltW_iff.mpr q] at h2; cases h2
    have l1 : x ≤ y := n1
    have l2 : y ≤ z := n2
    have l3 : x ≤ z := List.le_trans l1 l2
    exact absurd e l3
theorem leW_anti {x y : W} (h1 : LeW x y) (h2 : LeW y x) : x = y := by
  have n1 : ¬ y < x := fun q => by rw [LeW, ltW_iff.mpr q] at h1; cases h1
  have n2 : ¬ x < y := fun q => by rw [LeW, ltW_iff.mpr q] at h2; cases h2
  have l1 : x ≤ y := n1
  have l2 : y ≤ x := n2
  exact List.le_antisymm l1 l2
theorem insW_sorted (x : W) : ∀ ys : List W, ys.Pairwise LeW → (insW x ys).Pairwise LeW
  | [], _ => by simp [insW]
  | y :: r, h => by
    obtain ⟨h1, h2⟩ := List.pairwise_cons.mp h
    unfold insW
    by_cases q : Py.ltW x y = true
    · rw [if_pos q]
      have l := leW_of (ltW_iff.mp q)
      refine List.pairwise_cons.mpr ⟨fun z hz => ?_, h⟩
      rcases List.mem_cons.mp hz with rfl | hz
      · exact l
      · exact leW_trans l (h1 z hz)
    · rw [if_neg q]
      refine List.pairwise_cons.mpr ⟨fun z hz => ?_, insW_sorted x r h2⟩
      rcases List.mem_cons.mp ((insW_perm x r).mem_iff.mp hz) with rfl | hz
      · cases e : Py.ltW z y with
        | false => exact e
        | true => exact absurd e q
      · exact h1 z hz
theorem sortW_sorted : ∀ ws : List W, (sortW ws).Pairwise LeW
  | [] => List.Pairwise.nil
  | x :: r => insW_sorted x _ (sortW_sorted r)
theorem rising_pw : ∀ (ss : List Str) (p : Str), risingS p ss = true → ((p :: ss).map fun x => x.cps.toList).Pairwise LeW
  | [], p, _ => by simp
  | x :: r, p, h => by
    have h : (!ltCps x.cps.toList p.cps.toList && risingS x r) = true := h
    rw [Bool.and_eq_true, Bool.not_eq_true', ltCps_eq] at h
    have ih := rising_pw r x h.2
    rw [List.map_cons] at ih ⊢
    refine List.pairwise_cons.mpr ⟨fun z hz => ?_, ih⟩
    have l : LeW p.cps.toList x.cps.toList := h.1
    rcases List.mem_cons.mp hz with rfl | hz
    · exact l
    · exact leW_trans l ((List.pairwise_cons.mp ih).1 z hz)
theorem sorted_pw : ∀ ss : List Str, sortedS ss = true → (ss.map fun x => x.cps.toList).Pairwise LeW
  | [], _ => List.Pairwise.nil
  | x :: r, h => rising_pw r x h
theorem mem_addAll : ∀ (xs l : List Str) (y : Str), y ∈ Sx.addAll l xs ↔ y ∈ l ∨ y ∈ xs
  | [], l, y => by simp [Sx.addAll]
  | x :: xs, l, y => by
    show y ∈ Sx.addAll (if x ∈ l then l else x :: l) xs ↔ _
    rw [mem_addAll xs]
    by_cases q : x ∈ l
    · rw [if_pos q, List.mem_cons]
      exact ⟨fun z => z.elim .inl fun z => .inr (.inr z), fun z => z.elim .inl fun z => z.elim (fun z => .inl (z ▸ q)) .inr⟩
    · rw [if_neg q, List.mem_cons, List.mem_cons]
      exact ⟨fun z => z.elim (fun z => z.elim (fun z => .inr (.inl z)) .inl) fun z => .inr (.inr z), fun z => z.elim (fun z => .inl (.inr z)) fun z => z.elim (fun z => .inl (.inl z)) .inr⟩
theorem nodup_addAll : ∀ (xs l : List Str), l.Nodup → (Sx.addAll l xs).Nodup
  | [], l, h => h
  | x :: xs, l, h => by
    show (Sx.addAll (if x ∈ l then l else x :: l) xs).Nodup
    refine nodup_addAll xs _ ?_
    split
    · exact h
    · exact List.nodup_cons.mpr ⟨by assumption, h⟩
theorem mem_dedup : ∀ (ws : List W) (y : W), y ∈ Py.dedupW ws ↔ y ∈ ws
  | [], y => by simp [Py.dedupW]
  | x :: r, y => by
    unfold Py.dedupW
    by_cases q : r.contains x = true
    · rw [if_pos q, mem_dedup r, List.mem_cons]
      have : x ∈ r := by simpa using q
      exact ⟨.inr, fun z => z.elim (fun z => z ▸ this) id⟩
    · rw [if_neg q, List.mem_cons, List.mem_cons, mem_dedup r]
theorem nodup_dedup : ∀ ws : List W, (Py.dedupW ws).Nodup
  | [] => List.nodup_nil
  | x :: r => by
    unfold Py.dedupW
    by_cases q : r.contains x = true
    · rw [if_pos q]
      exact nodup_dedup r
    · rw [if_neg q]
      refine List.nodup_cons.mpr ⟨fun z => q ?_, nodup_dedup r⟩
      simpa using (mem_dedup r x).mp z
theorem map_cps_nodup : ∀ {l : List Str}, l.Nodup → (l.map fun x => x.cps.toList).Nodup
  | [], _ => List.nodup_nil
  | x :: r, h => by
    obtain ⟨h1, h2⟩ := List.nodup_cons.mp h
    refine List.nodup_cons.mpr ⟨fun z => ?_, map_cps_nodup h2⟩
    obtain ⟨y, hy, e⟩ := List.mem_map.mp z
    exact h1 (str_ext e ▸ hy)
theorem addAll_perm (ss : List Str) : ((Sx.addAll [] ss).map fun x => x.cps.toList).Perm (Py.dedupW (ss.map fun x => x.cps.toList)) := by
  refine (List.perm_ext_iff_of_nodup (map_cps_nodup (nodup_addAll ss [] List.nodup_nil)) (nodup_dedup _)).mpr fun y => ?_
  rw [mem_dedup]
  constructor
  · intro h
    obtain ⟨x, hx, rfl⟩ := List.mem_map.mp h
    rcases (mem_addAll ss [] x).mp hx with z | z
    · cases z
    · exact List.mem_map.mpr ⟨x, z, rfl⟩
  · intro h
    obtain ⟨x, hx, rfl⟩ := List.mem_map.mp h
    exact List.mem_map.mpr ⟨x, (mem_addAll ss [] x).mpr (.inr hx), rfl⟩
theorem reps_strs : ∀ {vs : List V} {ts : List T} {ws : List W}, Reps K H A vs ts → Py.strsOf ts = some ws → ∃ ss : List Str, vs = ss.map V.str ∧ ss.map (fun x => x.cps.toList) = ws
  | _, _, ws, .nil, e => by
    have e : some [] = some ws := e
    cases e
    exact ⟨[], rfl, rfl⟩
  | _, _, ws, .cons (t := t) r rs, e => by
    cases t <;> first | (simp [Py.strsOf] at e; done) | skip
    rename_i s
    have e : (Py.strsOf _).map (s :: ·) = some ws := e
    obtain ⟨ws', e2, rfl⟩ := Option.map_eq_some_iff.mp e
    obtain ⟨ss, rfl, rfl⟩ := reps_strs rs e2
    obtain ⟨x, rfl, rfl⟩ := r.str_of
    exact ⟨x :: ss, rfl, rfl⟩
theorem reps_ofStrs : ∀ ss : List Str, Reps K H A (ss.map V.str) (ss.map fun x => T.str x.cps.toList)
  | [] => .nil
  | x :: r => .cons (.str x) (reps_ofStrs r)
theorem sset_post {t : T} {res : R} {v : V} {Q : VK} (hv : Top K H A v t) (e : Py.b1T .sset t = some res) (h : OpPost K H A res Q) : rSetS X.w K [v] H fun p H1 => rSortS X.w [p] H1 Q := by
  cases t <;> first | (simp [Py.b1T] at e; done) | skip
  rename_i ts
  have e : (match Py.strsOf ts with
    | some ws => if ws.length < 64 then (Py.sortT ((Py.dedupW ws).map T.str)).map fun s => R.new (.lst s) else none
    | none => none) = some res := e
  cases hs : Py.strsOf ts with
  | none =>
    rw [hs] at e
    cases e
  | some ws =>
    rw [hs] at e
    obtain ⟨hl, e⟩ := ite_some' e
    rw [sortT_str] at e
    cases e
    obtain ⟨a, vs, rfl, h1, r1⟩ := hv.lst
    obtain ⟨ss, rfl, rfl⟩ := reps_strs r1 hs
    have ls : ss.length < 64 := by simpa using hl
    refine ⟨a, ss, rfl, .of h1, by unfold scanBound; omega, fun p hp => ⟨p, _, rfl, upd_same, ?_, fun ss' p2 pm so hp2 => ?_⟩⟩
    · have := Sx.addAll_len ss []
      have h3 : (64 : Nat) ≤ sizeLine := by decide
      simp only [List.length_nil] at this
      omega
    · have hne : p2 ≠ p := fun z => by
        subst z
        rw [upd_same] at hp2
        cases hp2
      have hp3 : H p2 = none := by
        rw [upd_ne hne] at hp2
        exact hp2
      refine h p2 _ ((Ext.upd hp).trans (Ext.upd hp2)) hp3 ⟨_, upd_same, ?_⟩
      have eq : ss'.map (fun x => x.cps.toList) = sortW (Py.dedupW (ss.map fun x => x.cps.toList)) := by
        refine List.Perm.eq_of_pairwise (le := LeW) (fun a b _ _ => leW_anti) (sorted_pw ss' so) (sortW_sorted _) ?_
        exact (pm.map _).trans ((addAll_perm ss).trans (sortW_perm _).symm)
      rw [← eq, List.map_map]
      exact reps_ofStrs ss'
theorem lset_post {t : T} {res : R} {v : V} {Q : VK} (hv : Top K H A v t) (e : Py.b1T .lset t = some res) (h : OpPost K H A res Q) : rSetS X.w K [v] H fun p H1 => rLenS X.w [p] H1 Q := by
  cases t <;> first | (simp [Py.b1T] at e; done) | skip
  rename_i ts
  have e : (match Py.strsOf ts with
    | some ws => if ws.length < 4000 then some (R.tmp (.int (Py.dedupW ws).length)) else none
    | none => none) = some res := e
  cases hs : Py.strsOf ts with
  | none =>
    rw [hs] at e
    cases e
  | some ws =>
  rw [hs] at e
  obtain ⟨hl, e⟩ := ite_some' e
  cases e
  obtain ⟨a, vs, rfl, h1, r1⟩ := hv.lst
  obtain ⟨ss, rfl, rfl⟩ := reps_strs r1 hs
  have ls : ss.length < 4000 := by simpa using hl
  refine ⟨a, ss, rfl, .of h1, by unfold scanBound; omega, fun p hp => ⟨p, _, rfl, upd_same, ?_⟩⟩
  have el : (Sx.addAll [] ss).length = (Py.dedupW (ss.map fun x => x.cps.toList)).length := by
    have := (addAll_perm ss).length_eq
    simpa using this
  rw [el]
  exact h _ _ (Ext.upd hp) (.int _)
variable {p p2 pos2 : Pos}
theorem se_sset (hc : X.calm = true) (gs : Gl X "sorted") (ms : X.mg "sorted" = none) (gt : Gl X "set") (mt : X.mg "set" = none) (hp : plainE a = true) (ha : SE X H0 Wf a (Py.go C call ea).1) :
    SE X H0 Wf (.Call (.Name "sorted" p) [.Call (.Name "set" p2) [a] [] pos2] [] pos) (Py.go C call (.b1 .sset ea)).1 := by
  obtain ⟨ta, pa, sa⟩ := ha
  have pset := pe_callTy (pos := pos2) (p := p2) (cr_setS hc) gt mt (by decide +kernel) (pa_cons pa pa_nil (star_plain hp _ _)) (by decide +kernel) (by decide +kernel) (star_plain hp _ _) rfl
  refine ⟨_, pe_callB (cr_sortS hc) gs ms (by decide +kernel) (pa_cons pset pa_nil rfl) (by decide +kernel) (by decide +kernel) rfl rfl, fun σ H Q ρ Z s h => ?_⟩
  have h : PostE X.K H0 Wf Z σ H ρ (Py.bnd ((Py.go C call ea).1 ρ) fun ra ρ => Py.lift (Py.rd ra ρ) fun x => Py.fin (Py.b1T .sset x) ρ) Q := h
  refine one_op sa s h fun r ρ' x H' s' rv q => ?_
  obtain ⟨t, e1, q⟩ := post_lift q
  obtain ⟨res, e2, q⟩ := post_lift q
  exact sset_post (X := X) (rv.d.top s' e1) e2 (op_post s' q (b1_new e2))
theorem se_lset (hc : X.calm = true) (gs : Gl X "len") (ms : X.mg "len" = none) (gt : Gl X "set") (mt : X.mg "set" = none) (hp : plainE a = true) (ha : SE X H0 Wf a (Py.go C call ea).1) :
    SE X H0 Wf (.Call (.Name "len" p) [.Call (.Name "set" p2) [a] [] pos2] [] pos) (Py.go C call (.b1 .lset ea)).1 := by
  obtain ⟨ta, pa, sa⟩ := ha
  have pset := pe_callTy (pos := pos2) (p := p2) (cr_setS hc) gt mt (by decide +kernel) (pa_cons pa pa_nil (star_plain hp _ _)) (by decide +kernel) (by decide +kernel) (star_plain hp _ _) rfl
  refine ⟨_, pe_callB cr_lenS gs ms (by decide +kernel) (pa_cons pset pa_nil rfl) (by decide +kernel) (by decide +kernel) rfl rfl, fun σ H Q ρ Z s h => ?_⟩
  have h : PostE X.K H0 Wf Z σ H ρ (Py.bnd ((Py.go C call ea).1 ρ) fun ra ρ => Py.lift (Py.rd ra ρ) fun x => Py.fin (Py.b1T .lset x) ρ) Q := h
  refine one_op sa s h fun r ρ' x H' s' rv q => ?_
  obtain ⟨t, e1, q⟩ := post_lift q
  obtain ⟨res, e2, q⟩ := post_lift q
  exact lset_post (X := X) (rv.d.top s' e1) e2 (op_post s' q (b1_new e2))
end Sd
set_option Elab.async false
set_option linter.all false
set_option autoImplicit false
set_option maxRecDepth 100000
namespace Srt1
open PySem PySem.W PyProof.Rows SrtO Srt
variable {prog : Program} {w : World} {A : Around} {E : Value → Shared → Prop} {s : Shared}
def HT (h : Heap) (v : Value) (x : List Nat) : Prop := ∃ a o xs y t n, v = .ref a ∧ h.get? a = some o ∧ o.cls = .type "tuple" ∧ o.data = .seq xs n ∧ xs[0]? = some (.str y t) ∧ y.cps.toList = x
theorem HT.keeps {h h' : Heap} {v : Value} {x : List Nat} (p : HT h v x) (k : ∀ b o, h.get? b = some o → o.cls = .type "tuple" → h'.get? b = some o) : HT h' v x := by
  obtain ⟨a, o, xs, y, t, n, e, ho, hc, hd, r⟩ := p
  exact ⟨a, o, xs, y, t, n, e, k _ _ ho hc, hc, hd, r⟩
theorem firsts {h : Heap} : ∀ {vs : List Value}, (∀ v ∈ vs, ∃ x, HT h v x) → ∃ fs : List Value, KatTups h vs fs ∧ fs.length = vs.length ∧ ∀ f ∈ fs, ∃ x t, f = Value.str x t
  | [], _ => ⟨[], KatTups.nil, rfl, fun _ hm => by simp at hm⟩
  | v :: vs, hp => by
    obtain ⟨fs, h1, h2, h3⟩ := firsts (vs := vs) fun v' hm => hp v' (List.mem_cons_of_mem _ hm)
    obtain ⟨x, a, o, xs, y, t, n, e, ho, hc, hd, r, _⟩ := hp v (List.mem_cons_self ..)
    subst e
    refine ⟨.str y t :: fs, KatTups.cons ho hc hd r h1, by rw [List.length_cons, List.length_cons, h2], fun f hm => ?_⟩
    rcases List.mem_cons.mp hm with rfl | hm
    · exact ⟨y, t, rfl⟩
    · exact h3 f hm
theorem self_lex {b : Bool} {Q : Bool → Shared → Prop} (hq : Q false s) : ∀ (xs : List Value) (i : Nat), KatLex prog w A b false Q (xs.zip xs) i s
  | [], i => kat_nil hq
  | x :: xs, i => by
    refine kat_cons (SeqAt.EqAt.same x prog w _ _ ?_)
    exact kat_go (fun _ => kat_yes (self_lex hq xs (i + 1))) fun z => by cases z
theorem ht_cmp {vs : List Value} {k : Value → List Nat} (hp : ∀ v ∈ vs, HT s.heap v (k v)) (inj : ∀ v ∈ vs, ∀ u ∈ vs, k v = k u → v = u) : Cmp prog w A s (tuples' true) (fun p => p.1 ∈ vs) (lt2 fun v u => Py.ltW (k v) (k u)) := by
  intro p q hm hm'
  have h1 := hp _ hm
  have h2 := hp _ hm'
  show wpAny (model prog w) A (keyLt' (tuples' true) p.1 q.1) (fun r s' => s' = s ∧ r = Py.ltW (k p.1) (k q.1)) (fun _ _ => False) s
  obtain ⟨a, o, xs, y, t, n, e, ho, hc, hd, r, ek⟩ := h1
  obtain ⟨a', o', xs', y', t', n', e', ho', hc', hd', r', ek'⟩ := h2
  by_cases c : k p.1 = k q.1
  · have ee := inj _ hm _ hm' c
    rw [← ee, e]
    refine kat_lt ho hd ho hd ?_
    rw [decide_eq_false (Nat.lt_irrefl _)]
    refine self_lex ⟨rfl, ?_⟩ _ 0
    rw [← e]
    exact (decide_eq_false (List.lt_irrefl _)).symm
  · rw [← ek, ← ek'] at c ⊢
    rw [e, e']
    refine kat_lt ho hd ho' hd' ?_
    have z1 : ∃ r1, xs.toList = .str y t :: r1 := by
      cases hx : xs.toList with
      | nil =>
        have r : xs.toList[0]? = some (.str y t) := by simpa using r
        rw [hx] at r
        cases r
      | cons f r1 =>
        have : xs.toList[0]? = some (.str y t) := by simpa using r
        rw [hx] at this
        cases this
        exact ⟨_, rfl⟩
    have z2 : ∃ r1, xs'.toList = .str y' t' :: r1 := by
      cases hx : xs'.toList with
      | nil =>
        have r' : xs'.toList[0]? = some (.str y' t') := by simpa using r'
        rw [hx] at r'
        cases r'
      | cons f r1 =>
        have : xs'.toList[0]? = some (.str y' t') := by simpa using r'
        rw [hx] at this
        cases this
        exact ⟨_, rfl⟩
    obtain ⟨r1, z1⟩ := z1
    obtain ⟨r2, z2⟩ := z2
    rw [z1, z2]
    refine kat_cons (SeqAt.EqAt.str_str y t y' t' prog w _ _ ?_)
    refine kat_go (fun e1 => ?_) fun e1 => ?_
    · exact absurd (congrArg (fun z : Str => z.cps.toList) (by simpa using e1)) c
    · exact kat_no (oneLt_any_str ⟨rfl, rfl⟩)
theorem swo_k {α : Type} (k : α → List Nat) : Swo fun v u => Py.ltW (k v) (k u) := by
  refine ⟨fun x y h => ?_, fun x y z h1 h2 => ?_⟩
  · have := of_decide_eq_true h
    exact decide_eq_false (List.lt_asymm this)
  · exact Sd.leW_trans h1 h2
theorem ht_sortable {a : Addr} {vs : List Value} {k : Value → List Nat} (h0 : 0 < vs.length) (hp : ∀ v ∈ vs, HT s.heap v (k v)) (inj : ∀ v ∈ vs, ∀ u ∈ vs, k v = k u → v = u) (ha : ∀ o, s.heap.get? a = some o → o.cls ≠ .type "tuple") : SortableO prog w A s a vs fun v u => Py.ltW (k v) (k u) := by
  intro h' keep
  have hp' : ∀ v ∈ vs, HT h' v (k v) := fun v hm => (hp v hm).keeps fun b o e c => keep b o (fun z => by subst z; exact ha o e c) e
  obtain ⟨fs, h1, h2, h3⟩ := firsts fun v hm => ⟨_, hp' v hm⟩
  refine ⟨tuples' true, fun Q E hq => ?_, ht_cmp (s := { s with heap := h' }) hp' inj⟩
  refine kat_kind (T := .type "str") h1 (by omega) (fun f hm => ?_) (by rfl) ?_
  · obtain ⟨x, t, rfl⟩ := h3 f hm
    exact Looks.now
  · have e : (Value.type "str" != Value.type "tuple") = true := by first | decide +kernel | rfl | decide
    rw [e]
    exact hq
theorem sorted_ht {l : Addr} {vs : List Value} {k : Value → List Nat} {Q : Value → Shared → Prop} (hl : s.heap.IsList l vs.toArray) (hz : vs.length ≤ sizeLine) (hp : ∀ v ∈ vs, HT s.heap v (k v)) (inj : ∀ v ∈ vs, ∀ u ∈ vs, k v = k u → v = u)
    (h : ∀ (h' : Heap) (d : Addr) (out : List Value), Srtd (fun v u => Py.ltW (k v) (k u)) out → Stb (fun v u => Py.ltW (k v) (k u)) out vs → (∀ b o, s.heap.get? b = some o → h'.get? b = some o) → s.heap.objs.size ≤ d → (∃ n, h'.get? d = some (seqObj "list" out.toArray n)) → Q (.ref d) { s with heap := h' }) :
    wpAny (model prog w) A (call (.builtin "sorted") [.ref l]) Q E s := by
  refine sorted_ord (swo_k k) hl hz (fun h2 h₁ a ha kk => ?_) fun out hs hb => ?_
  · refine ht_sortable (s := { s with heap := h₁ }) (by omega) (fun v hm => (hp v hm).keeps fun b o e _ => (kk b o e).2) inj fun o e => ?_
    have e' : some o = some (seqObj "list" vs.toArray 0) := e.symm.trans ha
    cases e'
    intro c
    exact absurd (Value.type.inj c) (by decide)
  · exact h _ _ out hs hb (fun b o e => sortedAll_old e) (Nat.le_succ _) (sortedAll_at s.heap vs out.toArray)
def ltP (p q : List Nat × List Nat) : Bool := if p.1 = q.1 then Py.ltW p.2 q.2 else Py.ltW p.1 q.1
def HU (h : Heap) (v : Value) (k : List Nat × List Nat) : Prop := ∃ a o xs y t z u r n, v = .ref a ∧ h.get? a = some o ∧ o.cls = .type "tuple" ∧ o.data = .seq xs n ∧ xs.toList = .str y t :: .str z u :: r ∧ (y.cps.toList, z.cps.toList) = k
theorem HU.keeps {h h' : Heap} {v : Value} {x : List Nat × List Nat} (p : HU h v x) (k : ∀ b o, h.get? b = some o → o.cls = .type "tuple" → h'.get? b = some o) : HU h' v x := by
  obtain ⟨a, o, xs, y, t, z, u, r, n, e, ho, hc, hd, q⟩ := p
  exact ⟨a, o, xs, y, t, z, u, r, n, e, k _ _ ho hc, hc, hd, q⟩
theorem firsts2 {h : Heap} : ∀ {vs : List Value}, (∀ v ∈ vs, ∃ x, HU h v x) → ∃ fs : List Value, KatTups h vs fs ∧ fs.length = vs.length ∧ ∀ f ∈ fs, ∃ x t, f = Value.str x t
  | [], _ => ⟨[], KatTups.nil, rfl, fun _ hm => by simp at hm⟩
  | v :: vs, hp => by
    obtain ⟨fs, h1, h2, h3⟩ := firsts2 (vs := vs) fun v' hm => hp v' (List.mem_cons_of_mem _ hm)
    obtain ⟨x, a, o, xs, y, t, z, u, r, n, e, ho, hc, hd, q, _⟩ := hp v (List.mem_cons_self ..)
    subst e
    have q0 : xs[0]? = some (.str y t) := by
      have : xs.toList[0]? = some (.str y t) := by rw [q]; rfl
      simpa using this
    refine ⟨.str y t :: fs, KatTups.cons ho hc hd q0 h1, by rw [List.length_cons, List.length_cons, h2], fun f hm => ?_⟩
    rcases List.mem_cons.mp hm with rfl | hm
    · exact ⟨y, t, rfl⟩
    · exact h3 f hm
theorem hu_cmp {vs : List Value} {k : Value → List Nat × List Nat} (hp : ∀ v ∈ vs, HU s.heap v (k v)) (inj : ∀ v ∈ vs, ∀ u ∈ vs, k v = k u → v = u) : Cmp prog w A s (tuples' true) (fun p => p.1 ∈ vs) (lt2 fun v u => ltP (k v) (k u)) := by
  intro p q hm hm'
  have h1 := hp _ hm
  have h2 := hp _ hm'
  show wpAny (model prog w) A (keyLt' (tuples' true) p.1 q.1) (fun r s' => s' = s ∧ r = ltP (k p.1) (k q.1)) (fun _ _ => False) s
  obtain ⟨a, o, xs, y, t, z, u, r, n, e, ho, hc, hd, e1, ek⟩ := h1
  obtain ⟨a', o', xs', y', t', z', u', r', n', e', ho', hc', hd', e1', ek'⟩ := h2
  by_cases c : k p.1 = k q.1
  · have ee := inj _ hm _ hm' c
    rw [← ee, e]
    refine kat_lt ho hd ho hd ?_
    rw [decide_eq_false (Nat.lt_irrefl _)]
    refine self_lex ⟨rfl, ?_⟩ _ 0
    rw [← e]
    unfold ltP
    rw [if_pos rfl]
    exact (decide_eq_false (List.lt_irrefl _)).symm
  · rw [← ek, ← ek'] at c ⊢
    rw [e, e']
    refine kat_lt ho hd ho' hd' ?_
    rw [e1, e1']
    refine kat_cons (SeqAt.EqAt.str_str y t y' t' prog w _ _ ?_)
    refine kat_go (fun b1 => ?_) fun b1 => ?_
    · have ey : y.cps.toList = y'.cps.toList := congrArg (fun z : Str => z.cps.toList) (by simpa using b1)
      have el : ltP (y.cps.toList, z.cps.toList) (y'.cps.toList, z'.cps.toList) = Py.ltW z.cps.toList z'.cps.toList := if_pos ey
      refine kat_yes (kat_cons (SeqAt.EqAt.str_str z u z' u' prog w _ _ ?_))
      refine kat_go (fun b2 => ?_) fun b2 => ?_
      · have ez : z.cps.toList = z'.cps.toList := congrArg (fun z : Str => z.cps.toList) (by simpa using b2)
        exact absurd (by rw [ey, ez]) c
      · rw [el]
        exact kat_no (oneLt_any_str ⟨rfl, rfl⟩)
    · have ey : ¬ y.cps.toList = y'.cps.toList := fun q => by
        have : y = y' := Sd.str_ext q
        subst this
        simp at b1
      have el : ltP (y.cps.toList, z.cps.toList) (y'.cps.toList, z'.cps.toList) = Py.ltW y.cps.toList y'.cps.toList := if_neg ey
      rw [el]
      exact kat_no (oneLt_any_str ⟨rfl, rfl⟩)
theorem ltP_no {p q : List Nat × List Nat} : ltP p q = false ↔ (p.1 = q.1 ∧ Py.ltW p.2 q.2 = false) ∨ (¬ p.1 = q.1 ∧ Py.ltW p.1 q.1 = false) := by
  unfold ltP
  by_cases c : p.1 = q.1 <;> simp [c]
theorem ltP_tr {x y z : List Nat × List Nat} (h1 : ltP y x = false) (h2 : ltP z y = false) : ltP z x = false := by
  rcases ltP_no.mp h1 with ⟨a1, a2⟩ | ⟨a1, a2⟩ <;> rcases ltP_no.mp h2 with ⟨b1, b2⟩ | ⟨b1, b2⟩
  · exact ltP_no.mpr (.inl ⟨b1.trans a1, Sd.leW_trans a2 b2⟩)
  · exact ltP_no.mpr (.inr ⟨by rw [← a1]; exact b1, by rw [← a1]; exact b2⟩)
  · exact ltP_no.mpr (.inr ⟨by rw [b1]; exact a1, by rw [b1]; exact a2⟩)
  · refine ltP_no.mpr (.inr ⟨fun e => ?_, Sd.leW_trans a2 b2⟩)
    rw [e] at b2
    exact a1 (Sd.leW_anti b2 a2)
theorem ltP_anti {x y : List Nat × List Nat} (h1 : ltP y x = false) (h2 : ltP x y = false) : x = y := by
  rcases ltP_no.mp h1 with ⟨a1, a2⟩ | ⟨a1, a2⟩ <;> rcases ltP_no.mp h2 with ⟨b1, b2⟩ | ⟨b1, b2⟩
  · exact Prod.ext b1 (Sd.leW_anti a2 b2)
  · exact absurd a1.symm b1
  · exact absurd b1.symm a1
  · exact absurd (Sd.leW_anti b2 a2) a1
theorem ltP_asym {x y : List Nat × List Nat} (h : ltP x y = true) : ltP y x = false := by
  cases c : ltP y x with
  | false => rfl
  | true =>
    unfold ltP at h c
    by_cases e : x.1 = y.1
    · rw [if_pos e] at h
      rw [if_pos e.symm] at c
      exact absurd (of_decide_eq_true c) (List.lt_asymm (of_decide_eq_true h))
    · rw [if_neg e] at h
      rw [if_neg fun z => e z.symm] at c
      exact absurd (of_decide_eq_true c) (List.lt_asymm (of_decide_eq_true h))
theorem swo_p {α : Type} (k : α → List Nat × List Nat) : Swo fun v u => ltP (k v) (k u) := ⟨fun x y h => ltP_asym h, fun x y z h1 h2 => ltP_tr h1 h2⟩
theorem hu_sortable {a : Addr} {vs : List Value} {k : Value → List Nat × List Nat} (h0 : 0 < vs.length) (hp : ∀ v ∈ vs, HU s.heap v (k v)) (inj : ∀ v ∈ vs, ∀ u ∈ vs, k v = k u → v = u) (ha : ∀ o, s.heap.get? a = some o → o.cls ≠ .type "tuple") : SortableO prog w A s a vs fun v u => ltP (k v) (k u) := by
  intro h' keep
  have hp' : ∀ v ∈ vs, HU h' v (k v) := fun v hm => (hp v hm).keeps fun b o e c => keep b o (fun z => by subst z; exact ha o e c) e
  obtain ⟨fs, h1, h2, h3⟩ := firsts2 fun v hm => ⟨_, hp' v hm⟩
  refine ⟨tuples' true, fun Q E hq => ?_, hu_cmp (s := { s with heap := h' }) hp' inj⟩
  refine kat_kind (T := .type "str") h1 (by omega) (fun f hm => ?_) (by rfl) ?_
  · obtain ⟨x, t, rfl⟩ := h3 f hm
    exact Looks.now
  · have e : (Value.type "str" != Value.type "tuple") = true := by first | decide +kernel | rfl | decide
    rw [e]
    exact hq
theorem sorted_hu {l : Addr} {vs : List Value} {k : Value → List Nat × List Nat} {Q : Value → Shared → Prop} (hl : s.heap.IsList l vs.toArray) (hz : vs.length ≤ sizeLine) (hp : ∀ v ∈ vs, HU s.heap v (k v)) (inj : ∀ v ∈ vs, ∀ u ∈ vs, k v = k u → v = u)
    (h : ∀ (h' : Heap) (d : Addr) (out : List Value), Srtd (fun v u => ltP (k v) (k u)) out → Stb (fun v u => ltP (k v) (k u)) out vs → (∀ b o, s.heap.get? b = some o → h'.get? b = some o) → s.heap.objs.size ≤ d → (∃ n, h'.get? d = some (seqObj "list" out.toArray n)) → Q (.ref d) { s with heap := h' }) :
    wpAny (model prog w) A (call (.builtin "sorted") [.ref l]) Q E s := by
  refine sorted_ord (swo_p k) hl hz (fun h2 h₁ a ha kk => ?_) fun out hs hb => ?_
  · refine hu_sortable (s := { s with heap := h₁ }) (by omega) (fun v hm => (hp v hm).keeps fun b o e _ => (kk b o e).2) inj fun o e => ?_
    have e' : some o = some (seqObj "list" vs.toArray 0) := e.symm.trans ha
    cases e'
    intro c
    exact absurd (Value.type.inj c) (by decide)
  · exact h _ _ out hs hb (fun b o e => sortedAll_old e) (Nat.le_succ _) (sortedAll_at s.heap vs out.toArray)
end Srt1
set_option Elab.async false
set_option linter.all false
set_option autoImplicit false
set_option maxRecDepth 100000
namespace Sd
open PySem PySem.Spec PyProof.Rows L2
open Py (T Sl R Res CRes SRes Ex Stm W Tg)
variable {H H' : Hp} {H0 : B0} {A A' Z : Addr → Prop} {X : Cx} {K : PySem.W.Frag}
def keyH (H : Hp) : V → List Nat
  | .ref a => match H a with
    | some (.tup (.str x :: _)) => x.cps.toList
    | _ => []
  | _ => []
theorem keyH_ref {a : Addr} {x : Str} {r : List V} (h : H a = some (.tup (.str x :: r))) : keyH H (.ref a) = x.cps.toList := by
  unfold keyH
  simp only [h]
def rSortedH (K : PySem.W.Frag) : List V → Hp → VK → Prop := fun vs H Q => ∃ (a : Addr) (xs : List V), vs = [V.ref a] ∧ SqL K H a xs ∧ (∀ x ∈ xs, ∃ t y r, x = V.ref t ∧ H t = some (.tup (.str y :: r))) ∧ (∀ v ∈ xs, ∀ u ∈ xs, keyH H v = keyH H u → v = u) ∧
  ∀ ys p, SrtO.Srtd (fun v u => Py.ltW (keyH H v) (keyH H u)) ys → ys.Perm xs → H p = none → Q (.ref p) (upd H p (.lst ys))
theorem cr_sortedH : CallR X (.builtin "sorted") (rSortedH X.K) := by
  intro pins s σ H vs us Q I r h
  obtain ⟨a, xs, rfl, hs, hx, inj, q⟩ := h
  obtain ⟨its, rv, hl, hz⟩ := I.list hs
  obtain ⟨u, rfl, ru⟩ := vals1 r
  obtain rfl : u = Value.ref a := ru
  obtain ⟨e1, e2⟩ := refs_back rv fun x m => by
    obtain ⟨t, _, _, e, _⟩ := hx x m
    exact ⟨t, e⟩
  have mem : ∀ v ∈ its, backV v ∈ xs := fun v hv => by
    rw [e1]
    exact List.mem_map.mpr ⟨_, hv, rfl⟩
  refine Srt1.sorted_ht (k := fun u => keyH H (backV u)) hl.isList (by rw [← rv.length]; exact hz) (fun v hv => ?_) (fun v hv u hu c => ?_) fun h' d out h1 h2 kp hd hn => ?_
  · obtain ⟨t, rfl⟩ := e2 v hv
    obtain ⟨t', y, r0, e, ht⟩ := hx _ (mem _ hv)
    cases e
    obtain ⟨_, its2, r2, o, ho, hc, n, hd⟩ := I.hok _ _ ht
    cases hi : its2 with
    | nil =>
      rw [hi] at r2
      cases r2
    | cons u1 us1 =>
      rw [hi] at r2 hd
      cases r2 with
      | cons ry rr =>
        obtain ⟨t1, rfl⟩ := ry
        exact ⟨t, o, _, y, t1, n, rfl, ho, hc, hd, by simp, (keyH_ref ht).symm⟩
  · have := inj _ (mem v hv) _ (mem u hu) c
    obtain ⟨t, rfl⟩ := e2 v hv
    obtain ⟨t', rfl⟩ := e2 u hu
    cases this
    rfl
  · have h3 : ∀ u ∈ out, ∃ a, u = Value.ref a := fun u hu => e2 u (h2.perm.mem_iff.mp hu)
    obtain ⟨n, hn⟩ := hn
    have hb : (out.map backV).Perm xs := by
      rw [e1]
      exact h2.perm.map _
    refine ⟨.ref d, upd H d (.lst (out.map backV)), I.laid (t' := s.toks) kp hd ⟨?_, out, n, vals_back h3, hn⟩, rfl, q _ d (SrtO.srtd_map h1) hb (I.hok.fresh hd)⟩
    rw [hb.length_eq]
    exact hz
theorem reps_perm {vs ws : List V} (p : vs.Perm ws) : ∀ {ts : List T}, Reps K H A vs ts → ∃ ts2, ts2.Perm ts ∧ Reps K H A ws ts2 := by
  induction p with
  | nil => exact fun r => ⟨_, List.Perm.refl _, r⟩
  | cons x p ih =>
    intro ts r
    cases r with
    | cons r1 r2 =>
      obtain ⟨ts2, p2, r3⟩ := ih r2
      exact ⟨_, p2.cons _, .cons r1 r3⟩
  | swap x y l =>
    intro ts r
    cases r with
    | cons r1 r2 =>
      cases r2 with
      | cons r3 r4 => exact ⟨_, List.Perm.swap _ _ _, .cons r3 (.cons r1 r4)⟩
  | trans p q ih1 ih2 =>
    intro ts r
    obtain ⟨t2, p2, r2⟩ := ih1 r
    obtain ⟨t3, p3, r3⟩ := ih2 r2
    exact ⟨t3, p3.trans p2, r3⟩
def hdT : T → W
  | .tup (.str w :: _) => w
  | _ => []
theorem heads : ∀ {ts : List T} {ws : List W}, Py.headsOf ts = some ws → ws = ts.map hdT ∧ ∀ t ∈ ts, ∃ w r, t = .tup (.str w :: r)
  | [], _, h => by
    cases h
    exact ⟨rfl, fun _ h => nomatch h⟩
  | t :: ts, ws, h => by
    unfold Py.headsOf at h
    split at h
    · rename_i a
      cases a
    · rename_i w r r' e
      cases e
      obtain ⟨ws', e2, rfl⟩ := Option.map_eq_some_iff.mp h
      obtain ⟨h1, h2⟩ := heads e2
      refine ⟨by rw [h1]; rfl, fun t ht => ?_⟩
      rcases List.mem_cons.mp ht with rfl | ht
      · exact ⟨w, r, rfl⟩
      · exact h2 t ht
    · cases h
abbrev LeH (x y : T) : Prop := LeW (hdT x) (hdT y)
theorem ltT_hd {x y : T} (hx : ∃ w r, x = .tup (.str w :: r)) (hy : ∃ w r, y = .tup (.str w :: r)) (h : hdT x ≠ hdT y) : Py.ltT x y = some (Py.ltW (hdT x) (hdT y)) := by
  obtain ⟨w, r, rfl⟩ := hx
  obtain ⟨w', r', rfl⟩ := hy
  have h : w ≠ w' := h
  have e : Py.eqT (.str w) (.str w') = false := by
    unfold Py.eqT
    simp [h]
  show (if Py.eqT (.str w) (.str w') = true then Py.ltTs r r' else Py.ltT (.str w) (.str w')) = some (Py.ltW w w')
  rw [e]
  unfold Py.ltT
  simp
theorem insT_hd {x : T} (hx : ∃ w r, x = .tup (.str w :: r)) : ∀ {ys : List T}, (∀ y ∈ ys, ∃ w r, y = .tup (.str w :: r)) → (∀ y ∈ ys, hdT x ≠ hdT y) → ys.Pairwise LeH → ∃ zs, Py.insT x ys = some zs ∧ zs.Perm (x :: ys) ∧ zs.Pairwise LeH
  | [], _, _, _ => ⟨[x], rfl, List.Perm.refl _, List.pairwise_singleton _ _⟩
  | y :: r, hy, hn, hs => by
    have e := ltT_hd hx (hy y (List.mem_cons_self ..)) (hn y (List.mem_cons_self ..))
    obtain ⟨p1, p2⟩ := List.pairwise_cons.mp hs
    unfold Py.insT
    rw [e]
    cases c : Py.ltW (hdT x) (hdT y) with
    | true =>
      refine ⟨x :: y :: r, rfl, List.Perm.refl _, List.pairwise_cons.mpr ⟨fun z hz => ?_, hs⟩⟩
      have l : LeW (hdT x) (hdT y) := leW_of (ltW_iff.mp c)
      rcases List.mem_cons.mp hz with rfl | hz
      · exact l
      · exact leW_trans l (p1 z hz)
    | false =>
      obtain ⟨zs, e2, pm, ps⟩ := insT_hd hx (ys := r) (fun z hz => hy z (List.mem_cons_of_mem _ hz)) (fun z hz => hn z (List.mem_cons_of_mem _ hz)) p2
      refine ⟨y :: zs, by simp only [e2]; rfl, (pm.cons y).trans (List.Perm.swap _ _ _), List.pairwise_cons.mpr ⟨fun z hz => ?_, ps⟩⟩
      rcases List.mem_cons.mp (pm.mem_iff.mp hz) with rfl | hz
      · exact c
      · exact p1 z hz
theorem sortT_hd : ∀ {ts : List T}, (∀ y ∈ ts, ∃ w r, y = .tup (.str w :: r)) → (ts.map hdT).Nodup → ∃ zs, Py.sortT ts = some zs ∧ zs.Perm ts ∧ zs.Pairwise LeH
  | [], _, _ => ⟨[], rfl, List.Perm.refl _, List.Pairwise.nil⟩
  | x :: r, h, nd => by
    obtain ⟨n1, n2⟩ := List.nodup_cons.mp nd
    obtain ⟨zs, e, pm, ps⟩ := sortT_hd (ts := r) (fun z hz => h z (List.mem_cons_of_mem _ hz)) n2
    obtain ⟨us, e2, pm2, ps2⟩ := insT_hd (h x (List.mem_cons_self ..)) (ys := zs) (fun z hz => h z (List.mem_cons_of_mem _ (pm.mem_iff.mp hz))) (fun z hz q => n1 (List.mem_map.mpr ⟨z, pm.mem_iff.mp hz, q.symm⟩)) ps
    refine ⟨us, ?_, pm2.trans (pm.cons x), ps2⟩
    unfold Py.sortT
    rw [e]
    exact e2
theorem nodup_inj {α : Type} {f : α → W} : ∀ {l : List α}, (l.map f).Nodup → ∀ a ∈ l, ∀ b ∈ l, f a = f b → a = b
  | x :: r, h, a, ha, b, hb, e => by
    obtain ⟨n1, n2⟩ := List.nodup_cons.mp h
    rcases List.mem_cons.mp ha with e1 | ha
    · rcases List.mem_cons.mp hb with e2 | hb
      · rw [e1, e2]
      · exact absurd (List.mem_map.mpr ⟨b, hb, by rw [← e, e1]⟩) n1
    · rcases List.mem_cons.mp hb with e2 | hb
      · exact absurd (List.mem_map.mpr ⟨a, ha, by rw [e, e2]⟩) n1
      · exact nodup_inj n2 a ha b hb e
theorem reps_heads : ∀ {vs : List V} {ts : List T}, Reps K H A vs ts → (∀ t ∈ ts, ∃ w r, t = .tup (.str w :: r)) → vs.map (keyH H) = ts.map hdT ∧ ∀ v ∈ vs, ∃ t y r, v = V.ref t ∧ H t = some (.tup (.str y :: r))
  | _, _, .nil, _ => ⟨rfl, fun _ h => nomatch h⟩
  | _, _, .cons (t := t) r rs, h => by
    obtain ⟨h1, h2⟩ := reps_heads rs fun t ht => h t (List.mem_cons_of_mem _ ht)
    obtain ⟨w, r0, rfl⟩ := h t (List.mem_cons_self ..)
    cases r with
    | tup ha rr =>
      cases rr with
      | cons rw0 rr =>
        cases rw0 with
        | str x =>
          refine ⟨?_, fun v hv => ?_⟩
          · rw [List.map_cons, List.map_cons, h1, keyH_ref ha]
            rfl
          · rcases List.mem_cons.mp hv with rfl | hv
            · exact ⟨_, _, _, rfl, ha⟩
            · exact h2 v hv
def keyP (H : Hp) : V → List Nat × List Nat
  | .ref a => match H a with
    | some (.tup (.str x :: .str y :: _)) => (x.cps.toList, y.cps.toList)
    | _ => ([], [])
  | _ => ([], [])
theorem keyP_ref {a : Addr} {x y : Str} {r : List V} (h : H a = some (.tup (.str x :: .str y :: r))) : keyP H (.ref a) = (x.cps.toList, y.cps.toList) := by
  unfold keyP
  simp only [h]
def rSortedP (K : PySem.W.Frag) : List V → Hp → VK → Prop := fun vs H Q => ∃ (a : Addr) (xs : List V), vs = [V.ref a] ∧ SqL K H a xs ∧ (∀ x ∈ xs, ∃ t y z r, x = V.ref t ∧ H t = some (.tup (.str y :: .str z :: r))) ∧ (∀ v ∈ xs, ∀ u ∈ xs, keyP H v = keyP H u → v = u) ∧
  ∀ ys p, SrtO.Srtd (fun v u => Srt1.ltP (keyP H v) (keyP H u)) ys → ys.Perm xs → H p = none → Q (.ref p) (upd H p (.lst ys))
theorem cr_sortedP : CallR X (.builtin "sorted") (rSortedP X.K) := by
  intro pins s σ H vs us Q I r h
  obtain ⟨a, xs, rfl, hs, hx, inj, q⟩ := h
  obtain ⟨its, rv, hl, hz⟩ := I.list hs
  obtain ⟨u, rfl, ru⟩ := vals1 r
  obtain rfl : u = Value.ref a := ru
  obtain ⟨e1, e2⟩ := refs_back rv fun x m => by
    obtain ⟨t, _, _, _, e, _⟩ := hx x m
    exact ⟨t, e⟩
  have mem : ∀ v ∈ its, backV v ∈ xs := fun v hv => by
    rw [e1]
    exact List.mem_map.mpr ⟨_, hv, rfl⟩
  refine Srt1.sorted_hu (k := fun u => keyP H (backV u)) hl.isList (by rw [← rv.length]; exact hz) (fun v hv => ?_) (fun v hv u hu c => ?_) fun h' d out h1 h2 kp hd hn => ?_
  · obtain ⟨t, rfl⟩ := e2 v hv
    obtain ⟨t', y, z, r0, e, ht⟩ := hx _ (mem _ hv)
    cases e
    obtain ⟨_, its2, r2, o, ho, hc, n, hd⟩ := I.hok _ _ ht
    cases hi : its2 with
    | nil =>
      rw [hi] at r2
      cases r2
    | cons u1 us1 =>
      rw [hi] at r2 hd
      cases r2 with
      | cons ry rr =>
        obtain ⟨t1, rfl⟩ := ry
        cases us1 with
        | nil => cases rr
        | cons u2 us2 =>
          cases rr with
          | cons rz rr =>
            obtain ⟨t2, rfl⟩ := rz
            exact ⟨t, o, _, y, t1, z, t2, us2, n, rfl, ho, hc, hd, by simp, (keyP_ref ht).symm⟩
  · have := inj _ (mem v hv) _ (mem u hu) c
    obtain ⟨t, rfl⟩ := e2 v hv
    obtain ⟨t', rfl⟩ := e2 u hu
    cases this
    rfl
  · have h3 : ∀ u ∈ out, ∃ a, u = Value.ref a := fun u hu => e2 u (h2.perm.mem_iff.mp hu)
    obtain ⟨n, hn⟩ := hn
    have hb : (out.map backV).Perm xs := by
      rw [e1]
      exact h2.perm.map _
    refine ⟨.ref d, upd H d (.lst (out.map backV)), I.laid (t' := s.toks) kp hd ⟨?_, out, n, vals_back h3, hn⟩, rfl, q _ d (SrtO.srtd_map h1) hb (I.hok.fresh hd)⟩
    rw [hb.length_eq]
    exact hz
def hdP : T → W × W
  | .tup (.str w :: .str z :: _) => (w, z)
  | _ => ([], [])
abbrev IsP (t : T) : Prop := ∃ w z r, t = .tup (.str w :: .str z :: r)
theorem keysP : ∀ {ts : List T} {ws : List (W × W)}, Py.keysOf ts = some ws → ws = ts.map hdP ∧ ∀ t ∈ ts, IsP t
  | [], _, h => by
    cases h
    exact ⟨rfl, fun _ h => nomatch h⟩
  | t :: ts, ws, h => by
    unfold Py.keysOf at h
    split at h
    · rename_i a
      cases a
    · rename_i w z r r' e
      cases e
      obtain ⟨ws', e2, rfl⟩ := Option.map_eq_some_iff.mp h
      obtain ⟨h1, h2⟩ := keysP e2
      refine ⟨by rw [h1]; rfl, fun t ht => ?_⟩
      rcases List.mem_cons.mp ht with rfl | ht
      · exact ⟨w, z, r, rfl⟩
      · exact h2 t ht
    · cases h
abbrev LeP (x y : T) : Prop := Srt1.ltP (hdP y) (hdP x) = false
theorem ltT_P {x y : T} (hx : IsP x) (hy : IsP y) (h : hdP x ≠ hdP y) : Py.ltT x y = some (Srt1.ltP (hdP x) (hdP y)) := by
  obtain ⟨w, z, r, rfl⟩ := hx
  obtain ⟨w', z', r', rfl⟩ := hy
  have h : (w, z) ≠ (w', z') := h
  show (if Py.eqT (.str w) (.str w') = true then (if Py.eqT (.str z) (.str z') = true then Py.ltTs r r' else Py.ltT (.str z) (.str z')) else Py.ltT (.str w) (.str w')) = some (Srt1.ltP (w, z) (w', z'))
  by_cases c : w = w'
  · subst c
    have c2 : z ≠ z' := fun q => h (by rw [q])
    have e : Py.eqT (.str w) (.str w) = true := by
      unfold Py.eqT
      simp
    have e2 : Py.eqT (.str z) (.str z') = false := by
      unfold Py.eqT
      simp [c2]
    have e3 : Srt1.ltP (w, z) (w, z') = Py.ltW z z' := if_pos rfl
    rw [e, e2, e3]
    unfold Py.ltT
    simp
  · have e : Py.eqT (.str w) (.str w') = false := by
      unfold Py.eqT
      simp [c]
    have e3 : Srt1.ltP (w, z) (w', z') = Py.ltW w w' := if_neg c
    rw [e, e3]
    unfold Py.ltT
    simp
theorem insT_P {x : T} (hx : IsP x) : ∀ {ys : List T}, (∀ y ∈ ys, IsP y) → (∀ y ∈ ys, hdP x ≠ hdP y) → ys.Pairwise LeP → ∃ zs, Py.insT x ys = some zs ∧ zs.Perm (x :: ys) ∧ zs.Pairwise LeP
  | [], _, _, _ => ⟨[x], rfl, List.Perm.refl _, List.pairwise_singleton _ _⟩
  | y :: r, hy, hn, hs => by
    have e := ltT_P hx (hy y (List.mem_cons_self ..)) (hn y (List.mem_cons_self ..))
    obtain ⟨p1, p2⟩ := List.pairwise_cons.mp hs
    unfold Py.insT
    rw [e]
    cases c : Srt1.ltP (hdP x) (hdP y) with
    | true =>
      refine ⟨x :: y :: r, rfl, List.Perm.refl _, List.pairwise_cons.mpr ⟨fun z hz => ?_, hs⟩⟩
      have l : LeP x y := Srt1.ltP_asym c
      rcases List.mem_cons.mp hz with rfl | hz
      · exact l
      · exact Srt1.ltP_tr l (p1 z hz)
    | false =>
      obtain ⟨zs, e2, pm, ps⟩ := insT_P hx (ys := r) (fun z hz => hy z (List.mem_cons_of_mem _ hz)) (fun z hz => hn z (List.mem_cons_of_mem _ hz)) p2
      refine ⟨y :: zs, by simp only [e2]; rfl, (pm.cons y).trans (List.Perm.swap _ _ _), List.pairwise_cons.mpr ⟨fun z hz => ?_, ps⟩⟩
      rcases List.mem_cons.mp (pm.mem_iff.mp hz) with rfl | hz
      · exact c
      · exact p1 z hz
theorem sortT_P : ∀ {ts : List T}, (∀ y ∈ ts, IsP y) → (ts.map hdP).Nodup → ∃ zs, Py.sortT ts = some zs ∧ zs.Perm ts ∧ zs.Pairwise LeP
  | [], _, _ => ⟨[], rfl, List.Perm.refl _, List.Pairwise.nil⟩
  | x :: r, h, nd => by
    obtain ⟨n1, n2⟩ := List.nodup_cons.mp nd
    obtain ⟨zs, e, pm, ps⟩ := sortT_P (ts := r) (fun z hz => h z (List.mem_cons_of_mem _ hz)) n2
    obtain ⟨us, e2, pm2, ps2⟩ := insT_P (h x (List.mem_cons_self ..)) (ys := zs) (fun z hz => h z (List.mem_cons_of_mem _ (pm.mem_iff.mp hz))) (fun z hz q => n1 (List.mem_map.mpr ⟨z, pm.mem_iff.mp hz, q.symm⟩)) ps
    refine ⟨us, ?_, pm2.trans (pm.cons x), ps2⟩
    unfold Py.sortT
    rw [e]
    exact e2
theorem nodup_injG {α β : Type} {f : α → β} : ∀ {l : List α}, (l.map f).Nodup → ∀ a ∈ l, ∀ b ∈ l, f a = f b → a = b
  | x :: r, h, a, ha, b, hb, e => by
    obtain ⟨n1, n2⟩ := List.nodup_cons.mp h
    rcases List.mem_cons.mp ha with e1 | ha
    · rcases List.mem_cons.mp hb with e2 | hb
      · rw [e1, e2]
      · exact absurd (List.mem_map.mpr ⟨b, hb, by rw [← e, e1]⟩) n1
    · rcases List.mem_cons.mp hb with e2 | hb
      · exact absurd (List.mem_map.mpr ⟨a, ha, by rw [e, e2]⟩) n1
      · exact nodup_injG n2 a ha b hb e
theorem reps_keys : ∀ {vs : List V} {ts : List T}, Reps K H A vs ts → (∀ t ∈ ts, IsP t) → vs.map (keyP H) = ts.map hdP ∧ ∀ v ∈ vs, ∃ t y z r, v = V.ref t ∧ H t = some (.tup (.str y :: .str z :: r))
  | _, _, .nil, _ => ⟨rfl, fun _ h => nomatch h⟩
  | _, _, .cons (t := t) r rs, h => by
    obtain ⟨h1, h2⟩ := reps_keys rs fun t ht => h t (List.mem_cons_of_mem _ ht)
    obtain ⟨w, z, r0, rfl⟩ := h t (List.mem_cons_self ..)
    cases r with
    | tup ha rr =>
      cases rr with
      | cons rw0 rr =>
        cases rw0 with
        | str x =>
          cases rr with
          | cons rw1 rr =>
            cases rw1 with
            | str x' =>
              refine ⟨?_, fun v hv => ?_⟩
              · rw [List.map_cons, List.map_cons, h1, keyP_ref ha]
                rfl
              · rcases List.mem_cons.mp hv with rfl | hv
                · exact ⟨_, _, _, _, rfl, ha⟩
                · exact h2 v hv
theorem call_sorted_ok : CallOk X (.builtin "sorted") (Py.b1T .srt) := by
  refine ⟨_, CallR.or cr_sortedS (CallR.or cr_sortedH cr_sortedP), fun H A x t res Q h e q => ?_⟩
  cases t <;> first | (simp [Py.b1T] at e; done) | skip
  rename_i ts
  have e : (match Py.strsOf ts with
    | some ws => if ws.length < 64 then (Py.sortT (ws.map T.str)).map fun s => R.new (.lst s) else none
    | none => match Py.headsOf ts with
      | some ws => if ws.Nodup then (Py.sortT ts).map fun s => R.new (.lst s) else match Py.keysOf ts with
        | some ks => if ks.Nodup then (Py.sortT ts).map fun s => R.new (.lst s) else none
        | none => none
      | none => none) = some res := e
  obtain ⟨a, vs, rfl, h1, r1⟩ := h.lst
  cases hs : Py.strsOf ts with
  | some ws =>
    rw [hs] at e
    obtain ⟨hl, e⟩ := ite_some' e
    rw [sortT_str] at e
    cases e
    obtain ⟨ss, rfl, rfl⟩ := reps_strs r1 hs
    refine .inl ⟨a, ss, rfl, .of h1, by simpa using hl, fun ys p pm so hp => ?_⟩
    refine q p _ (Ext.upd hp) hp ⟨_, upd_same, ?_⟩
    have eq : ys.map (fun x => x.cps.toList) = sortW (ss.map fun x => x.cps.toList) := by
      refine List.Perm.eq_of_pairwise (le := LeW) (fun a b _ _ => leW_anti) (sorted_pw ys so) (sortW_sorted _) ?_
      exact (pm.map _).trans (sortW_perm _).symm
    rw [← eq, List.map_map]
    exact reps_ofStrs ys
  | none =>
    rw [hs] at e
    cases hh : Py.headsOf ts with
    | none =>
      rw [hh] at e
      cases e
    | some ws =>
      rw [hh] at e
      have e0 : (if ws.Nodup then (Py.sortT ts).map fun s => R.new (.lst s) else match Py.keysOf ts with
        | some ks => if ks.Nodup then (Py.sortT ts).map fun s => R.new (.lst s) else none
        | none => none) = some res := e
      clear e
      by_cases nd0 : ws.Nodup
      case neg =>
        rw [if_neg nd0] at e0
        cases hk : Py.keysOf ts with
        | none =>
          rw [hk] at e0
          cases e0
        | some ks =>
          rw [hk] at e0
          have e1 : (if ks.Nodup then (Py.sortT ts).map fun s => R.new (.lst s) else none) = some res := e0
          clear e0
          obtain ⟨nd, e2⟩ := ite_some' e1
          clear e1
          obtain ⟨rfl, ht⟩ := keysP hk
          obtain ⟨zs, ez, pz, sz⟩ := sortT_P ht nd
          obtain ⟨zs', ez', rfl⟩ := Option.map_eq_some_iff.mp e2
          obtain rfl : zs = zs' := Option.some.inj (ez.symm.trans ez')
          obtain ⟨k1, k2⟩ := reps_keys r1 ht
          refine .inr (.inr ⟨a, vs, rfl, .of h1, k2, ?_, fun ys p so pm hp => ?_⟩)
          · exact nodup_injG (by rw [k1]; exact nd)
          · obtain ⟨ts2, p2, r2⟩ := reps_perm pm.symm r1
            have ht2 : ∀ t ∈ ts2, IsP t := fun t h => ht t (p2.mem_iff.mp h)
            obtain ⟨k3, _⟩ := reps_keys r2 ht2
            have e3 : ts2 = zs := by
              refine List.Perm.eq_of_pairwise (le := LeP) (fun a b ha hb l1 l2 => ?_) ?_ sz (p2.trans pz.symm)
              · exact nodup_injG nd a (p2.mem_iff.mp ha) b (pz.mem_iff.mp hb) (Srt1.ltP_anti l1 l2)
              · have so2 : (ys.map (keyP H)).Pairwise (fun x y => Srt1.ltP y x = false) := List.pairwise_map.mpr so
                rw [k3] at so2
                exact (List.pairwise_map (f := hdP) (R := fun x y => Srt1.ltP y x = false)).mp so2
            subst e3
            exact q p _ (Ext.upd hp) hp (new_lst r2 hp)
      rw [if_pos nd0] at e0
      have nd := nd0
      have e1 := e0
      clear e0
      obtain ⟨rfl, ht⟩ := heads hh
      obtain ⟨zs, ez, pz, sz⟩ := sortT_hd ht nd
      obtain ⟨zs', ez', rfl⟩ := Option.map_eq_some_iff.mp e1
      obtain rfl : zs = zs' := Option.some.inj (ez.symm.trans ez')
      obtain ⟨k1, k2⟩ := reps_heads r1 ht
      refine .inr (.inl ⟨a, vs, rfl, .of h1, k2, ?_, fun ys p so pm hp => ?_⟩)
      · exact nodup_inj (by rw [k1]; exact nd)
      · obtain ⟨ts2, p2, r2⟩ := reps_perm pm.symm r1
        have ht2 : ∀ t ∈ ts2, ∃ w r, t = .tup (.str w :: r) := fun t h => ht t (p2.mem_iff.mp h)
        obtain ⟨k3, _⟩ := reps_heads r2 ht2
        have e3 : ts2 = zs := by
          refine List.Perm.eq_of_pairwise (le := LeH) (fun a b ha hb l1 l2 => ?_) ?_ sz (p2.trans pz.symm)
          · exact nodup_inj nd a (p2.mem_iff.mp ha) b (pz.mem_iff.mp hb) (leW_anti l1 l2)
          · have so2 : (ys.map (keyH H)).Pairwise LeW := List.pairwise_map.mpr so
            rw [k3] at so2
            exact (List.pairwise_map (f := hdT) (R := LeW)).mp so2
        subst e3
        exact q p _ (Ext.upd hp) hp (new_lst r2 hp)
end Sd
set_option Elab.async false
set_option linter.all false
set_option autoImplicit false
set_option maxRecDepth 100000
namespace Sd
open PySem PySem.Spec PyProof.Rows L2
open Py (T Sl R Res CRes SRes Ex Stm W Tg)
inductive Kd where
  | mv (m : Option Nat) | ref
  deriving DecidableEq
structure PI where
  P : Py.Prg
  fnm : List Str
  fnp : List Nat
  kd : List Kd
  cnm : List Str
  xnm : List Str
  blt : List Str
  F : List Nat
def all2 {α β : Type} (f : α → β → Bool) : List α → List β → Bool
  | [], [] => true
  | a :: as, b :: bs => f a b && all2 f as bs
  | _, _ => false
def glb (sc : Scope) (x : Str) : Bool := decide (sc.names.lookup x = some .globalImplicit)
def visS (sc : Scope) (x : Str) : Bool := decide (sc.names.lookup x = some .local) || decide (sc.names.lookup x = some .cell) || decide (sc.names.lookup x = some .free)
def locS (sc : Scope) (x : Str) : Bool := decide (sc.names.lookup x = some .local) || decide (sc.names.lookup x = some .cell)
def okN (x : Str) : Bool := !(x == ("__debug__" : Str)) && !(x == ("__classdict__" : Str)) && !decide (x = ("__name__" : Str))
def chkNm (fnb : Str → Bool) (sc : Scope) (N : List Str) (e : Expr) (i : Nat) : Bool := match e with
  | .Name y _ => decide (N[i]? = some y) && locS sc y && (fnb y || decide (sc.names.lookup y = some .local))
  | _ => false
def okF (I : PI) (is : List Nat) : Bool := is.all fun i => !I.F.contains i
def chkTg (I : PI) (fnb : Str → Bool) (sc : Scope) (N : List Str) (te : Expr) : Tg → Bool
  | .one i => okF I [i] && chkNm fnb sc N te i
  | .many is => okF I is && match te with
    | .Tuple es _ _ => all2 (chkNm fnb sc N) es is
    | _ => false
def notSet : Expr → Bool
  | .Set .. => false
  | _ => true
def baseE : Expr → Bool
  | .Call _ [] [] _ => false
  | _ => true
def isTupE : Expr → Bool
  | .Tuple .. => true
  | _ => false
def bltB (I : PI) (sc : Scope) (y : Str) : Bool := glb sc y && okN y && decide (y ∈ I.blt)
def chkIt (ck : Expr → Ex → Bool) (bl : Str → Bool) (tg iter : Expr) (k : Py.It) (ie : List Ex) : Bool := match k with
  | .seq => (match ie with
    | [x] => ck iter x
    | _ => false)
  | .rng1 => (match iter, ie with
    | .Call (.Name y _) [e] [] _, [x] => decide (y = "range") && bl y && plainE e && ck e x
    | _, _ => false)
  | .rng2 => (match iter, ie with
    | .Call (.Name y _) [e, f] [] _, [x, z] => decide (y = "range") && bl y && plainE e && plainE f && ck e x && ck f z
    | _, _ => false)
  | .enm => (match iter, ie with
    | .Call (.Name y _) [e] [] _, [x] => decide (y = "enumerate") && bl y && plainE e && isTupE tg && ck e x
    | _, _ => false)
def b1nm : Py.B1 → Option Str
  | .len => some "len"
  | .tupo => some "tuple"
  | .lsto => some "list"
  | .dcto => some "dict"
  | .into => some "int"
  | .sumo => some "sum"
  | .srt => some "sorted"
  | _ => none
def constB (c : Const) : Ex → Bool
  | .int i => (match c with
    | .int j => decide (i = j)
    | _ => false)
  | .str s => (match c with
    | .str y => decide (y.cps.toList = s)
    | _ => false)
  | .bl b => (match c with
    | .bool d => b == d
    | _ => false)
  | .non => (match c with
    | .none => true
    | _ => false)
  | _ => false
def chkPart (ck : Expr → Ex → Bool) (lo : Option Expr) (xl : Ex) : Bool := match lo with
  | none => Py.isNonE xl
  | some l => !Py.isNonE xl && ck l xl
def tstE : Expr → Bool
  | .IfExp .. => false
  | _ => true
def chkIfs (ck : Expr → Ex → Bool) (ifs : List Expr) (xc : Ex) : Bool := match ifs with
  | [] => (match xc with
    | .bl b => b
    | _ => false)
  | [c] => tstE c && ck c xc
  | _ => false
def chkIsi (I : PI) (sc : Scope) (ck : Expr → Ex → Bool) (y : Str) (k : Py.Ty) (xa : Ex) : List Expr → Bool
  | [a, .Name t _] => decide (y = "isinstance") && bltB I sc y && decide (t = Str.ofString (tyName k)) && bltB I sc t && plainE a && ck a xa
  | _ => false
def chkSt (I : PI) (sc : Scope) (ck : Expr → Ex → Bool) (xa : Ex) : Expr → Bool
  | .Call (.Name z _) [b] [] _ => decide (z = "set") && bltB I sc z && plainE b && ck b xa
  | _ => false
def chkB1 (I : PI) (sc : Scope) (ck : Expr → Ex → Bool) (cm : Bool) (y : Str) (op : Py.B1) (xa : Ex) : List Expr → Bool
  | [a] => cm && bltB I sc y && (match op with
    | .sset => decide (y = "sorted") && chkSt I sc ck xa a
    | .lset => decide (y = "len") && chkSt I sc ck xa a
    | op => decide (b1nm op = some y) && plainE a && ck a xa)
  | _ => false
def chkMax (I : PI) (sc : Scope) (ck : Expr → Ex → Bool) (cm : Bool) (y : Str) (xa xb : Ex) : List Expr → Bool
  | [a, b] => cm && decide (y = "max") && bltB I sc y && plainE a && plainE b && ck a xa && ck b xb
  | _ => false
def chkCallN (I : PI) (sc : Scope) (ck : Expr → Ex → Bool) (cm : Bool) (y : Str) (es : List Expr) : Ex → Bool
  | .call j xs => cm && decide (I.fnm[j]? = some y) && decide (I.fnp[j]? = some xs.length) && decide (I.kd[j]? = some (.mv none)) && !es.isEmpty && es.all plainE && all2 ck es xs
  | .callm j i xs => cm && decide (I.fnm[j]? = some y) && decide (I.fnp[j]? = some xs.length) && decide (I.kd[j]? = some (.mv (some i))) && !es.isEmpty && es.all plainE && all2 ck es xs
  | .isi k xa => chkIsi I sc ck y k xa es
  | .b1 op xa => chkB1 I sc ck cm y op xa es
  | .max2 xa xb => chkMax I sc ck cm y xa xb es
  | _ => false
def m0B (m : Str) : Py.M0 → Bool
  | .pop => decide (m = "pop")
  | .clear => decide (m = "clear")
def m1B (m : Str) : Py.M1 → Bool
  | .append => decide (m = "append")
  | .extend => decide (m = "extend")
  | .get1 => decide (m = "get")
  | _ => false
def chkM1 (ck : Expr → Ex → Bool) (op : Py.M1) (m : Str) (xa : Ex) : List Expr → Bool
  | [a] => m1B m op && ck a xa
  | _ => false
def chkG2 (ck : Expr → Ex → Bool) (m : Str) (xa xb : Ex) : List Expr → Bool
  | [a, b] => decide (m = "get") && ck a xa && ck b xb
  | _ => false
def chkCallA (ck : Expr → Ex → Bool) (o : Expr) (m : Str) (es : List Expr) : Ex → Bool
  | .m0 op xo => es.isEmpty && m0B m op && ck o xo
  | .m1 op xo xa => ck o xo && chkM1 ck op m xa es
  | .get2 xo xa xb => ck o xo && chkG2 ck m xa xb es
  | _ => false
def constT (c : Const) : T → Bool
  | .int i => (match c with
    | .int j => decide (i = j)
    | _ => false)
  | .str s => (match c with
    | .str y => decide (y.cps.toList = s)
    | _ => false)
  | _ => false
def chkPair (k : Option Expr) (v : Expr) (p : W × T) : Bool := match k, v with
  | some (.Constant (.str y) _ _), .Constant c _ _ => decide (y.cps.toList = p.1) && constT c p.2
  | _, _ => false
def chkPairs : List (Option Expr) → List Expr → List (W × T) → Bool
  | [], [], [] => true
  | k :: ks, v :: vs, p :: ps => chkPair k v p && chkPairs ks vs ps
  | _, _, _ => false
def chkRev : Expr → Bool
  | .Slice none none (some (.UnaryOp o (.Constant (.int i) _ _) _)) _ => decide (o = .USub) && decide (i = 1)
  | _ => false
theorem rev_shape {b : Expr} (h : chkRev b = true) : ∃ k p1 p2 p3, b = .Slice none none (some (.UnaryOp .USub (.Constant (.int 1) k p1) p2)) p3 := by
  unfold chkRev at h
  split at h
  · simp only [Bool.and_eq_true, decide_eq_true_eq] at h
    obtain ⟨rfl, rfl⟩ := h
    exact ⟨_, _, _, _, rfl⟩
  · cases h
def chk (I : PI) (N : List Str) (cm : Bool) : Nat → Scope → Expr → Ex → Bool
  | 0, _, _, _ => false
  | n + 1, sc, e, x => match e with
    | .Name y _ => (match x with
      | .loc i => decide (N[i]? = some y) && visS sc y && okN y
      | .gl j => decide (I.cnm[j]? = some y) && glb sc y && okN y
      | _ => false)
    | .Constant c _ _ => constB c x
    | .Tuple es _ _ => (match x with
      | .tup xs => decide (xs.length ≤ 1000) && es.all plainE && all2 (chk I N cm n sc) es xs
      | _ => false)
    | .List es _ => (match x with
      | .lst xs => decide (xs.length ≤ 1000) && es.all plainE && all2 (chk I N cm n sc) es xs
      | _ => false)
    | .Dict ks vs _ => (match x with
      | .dnw _ => ks.isEmpty && vs.isEmpty
      | .dlt kvs => chkPairs ks vs kvs && decide ((kvs.map (·.1)).Nodup) && decide (kvs.length ≤ 15) && !kvs.isEmpty
      | _ => false)
    | .BinOp a o b _ => (match x with
      | .bin op xa xb => decide (o = opOf op) && chk I N cm n sc a xa && chk I N cm n sc b xb
      | _ => false)
    | .UnaryOp o a _ => (match x with
      | .neg xa => decide (o = .USub) && chk I N cm n sc a xa
      | .nt xa => decide (o = .Not) && tstE a && chk I N cm n sc a xa
      | _ => false)
    | .BoolOp o es p => (match es with
      | a :: b :: rest => (match x with
        | .and2 xa xb => decide (o = .And) && tstE a && tstE b && chk I N cm n sc a xa && (if rest.isEmpty then chk I N cm n sc b xb else chk I N cm n sc (.BoolOp o (b :: rest) p) xb)
        | .or2 xa xb => decide (o = .Or) && tstE a && tstE b && chk I N cm n sc a xa && (if rest.isEmpty then chk I N cm n sc b xb else chk I N cm n sc (.BoolOp o (b :: rest) p) xb)
        | _ => false)
      | _ => false)
    | .Compare a os bs _ => (match x with
      | .cmp op xa xb => (match os, bs with
        | [o], [b] => decide (o = copOf op) && !behindInMarks o b && chk I N cm n sc a xa && chk I N cm n sc b xb
        | _, _ => false)
      | .isn ng xa => (match os, bs with
        | [o], [b] => (match b with
          | .Constant c _ _ => (match c with
            | .none => decide (o = if ng then .IsNot else .Is) && chk I N cm n sc a xa
            | _ => false)
          | _ => false)
        | _, _ => false)
      | .chn op op' xa xb xc => (match os, bs with
        | [o, o'], [b, c] => decide (o = copOf op) && decide (o' = copOf op') && !lastMarks [o, o'] [b, c] && chk I N cm n sc a xa && chk I N cm n sc b xb && chk I N cm n sc c xc
        | _, _ => false)
      | _ => false)
    | .IfExp c a b _ => (match x with
      | .ife xc xa xb => tstE c && chk I N cm n sc c xc && chk I N cm n sc a xa && chk I N cm n sc b xb
      | _ => false)
    | .Subscript a b _ => (match x with
      | .ix xa xb => notSl b && chk I N cm n sc a xa && chk I N cm n sc b xb
      | .slc xa xl xh => (match b with
        | .Slice lo hi st _ => chk I N cm n sc a xa && chkPart (chk I N cm n sc) lo xl && chkPart (chk I N cm n sc) hi xh && st.isNone
        | _ => false)
      | .rev xa => chkRev b && chk I N cm n sc a xa
      | _ => false)
    | .ListComp elt gens scope _ => (match x with
      | .lc xe tg k ie xc => (match gens with
        | [⟨te, iter, ifs, isa⟩] => cm && decide (isa = 0) && notSet iter && chkIt (chk I N cm n sc) (bltB I sc) te iter k ie && blkC N sc scope (tg.slots.map fun i => (N.getD i "", i)) &&
          chkTg I (fun y => decide (scope.names.lookup y = some .cell)) (relS scope sc) N te tg && chk I N cm n (relS scope sc) elt xe &&
          chkIfs (chk I N cm n (relS scope sc)) ifs xc
        | _ => false)
      | _ => false)
    | .Call f es kw cpos => kw.isEmpty && (match f with
      | .Name y _ => okN y && glb sc y && chkCallN I sc (chk I N cm n sc) cm y es x
      | .Attribute o m apos => baseE o && (apos.endLine == cpos.line) && es.all plainE && chkCallA (chk I N cm n sc) o m es x
      | _ => false)
    | _ => false
end Sd
set_option Elab.async false
set_option linter.all false
set_option autoImplicit false
set_option maxRecDepth 100000
namespace Sd
open PySem PySem.Spec PyProof.Rows L2
open Py (T Sl R Res CRes SRes Ex Stm W)
variable {H H' H1 : Hp} {H0 : B0} {A A' Z : Addr → Prop} {σ σ' : L2.St} {ρ ρ' : PEnv} {X : Cx} {K : PySem.W.Frag} {Wf : XW} {α β γ δ : Type}
variable {C : List T} {call : Nat → List T → CRes} {pos : Pos}
theorem const_pe {c : Const} {j : Nat} {p : Pos} {t : T} (h : constT c t = true) : ∃ v, PE X (.Constant c j p) (tC v) ∧ ∀ (H : Hp) (A : Addr → Prop), Rep K H A v t := by
  cases t <;> first | (cases h; done) | skip
  · cases c <;> first | (cases h; done) | skip
    have e := of_decide_eq_true h
    subst e
    exact ⟨_, pe_int, fun _ _ => .int _⟩
  · cases c <;> first | (cases h; done) | skip
    rename_i s y
    have e : y.cps.toList = s := of_decide_eq_true h
    subst e
    exact ⟨_, pe_str, fun _ _ => .str y⟩
theorem dlt_pairs : ∀ {ks : List (Option Expr)} {vs : List Expr} {kvs : List (W × T)}, chkPairs ks vs kvs = true →
    ∃ (trs : List (TE × TE)) (ms : List (Key × V)), PPs X pos ks vs trs ∧ ks.all (·.isSome) = true ∧ ks.length = vs.length ∧ ks.length = kvs.length ∧ ms.length = kvs.length ∧ ms.map (fun m => kT m.1) = kvs.map (fun p => T.str p.1) ∧
      (∀ (H : Hp) (A : Addr → Prop), RepK K H A ms (kvs.map fun p => (.str p.1, p.2))) ∧ ∀ (σ : L2.St) (H : Hp) (Q : List (V × V) → Hp → Prop), Q (ms.map fun m => (kV m.1, m.2)) H → tPairs trs σ H Q
  | [], [], [], _ => ⟨[], [], pps_nil, rfl, rfl, rfl, rfl, rfl, fun _ _ => .nil, fun _ _ _ h => h⟩
  | [], [], _ :: _, h => by cases h
  | [], _ :: _, _, h => by simp [chkPairs] at h
  | _ :: _, [], _, h => by simp [chkPairs] at h
  | _ :: _, _ :: _, [], h => by simp [chkPairs] at h
  | k :: ks, v :: vs, p :: kvs, h => by
    simp only [chkPairs, Bool.and_eq_true] at h
    obtain ⟨h1, h2⟩ := h
    obtain ⟨trs, ms, g1, g2, g3, g4, g5, g6, g7, g8⟩ := dlt_pairs h2
    unfold chkPair at h1
    split at h1
    · rename_i y j q c j2 q2
      simp only [Bool.and_eq_true, decide_eq_true_eq] at h1
      obtain ⟨e1, e2⟩ := h1
      obtain ⟨u, f1, f2⟩ := const_pe (X := X) (K := K) (j := j2) (p := q2) e2
      refine ⟨(tC (.str y), tC u) :: trs, (.inr y, u) :: ms, pps_cons pe_str f1 g1, by simpa using g2, by simp [g3], by simp [g4], by simp [g5], ?_, fun H A => ?_, fun σ H Q hq => ?_⟩
      · show kT (.inr y) :: ms.map (fun m => kT m.1) = _
        rw [g6]
        show T.str y.cps.toList :: _ = _
        rw [e1]
        rfl
      · have := RepK.cons (k := .inr y) (f2 H A) (g7 H A)
        simp only [kT, e1] at this
        simpa using this
      · exact g8 σ H _ hq
    · cases h1
theorem merge_new : ∀ (more acc : List (Key × V)), ((acc ++ more).map (·.1)).Nodup → mergeK acc more = acc ++ more
  | [], acc, _ => by simp [mergeK]
  | m :: more, acc, h => by
    have hn : valV acc m.1 = none := by
      cases e : valV acc m.1 with
      | none => rfl
      | some v =>
        have ha := valV_any m.1 acc
        rw [e] at ha
        simp only [Option.isSome_some, List.any_eq_true, decide_eq_true_eq] at ha
        obtain ⟨q, hq, e2⟩ := ha
        rw [List.map_append, List.nodup_append] at h
        exact absurd e2 (h.2.2 q.1 (List.mem_map_of_mem hq) m.1 (by simp))
    show mergeK (putK acc m.1 m.2) more = _
    rw [putK_new m.2 hn, merge_new more (acc ++ [(m.1, m.2)]) (by simpa using h)]
    simp
theorem se_dlt {ks : List (Option Expr)} {vs : List Expr} {kvs : List (W × T)} (h1 : chkPairs ks vs kvs = true) (h2 : (kvs.map (·.1)).Nodup) (h3 : kvs.length ≤ 15) (h4 : kvs.isEmpty = false) : SE X H0 Wf (.Dict ks vs pos) (Py.go C call (.dlt kvs)).1 := by
  obtain ⟨trs, ms, g1, g2, g3, g4, g5, g6, g7, g8⟩ := dlt_pairs (X := X) (K := X.K) (pos := pos) h1
  have hne : ks ≠ [] := fun z => by
    subst z
    cases kvs with
    | nil => cases h4
    | cons _ _ => simp at g4
  refine ⟨_, pe_disp g1 g2 g3 hne (by rw [g4]; exact h3), fun σ H Q ρ Z s h => fun p hp => g8 σ _ _ ⟨upd_same, ms, rfl, by rw [g5]; exact h3, ?_⟩⟩
  have nd : (ms.map (·.1)).Nodup := by
    have e : (ms.map (·.1)).map kT = kvs.map fun p => T.str p.1 := by
      rw [List.map_map]
      exact g6
    have e2 : (kvs.map fun p => T.str p.1).Nodup := by
      have : (kvs.map fun p => T.str p.1) = (kvs.map (·.1)).map T.str := by simp
      rw [this]
      exact List.Pairwise.map T.str (fun a b hab => fun z => hab (T.str.inj z)) h2
    rw [← e] at e2
    exact (List.pairwise_map.mp e2).imp fun hab z => hab (by rw [z])
  have em : mergeK [] ms = ms := by
    have := merge_new ms [] (by simpa using nd)
    simpa using this
  have h : PostE X.K H0 Wf Z σ H ρ (.ok (.new (.dct true (kvs.map fun p => (.str p.1, p.2))), ρ)) Q := by
    have e : (Py.go C call (.dlt kvs)).1 ρ = .ok (.new (.dct true (kvs.map fun p => (.str p.1, p.2))), ρ) := by rw [Py.go]; rfl
    rw [← e]
    exact h
  rw [em]
  refine op_post s h rfl _ _ (fun a o e => ?_) hp ⟨ms, upd_same, g7 _ _⟩
  have ne : a ≠ p := fun z => by
    subst z
    rw [hp] at e
    cases e
  rw [upd_ne ne, upd_ne ne]
  exact e
end Sd
set_option Elab.async false
set_option linter.all false
set_option autoImplicit false
set_option maxRecDepth 100000
namespace Sd
open PySem PySem.Spec PyProof.Rows L2
open Py (T Sl R Res CRes SRes Ex Stm W Tg)
def spK (K : PySem.W.Frag) (xa : Nat → Addr) (np : Nat) (F : List T → CRes) : Kd → Sp
  | .mv m => spF K xa m np F
  | .ref => spR K F
def FnR (I : PI) (xa : Nat → Addr) (P : Program) (w : World) (K : PySem.W.Frag) (mg : Str → Option Value) (base : Heap) (k f : Nat) (x : Str) (np : Nat) (kd : Kd) : Prop :=
  ∃ fa fd ps, FnOk P w K mg base (L2.CX P w) k fa fd ps (spK K xa np (Py.callF I.P k f) kd) ∧ mg x = some (.ref fa) ∧ PySem.W.keepIn K (.ref fa) = true ∧ Binds K fd ps []
structure FX (I : PI) (xa : Nat → Addr) (k : Nat) (X : Cx) (N : List Str) (sc : Scope) (fnb : Str → Bool) (cm : Bool) (Wf : XW) : Prop where
  hN : X.N = N
  nd : N.Nodup
  hsc : X.env.scope = sc
  hfn : ∀ x, fnb x = true → X.fn x = true
  hu : X.A.units + 65 < cLine
  con : ∀ (j : Nat) (x : Str), I.cnm[j]? = some x → ∃ u v t, X.mg x = some u ∧ RelV v u ∧ I.P.C[j]? = some t ∧ ∀ (H : Hp) (A : Addr → Prop), Rep X.K H A v t
  bl : ∀ x ∈ I.blt, X.mg x = none
  calm : cm = true → X.calm = true ∧ Room k X.A
  fns : cm = true → ∀ (f : Nat) (x : Str) (np : Nat) (kd : Kd), I.fnm[f]? = some x → I.fnp[f]? = some np → I.kd[f]? = some kd → FnR I xa X.prog X.w X.K X.mg X.base k f x np kd
  tk : Takes X (WOf xa Wf)
variable {I : PI} {xa : Nat → Addr} {k : Nat} {X : Cx} {N : List Str} {sc : Scope} {fnb : Str → Bool} {cm : Bool} {Wf : XW} {H0 : B0}
theorem takes_no {X : Cx} : Takes X (WOf xa NoW) := fun u s' ⟨a, B, sI, pins, σ, H, cls, d, e, I, nb, up, sky, na, os, ag, w⟩ => by
  obtain ⟨_, _, _, z⟩ := w
  exact z.elim
theorem FX.blk (f : FX I xa k X N sc fnb cm Wf) (scope : Scope) (i : Shared × Hp × Addr × List (Str × Addr) × List Addr) : FX I xa k (Bk X scope i) N (relS scope sc) (fun y => decide (scope.names.lookup y = some .cell)) cm NoW where
  hN := f.hN
  nd := f.nd
  hsc := by
    rw [← f.hsc]
    rfl
  hfn := fun x h => by
    have h : scope.names.lookup x = some .cell := of_decide_eq_true h
    show (scope.names.lookup x == some .cell) = true
    rw [h]
    rfl
  hu := f.hu
  con := f.con
  bl := f.bl
  calm := f.calm
  fns := f.fns
  tk := takes_no
theorem FX.gl (f : FX I xa k X N sc fnb cm Wf) {x : Str} (h : glb sc x = true) : Gl X x := by
  have h : sc.names.lookup x = some .globalImplicit := of_decide_eq_true h
  show X.env.scope.names.lookup x = _
  rw [f.hsc]
  exact h
theorem FX.vis (f : FX I xa k X N sc fnb cm Wf) {x : Str} (h : visS sc x = true) : Vis X.env.scope x := by
  rw [f.hsc]
  unfold visS at h
  simp only [Bool.or_eq_true, decide_eq_true_eq] at h
  rcases h with (h | h) | h
  · exact .inl h
  · exact .inr (.inl h)
  · exact .inr (.inr h)
theorem FX.loc (f : FX I xa k X N sc fnb cm Wf) {x : Str} (h : locS sc x = true) : Loc X.env.scope x := by
  rw [f.hsc]
  unfold locS at h
  simp only [Bool.or_eq_true, decide_eq_true_eq] at h
  exact h
theorem okN_of {x : Str} (h : okN x = true) : (x == ("__debug__" : Str)) = false ∧ (x == ("__classdict__" : Str)) = false ∧ x ≠ "__name__" := by
  unfold okN at h
  simp only [Bool.and_eq_true, Bool.not_eq_true', decide_eq_false_iff_not] at h
  exact ⟨h.1.1, h.1.2, h.2⟩
theorem FX.blt (f : FX I xa k X N sc fnb cm Wf) {x : Str} (h : bltB I sc x = true) : Gl X x ∧ X.mg x = none ∧ (x == ("__debug__" : Str)) = false ∧ x ≠ "__name__" := by
  unfold bltB at h
  simp only [Bool.and_eq_true, decide_eq_true_eq] at h
  obtain ⟨⟨h1, h2⟩, h3⟩ := h
  exact ⟨f.gl h1, f.bl x h3, (okN_of h2).1, (okN_of h2).2.2⟩
theorem chkNm_ok (f : FX I xa k X N sc fnb cm Wf) {e : Expr} {i : Nat} (h : chkNm fnb sc N e i = true) : ∃ y p, e = .Name y p ∧ X.N[i]? = some y ∧ Loc X.env.scope y ∧ (X.fn y = true ∨ X.env.scope.names.lookup y = some .local) := by
  unfold chkNm at h
  split at h
  · rename_i y p
    simp only [Bool.and_eq_true, Bool.or_eq_true, decide_eq_true_eq] at h
    obtain ⟨⟨h1, h2⟩, h3⟩ := h
    refine ⟨y, p, rfl, by rw [f.hN]; exact h1, f.loc h2, h3.elim (fun z => .inl (f.hfn y z)) fun z => .inr ?_⟩
    rw [f.hsc]
    exact z
  · cases h
theorem many_ok (f : FX I xa k X N sc fnb cm Wf) : ∀ {es : List Expr} {is : List Nat}, all2 (chkNm fnb sc N) es is = true →
    ∃ ns : List Str, es.map nameOf = ns.map some ∧ is.map (fun i => X.N[i]?) = ns.map some ∧ (∀ n ∈ ns, Loc X.env.scope n) ∧ ∀ n ∈ ns, X.fn n = true ∨ X.env.scope.names.lookup n = some .local
  | [], [], _ => ⟨[], rfl, rfl, fun _ z => by simp at z, fun _ z => by simp at z⟩
  | [], _ :: _, h => by cases h
  | _ :: _, [], h => by cases h
  | e :: es, i :: is, h => by
    simp only [all2, Bool.and_eq_true] at h
    obtain ⟨y, p, rfl, h1, h2, h3⟩ := chkNm_ok f h.1
    obtain ⟨ns, g1, g2, g3, g4⟩ := many_ok f h.2
    refine ⟨y :: ns, by simp [nameOf, g1], by simp [h1, g2], fun n hn => ?_, fun n hn => ?_⟩
    · rcases List.mem_cons.mp hn with rfl | hn
      · exact h2
      · exact g3 n hn
    · rcases List.mem_cons.mp hn with rfl | hn
      · exact h3
      · exact g4 n hn
def Fr (I : PI) (H0 : B0) : Prop := ∀ (i : Nat) (v : V), H0.fx i = some v → i ∈ I.F
theorem Fr.at {is : List Nat} (hF : Fr I H0) (h : okF I is = true) : ∀ i ∈ is, H0.fx i = none := fun i hi => by
  cases e : H0.fx i with
  | none => rfl
  | some v =>
    have := hF i v e
    unfold okF at h
    rw [List.all_eq_true] at h
    have := h i hi
    simp_all
theorem Fr.of {G : B0} (hF : Fr I H0) (h : G.fx = H0.fx) : Fr I G := fun i v e => hF i v (h ▸ e)
theorem chkTg_ok (f : FX I xa k X N sc fnb cm Wf) (hF : Fr I H0) (hc : X.calm = true) {te : Expr} {tg : Tg} (h : chkTg I fnb sc N te tg = true) : SG X H0 te tg := by
  cases tg with
  | one i =>
    replace h : (okF I [i] && chkNm fnb sc N te i) = true := h
    rw [Bool.and_eq_true] at h
    obtain ⟨y, p, rfl, h1, h2, h3⟩ := chkNm_ok f h.2
    exact sg_one (hF.at h.1 i (List.mem_cons_self ..)) (by rw [f.hN]; exact f.nd) h1 h2 h3
  | many is =>
    cases te <;> first | (have q : (okF I is && false) = true := h; simp at q; done) | skip
    · rename_i es kk pt
      replace h : (okF I is && all2 (chkNm fnb sc N) es is) = true := h
      rw [Bool.and_eq_true] at h
      · obtain ⟨ns, g1, g2, g3, g4⟩ := many_ok f h.2
        exact sg_many (hF.at h.1) hc (by rw [f.hN]; exact f.nd) g1 g2 g3 g4
theorem fold_no {e : Expr} (h : notSet e = true) (env : Env) (x : Value) : foldedSetIterable e env x = pure x := by
  cases e <;> first | rfl | (cases h)
theorem base_no {e : Expr} {m : Str} {env : Env} (h : baseE e = true) : attributeBase e m env (eval e env) = eval e env := by
  cases e <;> first | rfl | skip
  rename_i f es kw p
  cases es <;> cases kw <;> first | (cases h; done) | skip
  all_goals (cases f <;> rfl)
theorem noif {e : Expr} {m : PEnv → Res (R × PEnv)} (h : SE X H0 Wf e m) (he : ∀ whole, isTrue e X.env whole = (do let v ← whole; standAt e.pos; holding [v] (truthy v))) : SE X H0 Wf e m ∧ (tstE e = true → STst X H0 Wf e (Py.tru m)) := ⟨h, fun _ => st_truth h he⟩
abbrev GE (I : PI) (k : Nat) (x : Ex) := (Py.go I.P.C (Py.callF I.P k) x)
def EOk (I : PI) (k : Nat) (X : Cx) (H0 : B0) (Wf : XW) (e : Expr) (x : Ex) : Prop := SE X H0 Wf e (GE I k x).1 ∧ (tstE e = true → STst X H0 Wf e (GE I k x).2)
theorem sl_all {ck : Expr → Ex → Bool} (h : ∀ e x, ck e x = true → SE X H0 Wf e (GE I k x).1) : ∀ {es : List Expr} {xs : List Ex}, es.all plainE = true → all2 ck es xs = true → SL X H0 Wf es (Py.goS I.P.C (Py.callF I.P k) xs).1
  | [], [], _, _ => sl_nil
  | [], _ :: _, _, h => by cases h
  | _ :: _, [], _, h => by cases h
  | e :: es, x :: xs, hp, ha => by
    simp only [all2, List.all_cons, Bool.and_eq_true] at hp ha
    exact sl_cons hp.1 (h _ _ ha.1) (sl_all h hp.2 ha.2)
theorem srs_all {ck : Expr → Ex → Bool} (h : ∀ e x, ck e x = true → SE X H0 Wf e (GE I k x).1) : ∀ {es : List Expr} {xs : List Ex}, es.all plainE = true → all2 ck es xs = true → SRs X H0 Wf es (Py.goS I.P.C (Py.callF I.P k) xs).2
  | [], [], _, _ => srs_nil
  | [], _ :: _, _, h => by cases h
  | _ :: _, [], _, h => by cases h
  | e :: es, x :: xs, hp, ha => by
    simp only [all2, List.all_cons, Bool.and_eq_true] at hp ha
    exact srs_cons hp.1 (h _ _ ha.1) (srs_all h hp.2 ha.2)
theorem chkIt_ok (f : FX I xa k X N sc fnb cm Wf) {ck : Expr → Ex → Bool} (hck : ∀ e x, ck e x = true → SE X H0 Wf e (GE I k x).1) {tg iter : Expr} {kk : Py.It} {ie : List Ex} (h : chkIt ck (bltB I sc) tg iter kk ie = true) :
    SI X H0 Wf tg iter kk (Py.goS I.P.C (Py.callF I.P k) ie).1 := by
  unfold chkIt at h
  split at h
  · split at h
    · exact si_seq (hck _ _ h)
    · cases h
  · split at h
    · simp only [Bool.and_eq_true, decide_eq_true_eq] at h
      obtain ⟨⟨⟨rfl, h1⟩, h2⟩, h3⟩ := h
      obtain ⟨g1, g2, _⟩ := f.blt h1
      exact si_rng1 g1 g2 h2 (hck _ _ h3)
    · cases h
  · split at h
    · simp only [Bool.and_eq_true, decide_eq_true_eq] at h
      obtain ⟨⟨⟨⟨⟨rfl, h1⟩, h2⟩, h3⟩, h4⟩, h5⟩ := h
      obtain ⟨g1, g2, _⟩ := f.blt h1
      exact si_rng2 g1 g2 h2 h3 (hck _ _ h4) (hck _ _ h5)
    · cases h
  · split at h
    · simp only [Bool.and_eq_true, decide_eq_true_eq] at h
      obtain ⟨⟨⟨⟨rfl, h1⟩, h2⟩, h3⟩, h4⟩ := h
      obtain ⟨g1, g2, _⟩ := f.blt h1
      cases tg <;> first | (cases h3; done) | skip
      exact si_enm g1 g2 h2 (hck _ _ h4)
    · cases h
theorem pw_of_and {o : BoolOp} {es : List Expr} {p : Pos} {t : TT} (h : PT X (.BoolOp o es p) t) : PW X (.BoolOp o es p) t := ⟨fun wh pins s σ H Q I q => by
  have e := h.run pins s σ H Q I q
  rw [PySem.isTrue] at e ⊢
  exact e⟩
theorem se_one {op : BoolOp} {a : Expr} {m : PEnv → Res (R × PEnv)} {p : Pos} (h : SE X H0 Wf a m) : SE X H0 Wf (.BoolOp op [a] p) m := by
  obtain ⟨t, pt, st⟩ := h
  exact ⟨t, pe_one pt, st⟩
theorem bool_and {a b : Expr} {rest : List Expr} {p : Pos} {xa' xb : Ex} (ha : EOk I k X H0 Wf a xa') (ta : tstE a = true) (hb : EOk I k X H0 Wf (.BoolOp .And (b :: rest) p) xb) : EOk I k X H0 Wf (.BoolOp .And (a :: b :: rest) p) (.and2 xa' xb) := by
  refine ⟨?_, fun _ => ?_⟩
  · obtain ⟨t, pt, st⟩ := ha.1
    obtain ⟨u, pu, su⟩ := hb.1
    exact ⟨_, pe_andT pt pu, and_sim st su⟩
  · obtain ⟨t, pt, st⟩ := ha.2 ta
    obtain ⟨u, pu, su⟩ := hb.2 rfl
    exact ⟨_, (pw_and pt (pw_of_and pu)).pt, andt_sim st su⟩
theorem bool_or {a b : Expr} {rest : List Expr} {p : Pos} {xa' xb : Ex} (ha : EOk I k X H0 Wf a xa') (ta : tstE a = true) (hb : EOk I k X H0 Wf (.BoolOp .Or (b :: rest) p) xb) : EOk I k X H0 Wf (.BoolOp .Or (a :: b :: rest) p) (.or2 xa' xb) := by
  refine ⟨?_, fun _ => ?_⟩
  · obtain ⟨t, pt, st⟩ := ha.1
    obtain ⟨u, pu, su⟩ := hb.1
    exact ⟨_, pe_orT pt pu, or_sim st su⟩
  · obtain ⟨t, pt, st⟩ := ha.2 ta
    obtain ⟨u, pu, su⟩ := hb.2 rfl
    exact ⟨_, (pw_or pt (pw_of_and pu)).pt, ort_sim st su⟩
theorem one_and {b : Expr} {p : Pos} {x : Ex} (hb : EOk I k X H0 Wf b x) (tb : tstE b = true) : EOk I k X H0 Wf (.BoolOp .And [b] p) x := ⟨se_one hb.1, fun _ => by
  obtain ⟨t, pt, st⟩ := hb.2 tb
  exact ⟨t, (pw_and1 pt).pt, st⟩⟩
theorem one_or {b : Expr} {p : Pos} {x : Ex} (hb : EOk I k X H0 Wf b x) (tb : tstE b = true) : EOk I k X H0 Wf (.BoolOp .Or [b] p) x := ⟨se_one hb.1, fun _ => by
  obtain ⟨t, pt, st⟩ := hb.2 tb
  exact ⟨t, (pw_or1 pt).pt, st⟩⟩
end Sd
set_option Elab.async false
set_option linter.all false
set_option autoImplicit false
set_option maxRecDepth 100000
namespace Sd
open PySem PySem.Spec PyProof.Rows L2
open Py (T Sl R Res CRes SRes Ex Stm W Tg)
variable {I : PI} {xa : Nat → Addr} {k : Nat} {X : Cx} {N : List Str} {sc : Scope} {fnb : Str → Bool} {cm : Bool} {Wf : XW} {H0 : B0}
theorem b1_ok {X : Cx} (hc : X.calm = true) {op : Py.B1} {y : Str} (h : b1nm op = some y) : (∃ id, bootBuiltins y = some (.builtin id) ∧ CallOk X (.builtin id) (Py.b1T op)) ∨ (∃ id, bootBuiltins y = some (.type id) ∧ CallOk X (.type id) (Py.b1T op)) := by
  cases op <;> first | (cases h; done) | skip
  · cases h
    exact .inl ⟨"len", by decide +kernel, call_len_ok⟩
  · cases h
    exact .inr ⟨"tuple", by decide +kernel, call_tuple_ok⟩
  · cases h
    exact .inr ⟨"list", by decide +kernel, call_list_ok⟩
  · cases h
    exact .inr ⟨"dict", by decide +kernel, call_dict_ok hc⟩
  · cases h
    exact .inr ⟨"int", by decide +kernel, call_int_ok⟩
  · cases h
    exact .inl ⟨"sum", by decide +kernel, call_sum_ok hc⟩
  · cases h
    exact .inl ⟨"sorted", by decide +kernel, call_sorted_ok⟩
def ChkOk (I : PI) (xa : Nat → Addr) (k : Nat) (N : List Str) (cm : Bool) (n : Nat) : Prop :=
  ∀ {X : Cx} {sc : Scope} {fnb : Str → Bool} {Wf : XW} {H0 : B0} {e : Expr} {x : Ex}, FX I xa k X N sc fnb cm Wf → Fr I H0 → chk I N cm n sc e x = true → EOk I k X H0 Wf e x
theorem nof {b : Bool} {P : Prop} (h : b = true) (e : b = false) : P := by
  rw [e] at h
  cases h
theorem const_ok {c : Const} {j : Nat} {p : Pos} {x : Ex} (h : constB c x = true) : EOk I k X H0 Wf (.Constant c j p) x := by
  cases x <;> first | (cases c <;> (cases h; done)) | skip
  · rename_i i
    cases c <;> first | (cases h; done) | skip
    have e := of_decide_eq_true h
    subst e
    exact noif ⟨_, pe_int, sim_const (fun _ _ => .int _) fun _ => rfl⟩ fun _ => rfl
  · rename_i s
    cases c <;> first | (cases h; done) | skip
    rename_i y
    have e : y.cps.toList = s := of_decide_eq_true h
    subst e
    exact noif ⟨_, pe_str, sim_const (fun _ _ => .str y) fun _ => rfl⟩ fun _ => rfl
  · rename_i b
    cases c <;> first | (cases h; done) | skip
    rename_i d
    have e : b = d := eq_of_beq h
    subst e
    exact noif ⟨_, pe_bl, sim_const (fun _ _ => .bl b) fun _ => rfl⟩ fun _ => rfl
  · cases c <;> first | (cases h; done) | skip
    exact noif ⟨_, pe_non, sim_const (fun _ _ => .non) fun _ => rfl⟩ fun _ => rfl
section
variable {n : Nat} (ih : ChkOk I xa k N cm n) (f : FX I xa k X N sc fnb cm Wf) (hF : Fr I H0)
include ih f hF
theorem c_name {y : Str} {p : Pos} {x : Ex} (h : chk I N cm (n + 1) sc (.Name y p) x = true) : EOk I k X H0 Wf (.Name y p) x := by
  cases x <;> first | exact nof h rfl | skip
  · rename_i i
    have h : (decide (N[i]? = some y) && visS sc y && okN y) = true := h
    simp only [Bool.and_eq_true, decide_eq_true_eq] at h
    obtain ⟨⟨h1, h2⟩, h3⟩ := h
    exact noif (se_loc (by rw [f.hN]; exact h1) (f.vis h2) (okN_of h3).1 (okN_of h3).2.1) fun _ => rfl
  · rename_i j
    have h : (decide (I.cnm[j]? = some y) && glb sc y && okN y) = true := h
    simp only [Bool.and_eq_true, decide_eq_true_eq] at h
    obtain ⟨⟨h1, h2⟩, h3⟩ := h
    obtain ⟨u, v, t, g1, g2, g3, g4⟩ := f.con j y h1
    exact noif (se_gl (f.gl h2) g1 g2 (okN_of h3).1 g3 g4) fun _ => rfl
theorem c_tup {es : List Expr} {j : Nat} {p : Pos} {x : Ex} (h : chk I N cm (n + 1) sc (.Tuple es j p) x = true) : EOk I k X H0 Wf (.Tuple es j p) x := by
  cases x <;> first | exact nof h rfl | skip
  rename_i xs
  have h : (decide (xs.length ≤ 1000) && es.all plainE && all2 (chk I N cm n sc) es xs) = true := h
  simp only [Bool.and_eq_true, decide_eq_true_eq] at h
  obtain ⟨⟨h1, h2⟩, h3⟩ := h
  exact noif (se_tup h1 (sl_all (fun e x hh => (ih f hF hh).1) h2 h3)) fun _ => rfl
theorem c_lst {es : List Expr} {p : Pos} {x : Ex} (h : chk I N cm (n + 1) sc (.List es p) x = true) : EOk I k X H0 Wf (.List es p) x := by
  cases x <;> first | exact nof h rfl | skip
  rename_i xs
  have h : (decide (xs.length ≤ 1000) && es.all plainE && all2 (chk I N cm n sc) es xs) = true := h
  simp only [Bool.and_eq_true, decide_eq_true_eq] at h
  obtain ⟨⟨h1, h2⟩, h3⟩ := h
  exact noif (se_lst h1 (sl_all (fun e x hh => (ih f hF hh).1) h2 h3)) fun _ => rfl
theorem c_dict {ks : List (Option Expr)} {vs : List Expr} {p : Pos} {x : Ex} (h : chk I N cm (n + 1) sc (.Dict ks vs p) x = true) : EOk I k X H0 Wf (.Dict ks vs p) x := by
  cases x <;> first | exact nof h rfl | skip
  · cases ks <;> cases vs <;> first | exact nof h rfl | skip
    exact noif se_dnw fun _ => rfl
  · rename_i kvs
    have h : (chkPairs ks vs kvs && decide ((kvs.map (·.1)).Nodup) && decide (kvs.length ≤ 15) && !kvs.isEmpty) = true := h
    simp only [Bool.and_eq_true, decide_eq_true_eq, Bool.not_eq_true'] at h
    obtain ⟨⟨⟨h1, h2⟩, h3⟩, h4⟩ := h
    exact noif (se_dlt h1 h2 h3 h4) fun _ => rfl
theorem c_bin {a b : Expr} {o : Operator} {p : Pos} {x : Ex} (h : chk I N cm (n + 1) sc (.BinOp a o b p) x = true) : EOk I k X H0 Wf (.BinOp a o b p) x := by
  cases x <;> first | exact nof h rfl | skip
  rename_i op ea eb
  have h : (decide (o = opOf op) && chk I N cm n sc a ea && chk I N cm n sc b eb) = true := h
  simp only [Bool.and_eq_true, decide_eq_true_eq] at h
  obtain ⟨⟨rfl, h2⟩, h3⟩ := h
  exact noif (se_bin (ih f hF h2).1 (ih f hF h3).1) fun _ => rfl
theorem c_un {a : Expr} {o : UnaryOp} {p : Pos} {x : Ex} (h : chk I N cm (n + 1) sc (.UnaryOp o a p) x = true) : EOk I k X H0 Wf (.UnaryOp o a p) x := by
  cases x <;> first | exact nof h rfl | skip
  · rename_i ea
    have h : (decide (o = .USub) && chk I N cm n sc a ea) = true := h
    simp only [Bool.and_eq_true, decide_eq_true_eq] at h
    obtain ⟨rfl, h2⟩ := h
    exact noif (se_neg (ih f hF h2).1) fun _ => rfl
  · rename_i ea
    have h : (decide (o = .Not) && tstE a && chk I N cm n sc a ea) = true := h
    simp only [Bool.and_eq_true, decide_eq_true_eq] at h
    obtain ⟨⟨rfl, h1⟩, h2⟩ := h
    exact ⟨se_nt (ih f hF h2).1, fun _ => st_nt ((ih f hF h2).2 h1)⟩
theorem c_bool {es : List Expr} {o : BoolOp} {p : Pos} {x : Ex} (h : chk I N cm (n + 1) sc (.BoolOp o es p) x = true) : EOk I k X H0 Wf (.BoolOp o es p) x := by
  cases es with
  | nil => exact nof h rfl
  | cons a r =>
    cases r with
    | nil => exact nof h rfl
    | cons b rest =>
      cases x <;> first | exact nof h rfl | skip
      · rename_i ea eb
        have h : (decide (o = .And) && tstE a && tstE b && chk I N cm n sc a ea && (if rest.isEmpty then chk I N cm n sc b eb else chk I N cm n sc (.BoolOp o (b :: rest) p) eb)) = true := h
        simp only [Bool.and_eq_true, decide_eq_true_eq] at h
        obtain ⟨⟨⟨⟨rfl, h1⟩, h2⟩, h3⟩, h4⟩ := h
        refine bool_and (ih f hF h3) h1 ?_
        cases rest with
        | nil => exact one_and (ih f hF h4) h2
        | cons c r => exact ih f hF h4
      · rename_i ea eb
        have h : (decide (o = .Or) && tstE a && tstE b && chk I N cm n sc a ea && (if rest.isEmpty then chk I N cm n sc b eb else chk I N cm n sc (.BoolOp o (b :: rest) p) eb)) = true := h
        simp only [Bool.and_eq_true, decide_eq_true_eq] at h
        obtain ⟨⟨⟨⟨rfl, h1⟩, h2⟩, h3⟩, h4⟩ := h
        refine bool_or (ih f hF h3) h1 ?_
        cases rest with
        | nil => exact one_or (ih f hF h4) h2
        | cons c r => exact ih f hF h4
theorem c_cmp {a : Expr} {os : List CmpOp} {bs : List Expr} {p : Pos} {x : Ex} (h : chk I N cm (n + 1) sc (.Compare a os bs p) x = true) : EOk I k X H0 Wf (.Compare a os bs p) x := by
  cases x <;> first | exact nof h rfl | skip
  · rename_i op ea eb
    match os, bs, h with
    | [o], [b], h =>
      have h : (decide (o = copOf op) && !behindInMarks o b && chk I N cm n sc a ea && chk I N cm n sc b eb) = true := h
      simp only [Bool.and_eq_true, decide_eq_true_eq, Bool.not_eq_true'] at h
      obtain ⟨⟨⟨rfl, h1⟩, h2⟩, h3⟩ := h
      exact ⟨se_cmp f.hu (ih f hF h2).1 (ih f hF h3).1 h1, fun _ => st_cmp f.hu (ih f hF h2).1 (ih f hF h3).1 h1⟩
    | [], _, h => exact nof h rfl
    | _ :: _ :: _, _, h => exact nof h rfl
    | [_], [], h => exact nof h rfl
    | [_], _ :: _ :: _, h => exact nof h rfl
  · rename_i ng ea
    match os, bs, h with
    | [o], [b], h =>
      cases b <;> first | exact nof h rfl | skip
      rename_i c j p2
      cases c <;> first | exact nof h rfl | skip
      have h : (decide (o = if ng then .IsNot else .Is) && chk I N cm n sc a ea) = true := h
      simp only [Bool.and_eq_true, decide_eq_true_eq] at h
      obtain ⟨rfl, h2⟩ := h
      exact ⟨se_isn (ih f hF h2).1, fun _ => st_isn (ih f hF h2).1⟩
    | [], _, h => exact nof h rfl
    | _ :: _ :: _, _, h => exact nof h rfl
    | [_], [], h => exact nof h rfl
    | [_], _ :: _ :: _, h => exact nof h rfl
  · rename_i op op' ea eb ec
    match os, bs, h with
    | [o, o'], [b, c], h =>
      have h : (decide (o = copOf op) && decide (o' = copOf op') && !lastMarks [o, o'] [b, c] && chk I N cm n sc a ea && chk I N cm n sc b eb && chk I N cm n sc c ec) = true := h
      simp only [Bool.and_eq_true, decide_eq_true_eq, Bool.not_eq_true'] at h
      obtain ⟨⟨⟨⟨⟨rfl, rfl⟩, h1⟩, h2⟩, h3⟩, h4⟩ := h
      exact ⟨se_chn f.hu (ih f hF h2).1 (ih f hF h3).1 (ih f hF h4).1 h1, fun _ => st_chn f.hu (ih f hF h2).1 (ih f hF h3).1 (ih f hF h4).1 h1⟩
    | [], _, h => exact nof h rfl
    | [_], _, h => exact nof h rfl
    | _ :: _ :: _ :: _, _, h => exact nof h rfl
    | [_, _], [], h => exact nof h rfl
    | [_, _], [_], h => exact nof h rfl
    | [_, _], _ :: _ :: _ :: _, h => exact nof h rfl
theorem c_if {c a b : Expr} {p : Pos} {x : Ex} (h : chk I N cm (n + 1) sc (.IfExp c a b p) x = true) : EOk I k X H0 Wf (.IfExp c a b p) x := by
  cases x <;> first | exact nof h rfl | skip
  rename_i ec ea eb
  have h : (tstE c && chk I N cm n sc c ec && chk I N cm n sc a ea && chk I N cm n sc b eb) = true := h
  simp only [Bool.and_eq_true] at h
  obtain ⟨⟨⟨h1, h2⟩, h3⟩, h4⟩ := h
  exact ⟨se_ife ((ih f hF h2).2 h1) (ih f hF h3).1 (ih f hF h4).1, fun z => by cases z⟩
theorem part_ok {lo : Option Expr} {xl : Ex} (h : chkPart (chk I N cm n sc) lo xl = true) : SPo X H0 Wf lo (Py.part (Py.isNonE xl) (GE I k xl).1) := by
  cases lo with
  | none =>
    have h : Py.isNonE xl = true := h
    rw [h]
    exact spo_none
  | some l =>
    have h : (!Py.isNonE xl && chk I N cm n sc l xl) = true := h
    simp only [Bool.and_eq_true, Bool.not_eq_true'] at h
    rw [h.1]
    exact spo_some (ih f hF h.2).1
theorem c_sub {a b : Expr} {p : Pos} {x : Ex} (h : chk I N cm (n + 1) sc (.Subscript a b p) x = true) : EOk I k X H0 Wf (.Subscript a b p) x := by
  cases x <;> first | exact nof h rfl | skip
  · rename_i ea eb
    have h : (notSl b && chk I N cm n sc a ea && chk I N cm n sc b eb) = true := h
    simp only [Bool.and_eq_true] at h
    obtain ⟨⟨h1, h2⟩, h3⟩ := h
    refine noif (se_ix f.hu (ih f hF h2).1 (ih f hF h3).1 fun o i => ?_) fun _ => rfl
    cases b <;> first | rfl | (cases h1)
  · rename_i ea el eh
    cases b <;> first | exact nof h rfl | skip
    rename_i lo hi st p2
    have h : (chk I N cm n sc a ea && chkPart (chk I N cm n sc) lo el && chkPart (chk I N cm n sc) hi eh && st.isNone) = true := h
    simp only [Bool.and_eq_true] at h
    obtain ⟨⟨⟨h1, h2⟩, h3⟩, h4⟩ := h
    cases st with
    | some _ => cases h4
    | none =>
      exact noif (se_slc (ih f hF h1).1 (part_ok ih f hF h2) (part_ok ih f hF h3)) fun _ => rfl
  · rename_i ea
    have h : (chkRev b && chk I N cm n sc a ea) = true := h
    simp only [Bool.and_eq_true] at h
    obtain ⟨h1, h2⟩ := h
    obtain ⟨k, p1, p2, p3, rfl⟩ := rev_shape h1
    exact noif (se_rev (ih f hF h2).1) fun _ => rfl
end
end Sd
set_option Elab.async false
set_option linter.all false
set_option autoImplicit false
set_option maxRecDepth 100000
namespace Sd
open PySem PySem.Spec PyProof.Rows L2
open Py (T Sl R Res CRes SRes Ex Stm W Tg)
variable {I : PI} {xa : Nat → Addr} {k : Nat} {X : Cx} {N : List Str} {sc : Scope} {fnb : Str → Bool} {cm : Bool} {Wf : XW} {H0 : B0}
section
variable {n : Nat} (ih : ChkOk I xa k N cm n) (f : FX I xa k X N sc fnb cm Wf) (hF : Fr I H0)
include ih f hF
theorem c_ifs {ifs : List Expr} {xc : Ex} {scope : Scope} (h : chkIfs (chk I N cm n (relS scope sc)) ifs xc = true) (i : Shared × Hp × Addr × List (Str × Addr) × List Addr) : ∃ t, PTs (Bk X scope i) ifs t ∧ SimT X.K H0 NoW t (GE I k xc).2 := by
  cases ifs with
  | nil =>
    cases xc <;> first | exact nof h rfl | skip
    rename_i b
    replace h : b = true := h
    subst h
    exact ⟨tYes, pts_nil, fun σ H Q ρ Z s h => h true H s Kp.same rfl⟩
  | cons c r =>
    cases r with
    | cons _ _ => exact nof h rfl
    | nil =>
      replace h : (tstE c && chk I N cm n (relS scope sc) c xc) = true := h
      simp only [Bool.and_eq_true] at h
      obtain ⟨t, pt, st⟩ := (ih (f.blk scope i) hF h.2).2 h.1
      exact ⟨t, pts_one pt, st⟩
structure LcOk (X : Cx) (H0 : B0) (Wf : XW) (I : PI) (k : Nat) (te iter : Expr) (ifs : List Expr) (elt : Expr) (scope : Scope) (tg : Tg) (kk : Py.It) (ie : List Ex) (xe xc : Ex) : Prop where
  fx : ∀ i ∈ tg.slots, H0.fx i = none
  calm : X.calm = true
  nd : X.N.Nodup
  hi : SI X H0 Wf te iter kk (Py.goS I.P.C (Py.callF I.P k) ie).1
  ok : BlkOk X.N X.env.scope scope (tg.slots.map fun i => (X.N.getD i "", i))
  hg : ∀ i, ∃ g, PG (Bk X scope i) te g ∧ GSim X.K H0 g tg
  ht : ∀ i, ∃ t, PTs (Bk X scope i) ifs t ∧ SimT X.K H0 NoW t (GE I k xc).2
  he : ∀ i, ∃ t, PE (Bk X scope i) elt t ∧ Sim X.K H0 NoW t (GE I k xe).1
  hs : ∀ x, foldedSetIterable iter X.env x = pure x
omit ih f hF in
theorem tg_okF {te : Expr} {tg : Tg} {sc : Scope} {fnb : Str → Bool} (h : chkTg I fnb sc N te tg = true) : okF I tg.slots = true := by
  cases tg with
  | one i =>
    replace h : (okF I [i] && chkNm fnb sc N te i) = true := h
    rw [Bool.and_eq_true] at h
    exact h.1
  | many is =>
    cases te <;> first | (have q : (okF I is && false) = true := h; simp at q; done) | skip
    rename_i es kk pt
    replace h : (okF I is && all2 (chkNm fnb sc N) es is) = true := h
    rw [Bool.and_eq_true] at h
    exact h.1
theorem lc_parts {te iter : Expr} {ifs : List Expr} {isa : Int} {elt : Expr} {scope : Scope} {p : Pos} {x : Ex} (h : chk I N cm (n + 1) sc (.ListComp elt [⟨te, iter, ifs, isa⟩] scope p) x = true) :
    ∃ xe tg kk ie xc, x = .lc xe tg kk ie xc ∧ isa = 0 ∧ LcOk X H0 Wf I k te iter ifs elt scope tg kk ie xe xc := by
  cases x <;> first | exact nof h rfl | skip
  rename_i xe tg kk ie xc
  have h : (cm && decide (isa = 0) && notSet iter && chkIt (chk I N cm n sc) (bltB I sc) te iter kk ie && blkC N sc scope (tg.slots.map fun i => (N.getD i "", i)) &&
          chkTg I (fun y => decide (scope.names.lookup y = some .cell)) (relS scope sc) N te tg && chk I N cm n (relS scope sc) elt xe &&
          chkIfs (chk I N cm n (relS scope sc)) ifs xc) = true := h
  rw [Bool.and_eq_true] at h
  obtain ⟨h, h8⟩ := h
  simp only [Bool.and_eq_true, decide_eq_true_eq] at h
  obtain ⟨⟨⟨⟨⟨⟨h1, h2⟩, h3⟩, h4⟩, h5⟩, h6⟩, h7⟩ := h
  have hc := (f.calm h1).1
  refine ⟨xe, tg, kk, ie, xc, rfl, h2, hF.at (tg_okF h6), hc, by rw [f.hN]; exact f.nd, chkIt_ok f (fun e x hh => (ih f hF hh).1) h4, ?_, fun i => chkTg_ok (f.blk scope i) hF hc h6, c_ifs ih f hF h8, fun i => (ih (f.blk scope i) hF h7).1, fun x => fold_no h3 _ x⟩
  rw [f.hN, f.hsc]
  exact blkOk_by h5
theorem own_snd (is : List Nat) : (is.map fun i => (X.N.getD i "", i)).map (·.2) = is := by
  rw [List.map_map]
  exact List.map_id' is
theorem c_lc {elt : Expr} {gens : List Comprehension} {scope : Scope} {p : Pos} {x : Ex} (h : chk I N cm (n + 1) sc (.ListComp elt gens scope p) x = true) : EOk I k X H0 Wf (.ListComp elt gens scope p) x := by
  match gens, h with
  | [], h => exact nof h (by cases x <;> rfl)
  | ⟨_, _, _, _⟩ :: _ :: _, h => exact nof h (by cases x <;> rfl)
  | [⟨te, iter, ifs, isa⟩], h =>
    obtain ⟨xe, tg, kk, ie, xc, rfl, rfl, l⟩ := lc_parts (H0 := H0) ih f hF h
    exact noif (se_lc l.fx l.calm l.nd l.hi l.ok (own_snd ih f hF _) l.hg l.ht l.he l.hs) fun _ => rfl
theorem c_callN {y : Str} {p0 : Pos} {es : List Expr} {cpos : Pos} {x : Ex} (h : chk I N cm (n + 1) sc (.Call (.Name y p0) es [] cpos) x = true) : EOk I k X H0 Wf (.Call (.Name y p0) es [] cpos) x := by
  replace h : (true && (okN y && glb sc y && chkCallN I sc (chk I N cm n sc) cm y es x)) = true := h
  rw [Bool.true_and, Bool.and_eq_true, Bool.and_eq_true] at h
  obtain ⟨⟨hok, hgl⟩, h⟩ := h
  have hd := (okN_of hok).1
  have hn := (okN_of hok).2.2
  cases x <;> first | exact nof h rfl | skip
  · rename_i j xs
    have h : (cm && decide (I.fnm[j]? = some y) && decide (I.fnp[j]? = some xs.length) && decide (I.kd[j]? = some (.mv none)) && !es.isEmpty && es.all plainE && all2 (chk I N cm n sc) es xs) = true := h
    simp only [Bool.and_eq_true, decide_eq_true_eq] at h
    obtain ⟨⟨⟨⟨⟨⟨h1, h2⟩, h3⟩, h0⟩, h4⟩, h5⟩, h6⟩ := h
    obtain ⟨fa, fd, ps, g1, g2, g3, g4⟩ := f.fns h1 j y _ _ h2 h3 h0
    cases es with
    | nil => cases h4
    | cons e es => exact noif (se_call g1 (f.calm h1).2 (f.gl hgl) g2 g3 g4 f.tk hd h5 rfl (srs_all (fun e x hh => (ih f hF hh).1) h5 h6)) fun _ => rfl
  · rename_i j i xs
    have h : (cm && decide (I.fnm[j]? = some y) && decide (I.fnp[j]? = some xs.length) && decide (I.kd[j]? = some (.mv (some i))) && !es.isEmpty && es.all plainE && all2 (chk I N cm n sc) es xs) = true := h
    simp only [Bool.and_eq_true, decide_eq_true_eq] at h
    obtain ⟨⟨⟨⟨⟨⟨h1, h2⟩, h3⟩, h0⟩, h4⟩, h5⟩, h6⟩ := h
    obtain ⟨fa, fd, ps, g1, g2, g3, g4⟩ := f.fns h1 j y _ _ h2 h3 h0
    cases es with
    | nil => cases h4
    | cons e es => exact noif (se_callm g1 (f.calm h1).2 (f.gl hgl) g2 g3 g4 f.tk hd h5 rfl (srs_all (fun e x hh => (ih f hF hh).1) h5 h6)) fun _ => rfl
  · rename_i kk ea
    match es, h with
    | [a, b], h =>
      cases b <;> first | exact nof h rfl | skip
      rename_i t p2
      have h : (decide (y = "isinstance") && bltB I sc y && decide (t = Str.ofString (tyName kk)) && bltB I sc t && plainE a && chk I N cm n sc a ea) = true := h
      simp only [Bool.and_eq_true, decide_eq_true_eq] at h
      obtain ⟨⟨⟨⟨⟨rfl, h2⟩, rfl⟩, h4⟩, h5⟩, h6⟩ := h
      obtain ⟨g1, g2, _⟩ := f.blt h2
      obtain ⟨g3, g4, _⟩ := f.blt h4
      exact noif (se_isi g1 g2 g3 g4 h5 (ih f hF h6).1) fun _ => rfl
    | [], h => exact nof h rfl
    | [_], h => exact nof h rfl
    | _ :: b :: _ :: _, h => exact nof h (by cases b <;> rfl)
  · rename_i op ea
    match es, h with
    | [a], h =>
      by_cases hop : op = .sset ∨ op = .lset
      · have aux : ∀ {nm : Str} {q : Bool}, (cm && bltB I sc y && (decide (y = nm) && q)) = true → cm = true ∧ bltB I sc y = true ∧ y = nm ∧ q = true := fun z => by
          simp only [Bool.and_eq_true, decide_eq_true_eq] at z
          exact ⟨z.1.1, z.1.2, z.2.1, z.2.2⟩
        have aux2 : chkSt I sc (chk I N cm n sc) ea a = true → ∃ z p2 b pos2, a = .Call (.Name z p2) [b] [] pos2 ∧ z = "set" ∧ bltB I sc z = true ∧ plainE b = true ∧ chk I N cm n sc b ea = true := fun z => by
          unfold chkSt at z
          split at z
          · simp only [Bool.and_eq_true, decide_eq_true_eq] at z
            exact ⟨_, _, _, _, rfl, z.1.1.1, z.1.1.2, z.1.2, z.2⟩
          · cases z
        rcases hop with rfl | rfl
        · obtain ⟨h1, h2, rfl, h3⟩ := aux h
          obtain ⟨z, p2, b, pos2, rfl, rfl, h4, h5, h6⟩ := aux2 h3
          obtain ⟨g1, g2, _⟩ := f.blt h2
          obtain ⟨g3, g4, _⟩ := f.blt h4
          exact noif (se_sset (f.calm h1).1 g1 g2 g3 g4 h5 (ih f hF h6).1) fun _ => rfl
        · obtain ⟨h1, h2, rfl, h3⟩ := aux h
          obtain ⟨z, p2, b, pos2, rfl, rfl, h4, h5, h6⟩ := aux2 h3
          obtain ⟨g1, g2, _⟩ := f.blt h2
          obtain ⟨g3, g4, _⟩ := f.blt h4
          exact noif (se_lset (f.calm h1).1 g1 g2 g3 g4 h5 (ih f hF h6).1) fun _ => rfl
      · have h' : (cm && bltB I sc y && (decide (b1nm op = some y) && plainE a && chk I N cm n sc a ea)) = true := by
          cases op <;> first | exact h | exact absurd (.inl rfl) hop | exact absurd (.inr rfl) hop
        simp only [Bool.and_eq_true, decide_eq_true_eq] at h'
        obtain ⟨⟨h1, h3⟩, ⟨h2, h4⟩, h5⟩ := h'
        obtain ⟨g1, g2, _⟩ := f.blt h3
        rcases b1_ok (f.calm h1).1 h2 with ⟨id, e1, e2⟩ | ⟨id, e1, e2⟩
        · exact noif (se_callB e2 g1 g2 e1 hn hd h4 (ih f hF h5).1) fun _ => rfl
        · exact noif (se_callTy e2 g1 g2 e1 hn hd h4 (ih f hF h5).1) fun _ => rfl
    | [], h => exact nof h rfl
    | _ :: _ :: _, h => exact nof h rfl
  · rename_i ea eb
    match es, h with
    | [a, b], h =>
      have h : (cm && decide (y = "max") && bltB I sc y && plainE a && plainE b && chk I N cm n sc a ea && chk I N cm n sc b eb) = true := h
      simp only [Bool.and_eq_true, decide_eq_true_eq] at h
      obtain ⟨⟨⟨⟨⟨⟨h1, rfl⟩, h3⟩, h4⟩, h5⟩, h6⟩, h7⟩ := h
      obtain ⟨g1, g2, _⟩ := f.blt h3
      exact noif (se_max2 (f.calm h1).1 g1 g2 h4 h5 (ih f hF h6).1 (ih f hF h7).1) fun _ => rfl
    | [], h => exact nof h rfl
    | [_], h => exact nof h rfl
    | _ :: _ :: _ :: _, h => exact nof h rfl
theorem c_callA {o : Expr} {m : Str} {apos : Pos} {es : List Expr} {cpos : Pos} {x : Ex} (h : chk I N cm (n + 1) sc (.Call (.Attribute o m apos) es [] cpos) x = true) : EOk I k X H0 Wf (.Call (.Attribute o m apos) es [] cpos) x := by
  replace h : (true && (baseE o && (apos.endLine == cpos.line) && es.all plainE && chkCallA (chk I N cm n sc) o m es x)) = true := h
  rw [Bool.true_and, Bool.and_eq_true, Bool.and_eq_true, Bool.and_eq_true] at h
  obtain ⟨⟨⟨hb, hl⟩, hp⟩, h⟩ := h
  cases x <;> first | exact nof h rfl | skip
  · rename_i op xo
    cases es with
    | cons _ _ => exact nof h rfl
    | nil =>
      have tx : MTxt X o m apos [] cpos := ⟨base_no hb, hl, hp, by simp⟩
      cases op with
      | pop =>
        have h : (true && decide (m = "pop") && chk I N cm n sc o xo) = true := h
        simp only [Bool.and_eq_true, decide_eq_true_eq] at h
        obtain ⟨⟨_, rfl⟩, h3⟩ := h
        exact noif (se_pop tx (ih f hF h3).1) fun _ => rfl
      | clear =>
        have h : (true && decide (m = "clear") && chk I N cm n sc o xo) = true := h
        simp only [Bool.and_eq_true, decide_eq_true_eq] at h
        obtain ⟨⟨_, rfl⟩, h3⟩ := h
        exact noif (se_clear tx (ih f hF h3).1) fun _ => rfl
  · rename_i op xo ea
    match es, hp, h with
    | [], _, h => exact nof h (Bool.and_false _)
    | _ :: _ :: _, _, h => exact nof h (Bool.and_false _)
    | [a], hp, h =>
      have tx : MTxt X o m apos [a] cpos := ⟨base_no hb, hl, hp, by simp⟩
      cases op <;> first | exact nof h (by show (chk I N cm n sc o xo && (false && chk I N cm n sc a ea)) = false; rw [Bool.false_and, Bool.and_false]) | skip
      · have h : (chk I N cm n sc o xo && (decide (m = "append") && chk I N cm n sc a ea)) = true := h
        simp only [Bool.and_eq_true, decide_eq_true_eq] at h
        obtain ⟨h2, rfl, h3⟩ := h
        exact noif (se_append tx (ih f hF h2).1 (ih f hF h3).1) fun _ => rfl
      · have h : (chk I N cm n sc o xo && (decide (m = "extend") && chk I N cm n sc a ea)) = true := h
        simp only [Bool.and_eq_true, decide_eq_true_eq] at h
        obtain ⟨h2, rfl, h3⟩ := h
        exact noif (se_extend tx (ih f hF h2).1 (ih f hF h3).1) fun _ => rfl
      · have h : (chk I N cm n sc o xo && (decide (m = "get") && chk I N cm n sc a ea)) = true := h
        simp only [Bool.and_eq_true, decide_eq_true_eq] at h
        obtain ⟨h2, rfl, h3⟩ := h
        exact noif (se_get1 f.hu tx (ih f hF h2).1 (ih f hF h3).1) fun _ => rfl
  · rename_i xo ea eb
    match es, hp, h with
    | [], _, h => exact nof h (Bool.and_false _)
    | [_], _, h => exact nof h (Bool.and_false _)
    | _ :: _ :: _ :: _, _, h => exact nof h (Bool.and_false _)
    | [a, b], hp, h =>
      have tx : MTxt X o m apos [a, b] cpos := ⟨base_no hb, hl, hp, by simp⟩
      have h : (chk I N cm n sc o xo && (decide (m = "get") && chk I N cm n sc a ea && chk I N cm n sc b eb)) = true := h
      simp only [Bool.and_eq_true, decide_eq_true_eq] at h
      obtain ⟨h2, ⟨rfl, h3⟩, h4⟩ := h
      exact noif (se_get2 f.hu tx (ih f hF h2).1 (ih f hF h3).1 (ih f hF h4).1) fun _ => rfl
end
theorem chk_ok : ∀ n, ChkOk I xa k N cm n
  | 0 => fun f hF h => by cases h
  | n + 1 => by
    rename_i X sc fnb Wf H0 e x
    intro f hF h
    have ih : ChkOk I xa k N cm n := chk_ok n
    cases e <;> first | exact nof h rfl | skip
    · exact c_bool ih f hF h
    · exact c_bin ih f hF h
    · exact c_un ih f hF h
    · exact c_if ih f hF h
    · exact c_dict ih f hF h
    · exact c_lc ih f hF h
    · exact c_cmp ih f hF h
    · rename_i g es kw p
      cases kw with
      | cons _ _ => exact nof h rfl
      | nil =>
        cases g <;> first | exact nof h rfl | skip
        · exact c_callA ih f hF h
        · exact c_callN ih f hF h
    · exact const_ok h
    · exact c_sub ih f hF h
    · exact c_name ih f hF h
    · exact c_lst ih f hF h
    · exact c_tup ih f hF h
end Sd
set_option Elab.async false
set_option linter.all false
set_option autoImplicit false
set_option maxRecDepth 100000
namespace Sd
open PySem PySem.Spec PyProof.Rows L2
open Py (T Sl R Res CRes SRes Ex Stm W Tg)
def lineOf : Expr → Nat
  | .ListComp _ _ _ p => p.line
  | _ => 0
def swapB (sc : Scope) (y : Str) (p : Pos) (e : Expr) : Bool := notComp e || decide (sc.names.lookup y = some .cell)
def chkAsg (I : PI) (ck : Expr → Ex → Bool) (sc : Scope) (N : List Str) (y : Str) (p : Pos) (i : Nat) (e : Expr) (xe : Ex) : Bool :=
  okF I [i] && decide (N[i]? = some y) && locS sc y && ck e xe && (swapB sc y p e || (match e with
    | .ListComp _ gens scope pe => (match gens with
      | [_] => decide (sc.names.lookup y = some .local) && (p.line == pe.line) && !(scope.names.any fun (n, k) => n == y && (k == .local || k == .cell))
      | _ => false)
    | _ => false))
def chkPar (I : PI) (ck : Expr → Ex → Bool) (sc : Scope) (N : List Str) (x : Str) (px : Pos) (y : Str) (py : Pos) (i j : Nat) (xa xb : Ex) : Expr → Bool
  | .Tuple [a, b] _ _ => okF I [i, j] && decide (N[i]? = some x) && decide (N[j]? = some y) && decide (i ≠ j) && decide (sc.names.lookup x = some .local) && decide (sc.names.lookup y = some .local) && plainE a && plainE b &&
      (px.line == py.line) && decide (x ≠ y) && !([a, b].all (foldedForSure 8)) && !([a, b].all (constantsAlone 8)) && ck a xa && ck b xb
  | _ => false
def chkTgt (I : PI) (cm : Bool) (ck : Expr → Ex → Bool) (sc : Scope) (N : List Str) (e : Expr) (x : Stm) : Expr → Bool
  | .Name y p => (match x with
    | .asg i xe => chkAsg I ck sc N y p i e xe
    | _ => false)
  | .Subscript o b _ => (match o, x with
    | .Name y _, .sst i xk xe => decide (N[i]? = some y) && visS sc y && okN y && notComp e && notSl b && ck e xe && ck b xk
    | _, _ => false)
  | .Tuple es kk pt => (match x with
    | .asgt is xe => cm && chkTg I (fun _ => true) sc N (.Tuple es kk pt) (.many is) && notComp e && !isTup e && ck e xe
    | .par i j xa xb => cm && (match es with
      | [.Name x px, .Name y py] => chkPar I ck sc N x px y py i j xa xb e
      | _ => false)
    | _ => false)
  | _ => false
def chkRse (I : PI) (sc : Scope) (n : Nat) : Expr → Bool
  | .Call (.Name x _) [.Constant (.str _) _ _] [] _ => decide (I.xnm[n]? = some x) && glb sc x && okN x
  | _ => false
def chkHd (I : PI) (sc : Scope) (ck : List Stmt → List Stm → Bool) (h : ExceptHandler) (s : Nat × List Stm) : Bool := match h with
  | .ExceptHandler (some (.Name x _)) none (b :: r) _ => decide (I.xnm[s.1]? = some x) && glb sc x && okN x && ck (b :: r) s.2
  | _ => false
def chkCal (I : PI) (cm : Bool) (sc : Scope) (N : List Str) (ck : Expr → Ex → Bool) (f : Nat) (xa xb xc : Ex) (j : Nat) : Expr → Bool
  | .Call (.Name y _) [a, b, c, .Name z _] [] _ => cm && okN y && glb sc y && decide (I.fnm[f]? = some y) && decide (I.fnp[f]? = some 4) && decide (I.kd[f]? = some .ref) && plainE a && plainE b && plainE c && decide (N[j]? = some z) && visS sc z && okN z && ck a xa && ck b xb && ck c xc
  | _ => false
def chkS (I : PI) (N : List Str) : Nat → Bool → Scope → Stmt → Stm → Bool
  | 0, _, _, _, _ => false
  | n + 1, cm, sc, s, x => match s with
    | .Assign tgs e _ => (match tgs with
      | [t] => chkTgt I cm (chk I N cm n sc) sc N e x t
      | _ => false)
    | .AugAssign t o e _ => (match t, x with
      | .Name y _, .aug i xe => okF I [i] && decide (o = .Add) && decide (N[i]? = some y) && locS sc y && chk I N cm n sc e xe
      | _, _ => false)
    | .Expr e _ => (match x with
      | .exp xe => notComp e && chk I N cm n sc e xe
      | .cal f xa xb xc j => chkCal I cm sc N (chk I N cm n sc) f xa xb xc j e
      | _ => false)
    | .If c a b _ => (match x with
      | .ite xc sa sb => tstE c && chk I N cm n sc c xc && all2 (chkS I N n cm sc) a sa && all2 (chkS I N n cm sc) b sb
      | _ => false)
    | .While c b el _ => (match x with
      | .whl xc sb => cm && el.isEmpty && tstE c && chk I N cm n sc c xc && all2 (chkS I N n cm sc) b sb
      | _ => false)
    | .For te it b el _ => (match x with
      | .for tg kk ie sb => cm && el.isEmpty && notSet it && chkIt (chk I N cm n sc) (bltB I sc) te it kk ie && chkTg I (fun _ => true) sc N te tg && all2 (chkS I N n cm sc) b sb
      | _ => false)
    | .Return e _ => (match x with
      | .ret xe => (match e with
        | some e => chk I N cm n sc e xe
        | none => Py.isNonE xe)
      | _ => false)
    | .Raise e c _ => (match x with
      | .rse j => cm && c.isNone && (match e with
        | some e => chkRse I sc j e
        | none => false)
      | _ => false)
    | .Try b hs el fi _ => (match x with
      | .try sb ss => cm && el.isEmpty && fi.isEmpty && !hs.isEmpty && all2 (chkS I N n cm sc) b sb && all2 (chkHd I sc (all2 (chkS I N n false sc))) hs ss
      | _ => false)
    | .Pass _ => (match x with
      | .pss => true
      | _ => false)
    | _ => false
structure ExcF (X : Cx) (a : Addr) (x : Str) : Prop where
  mg : X.mg x = some (.ref a)
  kp : PySem.W.keepIn X.K (.ref a) = true
  rs : Raises X (.ref a)
  fx : ∃ bmB B newId initId, ExcBaseFacts B newId initId bmB ∧ PySem.W.excIn X.K a bmB newId = true
structure FS (I : PI) (xa : Nat → Addr) (k : Nat) (X : Cx) (N : List Str) (sc : Scope) (cm : Bool) (Wf : XW) : Prop where
  fx : FX I xa k X N sc (fun _ => true) cm Wf
  top : cm = true → X.stack = X.env :: X.outer ∧ X.env.frame = some X.env.locals ∧ PassesOwn (model X.prog X.w) X.A X.env X.xe ∧ X.env.scope.kind = .function
  exc : ∀ (n : Nat) (x : Str), I.xnm[n]? = some x → ExcF X (xa n) x
  exm : ∀ c d : Nat, PySem.W.exmOne X.K (.ref (xa c)) (.ref (xa d)) = some (I.P.sub c d)
variable {I : PI} {xa : Nat → Addr} {k : Nat} {X : Cx} {N : List Str} {sc : Scope} {cm : Bool} {Wf : XW} {H0 : B0}
abbrev GS (I : PI) (k : Nat) (x : Stm) := Py.ex1 I.P.C (Py.callF I.P k) I.P.sub x
abbrev GSs (I : PI) (k : Nat) (x : List Stm) := Py.exs I.P.C (Py.callF I.P k) I.P.sub x
theorem FS.suite (f : FS I xa k X N sc cm Wf) (a : Addr) (pn : List (Addr × Obj)) : FS I xa k (X.suite a pn) N sc false NoW where
  fx := ⟨f.fx.hN, f.fx.nd, f.fx.hsc, f.fx.hfn, f.fx.hu, f.fx.con, f.fx.bl, (fun z => by cases z), (fun z => by cases z), takes_no⟩
  top := fun z => by cases z
  exc := fun n x h => ⟨(f.exc n x h).mg, (f.exc n x h).kp, (f.exc n x h).rs, (f.exc n x h).fx⟩
  exm := f.exm
theorem FS.tr (f : FS I xa k X N sc cm Wf) {W : WX} {pn : List (Addr × Obj)} {xe : Value → Shared → Prop} (tk : Takes (X.tr pn xe) W) (po : PassesOwn (model X.prog X.w) X.A X.env xe) : FS I xa k (X.tr pn xe) N sc cm (fun c σ H => W (.ref (xa c)) none σ H) where
  fx := ⟨f.fx.hN, f.fx.nd, f.fx.hsc, f.fx.hfn, f.fx.hu, f.fx.con, f.fx.bl, f.fx.calm, f.fx.fns, tk.imp fun c d σ H ⟨j, e1, e2, w⟩ => by
    subst e1
    subst e2
    exact w⟩
  top := fun z => ⟨(f.top z).1, (f.top z).2.1, po, (f.top z).2.2.2⟩
  exc := fun n x h => ⟨(f.exc n x h).mg, (f.exc n x h).kp, (f.exc n x h).rs, (f.exc n x h).fx⟩
  exm := f.exm
theorem swap_cell {e : Expr} {y : Str} {p : Pos} {l : Nat} {env : Env} (h : env.scope.names.lookup y = some .cell) : swapsWith e (some (.Name y p)) l env = pure false := by
  have hk : env.kindOf y = some .cell := h
  cases e <;> first | rfl | skip
  all_goals
    unfold swapsWith
    simp [hk, show (NameKind.cell == NameKind.local) = false from rfl]
theorem ss_asg2 {C : List T} {call : Nat → List T → CRes} {sub : Nat → Nat → Bool} {a : Expr} {ea : Ex} {pos : Pos} {i : Nat} {x : Str} {p : Pos} (hN : X.N.Nodup) (hi : X.N[i]? = some x) (hx : Loc X.env.scope x) (hf : X.fn x = true ∨ X.env.scope.names.lookup x = some .local) (hs : swapsWith a (some (.Name x p)) pos.line X.env = pure false) (hf0 : H0.fx i = none) (ha : SE X H0 Wf a (Py.go C call ea).1) :
    SS X H0 Wf (.Assign [.Name x p] a pos) (Py.ex1 C call sub (.asg i ea)) := by
  obtain ⟨ta, pa, sa⟩ := ha
  exact ⟨_, ps_set hN hi hx pa hs hf, asg_sim hf0 sa⟩
theorem swap2 {x y : Str} {px py pt pt2 : Pos} {kt k2 : Nat} {a b : Expr} {env : Env} (hk : env.scope.kind = .function) (hx : env.scope.names.lookup x = some .local) (hy : env.scope.names.lookup y = some .local) (hl : (px.line == py.line) = true) (hne : x ≠ y)
    (hpa : plainE a = true) (hpb : plainE b = true) (h1 : [a, b].all (foldedForSure 8) = false) (h2 : [a, b].all (constantsAlone 8) = false) :
    swappedStores [.Tuple [.Name x px, .Name y py] kt pt] (.Tuple [a, b] k2 pt2) env = pure (some [x, y]) := by
  have kx : env.kindOf x = some .local := hx
  have ky : env.kindOf y = some .local := hy
  have hb : env.blockKind = .function := by
    unfold Env.blockKind
    rw [hk]
    rfl
  have hs : ([a, b].any fun | .Starred .. => true | _ => false) = false := by
    cases a <;> first | (cases hpa; done) | skip
    all_goals (cases b <;> first | (cases hpb; done) | rfl)
  have e1 : px.line = py.line := eq_of_beq hl
  have hyx : (y == x) = false := by
    rw [beq_eq_false_iff_ne]
    exact fun z => hne z.symm
  unfold swappedStores
  simp only [hb]
  refine Eq.trans (if_neg fun z => Bool.false_ne_true z) ?_
  refine Eq.trans (if_neg fun z => Bool.false_ne_true (hs.symm.trans z)) ?_
  have ef : List.filterMap (fun e : Expr => match e with
      | .Name id pos => if (env.kindOf id == some NameKind.local && pos.line == px.line) = true then some id else none
      | _ => none) [.Name x px, .Name y py] = [x, y] := by
    simp [kx, ky, e1]
  have ed : ([x, y] : List Str).eraseDups.length = 2 := by
    simp [List.eraseDups_cons, hyx]
  refine Eq.trans (if_neg fun z => ?_) ?_
  · have z2 : ((List.filterMap (fun e : Expr => match e with
      | .Name id pos => if (env.kindOf id == some NameKind.local && pos.line == px.line) = true then some id else none
      | _ => none) [.Name x px, .Name y py]).length != 2 || (List.filterMap (fun e : Expr => match e with
      | .Name id pos => if (env.kindOf id == some NameKind.local && pos.line == px.line) = true then some id else none
      | _ => none) [.Name x px, .Name y py]).eraseDups.length != (List.filterMap (fun e : Expr => match e with
      | .Name id pos => if (env.kindOf id == some NameKind.local && pos.line == px.line) = true then some id else none
      | _ => none) [.Name x px, .Name y py]).length) = true := z
    rw [ef, ed] at z2
    exact Bool.false_ne_true z2
  refine Eq.trans (if_neg fun z => Bool.false_ne_true (h1.symm.trans z)) ?_
  refine Eq.trans (if_neg fun z => Bool.false_ne_true (h2.symm.trans z)) ?_
  exact congrArg (fun l => pure (some l)) ef
section
variable {n : Nat}
def ChkSOk (I : PI) (xa : Nat → Addr) (k : Nat) (N : List Str) (n : Nat) : Prop :=
  ∀ {X : Cx} {sc : Scope} {cm : Bool} {Wf : XW} {s : Stmt} {x : Stm}, FS I xa k X N sc cm Wf → chkS I N n cm sc s x = true → ∀ H0, Fr I H0 → SS X H0 Wf s (GS I k x)
theorem sss_all (ih : ChkSOk I xa k N n) (f : FS I xa k X N sc cm Wf) (H0 : B0) (hF : Fr I H0) : ∀ {ss : List Stmt} {xs : List Stm}, all2 (chkS I N n cm sc) ss xs = true → SSs X H0 Wf ss (GSs I k xs)
  | [], [], _ => ss_nil
  | [], _ :: _, h => by cases h
  | _ :: _, [], h => by cases h
  | s :: ss, x :: xs, h => by
    simp only [all2, Bool.and_eq_true] at h
    exact ss_cons (ih f h.1 H0 hF) (sss_all ih f H0 hF h.2)
theorem ec (f : FS I xa k X N sc cm Wf) (hF : Fr I H0) {e : Expr} {x : Ex} (h : chk I N cm n sc e x = true) : EOk I k X H0 Wf e x := chk_ok n f.fx hF h
theorem s_asg (f : FS I xa k X N sc cm Wf) (hF : Fr I H0) {y : Str} {p pos : Pos} {i : Nat} {e : Expr} {xe : Ex} (h : chkAsg I (chk I N cm n sc) sc N y p i e xe = true) : SS X H0 Wf (.Assign [.Name y p] e pos) (GS I k (.asg i xe)) := by
  unfold chkAsg at h
  rw [Bool.and_eq_true, Bool.or_eq_true] at h
  obtain ⟨h, hsw⟩ := h
  simp only [Bool.and_eq_true, decide_eq_true_eq] at h
  obtain ⟨⟨⟨h0, h1⟩, h2⟩, h3⟩ := h
  have hf0 := hF.at h0 i (List.mem_cons_self ..)
  have hN : X.N.Nodup := by rw [f.fx.hN]; exact f.fx.nd
  have hi : X.N[i]? = some y := by rw [f.fx.hN]; exact h1
  rcases hsw with hsw | hsw
  · refine ss_asg2 hN hi (f.fx.loc h2) (.inl (f.fx.hfn y rfl)) ?_ hf0 (ec f hF h3).1
    unfold swapB at hsw
    rw [Bool.or_eq_true] at hsw
    rcases hsw with z | z
    · exact swap_no z _ _ _
    · refine swap_cell ?_
      rw [f.fx.hsc]
      exact of_decide_eq_true z
  · cases e <;> first | exact nof hsw rfl | skip
    rename_i elt gens scope pe
    match gens, hsw, h3 with
    | [], hsw, _ => exact nof hsw rfl
    | ⟨_, _, _, _⟩ :: _ :: _, hsw, _ => exact nof hsw rfl
    | [⟨te, iter, ifs, isa⟩], hsw, h3 =>
      replace hsw : (decide (sc.names.lookup y = some .local) && (p.line == pe.line) && !(scope.names.any fun (n, k) => n == y && (k == .local || k == .cell))) = true := hsw
      simp only [Bool.and_eq_true, decide_eq_true_eq, Bool.not_eq_true'] at hsw
      obtain ⟨⟨g1, g2⟩, g3⟩ := hsw
      cases n with
      | zero => cases h3
      | succ n =>
        obtain ⟨xe, tg, kk, ie, xc, rfl, rfl, l⟩ := lc_parts (H0 := H0) (chk_ok n) f.fx hF h3
        have hcm : cm = true := by
          cases cm with
          | true => rfl
          | false =>
            have q : (false && decide ((0 : Int) = 0) && notSet iter && chkIt (chk I N false n sc) (bltB I sc) te iter kk ie && blkC N sc scope (tg.slots.map fun i => (N.getD i "", i)) &&
              chkTg I (fun y => decide (scope.names.lookup y = some .cell)) (relS scope sc) N te tg && chk I N false n (relS scope sc) elt xe && chkIfs (chk I N false n (relS scope sc)) ifs xc) = true := h3
            simp at q
        exact ss_asgLc hf0 l.fx l.calm l.nd hi (by rw [f.fx.hsc]; exact g1) (f.top hcm).2.2.2 g2 g3 l.hi l.ok (own_snd (chk_ok n) f.fx hF _) l.hg l.ht l.he l.hs
theorem s_tgt (f : FS I xa k X N sc cm Wf) (hF : Fr I H0) {t e : Expr} {pos : Pos} {x : Stm} (h : chkTgt I cm (chk I N cm n sc) sc N e x t = true) : SS X H0 Wf (.Assign [t] e pos) (GS I k x) := by
  have hN : X.N.Nodup := by rw [f.fx.hN]; exact f.fx.nd
  cases t <;> first | exact nof h rfl | skip
  · rename_i o b p2
    cases o <;> first | (cases x <;> exact nof h rfl) | skip
    rename_i y p
    cases x <;> first | exact nof h rfl | skip
    rename_i i xk xe
    replace h : (decide (N[i]? = some y) && visS sc y && okN y && notComp e && notSl b && chk I N cm n sc e xe && chk I N cm n sc b xk) = true := h
    simp only [Bool.and_eq_true, decide_eq_true_eq] at h
    obtain ⟨⟨⟨⟨⟨⟨h1, h2⟩, h3⟩, h4⟩, h5⟩, h6⟩, h7⟩ := h
    exact ss_sst f.fx.hu (by rw [f.fx.hN]; exact h1) (f.fx.vis h2) (okN_of h3).1 (okN_of h3).2.1 h4 h5 (ec f hF h6).1 (ec f hF h7).1
  · rename_i y p
    cases x <;> first | exact nof h rfl | skip
    exact s_asg f hF h
  · rename_i es kk pt
    cases x <;> first | exact nof h rfl | skip
    · rename_i is xe
      replace h : (cm && chkTg I (fun _ => true) sc N (.Tuple es kk pt) (.many is) && notComp e && !isTup e && chk I N cm n sc e xe) = true := h
      simp only [Bool.and_eq_true, Bool.not_eq_true'] at h
      obtain ⟨⟨⟨⟨h1, h2⟩, h3⟩, h4⟩, h5⟩ := h
      exact ss_asgt (chkTg_ok f.fx hF (f.fx.calm h1).1 h2) h3 h4 rfl (ec f hF h5).1
    · rename_i i j xa' xb
      match es, h with
      | [], h => exact nof h (Bool.and_false _)
      | [a], h => exact nof h (by cases a <;> exact Bool.and_false _)
      | a :: b :: _ :: _, h => exact nof h (by cases a <;> first | exact Bool.and_false _ | (cases b <;> exact Bool.and_false _))
      | [a, b], h =>
        cases a <;> first | exact nof h (Bool.and_false _) | skip
        rename_i x px
        cases b <;> first | exact nof h (Bool.and_false _) | skip
        rename_i y py
        replace h : (cm && chkPar I (chk I N cm n sc) sc N x px y py i j xa' xb e) = true := h
        rw [Bool.and_eq_true] at h
        obtain ⟨hcm, h⟩ := h
        cases e with
        | Tuple vs k2 pt2 =>
          match vs, h with
          | [], h => exact nof h rfl
          | [_], h => exact nof h rfl
          | _ :: _ :: _ :: _, h => exact nof h rfl
          | [a, b], h =>
            replace h : (okF I [i, j] && decide (N[i]? = some x) && decide (N[j]? = some y) && decide (i ≠ j) && decide (sc.names.lookup x = some .local) && decide (sc.names.lookup y = some .local) && plainE a && plainE b &&
              (px.line == py.line) && decide (x ≠ y) && !([a, b].all (foldedForSure 8)) && !([a, b].all (constantsAlone 8)) && chk I N cm n sc a xa' && chk I N cm n sc b xb) = true := h
            simp only [Bool.and_eq_true, decide_eq_true_eq, Bool.not_eq_true'] at h
            obtain ⟨⟨⟨⟨⟨⟨⟨⟨⟨⟨⟨⟨⟨h0, h1⟩, h2⟩, h3⟩, h4⟩, h5⟩, h6⟩, h7⟩, h8⟩, h9⟩, h10⟩, h11⟩, h12⟩, h13⟩ := h
            have hx : X.env.scope.names.lookup x = some .local := by rw [f.fx.hsc]; exact h4
            have hy : X.env.scope.names.lookup y = some .local := by rw [f.fx.hsc]; exact h5
            exact ss_par (hF.at h0 i (by simp)) (hF.at h0 j (by simp)) (f.fx.calm hcm).1 hN (by rw [f.fx.hN]; exact h1) (by rw [f.fx.hN]; exact h2) h3 hx hy h6 h7 (swap2 (f.top hcm).2.2.2 hx hy h8 h9 h6 h7 h10 h11) (ec f hF h12).1 (ec f hF h13).1
        | _ => exact nof h rfl
theorem hds_ok (ih : ChkSOk I xa k N n) (f : FS I xa k X N sc cm Wf) (H0 : B0) (hF : Fr I H0) : ∀ {hs : List ExceptHandler} {ss : List (Nat × List Stm)}, all2 (chkHd I sc (all2 (chkS I N n false sc))) hs ss = true → HdSim X H0 Wf xa I.P.C (Py.callF I.P k) I.P.sub hs ss
  | [], [], _ => hd_nil
  | [], _ :: _, h => by cases h
  | _ :: _, [], h => by cases h
  | hd :: hs, s :: ss, h => by
    simp only [all2, Bool.and_eq_true] at h
    obtain ⟨h1, h2⟩ := h
    have r := hds_ok ih f H0 hF h2
    obtain ⟨d, sb⟩ := s
    unfold chkHd at h1
    split at h1
    · rename_i x np b r' p
      simp only [Bool.and_eq_true, decide_eq_true_eq] at h1
      obtain ⟨⟨⟨g1, g2⟩, g3⟩, g4⟩ := h1
      have ex := f.exc d x g1
      exact hd_cons ⟨f.fx.gl g2, (okN_of g3).1, .inl ex.mg⟩ (fun c => f.exm c d) (fun a oe pn => sss_all ih (f.suite a ((a, oe) :: pn)) H0 hF g4) r
    · cases h1
theorem chkS_ok : ∀ n, ChkSOk I xa k N n
  | 0 => fun f h => by cases h
  | n + 1 => by
    rename_i X sc cm Wf s x
    intro f h H0 hF
    have ih : ChkSOk I xa k N n := chkS_ok n
    have hN : X.N.Nodup := by rw [f.fx.hN]; exact f.fx.nd
    cases s <;> first | exact nof h rfl | skip
    · rename_i e p
      cases x <;> first | exact nof h rfl | skip
      rename_i xe
      cases e with
      | some e => exact ss_ret (ec (n := n) f hF h).1
      | none =>
        cases xe <;> first | exact nof h rfl | skip
        exact ss_retN
    · rename_i tgs e p
      match tgs, h with
      | [], h => exact nof h rfl
      | _ :: _ :: _, h => exact nof h rfl
      | [t], h => exact s_tgt (n := n) f hF h
    · rename_i t o e p
      cases t <;> first | (cases x <;> exact nof h rfl) | skip
      rename_i y py
      cases x <;> first | exact nof h rfl | skip
      rename_i i xe
      replace h : (okF I [i] && decide (o = .Add) && decide (N[i]? = some y) && locS sc y && chk I N cm n sc e xe) = true := h
      simp only [Bool.and_eq_true, decide_eq_true_eq] at h
      obtain ⟨⟨⟨⟨h0, rfl⟩, h2⟩, h3⟩, h4⟩ := h
      exact ss_aug (hF.at h0 i (List.mem_cons_self ..)) hN (by rw [f.fx.hN]; exact h2) (f.fx.loc h3) (.inl (f.fx.hfn y rfl)) (ec f hF h4).1
    · rename_i te it b el p
      cases x <;> first | exact nof h rfl | skip
      rename_i tg kk ie sb
      replace h : (cm && el.isEmpty && notSet it && chkIt (chk I N cm n sc) (bltB I sc) te it kk ie && chkTg I (fun _ => true) sc N te tg && all2 (chkS I N n cm sc) b sb) = true := h
      simp only [Bool.and_eq_true] at h
      obtain ⟨⟨⟨⟨⟨h1, h2⟩, h3⟩, h4⟩, h5⟩, h6⟩ := h
      cases el with
      | cons _ _ => cases h2
      | nil => exact ss_for (f.top h1).2.2.1 (f.fx.calm h1).1 (chkIt_ok f.fx (fun e x hh => (ec (n := n) f hF hh).1) h4) (fun G hG => chkTg_ok f.fx (hF.of hG) (f.fx.calm h1).1 h5) (fun G hG => sss_all ih f G (hF.of hG) h6) fun x => fold_no h3 _ x
    · rename_i c b el p
      cases x <;> first | exact nof h rfl | skip
      rename_i xc sb
      replace h : (cm && el.isEmpty && tstE c && chk I N cm n sc c xc && all2 (chkS I N n cm sc) b sb) = true := h
      simp only [Bool.and_eq_true] at h
      obtain ⟨⟨⟨⟨h1, h2⟩, h3⟩, h4⟩, h5⟩ := h
      cases el with
      | cons _ _ => cases h2
      | nil => exact ss_whl (f.top h1).2.2.1 ((ec f hF h4).2 h3) (sss_all ih f H0 hF h5)
    · rename_i c a b p
      cases x <;> first | exact nof h rfl | skip
      rename_i xc sa sb
      replace h : (tstE c && chk I N cm n sc c xc && all2 (chkS I N n cm sc) a sa && all2 (chkS I N n cm sc) b sb) = true := h
      simp only [Bool.and_eq_true] at h
      obtain ⟨⟨⟨h1, h2⟩, h3⟩, h4⟩ := h
      exact ss_ite ((ec f hF h2).2 h1) (sss_all ih f H0 hF h3) (sss_all ih f H0 hF h4)
    · rename_i e c p
      cases x <;> first | exact nof h rfl | skip
      rename_i j
      cases e with
      | none => exact nof h (Bool.and_false _)
      | some e =>
        replace h : (cm && c.isNone && chkRse I sc j e) = true := h
        simp only [Bool.and_eq_true] at h
        obtain ⟨⟨h1, h2⟩, h3⟩ := h
        cases c with
        | some _ => cases h2
        | none =>
          unfold chkRse at h3
          split at h3
          · rename_i x p1 m j2 p2 p3
            simp only [Bool.and_eq_true, decide_eq_true_eq] at h3
            obtain ⟨⟨g1, g2⟩, g3⟩ := h3
            have ex := f.exc j x g1
            obtain ⟨bmB, B, newId, initId, F, q⟩ := ex.fx
            exact ss_rse (f.fx.calm h1).1 f.fx.tk F q ex.mg ex.kp ex.rs (f.fx.gl g2) (okN_of g3).1
          · cases h3
    · rename_i b hs el fi p
      cases x <;> first | exact nof h rfl | skip
      rename_i sb ss
      replace h : (cm && el.isEmpty && fi.isEmpty && !hs.isEmpty && all2 (chkS I N n cm sc) b sb && all2 (chkHd I sc (all2 (chkS I N n false sc))) hs ss) = true := h
      simp only [Bool.and_eq_true] at h
      obtain ⟨⟨⟨⟨⟨h1, h2⟩, h3⟩, h4⟩, h5⟩, h6⟩ := h
      cases el with
      | cons _ _ => cases h2
      | nil =>
        cases fi with
        | cons _ _ => cases h3
        | nil =>
          cases hs with
          | nil => cases h4
          | cons h0 hs => exact ss_try (f.top h1).1 (f.top h1).2.1 f.fx.tk (fun W pn xe tk po => sss_all ih (f.tr tk po) H0 hF h5) (hds_ok ih f H0 hF h6)
    · rename_i e p
      cases x <;> first | exact nof h rfl | skip
      · rename_i xe
        replace h : (notComp e && chk I N cm n sc e xe) = true := h
        simp only [Bool.and_eq_true] at h
        exact ss_exp h.1 (ec f hF h.2).1
      · rename_i fj xa' xb xc j
        replace h : chkCal I cm sc N (chk I N cm n sc) fj xa' xb xc j e = true := h
        unfold chkCal at h
        split at h
        · rename_i y p0 a b c z p1 cp
          simp only [Bool.and_eq_true, decide_eq_true_eq] at h
          obtain ⟨⟨⟨⟨⟨⟨⟨⟨⟨⟨⟨⟨⟨⟨h1, h2⟩, h3⟩, h4⟩, h5⟩, h6⟩, h7⟩, h8⟩, h9⟩, h10⟩, h11⟩, h12⟩, h13⟩, h14⟩, h15⟩ := h
          obtain ⟨fa, fd, ps, g1, g2, g3, g4⟩ := f.fx.fns h1 fj y _ _ h4 h5 h6
          exact ss_cal g1 (f.fx.calm h1).2 (f.fx.gl h3) g2 g3 g4 f.fx.tk (okN_of h2).1 h7 h8 h9 (by rw [f.fx.hN]; exact h10) (f.fx.vis h11) (okN_of h12).1 (okN_of h12).2.1 (ec f hF h13).1 (ec f hF h14).1 (ec f hF h15).1
        · cases h
    · cases x <;> first | exact nof h rfl | skip
      exact ss_pss
end
end Sd
set_option Elab.async false
set_option linter.all false
set_option autoImplicit false
set_option maxRecDepth 100000
namespace Sd
open PySem PySem.Spec PyProof.Rows L2
open Py (T Sl R Res CRes SRes Ex Stm W Tg)
variable {I : PI} {xa : Nat → Addr} {k : Nat} {X : Cx} {N : List Str} {sc : Scope} {cm : Bool} {Wf : XW} {H : Hp} {H0 : B0} {K : PySem.W.Frag}
theorem start_get {vs : List V} {j : Nat} {v : V} (h : vs[j]? = some v) : (L2.start N vs)[j]? = some (some v) := by
  have hl := (List.getElem?_eq_some_iff.mp h).1
  unfold L2.start
  rw [List.getElem?_append_left (by simpa using hl), List.getElem?_map, h]
  rfl
theorem initE_get {np ns : Nat} {mv : Option Nat} {ts : List T} {j : Nat} {x : Sl} (h : (Py.initE np ns mv ts)[j]? = some x) (hx : x ≠ .un) : ∃ t, ts[j]? = some t ∧ x = if mv = some j then .own t else .val t := by
  unfold Py.initE at h
  by_cases hj : j < ts.length
  · rw [List.getElem?_append_left (by simpa using hj), List.getElem?_map, List.getElem?_zipIdx] at h
    rw [List.getElem?_eq_getElem hj] at h ⊢
    simp only [Option.map_some, Nat.zero_add, Option.some.injEq] at h
    exact ⟨_, rfl, h.symm⟩
  · rw [List.getElem?_append_right (by simpa using hj), List.getElem?_replicate] at h
    split at h
    · exact absurd (Option.some.inj h).symm hx
    · cases h
theorem init_sr {np ns : Nat} {mv : Option Nat} {ts : List T} {vs : List V} {A : Addr → Prop} {M : Option Addr} (hA : ∀ a, A a → ∃ o, H a = some o ∧ ∀ xs, o ≠ .tup xs) (hl : ts.length = np) (hn : np ≤ ns) (hN : N.length = ns) (h : ArgsOk K H A mv M vs ts) :
    SR K ⟨fun b => if M = some b then none else H b, fun _ => none⟩ A (L2.start N vs) H (Py.initE np ns mv ts) := by
  have lv : vs.length = np := h.len.trans hl
  have hlen : (L2.start N vs).length = (Py.initE np ns mv ts).length := by
    unfold L2.start Py.initE
    simp only [List.length_append, List.length_map, List.length_replicate, List.length_zipIdx]
    omega
  cases mv with
  | none =>
    obtain ⟨rfl, r⟩ := h
    have noOwn : ∀ (i : Nat) (t : T), (Py.initE np ns none ts)[i]? ≠ some (.own t) := fun i t e => by
      obtain ⟨u, _, q⟩ := initE_get e (by simp)
      simp at q
    have av : ∀ a, Av A (L2.start N vs) (Py.initE np ns none ts) a → A a := fun a z => z.elim id fun ⟨i, t, e, _⟩ => absurd e (noOwn i t)
    refine ⟨hlen, fun a o e => ?_, hA, fun i t e => ?_, fun i t e => absurd e (noOwn i t), fun i j t u a e => absurd e (noOwn i t), fun i v e => by cases e⟩
    · simpa using e
    · obtain ⟨u, q1, q2⟩ := initE_get e (by simp)
      simp at q2
      subst q2
      obtain ⟨v, v1, v2⟩ := r.get q1
      exact ⟨v, start_get v1, v2.weak fun a _ _ z => av a z⟩
  | some i0 =>
    obtain ⟨p, t0, rfl, h1, h2, h3, h4, h5, h6⟩ := h
    have isOwn : ∀ (i : Nat) (t : T), (Py.initE np ns (some i0) ts)[i]? = some (.own t) → i = i0 ∧ t = t0 := fun i t e => by
      obtain ⟨u, q1, q2⟩ := initE_get e (by simp)
      by_cases hi : some i0 = some i
      · cases hi
        rw [if_pos rfl] at q2
        cases q2
        rw [h2] at q1
        cases q1
        exact ⟨rfl, rfl⟩
      · rw [if_neg hi] at q2
        cases q2
    have av : ∀ a, Av A (L2.start N vs) (Py.initE np ns (some i0) ts) a → A a ∨ a = p := fun a z => z.elim .inl fun ⟨i, t, e, e2⟩ => by
      obtain ⟨rfl, rfl⟩ := isOwn i t e
      rw [start_get h1] at e2
      cases e2
      exact .inr rfl
    refine ⟨hlen, fun a o e => ?_, hA, fun i t e => ?_, fun i t e => ?_, fun i j t u a e1 e2 _ _ => (isOwn i t e1).1.trans (isOwn j u e2).1.symm, fun i v e => by cases e⟩
    · have e : (if some p = some a then none else H a) = some o := e
      by_cases q : some p = some a
      · rw [if_pos q] at e
        cases e
      · rw [if_neg q] at e
        exact e
    · obtain ⟨u, q1, q2⟩ := initE_get e (by simp)
      by_cases hi : some i0 = some i
      · rw [if_pos hi] at q2
        cases q2
      · rw [if_neg hi] at q2
        cases q2
        have li : i < vs.length := by rw [h5]; exact (List.getElem?_eq_some_iff.mp q1).1
        refine ⟨vs[i], start_get (List.getElem?_eq_getElem li), ?_⟩
        exact (h6 i _ _ (fun z => hi (by rw [z])) (List.getElem?_eq_getElem li) q1).weak fun a _ _ z => av a z
    · obtain ⟨rfl, rfl⟩ := isOwn i t e
      exact ⟨p, start_get h1, if_pos rfl, h3, h4.keep (Kp.ext (Ext.refl _) fun a _ _ z => av a z) rfl⟩
theorem post_fn {np : Nat} {ts : List T} {A : Addr → Prop} {M : Option Addr} {Q : VK} {E : XK} {res : SRes} (h : match Py.resOf res with
    | .ok r => ∀ v H', Frm M H H' → ResOk K H M H' A v r → Q v H'
    | .exc c => ∀ H', Frm M H H' → E (.ref (xa c)) none H'
    | .stuck => False) : PostS K ⟨fun b => if M = some b then none else H b, fun _ => none⟩ (fun c _ H' => E (.ref (xa c)) none H') A res { nx := fun _ H' => Q .non H', rt := Q } := by
  have frm : ∀ {σ' : L2.St} {H' : Hp} {ρ' : PEnv}, SR K ⟨fun b => if M = some b then none else H b, fun _ => none⟩ A σ' H' ρ' → Frm M H H' := fun s b o e n => s.base b o (by
    show (if M = some b then none else H b) = some o
    rw [if_neg n]
    exact e)
  cases res with
  | next ρ' => exact fun σ' H' s => h .non H' (frm s) .non
  | ret r ρ' =>
    intro v σ' H' s ro
    refine h v H' (frm s) ?_
    cases r with
    | tmp t => exact ro
    | slot i => exact ro
    | new t =>
      obtain ⟨p, rfl, h0, hz, r⟩ := ro
      refine ⟨p, rfl, ?_, hz, r⟩
      by_cases q : M = some p
      · exact .inr q
      · replace h0 : (if M = some p then none else H p) = none := h0
        rw [if_neg q] at h0
        exact .inl h0
  | exc c ρ' => exact fun σ' H' s => h H' (frm s)
  | stuck => exact h.elim
def fchk (I : PI) (n : Nat) (N ps : List Str) (st : Stmt) (body : List Stm) : Bool :=
  (match (defScope st).kind with | .function => true | _ => false) && !(defScope st).isCoroutine && !(defScope st).isGenerator && decide N.Nodup && decide (N.take ps.length = ps) && (ps.all fun x => locS (defScope st) x) &&
    ((defScope st).names.all fun y => match y.2 with | .free => false | _ => true) && decide (ps.length ≤ N.length) && all2 (chkS I N n true (defScope st)) (defBody st) body
theorem fchk_ok {n : Nat} {N ps : List Str} {st : Stmt} {body : List Stm} (h : fchk I n N ps st body = true) : FnScope N ps (defScope st) ∧ ps.length ≤ N.length ∧ all2 (chkS I N n true (defScope st)) (defBody st) body = true := by
  unfold fchk at h
  simp only [Bool.and_eq_true, Bool.not_eq_true', decide_eq_true_eq, List.all_eq_true] at h
  obtain ⟨⟨⟨⟨⟨⟨⟨⟨h1, h2⟩, h3⟩, h4⟩, h5⟩, h6⟩, h7⟩, h8⟩, h9⟩ := h
  refine ⟨⟨?_, h2, h3, h4, h5, fun x hx => ?_, fun y hy e => ?_⟩, h8, h9⟩
  · split at h1
    · assumption
    · cases h1
  · have q := h6 x hx
    unfold locS at q
    simp only [Bool.or_eq_true, decide_eq_true_eq] at q
    exact q
  · have q := h7 y hy
    rw [e] at q
    cases q
structure LF (I : PI) (xa : Nat → Addr) (P : Program) (w : World) (K : PySem.W.Frag) (mg : Str → Option Value) : Prop where
  con : ∀ (j : Nat) (x : Str), I.cnm[j]? = some x → ∃ u v t, mg x = some u ∧ RelV v u ∧ I.P.C[j]? = some t ∧ ∀ (H : Hp) (A : Addr → Prop), Rep K H A v t
  bl : ∀ x ∈ I.blt, mg x = none
  exc : ∀ (n : Nat) (x : Str), I.xnm[n]? = some x → mg x = some (.ref (xa n)) ∧ PySem.W.keepIn K (.ref (xa n)) = true ∧ PySem.W.subIn K (.ref (xa n)) (.type "BaseException") = some true ∧ PySem.W.typeIn K (.ref (xa n)) = some (.type "type") ∧
    ∃ bmB B newId initId, ExcBaseFacts B newId initId bmB ∧ PySem.W.excIn K (xa n) bmB newId = true
  exm : ∀ c d : Nat, PySem.W.exmOne K (.ref (xa c)) (.ref (xa d)) = some (I.P.sub c d)
theorem fn_ok {P : Program} {w : World} {mg : Str → Option Value} {base : Heap} {n f : Nat} {x q : Str} {params : Arguments} {st : Stmt} {N ps : List Str} {body : List Stm} {mv : Option Nat} {fa : Addr} {fd : FuncData} (L : LF I xa P w K mg)
    (hfns : ∀ (f : Nat) (x : Str) (np : Nat) (kd : Kd), I.fnm[f]? = some x → I.fnp[f]? = some np → I.kd[f]? = some kd → FnR I xa P w K mg base k f x np kd) (hF : I.F = [])
    (F : FunD K x q params (defBody st) (defScope st) [] [] fa fd) (hf : I.P.fns[f]? = some (.py ps.length N.length mv body)) (hc : fchk I n N ps st body = true) :
    FnOk P w K mg base (L2.CX P w) (k + 1) fa fd ps (spF K xa mv ps.length (Py.callF I.P (k + 1) f)) := by
  obtain ⟨S, hle, hb⟩ := fchk_ok hc
  refine F.ok S (fun vs H Q E h => spF_len h) fun cdv A outer s H vs Q E hr hsp => ?_
  obtain ⟨A0, ts, M, hA, hl, ha, hm⟩ := hsp
  have hcall : Py.callF I.P (k + 1) f ts = Py.resOf (Py.exs I.P.C (Py.callF I.P k) I.P.sub body (Py.initE ps.length N.length mv ts)) := by
    show (match I.P.fns[f]? with
    | some (.py np ns mv body) => if ts.length = np then Py.resOf (Py.exs I.P.C (Py.callF I.P k) I.P.sub body (Py.initE np ns mv ts)) else .stuck
    | some (.pyr ns body) => if ts.length = 4 then Py.resR (Py.exs I.P.C (Py.callF I.P k) I.P.sub body (Py.initR ns ts)) else .stuck
    | none => .stuck) = _
    rw [hf]
    exact if_pos hl
  rw [hcall] at hm
  have fs : FS I xa k (cxOf (L2.CX P w) P w K mg base N q (defScope st) fa cdv A outer s H E) N (defScope st) true (fun c _ H' => E (.ref (xa c)) none H') := by
    refine ⟨⟨rfl, S.nd, rfl, fun _ _ => rfl, ?_, L.con, L.bl, fun _ => ⟨rfl, hr⟩, fun _ => hfns, ?_⟩, fun _ => ⟨rfl, rfl, ?_, S.kind⟩, fun n x h => ?_, L.exm⟩
    · have := hr.un
      show (A.deeper (envOfC q (defScope st) s.heap.objs.size fa cdv)).units + 65 < cLine
      omega
    · refine (takes_of (E := E) rfl rfl rfl rfl).imp fun c d σ H ⟨j, e1, e2, z⟩ => ?_
      subst e1
      subst e2
      exact z
    · exact passes_of (K := fun e s'' => L2.CX P w outer H s E e s'') rfl
    · obtain ⟨g1, g2, g3, g4, g5⟩ := L.exc n x h
      exact ⟨g1, g2, raises_own g3 g4, g5⟩
  obtain ⟨t, pt, st'⟩ := sss_all (chkS_ok n) fs ⟨fun b => if M = some b then none else H b, fun _ => none⟩ (fun i v e => by cases e) hb
  refine ⟨t, pt, st' _ H _ _ A0 (init_sr hA hl hle rfl ha) ?_⟩
  exact post_fn (np := ps.length) (ts := ts) hm
theorem initR_get {ns : Nat} {a b c d : T} {j : Nat} {x : Sl} (h : (Py.initR ns [a, b, c, d])[j]? = some x) (hx : x ≠ .un) : (j = 0 ∧ x = .val a) ∨ (j = 1 ∧ x = .val b) ∨ (j = 2 ∧ x = .own c) ∨ (j = 3 ∧ x = .own d) := by
  unfold Py.initR at h
  match j, h with
  | 0, h => exact .inl ⟨rfl, by simpa using h.symm⟩
  | 1, h => exact .inr (.inl ⟨rfl, by simpa using h.symm⟩)
  | 2, h => exact .inr (.inr (.inl ⟨rfl, by simpa using h.symm⟩))
  | 3, h => exact .inr (.inr (.inr ⟨rfl, by simpa using h.symm⟩))
  | j + 4, h =>
    simp only [List.getElem?_cons_succ, List.getElem?_replicate] at h
    split at h
    · exact absurd (Option.some.inj h).symm hx
    · cases h
abbrev baseR (H : Hp) (p q : Addr) : B0 := ⟨fun b => if b = p ∨ b = q then none else H b, fun i => if i = 2 then some (.ref p) else if i = 3 then some (.ref q) else none⟩
theorem init_srR {ns : Nat} {va vb : V} {p q : Addr} {ta tb : T} {us ws : List T} (hn : 4 ≤ ns) (hN : N.length = ns) (hne : p ≠ q) (ra : Rep K H (fun x => x = p ∨ x = q) va ta) (rb : Rep K H (fun x => x = p ∨ x = q) vb tb)
    (rp : RepO K H NoA p (.lst us)) (rq : RepO K H NoA q (.lst ws)) (pu : Py.pureTs us = true) (pw : Py.pureTs ws = true) :
    SR K (baseR H p q) NoA (L2.start N [va, vb, .ref p, .ref q]) H (Py.initR ns [ta, tb, .lst us, .lst ws]) := by
  have hlen : (L2.start N [va, vb, .ref p, .ref q]).length = (Py.initR ns [ta, tb, .lst us, .lst ws]).length := by
    unfold L2.start Py.initR
    simp only [List.length_append, List.length_map, List.length_cons, List.length_nil, List.length_replicate]
    omega
  have ow : ∀ x, Ow (L2.start N [va, vb, .ref p, .ref q]) (Py.initR ns [ta, tb, .lst us, .lst ws]) x → x = p ∨ x = q := fun x ⟨i, t, e1, e2⟩ => by
    rcases initR_get e1 (by simp) with ⟨rfl, z⟩ | ⟨rfl, z⟩ | ⟨rfl, z⟩ | ⟨rfl, z⟩
    · cases z
    · cases z
    · rw [start_get (v := .ref p) rfl] at e2
      cases e2
      exact .inl rfl
    · rw [start_get (v := .ref q) rfl] at e2
      cases e2
      exact .inr rfl
  have av : ∀ x, Av NoA (L2.start N [va, vb, .ref p, .ref q]) (Py.initR ns [ta, tb, .lst us, .lst ws]) x → x = p ∨ x = q := fun x z => z.elim (fun z => z.elim) (ow x)
  refine ⟨hlen, fun x o e => ?_, fun x z => z.elim, fun i t e => ?_, fun i t e => ?_, fun i j t u x e1 e2 e3 e4 => ?_, fun i v e => ?_⟩
  · have e : (if x = p ∨ x = q then none else H x) = some o := e
    split at e
    · cases e
    · exact e
  · rcases initR_get e (by simp) with ⟨rfl, z⟩ | ⟨rfl, z⟩ | ⟨rfl, z⟩ | ⟨rfl, z⟩
    · cases z
      exact ⟨va, start_get rfl, ra.weak fun x _ _ z => av x z⟩
    · cases z
      exact ⟨vb, start_get rfl, rb.weak fun x _ _ z => av x z⟩
    · cases z
    · cases z
  · rcases initR_get e (by simp) with ⟨rfl, z⟩ | ⟨rfl, z⟩ | ⟨rfl, z⟩ | ⟨rfl, z⟩
    · cases z
    · cases z
    · cases z
      exact ⟨p, start_get rfl, if_pos (.inl rfl), fun z => z, rp.pure (by simpa [Py.apartR] using pu)⟩
    · cases z
      exact ⟨q, start_get rfl, if_pos (.inr rfl), fun z => z, rq.pure (by simpa [Py.apartR] using pw)⟩
  · have g2 : (L2.start N [va, vb, .ref p, .ref q])[2]? = some (some (.ref p)) := start_get rfl
    have g3 : (L2.start N [va, vb, .ref p, .ref q])[3]? = some (some (.ref q)) := start_get rfl
    rcases initR_get e1 (by simp) with ⟨rfl, z⟩ | ⟨rfl, z⟩ | ⟨rfl, z⟩ | ⟨rfl, z⟩ <;> first | (cases z; done) | skip
    · rcases initR_get e2 (by simp) with ⟨rfl, z2⟩ | ⟨rfl, z2⟩ | ⟨rfl, z2⟩ | ⟨rfl, z2⟩ <;> first | (cases z2; done) | skip
      · rfl
      · rw [g2] at e3
        rw [g3] at e4
        cases e3
        cases e4
        exact absurd rfl hne
    · rcases initR_get e2 (by simp) with ⟨rfl, z2⟩ | ⟨rfl, z2⟩ | ⟨rfl, z2⟩ | ⟨rfl, z2⟩ <;> first | (cases z2; done) | skip
      · rw [g3] at e3
        rw [g2] at e4
        cases e3
        cases e4
        exact absurd rfl hne
      · rfl
  · have e : (if i = 2 then some (V.ref p) else if i = 3 then some (.ref q) else none) = some v := e
    split at e
    · rename_i h2
      subst h2
      cases e
      exact start_get rfl
    · split at e
      · rename_i h3
        subst h3
        cases e
        exact start_get rfl
      · cases e
theorem outs_ok {ρ : PEnv} {c d : List T} (h : Py.outs2 ρ = .ok (.tmp (.tup [.lst c, .lst d]))) : ρ[2]? = some (.own (.lst c)) ∧ ρ[3]? = some (.own (.lst d)) ∧ Py.pureTs c = true ∧ Py.pureTs d = true := by
  unfold Py.outs2 at h
  split at h
  · rename_i c' d' e1 e2
    split at h
    · rename_i hp
      rw [Bool.and_eq_true] at hp
      cases h
      exact ⟨e1, e2, hp.1, hp.2⟩
    · cases h
  · cases h
theorem outs_form {ρ : PEnv} : (∃ c d, Py.outs2 ρ = .ok (.tmp (.tup [.lst c, .lst d]))) ∨ Py.outs2 ρ = .stuck := by
  unfold Py.outs2
  split
  · split
    · exact .inl ⟨_, _, rfl⟩
    · exact .inr rfl
  · exact .inr rfl
theorem post_fnR {p q : Addr} {Wf : XW} {Q : VK} {res : SRes} (h : match Py.resR res with
    | .ok (.tmp (.tup [.lst c, .lst d])) => ∀ H', (∀ x o, H x = some o → x ≠ p → x ≠ q → H' x = some o) → RepO K H' NoA p (.lst c) → RepO K H' NoA q (.lst d) → Q .non H'
    | _ => False) : PostS K (baseR H p q) Wf NoA res { nx := fun _ H' => Q .non H', rt := Q } := by
  have fin : ∀ {σ' : L2.St} {H' : Hp} {ρ' : PEnv}, SR K (baseR H p q) NoA σ' H' ρ' → (match Py.outs2 ρ' with
    | .ok (.tmp (.tup [.lst c, .lst d])) => ∀ H', (∀ x o, H x = some o → x ≠ p → x ≠ q → H' x = some o) → RepO K H' NoA p (.lst c) → RepO K H' NoA q (.lst d) → Q .non H'
    | _ => False) → Q .non H' := fun {σ' H' ρ'} s h => by
    rcases outs_form (ρ := ρ') with ⟨c, d, e⟩ | e
    · rw [e] at h
      obtain ⟨e1, e2, pc, pd⟩ := outs_ok e
      have f2 : σ'[2]? = some (some (.ref p)) := s.fix 2 _ rfl
      have f3 : σ'[3]? = some (some (.ref q)) := s.fix 3 _ rfl
      obtain ⟨a, a1, _, _, a4⟩ := s.own 2 _ e1
      obtain ⟨b, b1, _, _, b4⟩ := s.own 3 _ e2
      rw [f2] at a1
      rw [f3] at b1
      cases a1
      cases b1
      refine h H' (fun x o e n1 n2 => s.base x o ?_) (a4.pure (by simpa [Py.apartR] using pc)) (b4.pure (by simpa [Py.apartR] using pd))
      show (if x = p ∨ x = q then none else H x) = some o
      rw [if_neg fun z => z.elim n1 n2]
      exact e
    · rw [e] at h
      exact h.elim
  cases res with
  | next ρ' => exact fun σ' H' s => fin s h
  | ret r ρ' =>
    cases r with
    | tmp t =>
      cases t <;> first | exact h.elim | skip
      intro v σ' H' s ro
      have ro : Rep K H' NoA v .non := ro
      cases ro
      exact fin s h
    | new t => exact h.elim
    | slot i => exact h.elim
  | exc c ρ' => exact h.elim
  | stuck => exact h.elim
theorem fn_okR {P : Program} {w : World} {mg : Str → Option Value} {base : Heap} {n f : Nat} {x q : Str} {params : Arguments} {st : Stmt} {N ps : List Str} {body : List Stm} {fa : Addr} {fd : FuncData} (L : LF I xa P w K mg)
    (hfns : ∀ (f : Nat) (x : Str) (np : Nat) (kd : Kd), I.fnm[f]? = some x → I.fnp[f]? = some np → I.kd[f]? = some kd → FnR I xa P w K mg base k f x np kd) (hF : I.F = [2, 3])
    (F : FunD K x q params (defBody st) (defScope st) [] [] fa fd) (h4 : ps.length = 4) (hf : I.P.fns[f]? = some (.pyr N.length body)) (hc : fchk I n N ps st body = true) :
    FnOk P w K mg base (L2.CX P w) (k + 1) fa fd ps (spR K (Py.callF I.P (k + 1) f)) := by
  obtain ⟨S, hle, hb⟩ := fchk_ok hc
  refine F.ok S (fun vs H Q E h => ?_) fun cdv A outer s H vs Q E hr hsp => ?_
  · obtain ⟨_, _, _, _, _, _, _, _, rfl, _⟩ := h
    exact h4.symm
  obtain ⟨va, vb, p0, q0, ta, tb, us, ws, rfl, hne, ra, rb, rp, rq, pu, pw, hm⟩ := hsp
  have hcall : Py.callF I.P (k + 1) f [ta, tb, .lst us, .lst ws] = Py.resR (Py.exs I.P.C (Py.callF I.P k) I.P.sub body (Py.initR N.length [ta, tb, .lst us, .lst ws])) := by
    show (match I.P.fns[f]? with
    | some (.py np ns mv body) => if ([ta, tb, .lst us, .lst ws] : List T).length = np then Py.resOf (Py.exs I.P.C (Py.callF I.P k) I.P.sub body (Py.initE np ns mv [ta, tb, .lst us, .lst ws])) else .stuck
    | some (.pyr ns body) => if ([ta, tb, .lst us, .lst ws] : List T).length = 4 then Py.resR (Py.exs I.P.C (Py.callF I.P k) I.P.sub body (Py.initR ns [ta, tb, .lst us, .lst ws])) else .stuck
    | none => .stuck) = _
    rw [hf]
    exact if_pos rfl
  rw [hcall] at hm
  have fs : FS I xa k (cxOf (L2.CX P w) P w K mg base N q (defScope st) fa cdv A outer s H E) N (defScope st) true (fun c _ H' => E (.ref (xa c)) none H') := by
    refine ⟨⟨rfl, S.nd, rfl, fun _ _ => rfl, ?_, L.con, L.bl, fun _ => ⟨rfl, hr⟩, fun _ => hfns, ?_⟩, fun _ => ⟨rfl, rfl, ?_, S.kind⟩, fun n x h => ?_, L.exm⟩
    · have := hr.un
      show (A.deeper (envOfC q (defScope st) s.heap.objs.size fa cdv)).units + 65 < cLine
      omega
    · refine (takes_of (E := E) rfl rfl rfl rfl).imp fun c d σ H ⟨j, e1, e2, z⟩ => ?_
      subst e1
      subst e2
      exact z
    · exact passes_of (K := fun e s'' => L2.CX P w outer H s E e s'') rfl
    · obtain ⟨g1, g2, g3, g4, g5⟩ := L.exc n x h
      exact ⟨g1, g2, raises_own g3 g4, g5⟩
  have hFr : Fr I (baseR H p0 q0) := fun i v e => by
    have e : (if i = 2 then some (V.ref p0) else if i = 3 then some (.ref q0) else none) = some v := e
    rw [hF]
    split at e
    · rename_i h2
      simp [h2]
    · split at e
      · rename_i h3
        simp [h3]
      · cases e
  obtain ⟨t, pt, st'⟩ := sss_all (chkS_ok n) fs (baseR H p0 q0) hFr hb
  refine ⟨t, pt, st' _ H _ _ NoA (init_srR (by omega) rfl hne ra rb rp rq pu pw) ?_⟩
  exact post_fnR hm
end Sd
set_option Elab.async false
set_option linter.all false
set_option autoImplicit false
set_option maxRecDepth 100000
namespace Sd
open PySem PySem.Spec PyProof.Rows L2
open Py (T Sl R Res CRes SRes Ex Stm W Tg)
structure Df where
  x : Str
  i : Nat
  N : List Str
  np : Nat
  body : List Stm
  kd : Kd := .mv none
def stubB : List Stm → Bool
  | [.exp (.bin .add .non .non)] => true
  | _ => false
def Df.stub (d : Df) : Bool := decide (d.kd = .mv none) && stubB d.body
theorem stub_body {b : List Stm} (h : stubB b = true) : b = [.exp (.bin .add .non .non)] := by
  unfold stubB at h
  split at h
  · rfl
  · cases h
def Df.fd (d : Df) : Py.FD := match d.kd with
  | .mv m => .py d.np d.N.length m d.body
  | .ref => .pyr d.N.length d.body
inductive Cv where
  | int (i : Int) | str (z : Str)
def cvT : Cv → T
  | .int i => .int i
  | .str z => .str z.cps.toList
def cvF (x : Str) : Cv → He.Fa
  | .int i => .int x i
  | .str z => .str x z
structure Law where
  top : Nat → Stmt
  D : List Df
  cst : List (Str × Cv)
  xnm : List Str
  tab : List (List Bool)
  blt : List Str
namespace Law
variable (L : Law)
def cl (n : Nat) : Nat := if n < L.xnm.length then n else 0
def nm (n : Nat) : Str := L.xnm.getD (L.cl n) ⟨#[]⟩
def sb (c d : Nat) : Bool := (L.tab.getD (L.cl c) []).getD (L.cl d) false
def P : Py.Prg := ⟨L.cst.map fun c => cvT c.2, L.D.map Df.fd, L.sb⟩
def I (F : List Nat) : PI := ⟨L.P, L.D.map (·.x), L.D.map (·.np), L.D.map (·.kd), L.cst.map (·.1), L.xnm, L.blt, F⟩
def fxOf : Kd → List Nat
  | .mv _ => []
  | .ref => [2, 3]
def df (d : Df) : He.DefD := ⟨(d.x, none), d.x, d.x, defArgs (L.top d.i), defBody (L.top d.i), defScope (L.top d.i), [], []⟩
def fn : List He.DefD := L.D.map L.df
def fa : List He.Fa := L.D.map (fun d => .glo d.x) ++ (L.blt.map .free ++ (L.cst.map (fun c => cvF c.1 c.2) ++ (L.xnm.map .exc ++ (L.xnm.map .glo ++
  (List.range L.xnm.length).flatMap fun i => (List.range L.xnm.length).map fun j => .exm (L.xnm.getD i ⟨#[]⟩) (L.xnm.getD j ⟨#[]⟩) ((L.tab.getD i []).getD j false)))))
def chk (n : Nat) : Bool := decide (0 < L.xnm.length) && L.D.all fun d => decide (d.np ≤ d.N.length) && (decide (d.kd ≠ .ref) || decide (d.np = 4)) && (d.stub || fchk (L.I (fxOf d.kd)) n d.N (d.N.take d.np) (L.top d.i) d.body)
def Bd (d : Df) : Prop := ∀ (kV doc pm : Value) (an : Option Addr) (cdv ct : Value) (us : List Value), us.length = d.np → bindArgs (PySem.W.fnOf d.x d.x (defArgs (L.top d.i)) (defBody (L.top d.i)) (defScope (L.top d.i)) .none kV doc pm an cdv ct) ⟨us, []⟩ = pure ((d.N.take d.np).zip us)
variable {L}
theorem factM {K : PySem.W.Frag} (c : He.SaysD L.fa L.fn K) {f : He.Fa} (h : f ∈ L.fa) : f.ok K = true := by
  obtain ⟨i, hi⟩ := List.getElem?_of_mem h
  exact c.fact i hi
def xa (L : Law) (K : PySem.W.Frag) (n : Nat) : Addr := He.ga K (L.nm n)
theorem cl_lt (h : 0 < L.xnm.length) (n : Nat) : L.cl n < L.xnm.length := by
  unfold cl
  split
  · assumption
  · exact h
theorem lf {K : PySem.W.Frag} {h : Heap} {mg : Str → Option Value} {P : Program} {w : World} (X : K.In h) (G : h.Ns mainGlobals mg) (c : He.SaysD L.fa L.fn K) (hx : 0 < L.xnm.length) (F : List Nat) : LF (L.I F) (L.xa K) P w K mg := by
  refine ⟨fun j x e => ?_, fun x hx => ?_, fun n x e => ?_, fun c1 d1 => ?_⟩
  · have e : (L.cst.map (·.1))[j]? = some x := e
    rw [List.getElem?_map] at e
    obtain ⟨⟨y, v⟩, e1, e2⟩ := Option.map_eq_some_iff.mp e
    replace e2 : y = x := e2
    subst e2
    have m : cvF y v ∈ L.fa := by
      unfold fa
      exact List.mem_append_right _ (List.mem_append_right _ (List.mem_append_left _ (List.mem_map.mpr ⟨(y, v), List.mem_of_getElem? e1, rfl⟩)))
    have eC : (L.I F).P.C[j]? = some (cvT v) := by
      show (L.cst.map fun c => cvT c.2)[j]? = _
      rw [List.getElem?_map, e1]
      rfl
    cases v with
    | int i =>
      obtain ⟨t, e3⟩ := He.int_ok X G (factM c m)
      exact ⟨_, .int i, _, e3, ⟨t, rfl⟩, eC, fun _ _ => .int i⟩
    | str z =>
      obtain ⟨t, e3⟩ := He.str_ok X G (factM c m)
      exact ⟨_, .str z, _, e3, ⟨t, rfl⟩, eC, fun _ _ => .str z⟩
  · refine He.free_ok X G (factM c ?_)
    unfold fa
    exact List.mem_append_right _ (List.mem_append_left _ (List.mem_map.mpr ⟨x, hx, rfl⟩))
  · have e : L.xnm[n]? = some x := e
    have hl : n < L.xnm.length := (List.getElem?_eq_some_iff.mp e).1
    have en : L.nm n = x := by
      unfold nm cl
      rw [if_pos hl, List.getD_eq_getElem?_getD, e]
      rfl
    have mem := List.mem_of_getElem? e
    have m1 : He.Fa.exc x ∈ L.fa := by
      unfold fa
      exact List.mem_append_right _ (List.mem_append_right _ (List.mem_append_right _ (List.mem_append_left _ (List.mem_map.mpr ⟨x, mem, rfl⟩))))
    have m2 : He.Fa.glo x ∈ L.fa := by
      unfold fa
      exact List.mem_append_right _ (List.mem_append_right _ (List.mem_append_right _ (List.mem_append_right _ (List.mem_append_left _ (List.mem_map.mpr ⟨x, mem, rfl⟩)))))
    obtain ⟨g1, g2, g3, g4⟩ := He.exc_ok (factM c m1)
    have ex : L.xa K n = He.ga K x := by
      unfold xa
      rw [en]
    rw [ex]
    exact ⟨He.glo_ok X G (factM c m2), g2, g3, g4, He.veBase, _, _, _, PySem.F.excBase_ValueError, g1⟩
  · have m : He.Fa.exm (L.nm c1) (L.nm d1) (L.sb c1 d1) ∈ L.fa := by
      unfold fa
      refine List.mem_append_right _ (List.mem_append_right _ (List.mem_append_right _ (List.mem_append_right _ (List.mem_append_right _ ?_))))
      refine List.mem_flatMap.mpr ⟨L.cl c1, List.mem_range.mpr (cl_lt hx c1), List.mem_map.mpr ⟨L.cl d1, List.mem_range.mpr (cl_lt hx d1), rfl⟩⟩
    exact He.exm_ok (factM c m)
theorem def_at {K : PySem.W.Frag} (c : He.SaysD L.fa L.fn K) {f : Nat} {d : Df} (h : L.D[f]? = some d) : ∃ fd, FunD K d.x d.x (defArgs (L.top d.i)) (defBody (L.top d.i)) (defScope (L.top d.i)) [] [] (He.ga K d.x) fd := by
  have e : L.fn[f]? = some (L.df d) := by
    unfold fn
    rw [List.getElem?_map, h]
    rfl
  exact c.def_ f e
theorem glo_at {K : PySem.W.Frag} {h : Heap} {mg : Str → Option Value} (X : K.In h) (G : h.Ns mainGlobals mg) (c : He.SaysD L.fa L.fn K) {f : Nat} {d : Df} (e : L.D[f]? = some d) : mg d.x = some (.ref (He.ga K d.x)) := by
  refine He.glo_ok X G (factM c ?_)
  unfold fa
  exact List.mem_append_left _ (List.mem_map.mpr ⟨d, List.mem_of_getElem? e, rfl⟩)
theorem chk_at {n : Nat} (hc : L.chk n = true) {f : Nat} {d : Df} (e : L.D[f]? = some d) : d.np ≤ d.N.length ∧ (d.kd = .ref → d.np = 4) ∧ (d.stub = true ∨ fchk (L.I (fxOf d.kd)) n d.N (d.N.take d.np) (L.top d.i) d.body = true) := by
  unfold chk at hc
  rw [Bool.and_eq_true, List.all_eq_true] at hc
  have := hc.2 d (List.mem_of_getElem? e)
  simp only [Bool.and_eq_true, Bool.or_eq_true, decide_eq_true_eq] at this
  exact ⟨this.1.1, fun z => this.1.2.elim (fun q => absurd z q) id, this.2⟩
theorem chk_pos {n : Nat} (hc : L.chk n = true) : 0 < L.xnm.length := by
  unfold chk at hc
  rw [Bool.and_eq_true, decide_eq_true_eq] at hc
  exact hc.1
theorem fn_at {n : Nat} {K : PySem.W.Frag} {h : Heap} {mg : Str → Option Value} {P : Program} {w : World} {base : Heap} (hc : L.chk n = true) (hb : ∀ (f : Nat) (d : Df), L.D[f]? = some d → L.Bd d) (X : K.In h) (G : h.Ns mainGlobals mg) (c : He.SaysD L.fa L.fn K) :
    ∀ (k f : Nat) (d : Df), L.D[f]? = some d → ∀ fd, FunD K d.x d.x (defArgs (L.top d.i)) (defBody (L.top d.i)) (defScope (L.top d.i)) [] [] (He.ga K d.x) fd →
      FnOk P w K mg base (L2.CX P w) k (He.ga K d.x) fd (d.N.take d.np) (spK K (L.xa K) d.np (Py.callF L.P k f) d.kd)
  | k, f, d, e => fun fd F => by
    obtain ⟨hle, h4, hf⟩ := chk_at hc e
    have lt : (d.N.take d.np).length = d.np := by rw [List.length_take]; omega
    cases k with
    | zero =>
      cases hk : d.kd with
      | mv m =>
        refine ⟨fun vs H Q E h => (spF_len (show spF K (L.xa K) m d.np (Py.callF L.P 0 f) vs H Q E from h)).trans lt.symm, fun A outer s H args us vs Q E _ _ _ _ hsp => ?_⟩
        obtain ⟨_, _, _, _, _, _, hm⟩ := hsp
        exact hm.elim
      | ref =>
        refine ⟨fun vs H Q E h => ?_, fun A outer s H args us vs Q E _ _ _ _ hsp => ?_⟩
        · obtain ⟨_, _, _, _, _, _, _, _, rfl, _⟩ := h
          rw [lt, h4 hk]
          rfl
        · obtain ⟨_, _, _, _, _, _, _, _, _, _, _, _, _, _, _, _, hm⟩ := hsp
          exact hm.elim
    | succ k =>
      have hfns : ∀ (F : List Nat) (f : Nat) (x : Str) (np : Nat) (kd : Kd), (L.I F).fnm[f]? = some x → (L.I F).fnp[f]? = some np → (L.I F).kd[f]? = some kd → FnR (L.I F) (L.xa K) P w K mg base k f x np kd := fun F f x np kd h1 h2 h3 => by
        have h1 : (L.D.map (·.x))[f]? = some x := h1
        have h2 : (L.D.map (·.np))[f]? = some np := h2
        have h3 : (L.D.map (·.kd))[f]? = some kd := h3
        rw [List.getElem?_map] at h1 h2 h3
        obtain ⟨d2, e1, rfl⟩ := Option.map_eq_some_iff.mp h1
        rw [e1] at h2 h3
        cases h2
        cases h3
        obtain ⟨fd2, F2⟩ := def_at c e1
        obtain ⟨hle2, _, _⟩ := chk_at hc e1
        have lt2 : (d2.N.take d2.np).length = d2.np := by rw [List.length_take]; omega
        exact ⟨_, fd2, _, fn_at hc hb X G c k f d2 e1 fd2 F2, glo_at X G c e1, F2.kp, F2.bindsN fun kV doc pm an cdv ct us hl => hb f d2 e1 kV doc pm an cdv ct us (hl.trans lt2)⟩
      have hfd : L.P.fns[f]? = some d.fd := by
        show (L.D.map Df.fd)[f]? = _
        rw [List.getElem?_map, e]
        rfl
      rcases hf with hst | hf
      · unfold Df.stub at hst
        simp only [Bool.and_eq_true, decide_eq_true_eq] at hst
        obtain ⟨hk, hbody⟩ := hst
        have hbody := stub_body hbody
        have st : ∀ ts, Py.callF L.P (k + 1) f ts = .stuck := fun ts => by
          have e2 : L.P.fns[f]? = some (.py d.np d.N.length none [.exp (.bin .add .non .non)]) := by
            rw [hfd]
            unfold Df.fd
            rw [hk, hbody]
          show (match L.P.fns[f]? with
            | some (.py np ns mv body) => if ts.length = np then Py.resOf (Py.exs L.P.C (Py.callF L.P k) L.P.sub body (Py.initE np ns mv ts)) else .stuck
            | some (.pyr ns body) => if ts.length = 4 then Py.resR (Py.exs L.P.C (Py.callF L.P k) L.P.sub body (Py.initR ns ts)) else .stuck
            | none => .stuck) = _
          rw [e2]
          show (if ts.length = d.np then _ else _) = _
          split
          · rfl
          · rfl
        rw [hk]
        refine ⟨fun vs H Q E h => (spF_len (show spF K (L.xa K) none d.np (Py.callF L.P (k + 1) f) vs H Q E from h)).trans lt.symm, fun A outer s H args us vs Q E _ _ _ _ hsp => ?_⟩
        obtain ⟨_, _, _, _, _, _, hm⟩ := hsp
        rw [st] at hm
        exact hm.elim
      cases hk : d.kd with
      | mv m =>
        rw [hk] at hf
        have hP : (L.I []).P.fns[f]? = some (.py (d.N.take d.np).length d.N.length m d.body) := by
          show L.P.fns[f]? = _
          rw [hfd, lt]
          unfold Df.fd
          rw [hk]
        have q := fn_ok (I := L.I []) (xa := L.xa K) (base := base) (lf (P := P) (w := w) X G c (chk_pos hc) []) (hfns []) rfl F hP hf
        rw [lt] at q
        exact q
      | ref =>
        rw [hk] at hf
        have hP : (L.I [2, 3]).P.fns[f]? = some (.pyr d.N.length d.body) := by
          show L.P.fns[f]? = _
          rw [hfd]
          unfold Df.fd
          rw [hk]
        exact fn_okR (I := L.I [2, 3]) (xa := L.xa K) (base := base) (lf (P := P) (w := w) X G c (chk_pos hc) [2, 3]) (hfns [2, 3]) rfl F (lt.trans (h4 hk)) hP hf
theorem fn_cx0 {P : Program} {w : World} {K : PySem.W.Frag} {mg : Str → Option Value} {base : Heap} {k : Nat} {f : Addr} {fd : FuncData} {ps : List Str} {sp : Sp} (F : FnOk P w K mg base (L2.CX P w) k f fd ps sp) : FnOk P w K mg base CX0 k f fd ps (fun vs H Q _ => sp vs H Q fun _ _ _ => False) :=
  ⟨fun vs H Q E h => F.len vs H Q _ h, fun A outer s H args us vs Q E hr e0 hb r hsp => codeAny_mono (F.run A outer s H args us vs Q _ hr e0 hb r hsp) fun r s' h => by
    cases r with
    | ok fl => cases fl <;> exact h
    | error e =>
      obtain ⟨_, _, _, _, _, _, _, _, _, _, _, _, z⟩ := h
      exact z.elim⟩
theorem law_at {n k lf : Nat} {d : Df} {x : Str} {K : PySem.W.Frag} {h : Heap} {mg : Str → Option Value} {P : Program} {w : World} (hc : L.chk n = true) (hb : ∀ (f : Nat) (d : Df), L.D[f]? = some d → L.Bd d) (X : K.In h) (G : h.Ns mainGlobals mg) (c : He.SaysD L.fa L.fn K)
    (hd : L.D[lf]? = some d) (hkd : d.kd = .mv none) (hn : d.np = 1) (hx : d.N.take d.np = [x]) (hlaw : ∀ ns : List Int, ns.length ≤ 63 → Py.callF L.P k lf [.scr ns] = .ok (.tmp (.bl true))) :
    ∃ (fd : FuncData) (sp : Sp), (∀ (s : Shared) (u : Value), BindsTo s fd ⟨[u], []⟩ [(x, u)]) ∧
      (∀ (H : Hp) (a : Addr) (ns : List Int), ns.length ≤ 63 → Only H → SqL K H a (ns.map V.int) → sp [.ref a] H (fun v _ => v = .bl true) fun _ _ _ => False) ∧
      ∀ base : Heap, FnOk P w K mg base CX0 k (He.ga K d.x) fd [x] sp := by
  obtain ⟨fd, F⟩ := def_at c hd
  obtain ⟨hle, _, _⟩ := chk_at hc hd
  have lt : (d.N.take d.np).length = d.np := by rw [List.length_take]; omega
  refine ⟨fd, fun vs H Q _ => spF K (L.xa K) none d.np (Py.callF L.P k lf) vs H Q fun _ _ _ => False, fun s u => ?_, fun H a ns hl hO hS => ?_, fun base => ?_⟩
  · have b := F.bindsA (ps := d.N.take d.np) (fun kV doc pm an cdv ct us hl => hb lf d hd kV doc pm an cdv ct us (hl.trans lt)) s [u] (by rw [lt, hn]; rfl)
    rw [hx] at b
    exact b
  · refine ⟨NoA, [.scr ns], none, fun _ z => z.elim, by rw [hn]; rfl, ⟨rfl, .cons ?_ .nil⟩, ?_⟩
    · rcases hS with (hS | ⟨o, hS⟩) | hS
      · rcases hO a with z | ⟨o, xs, z⟩
        · rw [z] at hS
          cases hS
        · rw [z] at hS
          cases hS
      · exact .scrF hS fun z => z
      · exact .scrK fun H' => .inr hS
    · rw [hlaw ns hl]
      intro v H' _ r
      cases r
      rfl
  · have q := fn_at (P := P) (w := w) (base := base) hc hb X G c k lf d hd fd F
    rw [hx, hkd] at q
    exact fn_cx0 q
end Law
end Sd
set_option Elab.async false
set_option linter.all false
set_option maxRecDepth 100000
set_option maxHeartbeats 0
namespace Rw
open PySem PySem.Spec PyProof.Rows L2 Sd
def top (i : Nat) : Stmt := PySem.Challenge.pw_onefile_k01_programs.main.body.getD i (.Pass ⟨0, 0, 0, 0⟩)
def X : Py.Ix := {is_word := 0, is_figure := 1, room := 2, is_expression := 3, is_row := 4, names_in := 5, own_names := 6, given_names := 7, used_names := 8, is_module := 9, look := 10, module_of := 11, row_of := 12, giving := 13, home_of_given := 14, home_of := 15, checked := 16, look_module := 17, visited := 18, order_of := 19, order := 20, given_homes := 21, needed_of := 22, homes_in_order := 23, kept := 24, word_at := 25, turned := 26, bundle := 27, expression_text := 28, row_text := 29, text_of := 30, shown := 31, law_cell := 32, law_seed := 33, law_pick := 34, law_expression := 35, law_gives := 36, law_module := 37, law_filled := 38, law_program := 39, home := 999, users := 999, law_rows := 999, law_home := 999, law_given_home := 999, value_of := 999, run_of := 999, run := 999, law_order := 999, law_value := 999, law_run := 999, law_names := 999, law_kept := 999, law_too_long := 999, law_refused := 999, law_whole := 999, law_turned := 999, dead := 999, law_mix := 999, new_word := 999, new_expression := 999, new_row := 999, renamed := 999, law_exchanged := 999, leaf_of := 999, expression_at := 999, expression_of := 999, row_of_text := 999, read := 999, law_expression_text := 999, law_module_text := 999, law_all := 999, law_deeds_of := 999, law_kinds_of := 999, law_asks := 999, law_is_taken := 999, look_expression := 999, names_of := 999, worth_of := 999, look_values := 999, worth := 999, folded_of := 999, folded := 999, put_in_of := 999, put_in := 999, law_book := 999, law_worth := 999, law_folded := 999, law_put := 999, law_parts := 999, law_drawn := 999, law_tried := 999, trace := 999, values_of := 999, law_trace := 999, web_of := 999, reached := 999, needs := 999, loops := 999, idle := 999, only := 999, starts := 999, law_wants := 999, law_lots := 999, looked := 999, called := 999, law_called_otherwise := 999, law_bench := 999, law_checked := 999, law_changed := 999, law_some_deed := 999, wall := 999, law_asked_of := 999, law_asked_word := 999, cSMALL := 0, cPRIME := 1, cMOST_PARTS := 2, cMOST_ROWS := 3, cMOST_MODULES := 4, cFIGURES := 999, xFileError := 0, xBadProgram := 1, xMissing := 2, xRinged := 3, xNoModule := 4, xBadName := 5, xBadText := 999, xBadExpression := 999, xNothing := 999}
def d0 : Df := ⟨"is_word", 13, ["thing", "sign"], 1, Py.b_is_word X, .mv none⟩
def d1 : Df := ⟨"is_figure", 14, ["thing"], 1, Py.b_is_figure X, .mv none⟩
def d2 : Df := ⟨"room", 15, ["thing", "left"], 2, Py.b_room X, .mv none⟩
def d3 : Df := ⟨"is_expression", 16, ["thing"], 1, Py.b_is_expression X, .mv none⟩
def d4 : Df := ⟨"is_row", 17, ["thing", "sizes", "word"], 1, Py.b_is_row X, .mv none⟩
def d5 : Df := ⟨"names_in", 18, ["expression"], 1, Py.b_names_in X, .mv none⟩
def d6 : Df := ⟨"own_names", 19, ["module", "row"], 1, Py.b_own_names X, .mv none⟩
def d7 : Df := ⟨"given_names", 20, ["module", "row"], 1, Py.b_given_names X, .mv none⟩
def d8 : Df := ⟨"used_names", 21, ["module", "found", "row"], 1, Py.b_used_names X, .mv none⟩
def d9 : Df := ⟨"is_module", 22, ["thing", "row", "own", "given", "name"], 1, Py.b_is_module X, .mv none⟩
def d10 : Df := ⟨"look", 23, ["program", "one", "names"], 1, Py.b_look X, .mv none⟩
def d11 : Df := ⟨"module_of", 24, ["program", "name", "one"], 2, Py.b_module_of X, .mv none⟩
def d12 : Df := ⟨"row_of", 26, ["module", "name", "row"], 2, Py.b_row_of X, .mv none⟩
def d13 : Df := ⟨"giving", 27, ["module", "name", "row"], 2, Py.b_giving X, .mv none⟩
def d14 : Df := ⟨"home_of_given", 28, ["program", "place", "name", "met", "module", "row", "own"], 3, Py.b_home_of_given X, .mv none⟩
def d15 : Df := ⟨"home_of", 29, ["program", "place", "name", "row"], 3, Py.b_home_of X, .mv none⟩
def d16 : Df := ⟨"checked", 30, ["program", "module", "row"], 1, Py.b_checked X, .mv none⟩
def d17 : Df := ⟨"look_module", 31, ["program", "name"], 2, Py.b_look_module X, .mv none⟩
def d18 : Df := ⟨"visited", 33, ["program", "place", "met", "found", "row"], 4, Py.b_visited X, .ref⟩
def d19 : Df := ⟨"order_of", 34, ["program", "place", "found"], 2, Py.b_order_of X, .mv none⟩
def d20 : Df := ⟨"order", 35, ["program", "place"], 2, Py.b_order X, .mv none⟩
def d21 : Df := ⟨"given_homes", 36, ["program", "place", "found", "row"], 2, Py.b_given_homes X, .mv none⟩
def d22 : Df := ⟨"needed_of", 38, ["program", "place", "todo", "name", "there", "one", "row", "found"], 2, Py.b_needed_of X, .mv none⟩
def d23 : Df := ⟨"homes_in_order", 39, ["program", "place", "found", "one", "row"], 2, Py.b_homes_in_order X, .mv none⟩
def d24 : Df := ⟨"kept", 40, ["program", "place", "needed", "there"], 2, Py.b_kept X, .mv none⟩
def d25 : Df := ⟨"word_at", 41, ["number"], 1, Py.b_word_at X, .mv none⟩
def d26 : Df := ⟨"turned", 42, ["program", "place", "expression", "names", "one"], 4, Py.b_turned X, .mv none⟩
def d27 : Df := ⟨"bundle", 43, ["program", "place", "name", "names", "there", "rows", "one", "row", "given"], 3, Py.b_bundle X, .mv none⟩
def d28 : Df := ⟨"expression_text", 46, ["expression"], 1, [.exp (.bin .add .non .non)], .mv none⟩
def d29 : Df := ⟨"row_text", 47, ["row"], 1, [.exp (.bin .add .non .non)], .mv none⟩
def d30 : Df := ⟨"text_of", 48, ["program"], 1, [.exp (.bin .add .non .non)], .mv none⟩
def d31 : Df := ⟨"shown", 49, ["program"], 1, Py.b_shown X, .mv none⟩
def d32 : Df := ⟨"_law_cell", 51, ["_law_script", "_law_k"], 2, Py.b_law_cell X, .mv none⟩
def d33 : Df := ⟨"_law_seed", 52, ["_law_seed_here", "_law_k"], 2, Py.b_law_seed X, .mv none⟩
def d34 : Df := ⟨"_law_pick", 53, ["_law_seed_here", "_law_many"], 2, Py.b_law_pick X, .mv none⟩
def d35 : Df := ⟨"_law_expression", 54, ["_law_seed_here", "_law_names", "_law_deep", "_law_pick_here", "_law_one"], 3, Py.b_law_expression X, .mv none⟩
def d36 : Df := ⟨"_law_gives", 55, ["_law_k"], 1, Py.b_law_gives X, .mv none⟩
def d37 : Df := ⟨"_law_module", 56, ["_law_seed_here", "_law_k", "_law_many", "_law_is_ring", "_law_others", "_law_j", "_law_rows", "_law_own", "_law_one", "_law_other", "_law_known", "_law_i", "_law_expression_here"], 4, Py.b_law_module X, .mv none⟩
def d38 : Df := ⟨"_law_filled", 57, ["_law_seed_here", "_law_k", "_law_rows", "_law_own", "_law_others", "_law_is_ring", "_law_j", "_law_one", "_law_row", "_law_at", "_law_name", "_law_some", "_law_later"], 5, Py.b_law_filled X, .mv (some 2)⟩
def d39 : Df := ⟨"_law_program", 58, ["_law_script", "_law_at", "_law_seed_here", "_law_many", "_law_is_ring", "_law_found", "_law_k", "_law_turn"], 2, Py.b_law_program X, .mv none⟩
def d40 : Df := ⟨"law", 59, ["_law_script", "_law_program_here", "_law_at", "_law_name", "_law_rows", "_law_deep", "_law_k", "_law_some", "_law_row", "_law_odd", "_law_bad", "_law_whole_ones", "_law_caught", "_law_way"], 1, Py.b_lawk01 X, .mv none⟩
def D0 : List Df := [d0, d1, d2, d3, d4, d5, d6, d7, d8, d9, d10, d11, d12, d13, d14, d15, d16, d17, d18, d19]
def D1 : List Df := [d20, d21, d22, d23, d24, d25, d26, d27, d28, d29, d30, d31, d32, d33, d34, d35, d36, d37, d38, d39]
def D2 : List Df := [d40]
def D : List Df := D0 ++ D1 ++ D2
def L : Law := ⟨top, D, [("SMALL", .str "abcdefghijklmnopqrstuvwxyz"), ("PRIME", .int 10007), ("MOST_PARTS", .int 15), ("MOST_ROWS", .int 60), ("MOST_MODULES", .int 6)], ["FileError", "BadProgram", "Missing", "Ringed", "NoModule", "BadName"], [[true, false, false, false, false, false], [true, true, false, false, false, false], [true, false, true, false, false, false], [true, false, false, true, false, false], [true, false, false, false, true, false], [true, false, false, false, false, true]], ["bool", "enumerate", "int", "isinstance", "len", "list", "range", "set", "sorted", "str", "sum", "tuple"]⟩
theorem chk : L.chk 60 = true := by decide +kernel
theorem b0 : L.Bd d0 := fun _ _ _ _ _ _ us hl => match us, hl with | [_], _ => by kernel_rfl
theorem b1 : L.Bd d1 := fun _ _ _ _ _ _ us hl => match us, hl with | [_], _ => by kernel_rfl
theorem b2 : L.Bd d2 := fun _ _ _ _ _ _ us hl => match us, hl with | [_, _], _ => by kernel_rfl
theorem b3 : L.Bd d3 := fun _ _ _ _ _ _ us hl => match us, hl with | [_], _ => by kernel_rfl
theorem b4 : L.Bd d4 := fun _ _ _ _ _ _ us hl => match us, hl with | [_], _ => by kernel_rfl
theorem b5 : L.Bd d5 := fun _ _ _ _ _ _ us hl => match us, hl with | [_], _ => by kernel_rfl
theorem b6 : L.Bd d6 := fun _ _ _ _ _ _ us hl => match us, hl with | [_], _ => by kernel_rfl
theorem b7 : L.Bd d7 := fun _ _ _ _ _ _ us hl => match us, hl with | [_], _ => by kernel_rfl
theorem b8 : L.Bd d8 := fun _ _ _ _ _ _ us hl => match us, hl with | [_], _ => by kernel_rfl
theorem b9 : L.Bd d9 := fun _ _ _ _ _ _ us hl => match us, hl with | [_], _ => by kernel_rfl
theorem b10 : L.Bd d10 := fun _ _ _ _ _ _ us hl => match us, hl with | [_], _ => by kernel_rfl
theorem b11 : L.Bd d11 := fun _ _ _ _ _ _ us hl => match us, hl with | [_, _], _ => by kernel_rfl
theorem b12 : L.Bd d12 := fun _ _ _ _ _ _ us hl => match us, hl with | [_, _], _ => by kernel_rfl
theorem b13 : L.Bd d13 := fun _ _ _ _ _ _ us hl => match us, hl with | [_, _], _ => by kernel_rfl
theorem b14 : L.Bd d14 := fun _ _ _ _ _ _ us hl => match us, hl with | [_, _, _], _ => by kernel_rfl
theorem b15 : L.Bd d15 := fun _ _ _ _ _ _ us hl => match us, hl with | [_, _, _], _ => by kernel_rfl
theorem b16 : L.Bd d16 := fun _ _ _ _ _ _ us hl => match us, hl with | [_], _ => by kernel_rfl
theorem b17 : L.Bd d17 := fun _ _ _ _ _ _ us hl => match us, hl with | [_, _], _ => by kernel_rfl
theorem b18 : L.Bd d18 := fun _ _ _ _ _ _ us hl => match us, hl with | [_, _, _, _], _ => by kernel_rfl
theorem b19 : L.Bd d19 := fun _ _ _ _ _ _ us hl => match us, hl with | [_, _], _ => by kernel_rfl
theorem b20 : L.Bd d20 := fun _ _ _ _ _ _ us hl => match us, hl with | [_, _], _ => by kernel_rfl
theorem b21 : L.Bd d21 := fun _ _ _ _ _ _ us hl => match us, hl with | [_, _], _ => by kernel_rfl
theorem b22 : L.Bd d22 := fun _ _ _ _ _ _ us hl => match us, hl with | [_, _], _ => by kernel_rfl
theorem b23 : L.Bd d23 := fun _ _ _ _ _ _ us hl => match us, hl with | [_, _], _ => by kernel_rfl
theorem b24 : L.Bd d24 := fun _ _ _ _ _ _ us hl => match us, hl with | [_, _], _ => by kernel_rfl
theorem b25 : L.Bd d25 := fun _ _ _ _ _ _ us hl => match us, hl with | [_], _ => by kernel_rfl
theorem b26 : L.Bd d26 := fun _ _ _ _ _ _ us hl => match us, hl with | [_, _, _, _], _ => by kernel_rfl
theorem b27 : L.Bd d27 := fun _ _ _ _ _ _ us hl => match us, hl with | [_, _, _], _ => by kernel_rfl
theorem b28 : L.Bd d28 := fun _ _ _ _ _ _ us hl => match us, hl with | [_], _ => by kernel_rfl
theorem b29 : L.Bd d29 := fun _ _ _ _ _ _ us hl => match us, hl with | [_], _ => by kernel_rfl
theorem b30 : L.Bd d30 := fun _ _ _ _ _ _ us hl => match us, hl with | [_], _ => by kernel_rfl
theorem b31 : L.Bd d31 := fun _ _ _ _ _ _ us hl => match us, hl with | [_], _ => by kernel_rfl
theorem b32 : L.Bd d32 := fun _ _ _ _ _ _ us hl => match us, hl with | [_, _], _ => by kernel_rfl
theorem b33 : L.Bd d33 := fun _ _ _ _ _ _ us hl => match us, hl with | [_, _], _ => by kernel_rfl
theorem b34 : L.Bd d34 := fun _ _ _ _ _ _ us hl => match us, hl with | [_, _], _ => by kernel_rfl
theorem b35 : L.Bd d35 := fun _ _ _ _ _ _ us hl => match us, hl with | [_, _, _], _ => by kernel_rfl
theorem b36 : L.Bd d36 := fun _ _ _ _ _ _ us hl => match us, hl with | [_], _ => by kernel_rfl
theorem b37 : L.Bd d37 := fun _ _ _ _ _ _ us hl => match us, hl with | [_, _, _, _], _ => by kernel_rfl
theorem b38 : L.Bd d38 := fun _ _ _ _ _ _ us hl => match us, hl with | [_, _, _, _, _], _ => by kernel_rfl
theorem b39 : L.Bd d39 := fun _ _ _ _ _ _ us hl => match us, hl with | [_, _], _ => by kernel_rfl
theorem b40 : L.Bd d40 := fun _ _ _ _ _ _ us hl => match us, hl with | [_], _ => by kernel_rfl
theorem bd : ∀ (f : Nat) (d : Df), L.D[f]? = some d → L.Bd d := by
  intro f d h
  match f, h with
  | 0, h => cases h; exact b0
  | 1, h => cases h; exact b1
  | 2, h => cases h; exact b2
  | 3, h => cases h; exact b3
  | 4, h => cases h; exact b4
  | 5, h => cases h; exact b5
  | 6, h => cases h; exact b6
  | 7, h => cases h; exact b7
  | 8, h => cases h; exact b8
  | 9, h => cases h; exact b9
  | 10, h => cases h; exact b10
  | 11, h => cases h; exact b11
  | 12, h => cases h; exact b12
  | 13, h => cases h; exact b13
  | 14, h => cases h; exact b14
  | 15, h => cases h; exact b15
  | 16, h => cases h; exact b16
  | 17, h => cases h; exact b17
  | 18, h => cases h; exact b18
  | 19, h => cases h; exact b19
  | 20, h => cases h; exact b20
  | 21, h => cases h; exact b21
  | 22, h => cases h; exact b22
  | 23, h => cases h; exact b23
  | 24, h => cases h; exact b24
  | 25, h => cases h; exact b25
  | 26, h => cases h; exact b26
  | 27, h => cases h; exact b27
  | 28, h => cases h; exact b28
  | 29, h => cases h; exact b29
  | 30, h => cases h; exact b30
  | 31, h => cases h; exact b31
  | 32, h => cases h; exact b32
  | 33, h => cases h; exact b33
  | 34, h => cases h; exact b34
  | 35, h => cases h; exact b35
  | 36, h => cases h; exact b36
  | 37, h => cases h; exact b37
  | 38, h => cases h; exact b38
  | 39, h => cases h; exact b39
  | 40, h => cases h; exact b40
  | _ + 41, h => cases h
def loose0 : List PySem.Str := ["is_word", "is_figure", "room", "is_expression", "is_row", "names_in", "own_names", "given_names", "used_names", "is_module", "look", "module_of", "row_of", "giving", "home_of_given", "home_of", "checked", "look_module", "visited", "order_of"]
def loose1 : List PySem.Str := ["order", "given_homes", "needed_of", "homes_in_order", "kept", "word_at", "turned", "bundle", "expression_text", "row_text", "text_of", "shown", "_law_cell", "_law_seed", "_law_pick", "_law_expression", "_law_gives", "_law_module", "_law_filled", "_law_program"]
def loose2 : List PySem.Str := ["FileError", "BadProgram", "Missing", "Ringed", "NoModule", "BadName", "SMALL", "PRIME", "MOST_PARTS", "MOST_ROWS", "MOST_MODULES", "SIGNS"]
def loose : List PySem.Str := loose0 ++ loose1 ++ loose2
abbrev R : PySem.W.OpenRow := PySem.W.OpenLaw.row PySem.Challenge.rw_onefile_k01_programs
abbrev ts : List He.Tab := [(fun K => He.ga K "SIGNS", ["plus", "times"])]
abbrev hk : PySem.W.Hook := He.hookT 4 L.fa L.fn ts
def ob (s : PySem.W.SharedT) : He.AlT := He.obsTG 4 L.fa L.fn ts (HandSHeadRun.getT s)
theorem ob_eq (s : PySem.W.SharedT) : ob s = hk.obs s.abs := He.obsTG_eq (HandSHeadRun.getT_eq s)
theorem run0 (w : World) : HandSHeadRun.RunEq R (PySem.W.view R.prog [59]) hk ob 4000 loose (w.withFollow "special-get-raises" false) := by
  intro os
  kernel_rfl
theorem run1 (w : World) : HandSHeadRun.RunEq R (PySem.W.view R.prog [59]) hk ob 4000 loose (w.withFollow "special-get-raises" true) := by
  intro os
  kernel_rfl
theorem run (w : World) : HandSHeadRun.RunEq R (PySem.W.view R.prog [59]) hk ob 4000 loose w := PySem.W.byRow2 "special-get-raises" (P := HandSHeadRun.RunEq R (PySem.W.view R.prog [59]) hk ob 4000 loose) run0 run1 w
end Rw
open PySem PySem.W PySem.Calls PyProof.Rows
theorem holds_of (hlaw : ∀ ns : List Int, ns.length ≤ 63 → Py.callF Rw.L.P 60 40 [.scr ns] = .ok (.tmp (.bl true))) : PySem.Challenge.rw_onefile_k01_programs.Holds := by
  w_on; o_law
  refine HandSHeadRun.head_any (r := OpenLaw.row PySem.Challenge.rw_onefile_k01_programs) (q := view (OpenLaw.row PySem.Challenge.rw_onefile_k01_programs).prog [59]) (H := Rw.hk) (ob := Rw.ob) (M := 4000) (loose := Rw.loose) (d := HandSHeadRun.topDef (OpenLaw.row PySem.Challenge.rw_onefile_k01_programs).prog 59) (kwd := []) Rw.ob_eq
    (by kernel_rfl) (fun s => by kernel_rfl) Rw.run (by kernel_rfl) (by kernel_rfl) (by kernel_rfl) (by rfl) (by first | assumption | decide +kernel) (by decide +kernel) ⟨rfl, rfl, rfl, rfl, rfl, by decide +kernel⟩ ?hw ?hc
  case hw => w_witness2
  case hc =>
    refine L2.walk_ofE (l := PySem.Challenge.rw_onefile_k01_programs) (n := 63) (k := 60) (x := "_law_script") (CX := L2.CX0) rfl (by decide) (by kernel_rfl) ⟨rfl, by decide, by decide⟩ ?F (fun _ _ _ _ z => z)
    intro w mg fa h Y G hmg0
    obtain ⟨K, KX, c⟩ := Y
    have c := c.d
    have e : (HandSHeadRun.topDef (OpenLaw.row PySem.Challenge.rw_onefile_k01_programs).prog 59).name = ("law" : PySem.Str) := by kernel_rfl
    have hmg : mg ("law" : PySem.Str) = some (.ref fa) := by
      rw [← e]
      exact hmg0
    have e2 := Sd.Law.glo_at (L := Rw.L) KX G c (f := 40) (d := Rw.d40) rfl
    have e3 := hmg.symm.trans e2
    cases e3
    obtain ⟨fd, sp, h1, h2, h3⟩ := Sd.Law.law_at (L := Rw.L) (P := (PySem.Challenge.rw_onefile_k01_programs).prog) (w := w) (lf := 40) (d := Rw.d40) Rw.chk Rw.bd KX G c rfl rfl rfl rfl hlaw
    exact ⟨K, fd, sp, KX, h1, h2, fun base _ _ => h3 base⟩
set_option Elab.async false
set_option linter.all false
set_option maxRecDepth 100000
theorem hk01 : M.H01 Rw.L.P Rw.X where
  is_word := rfl
  is_figure := rfl
  room := rfl
  is_expression := rfl
  names_in := rfl
  cSMALL := rfl
  cPRIME := rfl
  cMOST_PARTS := rfl
  is_row := rfl
  own_names := rfl
  given_names := rfl
  used_names := rfl
  is_module := rfl
  look := rfl
  cMOST_ROWS := rfl
  cMOST_MODULES := rfl
  module_of := rfl
  row_of := rfl
  giving := rfl
  home_of_given := rfl
  checked := rfl
  look_module := rfl
  visited := rfl
  order_of := rfl
  order := rfl
  law_cell := rfl
  law_seed := rfl
  law_pick := rfl
  law_expression := rfl
  law_gives := rfl
  law_module := rfl
  law_filled := rfl
  law_program := rfl
  bundle := rfl
  shown := rfl
  pp := rfl
theorem PySem.Challenge.cw_onefile_k01_programs_holds : PySem.Challenge.rw_onefile_k01_programs.Holds :=
  holds_of fun ns _ => M.law01 hk01 (fi := 40) rfl ns 20
