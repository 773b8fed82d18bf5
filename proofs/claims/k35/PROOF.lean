import PyProof.Rows.All
import Wide.All
import OpenK.AllK
import Wide.FinOn
import HandS.ForMost
import HandS.TupAny
import HandS.Zip
import HandS.Deep
import HandS.Exc
import HandS.ExcOwn
import HandS.TryOnly
import HandS.WordsExc
import HandS.Conv
import HandS.IsInst
import HandS.More
import HandS.CallSlots
import HandS.Defaults
import PySem.Challenge.RW_broadrow_k35_behind_one_another_and_firs
set_option Elab.async false
set_option linter.all false
set_option maxRecDepth 100000
set_option maxHeartbeats 8000000
namespace M
open PySem
inductive MV where
  | non
  | bl (b : Bool)
  | int (i : Int)
  | str (x : Str)
  | tup (xs : List MV)
  | ref (i : Nat)
  deriving Inhabited
inductive MO where
  | lst (xs : List MV)
  | fro (xs : List MV)
  | dK (kvs : List (L2.Key × MV))
  | ins (c : Nat) (fs : List (Str × MV))
  deriving Inhabited
abbrev MH := List MO
abbrev MEnv := List (Option MV)
structure MX where
  c : Nat
  fs : List (Str × MV)
inductive RS (α : Type) where
  | ok (a : α) (h : MH)
  | ex (x : MX) (h : MH)
  | bad
@[inline] def RS.bind {α β : Type} (m : RS α) (f : α → MH → RS β) : RS β :=
  match m with
  | .ok a h => f a h
  | .ex x h => .ex x h
  | .bad => .bad
inductive Bop where | add | sub | mul | fdiv | mod | pow
  deriving DecidableEq
inductive Cop where | eq | ne | lt | le | gt | ge | isin | notin | isN | notN
  deriving DecidableEq
inductive Ty where | tint | tbool | tstr | ttuple | tlist
  deriving DecidableEq
inductive Bi where | len | abs | int | str | sum | max | min | list | tuple | all | any
  deriving DecidableEq
inductive Mt where | append | extend | pop | insert | index | count | clear | split | join
  deriving DecidableEq
mutual
inductive IE where
  | var (i : Nat)
  | glb (k : Nat)
  | int (i : Int)
  | bl (b : Bool)
  | non
  | str (x : Str)
  | bop (o : Bop) (a b : IE)
  | neg (a : IE)
  | not (a : IE)
  | cmp (o : Cop) (a b : IE)
  | chn (o o' : Cop) (a b c : IE)
  | and (a b : IE)
  | or (a b : IE)
  | ite (c a b : IE)
  | idx (a b : IE)
  | slc (a : IE) (lo hi : IO)
  | tup (es : IEs)
  | lst (es : IEs)
  | gin (neg : Bool) (k : Nat) (a : IE)
  | gget (k : Nat) (a : IE)
  | call (f : Nat) (es : IEs)
  | calld (f k : Nat) (es : IEs)
  | nope
  | lrng1 (b : IE)
  | lrng2 (a b : IE)
  | bi (b : Bi) (es : IEs)
  | isin (ts : List Ty) (a : IE)
  | mth (m : Mt) (o : IE) (es : IEs)
  | comp (elt : IE) (tg : Tg) (it : II) (cond : IO) (own : List Nat)
inductive IEs where
  | nil
  | cons (e : IE) (es : IEs)
inductive IO where
  | none
  | some (e : IE)
inductive II where
  | seq (e : IE)
  | rng1 (a : IE)
  | rng2 (a b : IE)
  | enum (e : IE)
  | zip (a b : IE)
inductive Tg where
  | name (i : Nat)
  | tup (ts : Tgs)
  | sub (o i : IE)
inductive Tgs where
  | nil
  | cons (t : Tg) (ts : Tgs)
end
mutual
inductive IS where
  | asg (t : Tg) (e : IE)
  | expr (e : IE)
  | ret (e : IE)
  | ife (c : IE) (a b : ISs)
  | whl (c : IE) (b : ISs)
  | forr (t : Tg) (it : II) (b : ISs)
  | brk
  | cont
  | pass
  | never
inductive ISs where
  | nil
  | cons (s : IS) (ss : ISs)
end
def tgsLen : Tgs → Nat
  | .nil => 0
  | .cons _ ts => tgsLen ts + 1
def optAll {α : Type} : List (Option α) → Option (List α)
  | [] => some []
  | none :: _ => none
  | some a :: r => match optAll r with | some l => some (a :: l) | none => none
def MH.list (h : MH) (i : Nat) : Option (List MV) :=
  match h[i]? with
  | some (.lst xs) => some xs
  | some (.fro xs) => some xs
  | _ => none
def MH.wlist (h : MH) (i : Nat) : Option (List MV) :=
  match h[i]? with
  | some (.lst xs) => some xs
  | _ => none
def dat (h : MH) : Nat → MV → Option PyData
  | 0, _ => none
  | _ + 1, .non => some .none
  | _ + 1, .bl b => some (.bool b)
  | _ + 1, .int i => some (.int i)
  | _ + 1, .str x => some (.str x)
  | n + 1, .tup xs => match optAll (xs.map (dat h n)) with | some l => some (.tuple l) | none => none
  | n + 1, .ref i => match MH.list h i with
    | some xs => match optAll (xs.map (dat h n)) with | some l => some (.list l) | none => none
    | none => none
def eqM (h : MH) (x y : MV) : Option Bool :=
  match x, y with
  | .int i, .int j => some (decide (i = j))
  | .bl i, .bl j => some (decide (i = j))
  | .str i, .str j => some (decide (i = j))
  | .non, .non => some true
  | _, _ => match dat h 65 x, dat h 65 y with
    | some d, some e => if SeqAt.shaped d && SeqAt.shaped e then some (PyData.eqv d e) else none
    | _, _ => none
def seqOf (h : MH) : MV → Option (List MV)
  | .tup xs => some xs
  | .ref i => MH.list h i
  | _ => none
def flatM : MV → Bool
  | .non | .bl _ | .int _ | .str _ => true
  | _ => false
def eqF : MV → MV → Bool
  | .non, .non => true
  | .bl a, .bl b => decide (a = b)
  | .int a, .int b => decide (a = b)
  | .str a, .str b => decide (a = b)
  | .int i, .bl b => decide (i = if b then 1 else 0)
  | .bl b, .int i => decide ((if b then 1 else 0) = i)
  | _, _ => false
def anyD (d : PyData) : List PyData → Bool
  | [] => false
  | e :: r => PyData.eqv e d || anyD d r
def inM (h : MH) (x y : MV) : Option Bool :=
  match y with
  | .str j => match x with
    | .str i => some (!(Builtin.Str.occurrences j i 0 j.length 1).isEmpty)
    | _ => none
  | _ => match seqOf h y with
    | none => none
    | some ys => if flatM x && ys.all flatM then some (ys.any fun z => eqF z x) else none
def isNonM : MV → Bool
  | .non => true
  | _ => false
def intCmp (o : Cop) (i j : Int) : Option Bool :=
  match o with
  | .lt => some (decide (i < j))
  | .le => some (decide (i ≤ j))
  | .gt => some (decide (j < i))
  | .ge => some (decide (j ≤ i))
  | _ => none
def cmpM (h : MH) (o : Cop) (x y : MV) : Option Bool :=
  match o with
  | .eq => eqM h x y
  | .ne => (eqM h x y).map (!·)
  | .isin => inM h x y
  | .notin => (inM h x y).map (!·)
  | .isN => match y with | .non => some (isNonM x) | _ => none
  | .notN => match y with | .non => some (!isNonM x) | _ => none
  | o => match x, y with
    | .int i, .int j => intCmp o i j
    | _, _ => none
def powOk (i j : Int) : Bool := decide (0 ≤ j) && decide (j ≤ 1000000) && decide (i.natAbs < 2 ^ 64)
def mulOk (i j : Int) : Bool := (decide (-(2 ^ 64) < i) && decide (i < 2 ^ 64)) || (decide (-(2 ^ 64) < j) && decide (j < 2 ^ 64))
def divOk (j : Int) : Bool := decide (j ≠ 0) && decide (j.natAbs < 1073741824)
def binM (o : Bop) (x y : MV) (h : MH) : RS MV :=
  match o, x, y with
  | .add, .int i, .int j => .ok (.int (i + j)) h
  | .sub, .int i, .int j => .ok (.int (i - j)) h
  | .mul, .int i, .int j => if mulOk i j then .ok (.int (i * j)) h else .bad
  | .fdiv, .int i, .int j => if divOk j then .ok (.int (i.fdiv j)) h else .bad
  | .mod, .int i, .int j => if decide (j ≠ 0) then .ok (.int (i.fmod j)) h else .bad
  | .pow, .int i, .int j => if powOk i j then .ok (.int (i ^ j.toNat)) h else .bad
  | .add, .str a, .str b => if decide (a.length + b.length ≤ sizeLine) then .ok (.str (a ++ b)) h else .bad
  | .add, .tup a, .tup b => if decide (a.length + b.length ≤ sizeLine) then .ok (.tup (a ++ b)) h else .bad
  | .add, .ref a, .ref b => match MH.wlist h a, MH.wlist h b with
    | some xs, some ys => if decide (xs.length + ys.length ≤ sizeLine) then .ok (.ref h.length) (h ++ [.lst (xs ++ ys)]) else .bad
    | _, _ => .bad
  | .mul, .ref a, .int k => match MH.wlist h a with
    | some xs => if decide (-(2 ^ 63) ≤ k) && decide (k < 2 ^ 63) && decide (xs.length * k.toNat ≤ sizeLine) then .ok (.ref h.length) (h ++ [.lst (List.replicate k.toNat xs).flatten]) else .bad
    | none => .bad
  | _, _, _ => .bad
def cutM {α : Type} (xs : List α) (lo hi : Option Int) : List α :=
  (xs.drop (HT.sIx xs.length 0 lo)).take (HT.sIx xs.length xs.length hi - HT.sIx xs.length 0 lo)
def idxM (h : MH) (x y : MV) : Option MV :=
  match x, y with
  | .tup xs, .int i => L2.atI xs i
  | .ref a, .int i => match MH.list h a with | some xs => L2.atI xs i | none => none
  | .str z, .int i => if decide (z.length ≤ sizeLine) then (L2.atI z.cps.toList i).map fun c => .str ⟨#[c]⟩ else none
  | _, _ => none
def slcM (x : MV) (lo hi : Option Int) (h : MH) : RS MV :=
  match x with
  | .tup xs => .ok (.tup (cutM xs lo hi)) h
  | .ref a => match MH.list h a with | some xs => .ok (.ref h.length) (h ++ [.lst (cutM xs lo hi)]) | none => .bad
  | .str z => if decide (z.length ≤ sizeLine) then .ok (.str (L2.cutS z lo hi)) h else .bad
  | _ => .bad
def tyM (h : MH) : MV → Option Ty
  | .bl _ => some .tbool
  | .int _ => some .tint
  | .str _ => some .tstr
  | .tup _ => some .ttuple
  | .ref i => match MH.list h i with | some _ => some .tlist | none => none
  | .non => none
def isM (h : MH) (ts : List Ty) (x : MV) : Option Bool :=
  match x with
  | .non => some false
  | _ => match tyM h x with
    | some .tbool => some (ts.any fun t => t = .tbool || t = .tint)
    | some u => some (ts.any fun t => t = u)
    | none => none
def intsOf : List MV → Option (List Int)
  | [] => some []
  | .int i :: r => match intsOf r with | some l => some (i :: l) | none => none
  | _ => none
def blsOf : List MV → Option (List Bool)
  | [] => some []
  | .bl i :: r => match blsOf r with | some l => some (i :: l) | none => none
  | _ => none
def strsOf : List MV → Option (List Str)
  | [] => some []
  | .str i :: r => match strsOf r with | some l => some (i :: l) | none => none
  | _ => none
def maxI : List Int → Int
  | [] => 0
  | [a] => a
  | a :: r => max a (maxI r)
def minI : List Int → Int
  | [] => 0
  | [a] => a
  | a :: r => min a (minI r)
def insI (a : Int) : List Int → List Int
  | [] => [a]
  | b :: r => if a ≤ b then a :: b :: r else b :: insI a r
def sortI : List Int → List Int
  | [] => []
  | a :: r => insI a (sortI r)
def rangeI (lo : Int) : Nat → List MV
  | 0 => []
  | n + 1 => .int lo :: rangeI (lo + 1) n
def bnd62 (i : Int) : Bool := decide (-(2 ^ 62) ≤ i) && decide (i < 2 ^ 62)
def biM (b : Bi) (vs : List MV) (h : MH) : RS MV :=
  match b, vs with
  | .len, [x] => match x with
    | .str z => if decide (z.length ≤ sizeLine) then .ok (.int z.length) h else .bad
    | x => match seqOf h x with | some xs => .ok (.int xs.length) h | none => .bad
  | .abs, [.int i] => .ok (.int (if i < 0 then -i else i)) h
  | .int, [.int i] => .ok (.int i) h
  | .int, [.bl k] => .ok (.int (if k then 1 else 0)) h
  | .int, [.str x] => match intText? x with | some n => if decide (x.length ≤ 640) then .ok (.int n) h else .bad | none => .bad
  | .str, [.int i] => if decide (i.natAbs.log2 < 1920) then .ok (.str (toString i)) h else .bad
  | .sum, [.ref a] => match MH.list h a with
    | some xs => match intsOf xs with | some ns => .ok (.int ns.sum) h | none => .bad
    | none => .bad
  | .max, [.int i, .int j] => .ok (.int (if j > i then j else i)) h
  | .min, [.int i, .int j] => .ok (.int (if j < i then j else i)) h
  | .max, [.ref a] => match MH.list h a with
    | some xs => match intsOf xs with | some ns => if ns.isEmpty then .bad else .ok (.int (maxI ns)) h | none => .bad
    | none => .bad
  | .min, [.ref a] => match MH.list h a with
    | some xs => match intsOf xs with | some ns => if ns.isEmpty then .bad else .ok (.int (minI ns)) h | none => .bad
    | none => .bad
  | .list, [x] => match seqOf h x with | some xs => .ok (.ref h.length) (h ++ [.lst xs]) | none => .bad
  | .tuple, [.tup xs] => .ok (.tup xs) h
  | .tuple, [.ref a] => match MH.list h a with | some xs => .ok (.tup xs) h | none => .bad
  | .all, [.ref a] => match MH.list h a with
    | some xs => match blsOf xs with | some bs => .ok (.bl (bs.all id)) h | none => .bad
    | none => .bad
  | .any, [.ref a] => match MH.list h a with
    | some xs => match blsOf xs with | some bs => .ok (.bl (bs.any id)) h | none => .bad
    | none => .bad
  | _, _ => .bad
def mtM (m : Mt) (o : MV) (vs : List MV) (h : MH) : RS MV :=
  match m, o, vs with
  | .append, .ref a, [v] => match MH.wlist h a with
    | some xs => if decide (xs.length < sizeLine) then .ok .non (h.set a (.lst (xs ++ [v]))) else .bad
    | none => .bad
  | .extend, .ref a, [.ref b] => match MH.wlist h a, MH.wlist h b with
    | some xs, some ys => if decide (xs.length + ys.length ≤ sizeLine) then .ok .non (h.set a (.lst (xs ++ ys))) else .bad
    | _, _ => .bad
  | .pop, .ref a, [] => match MH.wlist h a with
    | some xs => match xs[xs.length - 1]? with | some y => .ok y (h.set a (.lst xs.dropLast)) | none => .bad
    | none => .bad
  | .pop, .ref a, [.int i] => match MH.wlist h a with
    | some xs => if decide (-(2 ^ 63) ≤ i) && decide (i < 2 ^ 63) then match seqIndex? i xs.length with
        | some k => match xs[k]? with | some y => .ok y (h.set a (.lst (xs.eraseIdx k))) | none => .bad
        | none => .bad
      else .bad
    | none => .bad
  | .insert, .ref a, [.int i, v] => match MH.wlist h a with
    | some xs => if decide (xs.length < sizeLine) && decide (0 ≤ i) && decide (i < 2 ^ 63) then .ok .non (h.set a (.lst (xs.take i.toNat ++ v :: xs.drop i.toNat))) else .bad
    | none => .bad
  | .index, .ref a, [y] => match MH.list h a with
    | some xs => if flatM y && xs.all flatM then match xs.findIdx? (fun z => eqF z y) with | some j => .ok (.int j) h | none => .bad else .bad
    | none => .bad
  | .clear, .ref a, [] => match MH.wlist h a with
    | some _ => .ok .non (h.set a (.lst []))
    | none => .bad
  | .join, .str z, [.ref a] => match MH.list h a with
    | some xs => match strsOf xs with
      | some ys => if decide ((ys.map (·.length)).sum + ys.length * z.length ≤ 16777216) then .ok (.str (Txt.join z ys)) h else .bad
      | none => .bad
    | none => .bad
  | .split, .str z, [.str b] => if (b.length == 0) = false ∧ z.length + 2 ≤ sizeLine then .ok (.ref h.length) (h ++ [.lst ((Txt.split z b).map .str)]) else .bad
  | _, _, _ => .bad
def recvOk (h : MH) (m : Mt) (x : MV) : Bool :=
  match m with
  | .join | .split => match x with | .str _ => true | _ => false
  | _ => match x with | .ref i => (MH.list h i).isSome | _ => false
structure Iter where
  n : Nat
  nx : Nat → MH → Option (Option MV)
def fixIt (xs : List MV) : Iter := ⟨xs.length, fun i _ => some xs[i]?⟩
def liveIt (a n : Nat) : Iter := ⟨n, fun i h => match MH.list h a with | some xs => some xs[i]? | none => none⟩
def seqIt (h : MH) : MV → Option Iter
  | .tup xs => some (fixIt xs)
  | .ref a => match MH.list h a with | some xs => some (liveIt a xs.length) | none => none
  | .str z => some (fixIt (z.cps.toList.map fun c => .str ⟨#[c]⟩))
  | _ => none
def enumIt (h : MH) : MV → Option Iter
  | .ref a => match MH.list h a with
    | some xs => some ⟨xs.length, fun i h' => match MH.list h' a with | some ys => some (ys[i]?.map fun y => .tup [.int i, y]) | none => none⟩
    | none => none
  | _ => none
def zipIt (h : MH) : MV → MV → Option Iter
  | .ref a, .ref b => match MH.list h a, MH.list h b with
    | some xs, some ys => some ⟨min xs.length ys.length, fun i h' => match MH.list h' a, MH.list h' b with
      | some xs', some ys' => some (match xs'[i]?, ys'[i]? with | some x, some y => some (.tup [x, y]) | _, _ => none)
      | _, _ => none⟩
    | _, _ => none
  | .tup xs, .tup ys => some ⟨min xs.length ys.length, fun i _ => some (match xs[i]?, ys[i]? with | some x, some y => some (.tup [x, y]) | _, _ => none)⟩
  | _, _ => none
structure Fn where
  name : Str
  ps : List Str
  N : List Str
  body : ISs
  dfls : List (List MV)
structure MG where
  fns : List (Nat × Fn)
  consts : List (Nat × Str × MV)
  dicts : List (Nat × Str × List (Str × MV))
  wf : Nat
inductive SR where
  | next (e : MEnv) (h : MH)
  | ret (v : MV) (h : MH)
  | brk (e : MEnv) (h : MH)
  | cont (e : MEnv) (h : MH)
  | ex (x : MX) (e : MEnv) (h : MH)
  | bad
def wipeM (e : MEnv) : List Nat → MEnv
  | [] => e
  | v :: vs => (wipeM e vs).set v none
def forLoop (nx : Nat → MH → Option (Option MV)) (asg : MV → MEnv → MH → RS MEnv) (bd : MEnv → MH → SR) : Nat → Nat → MEnv → MH → SR
  | 0, i, e, h => match nx i h with
    | some none => .next e h
    | _ => .bad
  | n + 1, i, e, h => match nx i h with
    | some none => .next e h
    | some (some v) => match asg v e h with
      | .ok e1 h1 => match bd e1 h1 with
        | .next e2 h2 => forLoop nx asg bd n (i + 1) e2 h2
        | .cont e2 h2 => forLoop nx asg bd n (i + 1) e2 h2
        | .brk e2 h2 => .next e2 h2
        | r => r
      | .ex _ _ => .bad
      | .bad => .bad
    | none => .bad
def whileLoop (c : MEnv → MH → RS MV) (bd : MEnv → MH → SR) : Nat → MEnv → MH → SR
  | 0, _, _ => .bad
  | n + 1, e, h => match c e h with
    | .ok (.bl true) h1 => match bd e h1 with
      | .next e2 h2 => whileLoop c bd n e2 h2
      | .cont e2 h2 => whileLoop c bd n e2 h2
      | .brk e2 h2 => .next e2 h2
      | r => r
    | .ok (.bl false) h1 => .next e h1
    | .ex x h1 => .ex x e h1
    | _ => .bad
def compLoop (nx : Nat → MH → Option (Option MV)) (asg : MV → MH → RS MEnv) (tst : MEnv → MH → RS MV) (el : MEnv → MH → RS MV) (D : Nat) : Nat → Nat → MH → RS Unit
  | 0, i, h => match nx i h with
    | some none => .ok () h
    | _ => .bad
  | n + 1, i, h => match nx i h with
    | some none => .ok () h
    | some (some v) => match asg v h with
      | .ok e1 h1 => match tst e1 h1 with
        | .ok (.bl true) h2 => match el e1 h2 with
          | .ok y h3 => match MH.wlist h3 D with
            | some acc => if decide (acc.length < sizeLine) then compLoop nx asg tst el D n (i + 1) (h3.set D (.lst (acc ++ [y]))) else .bad
            | none => .bad
          | _ => .bad
        | .ok (.bl false) h2 => compLoop nx asg tst el D n (i + 1) h2
        | _ => .bad
      | _ => .bad
    | none => .bad
section
variable (G : MG) (cl : Nat → List MV → MH → RS MV)
mutual
def evE : IE → MEnv → MH → RS MV
  | .var i, e, h => match e[i]? with | some (some v) => .ok v h | _ => .bad
  | .glb k, _, h => match G.consts.lookup k with | some (_, v) => .ok v h | none => .bad
  | .int i, _, h => .ok (.int i) h
  | .bl b, _, h => .ok (.bl b) h
  | .non, _, h => .ok .non h
  | .str x, _, h => .ok (.str x) h
  | .bop o a b, e, h => (evE a e h).bind fun x h1 => (evE b e h1).bind fun y h2 => binM o x y h2
  | .neg a, e, h => (evE a e h).bind fun x h1 => match x with | .int i => .ok (.int (-i)) h1 | _ => .bad
  | .not a, e, h => (evE a e h).bind fun x h1 => match x with | .bl b => .ok (.bl (!b)) h1 | _ => .bad
  | .cmp o a b, e, h => (evE a e h).bind fun x h1 => (evE b e h1).bind fun y h2 => match cmpM h2 o x y with | some r => .ok (.bl r) h2 | none => .bad
  | .chn o o' a b c, e, h => (evE a e h).bind fun x h1 => (evE b e h1).bind fun y h2 => match cmpM h2 o x y with
    | some true => (evE c e h2).bind fun z h3 => match cmpM h3 o' y z with | some r => .ok (.bl r) h3 | none => .bad
    | some false => .ok (.bl false) h2
    | none => .bad
  | .and a b, e, h => (evE a e h).bind fun x h1 => match x with
    | .bl true => (evE b e h1).bind fun y h2 => match y with | .bl r => .ok (.bl r) h2 | _ => .bad
    | .bl false => .ok (.bl false) h1
    | _ => .bad
  | .or a b, e, h => (evE a e h).bind fun x h1 => match x with
    | .bl true => .ok (.bl true) h1
    | .bl false => (evE b e h1).bind fun y h2 => match y with | .bl r => .ok (.bl r) h2 | _ => .bad
    | _ => .bad
  | .ite c a b, e, h => (evE c e h).bind fun x h1 => match x with
    | .bl true => evE a e h1
    | .bl false => evE b e h1
    | _ => .bad
  | .idx a b, e, h => (evE a e h).bind fun x h1 => (evE b e h1).bind fun y h2 => match idxM h2 x y with | some r => .ok r h2 | none => .bad
  | .slc a lo hi, e, h => (evE a e h).bind fun x h1 => (evO lo e h1).bind fun l h2 => (evO hi e h2).bind fun u h3 => slcM x l u h3
  | .tup es, e, h => (evEs es e h).bind fun vs h1 => if decide (vs.length ≤ sizeLine) then .ok (.tup vs) h1 else .bad
  | .lst es, e, h => (evEs es e h).bind fun vs h1 => if decide (vs.length ≤ sizeLine) then .ok (.ref h1.length) (h1 ++ [.lst vs]) else .bad
  | .gin neg k a, e, h => (evE a e h).bind fun x h1 => match x, G.dicts.lookup k with
    | .str z, some (_, kvs) => .ok (.bl (if neg then !(kvs.lookup z).isSome else (kvs.lookup z).isSome)) h1
    | _, _ => .bad
  | .gget k a, e, h => (evE a e h).bind fun x h1 => match x, G.dicts.lookup k with
    | .str z, some (_, kvs) => match kvs.lookup z with | some v => .ok v h1 | none => .bad
    | _, _ => .bad
  | .call f es, e, h => (evEs es e h).bind fun vs h1 => cl f vs h1
  | .nope, _, _ => .bad
  | .lrng1 b, e, h => (evE b e h).bind fun y h1 => match y with
    | .int j => if bnd62 j && decide (j.toNat ≤ sizeLine) then .ok (.ref h1.length) (h1 ++ [.lst (rangeI 0 j.toNat)]) else .bad
    | _ => .bad
  | .lrng2 a b, e, h => (evE a e h).bind fun x h1 => (evE b e h1).bind fun y h2 => match x, y with
    | .int i, .int j => if bnd62 i && bnd62 j && decide ((j - i).toNat ≤ sizeLine) then .ok (.ref h2.length) (h2 ++ [.lst (rangeI i (j - i).toNat)]) else .bad
    | _, _ => .bad
  | .calld f k es, e, h => (evEs es e h).bind fun vs h1 => match G.fns.lookup f with
    | some d => match d.dfls[k]? with | some ds => cl f (vs ++ ds) h1 | none => .bad
    | none => .bad
  | .bi b es, e, h => (evEs es e h).bind fun vs h1 => biM b vs h1
  | .isin ts a, e, h => (evE a e h).bind fun x h1 => match isM h1 ts x with | some r => .ok (.bl r) h1 | none => .bad
  | .mth m o es, e, h => (evE o e h).bind fun x h1 => if recvOk h1 m x then (evEs es e h1).bind fun vs h2 => mtM m x vs h2 else .bad
  | .comp elt tg it cond own, e, h => (evI it e h).bind fun J h1 =>
      (compLoop J.nx (fun v h2 => asT tg v (wipeM e own) h2) (fun e2 h2 => evC cond e2 h2) (fun e2 h2 => evE elt e2 h2) h1.length J.n 0 (h1 ++ [.lst []])).bind fun _ h2 => .ok (.ref h1.length) h2
def evEs : IEs → MEnv → MH → RS (List MV)
  | .nil, _, h => .ok [] h
  | .cons a r, e, h => (evE a e h).bind fun x h1 => (evEs r e h1).bind fun xs h2 => .ok (x :: xs) h2
def evO : IO → MEnv → MH → RS (Option Int)
  | .none, _, h => .ok none h
  | .some a, e, h => (evE a e h).bind fun x h1 => match x with | .int i => .ok (some i) h1 | _ => .bad
def evC : IO → MEnv → MH → RS MV
  | .none, _, h => .ok (.bl true) h
  | .some a, e, h => evE a e h
def evI : II → MEnv → MH → RS Iter
  | .seq a, e, h => (evE a e h).bind fun x h1 => match seqIt h1 x with | some J => .ok J h1 | none => .bad
  | .rng1 a, e, h => (evE a e h).bind fun x h1 => match x with
    | .int j => if bnd62 j then .ok (fixIt (rangeI 0 j.toNat)) h1 else .bad
    | _ => .bad
  | .rng2 a b, e, h => (evE a e h).bind fun x h1 => (evE b e h1).bind fun y h2 => match x, y with
    | .int i, .int j => if bnd62 i && bnd62 j then .ok (fixIt (rangeI i (j - i).toNat)) h2 else .bad
    | _, _ => .bad
  | .enum a, e, h => (evE a e h).bind fun x h1 => match enumIt h1 x with | some J => .ok J h1 | none => .bad
  | .zip a b, e, h => (evE a e h).bind fun x h1 => (evE b e h1).bind fun y h2 => match zipIt h2 x y with | some J => .ok J h2 | none => .bad
def asT : Tg → MV → MEnv → MH → RS MEnv
  | .name i, v, e, h => if decide (i < e.length) then .ok (e.set i (some v)) h else .bad
  | .tup ts, v, e, h => match v with
    | .tup xs => if decide (xs.length = tgsLen ts) then asTs ts xs e h else .bad
    | _ => .bad
  | .sub o i, v, e, h => (evE o e h).bind fun x h1 => (evE i e h1).bind fun y h2 => match x, y with
    | .ref a, .int k => match MH.wlist h2 a with
      | some xs => match L2.ixN xs.length k with | some j => .ok e (h2.set a (.lst (xs.set j v))) | none => .bad
      | none => .bad
    | _, _ => .bad
def asTs : Tgs → List MV → MEnv → MH → RS MEnv
  | .nil, [], e, h => .ok e h
  | .cons t r, v :: vs, e, h => (asT t v e h).bind fun e1 h1 => asTs r vs e1 h1
  | _, _, _, _ => .bad
end
mutual
def evS : IS → MEnv → MH → SR
  | .asg t a, e, h => match evE G cl a e h with
    | .ok v h1 => match asT G cl t v e h1 with | .ok e2 h2 => .next e2 h2 | _ => .bad
    | .ex x h1 => .ex x e h1
    | .bad => .bad
  | .expr a, e, h => match evE G cl a e h with | .ok _ h1 => .next e h1 | .ex x h1 => .ex x e h1 | .bad => .bad
  | .ret a, e, h => match evE G cl a e h with | .ok v h1 => .ret v h1 | .ex x h1 => .ex x e h1 | .bad => .bad
  | .ife c a b, e, h => match evE G cl c e h with
    | .ok (.bl true) h1 => evSs a e h1
    | .ok (.bl false) h1 => evSs b e h1
    | .ex x h1 => .ex x e h1
    | _ => .bad
  | .whl c b, e, h => whileLoop (evE G cl c) (evSs b) G.wf e h
  | .forr t it b, e, h => match evI G cl it e h with
    | .ok J h1 => forLoop J.nx (asT G cl t) (evSs b) J.n 0 e h1
    | .ex x h1 => .ex x e h1
    | .bad => .bad
  | .brk, e, h => .brk e h
  | .cont, e, h => .cont e h
  | .pass, e, h => .next e h
  | .never, _, _ => .bad
def evSs : ISs → MEnv → MH → SR
  | .nil, e, h => .next e h
  | .cons s r, e, h => match evS s e h with
    | .next e1 h1 => evSs r e1 h1
    | x => x
end
end
def retOf : SR → RS MV
  | .ret v h => .ok v h
  | .next _ h => .ok .non h
  | .ex x _ h => .ex x h
  | _ => .bad
def startM (N : List Str) (vs : List MV) : MEnv := vs.map some ++ List.replicate (N.length - vs.length) none
def callF (G : MG) : Nat → Nat → List MV → MH → RS MV
  | 0, _, _, _ => .bad
  | n + 1, f, vs, h => match G.fns.lookup f with
    | some d => if vs.length = d.ps.length then retOf (evSs G (callF G n) d.body (startM d.N vs) h) else .bad
    | none => .bad
end M
namespace M
open PySem L2
def FrzL (K : PySem.W.Frag) (H : Hp) (a : Addr) (vs : List V) : Prop :=
  (∃ o, H a = some (.frz o (.lst vs))) ∨
    ∃ (o : Obj) (its : Array Value) (n : Nat), K.lookup a = some o ∧ o.cls = .type "list" ∧ o.dict = none ∧ o.data = .seq its n ∧ its.size ≤ sizeLine ∧ Vals vs its.toList
theorem FrzL.seq {K : PySem.W.Frag} {H : Hp} {a : Addr} {vs : List V} (h : FrzL K H a vs) : SqL K H a vs := by
  rcases h with h | h
  · exact .inl (.inr h)
  · exact .inr h
inductive RelM (K : PySem.W.Frag) (ρ : List Addr) (H : Hp) : MV → V → Prop where
  | non : RelM K ρ H .non .non
  | bl (b : Bool) : RelM K ρ H (.bl b) (.bl b)
  | int (i : Int) : RelM K ρ H (.int i) (.int i)
  | str (x : Str) : RelM K ρ H (.str x) (.str x)
  | tup {xs : List MV} {vs : List V} {p : Addr} (h : SqT K H p vs) (hl : xs.length = vs.length) (hi : ∀ (i : Nat) (x : MV) (v : V), xs[i]? = some x → vs[i]? = some v → RelM K ρ H x v) : RelM K ρ H (.tup xs) (.ref p)
  | ref {i : Nat} {a : Addr} (h : ρ[i]? = some a) : RelM K ρ H (.ref i) (.ref a)
structure RelMs (K : PySem.W.Frag) (ρ : List Addr) (H : Hp) (xs : List MV) (vs : List V) : Prop where
  len : xs.length = vs.length
  at_ : ∀ (i : Nat) (x : MV) (v : V), xs[i]? = some x → vs[i]? = some v → RelM K ρ H x v
def isMutB : MO → Bool
  | .fro _ => false
  | _ => true
def RelO (K : PySem.W.Frag) (ρ : List Addr) (H : Hp) : MO → Addr → Prop
  | .lst xs, a => ∃ vs, H a = some (.lst vs) ∧ RelMs K ρ H xs vs
  | .fro xs, a => ∃ vs, FrzL K H a vs ∧ RelMs K ρ H xs vs
  | .dK kvs, a => ∃ kws : List (Key × V), H a = some (.dK kws) ∧ kvs.map (·.1) = kws.map (·.1) ∧ RelMs K ρ H (kvs.map (·.2)) (kws.map (·.2))
  | .ins _ _, _ => False
structure RelH (K : PySem.W.Frag) (ρ : List Addr) (h : MH) (H : Hp) : Prop where
  len : ρ.length = h.length
  wd : ∀ (i j : Nat) (a : Addr) (o u : MO), h[i]? = some o → h[j]? = some u → isMutB o = true → isMutB u = true → ρ[i]? = some a → ρ[j]? = some a → i = j
  obj : ∀ (i : Nat) (a : Addr) (o : MO), h[i]? = some o → ρ[i]? = some a → RelO K ρ H o a
def Stay (H H' : Hp) : Prop := ∀ b u, H b = some u → ¬ Mut (some u) → H' b = some u
theorem Stay.refl (H : Hp) : Stay H H := fun _ _ h _ => h
theorem Stay.trans {H H1 H2 : Hp} (a : Stay H H1) (b : Stay H1 H2) : Stay H H2 := fun c u h m => b c u (a c u h m) m
structure Ext (ρ : List Addr) (H : Hp) (ρ' : List Addr) (H' : Hp) : Prop where
  pre : ρ <+: ρ'
  stay : Stay H H'
theorem Ext.refl (ρ : List Addr) (H : Hp) : Ext ρ H ρ H := ⟨List.prefix_rfl, Stay.refl H⟩
theorem Ext.trans {ρ ρ1 ρ2 : List Addr} {H H1 H2 : Hp} (a : Ext ρ H ρ1 H1) (b : Ext ρ1 H1 ρ2 H2) : Ext ρ H ρ2 H2 := ⟨a.pre.trans b.pre, a.stay.trans b.stay⟩
theorem Ext.at_ {ρ ρ' : List Addr} {H H' : Hp} (e : Ext ρ H ρ' H') {i : Nat} {a : Addr} (h : ρ[i]? = some a) : ρ'[i]? = some a := by
  obtain ⟨t, rfl⟩ := e.pre
  obtain ⟨hi, _⟩ := List.getElem?_eq_some_iff.mp h
  rw [List.getElem?_append_left hi]
  exact h
theorem Stay.tup {K : PySem.W.Frag} {H H' : Hp} (s : Stay H H') {p : Addr} {vs : List V} (h : SqT K H p vs) : SqT K H' p vs := by
  rcases h with (h | ⟨o, h⟩) | h
  · exact .inl (.inl (s _ _ h fun z => z))
  · exact .inl (.inr ⟨o, s _ _ h fun z => z⟩)
  · exact .inr h
theorem Stay.frz {K : PySem.W.Frag} {H H' : Hp} (s : Stay H H') {p : Addr} {vs : List V} (h : FrzL K H p vs) : FrzL K H' p vs := by
  rcases h with ⟨o, h⟩ | h
  · exact .inl ⟨o, s _ _ h fun z => z⟩
  · exact .inr h
theorem RelM.mono {K : PySem.W.Frag} {ρ ρ' : List Addr} {H H' : Hp} (e : Ext ρ H ρ' H') {x : MV} {v : V} (r : RelM K ρ H x v) : RelM K ρ' H' x v := by
  induction r with
  | non => exact .non
  | bl b => exact .bl b
  | int i => exact .int i
  | str x => exact .str x
  | tup h hl _ ih => exact .tup (e.stay.tup h) hl ih
  | ref h => exact .ref (e.at_ h)
theorem RelMs.mono {K : PySem.W.Frag} {ρ ρ' : List Addr} {H H' : Hp} (e : Ext ρ H ρ' H') {xs : List MV} {vs : List V} (r : RelMs K ρ H xs vs) : RelMs K ρ' H' xs vs := ⟨r.len, fun i x v h1 h2 => (r.at_ i x v h1 h2).mono e⟩
section
variable {K : PySem.W.Frag} {ρ ρ' : List Addr} {H H' : Hp} {h : MH}
theorem RelMs.nil : RelMs K ρ H [] [] := ⟨rfl, fun i x v h _ => by simp at h⟩
theorem RelMs.cons {x : MV} {v : V} {xs : List MV} {vs : List V} (a : RelM K ρ H x v) (b : RelMs K ρ H xs vs) : RelMs K ρ H (x :: xs) (v :: vs) := by
  refine ⟨by simp [b.len], fun i y w h1 h2 => ?_⟩
  cases i with
  | zero => simp at h1 h2; subst h1; subst h2; exact a
  | succ i => exact b.at_ i y w (by simpa using h1) (by simpa using h2)
theorem RelMs.uncons {x : MV} {xs : List MV} {vs : List V} (r : RelMs K ρ H (x :: xs) vs) : ∃ v ws, vs = v :: ws ∧ RelM K ρ H x v ∧ RelMs K ρ H xs ws := by
  cases vs with
  | nil => have := r.len; simp at this
  | cons v ws => exact ⟨v, ws, rfl, r.at_ 0 x v rfl rfl, by have := r.len; simpa using this, fun i y w h1 h2 => r.at_ (i + 1) y w (by simpa using h1) (by simpa using h2)⟩
theorem RelMs.unnil {vs : List V} (r : RelMs K ρ H [] vs) : vs = [] := by
  cases vs with
  | nil => rfl
  | cons v ws => have := r.len; simp at this
theorem RelMs.app {xs ys : List MV} {vs ws : List V} (a : RelMs K ρ H xs vs) (b : RelMs K ρ H ys ws) : RelMs K ρ H (xs ++ ys) (vs ++ ws) := by
  refine ⟨by simp [a.len, b.len], fun i x v h1 h2 => ?_⟩
  by_cases hi : i < xs.length
  · rw [List.getElem?_append_left hi] at h1
    rw [List.getElem?_append_left (by rw [← a.len]; exact hi)] at h2
    exact a.at_ i x v h1 h2
  · rw [List.getElem?_append_right (by omega)] at h1
    rw [List.getElem?_append_right (by rw [← a.len]; omega), ← a.len] at h2
    exact b.at_ _ x v h1 h2
theorem RelMs.drop {xs : List MV} {vs : List V} (a : RelMs K ρ H xs vs) (n : Nat) : RelMs K ρ H (xs.drop n) (vs.drop n) :=
  ⟨by simp [a.len], fun i x v h1 h2 => by rw [List.getElem?_drop] at h1 h2; exact a.at_ _ x v h1 h2⟩
theorem RelMs.take {xs : List MV} {vs : List V} (a : RelMs K ρ H xs vs) (n : Nat) : RelMs K ρ H (xs.take n) (vs.take n) :=
  ⟨by simp [a.len], fun i x v h1 h2 => by
    rw [List.getElem?_take] at h1 h2
    split at h1
    · rename_i hi
      rw [if_pos hi] at h2
      exact a.at_ _ x v h1 h2
    · cases h1⟩
theorem RelMs.cut {xs : List MV} {vs : List V} (a : RelMs K ρ H xs vs) (lo hi : Option Int) : RelMs K ρ H (cutM xs lo hi) (cutV vs lo hi) := by
  unfold cutM cutV
  rw [a.len]
  exact (a.drop _).take _
theorem RelMs.set {xs : List MV} {vs : List V} (a : RelMs K ρ H xs vs) (j : Nat) {x : MV} {v : V} (r : RelM K ρ H x v) : RelMs K ρ H (xs.set j x) (vs.set j v) := by
  refine ⟨by simp [a.len], fun i y w h1 h2 => ?_⟩
  rw [List.getElem?_set] at h1 h2
  by_cases hj : j = i
  · rw [if_pos hj] at h1 h2
    split at h1
    · cases h1
      split at h2
      · cases h2; exact r
      · cases h2
    · cases h1
  · rw [if_neg hj] at h1 h2
    exact a.at_ i y w h1 h2
theorem RelMs.get {xs : List MV} {vs : List V} (a : RelMs K ρ H xs vs) {i : Nat} {x : MV} (e : xs[i]? = some x) : ∃ v, vs[i]? = some v ∧ RelM K ρ H x v := by
  obtain ⟨hi, _⟩ := List.getElem?_eq_some_iff.mp e
  have hv : i < vs.length := by rw [← a.len]; exact hi
  exact ⟨vs[i], List.getElem?_eq_getElem hv, a.at_ i x _ e (List.getElem?_eq_getElem hv)⟩
theorem RelMs.none {xs : List MV} {vs : List V} (a : RelMs K ρ H xs vs) {i : Nat} (e : xs[i]? = none) : vs[i]? = none := by
  rw [List.getElem?_eq_none_iff] at e ⊢
  rw [← a.len]; exact e
theorem RelMs.replicate {xs : List MV} {vs : List V} (a : RelMs K ρ H xs vs) : ∀ k : Nat, RelMs K ρ H (List.replicate k xs).flatten (List.replicate k vs).flatten
  | 0 => RelMs.nil
  | k + 1 => by
    rw [List.replicate_succ, List.replicate_succ, List.flatten_cons, List.flatten_cons]
    exact a.app (RelMs.replicate a k)
theorem RelMs.dropLast {xs : List MV} {vs : List V} (a : RelMs K ρ H xs vs) : RelMs K ρ H xs.dropLast vs.dropLast := by
  rw [List.dropLast_eq_take, List.dropLast_eq_take, a.len]
  exact a.take _
theorem RelO.mono (e : Ext ρ H ρ' H') {o : MO} {a : Addr} (hm : isMutB o = true → H' a = H a) (r : RelO K ρ H o a) : RelO K ρ' H' o a := by
  cases o with
  | lst xs => obtain ⟨vs, h1, h2⟩ := r; exact ⟨vs, by rw [hm rfl]; exact h1, h2.mono e⟩
  | fro xs => obtain ⟨vs, h1, h2⟩ := r; exact ⟨vs, e.stay.frz h1, h2.mono e⟩
  | dK kvs => obtain ⟨kws, h1, h2, h3⟩ := r; exact ⟨kws, by rw [hm rfl]; exact h1, h2, h3.mono e⟩
  | ins c fs => exact r.elim
theorem RelO.some_of {o : MO} {a : Addr} (hm : isMutB o = true) (r : RelO K ρ H o a) : ∃ u, H a = some u ∧ Mut (some u) := by
  cases o with
  | lst xs => obtain ⟨vs, h1, h2⟩ := r; exact ⟨_, h1, trivial⟩
  | fro xs => cases hm
  | dK kvs => obtain ⟨kws, h1, h2, h3⟩ := r; exact ⟨_, h1, trivial⟩
  | ins c fs => exact r.elim
theorem Stay.new {p : Addr} {o : HO} (hp : H p = none) : Stay H (upd H p o) := fun b u h _ => by rw [upd_ne (ne_of_none h hp)]; exact h
theorem Stay.set {p : Addr} {o u : HO} (hp : H p = some u) (m : Mut (some u)) : Stay H (upd H p o) := fun b w h hm => by
  by_cases e : b = p
  · subst e; rw [hp] at h; cases h; exact (hm m).elim
  · rw [upd_ne e]; exact h
theorem RelH.other {p : Addr} {o : HO} (r : RelH K ρ h H) (hp : H p = none) : RelH K ρ h (upd H p o) := by
  refine ⟨r.len, r.wd, fun i a u h1 h2 => ?_⟩
  have q := r.obj i a u h1 h2
  refine q.mono ⟨List.prefix_rfl, Stay.new hp⟩ fun hm => ?_
  obtain ⟨w, hw, _⟩ := q.some_of hm
  exact upd_ne (ne_of_none hw hp)
theorem Ext.other {p : Addr} {o : HO} (hp : H p = none) : Ext ρ H ρ (upd H p o) := ⟨List.prefix_rfl, Stay.new hp⟩
theorem Ext.push {p : Addr} {o : HO} (hp : H p = none) : Ext ρ H (ρ ++ [p]) (upd H p o) := ⟨List.prefix_append _ _, Stay.new hp⟩
theorem RelH.push {p : Addr} {o : HO} {u : MO} (r : RelH K ρ h H) (hp : H p = none) (new : RelO K (ρ ++ [p]) (upd H p o) u p) : RelH K (ρ ++ [p]) (h ++ [u]) (upd H p o) := by
  have hl := r.len
  have old : ∀ {i : Nat} {a : Addr}, i < h.length → (ρ ++ [p])[i]? = some a → ρ[i]? = some a := fun {i a} hi e => by
    rw [List.getElem?_append_left (by omega)] at e; exact e
  have last : ∀ {i : Nat}, ¬ i < h.length → ∀ {w : MO}, (h ++ [u])[i]? = some w → i = h.length ∧ w = u := fun {i} hi {w} e => by
    rw [List.getElem?_append_right (by omega)] at e
    have : i - h.length = 0 := by
      by_cases z : i - h.length = 0
      · exact z
      · rw [List.getElem?_eq_none (by simp; omega)] at e; cases e
    rw [this] at e
    exact ⟨by omega, by simpa using e.symm⟩
  have lastA : ∀ {a : Addr}, (ρ ++ [p])[h.length]? = some a → a = p := fun {a} e => by
    rw [List.getElem?_append_right (by omega), hl] at e
    simpa using e.symm
  have fresh : ∀ {i : Nat} {w : MO} {a : Addr}, h[i]? = some w → isMutB w = true → ρ[i]? = some a → a ≠ p := fun {i w a} h1 hm h2 => by
    obtain ⟨z, hz, _⟩ := (r.obj i a w h1 h2).some_of hm
    exact ne_of_none hz hp
  refine ⟨by simp [hl], fun i j a w z h1 h2 m1 m2 e1 e2 => ?_, fun i a w h1 e1 => ?_⟩
  · by_cases hi : i < h.length
    · rw [List.getElem?_append_left hi] at h1
      by_cases hj : j < h.length
      · rw [List.getElem?_append_left hj] at h2
        exact r.wd i j a w z h1 h2 m1 m2 (old hi e1) (old hj e2)
      · obtain ⟨rfl, _⟩ := last hj h2
        exact absurd (lastA e2) (fresh h1 m1 (old hi e1))
    · obtain ⟨rfl, _⟩ := last hi h1
      by_cases hj : j < h.length
      · rw [List.getElem?_append_left hj] at h2
        exact absurd (lastA e1) (fresh h2 m2 (old hj e2))
      · exact (last hj h2).1.symm
  · by_cases hi : i < h.length
    · rw [List.getElem?_append_left hi] at h1
      have q := r.obj i a w h1 (old hi e1)
      refine q.mono (Ext.push hp) fun hm => ?_
      exact upd_ne (fresh h1 hm (old hi e1))
    · obtain ⟨rfl, rfl⟩ := last hi h1
      rw [lastA e1]
      exact new
theorem RelH.set {i : Nat} {p : Addr} {o : HO} {u w : MO} (r : RelH K ρ h H) (hi : h[i]? = some w) (hm : isMutB w = true) (hp : ρ[i]? = some p) (hu : isMutB u = true) (new : RelO K ρ (upd H p o) u p) : RelH K ρ (h.set i u) (upd H p o) := by
  obtain ⟨z, hz, hzm⟩ := (r.obj i p w hi hp).some_of hm
  have was : ∀ {j : Nat} {x : MO}, (h.set i u)[j]? = some x → isMutB x = true → ∃ y, h[j]? = some y ∧ isMutB y = true := fun {j x} e m => by
    rw [List.getElem?_set] at e
    by_cases q : i = j
    · subst q; exact ⟨w, hi, hm⟩
    · rw [if_neg q] at e; exact ⟨x, e, m⟩
  refine ⟨by simp [r.len], fun j k a x y h1 h2 m1 m2 e1 e2 => ?_, fun j a x h1 e1 => ?_⟩
  · obtain ⟨x', h1', m1'⟩ := was h1 m1
    obtain ⟨y', h2', m2'⟩ := was h2 m2
    exact r.wd j k a x' y' h1' h2' m1' m2' e1 e2
  · by_cases q : i = j
    · subst q
      rw [hp] at e1
      cases e1
      rw [List.getElem?_set] at h1
      simp only [if_true] at h1
      split at h1
      · cases h1; exact new
      · cases h1
    · rw [List.getElem?_set, if_neg q] at h1
      have s := r.obj j a x h1 e1
      refine s.mono ⟨List.prefix_rfl, Stay.set hz hzm⟩ fun mx => ?_
      refine upd_ne fun e => ?_
      subst e
      exact q (r.wd i j a w x hi h1 hm mx hp e1)
theorem Ext.set {i : Nat} {p : Addr} {o : HO} {w : MO} (r : RelH K ρ h H) (hi : h[i]? = some w) (hm : isMutB w = true) (hp : ρ[i]? = some p) : Ext ρ H ρ (upd H p o) := by
  obtain ⟨z, hz, hzm⟩ := (r.obj i p w hi hp).some_of hm
  exact ⟨List.prefix_rfl, Stay.set hz hzm⟩
theorem RelH.ref {i : Nat} {o : MO} (r : RelH K ρ h H) (e : h[i]? = some o) : ∃ a, ρ[i]? = some a ∧ RelO K ρ H o a := by
  obtain ⟨hi, _⟩ := List.getElem?_eq_some_iff.mp e
  have hv : i < ρ.length := by rw [r.len]; exact hi
  exact ⟨ρ[i], List.getElem?_eq_getElem hv, r.obj i _ o e (List.getElem?_eq_getElem hv)⟩
theorem RelH.list {i : Nat} {a : Addr} {xs : List MV} (r : RelH K ρ h H) (e : MH.list h i = some xs) (ha : ρ[i]? = some a) : ∃ vs, SqL K H a vs ∧ RelMs K ρ H xs vs := by
  unfold MH.list at e
  split at e
  · rename_i ys he
    cases e
    obtain ⟨vs, h1, h2⟩ := r.obj i a _ he ha
    exact ⟨vs, SqL.of h1, h2⟩
  · rename_i ys he
    cases e
    obtain ⟨vs, h1, h2⟩ := r.obj i a _ he ha
    exact ⟨vs, h1.seq, h2⟩
  · cases e
theorem RelH.wlist {i : Nat} {a : Addr} {xs : List MV} (r : RelH K ρ h H) (e : MH.wlist h i = some xs) (ha : ρ[i]? = some a) : h[i]? = some (.lst xs) ∧ ∃ vs, H a = some (.lst vs) ∧ RelMs K ρ H xs vs := by
  unfold MH.wlist at e
  split at e
  · rename_i ys he
    cases e
    exact ⟨he, r.obj i a _ he ha⟩
  · cases e
theorem Rd.inj {u u' : HO} {a : Addr} (h : H a = some u) (h' : H a = some u') : u = u' := Option.some.inj (h.symm.trans h')
end
end M
namespace M
open PySem L2
def RelX (K : PySem.W.Frag) (ρ : List Addr) (H : Hp) (x : MX) (cls : Value) (d : Option Addr) : Prop := False
def Post {α β : Type} (K : PySem.W.Frag) (R : List Addr → Hp → α → β → Prop) (ρ : List Addr) (H : Hp) (r : RS α) (Q : β → Hp → Prop) (E : XK) : Prop :=
  match r with
  | .ok a h' => ∀ ρ' H' b, Ext ρ H ρ' H' → RelH K ρ' h' H' → R ρ' H' a b → Q b H'
  | .ex x h' => ∀ ρ' H' cls d, Ext ρ H ρ' H' → RelH K ρ' h' H' → RelX K ρ' H' x cls d → E cls d H'
  | .bad => False
section
variable {α β γ δ : Type} {K : PySem.W.Frag} {R : List Addr → Hp → α → β → Prop} {R' : List Addr → Hp → γ → δ → Prop} {ρ ρ1 : List Addr} {H H1 : Hp} {r : RS α} {Q Q' : β → Hp → Prop} {E E' : XK}
theorem Post.ext (e : Ext ρ H ρ1 H1) (p : Post K R ρ H r Q E) : Post K R ρ1 H1 r Q E := by
  cases r with
  | ok a h => exact fun ρ' H' b e' => p ρ' H' b (e.trans e')
  | ex x h => exact fun ρ' H' c d e' => p ρ' H' c d (e.trans e')
  | bad => exact p
theorem Post.imp (p : Post K R ρ H r Q E) (h : ∀ b H', Q b H' → Q' b H') : Post K R ρ H r Q' E := by
  cases r with
  | ok a h' => exact fun ρ' H' b e rh ra => h b H' (p ρ' H' b e rh ra)
  | ex x h' => exact p
  | bad => exact p
theorem Post.impE (p : Post K R ρ H r Q E) (h : ∀ c d H', E c d H' → E' c d H') : Post K R ρ H r Q E' := by
  cases r with
  | ok a h' => exact p
  | ex x h' => exact fun ρ' H' c d e rh ra => h c d H' (p ρ' H' c d e rh ra)
  | bad => exact p
theorem Post.bind {f : α → MH → RS γ} {Q : δ → Hp → Prop} (p : Post K R' ρ H (r.bind f) Q E) :
    Post K R ρ H r (fun b H1 => ∃ ρ1 h1 a, Ext ρ H ρ1 H1 ∧ RelH K ρ1 h1 H1 ∧ R ρ1 H1 a b ∧ Post K R' ρ1 H1 (f a h1) Q E) E := by
  cases r with
  | ok a h' => exact fun ρ' H' b e rh ra => ⟨ρ', h', a, e, rh, ra, Post.ext e p⟩
  | ex x h' => exact p
  | bad => exact p
theorem Post.ok_ {a : α} {b : β} {h : MH} (p : Post K R ρ H (.ok a h) Q E) (rh : RelH K ρ h H) (ra : R ρ H a b) : Q b H := p ρ H b (Ext.refl ρ H) rh ra
end
abbrev PostM (K : PySem.W.Frag) := Post (α := MV) (β := V) K (RelM K)
def rM2 (K : PySem.W.Frag) (f : MV → MV → MH → RS MV) : R2 := fun x y H Q => ∃ ρ h mx my E, RelH K ρ h H ∧ RelM K ρ H mx x ∧ RelM K ρ H my y ∧ PostM K ρ H (f mx my h) Q E
def rM1 (K : PySem.W.Frag) (f : MV → MH → RS MV) : V → Hp → VK → Prop := fun x H Q => ∃ ρ h mx E, RelH K ρ h H ∧ RelM K ρ H mx x ∧ PostM K ρ H (f mx h) Q E
def rMs (K : PySem.W.Frag) (f : List MV → MH → RS MV) : List V → Hp → VK → Prop := fun xs H Q => ∃ ρ h mxs E, RelH K ρ h H ∧ RelMs K ρ H mxs xs ∧ PostM K ρ H (f mxs h) Q E
def rMm (K : PySem.W.Frag) (f : MV → List MV → MH → RS MV) : V → List V → Hp → VK → Prop := fun x xs H Q => ∃ ρ h mx mxs E, RelH K ρ h H ∧ RelM K ρ H mx x ∧ RelMs K ρ H mxs xs ∧ PostM K ρ H (f mx mxs h) Q E
section
variable {K : PySem.W.Frag} {ρ : List Addr} {H : Hp} {h : MH} {Q : VK} {E : XK}
theorem post_lst {ys : List MV} {vs : List V} (p : PostM K ρ H (.ok (.ref h.length) (h ++ [.lst ys])) Q E) (rh : RelH K ρ h H) (rv : RelMs K ρ H ys vs) : ∀ q, H q = none → Q (.ref q) (upd H q (.lst vs)) := fun q hq => by
  refine p (ρ ++ [q]) _ _ (Ext.push hq) (rh.push hq ⟨vs, upd_same, rv.mono (Ext.push hq)⟩) (.ref ?_)
  rw [← rh.len]
  simp
theorem post_tup {ys : List MV} {vs : List V} (p : PostM K ρ H (.ok (.tup ys) h) Q E) (rh : RelH K ρ h H) (rv : RelMs K ρ H ys vs) : ∀ q, H q = none → Q (.ref q) (upd H q (.tup vs)) := fun q hq => by
  have e : Ext ρ H ρ (upd H q (.tup vs)) := Ext.other hq
  exact p ρ _ _ e (rh.other hq) (.tup (SqT.of upd_same) rv.len (rv.mono e).at_)
theorem post_set {u : MO} {i : Nat} {a : Addr} {ys : List MV} {ws : List V} {v : MV} {w : V} (p : PostM K ρ H (.ok v (h.set i (.lst ys))) Q E) (rh : RelH K ρ h H) (hi : h[i]? = some u) (hm : isMutB u = true) (ha : ρ[i]? = some a) (rv : RelMs K ρ H ys ws) (rw : RelM K ρ H v w) : Q w (upd H a (.lst ws)) := by
  have e : Ext ρ H ρ (upd H a (.lst ws)) := Ext.set rh hi hm ha
  exact p ρ _ _ e (rh.set hi hm ha rfl ⟨ws, upd_same, rv.mono e⟩) (rw.mono e)
theorem RelM.tup_inv {xs : List MV} {v : V} (r : RelM K ρ H (.tup xs) v) : ∃ p vs, v = .ref p ∧ SqT K H p vs ∧ RelMs K ρ H xs vs := by
  cases r with
  | tup h hl hi => exact ⟨_, _, rfl, h, hl, hi⟩
theorem RelM.ref_inv {i : Nat} {v : V} (r : RelM K ρ H (.ref i) v) : ∃ a, v = .ref a ∧ ρ[i]? = some a := by
  cases r with
  | ref h => exact ⟨_, rfl, h⟩
theorem RelM.int_inv {i : Int} {v : V} (r : RelM K ρ H (.int i) v) : v = .int i := by cases r; rfl
theorem RelM.str_inv {i : Str} {v : V} (r : RelM K ρ H (.str i) v) : v = .str i := by cases r; rfl
theorem RelM.bl_inv {i : Bool} {v : V} (r : RelM K ρ H (.bl i) v) : v = .bl i := by cases r; rfl
theorem RelM.non_inv {v : V} (r : RelM K ρ H .non v) : v = .non := by cases r; rfl
end
section
variable {X : Cx}
theorem bopAdd : OpR X (binaryOp .Add) (rM2 X.K (binM .add)) := by
  intro pins s σ H x y v u Q I rx ry hq
  obtain ⟨ρ, h, mx, my, E, rh, r1, r2, p⟩ := hq
  unfold binM at p
  split at p <;> try (first | exact p.elim | contradiction)
  · obtain rfl := r1.int_inv
    obtain rfl := r2.int_inv
    exact op_add pins s σ H _ _ v u Q I rx ry ⟨_, _, rfl, rfl, p.ok_ rh (.int _)⟩
  · split at p
    · rename_i hz
      obtain rfl := r1.str_inv
      obtain rfl := r2.str_inv
      exact op_add_str pins s σ H _ _ v u Q I rx ry ⟨_, _, rfl, rfl, of_decide_eq_true hz, p.ok_ rh (.str _)⟩
    · exact p.elim
  · rename_i a b _
    split at p
    · rename_i hz
      obtain ⟨pa, vs, rfl, ha, ra⟩ := r1.tup_inv
      obtain ⟨pb, ws, rfl, hb, rb⟩ := r2.tup_inv
      have hz' := of_decide_eq_true hz
      rw [ra.len, rb.len] at hz'
      refine op_catA pins s σ H _ _ v u Q I rx ry ⟨pa, pb, vs, ws, rfl, rfl, ha, hb, hz', fun e => ?_, fun e1 e2 => ?_, fun e1 e2 => ?_⟩
      · subst e
        have e0 : a = [] := List.eq_nil_of_length_eq_zero (by rw [ra.len]; rfl)
        subst e0
        exact p.ok_ rh r2
      · subst e2
        have e0 : b = [] := List.eq_nil_of_length_eq_zero (by rw [rb.len]; rfl)
        subst e0
        rw [List.append_nil] at p
        exact p.ok_ rh r1
      · exact post_tup p rh (ra.app rb)
    · exact p.elim
  · split at p
    · rename_i xs ys hx hy
      split at p
      · rename_i hz
        obtain ⟨pa, rfl, ha⟩ := r1.ref_inv
        obtain ⟨pb, rfl, hb⟩ := r2.ref_inv
        obtain ⟨_, vs, h1, q1⟩ := rh.wlist hx ha
        obtain ⟨_, ws, h2, q2⟩ := rh.wlist hy hb
        have hz' := of_decide_eq_true hz
        rw [q1.len, q2.len] at hz'
        exact op_cat pins s σ H _ _ v u Q I rx ry ⟨pa, pb, vs, ws, rfl, rfl, h1, h2, hz', post_lst p rh (q1.app q2)⟩
      · exact p.elim
    · exact p.elim
theorem bopSub : OpR X (binaryOp .Sub) (rM2 X.K (binM .sub)) := by
  intro pins s σ H x y v u Q I rx ry hq
  obtain ⟨ρ, h, mx, my, E, rh, r1, r2, p⟩ := hq
  unfold binM at p
  split at p <;> try (first | exact p.elim | contradiction)
  obtain rfl := r1.int_inv
  obtain rfl := r2.int_inv
  exact op_sub pins s σ H _ _ v u Q I rx ry ⟨_, _, rfl, rfl, p.ok_ rh (.int _)⟩
theorem bopMul : OpR X (binaryOp .Mult) (rM2 X.K (binM .mul)) := by
  intro pins s σ H x y v u Q I rx ry hq
  obtain ⟨ρ, h, mx, my, E, rh, r1, r2, p⟩ := hq
  unfold binM at p
  split at p <;> try (first | exact p.elim | contradiction)
  · split at p
    · rename_i hz
      obtain rfl := r1.int_inv
      obtain rfl := r2.int_inv
      unfold mulOk at hz
      simp only [Bool.or_eq_true, Bool.and_eq_true, decide_eq_true_eq] at hz
      exact op_mul pins s σ H _ _ v u Q I rx ry ⟨_, _, rfl, rfl, hz, p.ok_ rh (.int _)⟩
    · exact p.elim
  · split at p
    · rename_i xs hx
      split at p
      · rename_i hz
        simp only [Bool.and_eq_true, decide_eq_true_eq] at hz
        obtain ⟨pa, rfl, ha⟩ := r1.ref_inv
        obtain rfl := r2.int_inv
        obtain ⟨_, vs, h1, q1⟩ := rh.wlist hx ha
        have hz' := hz.2
        rw [q1.len] at hz'
        exact op_rep pins s σ H _ _ v u Q I rx ry ⟨pa, _, vs, rfl, rfl, h1, hz.1.1, hz.1.2, hz', post_lst p rh (q1.replicate _)⟩
      · exact p.elim
    · exact p.elim
theorem bopDiv : OpR X (binaryOp .FloorDiv) (rM2 X.K (binM .fdiv)) := by
  intro pins s σ H x y v u Q I rx ry hq
  obtain ⟨ρ, h, mx, my, E, rh, r1, r2, p⟩ := hq
  unfold binM at p
  split at p <;> try (first | exact p.elim | contradiction)
  split at p
  · rename_i hz
    obtain rfl := r1.int_inv
    obtain rfl := r2.int_inv
    unfold divOk at hz
    simp only [Bool.and_eq_true, decide_eq_true_eq] at hz
    exact op_fdivN pins s σ H _ _ v u Q I rx ry ⟨_, _, rfl, rfl, hz, p.ok_ rh (.int _)⟩
  · exact p.elim
theorem bopMod : OpR X (binaryOp .Mod) (rM2 X.K (binM .mod)) := by
  intro pins s σ H x y v u Q I rx ry hq
  obtain ⟨ρ, h, mx, my, E, rh, r1, r2, p⟩ := hq
  unfold binM at p
  split at p <;> try (first | exact p.elim | contradiction)
  split at p
  · rename_i hz
    obtain rfl := r1.int_inv
    obtain rfl := r2.int_inv
    exact op_modN pins s σ H _ _ v u Q I rx ry ⟨_, _, rfl, rfl, of_decide_eq_true hz, p.ok_ rh (.int _)⟩
  · exact p.elim
theorem bopPow : OpR X (binaryOp .Pow) (rM2 X.K (binM .pow)) := by
  intro pins s σ H x y v u Q I rx ry hq
  obtain ⟨ρ, h, mx, my, E, rh, r1, r2, p⟩ := hq
  unfold binM at p
  split at p <;> try (first | exact p.elim | contradiction)
  split at p
  · rename_i hz
    obtain rfl := r1.int_inv
    obtain rfl := r2.int_inv
    unfold powOk at hz
    simp only [Bool.and_eq_true, decide_eq_true_eq] at hz
    exact op_pow pins s σ H _ _ v u Q I rx ry ⟨_, _, rfl, rfl, ⟨hz.1.1, hz.1.2, hz.2⟩, p.ok_ rh (.int _)⟩
  · exact p.elim
theorem optAll_cons {α : Type} {a : Option α} {r : List (Option α)} {l : List α} (e : optAll (a :: r) = some l) : ∃ x t, a = some x ∧ optAll r = some t ∧ l = x :: t := by
  cases a with
  | none => simp [optAll] at e
  | some x =>
    cases q : optAll r with
    | none => simp [optAll, q] at e
    | some t => simp [optAll, q] at e; exact ⟨x, t, rfl, rfl, e.symm⟩
theorem datAll {K : PySem.W.Frag} {ρ : List Addr} {H : Hp} {h : MH} {n : Nat} (f : ∀ (x : MV) (v : V) (d : PyData), dat h n x = some d → RelM K ρ H x v → Dp K H v d) :
    ∀ (xs : List MV) (vs : List V) (ds : List PyData), optAll (xs.map (dat h n)) = some ds → RelMs K ρ H xs vs → DpAll K H vs ds
  | [], vs, ds, e, r => by
    obtain rfl := r.unnil
    simp [optAll] at e
    subst e
    exact .nil
  | x :: xs, vs, ds, e, r => by
    obtain ⟨v, ws, rfl, r1, r2⟩ := r.uncons
    rw [List.map_cons] at e
    obtain ⟨d, t, e1, e2, rfl⟩ := optAll_cons e
    exact .cons (f x v d e1 r1) (datAll f xs ws t e2 r2)
theorem dat_ok {K : PySem.W.Frag} {ρ : List Addr} {H : Hp} {h : MH} (rh : RelH K ρ h H) : ∀ (n : Nat) (x : MV) (v : V) (d : PyData), dat h n x = some d → RelM K ρ H x v → Dp K H v d
  | 0, x, v, d, e, r => by simp [dat] at e
  | n + 1, x, v, d, e, r => by
    cases x with
    | non => simp [dat] at e; subst e; obtain rfl := r.non_inv; exact .non
    | bl b => simp [dat] at e; subst e; obtain rfl := r.bl_inv; exact .bl b
    | int i => simp [dat] at e; subst e; obtain rfl := r.int_inv; exact .int i
    | str z => simp [dat] at e; subst e; obtain rfl := r.str_inv; exact .str z
    | tup xs =>
      obtain ⟨p, vs, rfl, hp, rs⟩ := r.tup_inv
      simp only [dat] at e
      split at e
      · rename_i l hl
        cases e
        exact .tup hp (datAll (dat_ok rh n) xs vs l hl rs)
      · cases e
    | ref i =>
      obtain ⟨a, rfl, ha⟩ := r.ref_inv
      simp only [dat] at e
      split at e
      · rename_i xs hx
        split at e
        · rename_i l hl
          cases e
          obtain ⟨vs, hs, rs⟩ := rh.list hx ha
          exact .lst hs (datAll (dat_ok rh n) xs vs l hl rs)
        · cases e
      · cases e
theorem eqM_ok {K : PySem.W.Frag} {ρ : List Addr} {H : Hp} {h : MH} (rh : RelH K ρ h H) {mx my : MV} {x y : V} {b : Bool} (e : eqM h mx my = some b) (r1 : RelM K ρ H mx x) (r2 : RelM K ρ H my y) :
    (scal x y = true ∧ b = decide (x = y)) ∨ ∃ d e, Dp K H x d ∧ Dp K H y e ∧ SeqAt.shaped d = true ∧ SeqAt.shaped e = true ∧ b = PyData.eqv d e := by
  unfold eqM at e
  split at e
  · obtain rfl := r1.int_inv; obtain rfl := r2.int_inv
    cases e
    exact .inl ⟨rfl, by rw [dec_int]; exact (Bool.beq_eq_decide_eq _ _).symm⟩
  · obtain rfl := r1.bl_inv; obtain rfl := r2.bl_inv
    cases e
    exact .inl ⟨rfl, by rw [dec_bl]; exact (Bool.beq_eq_decide_eq _ _).symm⟩
  · obtain rfl := r1.str_inv; obtain rfl := r2.str_inv
    cases e
    exact .inl ⟨rfl, by rw [dec_str]; exact (Bool.beq_eq_decide_eq _ _).symm⟩
  · obtain rfl := r1.non_inv; obtain rfl := r2.non_inv
    cases e
    exact .inl ⟨rfl, by simp⟩
  · split at e
    · rename_i d1 d2 h1 h2
      split at e
      · rename_i hs
        simp only [Bool.and_eq_true] at hs
        cases e
        exact .inr ⟨d1, d2, dat_ok rh _ _ _ _ h1 r1, dat_ok rh _ _ _ _ h2 r2, hs.1, hs.2, rfl⟩
      · cases e
    · cases e
def cmpF (o : Cop) : MV → MV → MH → RS MV := fun x y h => match cmpM h o x y with | some r => .ok (.bl r) h | none => .bad
theorem copEq (hu : X.A.units + 64 < cLine) : OpR X (compareOp .Eq) (rM2 X.K (cmpF .eq)) := by
  intro pins s σ H x y v u Q I rx ry hq
  obtain ⟨ρ, h, mx, my, E, rh, r1, r2, p⟩ := hq
  unfold cmpF cmpM at p
  dsimp only at p
  split at p
  · rename_i b he
    rcases eqM_ok rh he r1 r2 with ⟨hs, rfl⟩ | ⟨d, e, h1, h2, s1, s2, rfl⟩
    · exact op_eq pins s σ H _ _ v u Q I rx ry ⟨hs, p.ok_ rh (.bl _)⟩
    · exact op_eqD hu pins s σ H _ _ v u Q I rx ry ⟨d, e, h1, h2, s1, s2, p.ok_ rh (.bl _)⟩
  · exact p.elim
theorem copNe (hu : X.A.units + 64 < cLine) : OpR X (compareOp .NotEq) (rM2 X.K (cmpF .ne)) := by
  intro pins s σ H x y v u Q I rx ry hq
  obtain ⟨ρ, h, mx, my, E, rh, r1, r2, p⟩ := hq
  unfold cmpF cmpM at p
  dsimp only at p
  cases he : eqM h mx my with
  | none => rw [he] at p; exact p.elim
  | some b =>
    rw [he] at p
    rcases eqM_ok rh he r1 r2 with ⟨hs, rfl⟩ | ⟨d, e, h1, h2, s1, s2, rfl⟩
    · exact op_ne pins s σ H _ _ v u Q I rx ry ⟨hs, p.ok_ rh (.bl _)⟩
    · exact op_neD hu pins s σ H _ _ v u Q I rx ry ⟨d, e, h1, h2, s1, s2, p.ok_ rh (.bl _)⟩
theorem cop_int {o : Cop} {op : CmpOp} {g : Int → Int → Bool} (hg : ∀ h x y, cmpM h o x y = match x, y with | .int i, .int j => some (g i j) | _, _ => none) (ho : OpR X (compareOp op) (rI0 fun i j => .bl (g i j))) : OpR X (compareOp op) (rM2 X.K (cmpF o)) := by
  intro pins s σ H x y v u Q I rx ry hq
  obtain ⟨ρ, h, mx, my, E, rh, r1, r2, p⟩ := hq
  unfold cmpF at p
  rw [hg] at p
  split at p
  · rename_i b he
    split at he
    · cases he
      obtain rfl := r1.int_inv
      obtain rfl := r2.int_inv
      exact ho pins s σ H _ _ v u Q I rx ry ⟨_, _, rfl, rfl, p.ok_ rh (.bl _)⟩
    · cases he
  · exact p.elim
theorem copLt : OpR X (compareOp .Lt) (rM2 X.K (cmpF .lt)) := cop_int (g := fun i j => decide (i < j)) (fun h x y => by cases x <;> cases y <;> rfl) op_lt
theorem copLe : OpR X (compareOp .LtE) (rM2 X.K (cmpF .le)) := cop_int (g := fun i j => decide (i ≤ j)) (fun h x y => by cases x <;> cases y <;> rfl) op_le
theorem copGt : OpR X (compareOp .Gt) (rM2 X.K (cmpF .gt)) := cop_int (g := fun i j => decide (j < i)) (fun h x y => by cases x <;> cases y <;> rfl) op_gt
theorem copGe : OpR X (compareOp .GtE) (rM2 X.K (cmpF .ge)) := cop_int (g := fun i j => decide (j ≤ i)) (fun h x y => by cases x <;> cases y <;> rfl) op_ge
theorem isn_eq {K : PySem.W.Frag} {ρ : List Addr} {H : Hp} {mx : MV} {x : V} (r : RelM K ρ H mx x) : isNonM mx = decide (x = V.non) := by
  cases r <;> simp [isNonM]
theorem copIs : OpR X (compareOp .Is) (rM2 X.K (cmpF .isN)) := by
  intro pins s σ H x y v u Q I rx ry hq
  obtain ⟨ρ, h, mx, my, E, rh, r1, r2, p⟩ := hq
  unfold cmpF cmpM at p
  dsimp only at p
  cases my with
  | non =>
    obtain rfl := r2.non_inv
    refine op_isN pins s σ H _ _ v u Q I rx ry ⟨rfl, ?_⟩
    rw [← isn_eq r1]
    exact p.ok_ rh (.bl _)
  | _ => exact p.elim
theorem copNotIs : OpR X (compareOp .IsNot) (rM2 X.K (cmpF .notN)) := by
  intro pins s σ H x y v u Q I rx ry hq
  obtain ⟨ρ, h, mx, my, E, rh, r1, r2, p⟩ := hq
  unfold cmpF cmpM at p
  dsimp only at p
  cases my with
  | non =>
    obtain rfl := r2.non_inv
    refine op_notN pins s σ H _ _ v u Q I rx ry ⟨rfl, ?_⟩
    rw [← isn_eq r1]
    exact p.ok_ rh (.bl _)
  | _ => exact p.elim
theorem flat_rel {K : PySem.W.Frag} {ρ : List Addr} {H : Hp} {mx : MV} {x : V} (r : RelM K ρ H mx x) (f : flatM mx = true) : flatV x = true := by
  cases r <;> first | rfl | cases f
theorem eqF_rel {K : PySem.W.Frag} {ρ : List Addr} {H : Hp} {mx my : MV} {x y : V} (r1 : RelM K ρ H mx x) (r2 : RelM K ρ H my y) (f1 : flatM mx = true) (f2 : flatM my = true) : eqF mx my = eqV x y := by
  cases r1 <;> (try cases f1) <;> cases r2 <;> (try cases f2) <;> simp only [eqF, eqV] <;> first | rfl | (rw [Bool.beq_eq_decide_eq]) | (rw [Bool.beq_eq_decide_eq]; simp [eq_comm])
theorem flats_rel {K : PySem.W.Frag} {ρ : List Addr} {H : Hp} : ∀ {xs : List MV} {vs : List V}, RelMs K ρ H xs vs → xs.all flatM = true → vs.all flatV = true
  | [], vs, r, _ => by rw [r.unnil]; rfl
  | x :: xs, vs, r, f => by
    obtain ⟨v, ws, rfl, r1, r2⟩ := r.uncons
    simp only [List.all_cons, Bool.and_eq_true] at f ⊢
    exact ⟨flat_rel r1 f.1, flats_rel r2 f.2⟩
theorem anyF_rel {K : PySem.W.Frag} {ρ : List Addr} {H : Hp} {mx : MV} {x : V} (rx : RelM K ρ H mx x) (fx : flatM mx = true) : ∀ {xs : List MV} {vs : List V}, RelMs K ρ H xs vs → xs.all flatM = true → (xs.any fun z => eqF z mx) = inV x vs
  | [], vs, r, _ => by rw [r.unnil]; rfl
  | y :: xs, vs, r, f => by
    obtain ⟨v, ws, rfl, r1, r2⟩ := r.uncons
    simp only [List.all_cons, Bool.and_eq_true] at f
    have q := anyF_rel rx fx r2 f.2
    unfold inV at q ⊢
    rw [List.any_cons, List.any_cons, eqF_rel r1 rx f.1 fx, q]
theorem seq_rel {K : PySem.W.Frag} {ρ : List Addr} {H : Hp} {h : MH} (rh : RelH K ρ h H) {mx : MV} {x : V} {xs : List MV} (r : RelM K ρ H mx x) (e : seqOf h mx = some xs) : ∃ p vs, x = .ref p ∧ (SqL K H p vs ∨ SqT K H p vs) ∧ RelMs K ρ H xs vs := by
  cases mx with
  | tup ys =>
    simp [seqOf] at e
    subst e
    obtain ⟨p, vs, rfl, hp, rs⟩ := r.tup_inv
    exact ⟨p, vs, rfl, .inr hp, rs⟩
  | ref i =>
    obtain ⟨a, rfl, ha⟩ := r.ref_inv
    obtain ⟨vs, hs, rs⟩ := rh.list (show MH.list h i = some xs from e) ha
    exact ⟨a, vs, rfl, .inl hs, rs⟩
  | _ => simp [seqOf] at e
theorem inM_ok {K : PySem.W.Frag} {ρ : List Addr} {H : Hp} {h : MH} (rh : RelH K ρ h H) {mx my : MV} {x y : V} {b : Bool} (e : inM h mx my = some b) (r1 : RelM K ρ H mx x) (r2 : RelM K ρ H my y) :
    (∃ i j, x = .str i ∧ y = .str j ∧ b = !(Builtin.Str.occurrences j i 0 j.length 1).isEmpty) ∨ ∃ p vs, y = .ref p ∧ (SqL K H p vs ∨ SqT K H p vs) ∧ flatV x = true ∧ vs.all flatV = true ∧ b = inV x vs := by
  unfold inM at e
  split at e
  · split at e
    · cases e
      obtain rfl := r1.str_inv; obtain rfl := r2.str_inv
      exact .inl ⟨_, _, rfl, rfl, rfl⟩
    · cases e
  · split at e
    · cases e
    · rename_i ys hy
      split at e
      · rename_i hf
        simp only [Bool.and_eq_true] at hf
        cases e
        obtain ⟨p, vs, rfl, hp, rs⟩ := seq_rel rh r2 hy
        exact .inr ⟨p, vs, rfl, hp, flat_rel r1 hf.1, flats_rel rs hf.2, anyF_rel r1 hf.1 rs hf.2⟩
      · cases e
theorem copIn : OpR X (compareOp .In) (rM2 X.K (cmpF .isin)) := by
  intro pins s σ H x y v u Q I rx ry hq
  obtain ⟨ρ, h, mx, my, E, rh, r1, r2, p⟩ := hq
  unfold cmpF cmpM at p
  dsimp only at p
  split at p
  · rename_i b he
    rcases inM_ok rh he r1 r2 with ⟨i, j, rfl, rfl, rfl⟩ | ⟨q, vs, rfl, hq, f1, f2, rfl⟩
    · exact op_in_str pins s σ H _ _ v u Q I rx ry ⟨_, _, rfl, rfl, p.ok_ rh (.bl _)⟩
    · exact op_in_seq pins s σ H _ _ v u Q I rx ry ⟨q, vs, rfl, hq, f1, f2, p.ok_ rh (.bl _)⟩
  · exact p.elim
theorem copNotIn : OpR X (compareOp .NotIn) (rM2 X.K (cmpF .notin)) := by
  intro pins s σ H x y v u Q I rx ry hq
  obtain ⟨ρ, h, mx, my, E, rh, r1, r2, p⟩ := hq
  unfold cmpF cmpM at p
  dsimp only at p
  cases he : inM h mx my with
  | none => rw [he] at p; exact p.elim
  | some b =>
    rw [he] at p
    rcases inM_ok rh he r1 r2 with ⟨i, j, rfl, rfl, rfl⟩ | ⟨q, vs, rfl, hq, f1, f2, rfl⟩
    · exact op_notin_str pins s σ H _ _ v u Q I rx ry ⟨_, _, rfl, rfl, p.ok_ rh (.bl _)⟩
    · exact op_notIn_seq pins s σ H _ _ v u Q I rx ry ⟨q, vs, rfl, hq, f1, f2, p.ok_ rh (.bl _)⟩
def idxF : MV → MV → MH → RS MV := fun x y h => match idxM h x y with | some r => .ok r h | none => .bad
theorem atI_rel {K : PySem.W.Frag} {ρ : List Addr} {H : Hp} {xs : List MV} {vs : List V} (r : RelMs K ρ H xs vs) {i : Int} {x : MV} (e : atI xs i = some x) : ∃ v, atI vs i = some v ∧ RelM K ρ H x v := by
  unfold atI at e ⊢
  rw [← r.len]
  cases q : ixN xs.length i with
  | none => rw [q] at e; cases e
  | some j =>
    rw [q] at e
    exact r.get (i := j) e
theorem ixM : IxR X (rM2 X.K idxF) := by
  intro value slice pins s σ H x y v u Q I rx ry hq hs
  obtain ⟨ρ, h, mx, my, E, rh, r1, r2, p⟩ := hq
  unfold idxF at p
  split at p
  · rename_i r he
    unfold idxM at he
    split at he
    · obtain ⟨q, vs, rfl, hq, rs⟩ := r1.tup_inv
      obtain rfl := r2.int_inv
      obtain ⟨w, hw, rw⟩ := atI_rel rs he
      exact ix_tup value slice pins s σ H _ _ v u Q I rx ry ⟨q, vs, _, w, rfl, rfl, hq, hw, p.ok_ rh rw⟩ hs
    · split at he
      · rename_i xs hx
        obtain ⟨a, rfl, ha⟩ := r1.ref_inv
        obtain rfl := r2.int_inv
        obtain ⟨vs, hq, rs⟩ := rh.list hx ha
        obtain ⟨w, hw, rw⟩ := atI_rel rs he
        exact ix_list value slice pins s σ H _ _ v u Q I rx ry ⟨a, vs, _, w, rfl, rfl, hq, hw, p.ok_ rh rw⟩ hs
      · cases he
    · split at he
      · rename_i z i hz
        obtain rfl := r1.str_inv
        obtain rfl := r2.int_inv
        cases hc : atI z.cps.toList i with
        | none => rw [hc] at he; cases he
        | some c =>
          rw [hc] at he
          cases he
          exact ix_str value slice pins s σ H _ _ v u Q I rx ry ⟨z, i, c, rfl, rfl, of_decide_eq_true hz, hc, p.ok_ rh (.str _)⟩ hs
      · cases he
    · cases he
  · exact p.elim
def rSlM (K : PySem.W.Frag) : V → Option Int → Option Int → Hp → VK → Prop := fun x lo hi H Q => ∃ ρ h mx E, RelH K ρ h H ∧ RelM K ρ H mx x ∧ PostM K ρ H (slcM mx lo hi h) Q E
theorem cut_whole {α : Type} {xs : List α} {lo hi : Option Int} (h : HT.sIx xs.length 0 lo = 0 ∧ HT.sIx xs.length xs.length hi = xs.length) : cutM xs lo hi = xs := by
  unfold cutM
  rw [h.1, h.2]
  simp
theorem slM : SlR X (rSlM X.K) := by
  intro pins s σ H x v vl vu lo hi sl Q I rx hs pl pu hq
  obtain ⟨ρ, h, mx, E, rh, r1, p⟩ := hq
  unfold slcM at p
  split at p
  · obtain ⟨q, vs, rfl, hq, rs⟩ := r1.tup_inv
    refine sl_tupA pins s σ H _ v vl vu lo hi sl Q I rx hs pl pu ⟨q, vs, rfl, hq, fun hw => ?_, fun _ => post_tup p rh (rs.cut lo hi)⟩
    rw [← rs.len] at hw
    rw [cut_whole hw] at p
    exact p.ok_ rh r1
  · split at p
    · rename_i xs hx
      obtain ⟨a, rfl, ha⟩ := r1.ref_inv
      obtain ⟨vs, hq, rs⟩ := rh.list hx ha
      exact sl_list pins s σ H _ v vl vu lo hi sl Q I rx hs pl pu ⟨a, vs, rfl, hq, post_lst p rh (rs.cut lo hi)⟩
    · exact p.elim
  · split at p
    · rename_i z hz
      obtain rfl := r1.str_inv
      exact sl_str pins s σ H _ v vl vu lo hi sl Q I rx hs pl pu ⟨z, rfl, of_decide_eq_true hz, p.ok_ rh (.str _)⟩
    · exact p.elim
  · exact p.elim
end
end M
namespace M
open PySem L2
section
variable {K : PySem.W.Frag} {ρ : List Addr} {H : Hp} {h : MH}
theorem ints_rel : ∀ {xs : List MV} {vs : List V} {ns : List Int}, intsOf xs = some ns → RelMs K ρ H xs vs → vs = ns.map V.int
  | [], vs, ns, e, r => by simp [intsOf] at e; subst e; exact r.unnil
  | x :: xs, vs, ns, e, r => by
    obtain ⟨v, ws, rfl, r1, r2⟩ := r.uncons
    cases x <;> simp [intsOf] at e
    obtain rfl := r1.int_inv
    cases q : intsOf xs with
    | none => rw [q] at e; simp at e
    | some l => rw [q] at e; simp at e; subst e; rw [ints_rel q r2]; rfl
theorem bls_rel : ∀ {xs : List MV} {vs : List V} {ns : List Bool}, blsOf xs = some ns → RelMs K ρ H xs vs → vs = ns.map V.bl
  | [], vs, ns, e, r => by simp [blsOf] at e; subst e; exact r.unnil
  | x :: xs, vs, ns, e, r => by
    obtain ⟨v, ws, rfl, r1, r2⟩ := r.uncons
    cases x <;> simp [blsOf] at e
    obtain rfl := r1.bl_inv
    cases q : blsOf xs with
    | none => rw [q] at e; simp at e
    | some l => rw [q] at e; simp at e; subst e; rw [bls_rel q r2]; rfl
theorem strs_rel : ∀ {xs : List MV} {vs : List V} {ns : List Str}, strsOf xs = some ns → RelMs K ρ H xs vs → vs = ns.map V.str
  | [], vs, ns, e, r => by simp [strsOf] at e; subst e; exact r.unnil
  | x :: xs, vs, ns, e, r => by
    obtain ⟨v, ws, rfl, r1, r2⟩ := r.uncons
    cases x <;> simp [strsOf] at e
    obtain rfl := r1.str_inv
    cases q : strsOf xs with
    | none => rw [q] at e; simp at e
    | some l => rw [q] at e; simp at e; subst e; rw [strs_rel q r2]; rfl
theorem max_is : ∀ {ns : List Int} {m : Int}, m ∈ ns → (∀ y, y ∈ ns → y ≤ m) → maxI ns = m
  | [], m, h, _ => by simp at h
  | [a], m, h, _ => by simp at h; simp [maxI, h]
  | a :: b :: r, m, h, f => by
    have fa := f a (by simp)
    rcases List.mem_cons.mp h with rfl | h
    · show max m (maxI (b :: r)) = m
      have q : maxI (b :: r) ≤ m := by
        have all : ∀ (l : List Int), l ≠ [] → (∀ y, y ∈ l → y ≤ m) → maxI l ≤ m := by
          intro l
          induction l with
          | nil => intro z; exact absurd rfl z
          | cons x t ih =>
            intro _ g
            cases t with
            | nil => exact g x (by simp)
            | cons y t =>
              have := ih (by simp) fun z hz => g z (by simp [hz])
              have := g x (by simp)
              show max x (maxI (y :: t)) ≤ m
              omega
        exact all _ (by simp) fun y hy => f y (List.mem_cons_of_mem _ hy)
      omega
    · have ih := max_is (ns := b :: r) h fun y hy => f y (List.mem_cons_of_mem _ hy)
      show max a (maxI (b :: r)) = m
      omega
theorem min_is : ∀ {ns : List Int} {m : Int}, m ∈ ns → (∀ y, y ∈ ns → m ≤ y) → minI ns = m
  | [], m, h, _ => by simp at h
  | [a], m, h, _ => by simp at h; simp [minI, h]
  | a :: b :: r, m, h, f => by
    have fa := f a (by simp)
    rcases List.mem_cons.mp h with rfl | h
    · show min m (minI (b :: r)) = m
      have q : m ≤ minI (b :: r) := by
        have all : ∀ (l : List Int), l ≠ [] → (∀ y, y ∈ l → m ≤ y) → m ≤ minI l := by
          intro l
          induction l with
          | nil => intro z; exact absurd rfl z
          | cons x t ih =>
            intro _ g
            cases t with
            | nil => exact g x (by simp)
            | cons y t =>
              have := ih (by simp) fun z hz => g z (by simp [hz])
              have := g x (by simp)
              show m ≤ min x (minI (y :: t))
              omega
        exact all _ (by simp) fun y hy => f y (List.mem_cons_of_mem _ hy)
      omega
    · have ih := min_is (ns := b :: r) h fun y hy => f y (List.mem_cons_of_mem _ hy)
      show min a (minI (b :: r)) = m
      omega
theorem one_rel {x : MV} {vs : List V} (r : RelMs K ρ H [x] vs) : ∃ v, vs = [v] ∧ RelM K ρ H x v := by
  obtain ⟨v, ws, rfl, r1, r2⟩ := r.uncons
  rw [r2.unnil]
  exact ⟨v, rfl, r1⟩
theorem two_rel {x y : MV} {vs : List V} (r : RelMs K ρ H [x, y] vs) : ∃ v w, vs = [v, w] ∧ RelM K ρ H x v ∧ RelM K ρ H y w := by
  obtain ⟨v, ws, rfl, r1, r2⟩ := r.uncons
  obtain ⟨w, rfl, r3⟩ := one_rel r2
  exact ⟨v, w, rfl, r1, r3⟩
theorem RelH.listRef {i : Nat} {v : V} {xs : List MV} (rh : RelH K ρ h H) (r : RelM K ρ H (.ref i) v) (e : MH.list h i = some xs) : ∃ a vs, v = .ref a ∧ SqL K H a vs ∧ RelMs K ρ H xs vs := by
  obtain ⟨a, rfl, ha⟩ := r.ref_inv
  obtain ⟨vs, hs, rs⟩ := rh.list e ha
  exact ⟨a, vs, rfl, hs, rs⟩
end
section
variable {X : Cx}
theorem biLen : CallR X (.builtin "len") (rMs X.K (biM .len)) := by
  intro pins s σ H xs us Q I r hq
  obtain ⟨ρ, h, mxs, E, rh, rs, p⟩ := hq
  unfold biM at p
  split at p <;> try (first | exact p.elim | contradiction)
  rename_i x _
  obtain ⟨v, rfl, r1⟩ := one_rel rs
  split at p
  · split at p
    · rename_i hz
      obtain rfl := r1.str_inv
      exact call_len pins s σ H _ us Q I r ⟨_, _, rfl, ⟨of_decide_eq_true hz, rfl⟩, p.ok_ rh (.int _)⟩
    · exact p.elim
  · split at p
    · rename_i ys hy
      obtain ⟨q, vs, rfl, hq, rv⟩ := seq_rel rh r1 hy
      rw [rv.len] at p
      refine call_len pins s σ H _ us Q I r ⟨_, vs.length, rfl, ?_, p.ok_ rh (.int _)⟩
      rcases hq with hq | hq
      · exact .inl ⟨vs, hq, rfl⟩
      · exact .inr ⟨vs, hq, rfl⟩
    · exact p.elim
theorem biAbs : CallR X (.builtin "abs") (rMs X.K (biM .abs)) := by
  intro pins s σ H xs us Q I r hq
  obtain ⟨ρ, h, mxs, E, rh, rs, p⟩ := hq
  unfold biM at p
  split at p <;> try (first | exact p.elim | contradiction)
  obtain ⟨v, rfl, r1⟩ := one_rel rs
  obtain rfl := r1.int_inv
  exact call_abs pins s σ H _ us Q I r ⟨_, rfl, p.ok_ rh (.int _)⟩
theorem biInt : CallR X (.type "int") (rMs X.K (biM .int)) := by
  intro pins s σ H xs us Q I r hq
  obtain ⟨ρ, h, mxs, E, rh, rs, p⟩ := hq
  unfold biM at p
  split at p <;> try (first | exact p.elim | contradiction)
  · obtain ⟨v, rfl, r1⟩ := one_rel rs
    obtain rfl := r1.int_inv
    exact call_int1 pins s σ H _ us Q I r (.inl ⟨_, rfl, p.ok_ rh (.int _)⟩)
  · obtain ⟨v, rfl, r1⟩ := one_rel rs
    obtain rfl := r1.bl_inv
    exact call_int1 pins s σ H _ us Q I r (.inr ⟨_, rfl, p.ok_ rh (.int _)⟩)
  · obtain ⟨v, rfl, r1⟩ := one_rel rs
    obtain rfl := r1.str_inv
    split at p
    · rename_i n hn
      split at p
      · rename_i hz
        exact call_int_str pins s σ H _ us Q I r ⟨_, n, rfl, hn, of_decide_eq_true hz, p.ok_ rh (.int _)⟩
      · exact p.elim
    · exact p.elim
theorem biStr : CallR X (.type "str") (rMs X.K (biM .str)) := by
  intro pins s σ H xs us Q I r hq
  obtain ⟨ρ, h, mxs, E, rh, rs, p⟩ := hq
  unfold biM at p
  split at p <;> try (first | exact p.elim | contradiction)
  split at p
  · rename_i hz
    obtain ⟨v, rfl, r1⟩ := one_rel rs
    obtain rfl := r1.int_inv
    exact call_str_int pins s σ H _ us Q I r ⟨_, rfl, of_decide_eq_true hz, p.ok_ rh (.str _)⟩
  · exact p.elim
theorem biSum (hc : X.calm = true) : CallR X (.builtin "sum") (rMs X.K (biM .sum)) := by
  intro pins s σ H xs us Q I r hq
  obtain ⟨ρ, h, mxs, E, rh, rs, p⟩ := hq
  unfold biM at p
  split at p <;> try (first | exact p.elim | contradiction)
  split at p
  · rename_i ys hy
    split at p
    · rename_i ns hn
      obtain ⟨v, rfl, r1⟩ := one_rel rs
      obtain ⟨a, vs, rfl, hs, rv⟩ := rh.listRef r1 hy
      obtain rfl := ints_rel hn rv
      exact cr_sum hc pins s σ H _ us Q I r ⟨a, ns, rfl, hs, p.ok_ rh (.int _)⟩
    · exact p.elim
  · exact p.elim
theorem biMax (hc : X.calm = true) : CallR X (.builtin "max") (rMs X.K (biM .max)) := by
  intro pins s σ H xs us Q I r hq
  obtain ⟨ρ, h, mxs, E, rh, rs, p⟩ := hq
  unfold biM at p
  split at p <;> try (first | exact p.elim | contradiction)
  · obtain ⟨v, w, rfl, r1, r2⟩ := two_rel rs
    obtain rfl := r1.int_inv
    obtain rfl := r2.int_inv
    exact call_max2 hc pins s σ H _ us Q I r ⟨_, _, rfl, p.ok_ rh (.int _)⟩
  · split at p
    · rename_i ys hy
      split at p
      · rename_i ns hn
        split at p
        · exact p.elim
        · rename_i he
          obtain ⟨v, rfl, r1⟩ := one_rel rs
          obtain ⟨a, vs, rfl, hs, rv⟩ := rh.listRef r1 hy
          obtain rfl := ints_rel hn rv
          refine cr_max hc pins s σ H _ us Q I r ⟨a, ns, rfl, hs, ?_, fun m hm hle => ?_⟩
          · cases ns with
            | nil => simp at he
            | cons a l => simp
          · rw [max_is hm hle] at p
            exact p.ok_ rh (.int _)
      · exact p.elim
    · exact p.elim
theorem biMin (hc : X.calm = true) : CallR X (.builtin "min") (rMs X.K (biM .min)) := by
  intro pins s σ H xs us Q I r hq
  obtain ⟨ρ, h, mxs, E, rh, rs, p⟩ := hq
  unfold biM at p
  split at p <;> try (first | exact p.elim | contradiction)
  · obtain ⟨v, w, rfl, r1, r2⟩ := two_rel rs
    obtain rfl := r1.int_inv
    obtain rfl := r2.int_inv
    exact call_min2 hc pins s σ H _ us Q I r ⟨_, _, rfl, p.ok_ rh (.int _)⟩
  · split at p
    · rename_i ys hy
      split at p
      · rename_i ns hn
        split at p
        · exact p.elim
        · rename_i he
          obtain ⟨v, rfl, r1⟩ := one_rel rs
          obtain ⟨a, vs, rfl, hs, rv⟩ := rh.listRef r1 hy
          obtain rfl := ints_rel hn rv
          refine cr_min hc pins s σ H _ us Q I r ⟨a, ns, rfl, hs, ?_, fun m hm hle => ?_⟩
          · cases ns with
            | nil => simp at he
            | cons a l => simp
          · rw [min_is hm hle] at p
            exact p.ok_ rh (.int _)
      · exact p.elim
    · exact p.elim
theorem biList : CallR X (.type "list") (rMs X.K (biM .list)) := by
  intro pins s σ H xs us Q I r hq
  obtain ⟨ρ, h, mxs, E, rh, rs, p⟩ := hq
  unfold biM at p
  split at p <;> try (first | exact p.elim | contradiction)
  split at p
  · rename_i ys hy
    obtain ⟨v, rfl, r1⟩ := one_rel rs
    obtain ⟨q, vs, rfl, hq, rv⟩ := seq_rel rh r1 hy
    exact call_list_of pins s σ H _ us Q I r ⟨q, vs, rfl, hq, post_lst p rh rv⟩
  · exact p.elim
theorem biTuple : CallR X (.type "tuple") (rMs X.K (biM .tuple)) := by
  intro pins s σ H xs us Q I r hq
  obtain ⟨ρ, h, mxs, E, rh, rs, p⟩ := hq
  unfold biM at p
  split at p <;> try (first | exact p.elim | contradiction)
  · obtain ⟨v, rfl, r1⟩ := one_rel rs
    obtain ⟨q, vs, rfl, hq, rv⟩ := r1.tup_inv
    exact call_tuple_of pins s σ H _ us Q I r ⟨q, vs, rfl, .inr ⟨hq, p.ok_ rh r1⟩⟩
  · split at p
    · rename_i ys hy
      obtain ⟨v, rfl, r1⟩ := one_rel rs
      obtain ⟨a, vs, rfl, hs, rv⟩ := rh.listRef r1 hy
      exact call_tuple_of pins s σ H _ us Q I r ⟨a, vs, rfl, .inl ⟨hs, post_tup p rh rv⟩⟩
    · exact p.elim
theorem biAll (hc : X.calm = true) : CallR X (.builtin "all") (rMs X.K (biM .all)) := by
  intro pins s σ H xs us Q I r hq
  obtain ⟨ρ, h, mxs, E, rh, rs, p⟩ := hq
  unfold biM at p
  split at p <;> try (first | exact p.elim | contradiction)
  split at p
  · rename_i ys hy
    split at p
    · rename_i ns hn
      obtain ⟨v, rfl, r1⟩ := one_rel rs
      obtain ⟨a, vs, rfl, hs, rv⟩ := rh.listRef r1 hy
      obtain rfl := bls_rel hn rv
      exact cr_all hc pins s σ H _ us Q I r ⟨a, ns, rfl, hs, p.ok_ rh (.bl _)⟩
    · exact p.elim
  · exact p.elim
theorem biAny (hc : X.calm = true) : CallR X (.builtin "any") (rMs X.K (biM .any)) := by
  intro pins s σ H xs us Q I r hq
  obtain ⟨ρ, h, mxs, E, rh, rs, p⟩ := hq
  unfold biM at p
  split at p <;> try (first | exact p.elim | contradiction)
  split at p
  · rename_i ys hy
    split at p
    · rename_i ns hn
      obtain ⟨v, rfl, r1⟩ := one_rel rs
      obtain ⟨a, vs, rfl, hs, rv⟩ := rh.listRef r1 hy
      obtain rfl := bls_rel hn rv
      exact cr_any hc pins s σ H _ us Q I r ⟨a, ns, rfl, hs, p.ok_ rh (.bl _)⟩
    · exact p.elim
  · exact p.elim
theorem mtAppend : MtR X "list.append" (rMm X.K (mtM .append)) := by
  intro pins s σ H x xs v us Q I rx rxs hq
  obtain ⟨ρ, h, mx, mxs, E, rh, r1, rs, p⟩ := hq
  unfold mtM at p
  split at p <;> try (first | exact p.elim | contradiction)
  split at p
  · rename_i ys hy
    split at p
    · rename_i hz
      obtain ⟨w, rfl, r2⟩ := one_rel rs
      obtain ⟨a, rfl, ha⟩ := r1.ref_inv
      obtain ⟨hi, vs, hv, rv⟩ := rh.wlist hy ha
      have hz' := of_decide_eq_true hz
      rw [rv.len] at hz'
      exact mt_append pins s σ H _ _ v us Q I rx rxs ⟨a, vs, w, rfl, rfl, hv, hz', post_set p rh hi rfl ha (rv.app (.cons r2 .nil)) .non⟩
    · exact p.elim
  · exact p.elim
theorem mtExtend : MtR X "list.extend" (rMm X.K (mtM .extend)) := by
  intro pins s σ H x xs v us Q I rx rxs hq
  obtain ⟨ρ, h, mx, mxs, E, rh, r1, rs, p⟩ := hq
  unfold mtM at p
  split at p <;> try (first | exact p.elim | contradiction)
  split at p
  · rename_i ys zs hy hz
    split at p
    · rename_i hl
      obtain ⟨w, rfl, r2⟩ := one_rel rs
      obtain ⟨a, rfl, ha⟩ := r1.ref_inv
      obtain ⟨b, rfl, hb⟩ := r2.ref_inv
      obtain ⟨hi, vs, hv, rv⟩ := rh.wlist hy ha
      obtain ⟨_, ws, hw, rw⟩ := rh.wlist hz hb
      have hl' := of_decide_eq_true hl
      rw [rv.len, rw.len] at hl'
      exact mt_extend pins s σ H _ _ v us Q I rx rxs ⟨a, b, vs, ws, rfl, rfl, hv, hw, hl', post_set p rh hi rfl ha (rv.app rw) .non⟩
    · exact p.elim
  · exact p.elim
theorem mtPop : MtR X "list.pop" (rMm X.K (mtM .pop)) := by
  intro pins s σ H x xs v us Q I rx rxs hq
  obtain ⟨ρ, h, mx, mxs, E, rh, r1, rs, p⟩ := hq
  unfold mtM at p
  split at p <;> try (first | exact p.elim | contradiction)
  · split at p
    · rename_i ys hy
      split at p
      · rename_i y hl
        obtain rfl := rs.unnil
        obtain ⟨a, rfl, ha⟩ := r1.ref_inv
        obtain ⟨hi, vs, hv, rv⟩ := rh.wlist hy ha
        obtain ⟨w, hw, rw⟩ := rv.get hl
        rw [rv.len] at hw
        exact mt_pop pins s σ H _ _ v us Q I rx rxs ⟨a, vs, w, rfl, rfl, hv, hw, post_set p rh hi rfl ha rv.dropLast rw⟩
      · exact p.elim
    · exact p.elim
  · split at p
    · rename_i ys hy
      split at p
      · rename_i hb
        split at p
        · rename_i k hk
          split at p
          · rename_i y hl
            simp only [Bool.and_eq_true, decide_eq_true_eq] at hb
            obtain ⟨w, rfl, r2⟩ := one_rel rs
            obtain rfl := r2.int_inv
            obtain ⟨a, rfl, ha⟩ := r1.ref_inv
            obtain ⟨hi, vs, hv, rv⟩ := rh.wlist hy ha
            obtain ⟨w, hw, rw⟩ := rv.get hl
            rw [rv.len] at hk
            have re : RelMs X.K ρ H (ys.eraseIdx k) (vs.eraseIdx k) := by
              rw [List.eraseIdx_eq_take_drop_succ, List.eraseIdx_eq_take_drop_succ]
              exact (rv.take _).app (rv.drop _)
            exact mt_popAt pins s σ H _ _ v us Q I rx rxs ⟨a, vs, _, k, w, rfl, rfl, hv, hb.1, hb.2, hk, hw, post_set p rh hi rfl ha re rw⟩
          · exact p.elim
        · exact p.elim
      · exact p.elim
    · exact p.elim
theorem mtInsert : MtR X "list.insert" (rMm X.K (mtM .insert)) := by
  intro pins s σ H x xs v us Q I rx rxs hq
  obtain ⟨ρ, h, mx, mxs, E, rh, r1, rs, p⟩ := hq
  unfold mtM at p
  split at p <;> try (first | exact p.elim | contradiction)
  split at p
  · rename_i ys hy
    split at p
    · rename_i hz
      simp only [Bool.and_eq_true, decide_eq_true_eq] at hz
      obtain ⟨w, w2, rfl, r2, r3⟩ := two_rel rs
      obtain rfl := r2.int_inv
      obtain ⟨a, rfl, ha⟩ := r1.ref_inv
      obtain ⟨hi, vs, hv, rv⟩ := rh.wlist hy ha
      have hz' := hz.1.1
      rw [rv.len] at hz'
      refine mt_insert pins s σ H _ _ v us Q I rx rxs ⟨a, vs, _, w2, rfl, rfl, hv, hz', hz.1.2, hz.2, ?_⟩
      rw [List.append_assoc]
      exact post_set p rh hi rfl ha ((rv.take _).app (.cons r3 (rv.drop _))) .non
    · exact p.elim
  · exact p.elim
theorem mtClear : MtR X "list.clear" (rMm X.K (mtM .clear)) := by
  intro pins s σ H x xs v us Q I rx rxs hq
  obtain ⟨ρ, h, mx, mxs, E, rh, r1, rs, p⟩ := hq
  unfold mtM at p
  split at p <;> try (first | exact p.elim | contradiction)
  split at p
  · rename_i ys hy
    obtain rfl := rs.unnil
    obtain ⟨a, rfl, ha⟩ := r1.ref_inv
    obtain ⟨hi, vs, hv, rv⟩ := rh.wlist hy ha
    exact mt_clear pins s σ H _ _ v us Q I rx rxs ⟨a, vs, rfl, rfl, hv, post_set p rh hi rfl ha .nil .non⟩
  · exact p.elim
theorem mtIndex : MtR X "list.index" (rMm X.K (mtM .index)) := by
  intro pins s σ H x xs v us Q I rx rxs hq
  obtain ⟨ρ, h, mx, mxs, E, rh, r1, rs, p⟩ := hq
  unfold mtM at p
  split at p <;> try (first | exact p.elim | contradiction)
  rename_i y _
  split at p
  · rename_i ys hy
    split at p
    · rename_i hf
      split at p
      · rename_i j hj
        simp only [Bool.and_eq_true] at hf
        obtain ⟨w, rfl, r2⟩ := one_rel rs
        obtain ⟨a, vs, rfl, hs, rv⟩ := rh.listRef r1 hy
        rw [List.findIdx?_eq_some_iff_getElem] at hj
        obtain ⟨hlt, hyes, hno⟩ := hj
        have hget : ys[j]? = some ys[j] := List.getElem?_eq_getElem hlt
        obtain ⟨z, hz, rz⟩ := rv.get hget
        have fl : ∀ {k : Nat} {u : MV}, ys[k]? = some u → flatM u = true := fun {k u} e => List.all_eq_true.mp hf.2 u (List.mem_of_getElem? e)
        refine mt_index pins s σ H _ _ v us Q I rx rxs ⟨a, vs, w, j, z, rfl, rfl, hs, flat_rel r2 hf.1, flats_rel rv hf.2, hz, ?_, fun m z' hm hz' => ?_, p.ok_ rh (.int _)⟩
        · rw [← eqF_rel rz r2 (fl hget) hf.1]
          exact hyes
        · have hml : m < ys.length := Nat.lt_trans hm hlt
          have hg : ys[m]? = some ys[m] := List.getElem?_eq_getElem hml
          obtain ⟨z2, hz2, rz2⟩ := rv.get hg
          rw [hz'] at hz2
          cases hz2
          rw [← eqF_rel rz2 r2 (fl hg) hf.1]
          exact Bool.eq_false_iff.mpr (hno m hm)
      · exact p.elim
    · exact p.elim
  · exact p.elim
theorem mtJoin : MtR X "str.join" (rMm X.K (mtM .join)) := by
  intro pins s σ H x xs v us Q I rx rxs hq
  obtain ⟨ρ, h, mx, mxs, E, rh, r1, rs, p⟩ := hq
  unfold mtM at p
  split at p <;> try (first | exact p.elim | contradiction)
  split at p
  · rename_i ys hy
    split at p
    · rename_i ns hn
      split at p
      · rename_i hz
        obtain ⟨w, rfl, r2⟩ := one_rel rs
        obtain rfl := r1.str_inv
        obtain ⟨a, vs, rfl, hs, rv⟩ := rh.listRef r2 hy
        obtain rfl := strs_rel hn rv
        exact mt_join pins s σ H _ _ v us Q I rx rxs ⟨_, a, ns, rfl, rfl, .inl hs, of_decide_eq_true hz, p.ok_ rh (.str _)⟩
      · exact p.elim
    · exact p.elim
  · exact p.elim
theorem strs_self {K : PySem.W.Frag} {ρ : List Addr} {H : Hp} : ∀ (ys : List Str), RelMs K ρ H (ys.map MV.str) (ys.map V.str)
  | [] => .nil
  | y :: ys => .cons (.str y) (strs_self ys)
theorem mtSplit : MtR X "str.split" (rMm X.K (mtM .split)) := by
  intro pins s σ H x xs v us Q I rx rxs hq
  obtain ⟨ρ, h, mx, mxs, E, rh, r1, rs, p⟩ := hq
  unfold mtM at p
  split at p <;> try (first | exact p.elim | contradiction)
  split at p
  · rename_i hz
    obtain ⟨w, rfl, r2⟩ := one_rel rs
    obtain rfl := r1.str_inv
    obtain rfl := r2.str_inv
    exact mt_split pins s σ H _ _ v us Q I rx rxs ⟨_, _, rfl, rfl, hz.1, hz.2, post_lst p rh (strs_self _)⟩
  · exact p.elim
def tyName : Ty → String
  | .tint => "int" | .tbool => "bool" | .tstr => "str" | .ttuple => "tuple" | .tlist => "list"
theorem sqT_ty {K : PySem.W.Frag} {H : Hp} {p : Addr} {vs : List V} (h : SqT K H p vs) : TyX K H (.ref p) (.type "tuple") := by
  rcases h with (h | ⟨o, h⟩) | ⟨o, its, n, h, hc, _⟩
  · exact .base (.tup h)
  · exact .fTuple h
  · exact .kTuple h hc
theorem sqL_ty {K : PySem.W.Frag} {H : Hp} {p : Addr} {vs : List V} (h : SqL K H p vs) : TyX K H (.ref p) (.type "list") := by
  rcases h with (h | ⟨o, h⟩) | ⟨o, its, n, h, hc, _⟩
  · exact .base (.lst h)
  · exact .base (.frz h)
  · exact .kList h hc
theorem tyM_ok {K : PySem.W.Frag} {ρ : List Addr} {H : Hp} {h : MH} (rh : RelH K ρ h H) {mx : MV} {x : V} {t : Ty} (r : RelM K ρ H mx x) (e : tyM h mx = some t) : TyX K H x (.type (tyName t)) := by
  unfold tyM at e
  split at e <;> try cases e
  · obtain rfl := r.bl_inv; exact .base (.bl _)
  · obtain rfl := r.int_inv; exact .base (.int _)
  · obtain rfl := r.str_inv; exact .base (.str _)
  · obtain ⟨p, vs, rfl, hp, _⟩ := r.tup_inv; exact sqT_ty hp
  · split at e
    · rename_i xs hx
      cases e
      obtain ⟨a, vs, rfl, hs, _⟩ := rh.listRef r hx
      exact sqL_ty hs
    · cases e
def isT (u t : Ty) : Bool := decide (t = u) || (decide (u = .tbool) && decide (t = .tint))
theorem kit_isT {K : PySem.W.Frag} (u t : Ty) : PySem.W.kitOne K (.type (tyName u)) (.type (tyName t)) = some (isT u t) := by
  cases u <;> cases t <;> exact kit_ty (by decide +kernel)
theorem kit_non {K : PySem.W.Frag} (t : Ty) : PySem.W.kitOne K (.type "NoneType") (.type (tyName t)) = some false := by
  cases t <;> exact kit_ty (by decide +kernel)
theorem isM_ok {K : PySem.W.Frag} {ρ : List Addr} {H : Hp} {h : MH} (rh : RelH K ρ h H) {mx : MV} {x : V} {ts : List Ty} {b : Bool} (r : RelM K ρ H mx x) (e : isM h ts mx = some b) :
    ∃ t, TyX K H x t ∧ ∃ f : Ty → Bool, (∀ u, PySem.W.kitOne K t (.type (tyName u)) = some (f u)) ∧ b = ts.any f := by
  unfold isM at e
  split at e
  · cases e
    obtain rfl := r.non_inv
    refine ⟨_, .base .non, fun _ => false, kit_non, ?_⟩
    induction ts with
    | nil => rfl
    | cons t ts ih => rw [List.any_cons, ← ih]; rfl
  · split at e
    · rename_i ht
      cases e
      refine ⟨_, tyM_ok rh r ht, isT .tbool, kit_isT _, ?_⟩
      refine congrArg (fun f => List.any ts f) (funext fun t => ?_)
      cases t <;> rfl
    · rename_i u hne ht
      cases e
      refine ⟨_, tyM_ok rh r ht, isT u, kit_isT _, ?_⟩
      refine congrArg (fun f => List.any ts f) (funext fun t => ?_)
      cases u <;> cases t <;> first | rfl | exact absurd rfl hne
    · cases e
theorem kitAny_of {K : PySem.W.Frag} {t : Value} {f : Ty → Bool} (hf : ∀ u, PySem.W.kitOne K t (.type (tyName u)) = some (f u)) : ∀ ts : List Ty, PySem.W.kitAny K t (ts.map fun u => .type (tyName u)) = some (ts.any f)
  | [] => kitAny_nil
  | u :: ts => by
    rw [List.map_cons, List.any_cons]
    refine kitAny_cons (hf u) (fun e => ?_) (fun e => by rw [e]; rfl)
    rw [e, Bool.false_or]
    exact kitAny_of hf ts
end
end M
namespace M
open PySem L2
structure Ct where
  N : List Str
  sc : Scope
  all : Bool
def visB (sc : Scope) (x : Str) : Bool := match sc.names.lookup x with
  | some .local => true | some .cell => true | some .free => true | _ => false
def locB (Γ : Ct) (x : Str) : Bool := match Γ.sc.names.lookup x with
  | some .local => true | some .cell => Γ.all | _ => false
def gloB (sc : Scope) (x : Str) : Bool := match sc.names.lookup x with
  | some .globalImplicit => true | _ => false
def dbgB (x : Str) : Bool := !(x == ("__debug__" : Str))
def okName (x : Str) : Bool := !(x == ("__debug__" : Str)) && !(x == ("__classdict__" : Str))
def bopB : Bop → Operator → Bool
  | .add, .Add => true | .sub, .Sub => true | .mul, .Mult => true | .fdiv, .FloorDiv => true | .mod, .Mod => true | .pow, .Pow => true
  | _, _ => false
def copB : Cop → CmpOp → Bool
  | .eq, .Eq => true | .ne, .NotEq => true | .lt, .Lt => true | .le, .LtE => true | .gt, .Gt => true | .ge, .GtE => true
  | .isin, .In => true | .notin, .NotIn => true | .isN, .Is => true | .notN, .IsNot => true
  | _, _ => false
def biName : Bi → Str
  | .len => "len" | .abs => "abs" | .int => "int" | .str => "str" | .sum => "sum" | .max => "max" | .min => "min"
  | .list => "list" | .tuple => "tuple" | .all => "all" | .any => "any"
def mtName : Mt → Str
  | .append => "append" | .extend => "extend" | .pop => "pop" | .insert => "insert" | .index => "index" | .count => "count" | .clear => "clear" | .split => "split" | .join => "join"
def bltNames : List Str := ["len", "abs", "int", "str", "sum", "max", "min", "sorted", "list", "tuple", "all", "any", "range", "enumerate", "zip", "isinstance", "bool"]
def tyOk (t : Ty) : Expr → Bool
  | .Name x _ => decide (x = Str.ofString (tyName t))
  | _ => false
def tysOk : List Ty → List Expr → Bool
  | [], [] => true
  | t :: ts, e :: es => tyOk t e && tysOk ts es
  | _, _ => false
def gNames (Γ : Ct) : List Expr → Bool
  | [] => true
  | .Name x _ :: es => gloB Γ.sc x && gNames Γ es
  | _ => false
def ownL (N : List Str) (own : List Nat) : List (Str × Nat) := own.map fun i => ((N[i]?).getD "", i)
mutual
def tgOwn (own : List Nat) : Tg → Bool
  | .name i => own.contains i
  | .tup ts => tgsOwn own ts
  | .sub _ _ => false
def tgsOwn (own : List Nat) : Tgs → Bool
  | .nil => true
  | .cons t ts => tgOwn own t && tgsOwn own ts
end
def notSuper : Expr → Bool
  | .Call (.Name x _) [] [] _ => !(x == ("super" : Str))
  | _ => true
def isTupE : Expr → Bool
  | .Tuple _ _ _ => true
  | _ => false
section
variable (G : MG)
mutual
def mE (Γ : Ct) : IE → Expr → Bool
  | .var i, e => match e with | .Name x _ => decide (Γ.N[i]? = some x) && visB Γ.sc x && okName x | _ => false
  | .glb k, e => match e with | .Name x _ => (match G.consts.lookup k with | some (y, _) => decide (y = x) | none => false) && gloB Γ.sc x && dbgB x | _ => false
  | .int i, e => match e with | .Constant (.int j) _ _ => decide (i = j) | _ => false
  | .bl i, e => match e with | .Constant (.bool j) _ _ => decide (i = j) | _ => false
  | .non, e => match e with | .Constant .none _ _ => true | _ => false
  | .str i, e => match e with | .Constant (.str j) _ _ => decide (i = j) | _ => false
  | .bop o a b, e => match e with | .BinOp l op r _ => bopB o op && mE Γ a l && mE Γ b r | _ => false
  | .neg a, e => match e with | .UnaryOp .USub x _ => mE Γ a x | _ => false
  | .not a, e => match e with | .UnaryOp .Not x _ => mE Γ a x | _ => false
  | .cmp o a b, e => match e with | .Compare l [op] [r] _ => copB o op && mE Γ a l && mE Γ b r | _ => false
  | .chn o o' a b c, e => match e with | .Compare l [op, op'] [r, t] _ => copB o op && copB o' op' && mE Γ a l && mE Γ b r && mE Γ c t | _ => false
  | .and a b, e => match e with
    | .BoolOp .And (x :: y :: []) _ => mE Γ a x && mE Γ b y
    | .BoolOp .And (x :: y :: z :: r) pos => mE Γ a x && mE Γ b (.BoolOp .And (y :: z :: r) pos)
    | _ => false
  | .or a b, e => match e with
    | .BoolOp .Or (x :: y :: []) _ => mE Γ a x && mE Γ b y
    | .BoolOp .Or (x :: y :: z :: r) pos => mE Γ a x && mE Γ b (.BoolOp .Or (y :: z :: r) pos)
    | _ => false
  | .ite c a b, e => match e with | .IfExp c' a' b' _ => mE Γ c c' && mE Γ a a' && mE Γ b b' | _ => false
  | .idx a b, e => match e with | .Subscript a' b' _ => mE Γ a a' && mE Γ b b' | _ => false
  | .slc a lo hi, e => match e with | .Subscript a' (.Slice lo' hi' none _) _ => mE Γ a a' && mO Γ lo lo' && mO Γ hi hi' | _ => false
  | .tup es, e => match e with | .Tuple es' _ _ => mEs Γ es es' | _ => false
  | .lst es, e => match e with | .List es' _ => mEs Γ es es' | _ => false
  | .gin neg k a, e => match e with
    | .Compare l [op] [.Name x _] _ => (match neg, op with | false, .In => true | true, .NotIn => true | _, _ => false) && mE Γ a l && (match G.dicts.lookup k with | some (y, _) => decide (y = x) | none => false) && gloB Γ.sc x && dbgB x
    | _ => false
  | .gget k a, e => match e with
    | .Subscript (.Name x _) a' _ => mE Γ a a' && (match G.dicts.lookup k with | some (y, _) => decide (y = x) | none => false) && gloB Γ.sc x && dbgB x
    | _ => false
  | .call f es, e => match e with
    | .Call (.Name x _) es' [] _ => (match G.fns.lookup f with | some d => decide (d.name = x) | none => false) && gloB Γ.sc x && dbgB x && mEs Γ es es'
    | _ => false
  | .lrng1 b, e => match e with
    | .Call (.Name x _) [.Call (.Name y _) [b'] [] _] [] _ => decide (x = "list") && gloB Γ.sc x && decide (y = "range") && gloB Γ.sc y && mE Γ b b'
    | _ => false
  | .lrng2 a b, e => match e with
    | .Call (.Name x _) [.Call (.Name y _) [a', b'] [] _] [] _ => decide (x = "list") && gloB Γ.sc x && decide (y = "range") && gloB Γ.sc y && mE Γ a a' && mE Γ b b'
    | _ => false
  | .nope, e => match e with | .Call _ _ _ _ => true | _ => false
  | .calld f _ es, e => match e with
    | .Call (.Name x _) (e1 :: es') [] _ => (match G.fns.lookup f with | some d => decide (d.name = x) | none => false) && gloB Γ.sc x && dbgB x && mEs Γ es (e1 :: es')
    | _ => false
  | .bi b es, e => match e with
    | .Call (.Name x _) (e1 :: es') [] _ => decide (x = biName b) && gloB Γ.sc x && mEs Γ es (e1 :: es')
    | _ => false
  | .isin ts a, e => match e with
    | .Call (.Name x _) [a', t'] [] _ => decide (x = "isinstance") && gloB Γ.sc x && mE Γ a a' && (match ts, t' with
      | [t], .Name y _ => decide (y = Str.ofString (tyName t)) && gloB Γ.sc y
      | ts, .Tuple es _ _ => tysOk ts es && gNames Γ es && decide (ts.length ≤ 100)
      | _, _ => false)
    | _ => false
  | .mth m o es, e => match e with
    | .Call (.Attribute o' nm apos) es' [] pos => decide (nm = mtName m) && (apos.endLine == pos.line) && decide (es'.length < 20) && notSuper o' && mE Γ o o' && mEs Γ es es'
    | _ => false
  | .comp elt tg it cond own, e => match e with
    | .ListComp elt' [⟨tg', iter', ifs', 0⟩] scope _ =>
      blkC Γ.N Γ.sc scope (ownL Γ.N own) && tgOwn own tg && mI Γ it tg' iter' && mT ⟨Γ.N, relS scope Γ.sc, false⟩ tg tg' && mC ⟨Γ.N, relS scope Γ.sc, false⟩ cond ifs' && mE ⟨Γ.N, relS scope Γ.sc, false⟩ elt elt'
    | _ => false
def mEs (Γ : Ct) : IEs → List Expr → Bool
  | .nil, es => match es with | [] => true | _ => false
  | .cons a r, es => match es with | e :: es' => mE Γ a e && mEs Γ r es' | _ => false
def mO (Γ : Ct) : IO → Option Expr → Bool
  | .none, e => match e with | none => true | _ => false
  | .some a, e => match e with | some x => mE Γ a x | _ => false
def mC (Γ : Ct) : IO → List Expr → Bool
  | .none, e => match e with | [] => true | _ => false
  | .some a, e => match e with | [x] => mE Γ a x | _ => false
def mI (Γ : Ct) : II → Expr → Expr → Bool
  | .seq a, _, e => mE Γ a e
  | .rng1 a, _, e => match e with | .Call (.Name x _) [a'] [] _ => decide (x = "range") && gloB Γ.sc x && mE Γ a a' | _ => false
  | .rng2 a b, _, e => match e with | .Call (.Name x _) [a', b'] [] _ => decide (x = "range") && gloB Γ.sc x && mE Γ a a' && mE Γ b b' | _ => false
  | .enum a, t, e => match e with | .Call (.Name x _) [a'] [] _ => decide (x = "enumerate") && gloB Γ.sc x && isTupE t && mE Γ a a' | _ => false
  | .zip a b, t, e => match e with | .Call (.Name x _) [a', b'] [] _ => decide (x = "zip") && gloB Γ.sc x && isTupE t && mE Γ a a' && mE Γ b b' | _ => false
def mT (Γ : Ct) : Tg → Expr → Bool
  | .name i, e => match e with | .Name x _ => decide (Γ.N[i]? = some x) && locB Γ x | _ => false
  | .tup ts, e => match e with | .Tuple es _ _ => mTs Γ ts es | _ => false
  | .sub o i, e => match e with | .Subscript o' i' _ => mE Γ o o' && mE Γ i i' | _ => false
def mTs (Γ : Ct) : Tgs → List Expr → Bool
  | .nil, es => match es with | [] => true | _ => false
  | .cons t r, es => match es with | e :: es' => mT Γ t e && mTs Γ r es' | _ => false
end
def isComp : IE → Bool
  | .comp _ _ _ _ _ => true
  | _ => false
def isTupI : IE → Bool
  | .tup _ => true
  | _ => false
mutual
def mS (Γ : Ct) : IS → Stmt → Bool
  | .asg t a, s => match s with
    | .Assign [t'] e pos => mT G Γ t t' && mE G Γ a e && !(isTupE t' && isTupI a)
    | _ => false
  | .expr a, s => match s with | .Expr e pos => mE G Γ a e && !(isComp a) | _ => false
  | .ret a, s => match s with
    | .Return (some e) _ => mE G Γ a e
    | .Return none _ => (match a with | .non => true | _ => false)
    | _ => false
  | .ife c a b, s => match s with | .If c' a' b' _ => mE G Γ c c' && mSs Γ a a' && mSs Γ b b' | _ => false
  | .whl c b, s => match s with | .While c' b' [] _ => mE G Γ c c' && mSs Γ b b' | _ => false
  | .forr t it b, s => match s with | .For t' it' b' [] _ => mT G Γ t t' && mI G Γ it t' it' && mSs Γ b b' | _ => false
  | .brk, s => match s with | .Break _ => true | _ => false
  | .cont, s => match s with | .Continue _ => true | _ => false
  | .pass, s => match s with | .Pass _ => true | _ => false
  | .never, _ => true
def mSs (Γ : Ct) : ISs → List Stmt → Bool
  | .nil, s => match s with | [] => true | _ => false
  | .cons a r, s => match s with | x :: s' => mS Γ a x && mSs Γ r s' | _ => false
end
end
def odd : Expr → Bool
  | .Set .. => true
  | .Slice .. => true
  | .Starred .. => true
  | .SetComp .. => true
  | .DictComp .. => true
  | _ => false
theorem mE_odd {G : MG} {Γ : Ct} {c : IE} {e : Expr} (h : mE G Γ c e = true) : odd e = false := by
  cases e <;> first
    | rfl
    | (cases c <;> exact Bool.noConfusion h)
theorem mE_listComp {G : MG} {Γ : Ct} {c : IE} {a b d f} (h : mE G Γ c (.ListComp a b d f) = true) : isComp c = true := by
  cases c <;> first | rfl | exact Bool.noConfusion h
theorem mE_tup {G : MG} {Γ : Ct} {c : IE} {a b d} (h : mE G Γ c (.Tuple a b d) = true) : isTupI c = true := by
  cases c <;> first | rfl | exact Bool.noConfusion h
end M
namespace M
open PySem L2
theorem plainIx {b : Expr} (h : odd b = false) : PlainIx b := by
  intro o i
  cases b <;> first | rfl | exact Bool.noConfusion h
theorem noSet {b : Expr} (h : odd b = false) (op : CmpOp) : behindInMarks op b = false := by
  cases b <;> first | rfl | exact Bool.noConfusion h
theorem noFold {b : Expr} (h : odd b = false) (env : Env) (x : Value) : foldedSetIterable b env x = pure x := by
  cases b <;> first | rfl | exact Bool.noConfusion h
theorem star1 {b : Expr} (h : odd b = false) (es : List Expr) (env : Env) : starEach (b :: es) env = (false, eval b env) :: starEach es env := by
  cases b <;> first | rfl | exact Bool.noConfusion h
theorem noSwap {b : Expr} (h : odd b = false) (hl : ∀ a c d f, b ≠ .ListComp a c d f) (t : Option Expr) (l : Nat) (env : Env) : swapsWith b t l env = pure false := by
  cases b <;> first | rfl | exact Bool.noConfusion h | exact absurd rfl (hl _ _ _ _)
theorem star_all {G : MG} {Γ : Ct} : ∀ {cs : IEs} {es : List Expr}, mEs G Γ cs es = true → ∀ (pos : Pos) (env : Env), (backTo pos (starEach es env)).any (·.1) = false ∧ (backTo pos (starEach es env)).all (fun x => !x.1) = true
  | .nil, es, h, pos, env => by
    unfold mEs at h
    split at h
    · exact ⟨rfl, rfl⟩
    · exact Bool.noConfusion h
  | .cons c cs, es, h, pos, env => by
    unfold mEs at h
    split at h
    · simp only [Bool.and_eq_true] at h
      rw [star1 (mE_odd h.1)]
      obtain ⟨h1, h2⟩ := star_all h.2 pos env
      exact ⟨h1, h2⟩
    · exact Bool.noConfusion h
structure RelS (K : PySem.W.Frag) (ρ : List Addr) (H : Hp) (e : MEnv) (σ : St) : Prop where
  len : e.length = σ.length
  at_ : ∀ (i : Nat) (x : MV), e[i]? = some (some x) → ∃ v, σ[i]? = some (some v) ∧ RelM K ρ H x v
theorem RelS.mono {K : PySem.W.Frag} {ρ ρ' : List Addr} {H H' : Hp} {e : MEnv} {σ : St} (x : Ext ρ H ρ' H') (r : RelS K ρ H e σ) : RelS K ρ' H' e σ :=
  ⟨r.len, fun i y h => let ⟨v, h1, h2⟩ := r.at_ i y h; ⟨v, h1, h2.mono x⟩⟩
theorem RelS.set {K : PySem.W.Frag} {ρ : List Addr} {H : Hp} {e : MEnv} {σ : St} (r : RelS K ρ H e σ) {i : Nat} {x : MV} {v : V} (rv : RelM K ρ H x v) : RelS K ρ H (e.set i (some x)) (σ.set i (some v)) := by
  refine ⟨by simp [r.len], fun j y h => ?_⟩
  rw [List.getElem?_set] at h
  by_cases hj : i = j
  · subst hj
    rw [if_pos rfl] at h
    split at h
    · rename_i hi
      cases h
      exact ⟨v, by rw [List.getElem?_set_self (by rw [← r.len]; exact hi)], rv⟩
    · cases h
  · rw [if_neg hj] at h
    obtain ⟨w, h1, h2⟩ := r.at_ j y h
    exact ⟨w, by rw [List.getElem?_set_ne hj]; exact h1, h2⟩
theorem RelS.wipe {K : PySem.W.Frag} {ρ : List Addr} {H : Hp} {e : MEnv} {σ : St} (r : RelS K ρ H e σ) : ∀ own : List Nat, RelS K ρ H (wipeM e own) (L2.wipe σ own)
  | [] => r
  | v :: vs => by
    have q := RelS.wipe r vs
    unfold wipeM L2.wipe
    refine ⟨by simp [q.len], fun j y h => ?_⟩
    rw [List.getElem?_set] at h
    by_cases hj : v = j
    · subst hj
      rw [if_pos rfl] at h
      split at h <;> cases h
    · rw [if_neg hj] at h
      obtain ⟨w, h1, h2⟩ := q.at_ j y h
      exact ⟨w, by rw [List.getElem?_set_ne hj]; exact h1, h2⟩
theorem RelS.start {K : PySem.W.Frag} {ρ : List Addr} {H : Hp} {xs : List MV} {vs : List V} (r : RelMs K ρ H xs vs) (N : List Str) : RelS K ρ H (startM N xs) (L2.start N vs) := by
  unfold startM L2.start
  refine ⟨by simp [r.len], fun i y h => ?_⟩
  have hl := r.len
  by_cases hi : i < xs.length
  · rw [List.getElem?_append_left (by simpa using hi), List.getElem?_map] at h
    cases q : xs[i]? with
    | none => rw [q] at h; cases h
    | some z =>
      rw [q] at h
      simp at h
      subst h
      obtain ⟨v, h1, h2⟩ := r.get q
      exact ⟨v, by rw [List.getElem?_append_left (by simp; omega), List.getElem?_map, h1]; rfl, h2⟩
  · rw [List.getElem?_append_right (by simpa using hi), List.getElem?_replicate] at h
    split at h <;> cases h
def spM (G : MG) (K : PySem.W.Frag) (n f k : Nat) : Sp := fun vs H Q E => vs.length = k ∧ ∃ ρ h xs, RelH K ρ h H ∧ RelMs K ρ H xs vs ∧ PostM K ρ H (callF G n f xs h) Q E
structure Sur (G : MG) (n : Nat) (X : Cx) (W : WX) (Γ : Ct) : Prop where
  N : X.N = Γ.N
  sc : X.env.scope = Γ.sc
  nd : X.N.Nodup
  calm : X.calm = true
  room : Room n X.A
  fn : Γ.all = true → ∀ x, X.fn x = true
  pas : ∀ σ, PassesAt (L2.CX X.prog X.w) X σ (fun c d H => W c d σ H)
  own : PassesOwn (model X.prog X.w) X.A X.env X.xe
  blt : ∀ x ∈ bltNames, X.mg x = none
  fns : ∀ (f : Nat) (d : Fn), G.fns.lookup f = some d → ∃ a fd, FnOk X.prog X.w X.K X.mg X.base (L2.CX X.prog X.w) n a fd d.ps (spM G X.K n f d.ps.length) ∧ X.mg d.name = some (.ref a) ∧ PySem.W.keepIn X.K (.ref a) = true ∧ Binds X.K fd d.ps [] ∧ ∀ (k : Nat) (ds : List MV), d.dfls[k]? = some ds → ∃ dvs us, Vals dvs us ∧ Binds X.K fd d.ps us ∧ ∀ ρ H, RelMs X.K ρ H ds dvs
  consts : ∀ (k : Nat) (x : Str) (v : MV), G.consts.lookup k = some (x, v) → ∃ u w, X.mg x = some u ∧ RelV w u ∧ ∀ ρ H, RelM X.K ρ H v w
  dicts : ∀ (k : Nat) (x : Str) (kvs : List (Str × MV)), G.dicts.lookup k = some (x, kvs) → ∃ d es m, X.mg x = some (.ref d) ∧ KDict X.K X.w d es m ∧ ∀ z, (kvs.lookup z = none → PySem.W.nsIn X.K d z = some none) ∧ ∀ v, kvs.lookup z = some v → ∃ u w, PySem.W.nsIn X.K d z = some (some u) ∧ RelV w u ∧ ∀ ρ H, RelM X.K ρ H v w
abbrev W0 : WX := fun _ _ _ _ => False
theorem Sur.blk {G : MG} {n : Nat} {X : Cx} {W : WX} {Γ : Ct} (S : Sur G n X W Γ) (s : Shared) (H : Hp) (scope : Scope) (C : Addr) (cl : List (Str × Addr)) (fp : List Addr) :
    Sur G n (X.blk s H scope (compEnvC scope cl C X.env) fp) W0 ⟨Γ.N, relS scope Γ.sc, false⟩ where
  N := S.N
  sc := by
    show (compEnvC scope cl C X.env).scope = relS scope Γ.sc
    rw [← S.sc]
    rfl
  nd := S.nd
  calm := S.calm
  room := S.room
  fn := fun z => nomatch z
  pas := fun σ => by
    intro pins H' s' e s'' _ c
    obtain ⟨_, _, _, _, _, _, _, _, _, _, _, _, z⟩ := c
    exact z.elim
  own := PassesOwn.never
  blt := S.blt
  fns := S.fns
  consts := S.consts
  dicts := S.dicts
section
variable (G : MG) (n : Nat) (K : PySem.W.Frag) (W : WX)
def asBool : MV → MH → RS Bool := fun x h => match x with | .bl b => .ok b h | _ => .bad
abbrev ev (c : IE) := evE G (callF G n) c
def rdE (c : IE) : TE := fun σ H Q => ∃ ρ h e, RelS K ρ H e σ ∧ RelH K ρ h H ∧ PostM K ρ H (evE G (callF G n) c e h) Q (fun cls d H' => W cls d σ H')
def rdB (c : IE) : TT := fun σ H Q => ∃ ρ h e, RelS K ρ H e σ ∧ RelH K ρ h H ∧ Post K (fun _ _ (a b : Bool) => a = b) ρ H ((evE G (callF G n) c e h).bind asBool) Q (fun cls d H' => W cls d σ H')
def rdEs (c : IEs) : TA := fun σ H Q => ∃ ρ h e, RelS K ρ H e σ ∧ RelH K ρ h H ∧ Post K (RelMs K) ρ H (evEs G (callF G n) c e h) Q (fun cls d H' => W cls d σ H')
def rdO (c : IO) : TO := fun σ H Q => ∃ ρ h e, RelS K ρ H e σ ∧ RelH K ρ h H ∧ Post K (fun _ _ (a b : Option Int) => a = b) ρ H (evO G (callF G n) c e h) Q (fun cls d H' => W cls d σ H')
def rdC (c : IO) : TT := fun σ H Q => ∃ ρ h e, RelS K ρ H e σ ∧ RelH K ρ h H ∧ Post K (fun _ _ (a b : Bool) => a = b) ρ H ((evC G (callF G n) c e h).bind asBool) Q (fun cls d H' => W cls d σ H')
def ItOk (K : PySem.W.Frag) (ρ0 : List Addr) (H0 : Hp) (J : Iter) (J' : It) : Prop := ∀ (i : Nat) (ρ : List Addr) (h : MH) (H : Hp), Ext ρ0 H0 ρ H → RelH K ρ h H →
  (J.nx i h = some none → J'.stop i H) ∧ ∀ v, J.nx i h = some (some v) → J'.go i H ∧ ∀ x H', J'.yld i H x H' → RelH K ρ h H' ∧ Ext ρ H ρ H' ∧ RelM K ρ H' v x
def rdI (c : II) : TI := fun σ H R => ∃ ρ h e, RelS K ρ H e σ ∧ RelH K ρ h H ∧ Post K (ItOk K) ρ H (evI G (callF G n) c e h) R (fun cls d H' => W cls d σ H')
def rdT (t : Tg) : TG := fun x σ H Q => ∃ ρ h e v, RelS K ρ H e σ ∧ RelH K ρ h H ∧ RelM K ρ H v x ∧ Post K (RelS K) ρ H (asT G (callF G n) t v e h) Q (fun _ _ _ => False)
def rdTs (t : Tgs) : TGs := fun xs σ H Q => ∃ ρ h e vs, RelS K ρ H e σ ∧ RelH K ρ h H ∧ RelMs K ρ H vs xs ∧ Post K (RelS K) ρ H (asTs G (callF G n) t vs e h) Q (fun _ _ _ => False)
end
theorem visOf {sc : Scope} {x : Str} (h : visB sc x = true) : Vis sc x := by
  unfold visB at h
  unfold Vis
  split at h <;> first | (rename_i q; exact .inl q) | (rename_i q; exact .inr (.inl q)) | (rename_i q; exact .inr (.inr q)) | exact Bool.noConfusion h
theorem gloOf {X : Cx} {Γ : Ct} {x : Str} (e : X.env.scope = Γ.sc) (h : gloB Γ.sc x = true) : Gl X x := by
  unfold gloB at h
  split at h
  · rename_i q
    show X.env.scope.names.lookup x = some .globalImplicit
    rw [e]
    exact q
  · exact Bool.noConfusion h
theorem dbgOf {x : Str} (h : dbgB x = true) : (x == ("__debug__" : Str)) = false := by
  unfold dbgB at h
  exact Bool.not_eq_true' _ ▸ h
theorem PE.imp {X : Cx} {e : Expr} {t u : TE} (h : PE X e t) (f : ∀ σ H Q, u σ H Q → t σ H Q) : PE X e u := ⟨fun pins s σ H Q I q => h.run pins s σ H Q I (f σ H Q q)⟩
theorem PT.imp {X : Cx} {e : Expr} {t u : TT} (h : PT X e t) (f : ∀ σ H Q, u σ H Q → t σ H Q) : PT X e u := ⟨fun pins s σ H Q I q => h.run pins s σ H Q I (f σ H Q q)⟩
theorem PA.imp {X : Cx} {e : List Expr} {t u : TA} (h : PA X e t) (f : ∀ σ H Q, u σ H Q → t σ H Q) : PA X e u := ⟨fun pos pins s σ H Q I q => h.run pos pins s σ H Q I (f σ H Q q)⟩
theorem PO.imp {X : Cx} {e : Option Expr} {t u : TO} (h : PO X e t) (f : ∀ σ H Q, u σ H Q → t σ H Q) : PO X e u := ⟨fun pins s σ H Q I q => h.run pins s σ H Q I (f σ H Q q)⟩
theorem PTs.imp {X : Cx} {e : List Expr} {t u : TT} (h : PTs X e t) (f : ∀ σ H Q, u σ H Q → t σ H Q) : PTs X e u := ⟨fun pins s σ H Q I q => h.run pins s σ H Q I (f σ H Q q)⟩
theorem PG.imp {X : Cx} {e : Expr} {t u : TG} (h : PG X e t) (f : ∀ x σ H Q, u x σ H Q → t x σ H Q) : PG X e u := ⟨fun pins s σ H v w Q I r q => h.run pins s σ H v w Q I r (f v σ H Q q)⟩
theorem PGs.imp {X : Cx} {e : List Expr} {t u : TGs} (h : PGs X e t) (f : ∀ x σ H Q, u x σ H Q → t x σ H Q) : PGs X e u := ⟨fun pins s σ H v w Q I r q => h.run pins s σ H v w Q I r (f v σ H Q q)⟩
theorem PI.imp {X : Cx} {tg e : Expr} {t u : TI} (h : PI X tg e t) (f : ∀ σ H Q, u σ H Q → t σ H Q) : PI X tg e u := ⟨fun pins s σ H Q I q => h.run pins s σ H Q I (f σ H Q q)⟩
section
variable {G : MG} {n : Nat} {X : Cx} {W : WX} {Γ : Ct}
theorem testOf {c : IE} {e : Expr} (h : PE X e (rdE G n X.K W c)) (he : ∀ whole, isTrue e X.env whole = (do let v ← whole; standAt e.pos; holding [v] (truthy v))) : PT X e (rdB G n X.K W c) := by
  refine PT.imp (pt_val h he) fun σ H Q q => ?_
  obtain ⟨ρ, h, e, rs, rh, p⟩ := q
  refine ⟨ρ, h, e, rs, rh, (p.bind (R := RelM X.K)).imp fun x H1 ⟨ρ1, h1, a, x1, rh1, ra, p1⟩ => ?_⟩
  unfold asBool at p1
  cases a with
  | bl b => obtain rfl := ra.bl_inv; exact ⟨b, rfl, p1.ok_ rh1 rfl⟩
  | _ => exact p1.elim
theorem post_bool {K : PySem.W.Frag} {ρ : List Addr} {H : Hp} {h : MH} {b : Bool} {Q : Bool → Hp → Prop} {E : XK} (p : Post K (fun _ _ (a b : Bool) => a = b) ρ H (RS.bind (.ok (.bl b) h) asBool) Q E) (rh : RelH K ρ h H) : Q b H := p ρ H b (Ext.refl ρ H) rh rfl
end
end M
namespace M
open PySem L2
section
variable {G : MG} {n : Nat} {X : Cx} {W : WX} {Γ : Ct}
theorem r_var {i : Nat} {x : Str} {pos : Pos} (S : Sur G n X W Γ) (h1 : Γ.N[i]? = some x) (h2 : visB Γ.sc x = true) (h3 : okName x = true) : PE X (.Name x pos) (rdE G n X.K W (.var i)) := by
  unfold okName at h3
  simp only [Bool.and_eq_true, Bool.not_eq_true'] at h3
  refine PE.imp (pe_var (i := i) (by rw [S.N]; exact h1) (by rw [S.sc]; exact visOf h2) h3.1 h3.2) fun σ H Q q => ?_
  obtain ⟨ρ, h, e, rs, rh, p⟩ := q
  unfold evE at p
  split at p
  · rename_i v hv
    obtain ⟨w, h1, h2⟩ := rs.at_ i v hv
    exact ⟨w, h1, p.ok_ rh h2⟩
  · exact p.elim
theorem r_glb {k : Nat} {x : Str} {pos : Pos} (S : Sur G n X W Γ) (h1 : (match G.consts.lookup k with | some (y, _) => decide (y = x) | none => false) = true) (h2 : gloB Γ.sc x = true) (h3 : dbgB x = true) : PE X (.Name x pos) (rdE G n X.K W (.glb k)) := by
  split at h1
  · rename_i y v hk
    obtain rfl := of_decide_eq_true h1
    obtain ⟨u, w, hm, r, rm⟩ := S.consts k y v hk
    refine PE.imp (pe_glob (gloOf S.sc h2) hm r (dbgOf h3)) fun σ H Q q => ?_
    obtain ⟨ρ, h, e, rs, rh, p⟩ := q
    unfold evE at p
    rw [hk] at p
    exact p.ok_ rh (rm ρ H)
  · exact Bool.noConfusion h1
theorem r_int {i : Int} {j pos} : PE X (.Constant (.int i) j pos) (rdE G n X.K W (.int i)) := PE.imp pe_int fun σ H Q ⟨ρ, h, e, rs, rh, p⟩ => Post.ok_ p rh (.int i)
theorem r_bl {i : Bool} {j pos} : PE X (.Constant (.bool i) j pos) (rdE G n X.K W (.bl i)) := PE.imp pe_bl fun σ H Q ⟨ρ, h, e, rs, rh, p⟩ => Post.ok_ p rh (.bl i)
theorem r_non {j pos} : PE X (.Constant .none j pos) (rdE G n X.K W .non) := PE.imp pe_non fun σ H Q ⟨ρ, h, e, rs, rh, p⟩ => Post.ok_ p rh .non
theorem r_str {i : Str} {j pos} : PE X (.Constant (.str i) j pos) (rdE G n X.K W (.str i)) := PE.imp pe_str fun σ H Q ⟨ρ, h, e, rs, rh, p⟩ => Post.ok_ p rh (.str i)
theorem bin_rd {a b : IE} {f : MV → MV → MH → RS MV} {r : R2} (hr : ∀ x y H Q, rM2 X.K f x y H Q → r x y H Q) {σ : St} {H : Hp} {Q : VK}
    (q : ∃ ρ h e, RelS X.K ρ H e σ ∧ RelH X.K ρ h H ∧ PostM X.K ρ H ((evE G (callF G n) a e h).bind fun x h1 => (evE G (callF G n) b e h1).bind fun y h2 => f x y h2) Q (fun cls d H' => W cls d σ H')) : tOp r (rdE G n X.K W a) (rdE G n X.K W b) σ H Q := by
  obtain ⟨ρ, h, e, rs, rh, p⟩ := q
  refine ⟨ρ, h, e, rs, rh, (p.bind (R := RelM X.K)).imp fun x H1 ⟨ρ1, h1, mx, x1, rh1, r1, p1⟩ => ?_⟩
  refine ⟨ρ1, h1, e, rs.mono x1, rh1, (p1.bind (R := RelM X.K)).imp fun y H2 ⟨ρ2, h2, my, x2, rh2, r2, p2⟩ => hr _ _ _ _ ?_⟩
  exact ⟨ρ2, h2, mx, my, _, rh2, r1.mono x2, r2, p2⟩
theorem r_bop {o : Bop} {op : Operator} {a b : IE} {l r : Expr} {pos : Pos} (ho : bopB o op = true) (ha : PE X l (rdE G n X.K W a)) (hb : PE X r (rdE G n X.K W b)) : PE X (.BinOp l op r pos) (rdE G n X.K W (.bop o a b)) := by
  have fin : ∀ {r2 : R2}, OpR X (binaryOp op) r2 → (∀ x y H Q, rM2 X.K (binM o) x y H Q → r2 x y H Q) → PE X (.BinOp l op r pos) (rdE G n X.K W (.bop o a b)) := fun h1 h2 =>
    PE.imp (pe_op h1 ha hb) fun σ H Q q => bin_rd h2 (by unfold rdE at q; unfold evE at q; exact q)
  cases o with
  | add => cases op <;> first | exact Bool.noConfusion ho | exact fin bopAdd fun _ _ _ _ h => h
  | sub => cases op <;> first | exact Bool.noConfusion ho | exact fin bopSub fun _ _ _ _ h => h
  | mul => cases op <;> first | exact Bool.noConfusion ho | exact fin bopMul fun _ _ _ _ h => h
  | fdiv => cases op <;> first | exact Bool.noConfusion ho | exact fin bopDiv fun _ _ _ _ h => h
  | mod => cases op <;> first | exact Bool.noConfusion ho | exact fin bopMod fun _ _ _ _ h => h
  | pow => cases op <;> first | exact Bool.noConfusion ho | exact fin bopPow fun _ _ _ _ h => h
theorem r_neg {a : IE} {x : Expr} {pos : Pos} (ha : PE X x (rdE G n X.K W a)) : PE X (.UnaryOp .USub x pos) (rdE G n X.K W (.neg a)) := by
  refine PE.imp (pe_un un_neg ha) fun σ H Q q => ?_
  unfold rdE at q
  unfold evE at q
  obtain ⟨ρ, h, e, rs, rh, p⟩ := q
  refine ⟨ρ, h, e, rs, rh, (p.bind (R := RelM X.K)).imp fun x H1 ⟨ρ1, h1, mx, x1, rh1, r1, p1⟩ => ?_⟩
  split at p1
  · obtain rfl := r1.int_inv
    exact ⟨_, rfl, p1.ok_ rh1 (.int _)⟩
  · exact p1.elim
theorem r_not {a : IE} {x : Expr} {pos : Pos} (ha : PE X x (rdE G n X.K W a)) : PE X (.UnaryOp .Not x pos) (rdE G n X.K W (.not a)) := by
  refine PE.imp (pe_not ha) fun σ H Q q => ?_
  unfold rdE at q
  unfold evE at q
  obtain ⟨ρ, h, e, rs, rh, p⟩ := q
  refine ⟨ρ, h, e, rs, rh, (p.bind (R := RelM X.K)).imp fun x H1 ⟨ρ1, h1, mx, x1, rh1, r1, p1⟩ => ?_⟩
  split at p1
  · obtain rfl := r1.bl_inv
    exact ⟨_, rfl, p1.ok_ rh1 (.bl _)⟩
  · exact p1.elim
theorem RS.bind_assoc {α β γ : Type} (m : RS α) (f : α → MH → RS β) (g : β → MH → RS γ) : (m.bind f).bind g = m.bind fun a h => (f a h).bind g := by cases m <;> rfl
theorem t_not {a : IE} {x : Expr} {pos : Pos} (ha : PT X x (rdB G n X.K W a)) : PT X (.UnaryOp .Not x pos) (rdB G n X.K W (.not a)) := by
  refine PT.imp (pt_not ha) fun σ H Q q => ?_
  unfold rdB at q
  unfold evE at q
  obtain ⟨ρ, h, e, rs, rh, p⟩ := q
  refine ⟨ρ, h, e, rs, rh, ?_⟩
  rw [RS.bind_assoc] at p
  cases he : evE G (callF G n) a e h with
  | ok v h' =>
    rw [he] at p
    cases v with
    | bl b => exact fun ρ' H' c x1 rh' hc => by subst hc; exact p ρ' H' _ x1 rh' rfl
    | _ => exact p.elim
  | ex x h' => rw [he] at p; exact p
  | bad => rw [he] at p; exact p.elim
theorem cop_of (S : Sur G n X W Γ) {o : Cop} {op : CmpOp} (ho : copB o op = true) : OpR X (compareOp op) (rM2 X.K (cmpF o)) := by
  have hu := S.room.units
  cases o with
  | eq => cases op <;> first | exact Bool.noConfusion ho | exact copEq hu
  | ne => cases op <;> first | exact Bool.noConfusion ho | exact copNe hu
  | lt => cases op <;> first | exact Bool.noConfusion ho | exact copLt
  | le => cases op <;> first | exact Bool.noConfusion ho | exact copLe
  | gt => cases op <;> first | exact Bool.noConfusion ho | exact copGt
  | ge => cases op <;> first | exact Bool.noConfusion ho | exact copGe
  | isin => cases op <;> first | exact Bool.noConfusion ho | exact copIn
  | notin => cases op <;> first | exact Bool.noConfusion ho | exact copNotIn
  | isN => cases op <;> first | exact Bool.noConfusion ho | exact copIs
  | notN => cases op <;> first | exact Bool.noConfusion ho | exact copNotIs
theorem r_cmp (S : Sur G n X W Γ) {o : Cop} {op : CmpOp} {a b : IE} {l r : Expr} {pos : Pos} (ho : copB o op = true) (hr : odd r = false) (ha : PE X l (rdE G n X.K W a)) (hb : PE X r (rdE G n X.K W b)) : PE X (.Compare l [op] [r] pos) (rdE G n X.K W (.cmp o a b)) :=
  PE.imp (pe_cmpR (cop_of S ho) ha hb (noSet hr op)) fun σ H Q q => bin_rd (f := cmpF o) (fun _ _ _ _ h => h) (by unfold rdE at q; unfold evE at q; exact q)
theorem bool_rd {a : IE} {σ : St} {H : Hp} {Q : Bool → Hp → Prop} (q : rdB G n X.K W a σ H Q) : rdE G n X.K W a σ H fun x H' => ∃ k, x = .bl k ∧ Q k H' := by
  obtain ⟨ρ, h, e, rs, rh, p⟩ := q
  refine ⟨ρ, h, e, rs, rh, (p.bind (R := RelM X.K)).imp fun x H1 ⟨ρ1, h1, a, x1, rh1, ra, p1⟩ => ?_⟩
  unfold asBool at p1
  cases a with
  | bl b => obtain rfl := ra.bl_inv; exact ⟨b, rfl, p1.ok_ rh1 rfl⟩
  | _ => exact p1.elim
theorem t_cmp (S : Sur G n X W Γ) {o : Cop} {op : CmpOp} {a b : IE} {l r : Expr} {pos : Pos} (ho : copB o op = true) (hr : odd r = false) (ha : PE X l (rdE G n X.K W a)) (hb : PE X r (rdE G n X.K W b)) : PT X (.Compare l [op] [r] pos) (rdB G n X.K W (.cmp o a b)) :=
  PT.imp (pt_cmpR (cop_of S ho) ha hb (noSet hr op)) fun σ H Q q => bin_rd (f := cmpF o) (fun _ _ _ _ h => h) (by have q := bool_rd q; unfold rdE at q; unfold evE at q; exact q)
theorem chn_rd {o o' : Cop} {a b c : IE} {σ : St} {H : Hp} {Q : VK} (q : rdE G n X.K W (.chn o o' a b c) σ H Q) : tChain (rM2 X.K (cmpF o)) (rM2 X.K (cmpF o')) (rdE G n X.K W a) (rdE G n X.K W b) (rdE G n X.K W c) σ H Q := by
  unfold rdE at q
  unfold evE at q
  obtain ⟨ρ, h, e, rs, rh, p⟩ := q
  refine ⟨ρ, h, e, rs, rh, (p.bind (R := RelM X.K)).imp fun x H1 ⟨ρ1, h1, mx, x1, rh1, r1, p1⟩ => ?_⟩
  refine ⟨ρ1, h1, e, rs.mono x1, rh1, (p1.bind (R := RelM X.K)).imp fun y H2 ⟨ρ2, h2, my, x2, rh2, r2, p2⟩ => ?_⟩
  refine ⟨ρ2, h2, mx, my, fun cls d H' => W cls d σ H', rh2, r1.mono x2, r2, ?_⟩
  unfold cmpF
  split at p2
  · rename_i hc
    rw [hc]
    intro ρ3 H3 z x3 rh3 rz
    obtain rfl := rz.bl_inv
    refine ⟨true, rfl, ?_⟩
    show rdE G n X.K W c σ H3 _
    have p3 := Post.ext x3 p2
    have x03 := x2.trans x3
    refine ⟨ρ3, h2, e, (rs.mono x1).mono x03, rh3, (p3.bind (R := RelM X.K)).imp fun z H4 ⟨ρ4, h4, mz, x4, rh4, r4, p4⟩ => ?_⟩
    exact ⟨ρ4, h4, my, mz, _, rh4, (r2.mono x3).mono x4, r4, p4⟩
  · rename_i hc
    rw [hc]
    intro ρ3 H3 z x3 rh3 rz
    obtain rfl := rz.bl_inv
    exact ⟨false, rfl, p2 ρ3 H3 _ x3 rh3 (.bl _)⟩
  · exact p2.elim
end
end M
namespace M
open PySem L2
section
variable {G : MG} {n : Nat} {X : Cx} {W : WX} {Γ : Ct}
theorem marks2 {op op' : CmpOp} {b c : Expr} (h : odd c = false) : lastMarks [op, op'] [b, c] = false := by
  show behindInMarks op' c = false
  exact noSet h op'
theorem r_chn (S : Sur G n X W Γ) {o o' : Cop} {op op' : CmpOp} {a b c : IE} {l r t : Expr} {pos : Pos} (ho : copB o op = true) (ho' : copB o' op' = true) (ht : odd t = false) (ha : PE X l (rdE G n X.K W a)) (hb : PE X r (rdE G n X.K W b)) (hc : PE X t (rdE G n X.K W c)) :
    PE X (.Compare l [op, op'] [r, t] pos) (rdE G n X.K W (.chn o o' a b c)) :=
  PE.imp (pe_chain (cop_of S ho) (cop_of S ho') ha hb hc (marks2 ht)) fun σ H Q q => chn_rd q
theorem t_chn (S : Sur G n X W Γ) {o o' : Cop} {op op' : CmpOp} {a b c : IE} {l r t : Expr} {pos : Pos} (ho : copB o op = true) (ho' : copB o' op' = true) (ht : odd t = false) (ha : PE X l (rdE G n X.K W a)) (hb : PE X r (rdE G n X.K W b)) (hc : PE X t (rdE G n X.K W c)) :
    PT X (.Compare l [op, op'] [r, t] pos) (rdB G n X.K W (.chn o o' a b c)) :=
  PT.imp (pt_chain (cop_of S ho) (cop_of S ho') ha hb hc (marks2 ht)) fun σ H Q q => chn_rd (bool_rd q)
theorem and_rd {a b : IE} {σ : St} {H : Hp} {Q : VK} (q : rdE G n X.K W (.and a b) σ H Q) : tAndV (rdE G n X.K W a) (rdE G n X.K W b) σ H Q := by
  unfold rdE at q
  unfold evE at q
  obtain ⟨ρ, h, e, rs, rh, p⟩ := q
  refine ⟨ρ, h, e, rs, rh, (p.bind (R := RelM X.K)).imp fun x H1 ⟨ρ1, h1, mx, x1, rh1, r1, p1⟩ => ?_⟩
  split at p1
  · obtain rfl := r1.bl_inv
    refine ⟨true, rfl, iteT ?_⟩
    refine ⟨ρ1, h1, e, rs.mono x1, rh1, (p1.bind (R := RelM X.K)).imp fun y H2 ⟨ρ2, h2, my, x2, rh2, r2, p2⟩ => ?_⟩
    split at p2
    · exact p2.ok_ rh2 r2
    · exact p2.elim
  · obtain rfl := r1.bl_inv
    exact ⟨false, rfl, iteF (p1.ok_ rh1 (.bl _))⟩
  · exact p1.elim
theorem or_rd {a b : IE} {σ : St} {H : Hp} {Q : VK} (q : rdE G n X.K W (.or a b) σ H Q) : tOrV (rdE G n X.K W a) (rdE G n X.K W b) σ H Q := by
  unfold rdE at q
  unfold evE at q
  obtain ⟨ρ, h, e, rs, rh, p⟩ := q
  refine ⟨ρ, h, e, rs, rh, (p.bind (R := RelM X.K)).imp fun x H1 ⟨ρ1, h1, mx, x1, rh1, r1, p1⟩ => ?_⟩
  split at p1
  · obtain rfl := r1.bl_inv
    exact ⟨true, rfl, iteT (p1.ok_ rh1 (.bl _))⟩
  · obtain rfl := r1.bl_inv
    refine ⟨false, rfl, iteF ?_⟩
    refine ⟨ρ1, h1, e, rs.mono x1, rh1, (p1.bind (R := RelM X.K)).imp fun y H2 ⟨ρ2, h2, my, x2, rh2, r2, p2⟩ => ?_⟩
    split at p2
    · exact p2.ok_ rh2 r2
    · exact p2.elim
  · exact p1.elim
theorem boolE {ρ : List Addr} {h : MH} {e : MEnv} {H : Hp} {a : IE} {f : Bool → MH → RS Bool} {Q : Bool → Hp → Prop} {E : XK} (p : Post X.K (fun _ _ (a b : Bool) => a = b) ρ H (((evE G (callF G n) a e h).bind asBool).bind f) Q E) :
    Post X.K (fun _ _ (a b : Bool) => a = b) ρ H ((evE G (callF G n) a e h).bind asBool) (fun b H1 => ∃ ρ1 h1, Ext ρ H ρ1 H1 ∧ RelH X.K ρ1 h1 H1 ∧ Post X.K (fun _ _ (a b : Bool) => a = b) ρ1 H1 (f b h1) Q E) E :=
  (p.bind (R := fun _ _ (a b : Bool) => a = b)).imp fun b H1 ⟨ρ1, h1, a, x1, rh1, ra, p1⟩ => ⟨ρ1, h1, x1, rh1, by subst ra; exact p1⟩
theorem and_b {a b : IE} {e : MEnv} {h : MH} : ((evE G (callF G n) (.and a b) e h).bind asBool) = ((evE G (callF G n) a e h).bind asBool).bind fun c h1 => if c = true then (evE G (callF G n) b e h1).bind asBool else .ok false h1 := by
  rw [evE, RS.bind_assoc, RS.bind_assoc]
  cases evE G (callF G n) a e h with
  | ok v h1 =>
    cases v with
    | bl c =>
      cases c with
      | true =>
        show ((evE G (callF G n) b e h1).bind _).bind asBool = (evE G (callF G n) b e h1).bind asBool
        rw [RS.bind_assoc]
        cases evE G (callF G n) b e h1 with
        | ok w h2 => cases w <;> rfl
        | ex x h2 => rfl
        | bad => rfl
      | false => rfl
    | _ => rfl
  | ex x h1 => rfl
  | bad => rfl
theorem or_b {a b : IE} {e : MEnv} {h : MH} : ((evE G (callF G n) (.or a b) e h).bind asBool) = ((evE G (callF G n) a e h).bind asBool).bind fun c h1 => if c = true then .ok true h1 else (evE G (callF G n) b e h1).bind asBool := by
  rw [evE, RS.bind_assoc, RS.bind_assoc]
  cases evE G (callF G n) a e h with
  | ok v h1 =>
    cases v with
    | bl c =>
      cases c with
      | false =>
        show ((evE G (callF G n) b e h1).bind _).bind asBool = (evE G (callF G n) b e h1).bind asBool
        rw [RS.bind_assoc]
        cases evE G (callF G n) b e h1 with
        | ok w h2 => cases w <;> rfl
        | ex x h2 => rfl
        | bad => rfl
      | true => rfl
    | _ => rfl
  | ex x h1 => rfl
  | bad => rfl
theorem andT_rd {a b : IE} {σ : St} {H : Hp} {Q : Bool → Hp → Prop} (q : rdB G n X.K W (.and a b) σ H Q) : tAnd (rdB G n X.K W a) (rdB G n X.K W b) σ H Q := by
  obtain ⟨ρ, h, e, rs, rh, p⟩ := q
  rw [and_b] at p
  refine ⟨ρ, h, e, rs, rh, (boolE p).imp fun c H1 ⟨ρ1, h1, x1, rh1, p1⟩ => ?_⟩
  cases c with
  | true => exact iteT ⟨ρ1, h1, e, rs.mono x1, rh1, p1⟩
  | false => exact iteF (Post.ok_ (R := fun _ _ (a b : Bool) => a = b) p1 rh1 rfl)
theorem orT_rd {a b : IE} {σ : St} {H : Hp} {Q : Bool → Hp → Prop} (q : rdB G n X.K W (.or a b) σ H Q) : tOr (rdB G n X.K W a) (rdB G n X.K W b) σ H Q := by
  obtain ⟨ρ, h, e, rs, rh, p⟩ := q
  rw [or_b] at p
  refine ⟨ρ, h, e, rs, rh, (boolE p).imp fun c H1 ⟨ρ1, h1, x1, rh1, p1⟩ => ?_⟩
  cases c with
  | false => exact iteF ⟨ρ1, h1, e, rs.mono x1, rh1, p1⟩
  | true => exact iteT (Post.ok_ (R := fun _ _ (a b : Bool) => a = b) p1 rh1 rfl)
theorem r_ite {c a b : IE} {c' a' b' : Expr} {pos : Pos} (hc : PT X c' (rdB G n X.K W c)) (ha : PE X a' (rdE G n X.K W a)) (hb : PE X b' (rdE G n X.K W b)) : PE X (.IfExp c' a' b' pos) (rdE G n X.K W (.ite c a b)) := by
  refine PE.imp (pe_ifExp hc ha hb) fun σ H Q q => ?_
  unfold rdE at q
  unfold evE at q
  obtain ⟨ρ, h, e, rs, rh, p⟩ := q
  refine ⟨ρ, h, e, rs, rh, ?_⟩
  cases he : evE G (callF G n) c e h with
  | ok v h1 =>
    rw [he] at p
    cases v with
    | bl k =>
      cases k with
      | true => exact fun ρ1 H1 k x1 rh1 hk => by subst hk; exact iteT ⟨ρ1, h1, e, rs.mono x1, rh1, Post.ext x1 p⟩
      | false => exact fun ρ1 H1 k x1 rh1 hk => by subst hk; exact iteF ⟨ρ1, h1, e, rs.mono x1, rh1, Post.ext x1 p⟩
    | _ => exact p.elim
  | ex x h1 => rw [he] at p; exact p
  | bad => rw [he] at p; exact p.elim
theorem t_ite {c a b : IE} {c' a' b' : Expr} {pos : Pos} (hc : PT X c' (rdB G n X.K W c)) (ha : PT X a' (rdB G n X.K W a)) (hb : PT X b' (rdB G n X.K W b)) : PT X (.IfExp c' a' b' pos) (rdB G n X.K W (.ite c a b)) := by
  refine ⟨fun pins s σ H Q I q => ?_⟩
  obtain ⟨ρ, h, e, rs, rh, p⟩ := q
  rw [evE, RS.bind_assoc] at p
  have key : rdB G n X.K W c σ H fun k H1 => (k = true → rdB G n X.K W a σ H1 Q) ∧ (k = false → rdB G n X.K W b σ H1 Q) := by
    refine ⟨ρ, h, e, rs, rh, ?_⟩
    cases he : evE G (callF G n) c e h with
    | ok v h1 =>
      rw [he] at p
      cases v with
      | bl k =>
        cases k with
        | true => exact fun ρ1 H1 k x1 rh1 hk => by subst hk; exact ⟨fun _ => ⟨ρ1, h1, e, rs.mono x1, rh1, Post.ext x1 p⟩, (fun z => nomatch z)⟩
        | false => exact fun ρ1 H1 k x1 rh1 hk => by subst hk; exact ⟨(fun z => nomatch z), fun _ => ⟨ρ1, h1, e, rs.mono x1, rh1, Post.ext x1 p⟩⟩
      | _ => exact p.elim
    | ex x h1 => rw [he] at p; exact p
    | bad => rw [he] at p; exact p.elim
  show wpAny (model X.prog X.w) X.A (do if ← isTrue c' X.env (eval c' X.env) then isTrue a' X.env (eval a' X.env) else isTrue b' X.env (eval b' X.env)) _ _ _
  refine wpAny_bind (thn (hc.run pins s σ H _ I key) fun k s1 ⟨H1, I1, q1, q2⟩ => ?_)
  cases k with
  | true => exact ha.run pins s1 σ H1 Q I1 (q1 rfl)
  | false => exact hb.run pins s1 σ H1 Q I1 (q2 rfl)
theorem r_idx {a b : IE} {a' b' : Expr} {pos : Pos} (hb' : odd b' = false) (ha : PE X a' (rdE G n X.K W a)) (hb : PE X b' (rdE G n X.K W b)) : PE X (.Subscript a' b' pos) (rdE G n X.K W (.idx a b)) :=
  PE.imp (pe_ix ixM ha hb (plainIx hb')) fun σ H Q q => bin_rd (f := idxF) (fun _ _ _ _ h => h) (by unfold rdE at q; unfold evE at q; exact q)
theorem o_none : PO X none (rdO G n X.K W .none) := PO.imp po_none fun σ H Q ⟨ρ, h, e, rs, rh, p⟩ => Post.ok_ (R := fun _ _ (a b : Option Int) => a = b) p rh rfl
theorem o_some {a : IE} {x : Expr} (ha : PE X x (rdE G n X.K W a)) : PO X (some x) (rdO G n X.K W (.some a)) := by
  refine PO.imp (po_some ha) fun σ H Q q => ?_
  obtain ⟨ρ, h, e, rs, rh, p⟩ := q
  rw [evO] at p
  refine ⟨ρ, h, e, rs, rh, (p.bind (R := RelM X.K)).imp fun x H1 ⟨ρ1, h1, mx, x1, rh1, r1, p1⟩ => ?_⟩
  split at p1
  · obtain rfl := r1.int_inv
    exact ⟨_, rfl, p1.ok_ rh1 rfl⟩
  · exact p1.elim
theorem r_slc {a : IE} {lo hi : IO} {a' : Expr} {lo' hi' : Option Expr} {p2 pos : Pos} (ha : PE X a' (rdE G n X.K W a)) (hl : PO X lo' (rdO G n X.K W lo)) (hu : PO X hi' (rdO G n X.K W hi)) : PE X (.Subscript a' (.Slice lo' hi' none p2) pos) (rdE G n X.K W (.slc a lo hi)) := by
  refine PE.imp (pe_slice slM ha hl hu) fun σ H Q q => ?_
  unfold rdE at q
  unfold evE at q
  obtain ⟨ρ, h, e, rs, rh, p⟩ := q
  refine ⟨ρ, h, e, rs, rh, (p.bind (R := RelM X.K)).imp fun x H1 ⟨ρ1, h1, mx, x1, rh1, r1, p1⟩ => ?_⟩
  refine ⟨ρ1, h1, e, rs.mono x1, rh1, (p1.bind (R := fun _ _ (a b : Option Int) => a = b)).imp fun l H2 ⟨ρ2, h2, l', x2, rh2, hl, p2⟩ => ?_⟩
  subst hl
  refine ⟨ρ2, h2, e, (rs.mono x1).mono x2, rh2, (p2.bind (R := fun _ _ (a b : Option Int) => a = b)).imp fun u H3 ⟨ρ3, h3, u', x3, rh3, hu, p3⟩ => ?_⟩
  subst hu
  exact ⟨ρ3, h3, mx, _, rh3, (r1.mono x2).mono x3, p3⟩
theorem a_nil : PA X [] (rdEs G n X.K W .nil) := PA.imp pa_nil fun σ H Q ⟨ρ, h, e, rs, rh, p⟩ => Post.ok_ (R := RelMs X.K) p rh .nil
theorem a_cons {c : IE} {cs : IEs} {x : Expr} {es : List Expr} (hx : odd x = false) (ha : PE X x (rdE G n X.K W c)) (hr : PA X es (rdEs G n X.K W cs)) : PA X (x :: es) (rdEs G n X.K W (.cons c cs)) := by
  refine PA.imp (pa_cons ha hr (star1 hx es X.env)) fun σ H Q q => ?_
  obtain ⟨ρ, h, e, rs, rh, p⟩ := q
  rw [evEs] at p
  refine ⟨ρ, h, e, rs, rh, (p.bind (R := RelM X.K)).imp fun x H1 ⟨ρ1, h1, mx, x1, rh1, r1, p1⟩ => ?_⟩
  refine ⟨ρ1, h1, e, rs.mono x1, rh1, (p1.bind (R := RelMs X.K)).imp fun y H2 ⟨ρ2, h2, my, x2, rh2, r2, p2⟩ => ?_⟩
  exact Post.ok_ (R := RelMs X.K) p2 rh2 (.cons (r1.mono x2) r2)
theorem r_tup {cs : IEs} {es : List Expr} {k : Nat} {pos : Pos} (ha : PA X es (rdEs G n X.K W cs)) : PE X (.Tuple es k pos) (rdE G n X.K W (.tup cs)) := by
  refine PE.imp (pe_tup ha) fun σ H Q q => ?_
  unfold rdE at q
  unfold evE at q
  obtain ⟨ρ, h, e, rs, rh, p⟩ := q
  refine ⟨ρ, h, e, rs, rh, (p.bind (R := RelMs X.K)).imp fun x H1 ⟨ρ1, h1, mx, x1, rh1, r1, p1⟩ => ?_⟩
  split at p1
  · rename_i hz
    exact ⟨by rw [← r1.len]; exact of_decide_eq_true hz, post_tup p1 rh1 r1⟩
  · exact p1.elim
theorem r_lst {cs : IEs} {es : List Expr} {pos : Pos} (ha : PA X es (rdEs G n X.K W cs)) : PE X (.List es pos) (rdE G n X.K W (.lst cs)) := by
  refine PE.imp (pe_lst ha) fun σ H Q q => ?_
  unfold rdE at q
  unfold evE at q
  obtain ⟨ρ, h, e, rs, rh, p⟩ := q
  refine ⟨ρ, h, e, rs, rh, (p.bind (R := RelMs X.K)).imp fun x H1 ⟨ρ1, h1, mx, x1, rh1, r1, p1⟩ => ?_⟩
  split at p1
  · rename_i hz
    exact ⟨by rw [← r1.len]; exact of_decide_eq_true hz, post_lst p1 rh1 r1⟩
  · exact p1.elim
theorem gin_both (S : Sur G n X W Γ) {neg : Bool} {k : Nat} {a : IE} {l : Expr} {op : CmpOp} {x : Str} {p1 pos : Pos} (ho : (match neg, op with | false, .In => true | true, .NotIn => true | _, _ => false) = true)
    (h1 : (match G.dicts.lookup k with | some (y, _) => decide (y = x) | none => false) = true) (h2 : gloB Γ.sc x = true) (h3 : dbgB x = true) (ha : PE X l (rdE G n X.K W a)) : PE X (.Compare l [op] [.Name x p1] pos) (rdE G n X.K W (.gin neg k a)) ∧ PT X (.Compare l [op] [.Name x p1] pos) (rdB G n X.K W (.gin neg k a)) := by
  split at h1
  · rename_i y kvs hk
    obtain rfl := of_decide_eq_true h1
    obtain ⟨d, es, m, hm, hd, hz⟩ := S.dicts k y kvs hk
    have hn : PE X (.Name y p1) (tC (.ref d)) := pe_glob (gloOf S.sc h2) hm rfl (dbgOf h3)
    have fin : ∀ σ H Q, rdE G n X.K W (.gin neg k a) σ H Q → rdE G n X.K W a σ H fun v H1 => ∃ (z : Str) (r : Option Value), v = .str z ∧ PySem.W.nsIn X.K d z = some r ∧ Q (.bl (if neg then !r.isSome else r.isSome)) H1 := fun σ H Q q => by
      unfold rdE at q
      unfold evE at q
      obtain ⟨ρ, h, e, rs, rh, p⟩ := q
      refine ⟨ρ, h, e, rs, rh, (p.bind (R := RelM X.K)).imp fun v H1 ⟨ρ1, h1, mx, x1, rh1, r1, p1⟩ => ?_⟩
      rw [hk] at p1
      cases mx with
      | str z =>
        obtain rfl := r1.str_inv
        dsimp only at p1
        cases hl : kvs.lookup z with
        | none => rw [hl] at p1; exact ⟨z, none, rfl, (hz z).1 hl, p1.ok_ rh1 (.bl _)⟩
        | some v =>
          rw [hl] at p1
          obtain ⟨u, w, e1, e2, e3⟩ := (hz z).2 v hl
          exact ⟨z, some u, rfl, e1, p1.ok_ rh1 (.bl _)⟩
      | _ => exact p1.elim
    have tst : ∀ {op : CmpOp} {r2 : R2}, OpR X (compareOp op) r2 → behindInMarks op (.Name y p1) = false → (∀ z r H Q, PySem.W.nsIn X.K d z = some r → Q (.bl (if neg then !r.isSome else r.isSome)) H → r2 (.str z) (.ref d) H Q) → PE X (.Compare l [op] [.Name y p1] pos) (rdE G n X.K W (.gin neg k a)) ∧ PT X (.Compare l [op] [.Name y p1] pos) (rdB G n X.K W (.gin neg k a)) := fun {op r2} h1 h2 h3 => by
      have key : ∀ σ H Q, rdE G n X.K W (.gin neg k a) σ H Q → tOp r2 (rdE G n X.K W a) (tC (.ref d)) σ H Q := fun σ H Q q => by
        obtain ⟨ρ, h, e, rs, rh, p⟩ := fin σ H Q q
        exact ⟨ρ, h, e, rs, rh, p.imp fun v H1 ⟨z, r, e1, e2, e3⟩ => by subst e1; exact h3 z r H1 Q e2 e3⟩
      exact ⟨PE.imp (pe_cmpR h1 ha hn h2) key, PT.imp (pt_cmpR h1 ha hn h2) fun σ H Q q => key σ H _ (bool_rd q)⟩
    cases neg with
    | false =>
      cases op <;> first
        | exact Bool.noConfusion ho
        | exact tst (op_in_kd hd) rfl fun z r H Q e1 e2 => ⟨z, r, rfl, rfl, e1, e2⟩
    | true =>
      cases op <;> first
        | exact Bool.noConfusion ho
        | exact tst (op_notIn_kd hd) rfl fun z r H Q e1 e2 => ⟨z, r, rfl, rfl, e1, e2⟩
  · exact Bool.noConfusion h1
end
end M
namespace M
open PySem L2
section
variable {G : MG} {n : Nat} {X : Cx} {W : WX} {Γ : Ct}
theorem r_gget (S : Sur G n X W Γ) {k : Nat} {a : IE} {l : Expr} {x : Str} {p1 pos : Pos}
    (h1 : (match G.dicts.lookup k with | some (y, _) => decide (y = x) | none => false) = true) (h2 : gloB Γ.sc x = true) (h3 : dbgB x = true) (hl : odd l = false) (ha : PE X l (rdE G n X.K W a)) : PE X (.Subscript (.Name x p1) l pos) (rdE G n X.K W (.gget k a)) := by
  split at h1
  · rename_i y kvs hk
    obtain rfl := of_decide_eq_true h1
    obtain ⟨d, es, m, hm, hd, hz⟩ := S.dicts k y kvs hk
    have hn : PE X (.Name y p1) (tC (.ref d)) := pe_glob (gloOf S.sc h2) hm rfl (dbgOf h3)
    refine PE.imp (pe_ix ix_kdict hn ha (plainIx hl)) fun σ H Q q => ?_
    unfold rdE at q
    unfold evE at q
    obtain ⟨ρ, h, e, rs, rh, p⟩ := q
    show rdE G n X.K W a σ H _
    refine ⟨ρ, h, e, rs, rh, (p.bind (R := RelM X.K)).imp fun v H1 ⟨ρ1, h1, mx, x1, rh1, r1, p1⟩ => ?_⟩
    rw [hk] at p1
    cases mx with
    | str z =>
      obtain rfl := r1.str_inv
      dsimp only at p1
      cases hl : kvs.lookup z with
      | none => rw [hl] at p1; exact p1.elim
      | some v =>
        rw [hl] at p1
        obtain ⟨u, w, e1, e2, e3⟩ := (hz z).2 v hl
        exact ⟨d, z, w, rfl, rfl, ⟨es, m, u, hd.at_, hd.lit, e1, e2⟩, p1.ok_ rh1 (e3 _ _)⟩
    | _ => exact p1.elim
  · exact Bool.noConfusion h1
theorem r_call (S : Sur G n X W Γ) {f : Nat} {cs : IEs} {x : Str} {es : List Expr} {p1 pos : Pos} (h1 : (match G.fns.lookup f with | some d => decide (d.name = x) | none => false) = true) (h2 : gloB Γ.sc x = true) (h3 : dbgB x = true)
    (hes : mEs G Γ cs es = true) (ha : PA X es (rdEs G n X.K W cs)) : PE X (.Call (.Name x p1) es [] pos) (rdE G n X.K W (.call f cs)) := by
  split at h1
  · rename_i d hk
    obtain rfl := of_decide_eq_true h1
    obtain ⟨a, fd, F, hm, hkp, hb, _⟩ := S.fns f d hk
    have fin : ∀ σ H Q, rdE G n X.K W (.call f cs) σ H Q → rdEs G n X.K W cs σ H fun vs H1 => spM G X.K n f d.ps.length (vs ++ []) H1 Q (fun c dd H' => W c dd σ H') := fun σ H Q q => by
      unfold rdE at q
      unfold evE at q
      obtain ⟨ρ, h, e, rs, rh, p⟩ := q
      refine ⟨ρ, h, e, rs, rh, (p.bind (R := RelMs X.K)).imp fun vs H1 ⟨ρ1, h1, mxs, x1, rh1, r1, p1⟩ => ?_⟩
      rw [List.append_nil]
      refine ⟨?_, ρ1, h1, mxs, rh1, r1, p1⟩
      cases n with
      | zero => exact p1.elim
      | succ n =>
        unfold callF at p1
        rw [hk] at p1
        dsimp only at p1
        split at p1
        · rename_i hl
          rw [← r1.len]
          exact hl
        · exact p1.elim
    cases es with
    | nil =>
      refine ⟨fun pins s σ H Q I q => ?_⟩
      have q := fin σ H Q q
      cases cs with
      | cons c cs => unfold mEs at hes; exact Bool.noConfusion hes
      | nil =>
        obtain ⟨ρ, h, e, rs, rh, p⟩ := q
        have p' := Post.ok_ (R := RelMs X.K) p rh .nil
        refine wpAny_Call_Name_kw (ld_glob I (gloOf S.sc h2) hm ?_ (dbgOf h3))
        exact PySem.W.callWith_K0 I.kIn hkp (run_fnSD (us := []) (E := fun σ c dd H' => W c dd σ H') F S.room hb .nil (S.pas σ) I .nil p')
    | cons e1 es =>
      cases cs with
      | nil => unfold mEs at hes; exact Bool.noConfusion hes
      | cons c cs =>
        unfold mEs at hes
        simp only [Bool.and_eq_true] at hes
        refine PE.imp (pe_callSD (E := fun σ c dd H' => W c dd σ H') F S.room (gloOf S.sc h2) hm hkp hb .nil S.pas ha (dbgOf h3) (star1 (mE_odd hes.1) es X.env) (star_all hes.2 pos X.env).1) fin
  · exact Bool.noConfusion h1
theorem r_calld (S : Sur G n X W Γ) {f k : Nat} {cs : IEs} {x : Str} {e1 : Expr} {es : List Expr} {p1 pos : Pos} (h1 : (match G.fns.lookup f with | some d => decide (d.name = x) | none => false) = true) (h2 : gloB Γ.sc x = true) (h3 : dbgB x = true)
    (hes : mEs G Γ cs (e1 :: es) = true) (ha : PA X (e1 :: es) (rdEs G n X.K W cs)) : PE X (.Call (.Name x p1) (e1 :: es) [] pos) (rdE G n X.K W (.calld f k cs)) := by
  split at h1
  · rename_i d hk
    obtain rfl := of_decide_eq_true h1
    obtain ⟨a, fd, F, hm, hkp, _, hdf⟩ := S.fns f d hk
    cases hd : d.dfls[k]? with
    | none =>
      refine ⟨fun pins s σ H Q I q => ?_⟩
      have bad : rdEs G n X.K W cs σ H (fun _ _ => False) := by
        unfold rdE at q
        unfold evE at q
        obtain ⟨ρ, h, e, rs, rh, p⟩ := q
        refine ⟨ρ, h, e, rs, rh, (p.bind (R := RelMs X.K)).imp fun vs H1 ⟨ρ1, h1, mxs, x1, rh1, r1, p1⟩ => ?_⟩
        rw [hk] at p1
        dsimp only at p1
        rw [hd] at p1
        exact p1.elim
      refine wpAny_Call_Name_kw (ld_glob I (gloOf S.sc h2) hm ?_ (dbgOf h3))
      refine PySem.W.callWith_K (h₀ := X.base) I.ok.mod.kin hkp (thn (ha.run pos pins s σ H _ I bad) fun us s1 ⟨vs, H1, I1, r, q⟩ => q.elim) ?_ ?_
      · cases cs with
        | nil => unfold mEs at hes; exact Bool.noConfusion hes
        | cons c cs =>
          unfold mEs at hes
          simp only [Bool.and_eq_true] at hes
          exact star1 (mE_odd hes.1) es X.env
      · cases cs with
        | nil => unfold mEs at hes; exact Bool.noConfusion hes
        | cons c cs =>
          unfold mEs at hes
          simp only [Bool.and_eq_true] at hes
          exact (star_all hes.2 pos X.env).1
    | some ds =>
      obtain ⟨dvs, us, hv, hb, hr⟩ := hdf k ds hd
      have fin : ∀ σ H Q, rdE G n X.K W (.calld f k cs) σ H Q → rdEs G n X.K W cs σ H fun vs H1 => spM G X.K n f d.ps.length (vs ++ dvs) H1 Q (fun c dd H' => W c dd σ H') := fun σ H Q q => by
        unfold rdE at q
        unfold evE at q
        obtain ⟨ρ, h, e, rs, rh, p⟩ := q
        refine ⟨ρ, h, e, rs, rh, (p.bind (R := RelMs X.K)).imp fun vs H1 ⟨ρ1, h1, mxs, x1, rh1, r1, p1⟩ => ?_⟩
        rw [hk] at p1
        dsimp only at p1
        rw [hd] at p1
        dsimp only at p1
        have r2 := RelMs.app r1 (hr ρ1 H1)
        refine ⟨?_, ρ1, h1, mxs ++ ds, rh1, r2, p1⟩
        cases n with
        | zero => exact p1.elim
        | succ n =>
          unfold callF at p1
          rw [hk] at p1
          dsimp only at p1
          split at p1
          · rename_i hl
            rw [← r2.len]
            exact hl
          · exact p1.elim
      cases cs with
      | nil => unfold mEs at hes; exact Bool.noConfusion hes
      | cons c cs =>
        unfold mEs at hes
        simp only [Bool.and_eq_true] at hes
        refine PE.imp (pe_callSD (E := fun σ c dd H' => W c dd σ H') F S.room (gloOf S.sc h2) hm hkp hb hv S.pas ha (dbgOf h3) (star1 (mE_odd hes.1) es X.env) (star_all hes.2 pos X.env).1) fin
  · exact Bool.noConfusion h1
theorem bi_rd {b : Bi} {cs : IEs} {r : List V → Hp → VK → Prop} (hr : ∀ xs H Q, rMs X.K (biM b) xs H Q → r xs H Q) : ∀ σ H Q, rdE G n X.K W (.bi b cs) σ H Q → tCB r (rdEs G n X.K W cs) σ H Q := fun σ H Q q => by
  unfold rdE at q
  unfold evE at q
  obtain ⟨ρ, h, e, rs, rh, p⟩ := q
  refine ⟨ρ, h, e, rs, rh, (p.bind (R := RelMs X.K)).imp fun vs H1 ⟨ρ1, h1, mxs, x1, rh1, r1, p1⟩ => hr _ _ _ ⟨ρ1, h1, mxs, _, rh1, r1, p1⟩⟩
theorem r_bi (S : Sur G n X W Γ) {b : Bi} {cs : IEs} {x : Str} {e1 : Expr} {es : List Expr} {p1 pos : Pos} (h1 : x = biName b) (h2 : gloB Γ.sc x = true) (hes : mEs G Γ cs (e1 :: es) = true) (ha : PA X (e1 :: es) (rdEs G n X.K W cs)) :
    PE X (.Call (.Name x p1) (e1 :: es) [] pos) (rdE G n X.K W (.bi b cs)) := by
  subst h1
  have hst : starEach (e1 :: es) X.env = (false, eval e1 X.env) :: starEach es X.env ∧ (backTo pos (starEach es X.env)).any (·.1) = false := by
    cases cs with
    | nil => unfold mEs at hes; exact Bool.noConfusion hes
    | cons c cs =>
      unfold mEs at hes
      simp only [Bool.and_eq_true] at hes
      exact ⟨star1 (mE_odd hes.1) es X.env, (star_all hes.2 pos X.env).1⟩
  have hg := gloOf S.sc h2
  have hc := S.calm
  have bad : ∀ {t : TE}, (∀ σ H Q, rdE G n X.K W (.bi b cs) σ H Q → False) → PE X (.Call (.Name (biName b) p1) (e1 :: es) [] pos) (rdE G n X.K W (.bi b cs)) := fun {t} f => ⟨fun pins s σ H Q I q => (f σ H Q q).elim⟩
  cases b with
  | len => exact PE.imp (pe_callB biLen hg (S.blt _ (by decide)) PySem.boot_len ha (by decide) (by decide) hst.1 hst.2) (bi_rd fun _ _ _ h => h)
  | abs => exact PE.imp (pe_callB biAbs hg (S.blt _ (by decide)) (by decide +kernel) ha (by decide) (by decide) hst.1 hst.2) (bi_rd fun _ _ _ h => h)
  | int => exact PE.imp (pe_callTy biInt hg (S.blt _ (by decide)) (by decide +kernel) ha (by decide) (by decide) hst.1 hst.2) (bi_rd fun _ _ _ h => h)
  | str => exact PE.imp (pe_callTy biStr hg (S.blt _ (by decide)) (by decide +kernel) ha (by decide) (by decide) hst.1 hst.2) (bi_rd fun _ _ _ h => h)
  | sum => exact PE.imp (pe_callB (biSum hc) hg (S.blt _ (by decide)) (by decide +kernel) ha (by decide) (by decide) hst.1 hst.2) (bi_rd fun _ _ _ h => h)
  | max => exact PE.imp (pe_callB (biMax hc) hg (S.blt _ (by decide)) (by decide +kernel) ha (by decide) (by decide) hst.1 hst.2) (bi_rd fun _ _ _ h => h)
  | min => exact PE.imp (pe_callB (biMin hc) hg (S.blt _ (by decide)) (by decide +kernel) ha (by decide) (by decide) hst.1 hst.2) (bi_rd fun _ _ _ h => h)
  | list => exact PE.imp (pe_callTy biList hg (S.blt _ (by decide)) (by decide +kernel) ha (by decide) (by decide) hst.1 hst.2) (bi_rd fun _ _ _ h => h)
  | tuple => exact PE.imp (pe_callTy biTuple hg (S.blt _ (by decide)) (by decide +kernel) ha (by decide) (by decide) hst.1 hst.2) (bi_rd fun _ _ _ h => h)
  | all => exact PE.imp (pe_callB (biAll hc) hg (S.blt _ (by decide)) (by decide +kernel) ha (by decide) (by decide) hst.1 hst.2) (bi_rd fun _ _ _ h => h)
  | any => exact PE.imp (pe_callB (biAny hc) hg (S.blt _ (by decide)) (by decide +kernel) ha (by decide) (by decide) hst.1 hst.2) (bi_rd fun _ _ _ h => h)
def tTys (ts : List Ty) : TA := fun _ H Q => Q (ts.map fun t => .ty (tyName t)) H
theorem ty_name (S : Sur G n X W Γ) {t : Ty} {p : Pos} (h : gloB Γ.sc (Str.ofString (tyName t)) = true) : PE X (.Name (Str.ofString (tyName t)) p) (tC (.ty (tyName t))) := by
  cases t <;> exact pe_bltn (gloOf S.sc h) (S.blt _ (by decide)) (by decide +kernel) rfl (by decide) (by decide)
theorem ty_names (S : Sur G n X W Γ) : ∀ {ts : List Ty} {es : List Expr}, tysOk ts es = true → gNames Γ es = true → PA X es (tTys ts)
  | [], es, h, _ => by
    cases es with
    | nil => exact pa_nil
    | cons e es => exact Bool.noConfusion h
  | t :: ts, es, h, g => by
    cases es with
    | nil => exact Bool.noConfusion h
    | cons e es =>
      unfold tysOk at h
      simp only [Bool.and_eq_true] at h
      obtain ⟨h1, h2⟩ := h
      unfold tyOk at h1
      split at h1
      · rename_i x p
        obtain rfl := of_decide_eq_true h1
        unfold gNames at g
        simp only [Bool.and_eq_true] at g
        exact pa_cons (ty_name S g.1) (ty_names S h2 g.2) rfl
      · exact Bool.noConfusion h1
theorem paired_ty : ∀ ts : List Ty, Paired ClsV (ts.map fun t => V.ty (tyName t)) (ts.map fun t => Value.type (tyName t))
  | [] => .nil
  | t :: ts => .cons (.ty _) (paired_ty ts)
theorem tyx_mono {K : PySem.W.Frag} {H : Hp} {p : Addr} {o : HO} {x : V} {t : Value} (hp : H p = none) (h : TyX K H x t) : TyX K (upd H p o) x t := by
  cases h with
  | base h =>
    cases h with
    | non => exact .base .non
    | bl b => exact .base (.bl b)
    | int b => exact .base (.int b)
    | str b => exact .base (.str b)
    | flt b => exact .base (.flt b)
    | lst e => exact .base (.lst (by rw [upd_ne (ne_of_none e hp)]; exact e))
    | frz e => exact .base (.frz (by rw [upd_ne (ne_of_none e hp)]; exact e))
    | tup e => exact .base (.tup (by rw [upd_ne (ne_of_none e hp)]; exact e))
    | dK e => exact .base (.dK (by rw [upd_ne (ne_of_none e hp)]; exact e))
    | dT e => exact .base (.dT (by rw [upd_ne (ne_of_none e hp)]; exact e))
    | ins e a b c d =>
      rename_i hm
      exact .base (.ins (by rw [upd_ne (ne_of_none e hp)]; exact e) a b c d hm)
  | byt b => exact .byt b
  | set e => exact .set (by rw [upd_ne (ne_of_none e hp)]; exact e)
  | kList e c => exact .kList e c
  | kTuple e c => exact .kTuple e c
  | kDict e c => exact .kDict e c
  | fTuple e => exact .fTuple (by rw [upd_ne (ne_of_none e hp)]; exact e)
  | fDict e => exact .fDict (by rw [upd_ne (ne_of_none e hp)]; exact e)
theorem r_isin (S : Sur G n X W Γ) {ts : List Ty} {a : IE} {x : Str} {a' t' : Expr} {p1 pos : Pos} (h1 : x = "isinstance") (h2 : gloB Γ.sc x = true) (ho : odd a' = false)
    (h3 : (match ts, t' with | [t], .Name y _ => decide (y = Str.ofString (tyName t)) && gloB Γ.sc y | ts, .Tuple es _ _ => tysOk ts es && gNames Γ es && decide (ts.length ≤ 100) | _, _ => false) = true)
    (ha : PE X a' (rdE G n X.K W a)) : PE X (.Call (.Name x p1) [a', t'] [] pos) (rdE G n X.K W (.isin ts a)) := by
  subst h1
  have hg := gloOf S.sc h2
  split at h3
  · rename_i t y p
    simp only [Bool.and_eq_true] at h3
    obtain rfl := of_decide_eq_true h3.1
    refine PE.imp (pe_callB call_isi hg (S.blt _ (by decide)) (by decide +kernel) (pa_cons ha (pa_cons (ty_name S h3.2) pa_nil rfl) (star1 ho _ _)) (by decide) (by decide) (star1 ho _ _) rfl) fun σ H Q q => ?_
    unfold rdE at q
    unfold evE at q
    obtain ⟨ρ, h, e, rs, rh, p⟩ := q
    refine ⟨ρ, h, e, rs, rh, (p.bind (R := RelM X.K)).imp fun v H1 ⟨ρ1, h1, mx, x1, rh1, r1, p1⟩ => ?_⟩
    split at p1
    · rename_i b hb
      obtain ⟨tv, ty, f, hf, rfl⟩ := isM_ok rh1 r1 hb
      refine ⟨v, _, tv, _, f t, rfl, .ty _, ty, hf t, ?_⟩
      have := p1.ok_ rh1 (.bl _)
      simpa using this
    · exact p1.elim
  · rename_i es k p _
    simp only [Bool.and_eq_true] at h3
    refine PE.imp (pe_callB call_isiT hg (S.blt _ (by decide)) (by decide +kernel) (pa_cons ha (pa_cons (pe_tup (ty_names S h3.1.1 h3.1.2)) pa_nil rfl) (star1 ho _ _)) (by decide) (by decide) (star1 ho _ _) rfl) fun σ H Q q => ?_
    unfold rdE at q
    unfold evE at q
    obtain ⟨ρ, h, e, rs, rh, p⟩ := q
    refine ⟨ρ, h, e, rs, rh, (p.bind (R := RelM X.K)).imp fun v H1 ⟨ρ1, h1, mx, x1, rh1, r1, p1⟩ => ?_⟩
    split at p1
    · rename_i b hb
      obtain ⟨tv, ty, f, hf, rfl⟩ := isM_ok rh1 r1 hb
      refine ⟨?_, fun q hq => ?_⟩
      · rw [List.length_map]
        have := of_decide_eq_true h3.2
        rw [sizeLine_eq]
        omega
      · have x2 : Ext ρ1 H1 ρ1 (upd H1 q (.tup (ts.map fun t => .ty (tyName t)))) := Ext.other hq
        exact ⟨v, q, _, tv, _, ts.any f, rfl, upd_same, paired_ty ts, tyx_mono hq ty, kitAny_of hf ts, p1 ρ1 _ _ x2 (rh1.other hq) (.bl _)⟩
    · exact p1.elim
  · exact Bool.noConfusion h3
end
end M
namespace M
open PySem L2 PyProof.Rows
section
variable {G : MG} {n : Nat} {X : Cx} {W : WX} {Γ : Ct}
def mtTy : Mt → String
  | .join => "str"
  | .split => "str"
  | _ => "list"
theorem recv_ty {K : PySem.W.Frag} {ρ : List Addr} {H : Hp} {h : MH} (rh : RelH K ρ h H) {m : Mt} {x : MV} {v : V} (e : recvOk h m x = true) (r : RelM K ρ H x v) : tyV K (mtTy m) v H := by
  have lst : ∀ {x : MV}, (match x with | .ref i => (MH.list h i).isSome | _ => false) = true → RelM K ρ H x v → tyV K "list" v H := fun {x} e r => by
    cases x with
    | ref i =>
      cases hl : MH.list h i with
      | none => dsimp only at e; rw [hl] at e; exact Bool.noConfusion e
      | some xs =>
        obtain ⟨a, vs, rfl, hs, _⟩ := rh.listRef r hl
        exact .inl ⟨rfl, vs, hs⟩
    | _ => exact Bool.noConfusion e
  have str : ∀ {x : MV}, (match x with | .str _ => true | _ => false) = true → RelM K ρ H x v → tyV K "str" v H := fun {x} e r => by
    cases x with
    | str z => obtain rfl := r.str_inv; rfl
    | _ => exact Bool.noConfusion e
  cases m <;> first | exact lst e r | exact str e r
theorem mth_rd {m : Mt} {o : IE} {cs : IEs} {T : String} {r : V → List V → Hp → VK → Prop} (hT : T = (mtTy m)) (hr : ∀ x xs H Q, rMm X.K (mtM m) x xs H Q → r x xs H Q) :
    ∀ σ H Q, rdE G n X.K W (.mth m o cs) σ H Q → tBM X.K T r (rdE G n X.K W o) (rdEs G n X.K W cs) σ H Q := fun σ H Q q => by
  subst hT
  unfold rdE at q
  unfold evE at q
  obtain ⟨ρ, h, e, rs, rh, p⟩ := q
  refine ⟨ρ, h, e, rs, rh, (p.bind (R := RelM X.K)).imp fun v H1 ⟨ρ1, h1, mx, x1, rh1, r1, p1⟩ => ?_⟩
  split at p1
  · rename_i hk
    refine ⟨recv_ty rh1 hk r1, ρ1, h1, e, rs.mono x1, rh1, (p1.bind (R := RelMs X.K)).imp fun vs H2 ⟨ρ2, h2, mxs, x2, rh2, r2, p2⟩ => hr _ _ _ _ ⟨ρ2, h2, mx, mxs, _, rh2, r1.mono x2, r2, p2⟩⟩
  · exact p1.elim
theorem mth_rd0 {m : Mt} {o : IE} {T : String} {r : V → List V → Hp → VK → Prop} (hT : T = (mtTy m)) (hr : ∀ x xs H Q, rMm X.K (mtM m) x xs H Q → r x xs H Q) :
    ∀ σ H Q, rdE G n X.K W (.mth m o .nil) σ H Q → tBM0 X.K T r (rdE G n X.K W o) σ H Q := fun σ H Q q => by
  obtain ⟨ρ, h, e, rs, rh, p⟩ := mth_rd hT hr σ H Q q
  exact ⟨ρ, h, e, rs, rh, p.imp fun x H1 ⟨ty, ρ1, h1, e1, rs1, rh1, p1⟩ => ⟨ty, Post.ok_ (R := RelMs X.K) p1 rh1 .nil⟩⟩
theorem attrBase {o : Expr} {nm : Str} {env : Env} (h : ∀ x p q, o = .Call (.Name x p) [] [] q → x ≠ "super") : attributeBase o nm env (eval o env) = eval o env := by
  unfold attributeBase
  split
  · rename_i id p q
    have := h id p q rfl
    rw [if_pos (by simp [this])]
  · rfl
theorem kw_any (pos : Pos) (env : Env) : (backToKw pos (keywordEach [] env)).all (fun x => x.1.isSome) = true := rfl
theorem r_mth (S : Sur G n X W Γ) {m : Mt} {o : IE} {cs : IEs} {o' : Expr} {nm : Str} {es : List Expr} {apos pos : Pos} (h1 : nm = mtName m) (hline : (apos.endLine == pos.line) = true) (hfew : es.length < 20) (hes : mEs G Γ cs es = true)
    (hb : ∀ x p q, o' = .Call (.Name x p) [] [] q → x ≠ "super") (ho : PE X o' (rdE G n X.K W o)) (ha : PA X es (rdEs G n X.K W cs)) : PE X (.Call (.Attribute o' nm apos) es [] pos) (rdE G n X.K W (.mth m o cs)) := by
  subst h1
  have go : ∀ {T id : String} {r : V → List V → Hp → VK → Prop}, T = (mtTy m) → (∀ x xs H Q, rMm X.K (mtM m) x xs H Q → r x xs H Q) → PlainAttrs T → Slot T (mtName m) id → typeOf (.builtin id) = pure (.type "method_descriptor") → MtR X id r →
      PE X (.Call (.Attribute o' (mtName m) apos) es [] pos) (rdE G n X.K W (.mth m o cs)) := fun {T id r} hT hr pa slot hty hm => by
    cases es with
    | nil =>
      cases cs with
      | nil => exact PE.imp (pe_bm0 pa slot hty hm ho (attrBase hb) hline) (mth_rd0 hT hr)
      | cons c cs => unfold mEs at hes; exact Bool.noConfusion hes
    | cons e1 es =>
      cases cs with
      | nil => unfold mEs at hes; exact Bool.noConfusion hes
      | cons c cs =>
        have hes0 := hes
        unfold mEs at hes
        simp only [Bool.and_eq_true] at hes
        have hst := star1 (mE_odd hes.1) es X.env
        refine PE.imp (pe_bm pa slot hty hm ho ha (attrBase hb) ?_ hline hst (star_all hes.2 pos X.env).1) (mth_rd hT hr)
        rw [(star_all hes0 pos X.env).2, kw_any]
        simp only [Bool.true_and, decide_eq_true_eq]
        show (e1 :: es).length + 0 + 0 < 30
        omega
  cases m with
  | append => exact go rfl (fun _ _ _ _ h => h) PySem.F.plainAttrs_list PySem.F.slot_list_append PySem.F.type_list_append mtAppend
  | extend => exact go rfl (fun _ _ _ _ h => h) PySem.F.plainAttrs_list PySem.F.slot_list_extend PySem.F.type_list_extend mtExtend
  | pop => exact go rfl (fun _ _ _ _ h => h) PySem.F.plainAttrs_list PySem.F.slot_list_pop PySem.F.type_list_pop mtPop
  | insert => exact go rfl (fun _ _ _ _ h => h) PySem.F.plainAttrs_list PySem.F.slot_list_insert PySem.F.type_list_insert mtInsert
  | index => exact go rfl (fun _ _ _ _ h => h) PySem.F.plainAttrs_list PySem.F.slot_list_index PySem.F.type_list_index mtIndex
  | clear => exact go rfl (fun _ _ _ _ h => h) PySem.F.plainAttrs_list PySem.F.slot_list_clear PySem.F.type_list_clear mtClear
  | split => exact go rfl (fun _ _ _ _ h => h) PySem.F.plainAttrs_str PySem.F.slot_str_split PySem.F.type_str_split mtSplit
  | join => exact go rfl (fun _ _ _ _ h => h) PySem.F.plainAttrs_str PySem.F.slot_str_join PySem.F.type_str_join mtJoin
  | count =>
    refine go (r := fun _ _ _ _ => False) rfl (fun x xs H Q ⟨ρ, h, mx, mxs, E, rh, r1, rs, p⟩ => ?_) PySem.F.plainAttrs_list PySem.F.slot_list_count PySem.F.type_list_count fun _ _ _ _ _ _ _ _ _ _ _ _ z => z.elim
    unfold mtM at p
    split at p <;> first | exact p.elim | contradiction
theorem itFix {K : PySem.W.Frag} {ρ : List Addr} {H : Hp} {p : Addr} {xs : List MV} {vs : List V} (hp : SqT K H p vs) (r : RelMs K ρ H xs vs) : ItOk K ρ H (fixIt xs) (Itt K p) := by
  intro i ρ1 h1 H1 x1 rh1
  have hp1 := x1.stay.tup hp
  refine ⟨fun e => ?_, fun v e => ?_⟩
  · have e' : xs[i]? = none := Option.some.inj e
    rw [List.getElem?_eq_none_iff, r.len] at e'
    exact ⟨vs, hp1, e'⟩
  · have e' : xs[i]? = some v := Option.some.inj e
    obtain ⟨w, hw, rw⟩ := r.get e'
    refine ⟨⟨vs, w, hp1, hw⟩, fun x H' ⟨e1, e2⟩ => ?_⟩
    subst e1
    have := e2 vs hp1
    rw [hw] at this
    cases this
    exact ⟨rh1, Ext.refl _ _, rw.mono x1⟩
theorem itLive {K : PySem.W.Frag} {ρ : List Addr} {H : Hp} {i a : Nat} {k : Nat} (ha : ρ[i]? = some a) : ItOk K ρ H (liveIt i k) (Itl K a) := by
  intro j ρ1 h1 H1 x1 rh1
  have ha1 := x1.at_ ha
  unfold liveIt
  dsimp only
  cases hl : MH.list h1 i with
  | none => exact ⟨(fun e => nomatch e), fun v e => nomatch e⟩
  | some xs =>
    obtain ⟨vs, hs, rs⟩ := rh1.list hl ha1
    refine ⟨fun e => ?_, fun v e => ?_⟩
    · have e' : xs[j]? = none := Option.some.inj e
      rw [List.getElem?_eq_none_iff, rs.len] at e'
      exact ⟨vs, hs, e'⟩
    · have e' : xs[j]? = some v := Option.some.inj e
      obtain ⟨w, hw, rw⟩ := rs.get e'
      refine ⟨⟨vs, w, hs, hw⟩, fun x H' ⟨e1, e2⟩ => ?_⟩
      subst e1
      have := e2 vs hs
      rw [hw] at this
      cases this
      exact ⟨rh1, Ext.refl _ _, rw⟩
theorem itStr {K : PySem.W.Frag} {ρ : List Addr} {H : Hp} {z : Str} : ItOk K ρ H (fixIt (z.cps.toList.map fun c => .str ⟨#[c]⟩)) (Its z) := by
  intro i ρ1 h1 H1 x1 rh1
  refine ⟨fun e => ?_, fun v e => ?_⟩
  · have e' : (z.cps.toList.map fun c => MV.str ⟨#[c]⟩)[i]? = none := Option.some.inj e
    rw [List.getElem?_eq_none_iff, List.length_map, Array.length_toList] at e'
    exact e'
  · have e' : (z.cps.toList.map fun c => MV.str ⟨#[c]⟩)[i]? = some v := Option.some.inj e
    rw [List.getElem?_map, Array.getElem?_toList] at e'
    cases hc : z.cps[i]? with
    | none => rw [hc] at e'; cases e'
    | some c =>
      rw [hc] at e'
      cases e'
      obtain ⟨hi, _⟩ := Array.getElem?_eq_some_iff.mp hc
      refine ⟨hi, fun x H' ⟨e1, c', e2, e3⟩ => ?_⟩
      subst e1
      rw [hc] at e2
      cases e2
      subst e3
      exact ⟨rh1, Ext.refl _ _, .str _⟩
theorem rangeI_at : ∀ (k i : Nat) (lo : Int), (rangeI lo k)[i]? = if i < k then some (.int (lo + i)) else none
  | 0, i, lo => by simp [rangeI]
  | k + 1, 0, lo => by simp [rangeI]
  | k + 1, i + 1, lo => by
    rw [rangeI, List.getElem?_cons_succ, rangeI_at k i (lo + 1)]
    by_cases h : i < k
    · rw [if_pos h, if_pos (by omega)]
      congr 2
      omega
    · rw [if_neg h, if_neg (by omega)]
theorem itRng {K : PySem.W.Frag} {ρ : List Addr} {H : Hp} {lo : Int} {k : Nat} : ItOk K ρ H (fixIt (rangeI lo k)) (Itr lo k) := by
  intro i ρ1 h1 H1 x1 rh1
  refine ⟨fun e => ?_, fun v e => ?_⟩
  · have e' : (rangeI lo k)[i]? = none := Option.some.inj e
    rw [rangeI_at] at e'
    split at e'
    · cases e'
    · rename_i h; exact Nat.le_of_not_lt h
  · have e' : (rangeI lo k)[i]? = some v := Option.some.inj e
    rw [rangeI_at] at e'
    split at e'
    · rename_i h
      cases e'
      refine ⟨h, fun x H' ⟨e1, e2⟩ => ?_⟩
      subst e1
      subst e2
      exact ⟨rh1, Ext.refl _ _, .int _⟩
    · cases e'
theorem pair_new {K : PySem.W.Frag} {ρ : List Addr} {H : Hp} {h : MH} {T : Addr} {x y : V} {mx my : MV} (rh : RelH K ρ h H) (hT : H T = none) (r1 : RelM K ρ H mx x) (r2 : RelM K ρ H my y) :
    RelH K ρ h (upd H T (.tup [x, y])) ∧ Ext ρ H ρ (upd H T (.tup [x, y])) ∧ RelM K ρ (upd H T (.tup [x, y])) (.tup [mx, my]) (.ref T) := by
  have e : Ext ρ H ρ (upd H T (.tup [x, y])) := Ext.other hT
  have rs : RelMs K ρ (upd H T (.tup [x, y])) [mx, my] [x, y] := .cons (r1.mono e) (.cons (r2.mono e) .nil)
  exact ⟨rh.other hT, e, .tup (SqT.of upd_same) rs.len rs.at_⟩
theorem itEnum {K : PySem.W.Frag} {ρ : List Addr} {H : Hp} {i a : Nat} {k : Nat} (ha : ρ[i]? = some a) :
    ItOk K ρ H ⟨k, fun j h' => match MH.list h' i with | some ys => some (ys[j]?.map fun y => .tup [.int j, y]) | none => none⟩ (Ite K a) := by
  intro j ρ1 h1 H1 x1 rh1
  have ha1 := x1.at_ ha
  dsimp only
  cases hl : MH.list h1 i with
  | none => exact ⟨(fun e => nomatch e), fun v e => nomatch e⟩
  | some xs =>
    obtain ⟨vs, hs, rs⟩ := rh1.list hl ha1
    cases hx : xs[j]? with
    | none =>
      refine ⟨fun _ => ?_, fun v e => ?_⟩
      · rw [List.getElem?_eq_none_iff, rs.len] at hx
        exact ⟨vs, hs, hx⟩
      · dsimp only at e; rw [hx] at e; cases e
    | some y =>
      refine ⟨fun e => ?_, fun v e => ?_⟩
      · dsimp only at e; rw [hx] at e; cases e
      · dsimp only at e
        rw [hx] at e
        cases e
        obtain ⟨w, hw, rw⟩ := rs.get hx
        refine ⟨⟨vs, w, hs, hw⟩, fun x H' ⟨T, x', e1, e2, e3, e4⟩ => ?_⟩
        have := e4 vs hs
        rw [hw] at this
        cases this
        subst e1
        subst e3
        exact pair_new rh1 e2 (.int _) rw
theorem itZip {K : PySem.W.Frag} {ρ : List Addr} {H : Hp} {i j a b : Nat} {k : Nat} (ha : ρ[i]? = some a) (hb : ρ[j]? = some b) :
    ItOk K ρ H ⟨k, fun t h' => match MH.list h' i, MH.list h' j with | some xs', some ys' => some (match xs'[t]?, ys'[t]? with | some x, some y => some (.tup [x, y]) | _, _ => none) | _, _ => none⟩ (Itz K a b) := by
  intro t ρ1 h1 H1 x1 rh1
  have ha1 := x1.at_ ha
  have hb1 := x1.at_ hb
  dsimp only
  cases hl : MH.list h1 i with
  | none => exact ⟨(fun e => nomatch e), fun v e => nomatch e⟩
  | some xs =>
    cases hl2 : MH.list h1 j with
    | none => exact ⟨(fun e => nomatch e), fun v e => nomatch e⟩
    | some ys =>
      obtain ⟨vs, hs, rs⟩ := rh1.list hl ha1
      obtain ⟨ws, hs2, rs2⟩ := rh1.list hl2 hb1
      dsimp only
      cases hx : xs[t]? with
      | none =>
        refine ⟨fun _ => ?_, fun v e => nomatch e⟩
        rw [List.getElem?_eq_none_iff, rs.len] at hx
        exact ⟨vs, ws, hs, hs2, .inl hx⟩
      | some y =>
        cases hy : ys[t]? with
        | none =>
          refine ⟨fun _ => ?_, fun v e => nomatch e⟩
          rw [List.getElem?_eq_none_iff, rs2.len] at hy
          exact ⟨vs, ws, hs, hs2, .inr hy⟩
        | some z =>
          refine ⟨fun e => (nomatch e), fun v e => ?_⟩
          cases e
          obtain ⟨w, hw, rw⟩ := rs.get hx
          obtain ⟨w2, hw2, rw2⟩ := rs2.get hy
          refine ⟨⟨vs, ws, w, w2, hs, hs2, hw, hw2⟩, fun x H' ⟨T, x', y', e1, e2, e3, e4, e5⟩ => ?_⟩
          have q1 := e4 vs hs
          rw [hw] at q1
          cases q1
          have q2 := e5 ws hs2
          rw [hw2] at q2
          cases q2
          subst e1
          subst e3
          exact pair_new rh1 e2 rw rw2
theorem itZipT {K : PySem.W.Frag} {ρ : List Addr} {H : Hp} {a b : Nat} {k : Nat} {xs ys : List MV} {vs ws : List V} (ha : SqT K H a vs) (hb : SqT K H b ws) (r1 : RelMs K ρ H xs vs) (r2 : RelMs K ρ H ys ws) :
    ItOk K ρ H ⟨k, fun t _ => some (match xs[t]?, ys[t]? with | some x, some y => some (.tup [x, y]) | _, _ => none)⟩ (RZ.ItzT K a b) := by
  intro t ρ1 h1 H1 x1 rh1
  have hs := x1.stay.tup ha
  have hs2 := x1.stay.tup hb
  have rs := r1.mono x1
  have rs2 := r2.mono x1
  dsimp only
  cases hx : xs[t]? with
  | none =>
    refine ⟨fun _ => ?_, fun v e => nomatch e⟩
    rw [List.getElem?_eq_none_iff, rs.len] at hx
    exact ⟨vs, ws, hs, hs2, .inl hx⟩
  | some y =>
    cases hy : ys[t]? with
    | none =>
      refine ⟨fun _ => ?_, fun v e => nomatch e⟩
      rw [List.getElem?_eq_none_iff, rs2.len] at hy
      exact ⟨vs, ws, hs, hs2, .inr hy⟩
    | some z =>
      refine ⟨fun e => (nomatch e), fun v e => ?_⟩
      cases e
      obtain ⟨w, hw, rw⟩ := rs.get hx
      obtain ⟨w2, hw2, rw2⟩ := rs2.get hy
      refine ⟨⟨vs, ws, w, w2, hs, hs2, hw, hw2⟩, fun x H' ⟨T, x', y', e1, e2, e3, e4, e5⟩ => ?_⟩
      have q1 := e4 vs hs
      rw [hw] at q1
      cases q1
      have q2 := e5 ws hs2
      rw [hw2] at q2
      cases q2
      subst e1
      subst e3
      exact pair_new rh1 e2 rw rw2
def iSeq (K : PySem.W.Frag) (tl : TE) : TI := fun σ H R => tl σ H fun x H1 => (∃ a xs, x = .ref a ∧ SqL K H1 a xs ∧ R (Itl K a) H1) ∨ (∃ a xs, x = .ref a ∧ SqT K H1 a xs ∧ R (Itt K a) H1) ∨ ∃ z, x = .str z ∧ R (Its z) H1
theorem pi_seq {tg l : Expr} {tl : TE} (hl : PE X l tl) : PI X tg l (iSeq X.K tl) := by
  refine ⟨fun pins s σ H R I h => ?_⟩
  refine thn (hl.run pins s σ H _ I h) fun v s1 ⟨x, H1, I1, r1, q1⟩ => ?_
  rcases q1 with ⟨a, xs, e, hq, q⟩ | ⟨a, xs, e, hq, q⟩ | ⟨z, e, q⟩
  · subst e
    cases r1
    obtain ⟨its, rv, p, hz⟩ := I1.list hq
    refine wpAny_pyIter_list p.isList ?_
    refine ⟨s1.heap.objs.size, [s1.heap.objs.size], _, _, H1, rfl, I1.kept (t' := s1.toks) fun b o e => Heap.get?_push_of_some _ e, turn_list a _, ⟨_, Heap.get?_push_size _ rfl, rfl, rfl⟩, fun b hb => ?_, q⟩
    have e : b = s1.heap.objs.size := by simpa using hb
    subst e
    exact I1.fpOk (Nat.le_refl _) (I1.hok.fresh (Nat.le_refl _))
  · subst e
    cases r1
    obtain ⟨its, rv, p, hz⟩ := I1.tuple hq
    refine wpAny_pyIter_tuple (show s1.heap.IsTuple a its.toArray from p) ?_
    refine ⟨s1.heap.objs.size, [s1.heap.objs.size], _, _, H1, rfl, I1.kept (t' := s1.toks) fun b o e => Heap.get?_push_of_some _ e, turn_tuple a _, ⟨_, Heap.get?_push_size _ rfl, rfl, rfl⟩, fun b hb => ?_, q⟩
    have e : b = s1.heap.objs.size := by simpa using hb
    subst e
    exact I1.fpOk (Nat.le_refl _) (I1.hok.fresh (Nat.le_refl _))
  · subst e
    obtain ⟨t, rfl⟩ := r1
    cases ha : z.cps.all (· < 128)
    · exact wpAny_pyIter_wide ha (pi_one (tk := s1.toks) I1 _ (turn_str _ z t "str_iterator" (.inr rfl)) ⟨_, Heap.get?_push_size _ rfl, rfl, rfl⟩ q)
    · exact wpAny_pyIter_ascii ha (pi_one (tk := s1.toks) I1 _ (turn_str _ z t "str_ascii_iterator" (.inl rfl)) ⟨_, Heap.get?_push_size _ rfl, rfl, rfl⟩ q)
theorem i_seq {a : IE} {tg l : Expr} (ha : PE X l (rdE G n X.K W a)) : PI X tg l (rdI G n X.K W (.seq a)) := by
  refine PI.imp (pi_seq ha) fun σ H R q => ?_
  obtain ⟨ρ, h, e, rs, rh, p⟩ := q
  rw [evI] at p
  refine ⟨ρ, h, e, rs, rh, (p.bind (R := RelM X.K)).imp fun v H1 ⟨ρ1, h1, mx, x1, rh1, r1, p1⟩ => ?_⟩
  split at p1
  · rename_i J hJ
    unfold seqIt at hJ
    split at hJ
    · cases hJ
      obtain ⟨q, vs, rfl, hq, rv⟩ := r1.tup_inv
      exact .inr (.inl ⟨q, vs, rfl, hq, Post.ok_ (R := ItOk X.K) p1 rh1 (itFix hq rv)⟩)
    · split at hJ
      · rename_i xs hx
        cases hJ
        obtain ⟨b, rfl, hb⟩ := r1.ref_inv
        obtain ⟨vs, hs, _⟩ := rh1.list hx hb
        exact .inl ⟨b, vs, rfl, hs, Post.ok_ (R := ItOk X.K) p1 rh1 (itLive hb)⟩
      · cases hJ
    · cases hJ
      obtain rfl := r1.str_inv
      exact .inr (.inr ⟨_, rfl, Post.ok_ (R := ItOk X.K) p1 rh1 itStr⟩)
    · cases hJ
  · exact p1.elim
theorem i_rng1 (S : Sur G n X W Γ) {a : IE} {tg a' : Expr} {p1 pos : Pos} (h1 : gloB Γ.sc "range" = true) (ho : odd a' = false) (ha : PE X a' (rdE G n X.K W a)) : PI X tg (.Call (.Name "range" p1) [a'] [] pos) (rdI G n X.K W (.rng1 a)) := by
  refine PI.imp (pi_range1 (gloOf S.sc h1) (S.blt _ (by decide)) (pa_cons ha pa_nil (star1 ho _ _)) (star1 ho _ _)) fun σ H R q => ?_
  obtain ⟨ρ, h, e, rs, rh, p⟩ := q
  rw [evI] at p
  refine ⟨ρ, h, e, rs, rh, (p.bind (R := RelM X.K)).imp fun v H1 ⟨ρ1, h1, mx, x1, rh1, r1, p1⟩ => ?_⟩
  split at p1
  · split at p1
    · rename_i hb
      unfold bnd62 at hb
      simp only [Bool.and_eq_true, decide_eq_true_eq] at hb
      obtain rfl := r1.int_inv
      exact ⟨_, rfl, hb.1, hb.2, Post.ok_ (R := ItOk X.K) p1 rh1 itRng⟩
    · exact p1.elim
  · exact p1.elim
theorem i_rng2 (S : Sur G n X W Γ) {a b : IE} {tg a' b' : Expr} {p1 pos : Pos} (h1 : gloB Γ.sc "range" = true) (ho : odd a' = false) (ho' : odd b' = false) (ha : PE X a' (rdE G n X.K W a)) (hb : PE X b' (rdE G n X.K W b)) : PI X tg (.Call (.Name "range" p1) [a', b'] [] pos) (rdI G n X.K W (.rng2 a b)) := by
  refine PI.imp (pi_range2 (gloOf S.sc h1) (S.blt _ (by decide)) (pa_cons ha (pa_cons hb pa_nil (star1 ho' _ _)) (star1 ho _ _)) (by rw [star1 ho, star1 ho']; rfl) (star1 ho' _ _)) fun σ H R q => ?_
  obtain ⟨ρ, h, e, rs, rh, p⟩ := q
  rw [evI] at p
  refine ⟨ρ, h, e, rs, rh, (p.bind (R := RelM X.K)).imp fun v H1 ⟨ρ1, h1, mx, x1, rh1, r1, p1⟩ => ?_⟩
  refine ⟨ρ1, h1, e, rs.mono x1, rh1, (p1.bind (R := RelM X.K)).imp fun v2 H2 ⟨ρ2, h2, my, x2, rh2, r2, p2⟩ => ?_⟩
  split at p2
  · split at p2
    · rename_i hb
      unfold bnd62 at hb
      simp only [Bool.and_eq_true, decide_eq_true_eq] at hb
      obtain rfl := r1.int_inv
      obtain rfl := r2.int_inv
      exact ⟨_, _, rfl, ⟨hb.1.1, hb.1.2, hb.2.1, hb.2.2⟩, Post.ok_ (R := ItOk X.K) p2 rh2 itRng⟩
    · exact p2.elim
  · exact p2.elim
theorem i_enum (S : Sur G n X W Γ) {a : IE} {a' : Expr} {es : List Expr} {k : Nat} {p1 pos tpos : Pos} (h1 : gloB Γ.sc "enumerate" = true) (ho : odd a' = false) (ha : PE X a' (rdE G n X.K W a)) : PI X (.Tuple es k tpos) (.Call (.Name "enumerate" p1) [a'] [] pos) (rdI G n X.K W (.enum a)) := by
  refine PI.imp (pi_enum (gloOf S.sc h1) (S.blt _ (by decide)) (pa_cons ha pa_nil (star1 ho _ _)) (star1 ho _ _)) fun σ H R q => ?_
  obtain ⟨ρ, h, e, rs, rh, p⟩ := q
  rw [evI] at p
  refine ⟨ρ, h, e, rs, rh, (p.bind (R := RelM X.K)).imp fun v H1 ⟨ρ1, h1, mx, x1, rh1, r1, p1⟩ => ?_⟩
  split at p1
  · rename_i J hJ
    unfold enumIt at hJ
    split at hJ
    · split at hJ
      · rename_i xs hx
        cases hJ
        obtain ⟨b, rfl, hb⟩ := r1.ref_inv
        obtain ⟨vs, hs, _⟩ := rh1.list hx hb
        exact ⟨b, vs, rfl, hs, Post.ok_ (R := ItOk X.K) p1 rh1 (itEnum hb)⟩
      · cases hJ
    · cases hJ
  · exact p1.elim
theorem i_zip (S : Sur G n X W Γ) {a b : IE} {a' b' : Expr} {es : List Expr} {k : Nat} {p1 pos tpos : Pos} (h1 : gloB Γ.sc "zip" = true) (ho : odd a' = false) (ho' : odd b' = false) (ha : PE X a' (rdE G n X.K W a)) (hb : PE X b' (rdE G n X.K W b)) : PI X (.Tuple es k tpos) (.Call (.Name "zip" p1) [a', b'] [] pos) (rdI G n X.K W (.zip a b)) := by
  refine PI.imp (RZ.pi_zipA (gloOf S.sc h1) (S.blt _ (by decide)) (pa_cons ha (pa_cons hb pa_nil (star1 ho' _ _)) (star1 ho _ _)) (star1 ho _ _) (by rw [star1 ho']; rfl)) fun σ H R q => ?_
  obtain ⟨ρ, h, e, rs, rh, p⟩ := q
  rw [evI] at p
  refine ⟨ρ, h, e, rs, rh, (p.bind (R := RelM X.K)).imp fun v H1 ⟨ρ1, h1, mx, x1, rh1, r1, p1⟩ => ?_⟩
  refine ⟨ρ1, h1, e, rs.mono x1, rh1, (p1.bind (R := RelM X.K)).imp fun v2 H2 ⟨ρ2, h2, my, x2, rh2, r2, p2⟩ => ?_⟩
  split at p2
  · rename_i J hJ
    unfold zipIt at hJ
    split at hJ
    · split at hJ
      · rename_i xs ys hx hy
        cases hJ
        obtain ⟨b1, rfl, hb1⟩ := r1.ref_inv
        obtain ⟨b2, rfl, hb2⟩ := r2.ref_inv
        have hb1' := x2.at_ hb1
        obtain ⟨vs, hs, _⟩ := rh2.list hx hb1'
        obtain ⟨ws, hs2, _⟩ := rh2.list hy hb2
        exact ⟨b1, b2, vs, ws, rfl, .inl ⟨hs, hs2, Post.ok_ (R := ItOk X.K) p2 rh2 (itZip hb1' hb2)⟩⟩
      · cases hJ
    · cases hJ
      obtain ⟨q1, vs, rfl, hq1, rv1⟩ := (r1.mono x2).tup_inv
      obtain ⟨q2, ws, rfl, hq2, rv2⟩ := r2.tup_inv
      exact ⟨q1, q2, vs, ws, rfl, .inr ⟨hq1, hq2, Post.ok_ (R := ItOk X.K) p2 rh2 (itZipT hq1 hq2 rv1 rv2)⟩⟩
    · cases hJ
  · exact p2.elim
theorem relRg {K : PySem.W.Frag} {ρ : List Addr} {H : Hp} (lo : Int) (k : Nat) : RelMs K ρ H (rangeI lo k) ((List.range k).map fun i => V.int (lo + (i : Nat))) where
  len := by
    have : ∀ (k : Nat) (lo : Int), (rangeI lo k).length = k := by
      intro k
      induction k with
      | zero => intro _; rfl
      | succ k ih => intro lo; rw [rangeI, List.length_cons, ih]
    rw [this, List.length_map, List.length_range]
  at_ := fun i x v h1 h2 => by
    rw [rangeI_at] at h1
    split at h1
    · rename_i hi
      cases h1
      rw [List.getElem?_map, List.getElem?_range hi] at h2
      cases h2
      exact .int _
    · cases h1
theorem r_lrng1 (S : Sur G n X W Γ) {b : IE} {b' : Expr} {p1 p2 pos pos2 : Pos} (h1 : gloB Γ.sc "list" = true) (h2 : gloB Γ.sc "range" = true) (ho : odd b' = false) (hb : PE X b' (rdE G n X.K W b)) :
    PE X (.Call (.Name "list" p1) [.Call (.Name "range" p2) [b'] [] pos2] [] pos) (rdE G n X.K W (.lrng1 b)) := by
  refine PE.imp (pe_listRg S.calm (gloOf S.sc h1) (S.blt _ (by decide)) (prg_1 (gloOf S.sc h2) (S.blt _ (by decide)) hb (star1 ho _ _)) (star1 rfl _ _)) fun σ H Q q => ?_
  unfold rdE at q
  unfold evE at q
  obtain ⟨ρ, h, e, rs, rh, p⟩ := q
  refine ⟨ρ, h, e, rs, rh, (p.bind (R := RelM X.K)).imp fun v H1 ⟨ρ1, h1, mx, x1, rh1, r1, p1⟩ => ?_⟩
  split at p1
  · split at p1
    · rename_i hb
      unfold bnd62 at hb
      simp only [Bool.and_eq_true, decide_eq_true_eq] at hb
      obtain rfl := r1.int_inv
      rw [sizeLine_eq] at hb
      refine ⟨_, rfl, ⟨by decide, by decide, hb.1.1, hb.1.2, by rw [Int.sub_zero]; exact hb.2⟩, ?_⟩
      have := post_lst p1 rh1 (relRg 0 _)
      unfold rgV
      rw [Int.sub_zero]
      exact this
    · exact p1.elim
  · exact p1.elim
theorem r_lrng2 (S : Sur G n X W Γ) {a b : IE} {a' b' : Expr} {p1 p2 pos pos2 : Pos} (h1 : gloB Γ.sc "list" = true) (h2 : gloB Γ.sc "range" = true) (ho : odd a' = false) (ho' : odd b' = false) (ha : PE X a' (rdE G n X.K W a)) (hb : PE X b' (rdE G n X.K W b)) :
    PE X (.Call (.Name "list" p1) [.Call (.Name "range" p2) [a', b'] [] pos2] [] pos) (rdE G n X.K W (.lrng2 a b)) := by
  refine PE.imp (pe_listRg S.calm (gloOf S.sc h1) (S.blt _ (by decide)) (prg_2 (gloOf S.sc h2) (S.blt _ (by decide)) ha hb (star1 ho _ _) (star1 ho' _ _) (by rw [star1 ho']; rfl)) (star1 rfl _ _)) fun σ H Q q => ?_
  unfold rdE at q
  unfold evE at q
  obtain ⟨ρ, h, e, rs, rh, p⟩ := q
  refine ⟨ρ, h, e, rs, rh, (p.bind (R := RelM X.K)).imp fun v H1 ⟨ρ1, h1, mx, x1, rh1, r1, p1⟩ => ?_⟩
  refine ⟨ρ1, h1, e, rs.mono x1, rh1, (p1.bind (R := RelM X.K)).imp fun v2 H2 ⟨ρ2, h2, my, x2, rh2, r2, p2⟩ => ?_⟩
  split at p2
  · split at p2
    · rename_i hb
      unfold bnd62 at hb
      simp only [Bool.and_eq_true, decide_eq_true_eq] at hb
      obtain rfl := (r1.mono x2).int_inv
      obtain rfl := r2.int_inv
      rw [sizeLine_eq] at hb
      refine ⟨_, _, rfl, rfl, ⟨hb.1.1.1, hb.1.1.2, hb.1.2.1, hb.1.2.2, hb.2⟩, ?_⟩
      exact post_lst p2 rh2 (relRg _ _)
    · exact p2.elim
  · exact p2.elim
end
end M
namespace M
open PySem L2 PyProof.Rows
section
variable {G : MG} {n : Nat} {X : Cx} {W : WX} {Γ : Ct}
theorem locOf (S : Sur G n X W Γ) {x : Str} (h : locB Γ x = true) : Loc X.env.scope x ∧ (X.fn x = true ∨ X.env.scope.names.lookup x = some .local) := by
  unfold locB at h
  rw [S.sc]
  split at h
  · rename_i q; exact ⟨.inl q, .inr q⟩
  · rename_i q; exact ⟨.inr q, .inl (S.fn h x)⟩
  · exact Bool.noConfusion h
theorem g_name (S : Sur G n X W Γ) {i : Nat} {x : Str} {pos : Pos} (h1 : Γ.N[i]? = some x) (h2 : locB Γ x = true) : PG X (.Name x pos) (rdT G n X.K (.name i)) := by
  obtain ⟨hl, hf⟩ := locOf S h2
  refine PG.imp (pg_name S.nd (by rw [S.N]; exact h1) hl hf) fun x σ H Q q => ?_
  obtain ⟨ρ, h, e, v, rs, rh, rv, p⟩ := q
  rw [asT] at p
  split at p
  · exact Post.ok_ (R := RelS X.K) p rh (rs.set rv)
  · exact p.elim
theorem gs_nil : PGs X [] (rdTs G n X.K .nil) := by
  refine PGs.imp pgs_nil fun x σ H Q q => ?_
  obtain ⟨ρ, h, e, vs, rs, rh, rv, p⟩ := q
  cases vs with
  | nil =>
    rw [asTs] at p
    exact ⟨rv.unnil, Post.ok_ (R := RelS X.K) p rh rs⟩
  | cons v vs => exact p.elim
theorem gs_cons {t : Tg} {ts : Tgs} {e : Expr} {es : List Expr} (h1 : PG X e (rdT G n X.K t)) (h2 : PGs X es (rdTs G n X.K ts)) (hs : (assignEach (e :: es) X.env).map (·.2) = assign e X.env :: (assignEach es X.env).map (·.2)) : PGs X (e :: es) (rdTs G n X.K (.cons t ts)) := by
  refine PGs.imp (pgs_cons h1 h2 hs) fun x σ H Q q => ?_
  obtain ⟨ρ, h, e, vs, rs, rh, rv, p⟩ := q
  cases vs with
  | nil => exact p.elim
  | cons v vs =>
    rw [asTs] at p
    obtain ⟨w, ws, rfl, r1, r2⟩ := rv.uncons
    refine ⟨w, ws, rfl, ρ, h, e, v, rs, rh, r1, (p.bind (R := RelS X.K)).imp fun σ1 H1 ⟨ρ1, h1, e1, x1, rh1, rs1, p1⟩ => ?_⟩
    exact ⟨ρ1, h1, e1, vs, rs1, rh1, r2.mono x1, p1⟩
theorem g_tup (hc : X.calm = true) {ts : Tgs} {es : List Expr} {k : Nat} {pos : Pos} (h : PGs X es (rdTs G n X.K ts)) (hk : tgsLen ts = es.length) (hn : (assignEach es X.env).length = es.length) (hst : (assignEach es X.env).findIdx? (·.1) = none) :
    PG X (.Tuple es k pos) (rdT G n X.K (.tup ts)) := by
  refine PG.imp (pg_tup hc h hn hst) fun x σ H Q q => ?_
  obtain ⟨ρ, h, e, v, rs, rh, rv, p⟩ := q
  cases v with
  | tup xs =>
    rw [asT] at p
    obtain ⟨a, vs, rfl, ha, rr⟩ := rv.tup_inv
    split at p
    · rename_i hl
      exact ⟨a, vs, rfl, ha, by rw [← rr.len, ← hk]; exact of_decide_eq_true hl, ρ, h, e, xs, rs, rh, rr, p⟩
    · exact p.elim
  | _ => exact p.elim
theorem g_sub {o i : IE} {o' i' : Expr} {pos : Pos} (hi' : odd i' = false) (ho : PE X o' (rdE G n X.K W o)) (hi : PE X i' (rdE G n X.K W i)) : PG X (.Subscript o' i' pos) (rdT G n X.K (.sub o i)) := by
  refine PG.imp (pg_sub ho hi set_list (fun v => by cases i' <;> first | rfl | exact Bool.noConfusion hi')) fun x σ H Q q => ?_
  obtain ⟨ρ, h, e, v, rs, rh, rv, p⟩ := q
  rw [asT] at p
  have p := p.impE (E' := fun cls d H' => W cls d σ H') fun _ _ _ z => z.elim
  refine ⟨ρ, h, e, rs, rh, (p.bind (R := RelM X.K)).imp fun ov H1 ⟨ρ1, h1, mo, x1, rh1, r1, p1⟩ => ?_⟩
  refine ⟨ρ1, h1, e, rs.mono x1, rh1, (p1.bind (R := RelM X.K)).imp fun iv H2 ⟨ρ2, h2, mi, x2, rh2, r2, p2⟩ => ?_⟩
  split at p2
  · split at p2
    · rename_i xs hx
      split at p2
      · rename_i j hj
        obtain ⟨a, rfl, ha⟩ := (r1.mono x2).ref_inv
        obtain rfl := r2.int_inv
        obtain ⟨hi, vs, hv, rr⟩ := rh2.wlist hx ha
        rw [rr.len] at hj
        refine ⟨a, vs, _, j, rfl, rfl, hv, hj, ?_⟩
        have rv2 := (rv.mono x1).mono x2
        have e3 : Ext ρ2 H2 ρ2 (upd H2 a (.lst (vs.set j x))) := Ext.set rh2 hi rfl ha
        exact p2 ρ2 _ σ e3 (rh2.set hi rfl ha rfl ⟨_, upd_same, (rr.set j rv2).mono e3⟩) (((rs.mono x1).mono x2).mono e3)
      · exact p2.elim
    · exact p2.elim
  · exact p2.elim
theorem wipe_set {i : Nat} {x : Option V} : ∀ {vs : List Nat} {σ : L2.St}, L2.wipe (σ.set i x) vs = if i ∈ vs then L2.wipe σ vs else (L2.wipe σ vs).set i x
  | [], σ => by simp [L2.wipe]
  | v :: vs, σ => by
    unfold L2.wipe
    rw [wipe_set]
    by_cases h : i ∈ vs
    · rw [if_pos h, if_pos (List.mem_cons_of_mem _ h)]
    · rw [if_neg h]
      by_cases hv : i = v
      · subst hv
        rw [if_pos List.mem_cons_self, List.set_set]
      · rw [if_neg (by simp [hv, h]), List.set_comm _ _ hv]
theorem set_none {v : Nat} {σ : L2.St} : ∀ {l : List Nat}, v ∈ l → (L2.wipe σ l).set v none = L2.wipe σ l
  | [], h => by simp at h
  | w :: l, h => by
    show ((L2.wipe σ l).set w none).set v none = (L2.wipe σ l).set w none
    by_cases e : v = w
    · subst e; rw [List.set_set]
    · rw [List.set_comm _ _ (Ne.symm e), set_none (by simpa [e] using h)]
theorem wipe_gen {σ : L2.St} {l : List Nat} : ∀ {vs : List Nat}, (∀ i ∈ vs, i ∈ l) → L2.wipe (L2.wipe σ l) vs = L2.wipe σ l
  | [], _ => rfl
  | v :: vs, hl => by
    show (L2.wipe (L2.wipe σ l) vs).set v none = L2.wipe σ l
    rw [wipe_gen fun i hi => hl i (List.mem_cons_of_mem _ hi)]
    exact set_none (hl v List.mem_cons_self)
theorem wipe_wipe (σ : L2.St) (own : List Nat) : L2.wipe (L2.wipe σ own) own = L2.wipe σ own := wipe_gen fun _ h => h
def RelW (K : PySem.W.Frag) (own : List Nat) (σ0 : L2.St) : List Addr → Hp → MEnv → L2.St → Prop := fun ρ H e σ => RelS K ρ H e σ ∧ L2.wipe σ own = L2.wipe σ0 own
def rdTo (G : MG) (n : Nat) (K : PySem.W.Frag) (own : List Nat) (t : Tg) : TG := fun x σ H Q => ∃ ρ h e v, RelS K ρ H e σ ∧ RelH K ρ h H ∧ RelM K ρ H v x ∧ Post K (RelW K own σ) ρ H (asT G (callF G n) t v e h) Q (fun _ _ _ => False)
def rdTso (G : MG) (n : Nat) (K : PySem.W.Frag) (own : List Nat) (t : Tgs) : TGs := fun xs σ H Q => ∃ ρ h e vs, RelS K ρ H e σ ∧ RelH K ρ h H ∧ RelMs K ρ H vs xs ∧ Post K (RelW K own σ) ρ H (asTs G (callF G n) t vs e h) Q (fun _ _ _ => False)
theorem go_name (S : Sur G n X W Γ) {own : List Nat} {i : Nat} {x : Str} {pos : Pos} (h1 : Γ.N[i]? = some x) (h2 : locB Γ x = true) (ho : i ∈ own) : PG X (.Name x pos) (rdTo G n X.K own (.name i)) := by
  obtain ⟨hl, hf⟩ := locOf S h2
  refine PG.imp (pg_name S.nd (by rw [S.N]; exact h1) hl hf) fun x σ H Q q => ?_
  obtain ⟨ρ, h, e, v, rs, rh, rv, p⟩ := q
  rw [asT] at p
  split at p
  · exact Post.ok_ (R := RelW X.K own σ) p rh ⟨rs.set rv, by rw [wipe_set, if_pos ho]⟩
  · exact p.elim
theorem gso_nil {own : List Nat} : PGs X [] (rdTso G n X.K own .nil) := by
  refine PGs.imp pgs_nil fun x σ H Q q => ?_
  obtain ⟨ρ, h, e, vs, rs, rh, rv, p⟩ := q
  cases vs with
  | nil =>
    rw [asTs] at p
    exact ⟨rv.unnil, Post.ok_ (R := RelW X.K own σ) p rh ⟨rs, rfl⟩⟩
  | cons v vs => exact p.elim
theorem gso_cons {own : List Nat} {t : Tg} {ts : Tgs} {e : Expr} {es : List Expr} (h1 : PG X e (rdTo G n X.K own t)) (h2 : PGs X es (rdTso G n X.K own ts)) (hs : (assignEach (e :: es) X.env).map (·.2) = assign e X.env :: (assignEach es X.env).map (·.2)) : PGs X (e :: es) (rdTso G n X.K own (.cons t ts)) := by
  refine PGs.imp (pgs_cons h1 h2 hs) fun x σ H Q q => ?_
  obtain ⟨ρ, h, e, vs, rs, rh, rv, p⟩ := q
  cases vs with
  | nil => exact p.elim
  | cons v vs =>
    rw [asTs] at p
    obtain ⟨w, ws, rfl, r1, r2⟩ := rv.uncons
    refine ⟨w, ws, rfl, ρ, h, e, v, rs, rh, r1, (p.bind (R := RelW X.K own σ)).imp fun σ1 H1 ⟨ρ1, h1, e1, x1, rh1, ⟨rs1, hw⟩, p1⟩ => ?_⟩
    refine ⟨ρ1, h1, e1, vs, rs1, rh1, r2.mono x1, ?_⟩
    have : RelW X.K own σ1 = RelW X.K own σ := by unfold RelW; rw [hw]
    rw [this]
    exact p1
theorem go_tup (hc : X.calm = true) {own : List Nat} {ts : Tgs} {es : List Expr} {k : Nat} {pos : Pos} (h : PGs X es (rdTso G n X.K own ts)) (hk : tgsLen ts = es.length) (hn : (assignEach es X.env).length = es.length) (hst : (assignEach es X.env).findIdx? (·.1) = none) :
    PG X (.Tuple es k pos) (rdTo G n X.K own (.tup ts)) := by
  refine PG.imp (pg_tup hc h hn hst) fun x σ H Q q => ?_
  obtain ⟨ρ, h, e, v, rs, rh, rv, p⟩ := q
  cases v with
  | tup xs =>
    rw [asT] at p
    obtain ⟨a, vs, rfl, ha, rr⟩ := rv.tup_inv
    split at p
    · rename_i hl
      exact ⟨a, vs, rfl, ha, by rw [← rr.len, ← hk]; exact of_decide_eq_true hl, ρ, h, e, xs, rs, rh, rr, p⟩
    · exact p.elim
  | _ => exact p.elim
theorem c_none : PTs X [] (rdC G n X.K W .none) := PTs.imp pts_nil fun σ H Q q => by
  obtain ⟨ρ, h, e, rs, rh, p⟩ := q
  exact Post.ok_ (R := fun _ _ (a b : Bool) => a = b) p rh rfl
theorem c_some {a : IE} {x : Expr} (h : PT X x (rdB G n X.K W a)) : PTs X [x] (rdC G n X.K W (.some a)) := PTs.imp (pts_one h) fun σ H Q q => q
theorem ownL_snd (N : List Str) (own : List Nat) : (ownL N own).map (·.2) = own := by
  unfold ownL
  rw [List.map_map]
  exact List.map_id _
theorem comp_rd {elt : IE} {tg : Tg} {it : II} {cond : IO} {own : List Nat} {σ : L2.St} {H : Hp} {Q : VK} (q : rdE G n X.K W (.comp elt tg it cond own) σ H Q) :
    tLc (rdI G n X.K W it) (rdTo G n X.K own tg) (rdC G n X.K W0 cond) (rdE G n X.K W0 elt) own σ H Q := by
  unfold rdE at q
  unfold evE at q
  obtain ⟨ρ, h, e, rs, rh, p⟩ := q
  refine ⟨ρ, h, e, rs, rh, (p.bind (R := ItOk X.K)).imp fun J' H1 ⟨ρ1, h1, J, x1, rh1, hJ, p1⟩ D hD => ?_⟩
  have xD : Ext ρ1 H1 (ρ1 ++ [D]) (upd H1 D (.lst [])) := Ext.push hD
  have rhD : RelH X.K (ρ1 ++ [D]) (h1 ++ [.lst []]) (upd H1 D (.lst [])) := rh1.push hD ⟨[], upd_same, .nil⟩
  have dD : (ρ1 ++ [D])[h1.length]? = some D := by rw [← rh1.len]; simp
  refine ⟨fun i m H2 => ∃ ρ2 h2, Ext (ρ1 ++ [D]) (upd H1 D (.lst [])) ρ2 H2 ∧ RelH X.K ρ2 h2 H2 ∧
    PostM X.K ρ2 H2 ((compLoop J.nx (fun v h2 => asT G (callF G n) tg v (wipeM e own) h2) (fun e2 h2 => evC G (callF G n) cond e2 h2) (fun e2 h2 => evE G (callF G n) elt e2 h2) h1.length m i h2).bind fun _ h2 => .ok (.ref h1.length) h2) Q (fun cls d H' => W cls d σ H'),
    ⟨J.n, _, _, Ext.refl _ _, rhD, Post.ext xD p1⟩, ?_⟩
  rintro i m H2 ⟨ρ2, h2, x2, rh2, p2⟩
  have x02 : Ext ρ1 H1 ρ2 H2 := xD.trans x2
  obtain ⟨hstop, hgo⟩ := hJ i ρ2 h2 H2 x02 rh2
  have stop : J.nx i h2 = some none → PostM X.K ρ2 H2 (.ok (.ref h1.length) h2) Q (fun cls d H' => W cls d σ H') → (J'.stop i H2 ∧ Q (.ref D) H2) := fun e1 p3 => ⟨hstop e1, Post.ok_ (R := RelM X.K) p3 rh2 (.ref (x2.at_ dD))⟩
  cases m with
  | zero =>
    unfold compLoop at p2
    split at p2
    · rename_i e1
      exact .inl (stop e1 p2)
    · exact p2.elim
  | succ m =>
    unfold compLoop at p2
    split at p2
    · rename_i e1
      exact .inl (stop e1 p2)
    · rename_i v e1
      obtain ⟨hg, hy⟩ := hgo v e1
      refine .inr ⟨hg, fun H' => ∃ ρ3 h3, Ext (ρ1 ++ [D]) (upd H1 D (.lst [])) ρ3 H' ∧ RelH X.K ρ3 h3 H' ∧ PostM X.K ρ3 H' ((compLoop J.nx (fun v h2 => asT G (callF G n) tg v (wipeM e own) h2) (fun e2 h2 => evC G (callF G n) cond e2 h2) (fun e2 h2 => evE G (callF G n) elt e2 h2) h1.length m (i + 1) h3).bind fun _ h2 => .ok (.ref h1.length) h2) Q (fun cls d H' => W cls d σ H'), fun H' q => ⟨m, Nat.lt_succ_self m, q⟩, fun x H3 yl => ?_⟩
      obtain ⟨rh3, x3, rv⟩ := hy x H3 yl
      have x03 : Ext (ρ1 ++ [D]) (upd H1 D (.lst [])) ρ2 H3 := x2.trans x3
      have rsw : RelS X.K ρ2 H3 (wipeM e own) (L2.wipe σ own) := (rs.mono (x1.trans (x02.trans x3))).wipe own
      refine ⟨ρ2, h2, wipeM e own, v, rsw, rh3, rv, ?_⟩
      split at p2
      · rename_i e1 h4 ha
        rw [ha]
        intro ρ4 H4 σ2 x4 rh4 ⟨rs4, hw⟩
        have x04 := x03.trans x4
        have hw2 := wipe_wipe σ own
        refine ⟨by rw [hw, hw2], ?_⟩
        show rdC G n X.K W0 cond σ2 H4 _
        have p4 := Post.ext (x3.trans x4) p2
        refine ⟨ρ4, h4, e1, rs4, rh4, ?_⟩
        cases hc : evC G (callF G n) cond e1 h4 with
        | bad => rw [hc] at p4; exact p4.elim
        | ex x h5 => rw [hc] at p4; exact p4.elim
        | ok tv h5 =>
          rw [hc] at p4
          cases tv with
          | bl b =>
            cases b with
            | false =>
              intro ρ5 H5 b' x5 rh5 hb
              subst hb
              exact iteF ⟨ρ5, h5, x04.trans x5, rh5, Post.ext x5 p4⟩
            | true =>
              intro ρ5 H5 b' x5 rh5 hb
              subst hb
              refine iteT ?_
              show rdE G n X.K W0 elt σ2 H5 _
              have p5 := Post.ext x5 p4
              refine ⟨ρ5, h5, e1, rs4.mono x5, rh5, ?_⟩
              dsimp only at p5
              cases hel : evE G (callF G n) elt e1 h5 with
              | bad => rw [hel] at p5; exact p5.elim
              | ex x h6 => rw [hel] at p5; exact p5.elim
              | ok y h6 =>
                rw [hel] at p5
                intro ρ6 H6 yv x6 rh6 ry
                have p6 := Post.ext x6 p5
                have x06 := (x04.trans x5).trans x6
                have hDD := x06.at_ dD
                dsimp only at p6
                split at p6
                · rename_i acc hacc
                  split at p6
                  · rename_i hz
                    obtain ⟨hi, vs, hv, rr⟩ := rh6.wlist hacc hDD
                    refine ⟨vs, hv, by rw [← rr.len]; exact of_decide_eq_true hz, ?_⟩
                    have x7 : Ext ρ6 H6 ρ6 (upd H6 D (.lst (vs ++ [yv]))) := Ext.set rh6 hi rfl hDD
                    exact ⟨ρ6, _, x06.trans x7, RelH.set (u := .lst (acc ++ [y])) rh6 hi rfl hDD rfl ⟨_, upd_same, (rr.app (.cons ry .nil)).mono x7⟩, Post.ext x7 p6⟩
                  · exact p6.elim
                · exact p6.elim
          | _ => exact p4.elim
      · exact p2.elim
    · exact p2.elim
theorem comp_pe (S : Sur G n X W Γ) {elt : IE} {tg : Tg} {it : II} {cond : IO} {own : List Nat} {elt' tg' iter' : Expr} {ifs' : List Expr} {scope : Scope} {pos : Pos} (hb : blkC Γ.N Γ.sc scope (ownL Γ.N own) = true)
    (hi : PI X tg' iter' (rdI G n X.K W it)) (hg : ∀ (s : Shared) (H : Hp) (C : Addr) (cl : List (Str × Addr)) (fp : List Addr), PG (X.blk s H scope (compEnvC scope cl C X.env) fp) tg' (rdTo G n X.K own tg))
    (ht : ∀ (s : Shared) (H : Hp) (C : Addr) (cl : List (Str × Addr)) (fp : List Addr), PTs (X.blk s H scope (compEnvC scope cl C X.env) fp) ifs' (rdC G n X.K W0 cond))
    (he : ∀ (s : Shared) (H : Hp) (C : Addr) (cl : List (Str × Addr)) (fp : List Addr), PE (X.blk s H scope (compEnvC scope cl C X.env) fp) elt' (rdE G n X.K W0 elt)) (ho : odd iter' = false) :
    PE X (.ListComp elt' [⟨tg', iter', ifs', 0⟩] scope pos) (rdE G n X.K W (.comp elt tg it cond own)) := by
  have ok : BlkOk X.N X.env.scope scope (ownL Γ.N own) := by rw [S.N, S.sc]; exact blkOk_by hb
  have q := pe_lc (pos := pos) S.calm S.nd hi ok hg ht he (noFold ho X.env)
  rw [ownL_snd] at q
  exact PE.imp q fun σ H Q q => comp_rd q
theorem comp_ps (S : Sur G n X W Γ) {elt : IE} {tg : Tg} {it : II} {cond : IO} {own : List Nat} {elt' tg' iter' : Expr} {ifs' : List Expr} {scope : Scope} {pos spos py : Pos} {y : Str} {i : Nat} (hb : blkC Γ.N Γ.sc scope (ownL Γ.N own) = true)
    (hi : PI X tg' iter' (rdI G n X.K W it)) (hg : ∀ (s : Shared) (H : Hp) (C : Addr) (cl : List (Str × Addr)) (fp : List Addr), PG (X.blk s H scope (compEnvC scope cl C X.env) fp) tg' (rdTo G n X.K own tg))
    (ht : ∀ (s : Shared) (H : Hp) (C : Addr) (cl : List (Str × Addr)) (fp : List Addr), PTs (X.blk s H scope (compEnvC scope cl C X.env) fp) ifs' (rdC G n X.K W0 cond))
    (he : ∀ (s : Shared) (H : Hp) (C : Addr) (cl : List (Str × Addr)) (fp : List Addr), PE (X.blk s H scope (compEnvC scope cl C X.env) fp) elt' (rdE G n X.K W0 elt)) (ho : odd iter' = false)
    (hN : Γ.N[i]? = some y) (hl : Γ.sc.names.lookup y = some .local) (hsw : swapsWith (.ListComp elt' [⟨tg', iter', ifs', 0⟩] scope pos) (some (.Name y py)) spos.line X.env = pure true) :
    PS X (.Assign [.Name y py] (.ListComp elt' [⟨tg', iter', ifs', 0⟩] scope pos) spos) (tAsg (tLc (rdI G n X.K W it) (rdTo G n X.K own tg) (rdC G n X.K W0 cond) (rdE G n X.K W0 elt) own) (gName i)) := by
  have ok : BlkOk X.N X.env.scope scope (ownL Γ.N own) := by rw [S.N, S.sc]; exact blkOk_by hb
  have q := ps_setLc (pos := pos) (spos := spos) (py := py) S.calm S.nd (by rw [S.N]; exact hN) (by rw [S.sc]; exact hl) hsw hi ok hg ht he (noFold ho X.env)
  rw [ownL_snd] at q
  exact q
end
end M
namespace M
open PySem L2 PyProof.Rows
section
variable {G : MG} {n : Nat}
theorem asg_plain {Γ : Ct} {t : Tg} {e : Expr} (h : mT G Γ t e = true) (es : List Expr) (env : Env) : assignEach (e :: es) env = (false, assign e env) :: assignEach es env := by
  cases t <;> cases e <;> first | rfl | exact Bool.noConfusion h
theorem asg_all {Γ : Ct} : ∀ {ts : Tgs} {es : List Expr}, mTs G Γ ts es = true → ∀ env : Env, (assignEach es env).length = es.length ∧ (assignEach es env).findIdx? (·.1) = none
  | .nil, es, h, env => by
    unfold mTs at h
    split at h
    · exact ⟨rfl, rfl⟩
    · exact Bool.noConfusion h
  | .cons t ts, es, h, env => by
    unfold mTs at h
    split at h
    · rename_i e es'
      simp only [Bool.and_eq_true] at h
      obtain ⟨h1, h2⟩ := asg_all h.2 env
      rw [asg_plain h.1]
      refine ⟨by rw [List.length_cons, h1, List.length_cons], ?_⟩
      rw [List.findIdx?_cons, h2]
      rfl
    · exact Bool.noConfusion h
theorem tgs_len {Γ : Ct} : ∀ {ts : Tgs} {es : List Expr}, mTs G Γ ts es = true → tgsLen ts = es.length
  | .nil, es, h => by
    unfold mTs at h
    split at h
    · rfl
    · exact Bool.noConfusion h
  | .cons t ts, es, h => by
    unfold mTs at h
    split at h
    · simp only [Bool.and_eq_true] at h
      rw [tgsLen, tgs_len h.2, List.length_cons]
    · exact Bool.noConfusion h
def plainT : Expr → Bool
  | .UnaryOp .Not _ _ => false
  | .BoolOp .. => false
  | .IfExp .. => false
  | .Compare .. => false
  | _ => true
theorem isTrue_plainT {e : Expr} (h : plainT e = true) (env : Env) (whole : Sem Value) : isTrue e env whole = (do let v ← whole; standAt e.pos; holding [v] (truthy v)) := by
  cases e with
  | UnaryOp op a p => cases op <;> first | rfl | exact Bool.noConfusion h
  | _ => first | rfl | exact Bool.noConfusion h
theorem both {X : Cx} {W : WX} {c : IE} {e : Expr} (hp : plainT e = true) (h : PE X e (rdE G n X.K W c)) : PE X e (rdE G n X.K W c) ∧ PT X e (rdB G n X.K W c) := ⟨h, testOf h (isTrue_plainT hp X.env)⟩
theorem superOf {o : Expr} (h : notSuper o = true) : ∀ x p q, o = .Call (.Name x p) [] [] q → x ≠ "super" := fun x p q e z => by
  subst e
  subst z
  simp [notSuper] at h
theorem mI_odd {Γ : Ct} {it : II} {t e : Expr} (h : mI G Γ it t e = true) : odd e = false := by
  cases it with
  | seq a => unfold mI at h; exact mE_odd h
  | _ => cases e <;> first | rfl | exact Bool.noConfusion h
theorem tupOf {t : Expr} (h : isTupE t = true) : ∃ es k p, t = .Tuple es k p := by
  cases t <;> first | exact ⟨_, _, _, rfl⟩ | exact Bool.noConfusion h
mutual
theorem sE : ∀ (c : IE) {X : Cx} {W : WX} {Γ : Ct} {e : Expr}, Sur G n X W Γ → mE G Γ c e = true → PE X e (rdE G n X.K W c) ∧ PT X e (rdB G n X.K W c)
  | .var i, X, W, Γ, e, S, h => by
    unfold mE at h
    split at h
    · simp only [Bool.and_eq_true] at h
      exact both rfl (r_var S (of_decide_eq_true h.1.1) h.1.2 h.2)
    · exact Bool.noConfusion h
  | .glb k, X, W, Γ, e, S, h => by
    unfold mE at h
    split at h
    · simp only [Bool.and_eq_true] at h
      exact both rfl (r_glb S h.1.1 h.1.2 h.2)
    · exact Bool.noConfusion h
  | .int i, X, W, Γ, e, S, h => by
    unfold mE at h
    split at h
    · obtain rfl := of_decide_eq_true h; exact both rfl r_int
    · exact Bool.noConfusion h
  | .bl i, X, W, Γ, e, S, h => by
    unfold mE at h
    split at h
    · obtain rfl := of_decide_eq_true h; exact both rfl r_bl
    · exact Bool.noConfusion h
  | .non, X, W, Γ, e, S, h => by
    unfold mE at h
    split at h
    · exact both rfl r_non
    · exact Bool.noConfusion h
  | .str i, X, W, Γ, e, S, h => by
    unfold mE at h
    split at h
    · obtain rfl := of_decide_eq_true h; exact both rfl r_str
    · exact Bool.noConfusion h
  | .bop o a b, X, W, Γ, e, S, h => by
    unfold mE at h
    split at h
    · simp only [Bool.and_eq_true] at h
      exact both rfl (r_bop h.1.1 (sE a S h.1.2).1 (sE b S h.2).1)
    · exact Bool.noConfusion h
  | .neg a, X, W, Γ, e, S, h => by
    unfold mE at h
    split at h
    · exact both rfl (r_neg (sE a S h).1)
    · exact Bool.noConfusion h
  | .not a, X, W, Γ, e, S, h => by
    unfold mE at h
    split at h
    · exact ⟨r_not (sE a S h).1, t_not (sE a S h).2⟩
    · exact Bool.noConfusion h
  | .cmp o a b, X, W, Γ, e, S, h => by
    unfold mE at h
    split at h
    · simp only [Bool.and_eq_true] at h
      have h1 := (sE a S h.1.2).1
      have h2 := (sE b S h.2).1
      exact ⟨r_cmp S h.1.1 (mE_odd h.2) h1 h2, t_cmp S h.1.1 (mE_odd h.2) h1 h2⟩
    · exact Bool.noConfusion h
  | .chn o o' a b c, X, W, Γ, e, S, h => by
    unfold mE at h
    split at h
    · simp only [Bool.and_eq_true] at h
      have h1 := (sE a S h.1.1.2).1
      have h2 := (sE b S h.1.2).1
      have h3 := (sE c S h.2).1
      exact ⟨r_chn S h.1.1.1.1 h.1.1.1.2 (mE_odd h.2) h1 h2 h3, t_chn S h.1.1.1.1 h.1.1.1.2 (mE_odd h.2) h1 h2 h3⟩
    · exact Bool.noConfusion h
  | .and a b, X, W, Γ, e, S, h => by
    unfold mE at h
    split at h
    · simp only [Bool.and_eq_true] at h
      obtain ⟨e1, t1⟩ := sE a S h.1
      obtain ⟨e2, t2⟩ := sE b S h.2
      exact ⟨PE.imp (pe_and e1 (pe_one e2)) fun σ H Q q => and_rd q, PT.imp (PW.pt (pw_and t1 (pw_and1 t2))) fun σ H Q q => andT_rd q⟩
    · simp only [Bool.and_eq_true] at h
      obtain ⟨e1, t1⟩ := sE a S h.1
      obtain ⟨e2, t2⟩ := sE b S h.2
      refine ⟨PE.imp (pe_and e1 e2) fun σ H Q q => and_rd q, PT.imp (PW.pt (pw_and t1 ⟨fun whole pins s σ H Q I q => ?_⟩)) fun σ H Q q => andT_rd q⟩
      exact t2.run pins s σ H Q I q
    · exact Bool.noConfusion h
  | .or a b, X, W, Γ, e, S, h => by
    unfold mE at h
    split at h
    · simp only [Bool.and_eq_true] at h
      obtain ⟨e1, t1⟩ := sE a S h.1
      obtain ⟨e2, t2⟩ := sE b S h.2
      exact ⟨PE.imp (pe_or e1 (pe_one e2)) fun σ H Q q => or_rd q, PT.imp (PW.pt (pw_or t1 (pw_or1 t2))) fun σ H Q q => orT_rd q⟩
    · simp only [Bool.and_eq_true] at h
      obtain ⟨e1, t1⟩ := sE a S h.1
      obtain ⟨e2, t2⟩ := sE b S h.2
      refine ⟨PE.imp (pe_or e1 e2) fun σ H Q q => or_rd q, PT.imp (PW.pt (pw_or t1 ⟨fun whole pins s σ H Q I q => ?_⟩)) fun σ H Q q => orT_rd q⟩
      exact t2.run pins s σ H Q I q
    · exact Bool.noConfusion h
  | .ite c a b, X, W, Γ, e, S, h => by
    unfold mE at h
    split at h
    · simp only [Bool.and_eq_true] at h
      obtain ⟨_, t0⟩ := sE c S h.1.1
      obtain ⟨e1, t1⟩ := sE a S h.1.2
      obtain ⟨e2, t2⟩ := sE b S h.2
      exact ⟨r_ite t0 e1 e2, t_ite t0 t1 t2⟩
    · exact Bool.noConfusion h
  | .idx a b, X, W, Γ, e, S, h => by
    unfold mE at h
    split at h
    · simp only [Bool.and_eq_true] at h
      exact both rfl (r_idx (mE_odd h.2) (sE a S h.1).1 (sE b S h.2).1)
    · exact Bool.noConfusion h
  | .slc a lo hi, X, W, Γ, e, S, h => by
    unfold mE at h
    split at h
    · simp only [Bool.and_eq_true] at h
      exact both rfl (r_slc (sE a S h.1.1).1 (sO lo S h.1.2) (sO hi S h.2))
    · exact Bool.noConfusion h
  | .tup es, X, W, Γ, e, S, h => by
    unfold mE at h
    split at h
    · exact both rfl (r_tup (sEs es S h))
    · exact Bool.noConfusion h
  | .lst es, X, W, Γ, e, S, h => by
    unfold mE at h
    split at h
    · exact both rfl (r_lst (sEs es S h))
    · exact Bool.noConfusion h
  | .gin neg k a, X, W, Γ, e, S, h => by
    unfold mE at h
    split at h
    · simp only [Bool.and_eq_true] at h
      exact gin_both S h.1.1.1.1 h.1.1.2 h.1.2 h.2 (sE a S h.1.1.1.2).1
    · exact Bool.noConfusion h
  | .gget k a, X, W, Γ, e, S, h => by
    unfold mE at h
    split at h
    · simp only [Bool.and_eq_true] at h
      exact both rfl (r_gget S h.1.1.2 h.1.2 h.2 (mE_odd h.1.1.1) (sE a S h.1.1.1).1)
    · exact Bool.noConfusion h
  | .call f es, X, W, Γ, e, S, h => by
    unfold mE at h
    split at h
    · simp only [Bool.and_eq_true] at h
      exact both rfl (r_call S h.1.1.1 h.1.1.2 h.1.2 h.2 (sEs es S h.2))
    · exact Bool.noConfusion h
  | .lrng1 b, X, W, Γ, e, S, h => by
    unfold mE at h
    split at h
    · simp only [Bool.and_eq_true, decide_eq_true_eq] at h
      obtain ⟨⟨⟨⟨e1, h1⟩, e2⟩, h2⟩, hb⟩ := h
      subst e1
      subst e2
      exact both rfl (r_lrng1 S h1 h2 (mE_odd hb) (sE b S hb).1)
    · exact Bool.noConfusion h
  | .lrng2 a b, X, W, Γ, e, S, h => by
    unfold mE at h
    split at h
    · simp only [Bool.and_eq_true, decide_eq_true_eq] at h
      obtain ⟨⟨⟨⟨⟨e1, h1⟩, e2⟩, h2⟩, ha⟩, hb⟩ := h
      subst e1
      subst e2
      exact both rfl (r_lrng2 S h1 h2 (mE_odd ha) (mE_odd hb) (sE a S ha).1 (sE b S hb).1)
    · exact Bool.noConfusion h
  | .nope, X, W, Γ, e, S, h => by
    unfold mE at h
    split at h
    · refine both rfl ⟨fun pins s σ H Q I q => ?_⟩
      unfold rdE at q
      unfold evE at q
      obtain ⟨ρ, h, e, rs, rh, p⟩ := q
      exact p.elim
    · exact Bool.noConfusion h
  | .calld f k es, X, W, Γ, e, S, h => by
    unfold mE at h
    split at h
    · simp only [Bool.and_eq_true] at h
      exact both rfl (r_calld S h.1.1.1 h.1.1.2 h.1.2 h.2 (sEs es S h.2))
    · exact Bool.noConfusion h
  | .bi b es, X, W, Γ, e, S, h => by
    unfold mE at h
    split at h
    · simp only [Bool.and_eq_true] at h
      exact both rfl (r_bi S (of_decide_eq_true h.1.1) h.1.2 h.2 (sEs es S h.2))
    · exact Bool.noConfusion h
  | .isin ts a, X, W, Γ, e, S, h => by
    unfold mE at h
    split at h
    · simp only [Bool.and_eq_true] at h
      exact both rfl (r_isin S (of_decide_eq_true h.1.1.1) h.1.1.2 (mE_odd h.1.2) h.2 (sE a S h.1.2).1)
    · exact Bool.noConfusion h
  | .mth m o es, X, W, Γ, e, S, h => by
    unfold mE at h
    split at h
    · simp only [Bool.and_eq_true] at h
      exact both rfl (r_mth S (of_decide_eq_true h.1.1.1.1.1) h.1.1.1.1.2 (of_decide_eq_true h.1.1.1.2) h.2 (superOf h.1.1.2) (sE o S h.1.2).1 (sEs es S h.2))
    · exact Bool.noConfusion h
  | .comp elt tg it cond own, X, W, Γ, e, S, h => by
    unfold mE at h
    split at h
    · simp only [Bool.and_eq_true] at h
      exact both rfl (comp_pe S h.1.1.1.1.1 (sI it S h.1.1.1.2) (fun s H C cl fp => sTo tg (S.blk s H _ C cl fp) h.1.1.2 h.1.1.1.1.2) (fun s H C cl fp => sC cond (S.blk s H _ C cl fp) h.1.2) (fun s H C cl fp => (sE elt (S.blk s H _ C cl fp) h.2).1) (mI_odd h.1.1.1.2))
    · exact Bool.noConfusion h
theorem sEs : ∀ (cs : IEs) {X : Cx} {W : WX} {Γ : Ct} {es : List Expr}, Sur G n X W Γ → mEs G Γ cs es = true → PA X es (rdEs G n X.K W cs)
  | .nil, X, W, Γ, es, S, h => by
    unfold mEs at h
    split at h
    · exact a_nil
    · exact Bool.noConfusion h
  | .cons a r, X, W, Γ, es, S, h => by
    unfold mEs at h
    split at h
    · simp only [Bool.and_eq_true] at h
      exact a_cons (mE_odd h.1) (sE a S h.1).1 (sEs r S h.2)
    · exact Bool.noConfusion h
theorem sO : ∀ (c : IO) {X : Cx} {W : WX} {Γ : Ct} {e : Option Expr}, Sur G n X W Γ → mO G Γ c e = true → PO X e (rdO G n X.K W c)
  | .none, X, W, Γ, e, S, h => by
    unfold mO at h
    split at h
    · exact o_none
    · exact Bool.noConfusion h
  | .some a, X, W, Γ, e, S, h => by
    unfold mO at h
    split at h
    · exact o_some (sE a S h).1
    · exact Bool.noConfusion h
theorem sC : ∀ (c : IO) {X : Cx} {W : WX} {Γ : Ct} {es : List Expr}, Sur G n X W Γ → mC G Γ c es = true → PTs X es (rdC G n X.K W c)
  | .none, X, W, Γ, e, S, h => by
    unfold mC at h
    split at h
    · exact c_none
    · exact Bool.noConfusion h
  | .some a, X, W, Γ, e, S, h => by
    unfold mC at h
    split at h
    · exact c_some (sE a S h).2
    · exact Bool.noConfusion h
theorem sI : ∀ (it : II) {X : Cx} {W : WX} {Γ : Ct} {t e : Expr}, Sur G n X W Γ → mI G Γ it t e = true → PI X t e (rdI G n X.K W it)
  | .seq a, X, W, Γ, t, e, S, h => by
    unfold mI at h
    exact i_seq (sE a S h).1
  | .rng1 a, X, W, Γ, t, e, S, h => by
    unfold mI at h
    split at h
    · simp only [Bool.and_eq_true] at h
      obtain rfl := of_decide_eq_true h.1.1
      exact i_rng1 S h.1.2 (mE_odd h.2) (sE a S h.2).1
    · exact Bool.noConfusion h
  | .rng2 a b, X, W, Γ, t, e, S, h => by
    unfold mI at h
    split at h
    · simp only [Bool.and_eq_true] at h
      obtain rfl := of_decide_eq_true h.1.1.1
      exact i_rng2 S h.1.1.2 (mE_odd h.1.2) (mE_odd h.2) (sE a S h.1.2).1 (sE b S h.2).1
    · exact Bool.noConfusion h
  | .enum a, X, W, Γ, t, e, S, h => by
    unfold mI at h
    split at h
    · simp only [Bool.and_eq_true] at h
      obtain rfl := of_decide_eq_true h.1.1.1
      obtain ⟨es, k, p, rfl⟩ := tupOf h.1.2
      exact i_enum S h.1.1.2 (mE_odd h.2) (sE a S h.2).1
    · exact Bool.noConfusion h
  | .zip a b, X, W, Γ, t, e, S, h => by
    unfold mI at h
    split at h
    · simp only [Bool.and_eq_true] at h
      obtain rfl := of_decide_eq_true h.1.1.1.1
      obtain ⟨es, k, p, rfl⟩ := tupOf h.1.1.2
      exact i_zip S h.1.1.1.2 (mE_odd h.1.2) (mE_odd h.2) (sE a S h.1.2).1 (sE b S h.2).1
    · exact Bool.noConfusion h
theorem sT : ∀ (t : Tg) {X : Cx} {W : WX} {Γ : Ct} {e : Expr}, Sur G n X W Γ → mT G Γ t e = true → PG X e (rdT G n X.K t)
  | .name i, X, W, Γ, e, S, h => by
    unfold mT at h
    split at h
    · simp only [Bool.and_eq_true] at h
      exact g_name S (of_decide_eq_true h.1) h.2
    · exact Bool.noConfusion h
  | .tup ts, X, W, Γ, e, S, h => by
    unfold mT at h
    split at h
    · exact g_tup S.calm (sTs ts S h) (tgs_len h) (asg_all h X.env).1 (asg_all h X.env).2
    · exact Bool.noConfusion h
  | .sub o i, X, W, Γ, e, S, h => by
    unfold mT at h
    split at h
    · simp only [Bool.and_eq_true] at h
      exact g_sub (mE_odd h.2) (sE o S h.1).1 (sE i S h.2).1
    · exact Bool.noConfusion h
theorem sTs : ∀ (ts : Tgs) {X : Cx} {W : WX} {Γ : Ct} {es : List Expr}, Sur G n X W Γ → mTs G Γ ts es = true → PGs X es (rdTs G n X.K ts)
  | .nil, X, W, Γ, es, S, h => by
    unfold mTs at h
    split at h
    · exact gs_nil
    · exact Bool.noConfusion h
  | .cons t ts, X, W, Γ, es, S, h => by
    unfold mTs at h
    split at h
    · simp only [Bool.and_eq_true] at h
      exact gs_cons (sT t S h.1) (sTs ts S h.2) (by rw [asg_plain h.1]; rfl)
    · exact Bool.noConfusion h
theorem sTo : ∀ (t : Tg) {X : Cx} {W : WX} {Γ : Ct} {e : Expr} {own : List Nat}, Sur G n X W Γ → mT G Γ t e = true → tgOwn own t = true → PG X e (rdTo G n X.K own t)
  | .name i, X, W, Γ, e, own, S, h, ho => by
    unfold mT at h
    split at h
    · simp only [Bool.and_eq_true] at h
      unfold tgOwn at ho
      exact go_name S (of_decide_eq_true h.1) h.2 (by simpa using ho)
    · exact Bool.noConfusion h
  | .tup ts, X, W, Γ, e, own, S, h, ho => by
    unfold mT at h
    split at h
    · unfold tgOwn at ho
      exact go_tup S.calm (sTso ts S h ho) (tgs_len h) (asg_all h X.env).1 (asg_all h X.env).2
    · exact Bool.noConfusion h
  | .sub o i, X, W, Γ, e, own, S, h, ho => by
    unfold tgOwn at ho
    exact Bool.noConfusion ho
theorem sTso : ∀ (ts : Tgs) {X : Cx} {W : WX} {Γ : Ct} {es : List Expr} {own : List Nat}, Sur G n X W Γ → mTs G Γ ts es = true → tgsOwn own ts = true → PGs X es (rdTso G n X.K own ts)
  | .nil, X, W, Γ, es, own, S, h, ho => by
    unfold mTs at h
    split at h
    · exact gso_nil
    · exact Bool.noConfusion h
  | .cons t ts, X, W, Γ, es, own, S, h, ho => by
    unfold mTs at h
    split at h
    · simp only [Bool.and_eq_true] at h
      unfold tgsOwn at ho
      simp only [Bool.and_eq_true] at ho
      exact gso_cons (sTo t S h.1 ho.1) (sTso ts S h.2 ho.2) (by rw [asg_plain h.1]; rfl)
    · exact Bool.noConfusion h
end
end
end M
namespace M
open PySem L2 PyProof.Rows
def PostS (K : PySem.W.Frag) (ρ : List Addr) (H : Hp) (r : SR) (D : Ends) (W : WX) : Prop :=
  match r with
  | .next e h => ∀ ρ' H' σ', Ext ρ H ρ' H' → RelH K ρ' h H' → RelS K ρ' H' e σ' → D.nx σ' H'
  | .ret v h => ∀ ρ' H' x, Ext ρ H ρ' H' → RelH K ρ' h H' → RelM K ρ' H' v x → D.rt x H'
  | .brk e h => ∀ ρ' H' σ', Ext ρ H ρ' H' → RelH K ρ' h H' → RelS K ρ' H' e σ' → D.bk σ' H'
  | .cont e h => ∀ ρ' H' σ', Ext ρ H ρ' H' → RelH K ρ' h H' → RelS K ρ' H' e σ' → D.ct σ' H'
  | .ex x e h => ∀ ρ' H' σ' cls d, Ext ρ H ρ' H' → RelH K ρ' h H' → RelS K ρ' H' e σ' → RelX K ρ' H' x cls d → W cls d σ' H'
  | .bad => False
theorem PostS.ext {K : PySem.W.Frag} {ρ ρ1 : List Addr} {H H1 : Hp} {r : SR} {D : Ends} {W : WX} (x : Ext ρ H ρ1 H1) (p : PostS K ρ H r D W) : PostS K ρ1 H1 r D W := by
  cases r with
  | next e h => exact fun ρ' H' σ' x' => p ρ' H' σ' (x.trans x')
  | ret v h => exact fun ρ' H' σ' x' => p ρ' H' σ' (x.trans x')
  | brk e h => exact fun ρ' H' σ' x' => p ρ' H' σ' (x.trans x')
  | cont e h => exact fun ρ' H' σ' x' => p ρ' H' σ' (x.trans x')
  | ex y e h => exact fun ρ' H' σ' c d x' => p ρ' H' σ' c d (x.trans x')
  | bad => exact p
def rdS (G : MG) (n : Nat) (K : PySem.W.Frag) (W : WX) (c : IS) : TS := fun D σ H => ∃ ρ h e, RelS K ρ H e σ ∧ RelH K ρ h H ∧ PostS K ρ H (evS G (callF G n) c e h) D W
def rdSs (G : MG) (n : Nat) (K : PySem.W.Frag) (W : WX) (c : ISs) : TS := fun D σ H => ∃ ρ h e, RelS K ρ H e σ ∧ RelH K ρ h H ∧ PostS K ρ H (evSs G (callF G n) c e h) D W
theorem PS.imp {X : Cx} {s : Stmt} {t u : TS} (h : PS X s t) (f : ∀ D σ H, u D σ H → t D σ H) : PS X s u := ⟨fun pins s σ H D I q => h.run pins s σ H D I (f D σ H q)⟩
theorem PSs.imp {X : Cx} {s : List Stmt} {t u : TS} (h : PSs X s t) (f : ∀ D σ H, u D σ H → t D σ H) : PSs X s u := ⟨fun pins s σ H D I q => h.run pins s σ H D I (f D σ H q)⟩
section
variable {G : MG} {n : Nat} {X : Cx} {W : WX} {Γ : Ct}
theorem in_stmt {a : IE} {ρ : List Addr} {h : MH} {e : MEnv} {σ : L2.St} {H : Hp} {Q : VK} (rs : RelS X.K ρ H e σ) (rh : RelH X.K ρ h H) {D : Ends} {r : SR} (p : PostS X.K ρ H r D W)
    (hx : ∀ x h1, evE G (callF G n) a e h = .ex x h1 → r = .ex x e h1) (hb : evE G (callF G n) a e h = .bad → r = .bad)
    (hk : ∀ v h1, evE G (callF G n) a e h = .ok v h1 → ∀ ρ1 H1 x, Ext ρ H ρ1 H1 → RelH X.K ρ1 h1 H1 → RelM X.K ρ1 H1 v x → Q x H1) : rdE G n X.K W a σ H Q := by
  refine ⟨ρ, h, e, rs, rh, ?_⟩
  cases he : evE G (callF G n) a e h with
  | ok v h1 => exact fun ρ1 H1 x x1 rh1 rv => hk v h1 he ρ1 H1 x x1 rh1 rv
  | ex x h1 =>
    rw [hx x h1 he] at p
    exact fun ρ1 H1 cls d x1 rh1 rx => p ρ1 H1 σ cls d x1 rh1 (rs.mono x1) rx
  | bad => rw [hb he] at p; exact p.elim
theorem swapNone {t e : Expr} (ht : ∀ ts p, ¬ (t = .List ts p)) (h : ¬ (isTupE t = true ∧ isTupE e = true)) (env : Env) : swappedStores [t] e env = pure none := by
  cases t with
  | Tuple ts k p =>
    cases e with
    | Tuple es k2 p2 => exact absurd ⟨rfl, rfl⟩ h
    | _ => rfl
  | List ts p => exact absurd rfl (ht ts p)
  | _ => cases e <;> rfl
theorem s_asg (S : Sur G n X W Γ) {t : Tg} {a : IE} {t' e : Expr} {pos : Pos} (hT : mT G Γ t t' = true) (hg : PG X t' (rdT G n X.K t)) (he : PE X e (rdE G n X.K W a)) (hs : swapsWithSole [t'] e pos.line X.env = pure false) (hn : ¬ (isTupE t' = true ∧ isTupE e = true)) :
    PS X (.Assign [t'] e pos) (rdS G n X.K W (.asg t a)) := by
  refine PS.imp (ps_asg he hg hs (swapNone (fun ts p z => by subst z; cases t <;> exact Bool.noConfusion hT) hn X.env) (by rw [asg_plain hT]; rfl)) fun D σ H q => ?_
  obtain ⟨ρ, h, e, rs, rh, p⟩ := q
  refine in_stmt rs rh p (fun x h1 z => by rw [evS, z]) (fun z => by rw [evS, z]) fun v h1 z ρ1 H1 x x1 rh1 rv => ?_
  rw [evS, z] at p
  refine ⟨ρ1, h1, e, v, rs.mono x1, rh1, rv, ?_⟩
  dsimp only at p
  cases ha : asT G (callF G n) t v e h1 with
  | ok e2 h2 => rw [ha] at p; exact fun ρ2 H2 σ2 x2 rh2 rs2 => p ρ2 H2 σ2 (x1.trans x2) rh2 rs2
  | ex x h2 => rw [ha] at p; exact p.elim
  | bad => rw [ha] at p; exact p.elim
theorem s_expr {a : IE} {e : Expr} {pos : Pos} (he : PE X e (rdE G n X.K W a)) (hs : swapsWith e none pos.line X.env = pure false) : PS X (.Expr e pos) (rdS G n X.K W (.expr a)) := by
  refine PS.imp (ps_expr he hs) fun D σ H q => ?_
  obtain ⟨ρ, h, e, rs, rh, p⟩ := q
  refine in_stmt rs rh p (fun x h1 z => by rw [evS, z]) (fun z => by rw [evS, z]) fun v h1 z ρ1 H1 x x1 rh1 rv => ?_
  rw [evS, z] at p
  exact p ρ1 H1 σ x1 rh1 (rs.mono x1)
theorem s_ret {a : IE} {e : Expr} {pos : Pos} (he : PE X e (rdE G n X.K W a)) : PS X (.Return (some e) pos) (rdS G n X.K W (.ret a)) := by
  refine PS.imp (ps_ret he) fun D σ H q => ?_
  obtain ⟨ρ, h, e, rs, rh, p⟩ := q
  refine in_stmt rs rh p (fun x h1 z => by rw [evS, z]) (fun z => by rw [evS, z]) fun v h1 z ρ1 H1 x x1 rh1 rv => ?_
  rw [evS, z] at p
  exact p ρ1 H1 x x1 rh1 rv
theorem s_retN {pos : Pos} : PS X (.Return none pos) (rdS G n X.K W (.ret .non)) := by
  refine PS.imp ps_retN fun D σ H q => ?_
  obtain ⟨ρ, h, e, rs, rh, p⟩ := q
  exact p ρ H .non (Ext.refl _ _) rh .non
theorem in_test {c : IE} {ρ : List Addr} {h : MH} {e : MEnv} {σ : L2.St} {H : Hp} {Q : Bool → Hp → Prop} (rs : RelS X.K ρ H e σ) (rh : RelH X.K ρ h H) {D : Ends} {r : SR} (p : PostS X.K ρ H r D W)
    (hx : ∀ x h1, evE G (callF G n) c e h = .ex x h1 → r = .ex x e h1) (hb : (∀ b h1, evE G (callF G n) c e h ≠ .ok (.bl b) h1) → (∀ x h1, evE G (callF G n) c e h ≠ .ex x h1) → r = .bad)
    (hk : ∀ b h1, evE G (callF G n) c e h = .ok (.bl b) h1 → ∀ ρ1 H1, Ext ρ H ρ1 H1 → RelH X.K ρ1 h1 H1 → Q b H1) : rdB G n X.K W c σ H Q := by
  refine ⟨ρ, h, e, rs, rh, ?_⟩
  cases he : evE G (callF G n) c e h with
  | ok v h1 =>
    cases v with
    | bl b => exact fun ρ1 H1 b' x1 rh1 hb' => by subst hb'; exact hk b h1 he ρ1 H1 x1 rh1
    | _ =>
      rw [hb (fun b h2 z => by rw [he] at z; cases z) (fun x h2 z => by rw [he] at z; cases z)] at p
      exact p.elim
  | ex x h1 =>
    rw [hx x h1 he] at p
    exact fun ρ1 H1 cls d x1 rh1 rx => p ρ1 H1 σ cls d x1 rh1 (rs.mono x1) rx
  | bad =>
    rw [hb (fun b h2 z => by rw [he] at z; cases z) (fun x h2 z => by rw [he] at z; cases z)] at p
    exact p.elim
theorem s_if {c : IE} {a b : ISs} {c' : Expr} {a' b' : List Stmt} {pos : Pos} (hc : PT X c' (rdB G n X.K W c)) (ha : PSs X a' (rdSs G n X.K W a)) (hb : PSs X b' (rdSs G n X.K W b)) : PS X (.If c' a' b' pos) (rdS G n X.K W (.ife c a b)) := by
  refine PS.imp (ps_if hc ha hb) fun D σ H q => ?_
  obtain ⟨ρ, h, e, rs, rh, p⟩ := q
  refine in_test rs rh p (fun x h1 z => by rw [evS, z]) (fun n1 n2 => ?_) fun k h1 z ρ1 H1 x1 rh1 => ?_
  · rw [evS]
    cases he : evE G (callF G n) c e h with
    | ok v h1 =>
      cases v with
      | bl k => exact absurd he (n1 k h1)
      | _ => rfl
    | ex x h1 => exact absurd he (n2 x h1)
    | bad => rfl
  · rw [evS, z] at p
    cases k with
    | true => exact iteT ⟨ρ1, h1, e, rs.mono x1, rh1, PostS.ext x1 p⟩
    | false => exact iteF ⟨ρ1, h1, e, rs.mono x1, rh1, PostS.ext x1 p⟩
theorem ss_nil : PSs X [] (rdSs G n X.K W .nil) := by
  refine PSs.imp pss_nil fun D σ H q => ?_
  obtain ⟨ρ, h, e, rs, rh, p⟩ := q
  exact p ρ H σ (Ext.refl _ _) rh rs
theorem ss_cons {s : IS} {r : ISs} {s' : Stmt} {r' : List Stmt} (h1 : PS X s' (rdS G n X.K W s)) (h2 : PSs X r' (rdSs G n X.K W r)) : PSs X (s' :: r') (rdSs G n X.K W (.cons s r)) := by
  refine PSs.imp (pss_cons h1 h2) fun D σ H q => ?_
  obtain ⟨ρ, h, e, rs, rh, p⟩ := q
  rw [evSs] at p
  refine ⟨ρ, h, e, rs, rh, ?_⟩
  cases hs : evS G (callF G n) s e h with
  | next e1 h1 => rw [hs] at p; exact fun ρ1 H1 σ1 x1 rh1 rs1 => ⟨ρ1, h1, e1, rs1, rh1, PostS.ext x1 p⟩
  | ret v h1 => rw [hs] at p; exact p
  | brk e1 h1 => rw [hs] at p; exact p
  | cont e1 h1 => rw [hs] at p; exact p
  | ex x e1 h1 => rw [hs] at p; exact p
  | bad => rw [hs] at p; exact p
theorem s_while (S : Sur G n X W Γ) {c : IE} {b : ISs} {c' : Expr} {b' : List Stmt} {pos : Pos} (hc : PT X c' (rdB G n X.K W c)) (hb : PSs X b' (rdSs G n X.K W b)) : PS X (.While c' b' [] pos) (rdS G n X.K W (.whl c b)) := by
  refine PS.imp (ps_while S.own hc hb) fun D σ H q => ?_
  obtain ⟨ρ, h, e, rs, rh, p⟩ := q
  rw [evS] at p
  refine ⟨fun m σ1 H1 => ∃ ρ1 h1 e1, RelS X.K ρ1 H1 e1 σ1 ∧ RelH X.K ρ1 h1 H1 ∧ PostS X.K ρ1 H1 (whileLoop (evE G (callF G n) c) (evSs G (callF G n) b) m e1 h1) D W, ⟨_, ρ, h, e, rs, rh, p⟩, ?_⟩
  rintro m σ1 H1 ⟨ρ1, h1, e1, rs1, rh1, p1⟩
  cases m with
  | zero => exact p1.elim
  | succ m =>
    refine in_test rs1 rh1 p1 (fun x h2 z => by rw [whileLoop, z]) (fun n1 n2 => ?_) fun k h2 z ρ2 H2 x2 rh2 => ?_
    · rw [whileLoop]
      cases he : evE G (callF G n) c e1 h1 with
      | ok v h1 =>
        cases v with
        | bl k => exact absurd he (n1 k h1)
        | _ => rfl
      | ex x h1 => exact absurd he (n2 x h1)
      | bad => rfl
    · rw [whileLoop, z] at p1
      cases k with
      | false => exact iteF (p1 ρ2 H2 σ1 x2 rh2 (rs1.mono x2))
      | true =>
        refine iteT ⟨fun σ3 H3 => ∃ ρ3 h3 e3, RelS X.K ρ3 H3 e3 σ3 ∧ RelH X.K ρ3 h3 H3 ∧ PostS X.K ρ3 H3 (whileLoop (evE G (callF G n) c) (evSs G (callF G n) b) m e3 h3) D W, fun σ3 H3 q => ⟨m, Nat.lt_succ_self m, q⟩, ρ2, h2, e1, rs1.mono x2, rh2, ?_⟩
        have p2 := PostS.ext x2 p1
        dsimp only at p2
        cases hs : evSs G (callF G n) b e1 h2 with
        | next e3 h3 => rw [hs] at p2; exact fun ρ3 H3 σ3 x3 rh3 rs3 => ⟨ρ3, h3, e3, rs3, rh3, PostS.ext x3 p2⟩
        | cont e3 h3 => rw [hs] at p2; exact fun ρ3 H3 σ3 x3 rh3 rs3 => ⟨ρ3, h3, e3, rs3, rh3, PostS.ext x3 p2⟩
        | ret v h3 => rw [hs] at p2; exact p2
        | brk e3 h3 => rw [hs] at p2; exact p2
        | ex x e3 h3 => rw [hs] at p2; exact p2
        | bad => rw [hs] at p2; exact p2
theorem s_for (S : Sur G n X W Γ) {t : Tg} {it : II} {b : ISs} {t' it' : Expr} {b' : List Stmt} {pos : Pos} (hi : PI X t' it' (rdI G n X.K W it)) (hg : PG X t' (rdT G n X.K t)) (hb : PSs X b' (rdSs G n X.K W b)) (ho : odd it' = false) : PS X (.For t' it' b' [] pos) (rdS G n X.K W (.forr t it b)) := by
  refine PS.imp (ps_for S.own S.calm hi hg hb (noFold ho X.env)) fun D σ H q => ?_
  obtain ⟨ρ, h, e, rs, rh, p⟩ := q
  rw [evS] at p
  refine ⟨ρ, h, e, rs, rh, ?_⟩
  cases he : evI G (callF G n) it e h with
  | bad => rw [he] at p; exact p.elim
  | ex x h1 => rw [he] at p; exact fun ρ1 H1 cls d x1 rh1 rx => p ρ1 H1 σ cls d x1 rh1 (rs.mono x1) rx
  | ok J h1 =>
    rw [he] at p
    intro ρ1 H1 J' x1 rh1 hJ
    refine ⟨fun i m σ2 H2 => ∃ ρ2 h2 e2, Ext ρ1 H1 ρ2 H2 ∧ RelS X.K ρ2 H2 e2 σ2 ∧ RelH X.K ρ2 h2 H2 ∧ PostS X.K ρ2 H2 (forLoop J.nx (asT G (callF G n) t) (evSs G (callF G n) b) m i e2 h2) D W, ⟨J.n, ρ1, h1, e, Ext.refl _ _, rs.mono x1, rh1, PostS.ext x1 p⟩, ?_⟩
    rintro i m σ2 H2 ⟨ρ2, h2, e2, x2, rs2, rh2, p2⟩
    obtain ⟨hstop, hgo⟩ := hJ i ρ2 h2 H2 x2 rh2
    cases m with
    | zero =>
      unfold forLoop at p2
      split at p2
      · rename_i z
        exact .inl ⟨hstop z, p2 ρ2 H2 σ2 (Ext.refl _ _) rh2 rs2⟩
      · exact p2.elim
    | succ m =>
      unfold forLoop at p2
      split at p2
      · rename_i z
        exact .inl ⟨hstop z, p2 ρ2 H2 σ2 (Ext.refl _ _) rh2 rs2⟩
      · rename_i v z
        obtain ⟨g1, g2⟩ := hgo v z
        refine .inr ⟨g1, fun σ3 H3 => ∃ ρ3 h3 e3, Ext ρ1 H1 ρ3 H3 ∧ RelS X.K ρ3 H3 e3 σ3 ∧ RelH X.K ρ3 h3 H3 ∧ PostS X.K ρ3 H3 (forLoop J.nx (asT G (callF G n) t) (evSs G (callF G n) b) m (i + 1) e3 h3) D W, fun σ3 H3 q => ⟨m, Nat.lt_succ_self m, q⟩, fun x H3 yl => ?_⟩
        obtain ⟨rh3, x3, rv⟩ := g2 x H3 yl
        refine ⟨ρ2, h2, e2, v, rs2.mono x3, rh3, rv, ?_⟩
        have x23 := x2.trans x3
        cases ha : asT G (callF G n) t v e2 h2 with
        | bad => rw [ha] at p2; exact p2.elim
        | ex x h3 => rw [ha] at p2; exact p2.elim
        | ok e3 h3 =>
          rw [ha] at p2
          intro ρ4 H4 σ4 x4 rh4 rs4
          have x04 := x23.trans x4
          refine ⟨ρ4, h3, e3, rs4, rh4, ?_⟩
          have p4 := PostS.ext (x3.trans x4) p2
          dsimp only at p4
          cases hs : evSs G (callF G n) b e3 h3 with
          | next e5 h5 => rw [hs] at p4; exact fun ρ5 H5 σ5 x5 rh5 rs5 => ⟨ρ5, h5, e5, x04.trans x5, rs5, rh5, PostS.ext x5 p4⟩
          | cont e5 h5 => rw [hs] at p4; exact fun ρ5 H5 σ5 x5 rh5 rs5 => ⟨ρ5, h5, e5, x04.trans x5, rs5, rh5, PostS.ext x5 p4⟩
          | ret v h3 => rw [hs] at p4; exact p4
          | brk e3 h3 => rw [hs] at p4; exact p4
          | ex x e3 h3 => rw [hs] at p4; exact p4
          | bad => rw [hs] at p4; exact p4
      · exact p2.elim
theorem s_comp (S : Sur G n X W Γ) {elt : IE} {tg : Tg} {it : II} {cond : IO} {own : List Nat} {i : Nat} {y : Str} {py pos : Pos} {e : Expr} (hN : Γ.N[i]? = some y)
    (hq : PS X (.Assign [.Name y py] e pos) (tAsg (tLc (rdI G n X.K W it) (rdTo G n X.K own tg) (rdC G n X.K W0 cond) (rdE G n X.K W0 elt) own) (gName i))) : PS X (.Assign [.Name y py] e pos) (rdS G n X.K W (.asg (.name i) (.comp elt tg it cond own))) := by
  refine PS.imp hq fun D σ H q => ?_
  obtain ⟨ρ, h, e, rs, rh, p⟩ := q
  refine comp_rd (in_stmt rs rh p (fun x h1 z => by rw [evS, z]) (fun z => by rw [evS, z]) fun v h1 z ρ1 H1 x x1 rh1 rv => ?_)
  rw [evS, z] at p
  dsimp only at p
  rw [asT] at p
  by_cases hi : i < List.length e
  · rw [if_pos (by simpa using hi)] at p
    exact p ρ1 H1 _ x1 rh1 ((rs.mono x1).set rv)
  · rw [if_neg (by simpa using hi)] at p
    exact p.elim
mutual
theorem sS : ∀ (c : IS) {X : Cx} {W : WX} {Γ : Ct} {s : Stmt}, Sur G n X W Γ → X.env.scope.kind = .function → mS G Γ c s = true → PS X s (rdS G n X.K W c)
  | .asg t a, X, W, Γ, s, S, hf, h => by
    unfold mS at h
    split at h
    · rename_i t' e pos
      simp only [Bool.and_eq_true, Bool.not_eq_true', Bool.and_eq_false_iff] at h
      obtain ⟨⟨hT, hE⟩, hn⟩ := h
      have hn2 : ¬ (isTupE t' = true ∧ isTupE e = true) := fun ⟨z1, z2⟩ => by
        rcases hn with q | q
        · rw [z1] at q; cases q
        · obtain ⟨es, k, p, rfl⟩ := tupOf z2
          rw [mE_tup hE] at q; cases q
      have gen : swapsWithSole [t'] e pos.line X.env = pure false → PS X (.Assign [t'] e pos) (rdS G n X.K W (.asg t a)) := fun hs => s_asg S hT (sT t S hT) (sE a S hE).1 hs hn2
      by_cases hc : isComp a = true
      · cases a <;> try exact Bool.noConfusion hc
        rename_i elt tg it cond own
        have hE0 := hE
        unfold mE at hE
        split at hE
        · rename_i elt' tg' iter' ifs' scope cpos
          cases t with
          | name i =>
            have hT0 := hT
            unfold mT at hT
            split at hT
            · rename_i y py
              simp only [Bool.and_eq_true] at hT hE
              obtain ⟨⟨⟨⟨⟨b1, b2⟩, b3⟩, b4⟩, b5⟩, b6⟩ := hE
              have hN := of_decide_eq_true hT.1
              have hval : swapsWith (.ListComp elt' [⟨tg', iter', ifs', 0⟩] scope cpos) (some (.Name y py)) pos.line X.env = pure (X.env.blockKind == .function && X.env.kindOf y == some .local && py.line == (Expr.ListComp elt' [⟨tg', iter', ifs', 0⟩] scope cpos).pos.line && !(scope.names.any fun (n, k) => n == y && (k == .local || k == .cell))) := rfl
              cases hb : (X.env.blockKind == .function && X.env.kindOf y == some .local && py.line == (Expr.ListComp elt' [⟨tg', iter', ifs', 0⟩] scope cpos).pos.line && !(scope.names.any fun (n, k) => n == y && (k == .local || k == .cell))) with
              | false => exact gen (by rw [swapsWithSole, hval, hb])
              | true =>
                have hl : Γ.sc.names.lookup y = some .local := by
                  simp only [Bool.and_eq_true, beq_iff_eq] at hb
                  have := hb.1.1.2
                  rw [← S.sc]
                  exact this
                exact s_comp S hN (comp_ps S b1 (sI it S b3) (fun s H C cl fp => sTo tg (S.blk s H _ C cl fp) b4 b2) (fun s H C cl fp => sC cond (S.blk s H _ C cl fp) b5) (fun s H C cl fp => (sE elt (S.blk s H _ C cl fp) b6).1) (mI_odd b3) hN hl (by rw [hval, hb]))
            · exact Bool.noConfusion hT
          | tup ts =>
            unfold mT at hT
            split at hT
            · exact gen rfl
            · exact Bool.noConfusion hT
          | sub o i =>
            unfold mT at hT
            split at hT
            · exact gen rfl
            · exact Bool.noConfusion hT
        · exact Bool.noConfusion hE
      · refine gen (noSwap (mE_odd hE) (fun a' c d f z => ?_) _ _ _)
        subst z
        exact hc (mE_listComp hE)
    · exact Bool.noConfusion h
  | .expr a, X, W, Γ, s, S, hf, h => by
    unfold mS at h
    split at h
    · simp only [Bool.and_eq_true, Bool.not_eq_true'] at h
      refine s_expr (sE a S h.1).1 (noSwap (mE_odd h.1) (fun a' c d f z => ?_) _ _ _)
      subst z
      rw [mE_listComp h.1] at h
      cases h.2
    · exact Bool.noConfusion h
  | .ret a, X, W, Γ, s, S, hf, h => by
    unfold mS at h
    split at h
    · exact s_ret (sE a S h).1
    · split at h
      · exact s_retN
      · exact Bool.noConfusion h
    · exact Bool.noConfusion h
  | .ife c a b, X, W, Γ, s, S, hf, h => by
    unfold mS at h
    split at h
    · simp only [Bool.and_eq_true] at h
      exact s_if (sE c S h.1.1).2 (sSs a S hf h.1.2) (sSs b S hf h.2)
    · exact Bool.noConfusion h
  | .whl c b, X, W, Γ, s, S, hf, h => by
    unfold mS at h
    split at h
    · simp only [Bool.and_eq_true] at h
      exact s_while S (sE c S h.1).2 (sSs b S hf h.2)
    · exact Bool.noConfusion h
  | .forr t it b, X, W, Γ, s, S, hf, h => by
    unfold mS at h
    split at h
    · simp only [Bool.and_eq_true] at h
      exact s_for S (sI it S h.1.2) (sT t S h.1.1) (sSs b S hf h.2) (mI_odd h.1.2)
    · exact Bool.noConfusion h
  | .brk, X, W, Γ, s, S, hf, h => by
    unfold mS at h
    split at h
    · exact PS.imp ps_break fun D σ H ⟨ρ, h, e, rs, rh, p⟩ => p ρ H σ (Ext.refl _ _) rh rs
    · exact Bool.noConfusion h
  | .cont, X, W, Γ, s, S, hf, h => by
    unfold mS at h
    split at h
    · exact PS.imp ps_continue fun D σ H ⟨ρ, h, e, rs, rh, p⟩ => p ρ H σ (Ext.refl _ _) rh rs
    · exact Bool.noConfusion h
  | .pass, X, W, Γ, s, S, hf, h => by
    unfold mS at h
    split at h
    · exact PS.imp ps_pass fun D σ H ⟨ρ, h, e, rs, rh, p⟩ => p ρ H σ (Ext.refl _ _) rh rs
    · exact Bool.noConfusion h
  | .never, X, W, Γ, s, S, hf, h => PS.imp ps_never fun D σ H ⟨ρ, h, e, rs, rh, p⟩ => p
theorem sSs : ∀ (c : ISs) {X : Cx} {W : WX} {Γ : Ct} {s : List Stmt}, Sur G n X W Γ → X.env.scope.kind = .function → mSs G Γ c s = true → PSs X s (rdSs G n X.K W c)
  | .nil, X, W, Γ, s, S, hf, h => by
    unfold mSs at h
    split at h
    · exact ss_nil
    · exact Bool.noConfusion h
  | .cons a r, X, W, Γ, s, S, hf, h => by
    unfold mSs at h
    split at h
    · simp only [Bool.and_eq_true] at h
      exact ss_cons (sS a S hf h.1) (sSs r S hf h.2)
    · exact Bool.noConfusion h
end
end
end M
namespace M
open PySem L2 PyProof.Rows
def BindsD (K : PySem.W.Frag) (fd : FuncData) (d : Fn) : Prop := Binds K fd d.ps [] ∧ ∀ (k : Nat) (ds : List MV), d.dfls[k]? = some ds → ∃ dvs us, Vals dvs us ∧ Binds K fd d.ps us ∧ ∀ ρ H, RelMs K ρ H ds dvs
theorem BindsD.none {K : PySem.W.Frag} {fd : FuncData} {d : Fn} (h : d.dfls = []) (b : Binds K fd d.ps []) : BindsD K fd d := ⟨b, fun k ds e => by rw [h] at e; simp at e⟩
theorem fund_mk {K : PySem.W.Frag} {x qual : Str} {st : Stmt} {f : Addr} {oc : Value} {od an : Option Addr} {osl : Array (Option Value)} {kV doc pm cdv ct : Value} (l : K.lookup f = some ⟨oc, od, .func (PySem.W.fnOf x qual (defArgs st) (defBody st) (defScope st) .none kV doc pm an cdv ct), osl⟩)
    (c : PySem.W.codeIn K cdv qual = true) (k : PySem.W.keepIn K (.ref f) = true) : ∃ dv kw, FunD K x qual (defArgs st) (defBody st) (defScope st) dv kw f (PySem.W.fnOf x qual (defArgs st) (defBody st) (defScope st) .none kV doc pm an cdv ct) :=
  ⟨[], [], ⟨⟨oc, od, .none, kV, doc, pm, an, cdv, ct, osl, rfl, l, c, .inl ⟨rfl, rfl⟩, .inl rfl⟩, k⟩⟩
theorem fund_mk1 {K : PySem.W.Frag} {x qual : Str} {st : Stmt} {f T : Addr} {o : Obj} {u : Value} {v : V} {n : Nat} {oc : Value} {od an : Option Addr} {osl : Array (Option Value)} {kV doc pm cdv ct : Value} (l : K.lookup f = some ⟨oc, od, .func (PySem.W.fnOf x qual (defArgs st) (defBody st) (defScope st) (.ref T) kV doc pm an cdv ct), osl⟩)
    (c : PySem.W.codeIn K cdv qual = true) (k : PySem.W.keepIn K (.ref f) = true) (lT : K.lookup T = some o) (oT : o.data = .seq #[u] n) (r : RelV v u) : FunD K x qual (defArgs st) (defBody st) (defScope st) [v] [] f (PySem.W.fnOf x qual (defArgs st) (defBody st) (defScope st) (.ref T) kV doc pm an cdv ct) :=
  ⟨⟨oc, od, .ref T, kV, doc, pm, an, cdv, ct, osl, rfl, l, c, .inr ⟨by simp, T, o, [u], n, rfl, lT, oT, .cons r .nil⟩, .inl rfl⟩, k⟩
theorem bindsD1 {K : PySem.W.Frag} {x qual : Str} {params : Arguments} {body : List Stmt} {scope : Scope} {v : V} {mv : MV} {f : Addr} {fd : FuncData} {ps : List Str} {d : Fn} {n : Nat} (F : FunD K x qual params body scope [v] [] f fd)
    (hps : d.ps = ps) (hd : d.dfls = [[mv]]) (hn : ps.length = n + 1) (hr : ∀ ρ H, RelMs K ρ H [mv] [v])
    (h1 : ∀ (T : Addr) (kV doc pm : Value) (an : Option Addr) (cdv ct : Value) (us its : List Value), us.length = n + 1 → its.length = 1 →
      ∃ k, bindArgs (PySem.W.fnOf x qual params body scope (.ref T) kV doc pm an cdv ct) ⟨us, []⟩ = seqItems? (.ref T) >>= k ∧ k (some its.toArray) = pure (ps.zip (us ++ its.drop 1)))
    (h2 : ∀ (T : Addr) (kV doc pm : Value) (an : Option Addr) (cdv ct : Value) (us its : List Value), us.length = n → its.length = 1 →
      ∃ k, bindArgs (PySem.W.fnOf x qual params body scope (.ref T) kV doc pm an cdv ct) ⟨us, []⟩ = seqItems? (.ref T) >>= k ∧ k (some its.toArray) = pure (ps.zip (us ++ its.drop 0))) : BindsD K fd d := by
  subst hps
  obtain ⟨ds1, v1, b1⟩ := F.binds1 (n + 1) 1 (by simp) (by rw [hn]; simp) h1
  obtain ⟨ds2, v2, b2⟩ := F.binds1 n 0 (by simp) (by rw [hn]; simp) h2
  refine ⟨?_, fun k ds e => ?_⟩
  · have : ds1 = [] := by cases v1; rfl
    rw [this] at b1
    exact b1
  · rw [hd] at e
    have : k = 0 ∧ ds = [mv] := by
      cases k with
      | zero => simp at e; exact ⟨rfl, e.symm⟩
      | succ k => simp at e
    obtain ⟨rfl, rfl⟩ := this
    exact ⟨[v], ds2, v2, b2, hr⟩
def FnsAt (G : MG) (K : PySem.W.Frag) (mg : Str → Option Value) (tb : List (Nat × Addr × FuncData)) : Prop := ∀ (f : Nat) (d : Fn), G.fns.lookup f = some d → ∃ a fd st, tb.lookup f = some (a, fd) ∧ (∃ dv kw, FunD K d.name d.name (defArgs st) (defBody st) (defScope st) dv kw a fd) ∧ FnScope d.N d.ps (defScope st) ∧ mSs G ⟨d.N, defScope st, true⟩ d.body (defBody st) = true ∧ mg d.name = some (.ref a) ∧ PySem.W.keepIn K (.ref a) = true ∧ BindsD K fd d
def ConstsAt (G : MG) (K : PySem.W.Frag) (mg : Str → Option Value) : Prop := ∀ (k : Nat) (x : Str) (v : MV), G.consts.lookup k = some (x, v) → ∃ u w, mg x = some u ∧ RelV w u ∧ ∀ ρ H, RelM K ρ H v w
def DictsAt (G : MG) (w : World) (K : PySem.W.Frag) (mg : Str → Option Value) : Prop := ∀ (k : Nat) (x : Str) (kvs : List (Str × MV)), G.dicts.lookup k = some (x, kvs) → ∃ d es m, mg x = some (.ref d) ∧ KDict K w d es m ∧
  ∀ z, (kvs.lookup z = none → PySem.W.nsIn K d z = some none) ∧ ∀ v, kvs.lookup z = some v → ∃ u w, PySem.W.nsIn K d z = some (some u) ∧ RelV w u ∧ ∀ ρ H, RelM K ρ H v w
theorem fns_ok {G : MG} {P : Program} {w : World} {K : PySem.W.Frag} {mg : Str → Option Value} {base : Heap} {tb : List (Nat × Addr × FuncData)} (hF : FnsAt G K mg tb) (hC : ConstsAt G K mg) (hD : DictsAt G w K mg) (hB : ∀ x ∈ bltNames, mg x = none) :
    ∀ (n f : Nat) (d : Fn), G.fns.lookup f = some d → ∃ a fd, tb.lookup f = some (a, fd) ∧ FnOk P w K mg base (L2.CX P w) n a fd d.ps (spM G K n f d.ps.length) ∧ mg d.name = some (.ref a) ∧ PySem.W.keepIn K (.ref a) = true ∧ BindsD K fd d
  | 0, f, d, hd => by
    obtain ⟨a, fd, st, ht, F, S, hm, h1, h2, h3⟩ := hF f d hd
    have no : ∀ vs H Q E, ¬ spM G K 0 f d.ps.length vs H Q E := fun vs H Q E ⟨_, ρ, h, xs, _, _, p⟩ => p
    exact ⟨a, fd, ht, ⟨fun vs H Q E h => absurd h (no vs H Q E), fun A outer s H args us vs Q E _ _ _ _ h => absurd h (no vs H Q E)⟩, h1, h2, h3⟩
  | n + 1, f, d, hd => by
    obtain ⟨a, fd, st, ht, F, S, hm, h1, h2, h3⟩ := hF f d hd
    obtain ⟨dv, kw, F⟩ := F
    refine ⟨a, fd, ht, F.ok (CX := L2.CX P w) S (fun vs H Q E h => h.1) (fun cdv A outer s H vs Q E hr h => ?_), h1, h2, h3⟩
    obtain ⟨hl, ρ, h, xs, rh, rs, p⟩ := h
    have sur : Sur G n (cxOf (L2.CX P w) P w K mg base d.N d.name (defScope st) a cdv A outer s H E) (fun cls dd _ H => E cls dd H) ⟨d.N, defScope st, true⟩ :=
      { N := rfl, sc := rfl, nd := S.nd, calm := rfl, room := hr, fn := fun _ _ => rfl
        pas := fun σ pins H s e s' I c => passes_call (takes_of rfl rfl rfl rfl) (fun _ _ _ _ h => h) pins σ H s e s' I c
        own := passes_of rfl, blt := hB, fns := fun f d e => let ⟨a, fd, _, q⟩ := fns_ok hF hC hD hB n f d e; ⟨a, fd, q⟩, consts := hC, dicts := hD }
    refine ⟨_, sSs d.body sur S.kind hm, ρ, h, startM d.N xs, RelS.start rs d.N, rh, ?_⟩
    unfold callF at p
    rw [hd] at p
    dsimp only at p
    rw [if_pos (by rw [rs.len, hl])] at p
    cases hv : evSs G (callF G n) d.body (startM d.N xs) h with
    | next e1 h1 => rw [hv] at p; exact fun ρ' H' σ' x' rh' _ => p ρ' H' _ x' rh' .non
    | ret v h1 => rw [hv] at p; exact p
    | brk e1 h1 => rw [hv] at p; exact p.elim
    | cont e1 h1 => rw [hv] at p; exact p.elim
    | ex x e1 h1 => rw [hv] at p; exact fun ρ' H' σ' cls dd x' rh' _ rx => p ρ' H' cls dd x' rh' rx
    | bad => rw [hv] at p; exact p.elim
theorem of_lookup {α : Type} {P : Nat → α → Prop} : ∀ {l : List (Nat × α)}, (∀ p ∈ l, P p.1 p.2) → ∀ k x, l.lookup k = some x → P k x
  | [], _, _, _, e => by cases e
  | p0 :: l, h, k, x, e => by
    obtain ⟨i, a⟩ := p0
    rw [List.lookup_cons] at e
    by_cases q : k = i
    · subst q
      rw [beq_self_eq_true] at e
      have e' : a = x := by simpa using e
      subst e'
      exact h (k, a) List.mem_cons_self
    · have q' : (k == i) = false := by simpa using q
      rw [q'] at e
      exact of_lookup (fun p hp => h p (List.mem_cons_of_mem _ hp)) k x e
theorem all_cons {α : Type} {P : α → Prop} {a : α} {l : List α} (h : P a) (t : ∀ p ∈ l, P p) : ∀ p ∈ a :: l, P p := fun p hp => by
  rcases List.mem_cons.mp hp with rfl | hp
  · exact h
  · exact t p hp
theorem all_nil {α : Type} {P : α → Prop} : ∀ p ∈ ([] : List α), P p := fun p hp => by simp at hp
theorem fns_of {G : MG} {K : PySem.W.Frag} {mg : Str → Option Value} {tb : List (Nat × Addr × FuncData)} (h : ∀ p ∈ G.fns, ∃ a fd st, tb.lookup p.1 = some (a, fd) ∧ (∃ dv kw, FunD K p.2.name p.2.name (defArgs st) (defBody st) (defScope st) dv kw a fd) ∧ FnScope p.2.N p.2.ps (defScope st) ∧ mSs G ⟨p.2.N, defScope st, true⟩ p.2.body (defBody st) = true ∧ mg p.2.name = some (.ref a) ∧ PySem.W.keepIn K (.ref a) = true ∧ BindsD K fd p.2) : FnsAt G K mg tb :=
  fun f d e => of_lookup (P := fun k (q : Fn) => ∃ a fd st, tb.lookup k = some (a, fd) ∧ (∃ dv kw, FunD K q.name q.name (defArgs st) (defBody st) (defScope st) dv kw a fd) ∧ FnScope q.N q.ps (defScope st) ∧ mSs G ⟨q.N, defScope st, true⟩ q.body (defBody st) = true ∧ mg q.name = some (.ref a) ∧ PySem.W.keepIn K (.ref a) = true ∧ BindsD K fd q) h f d e
theorem consts_of {G : MG} {K : PySem.W.Frag} {mg : Str → Option Value} (h : ∀ p ∈ G.consts, ∃ u w, mg p.2.1 = some u ∧ RelV w u ∧ ∀ ρ H, RelM K ρ H p.2.2 w) : ConstsAt G K mg :=
  fun k x v e => of_lookup (P := fun _ (q : Str × MV) => ∃ u w, mg q.1 = some u ∧ RelV w u ∧ ∀ ρ H, RelM K ρ H q.2 w) h k (x, v) e
theorem dicts_of {G : MG} {w : World} {K : PySem.W.Frag} {mg : Str → Option Value} (h : ∀ p ∈ G.dicts, ∃ d es m, mg p.2.1 = some (.ref d) ∧ KDict K w d es m ∧
  ∀ z, (p.2.2.lookup z = none → PySem.W.nsIn K d z = some none) ∧ ∀ v, p.2.2.lookup z = some v → ∃ u w, PySem.W.nsIn K d z = some (some u) ∧ RelV w u ∧ ∀ ρ H, RelM K ρ H v w) : DictsAt G w K mg :=
  fun k x kvs e => of_lookup (P := fun _ (q : Str × List (Str × MV)) => ∃ d es m, mg q.1 = some (.ref d) ∧ KDict K w d es m ∧
  ∀ z, (q.2.lookup z = none → PySem.W.nsIn K d z = some none) ∧ ∀ v, q.2.lookup z = some v → ∃ u w, PySem.W.nsIn K d z = some (some u) ∧ RelV w u ∧ ∀ ρ H, RelM K ρ H v w) h k (x, kvs) e
theorem tup_at {K : PySem.W.Frag} {ρ : List Addr} {H : Hp} {a : Addr} {d : Option Addr} {its : Array Value} {n : Nat} {sl : Array (Option Value)} {vs : List V} {xs : List MV} (h : K.lookup a = some ⟨.type "tuple", d, .seq its n, sl⟩) (hz : its.size ≤ sizeLine) (hv : Vals vs its.toList) (r : RelMs K ρ H xs vs) : RelM K ρ H (.tup xs) (.ref a) :=
  .tup (.inr ⟨_, its, n, h, rfl, rfl, hz, hv⟩) r.len r.at_
theorem dict_at {K : PySem.W.Frag} {d : Addr} {es : List DictEntry} {n : Nat} {kvs : List (Str × MV)} (h : K.lookup d = some ⟨.type "dict", none, .dict es.toArray n, #[]⟩)
    (hp : Paired (fun (p : Str × MV) (e : DictEntry) => (∃ t, e.key = .str p.1 t) ∧ ∃ w, RelV w e.val ∧ ∀ ρ H, RelM K ρ H p.2 w) kvs es) :
    ∀ z, (kvs.lookup z = none → PySem.W.nsIn K d z = some none) ∧ ∀ v, kvs.lookup z = some v → ∃ u w, PySem.W.nsIn K d z = some (some u) ∧ RelV w u ∧ ∀ ρ H, RelM K ρ H v w := by
  intro z
  have key : (kvs.lookup z = none → es.find? (·.key.isStr z) = none ∧ es.any (·.refKey) = false) ∧ ∀ v, kvs.lookup z = some v → ∃ e w, es.find? (·.key.isStr z) = some e ∧ RelV w e.val ∧ ∀ ρ H, RelM K ρ H v w := by
    clear h
    induction hp with
    | nil => exact ⟨fun _ => ⟨rfl, rfl⟩, fun v e => nomatch e⟩
    | @cons p e kvs es hpe _ ih =>
      obtain ⟨⟨t, hk⟩, w, hw, hr⟩ := hpe
      have hs : e.key.isStr z = (p.1 == z) := by rw [hk]; rfl
      have hrk : e.refKey = false := by unfold DictEntry.refKey; rw [hk]
      have hlk : (p :: kvs).lookup z = if p.1 = z then some p.2 else kvs.lookup z := by
        obtain ⟨a, b⟩ := p
        rw [List.lookup_cons]
        by_cases q : a = z
        · subst q; simp
        · have : (z == a) = false := by simpa using fun e : z = a => q e.symm
          rw [this, if_neg q]
      rw [hlk]
      by_cases q : p.1 = z
      · rw [if_pos q]
        refine ⟨(fun e => nomatch e), fun v e' => ?_⟩
        cases e'
        exact ⟨e, w, by rw [List.find?_cons, hs]; simp [q], hw, hr⟩
      · rw [if_neg q]
        have hf : e.key.isStr z = false := by rw [hs]; simpa using q
        refine ⟨fun e' => ?_, fun v e' => ?_⟩
        · obtain ⟨i1, i2⟩ := ih.1 e'
          exact ⟨by rw [List.find?_cons, hf]; exact i1, by rw [List.any_cons, hrk, i2]; rfl⟩
        · obtain ⟨e2, w2, j1, j2, j3⟩ := ih.2 v e'
          exact ⟨e2, w2, by rw [List.find?_cons, hf]; exact j1, j2, j3⟩
  have hn : PySem.W.nsIn K d z = match es.find? (·.key.isStr z) with | some e => some (some e.val) | none => if es.any (·.refKey) then none else some none := by
    unfold PySem.W.nsIn
    rw [h]
    rfl
  refine ⟨fun e => ?_, fun v e => ?_⟩
  · obtain ⟨h1, h2⟩ := key.1 e
    rw [hn, h1]
    dsimp only
    rw [h2]
    rfl
  · obtain ⟨e2, w, h1, h2, h3⟩ := key.2 v e
    exact ⟨e2.val, w, by rw [hn, h1], h2, h3⟩
def scriptM (ns : List Int) : MH := [.fro (ns.map .int)]
def spLaw (G : MG) (K : PySem.W.Frag) (n f : Nat) : Sp := fun vs H Q E => ∃ (a : Addr) (ns : List Int), vs = [.ref a] ∧ FrzL K H a (ns.map V.int) ∧ ns.length ≤ 63 ∧ ∀ H', Q (.bl true) H'
theorem relInts {K : PySem.W.Frag} {ρ : List Addr} {H : Hp} : ∀ ns : List Int, RelMs K ρ H (ns.map MV.int) (ns.map V.int)
  | [] => .nil
  | n :: ns => .cons (.int n) (relInts ns)
theorem law_ok {G : MG} {P : Program} {w : World} {K : PySem.W.Frag} {mg : Str → Option Value} {base : Heap} {n f : Nat} {d : Fn} {a : Addr} {fd : FuncData} (h1 : d.ps.length = 1)
    (hlaw : ∀ ns : List Int, ns.length ≤ 63 → ∃ h', callF G n f [.ref 0] (scriptM ns) = .ok (.bl true) h')
    (F : FnOk P w K mg base (L2.CX P w) n a fd d.ps (spM G K n f d.ps.length)) : FnOk P w K mg base (L2.CX P w) n a fd d.ps (spLaw G K n f) := by
  refine F.imp fun vs H Q E h => ?_
  obtain ⟨b, ns, rfl, hb, hl, hq⟩ := h
  refine ⟨by rw [h1]; rfl, [b], scriptM ns, [.ref 0], ⟨rfl, fun i j a o u e1 e2 m1 m2 _ _ => ?_, fun i c o e1 e2 => ?_⟩, .cons (.ref rfl) .nil, ?_⟩
  · cases i with
    | zero => cases e1; cases m1
    | succ i => simp [scriptM] at e1
  · cases i with
    | zero =>
      cases e1
      cases e2
      exact ⟨_, hb, relInts ns⟩
    | succ i => simp at e2
  · obtain ⟨h', e⟩ := hlaw ns hl
    rw [e]
    exact fun ρ' H' v x' rh' rv => by obtain rfl := rv.bl_inv; exact hq H'
theorem frz_of {K : PySem.W.Frag} {H : Hp} {a : Addr} {vs : List V} (o : Only H) (h : SqL K H a vs) : FrzL K H a vs := by
  rcases h with (h | ⟨ob, h⟩) | h
  · rcases o a with q | ⟨ob, xs, q⟩
    · rw [q] at h; cases h
    · rw [q] at h; cases h
  · exact .inl ⟨ob, h⟩
  · exact .inr h
theorem cx_none {P : Program} {w : World} {H : Hp} {s s' : Shared} {e : Value} (h : L2.CX P w [] H s (fun _ _ _ => False) e s') : False := by
  obtain ⟨_, _, _, _, _, _, _, _, _, _, _, _, z⟩ := h
  exact z
def scopeB (N ps : List Str) (sc : Scope) : Bool :=
  decide (sc.kind = .function) && !sc.isCoroutine && !sc.isGenerator && decide N.Nodup && decide (N.take ps.length = ps) &&
    ps.all (fun x => match sc.names.lookup x with | some .local => true | some .cell => true | _ => false) && sc.names.all (fun y => match y.2 with | .free => false | _ => true)
theorem scope_of {N ps : List Str} {sc : Scope} (h : scopeB N ps sc = true) : FnScope N ps sc := by
  unfold scopeB at h
  simp only [Bool.and_eq_true, Bool.not_eq_true', decide_eq_true_eq, List.all_eq_true] at h
  obtain ⟨⟨⟨⟨⟨⟨h1, h2⟩, h3⟩, h4⟩, h5⟩, h6⟩, h7⟩ := h
  refine ⟨h1, h2, h3, h4, h5, fun x hx => ?_, fun y hy e => ?_⟩
  · have := h6 x hx
    split at this <;> first | (rename_i q; exact .inl q) | (rename_i q; exact .inr q) | cases this
  · have := h7 y hy
    rw [e] at this
    cases this
end M
namespace M
open PySem
theorem ofString_inj {a b : String} : (Str.ofString a = Str.ofString b) ↔ a = b := by
  refine ⟨fun h => ?_, fun h => by rw [h]⟩
  rw [Str.ofString_eq_toList, Str.ofString_eq_toList] at h
  injection h with h
  have h := congrArg Array.toList h
  simp only [List.toList_toArray] at h
  have inj : ∀ (l m : List Char), l.map Char.toNat = m.map Char.toNat → l = m := by
    intro l
    induction l with
    | nil => intro m e; cases m with | nil => rfl | cons _ _ => simp at e
    | cons x l ih =>
      intro m e
      cases m with
      | nil => simp at e
      | cons y m =>
        simp only [List.map_cons, List.cons.injEq] at e
        rw [ih m e.2, Char.toNat_inj.mp e.1]
  exact String.toList_inj.mp (inj _ _ h)
def Tot {α : Type} (r : RS α) (Q : α → MH → Prop) : Prop := ∃ v h', r = .ok v h' ∧ Q v h'
theorem Tot.use {α : Type} {r : RS α} {P Q : α → MH → Prop} (t : Tot r P) (f : ∀ v h', P v h' → Q v h') : Tot r Q :=
  let ⟨v, h', e, p⟩ := t; ⟨v, h', e, f v h' p⟩
theorem Tot.ok {α : Type} {a : α} {h : MH} {Q : α → MH → Prop} (q : Q a h) : Tot (.ok a h) Q := ⟨a, h, rfl, q⟩
theorem Tot.bind {α β : Type} {m : RS α} {f : α → MH → RS β} {Q : β → MH → Prop} (t : Tot m fun a h => Tot (f a h) Q) : Tot (m.bind f) Q := by
  obtain ⟨v, h', e, t⟩ := t
  rw [e]
  exact t
structure Ct4 where
  nx : MEnv → MH → Prop
  rt : MV → MH → Prop
  bk : MEnv → MH → Prop := fun _ _ => False
  ct : MEnv → MH → Prop := fun _ _ => False
def TotS (r : SR) (k : Ct4) : Prop := match r with
  | .next e h => k.nx e h
  | .ret v h => k.rt v h
  | .brk e h => k.bk e h
  | .cont e h => k.ct e h
  | _ => False
section
variable {G : MG} {cl : Nat → List MV → MH → RS MV} {e : MEnv} {h : MH} {Q : MV → MH → Prop}
theorem w_var {i : Nat} {v : MV} (hi : e[i]? = some (some v)) (q : Q v h) : Tot (evE G cl (.var i) e h) Q := by
  rw [evE, hi]; exact .ok q
theorem w_glb {k : Nat} {x : Str} {v : MV} (hk : G.consts.lookup k = some (x, v)) (q : Q v h) : Tot (evE G cl (.glb k) e h) Q := by
  rw [evE, hk]; exact .ok q
theorem w_int {i : Int} (q : Q (.int i) h) : Tot (evE G cl (.int i) e h) Q := .ok q
theorem w_bl {i : Bool} (q : Q (.bl i) h) : Tot (evE G cl (.bl i) e h) Q := .ok q
theorem w_non (q : Q .non h) : Tot (evE G cl .non e h) Q := .ok q
theorem w_str {i : Str} (q : Q (.str i) h) : Tot (evE G cl (.str i) e h) Q := .ok q
theorem w_bop {o : Bop} {a b : IE} (q : Tot (evE G cl a e h) fun x h1 => Tot (evE G cl b e h1) fun y h2 => Tot (binM o x y h2) Q) : Tot (evE G cl (.bop o a b) e h) Q := by
  rw [evE]; exact .bind (q.use fun x h1 q => .bind q)
theorem w_neg {a : IE} (q : Tot (evE G cl a e h) fun x h1 => ∃ i, x = .int i ∧ Q (.int (-i)) h1) : Tot (evE G cl (.neg a) e h) Q := by
  rw [evE]; exact .bind (q.use fun x h1 ⟨i, e1, q⟩ => by subst e1; exact .ok q)
theorem w_not {a : IE} (q : Tot (evE G cl a e h) fun x h1 => ∃ i, x = .bl i ∧ Q (.bl (!i)) h1) : Tot (evE G cl (.not a) e h) Q := by
  rw [evE]; exact .bind (q.use fun x h1 ⟨i, e1, q⟩ => by subst e1; exact .ok q)
theorem w_cmp {o : Cop} {a b : IE} (q : Tot (evE G cl a e h) fun x h1 => Tot (evE G cl b e h1) fun y h2 => ∃ r, cmpM h2 o x y = some r ∧ Q (.bl r) h2) : Tot (evE G cl (.cmp o a b) e h) Q := by
  rw [evE]; exact .bind (q.use fun x h1 q => .bind (q.use fun y h2 ⟨r, e1, q⟩ => by rw [e1]; exact .ok q))
theorem w_chn {o o' : Cop} {a b c : IE} (q : Tot (evE G cl a e h) fun x h1 => Tot (evE G cl b e h1) fun y h2 => ∃ r, cmpM h2 o x y = some r ∧ (r = true → Tot (evE G cl c e h2) fun z h3 => ∃ r', cmpM h3 o' y z = some r' ∧ Q (.bl r') h3) ∧ (r = false → Q (.bl false) h2)) :
    Tot (evE G cl (.chn o o' a b c) e h) Q := by
  rw [evE]
  refine .bind (q.use fun x h1 q => .bind (q.use fun y h2 ⟨r, e1, q1, q2⟩ => ?_))
  rw [e1]
  cases r with
  | true => exact .bind ((q1 rfl).use fun z h3 ⟨r', e2, q⟩ => by rw [e2]; exact .ok q)
  | false => exact .ok (q2 rfl)
theorem w_and {a b : IE} (q : Tot (evE G cl a e h) fun x h1 => ∃ c, x = .bl c ∧ (c = true → Tot (evE G cl b e h1) fun y h2 => ∃ d, y = .bl d ∧ Q (.bl d) h2) ∧ (c = false → Q (.bl false) h1)) : Tot (evE G cl (.and a b) e h) Q := by
  rw [evE]
  refine .bind (q.use fun x h1 ⟨c, e1, q1, q2⟩ => ?_)
  subst e1
  cases c with
  | true => exact .bind ((q1 rfl).use fun y h2 ⟨d, e2, q⟩ => by subst e2; exact .ok q)
  | false => exact .ok (q2 rfl)
theorem w_or {a b : IE} (q : Tot (evE G cl a e h) fun x h1 => ∃ c, x = .bl c ∧ (c = true → Q (.bl true) h1) ∧ (c = false → Tot (evE G cl b e h1) fun y h2 => ∃ d, y = .bl d ∧ Q (.bl d) h2)) : Tot (evE G cl (.or a b) e h) Q := by
  rw [evE]
  refine .bind (q.use fun x h1 ⟨c, e1, q1, q2⟩ => ?_)
  subst e1
  cases c with
  | false => exact .bind ((q2 rfl).use fun y h2 ⟨d, e2, q⟩ => by subst e2; exact .ok q)
  | true => exact .ok (q1 rfl)
theorem w_ite {c a b : IE} (q : Tot (evE G cl c e h) fun x h1 => ∃ k, x = .bl k ∧ (k = true → Tot (evE G cl a e h1) Q) ∧ (k = false → Tot (evE G cl b e h1) Q)) : Tot (evE G cl (.ite c a b) e h) Q := by
  rw [evE]
  refine .bind (q.use fun x h1 ⟨k, e1, q1, q2⟩ => ?_)
  subst e1
  cases k with
  | true => exact q1 rfl
  | false => exact q2 rfl
theorem w_idx {a b : IE} (q : Tot (evE G cl a e h) fun x h1 => Tot (evE G cl b e h1) fun y h2 => ∃ r, idxM h2 x y = some r ∧ Q r h2) : Tot (evE G cl (.idx a b) e h) Q := by
  rw [evE]; exact .bind (q.use fun x h1 q => .bind (q.use fun y h2 ⟨r, e1, q⟩ => by rw [e1]; exact .ok q))
theorem w_slc {a : IE} {lo hi : IO} (q : Tot (evE G cl a e h) fun x h1 => Tot (evO G cl lo e h1) fun l h2 => Tot (evO G cl hi e h2) fun u h3 => Tot (slcM x l u h3) Q) : Tot (evE G cl (.slc a lo hi) e h) Q := by
  rw [evE]; exact .bind (q.use fun x h1 q => .bind (q.use fun l h2 q => .bind q))
theorem w_onone {Q : Option Int → MH → Prop} (q : Q none h) : Tot (evO G cl .none e h) Q := .ok q
theorem w_osome {Q : Option Int → MH → Prop} {a : IE} (q : Tot (evE G cl a e h) fun x h1 => ∃ i, x = .int i ∧ Q (some i) h1) : Tot (evO G cl (.some a) e h) Q := by
  rw [evO]; exact .bind (q.use fun x h1 ⟨i, e1, q⟩ => by subst e1; exact .ok q)
theorem w_tup {es : IEs} (q : Tot (evEs G cl es e h) fun vs h1 => vs.length ≤ sizeLine ∧ Q (.tup vs) h1) : Tot (evE G cl (.tup es) e h) Q := by
  rw [evE]; exact .bind (q.use fun vs h1 ⟨z, q⟩ => by rw [if_pos (by simpa using z)]; exact .ok q)
theorem w_lst {es : IEs} (q : Tot (evEs G cl es e h) fun vs h1 => vs.length ≤ sizeLine ∧ Q (.ref h1.length) (h1 ++ [.lst vs])) : Tot (evE G cl (.lst es) e h) Q := by
  rw [evE]; exact .bind (q.use fun vs h1 ⟨z, q⟩ => by rw [if_pos (by simpa using z)]; exact .ok q)
theorem w_gin {neg : Bool} {k : Nat} {a : IE} {x : Str} {kvs : List (Str × MV)} (hk : G.dicts.lookup k = some (x, kvs)) (q : Tot (evE G cl a e h) fun v h1 => ∃ z, v = .str z ∧ Q (.bl (if neg then !(kvs.lookup z).isSome else (kvs.lookup z).isSome)) h1) : Tot (evE G cl (.gin neg k a) e h) Q := by
  rw [evE]; exact .bind (q.use fun v h1 ⟨z, e1, q⟩ => by subst e1; rw [hk]; exact .ok q)
theorem w_gget {k : Nat} {a : IE} {x : Str} {kvs : List (Str × MV)} (hk : G.dicts.lookup k = some (x, kvs)) (q : Tot (evE G cl a e h) fun v h1 => ∃ z r, v = .str z ∧ kvs.lookup z = some r ∧ Q r h1) : Tot (evE G cl (.gget k a) e h) Q := by
  rw [evE]; exact .bind (q.use fun v h1 ⟨z, r, e1, e2, q⟩ => by subst e1; rw [hk]; dsimp only; rw [e2]; exact .ok q)
theorem w_call {f : Nat} {es : IEs} (q : Tot (evEs G cl es e h) fun vs h1 => Tot (cl f vs h1) Q) : Tot (evE G cl (.call f es) e h) Q := by
  rw [evE]; exact .bind q
theorem w_calld {f k : Nat} {es : IEs} {d : Fn} {ds : List MV} (hf : G.fns.lookup f = some d) (hd : d.dfls[k]? = some ds) (q : Tot (evEs G cl es e h) fun vs h1 => Tot (cl f (vs ++ ds) h1) Q) : Tot (evE G cl (.calld f k es) e h) Q := by
  rw [evE]; exact .bind (q.use fun vs h1 q => by rw [hf]; dsimp only; rw [hd]; exact q)
theorem w_lrng1 {b : IE} (q : Tot (evE G cl b e h) fun y h1 => ∃ j, y = .int j ∧ bnd62 j = true ∧ j.toNat ≤ sizeLine ∧ Q (.ref h1.length) (h1 ++ [.lst (rangeI 0 j.toNat)])) : Tot (evE G cl (.lrng1 b) e h) Q := by
  rw [evE]; exact .bind (q.use fun y h1 ⟨j, e1, e2, e3, q⟩ => by subst e1; dsimp only; rw [if_pos (by rw [e2, decide_eq_true e3]; rfl)]; exact .ok q)
theorem w_lrng2 {a b : IE} (q : Tot (evE G cl a e h) fun x h1 => Tot (evE G cl b e h1) fun y h2 => ∃ i j, x = .int i ∧ y = .int j ∧ (bnd62 i && bnd62 j) = true ∧ (j - i).toNat ≤ sizeLine ∧ Q (.ref h2.length) (h2 ++ [.lst (rangeI i (j - i).toNat)])) : Tot (evE G cl (.lrng2 a b) e h) Q := by
  rw [evE]; exact .bind (q.use fun x h1 q => .bind (q.use fun y h2 ⟨i, j, e1, e2, e3, e4, q2⟩ => by subst e1; subst e2; dsimp only; rw [if_pos (by rw [e3, decide_eq_true e4]; rfl)]; exact .ok q2))
theorem w_bi {b : Bi} {es : IEs} (q : Tot (evEs G cl es e h) fun vs h1 => Tot (biM b vs h1) Q) : Tot (evE G cl (.bi b es) e h) Q := by
  rw [evE]; exact .bind q
theorem w_isin {ts : List Ty} {a : IE} (q : Tot (evE G cl a e h) fun x h1 => ∃ r, isM h1 ts x = some r ∧ Q (.bl r) h1) : Tot (evE G cl (.isin ts a) e h) Q := by
  rw [evE]; exact .bind (q.use fun x h1 ⟨r, e1, q⟩ => by rw [e1]; exact .ok q)
theorem w_mth {m : Mt} {o : IE} {es : IEs} (q : Tot (evE G cl o e h) fun x h1 => recvOk h1 m x = true ∧ Tot (evEs G cl es e h1) fun vs h2 => Tot (mtM m x vs h2) Q) : Tot (evE G cl (.mth m o es) e h) Q := by
  rw [evE]; exact .bind (q.use fun x h1 ⟨z, q⟩ => by rw [if_pos z]; exact .bind q)
theorem w_enil {Q : List MV → MH → Prop} (q : Q [] h) : Tot (evEs G cl .nil e h) Q := .ok q
theorem w_econs {Q : List MV → MH → Prop} {a : IE} {r : IEs} (q : Tot (evE G cl a e h) fun x h1 => Tot (evEs G cl r e h1) fun xs h2 => Q (x :: xs) h2) : Tot (evEs G cl (.cons a r) e h) Q := by
  rw [evEs]; exact .bind (q.use fun x h1 q => .bind (q.use fun xs h2 q => .ok q))
theorem w_iseq {Q : Iter → MH → Prop} {a : IE} (q : Tot (evE G cl a e h) fun x h1 => ∃ J, seqIt h1 x = some J ∧ Q J h1) : Tot (evI G cl (.seq a) e h) Q := by
  rw [evI]; exact .bind (q.use fun x h1 ⟨J, e1, q⟩ => by rw [e1]; exact .ok q)
theorem w_irng1 {Q : Iter → MH → Prop} {a : IE} (q : Tot (evE G cl a e h) fun x h1 => ∃ j, x = .int j ∧ bnd62 j = true ∧ Q (fixIt (rangeI 0 j.toNat)) h1) : Tot (evI G cl (.rng1 a) e h) Q := by
  rw [evI]; exact .bind (q.use fun x h1 ⟨j, e1, e2, q⟩ => by subst e1; dsimp only; rw [if_pos e2]; exact .ok q)
theorem w_irng2 {Q : Iter → MH → Prop} {a b : IE} (q : Tot (evE G cl a e h) fun x h1 => Tot (evE G cl b e h1) fun y h2 => ∃ i j, x = .int i ∧ y = .int j ∧ (bnd62 i && bnd62 j) = true ∧ Q (fixIt (rangeI i (j - i).toNat)) h2) : Tot (evI G cl (.rng2 a b) e h) Q := by
  rw [evI]; exact .bind (q.use fun x h1 q => .bind (q.use fun y h2 ⟨i, j, e1, e2, e3, q'⟩ => by subst e1; subst e2; dsimp only; rw [if_pos e3]; exact .ok q'))
theorem w_ienum {Q : Iter → MH → Prop} {a : IE} (q : Tot (evE G cl a e h) fun x h1 => ∃ J, enumIt h1 x = some J ∧ Q J h1) : Tot (evI G cl (.enum a) e h) Q := by
  rw [evI]; exact .bind (q.use fun x h1 ⟨J, e1, q⟩ => by rw [e1]; exact .ok q)
theorem w_izip {Q : Iter → MH → Prop} {a b : IE} (q : Tot (evE G cl a e h) fun x h1 => Tot (evE G cl b e h1) fun y h2 => ∃ J, zipIt h2 x y = some J ∧ Q J h2) : Tot (evI G cl (.zip a b) e h) Q := by
  rw [evI]; exact .bind (q.use fun x h1 q => .bind (q.use fun y h2 ⟨J, e1, q⟩ => by rw [e1]; exact .ok q))
theorem w_tname {Q : MEnv → MH → Prop} {i : Nat} {v : MV} (hi : i < e.length) (q : Q (e.set i (some v)) h) : Tot (asT G cl (.name i) v e h) Q := by
  rw [asT, if_pos (by simpa using hi)]; exact .ok q
theorem w_ttup {Q : MEnv → MH → Prop} {ts : Tgs} {xs : List MV} (hl : xs.length = tgsLen ts) (q : Tot (asTs G cl ts xs e h) Q) : Tot (asT G cl (.tup ts) (.tup xs) e h) Q := by
  rw [asT, if_pos (by simpa using hl)]; exact q
theorem w_tnil {Q : MEnv → MH → Prop} (q : Q e h) : Tot (asTs G cl .nil [] e h) Q := by rw [asTs]; exact .ok q
theorem w_tcons {Q : MEnv → MH → Prop} {t : Tg} {ts : Tgs} {v : MV} {vs : List MV} (q : Tot (asT G cl t v e h) fun e1 h1 => Tot (asTs G cl ts vs e1 h1) Q) : Tot (asTs G cl (.cons t ts) (v :: vs) e h) Q := by
  rw [asTs]; exact .bind q
theorem w_tsub {Q : MEnv → MH → Prop} {o i : IE} {v : MV} (q : Tot (evE G cl o e h) fun x h1 => Tot (evE G cl i e h1) fun y h2 => ∃ a k xs j, x = .ref a ∧ y = .int k ∧ MH.wlist h2 a = some xs ∧ L2.ixN xs.length k = some j ∧ Q e (h2.set a (.lst (xs.set j v)))) : Tot (asT G cl (.sub o i) v e h) Q := by
  rw [asT]
  refine .bind (q.use fun x h1 q => .bind (q.use fun y h2 ⟨a, k, xs, j, e1, e2, e3, e4, q'⟩ => ?_))
  subst e1
  subst e2
  dsimp only
  rw [e3]
  dsimp only
  rw [e4]
  exact .ok q'
variable {k : Ct4}
theorem s_nil (q : k.nx e h) : TotS (evSs G cl .nil e h) k := q
theorem TotS.seq {s : IS} {r : ISs} (q : TotS (evS G cl s e h) { k with nx := fun e h => TotS (evSs G cl r e h) k }) : TotS (evSs G cl (.cons s r) e h) k := by
  rw [evSs]
  cases hs : evS G cl s e h <;> rw [hs] at q <;> exact q
theorem s_asg' {t : Tg} {a : IE} (q : Tot (evE G cl a e h) fun v h1 => Tot (asT G cl t v e h1) k.nx) : TotS (evS G cl (.asg t a) e h) k := by
  obtain ⟨v, h1, e1, e2, h2, e3, q⟩ := q
  rw [evS, e1]
  dsimp only
  rw [e3]
  exact q
theorem s_expr' {a : IE} (q : Tot (evE G cl a e h) fun _ h1 => k.nx e h1) : TotS (evS G cl (.expr a) e h) k := by
  obtain ⟨v, h1, e1, q⟩ := q
  rw [evS, e1]
  exact q
theorem s_ret' {a : IE} (q : Tot (evE G cl a e h) k.rt) : TotS (evS G cl (.ret a) e h) k := by
  obtain ⟨v, h1, e1, q⟩ := q
  rw [evS, e1]
  exact q
theorem s_ife' {c : IE} {a b : ISs} (q : Tot (evE G cl c e h) fun x h1 => ∃ d, x = .bl d ∧ (d = true → TotS (evSs G cl a e h1) k) ∧ (d = false → TotS (evSs G cl b e h1) k)) : TotS (evS G cl (.ife c a b) e h) k := by
  obtain ⟨v, h1, e1, d, e2, q1, q2⟩ := q
  subst e2
  rw [evS, e1]
  cases d with
  | true => exact q1 rfl
  | false => exact q2 rfl
theorem s_brk (q : k.bk e h) : TotS (evS G cl .brk e h) k := q
theorem s_cont (q : k.ct e h) : TotS (evS G cl .cont e h) k := q
theorem s_pass (q : k.nx e h) : TotS (evS G cl .pass e h) k := q
theorem s_for' {t : Tg} {it : II} {b : ISs} (q : Tot (evI G cl it e h) fun J h1 => ∃ I : Nat → MEnv → MH → Prop, I 0 e h1 ∧
    (∀ i e h, i ≤ J.n → I i e h → (J.nx i h = some none ∧ k.nx e h) ∨ (i < J.n ∧ ∃ v, J.nx i h = some (some v) ∧ Tot (asT G cl t v e h) fun e1 h1 => TotS (evSs G cl b e1 h1) { k with nx := I (i + 1), ct := I (i + 1), bk := k.nx }))) : TotS (evS G cl (.forr t it b) e h) k := by
  obtain ⟨J, h1, e1, I, i0, turn⟩ := q
  rw [evS, e1]
  dsimp only
  have go : ∀ m i e h, m + i = J.n → I i e h → TotS (forLoop J.nx (asT G cl t) (evSs G cl b) m i e h) k := by
    intro m
    induction m with
    | zero =>
      intro i e h hi inv
      rcases turn i e h (by omega) inv with ⟨z, q⟩ | ⟨z, _⟩
      · rw [forLoop, z]; exact q
      · omega
    | succ m ih =>
      intro i e h hi inv
      rcases turn i e h (by omega) inv with ⟨z, q⟩ | ⟨_, v, z, e1, h1, e2, q⟩
      · rw [forLoop, z]; exact q
      · rw [forLoop, z]
        dsimp only
        rw [e2]
        dsimp only
        cases hb : evSs G cl b e1 h1 with
        | next e2 h2 => rw [hb] at q; exact ih (i + 1) e2 h2 (by omega) q
        | cont e2 h2 => rw [hb] at q; exact ih (i + 1) e2 h2 (by omega) q
        | brk e2 h2 => rw [hb] at q; exact q
        | ret v h2 => rw [hb] at q; exact q
        | ex x e2 h2 => rw [hb] at q; exact q
        | bad => rw [hb] at q; exact q
  exact go J.n 0 e h1 rfl i0
theorem s_forfix {t : Tg} {it : II} {b : ISs} {xs : List MV} (I : Nat → MEnv → MH → Prop) (q : Tot (evI G cl it e h) fun J h1 => J = fixIt xs ∧ I 0 e h1) (turn : ∀ i v e h, xs[i]? = some v → I i e h → Tot (asT G cl t v e h) fun e1 h1 => TotS (evSs G cl b e1 h1) { k with nx := I (i + 1), ct := I (i + 1), bk := k.nx })
    (done : ∀ e h, I xs.length e h → k.nx e h) : TotS (evS G cl (.forr t it b) e h) k := by
  refine s_for' (q.use fun J h1 ⟨e1, i0⟩ => ?_)
  subst e1
  refine ⟨I, i0, fun i e h hi inv => ?_⟩
  cases hx : xs[i]? with
  | none =>
    have : i = xs.length := by
      have := List.getElem?_eq_none_iff.mp hx
      have hi' : i ≤ xs.length := hi
      omega
    subst this
    exact .inl ⟨congrArg some hx, done e h inv⟩
  | some v => exact .inr ⟨(List.getElem?_eq_some_iff.mp hx).1, v, congrArg some hx, turn i v e h hx inv⟩
theorem s_forlist {t : Tg} {it : II} {b : ISs} {xs : List MV} {a : Nat} (I : Nat → MEnv → MH → Prop) (q : Tot (evI G cl it e h) fun J h1 => J = liveIt a xs.length ∧ I 0 e h1) (stay : ∀ i e h, I i e h → MH.list h a = some xs)
    (turn : ∀ i v e h, xs[i]? = some v → I i e h → Tot (asT G cl t v e h) fun e1 h1 => TotS (evSs G cl b e1 h1) { k with nx := I (i + 1), ct := I (i + 1), bk := k.nx })
    (done : ∀ e h, I xs.length e h → k.nx e h) : TotS (evS G cl (.forr t it b) e h) k := by
  refine s_for' (q.use fun J h1 ⟨e1, i0⟩ => ?_)
  subst e1
  refine ⟨I, i0, fun i e h hi inv => ?_⟩
  have hs := stay i e h inv
  have hn : (liveIt a xs.length).nx i h = some xs[i]? := by unfold liveIt; dsimp only; rw [hs]
  rw [hn]
  cases hx : xs[i]? with
  | none =>
    have : i = xs.length := by
      have := List.getElem?_eq_none_iff.mp hx
      have hi' : i ≤ xs.length := hi
      omega
    subst this
    exact .inl ⟨rfl, done e h inv⟩
  | some v => exact .inr ⟨(List.getElem?_eq_some_iff.mp hx).1, v, rfl, turn i v e h hx inv⟩
theorem s_while' {c : IE} {b : ISs} (I : MEnv → MH → Prop) (μ : MEnv → MH → Nat) (i0 : I e h) (hμ : μ e h < G.wf)
    (turn : ∀ e h, I e h → Tot (evE G cl c e h) fun x h1 => ∃ d, x = .bl d ∧ (d = true → TotS (evSs G cl b e h1) { k with nx := fun e2 h2 => I e2 h2 ∧ μ e2 h2 < μ e h, ct := fun e2 h2 => I e2 h2 ∧ μ e2 h2 < μ e h, bk := k.nx }) ∧ (d = false → k.nx e h1)) : TotS (evS G cl (.whl c b) e h) k := by
  rw [evS]
  have go : ∀ m e h, μ e h < m → I e h → TotS (whileLoop (evE G cl c) (evSs G cl b) m e h) k := by
    intro m
    induction m with
    | zero => intro e h z; omega
    | succ m ih =>
      intro e h z inv
      obtain ⟨x, h1, e1, d, e2, q1, q2⟩ := turn e h inv
      subst e2
      rw [whileLoop, e1]
      cases d with
      | false => exact q2 rfl
      | true =>
        dsimp only
        have q := q1 rfl
        cases hb : evSs G cl b e h1 with
        | next e2 h2 => rw [hb] at q; exact ih e2 h2 (by have := q.2; omega) q.1
        | cont e2 h2 => rw [hb] at q; exact ih e2 h2 (by have := q.2; omega) q.1
        | brk e2 h2 => rw [hb] at q; exact q
        | ret v h2 => rw [hb] at q; exact q
        | ex x e2 h2 => rw [hb] at q; exact q
        | bad => rw [hb] at q; exact q
  exact go G.wf e h hμ i0
theorem w_fn {n f : Nat} {d : Fn} {vs : List MV} (hf : G.fns.lookup f = some d) (hl : vs.length = d.ps.length) (q : TotS (evSs G (callF G n) d.body (startM d.N vs) h) { nx := fun _ h => Q .non h, rt := Q }) : Tot (callF G (n + 1) f vs h) Q := by
  rw [callF, hf]
  dsimp only
  rw [if_pos hl]
  cases hb : evSs G (callF G n) d.body (startM d.N vs) h with
  | next e2 h2 => rw [hb] at q; exact .ok q
  | ret v h2 => rw [hb] at q; exact .ok q
  | cont e2 h2 => rw [hb] at q; exact q.elim
  | brk e2 h2 => rw [hb] at q; exact q.elim
  | ex x e2 h2 => rw [hb] at q; exact q.elim
  | bad => rw [hb] at q; exact q.elim
theorem w_comp {elt : IE} {tg : Tg} {it : II} {cond : IO} {own : List Nat} (q : Tot (evI G cl it e h) fun J h1 => ∃ I : Nat → List MV → MH → Prop, I 0 [] (h1 ++ [.lst []]) ∧ (∀ i acc h, I i acc h → MH.wlist h h1.length = some acc) ∧
    (∀ i acc h, i ≤ J.n → I i acc h → (J.nx i h = some none ∧ Q (.ref h1.length) h) ∨ (i < J.n ∧ ∃ v, J.nx i h = some (some v) ∧ Tot (asT G cl tg v (wipeM e own) h) fun e1 h2 => Tot (evC G cl cond e1 h2) fun b h3 => ∃ d, b = .bl d ∧ (d = false → I (i + 1) acc h3) ∧
      (d = true → Tot (evE G cl elt e1 h3) fun y h4 => MH.wlist h4 h1.length = some acc ∧ acc.length < sizeLine ∧ I (i + 1) (acc ++ [y]) (h4.set h1.length (.lst (acc ++ [y]))))))) : Tot (evE G cl (.comp elt tg it cond own) e h) Q := by
  rw [evE]
  refine .bind (q.use fun J h1 ⟨I, i0, hD, turn⟩ => .bind ?_)
  have go : ∀ m i acc h, m + i = J.n → I i acc h → Tot (compLoop J.nx (fun v h2 => asT G cl tg v (wipeM e own) h2) (fun e2 h2 => evC G cl cond e2 h2) (fun e2 h2 => evE G cl elt e2 h2) h1.length m i h) fun _ h2 => Tot (RS.ok (MV.ref h1.length) h2) Q := by
    intro m
    induction m with
    | zero =>
      intro i acc h hi inv
      rcases turn i acc h (by omega) inv with ⟨z, q⟩ | ⟨z, _⟩
      · rw [compLoop, z]; exact .ok (.ok q)
      · omega
    | succ m ih =>
      intro i acc h hi inv
      rcases turn i acc h (by omega) inv with ⟨z, q⟩ | ⟨_, v, z, e1, h2, e2, b, h3, e3, d, e4, q1, q2⟩
      · rw [compLoop, z]; exact .ok (.ok q)
      · subst e4
        rw [compLoop, z]
        dsimp only
        rw [e2]
        dsimp only
        rw [e3]
        cases d with
        | false => exact ih (i + 1) acc h3 (by omega) (q1 rfl)
        | true =>
          obtain ⟨y, h4, e5, e6, e7, inv2⟩ := q2 rfl
          dsimp only
          rw [e5]
          dsimp only
          rw [e6]
          dsimp only
          rw [if_pos (by simpa using e7)]
          exact ih (i + 1) _ _ (by omega) inv2
  exact go J.n 0 [] _ rfl i0
theorem w_cnone (q : Q (.bl true) h) : Tot (evC G cl .none e h) Q := .ok q
theorem w_csome {a : IE} (q : Tot (evE G cl a e h) Q) : Tot (evC G cl (.some a) e h) Q := q
end
theorem pre_app (h e : MH) : h <+: h ++ e := List.prefix_append h e
theorem pre_set {h0 h : MH} {i : Nat} {o : MO} (p : h0 <+: h) (hi : h0.length ≤ i) : h0 <+: h.set i o := by
  obtain ⟨t, rfl⟩ := p
  rw [List.set_append_right _ _ hi]
  exact List.prefix_append _ _
theorem at_pre {h h' : MH} (p : h <+: h') {i : Nat} {o : MO} (e : h[i]? = some o) : h'[i]? = some o := by
  obtain ⟨t, rfl⟩ := p
  obtain ⟨hi, _⟩ := List.getElem?_eq_some_iff.mp e
  rw [List.getElem?_append_left hi]
  exact e
theorem list_pre {h h' : MH} (p : h <+: h') {i : Nat} {xs : List MV} (e : MH.list h i = some xs) : MH.list h' i = some xs := by
  unfold MH.list at e ⊢
  cases q : h[i]? with
  | none => rw [q] at e; cases e
  | some o => rw [at_pre p q]; rw [q] at e; exact e
theorem wlist_pre {h h' : MH} (p : h <+: h') {i : Nat} {xs : List MV} (e : MH.wlist h i = some xs) : MH.wlist h' i = some xs := by
  unfold MH.wlist at e ⊢
  cases q : h[i]? with
  | none => rw [q] at e; cases e
  | some o => rw [at_pre p q]; rw [q] at e; exact e
theorem list_of_w {h : MH} {i : Nat} {xs : List MV} (e : MH.wlist h i = some xs) : MH.list h i = some xs := by
  unfold MH.wlist at e
  unfold MH.list
  split at e
  · rename_i ys q; rw [q]; exact e
  · cases e
theorem wlist_at {h : MH} {i : Nat} {xs : List MV} (e : MH.wlist h i = some xs) : h[i]? = some (.lst xs) := by
  unfold MH.wlist at e
  split at e
  · rename_i ys q; rw [q]; cases e; rfl
  · cases e
theorem wlist_lt {h : MH} {i : Nat} {xs : List MV} (e : MH.wlist h i = some xs) : i < h.length := (List.getElem?_eq_some_iff.mp (wlist_at e)).1
theorem list_lt {h : MH} {i : Nat} {xs : List MV} (e : MH.list h i = some xs) : i < h.length := by
  unfold MH.list at e
  cases q : h[i]? with
  | none => rw [q] at e; cases e
  | some o => exact (List.getElem?_eq_some_iff.mp q).1
theorem wlist_new {h : MH} {xs : List MV} : MH.wlist (h ++ [.lst xs]) h.length = some xs := by
  unfold MH.wlist
  rw [List.getElem?_append_right (Nat.le_refl _), Nat.sub_self]
  rfl
theorem list_new {h : MH} {xs : List MV} : MH.list (h ++ [.lst xs]) h.length = some xs := list_of_w wlist_new
theorem wlist_set {h : MH} {i : Nat} {xs ys : List MV} (e : MH.wlist h i = some xs) : MH.wlist (h.set i (.lst ys)) i = some ys := by
  unfold MH.wlist
  rw [List.getElem?_set_self (wlist_lt e)]
theorem wlist_set_ne {h : MH} {i j : Nat} {o : MO} (e : i ≠ j) : MH.wlist (h.set i o) j = MH.wlist h j := by
  unfold MH.wlist
  rw [List.getElem?_set_ne e]
theorem list_set_ne {h : MH} {i j : Nat} {o : MO} (e : i ≠ j) : MH.list (h.set i o) j = MH.list h j := by
  unfold MH.list
  rw [List.getElem?_set_ne e]
end M
namespace M
theorem Tot.eq {α : Type} {r : RS α} {v : α} {h : MH} {Q : α → MH → Prop} (e : r = .ok v h) (q : Q v h) : Tot r Q := ⟨v, h, e, q⟩
end M
namespace M
open PySem
theorem if_t {b : Bool} {A B : Prop} (h : b = true) (a : A) : (b = true → A) ∧ (b = false → B) := ⟨fun _ => a, fun z => (by rw [h] at z; cases z)⟩
theorem if_f {b : Bool} {A B : Prop} (h : b = false) (a : B) : (b = true → A) ∧ (b = false → B) := ⟨fun z => (by rw [h] at z; cases z), fun _ => a⟩
theorem if_tf {b : Bool} {A B : Prop} (h : b = true) (a : A) : (b = false → B) ∧ (b = true → A) := ⟨fun z => (by rw [h] at z; cases z), fun _ => a⟩
theorem if_ft {b : Bool} {A B : Prop} (h : b = false) (a : B) : (b = false → B) ∧ (b = true → A) := ⟨fun _ => a, fun z => (by rw [h] at z; cases z)⟩
theorem sz_of {α : Type} {l : List α} {n : Nat} (h : l.length = n) (hn : Nat.ble n 1000 = true) : l.length ≤ sizeLine := by have := Nat.le_of_ble_eq_true hn; rw [h, sizeLine_eq]; omega
end M
namespace M
open PySem
theorem at_nat {α : Type} (xs : List α) (n : Nat) : L2.atI xs (n : Int) = xs[n]? := by
  unfold L2.atI L2.ixN
  rw [if_pos (by omega)]
  by_cases h : n < xs.length
  · rw [if_pos (by omega)]; rfl
  · rw [if_neg (by omega), List.getElem?_eq_none (by omega)]; rfl
theorem at_of {α : Type} {xs : List α} {i : Int} (n : Nat) {v : α} (hi : i = n) (e : xs[n]? = some v) : L2.atI xs i = some v := by
  subst hi; rw [at_nat, e]
theorem at_neg {α : Type} (xs : List α) (n : Nat) (h1 : 1 ≤ n) (h2 : n ≤ xs.length) : L2.atI xs (-(n : Int)) = xs[xs.length - n]? := by
  unfold L2.atI L2.ixN
  rw [if_neg (by omega), if_pos (by omega)]
  show xs[_]? = _
  congr 1
  omega
theorem ix_tup {h : MH} {xs : List MV} {i : Int} {Q : MV → Prop} (n : Nat) {v : MV} (hi : i = n) (e : xs[n]? = some v) (q : Q v) : ∃ r, idxM h (.tup xs) (.int i) = some r ∧ Q r := ⟨v, at_of n hi e, q⟩
theorem ix_ref {h : MH} {a : Nat} {xs : List MV} {i : Int} {Q : MV → Prop} (l : MH.list h a = some xs) (n : Nat) {v : MV} (hi : i = n) (e : xs[n]? = some v) (q : Q v) : ∃ r, idxM h (.ref a) (.int i) = some r ∧ Q r :=
  ⟨v, by unfold idxM; dsimp only; rw [l]; exact at_of n hi e, q⟩
theorem ix0 {h : MH} {x : MV} {xs : List MV} {Q : MV → Prop} (q : Q x) : ∃ r, idxM h (.tup (x :: xs)) (.int 0) = some r ∧ Q r := ix_tup 0 rfl rfl q
theorem ix1 {h : MH} {x y : MV} {xs : List MV} {Q : MV → Prop} (q : Q y) : ∃ r, idxM h (.tup (x :: y :: xs)) (.int 1) = some r ∧ Q r := ix_tup 1 rfl rfl q
theorem ix2 {h : MH} {x y z : MV} {xs : List MV} {Q : MV → Prop} (q : Q z) : ∃ r, idxM h (.tup (x :: y :: z :: xs)) (.int 2) = some r ∧ Q r := ix_tup 2 rfl rfl q
theorem sIx_none (n d : Nat) : HT.sIx n d none = d := rfl
theorem sIx_nat (n d k : Nat) : HT.sIx n d (some (k : Int)) = min k n := by
  unfold HT.sIx
  dsimp only
  rw [if_neg (by omega)]
  omega
theorem cut_all {α : Type} (xs : List α) : cutM xs none none = xs := by
  unfold cutM
  simp [sIx_none]
theorem cut_from {α : Type} (xs : List α) (a : Nat) : cutM xs (some (a : Int)) none = xs.drop a := by
  unfold cutM
  rw [sIx_nat, sIx_none]
  by_cases h : a ≤ xs.length
  · rw [Nat.min_eq_left h, List.take_of_length_le (by simp)]
  · rw [Nat.min_eq_right (by omega), List.drop_length, List.take_nil, List.drop_of_length_le (by omega)]
theorem cut_to {α : Type} (xs : List α) (b : Nat) : cutM xs none (some (b : Int)) = xs.take b := by
  unfold cutM
  rw [sIx_nat, sIx_none, List.drop_zero, Nat.sub_zero]
  by_cases h : b ≤ xs.length
  · rw [Nat.min_eq_left h]
  · rw [Nat.min_eq_right (by omega), List.take_length, List.take_of_length_le (by omega)]
theorem cut_mid {α : Type} (xs : List α) (a b : Nat) : cutM xs (some (a : Int)) (some (b : Int)) = (xs.drop a).take (b - a) := by
  unfold cutM
  rw [sIx_nat, sIx_nat]
  refine List.ext_getElem? fun i => ?_
  simp only [List.getElem?_take, List.getElem?_drop]
  by_cases h : i < b - a
  · by_cases h2 : a + i < xs.length
    · rw [if_pos (by omega), if_pos h, Nat.min_eq_left (by omega)]
    · rw [if_neg (by omega), if_pos h, List.getElem?_eq_none (by omega)]
  · rw [if_neg (by omega), if_neg h]
theorem slc_tup {h : MH} {xs : List MV} {lo hi : Option Int} {Q : MV → MH → Prop} (q : Q (.tup (cutM xs lo hi)) h) : Tot (slcM (.tup xs) lo hi h) Q := .ok q
theorem slc_ref {h : MH} {a : Nat} {xs : List MV} {lo hi : Option Int} {Q : MV → MH → Prop} (l : MH.list h a = some xs) (q : Q (.ref h.length) (h ++ [.lst (cutM xs lo hi)])) : Tot (slcM (.ref a) lo hi h) Q := by
  unfold slcM; dsimp only; rw [l]; exact .ok q
theorem slc1 {h : MH} {x : MV} {xs : List MV} {Q : MV → MH → Prop} (q : Q (.tup xs) h) : Tot (slcM (.tup (x :: xs)) (some 1) none h) Q := by
  refine slc_tup ?_
  have := cut_from (x :: xs) 1
  rw [show ((1 : Nat) : Int) = 1 from rfl] at this
  rw [this]
  exact q
theorem add_ref {h : MH} {a b : Nat} {xs ys : List MV} {Q : MV → MH → Prop} (la : MH.wlist h a = some xs) (lb : MH.wlist h b = some ys) (z : xs.length + ys.length ≤ sizeLine) (q : Q (.ref h.length) (h ++ [.lst (xs ++ ys)])) : Tot (binM .add (.ref a) (.ref b) h) Q := by
  unfold binM; dsimp only; rw [la, lb]; dsimp only; rw [if_pos (by simpa using z)]; exact .ok q
theorem add_int {h : MH} {i j : Int} {Q : MV → MH → Prop} (q : Q (.int (i + j)) h) : Tot (binM .add (.int i) (.int j) h) Q := .ok q
theorem sub_int {h : MH} {i j : Int} {Q : MV → MH → Prop} (q : Q (.int (i - j)) h) : Tot (binM .sub (.int i) (.int j) h) Q := .ok q
theorem mod_int {h : MH} {i j : Int} {Q : MV → MH → Prop} (hj : j ≠ 0) (q : Q (.int (i.fmod j)) h) : Tot (binM .mod (.int i) (.int j) h) Q := by
  unfold binM; dsimp only; rw [if_pos (by simpa using hj)]; exact .ok q
theorem div_int {h : MH} {i j : Int} {Q : MV → MH → Prop} (hj : divOk j = true) (q : Q (.int (i.fdiv j)) h) : Tot (binM .fdiv (.int i) (.int j) h) Q := by
  unfold binM; dsimp only; rw [if_pos hj]; exact .ok q
theorem append_ref {h : MH} {a : Nat} {xs : List MV} {v : MV} {Q : MV → MH → Prop} (la : MH.wlist h a = some xs) (z : xs.length < sizeLine) (q : Q .non (h.set a (.lst (xs ++ [v])))) : Tot (mtM .append (.ref a) [v] h) Q := by
  unfold mtM; dsimp only; rw [la]; dsimp only; rw [if_pos (by simpa using z)]; exact .ok q
theorem extend_ref {h : MH} {a b : Nat} {xs ys : List MV} {Q : MV → MH → Prop} (la : MH.wlist h a = some xs) (lb : MH.wlist h b = some ys) (z : xs.length + ys.length ≤ sizeLine) (q : Q .non (h.set a (.lst (xs ++ ys)))) : Tot (mtM .extend (.ref a) [.ref b] h) Q := by
  unfold mtM; dsimp only; rw [la, lb]; dsimp only; rw [if_pos (by simpa using z)]; exact .ok q
theorem len_ref {h : MH} {a : Nat} {xs : List MV} {Q : MV → MH → Prop} (la : MH.list h a = some xs) (q : Q (.int xs.length) h) : Tot (biM .len [.ref a] h) Q := by
  unfold biM seqOf; dsimp only; rw [la]; exact .ok q
theorem len_tup {h : MH} {xs : List MV} {Q : MV → MH → Prop} (q : Q (.int xs.length) h) : Tot (biM .len [.tup xs] h) Q := .ok q
theorem tuple_ref {h : MH} {a : Nat} {xs : List MV} {Q : MV → MH → Prop} (la : MH.list h a = some xs) (q : Q (.tup xs) h) : Tot (biM .tuple [.ref a] h) Q := by
  unfold biM; dsimp only; rw [la]; exact .ok q
theorem list_ref {h : MH} {a : Nat} {xs : List MV} {Q : MV → MH → Prop} (la : MH.list h a = some xs) (q : Q (.ref h.length) (h ++ [.lst xs])) : Tot (biM .list [.ref a] h) Q := by
  unfold biM seqOf; dsimp only; rw [la]; exact .ok q
theorem list_tup {h : MH} {xs : List MV} {Q : MV → MH → Prop} (q : Q (.ref h.length) (h ++ [.lst xs])) : Tot (biM .list [.tup xs] h) Q := .ok q
theorem seqit_ref {h : MH} {a : Nat} {xs : List MV} {Q : Iter → Prop} (la : MH.list h a = some xs) (q : Q (liveIt a xs.length)) : ∃ J, seqIt h (.ref a) = some J ∧ Q J := ⟨_, by unfold seqIt; dsimp only; rw [la], q⟩
theorem seqit_tup {h : MH} {xs : List MV} {Q : Iter → Prop} (q : Q (fixIt xs)) : ∃ J, seqIt h (.tup xs) = some J ∧ Q J := ⟨_, rfl, q⟩
theorem recv_ref {h : MH} {a : Nat} {xs : List MV} {m : Mt} (hm : (match m with | .join | .split => false | _ => true) = true) (la : MH.list h a = some xs) : recvOk h m (.ref a) = true := by
  cases m <;> first | (exact absurd hm (by decide)) | (unfold recvOk; dsimp only; rw [la]; rfl)
theorem strsOf_map (l : List Str) : strsOf (l.map .str) = some l := by
  induction l with
  | nil => rfl
  | cons a r ih => rw [List.map_cons, strsOf, ih]
theorem intsOf_map (l : List Int) : intsOf (l.map .int) = some l := by
  induction l with
  | nil => rfl
  | cons a r ih => rw [List.map_cons, intsOf, ih]
theorem blsOf_map (l : List Bool) : blsOf (l.map .bl) = some l := by
  induction l with
  | nil => rfl
  | cons a r ih => rw [List.map_cons, blsOf, ih]
theorem join_ref {h : MH} {a : Nat} {z : Str} {ys : List Str} {Q : MV → MH → Prop} (la : MH.list h a = some (ys.map .str)) (hz : (ys.map (·.length)).sum + ys.length * z.length ≤ 16777216) (q : Q (.str (Txt.join z ys)) h) : Tot (mtM .join (.str z) [.ref a] h) Q := by
  unfold mtM; dsimp only; rw [la]; dsimp only; rw [strsOf_map]; dsimp only; rw [if_pos (by simpa using hz)]; exact .ok q
theorem split_str {h : MH} {z b : Str} {Q : MV → MH → Prop} (hb : (b.length == 0) = false) (hz : z.length + 2 ≤ sizeLine) (q : Q (.ref h.length) (h ++ [.lst ((Txt.split z b).map .str)])) : Tot (mtM .split (.str z) [.str b] h) Q := by
  unfold mtM; dsimp only; rw [if_pos ⟨hb, hz⟩]; exact .ok q
theorem isN_nat {j : Int} (n : Nat) (h : j = n) (hn : n < 2 ^ 62) : bnd62 j = true := by
  subst h; unfold bnd62; simp; omega
theorem range_len (n : Nat) : ∀ lo, (rangeI lo n).length = n := by
  induction n with
  | zero => intro _; rfl
  | succ n ih => intro lo; simp [rangeI, ih]
theorem range_at (n : Nat) : ∀ (lo : Int) (i : Nat), i < n → (rangeI lo n)[i]? = some (.int (lo + i)) := by
  induction n with
  | zero => intro _ i h; omega
  | succ n ih =>
    intro lo i h
    cases i with
    | zero => simp [rangeI]
    | succ i => simp only [rangeI, List.getElem?_cons_succ]; rw [ih (lo + 1) i (by omega)]; congr 2; omega
theorem seq_size : sizeLine = 16777216 := sizeLine_eq
theorem pre_len {h h' : MH} (p : h <+: h') : h.length ≤ h'.length := p.length_le
theorem wlist_app {h e : MH} {i : Nat} {xs : List MV} (l : MH.wlist h i = some xs) : MH.wlist (h ++ e) i = some xs := wlist_pre (pre_app h e) l
theorem list_app {h e : MH} {i : Nat} {xs : List MV} (l : MH.list h i = some xs) : MH.list (h ++ e) i = some xs := list_pre (pre_app h e) l
section
variable {G : MG} {cl : Nat → List MV → MH → RS MV} {e : MEnv} {h : MH} {Q : MV → MH → Prop}
theorem wand {a b : IE} (A B : Bool) (qa : Tot (evE G cl a e h) fun x h1 => x = .bl A ∧ h1 = h) (qb : A = true → Tot (evE G cl b e h) fun x h1 => x = .bl B ∧ h1 = h) (q : Q (.bl (A && B)) h) : Tot (evE G cl (.and a b) e h) Q := by
  refine w_and (qa.use ?_)
  rintro _ _ ⟨rfl, rfl⟩
  refine ⟨A, rfl, fun hA => (qb hA).use ?_, fun hA => ?_⟩
  · rintro _ _ ⟨rfl, rfl⟩
    refine ⟨B, rfl, ?_⟩
    rw [hA, Bool.true_and] at q
    exact q
  · rw [hA, Bool.false_and] at q
    exact q
theorem wor {a b : IE} (A B : Bool) (qa : Tot (evE G cl a e h) fun x h1 => x = .bl A ∧ h1 = h) (qb : A = false → Tot (evE G cl b e h) fun x h1 => x = .bl B ∧ h1 = h) (q : Q (.bl (A || B)) h) : Tot (evE G cl (.or a b) e h) Q := by
  refine w_or (qa.use ?_)
  rintro _ _ ⟨rfl, rfl⟩
  refine ⟨A, rfl, fun hA => ?_, fun hA => (qb hA).use ?_⟩
  · rw [hA, Bool.true_or] at q
    exact q
  · rintro _ _ ⟨rfl, rfl⟩
    refine ⟨B, rfl, ?_⟩
    rw [hA, Bool.false_or] at q
    exact q
theorem wor2 {a b : IE} (A : Bool) (P : MH → Prop) (qa : Tot (evE G cl a e h) fun x h1 => x = .bl A ∧ P h1) (q1 : A = true → ∀ h1, P h1 → Q (.bl true) h1) (q2 : A = false → ∀ h1, P h1 → Tot (evE G cl b e h1) fun y h2 => ∃ d, y = .bl d ∧ Q (.bl d) h2) : Tot (evE G cl (.or a b) e h) Q := by
  refine w_or (qa.use ?_)
  rintro _ h1 ⟨rfl, p⟩
  exact ⟨A, rfl, fun hA => q1 hA h1 p, fun hA => q2 hA h1 p⟩
theorem s_if2 {cl : Nat → List MV → MH → RS MV} {k : Ct4} {c : IE} {a b : ISs} (A : Bool) (qa : Tot (evE G cl c e h) fun x h1 => x = .bl A ∧ h1 = h) (q1 : A = true → TotS (evSs G cl a e h) k) (q2 : A = false → TotS (evSs G cl b e h) k) : TotS (evS G cl (.ife c a b) e h) k := by
  refine s_ife' (qa.use ?_)
  rintro _ _ ⟨rfl, rfl⟩
  exact ⟨A, rfl, q1, q2⟩
end
theorem split_at {α : Type} {l : List α} {i : Nat} {q : α} (h : l[i]? = some q) : l = l.take i ++ q :: l.drop (i + 1) := by
  obtain ⟨hi, rfl⟩ := List.getElem?_eq_some_iff.mp h
  rw [← List.drop_eq_getElem_cons hi]
  exact (List.take_append_drop _ _).symm
end M
namespace M
open PySem
mutual
inductive Dp (p : Nat → Prop) (h : MH) : Nat → MV → PyData → Prop
  | non (n) : Dp p h n .non .none
  | bl (n b) : Dp p h n (.bl b) (.bool b)
  | int (n i) : Dp p h n (.int i) (.int i)
  | str (n) {x} : PyData.strOk x = true → Dp p h n (.str x) (.str x)
  | tup {n xs ds} : Dps p h n xs ds → Dp p h (n + 1) (.tup xs) (.tuple ds)
  | ref {n i xs ds} : p i → MH.wlist h i = some xs → Dps p h n xs ds → Dp p h (n + 1) (.ref i) (.list ds)
inductive Dps (p : Nat → Prop) (h : MH) : Nat → List MV → List PyData → Prop
  | nil (n) : Dps p h n [] []
  | cons {n x xs d ds} : Dp p h n x d → Dps p h n xs ds → Dps p h n (x :: xs) (d :: ds)
end
mutual
theorem Dp.to {p p' : Nat → Prop} {h : MH} {n m : Nat} {v : MV} {d : PyData} (hm : n ≤ m) (hl : ∀ i, p i → p' i) : Dp p h n v d → Dp p' h m v d
  | .non _ => .non _
  | .bl _ b => .bl _ b
  | .int _ i => .int _ i
  | .str _ e => .str _ e
  | .tup (n := k) s => match m, hm with | m + 1, hm => .tup (Dps.to (by omega) hl s)
  | .ref (n := k) z l s => match m, hm with | m + 1, hm => .ref (hl _ z) l (Dps.to (by omega) hl s)
theorem Dps.to {p p' : Nat → Prop} {h : MH} {n m : Nat} {v : List MV} {d : List PyData} (hm : n ≤ m) (hl : ∀ i, p i → p' i) : Dps p h n v d → Dps p' h m v d
  | .nil _ => .nil _
  | .cons a b => .cons (Dp.to hm hl a) (Dps.to hm hl b)
end
mutual
theorem Dp.pre {p : Nat → Prop} {h h' : MH} (q : h <+: h') {n : Nat} {v : MV} {d : PyData} : Dp p h n v d → Dp p h' n v d
  | .non _ => .non _
  | .bl _ b => .bl _ b
  | .int _ i => .int _ i
  | .str _ e => .str _ e
  | .tup s => .tup (Dps.pre q s)
  | .ref z l s => .ref z (wlist_pre q l) (Dps.pre q s)
theorem Dps.pre {p : Nat → Prop} {h h' : MH} (q : h <+: h') {n : Nat} {v : List MV} {d : List PyData} : Dps p h n v d → Dps p h' n v d
  | .nil _ => .nil _
  | .cons a b => .cons (Dp.pre q a) (Dps.pre q b)
end
mutual
theorem Dp.set {p : Nat → Prop} {h : MH} {D : Nat} {o : MO} (hD : ¬ p D) {n : Nat} {v : MV} {d : PyData} : Dp p h n v d → Dp p (h.set D o) n v d
  | .non _ => .non _
  | .bl _ b => .bl _ b
  | .int _ i => .int _ i
  | .str _ e => .str _ e
  | .tup s => .tup (Dps.set hD s)
  | .ref z l s => .ref z ((wlist_set_ne (fun e => hD (by rw [e]; exact z))).trans l) (Dps.set hD s)
theorem Dps.set {p : Nat → Prop} {h : MH} {D : Nat} {o : MO} (hD : ¬ p D) {n : Nat} {v : List MV} {d : List PyData} : Dps p h n v d → Dps p (h.set D o) n v d
  | .nil _ => .nil _
  | .cons a b => .cons (Dp.set hD a) (Dps.set hD b)
end
mutual
theorem Dp.dat {p : Nat → Prop} {h : MH} {n k : Nat} (hk : n < k) {v : MV} {d : PyData} : Dp p h n v d → dat h k v = some d
  | .non _ => by cases k with | zero => omega | succ k => rfl
  | .bl _ b => by cases k with | zero => omega | succ k => rfl
  | .int _ i => by cases k with | zero => omega | succ k => rfl
  | .str _ e => by cases k with | zero => omega | succ k => rfl
  | .tup s => by
    cases k with
    | zero => omega
    | succ k => rw [M.dat, Dps.dat (by omega) s]
  | .ref z l s => by
    cases k with
    | zero => omega
    | succ k => rw [M.dat, list_of_w l]; dsimp only; rw [Dps.dat (by omega) s]
theorem Dps.dat {p : Nat → Prop} {h : MH} {n k : Nat} (hk : n < k) {v : List MV} {d : List PyData} : Dps p h n v d → optAll (v.map (M.dat h k)) = some d
  | .nil _ => rfl
  | .cons a b => by rw [List.map_cons, Dp.dat hk a, optAll, Dps.dat hk b]
end
mutual
theorem Dp.lay {p : Nat → Prop} {h : MH} {n : Nat} {v : MV} {d : PyData} : Dp p h n v d → PyData.canLay0 d = true ∧ PyData.depth d ≤ n
  | .non _ => ⟨rfl, Nat.zero_le _⟩
  | .bl _ b => ⟨rfl, Nat.zero_le _⟩
  | .int _ i => ⟨rfl, Nat.zero_le _⟩
  | .str _ e => ⟨e, Nat.zero_le _⟩
  | .tup s => by rw [PyData.canLay0, PyData.depth]; exact ⟨(Dps.lay s).1, Nat.succ_le_succ (Dps.lay s).2⟩
  | .ref z l s => by rw [PyData.canLay0, PyData.depth]; exact ⟨(Dps.lay s).1, Nat.succ_le_succ (Dps.lay s).2⟩
theorem Dps.lay {p : Nat → Prop} {h : MH} {n : Nat} {v : List MV} {d : List PyData} : Dps p h n v d → PyData.canLayAll0 d = true ∧ PyData.depthAll d ≤ n
  | .nil _ => ⟨rfl, Nat.zero_le _⟩
  | .cons a b => by
    rw [PyData.canLayAll0, PyData.depthAll, (Dp.lay a).1, (Dps.lay b).1]
    exact ⟨rfl, Nat.max_le.mpr ⟨(Dp.lay a).2, (Dps.lay b).2⟩⟩
end
theorem Dps.len {p : Nat → Prop} {h : MH} {n : Nat} : ∀ {v : List MV} {d : List PyData}, Dps p h n v d → v.length = d.length
  | _, _, .nil _ => rfl
  | _, _, .cons a b => by rw [List.length_cons, List.length_cons, Dps.len b]
theorem Dps.at_ {p : Nat → Prop} {h : MH} {n : Nat} : ∀ {v : List MV} {d : List PyData} {i : Nat} {x : MV}, Dps p h n v d → v[i]? = some x → ∃ y, d[i]? = some y ∧ Dp p h n x y
  | _, _, _, _, .nil _, e => by simp at e
  | _, _, 0, _, .cons a b, e => by
    rw [List.getElem?_cons_zero] at e
    cases e
    exact ⟨_, rfl, a⟩
  | _, _, i + 1, _, .cons a b, e => by
    rw [List.getElem?_cons_succ] at e ⊢
    exact Dps.at_ b e
theorem Dps.app {p : Nat → Prop} {h : MH} {n : Nat} : ∀ {v v' : List MV} {d d' : List PyData}, Dps p h n v d → Dps p h n v' d' → Dps p h n (v ++ v') (d ++ d')
  | _, _, _, _, .nil _, s => s
  | _, _, _, _, .cons a b, s => .cons a (Dps.app b s)
theorem Dps.of_at {p : Nat → Prop} {h : MH} {n : Nat} : ∀ {v : List MV} {d : List PyData}, v.length = d.length → (∀ (i : Nat) (x : MV) (y : PyData), v[i]? = some x → d[i]? = some y → Dp p h n x y) → Dps p h n v d
  | [], [], _, _ => .nil _
  | x :: v, y :: d, e, f => .cons (f 0 x y rfl rfl) (Dps.of_at (by simpa using e) fun i a b ha hb => f (i + 1) a b ha hb)
  | [], _ :: _, e, _ => by simp at e
  | _ :: _, [], e, _ => by simp at e
abbrev Dt (lo : Nat) := Dp (fun i => lo ≤ i)
abbrev Dts (lo : Nat) := Dps (fun i => lo ≤ i)
theorem Dp.up {lo lo' : Nat} {h : MH} {n m : Nat} {v : MV} {d : PyData} (D : Dt lo h n v d) (hm : n ≤ m) (hl : lo' ≤ lo := by omega) : Dt lo' h m v d := Dp.to hm (fun _ z => Nat.le_trans hl z) D
theorem Dps.up {lo lo' : Nat} {h : MH} {n m : Nat} {v : List MV} {d : List PyData} (D : Dts lo h n v d) (hm : n ≤ m) (hl : lo' ≤ lo := by omega) : Dts lo' h m v d := Dps.to hm (fun _ z => Nat.le_trans hl z) D
theorem Dt.set {lo : Nat} {h : MH} {X : Nat} {o : MO} {n : Nat} {v : MV} {d : PyData} (D : Dt lo h n v d) (hD : X < lo) : Dt lo (h.set X o) n v d := Dp.set (by omega) D
theorem Dts.set {lo : Nat} {h : MH} {X : Nat} {o : MO} {n : Nat} {v : List MV} {d : List PyData} (D : Dts lo h n v d) (hD : X < lo) : Dts lo (h.set X o) n v d := Dps.set (by omega) D
theorem Dt.any {p : Nat → Prop} {h : MH} {n : Nat} {v : MV} {d : PyData} (D : Dp p h n v d) : Dt 0 h n v d := Dp.to (Nat.le_refl _) (fun _ _ => Nat.zero_le _) D
mutual
theorem eqv_refl : ∀ d : PyData, PyData.canLay0 d = true → PyData.eqv d d = true
  | .none, _ => rfl
  | .bool _, _ => by simp [PyData.eqv]
  | .int _, _ => by simp [PyData.eqv]
  | .str _, _ => by simp [PyData.eqv]
  | .list xs, h => by rw [PyData.eqv]; exact eqvAll_refl xs (by rw [PyData.canLay0] at h; exact h)
  | .tuple xs, h => by rw [PyData.eqv]; exact eqvAll_refl xs (by rw [PyData.canLay0] at h; exact h)
  | .dict _, h => by rw [PyData.canLay0] at h; cases h
theorem eqvAll_refl : ∀ d : List PyData, PyData.canLayAll0 d = true → PyData.eqvAll d d = true
  | [], _ => rfl
  | x :: xs, h => by
    rw [PyData.canLayAll0, Bool.and_eq_true] at h
    rw [PyData.eqvAll, eqv_refl x h.1, eqvAll_refl xs h.2]
    rfl
end
theorem eqM_dt {lo lo' : Nat → Prop} {h : MH} {n m : Nat} {x y : MV} {d e : PyData} (hx : Dp lo h n x d) (hy : Dp lo' h m y e) (hn : n ≤ 64) (hm : m ≤ 64) : eqM h x y = some (PyData.eqv d e) := by
  have gen : (match dat h 65 x, dat h 65 y with
    | some d, some e => if SeqAt.shaped d && SeqAt.shaped e then some (PyData.eqv d e) else none
    | _, _ => none) = some (PyData.eqv d e) := by
    rw [hx.dat (by omega), hy.dat (by omega)]
    dsimp only
    have h1 : SeqAt.shaped d = true := by unfold SeqAt.shaped; rw [hx.lay.1, decide_eq_true (Nat.le_trans hx.lay.2 hn)]; rfl
    have h2 : SeqAt.shaped e = true := by unfold SeqAt.shaped; rw [hy.lay.1, decide_eq_true (Nat.le_trans hy.lay.2 hm)]; rfl
    rw [h1, h2]
    rfl
  cases hx with
  | non => cases hy <;> first | rfl | exact gen
  | bl b => cases hy <;> first | exact gen | (rw [eqM, PyData.eqv]; rfl)
  | int b => cases hy <;> first | exact gen | (rw [eqM, PyData.eqv]; rfl)
  | str b => cases hy <;> first | exact gen | (rw [eqM, PyData.eqv]; rfl)
  | tup b => cases hy <;> exact gen
  | ref l b => cases hy <;> exact gen
theorem cmp_eq {lo lo' : Nat → Prop} {h : MH} {n m : Nat} {x y : MV} {d e : PyData} {Q : Bool → Prop} (hx : Dp lo h n x d) (hy : Dp lo' h m y e) (hn : n ≤ 64) (hm : m ≤ 64) (q : Q (PyData.eqv d e)) : ∃ r, cmpM h .eq x y = some r ∧ Q r := ⟨_, eqM_dt hx hy hn hm, q⟩
theorem cmp_ne {lo lo' : Nat → Prop} {h : MH} {n m : Nat} {x y : MV} {d e : PyData} {Q : Bool → Prop} (hx : Dp lo h n x d) (hy : Dp lo' h m y e) (hn : n ≤ 64) (hm : m ≤ 64) (q : Q (!PyData.eqv d e)) : ∃ r, cmpM h .ne x y = some r ∧ Q r :=
  ⟨_, by unfold cmpM; dsimp only; rw [eqM_dt hx hy hn hm]; rfl, q⟩
theorem cmp_eq_same {lo lo' : Nat → Prop} {h : MH} {n m : Nat} {x y : MV} {d : PyData} {Q : Bool → Prop} (hx : Dp lo h n x d) (hy : Dp lo' h m y d) (hn : n ≤ 64) (hm : m ≤ 64) (q : Q true) : ∃ r, cmpM h .eq x y = some r ∧ Q r := cmp_eq hx hy hn hm (by rw [eqv_refl d hx.lay.1]; exact q)
theorem cmp_ne_same {lo lo' : Nat → Prop} {h : MH} {n m : Nat} {x y : MV} {d : PyData} {Q : Bool → Prop} (hx : Dp lo h n x d) (hy : Dp lo' h m y d) (hn : n ≤ 64) (hm : m ≤ 64) (q : Q false) : ∃ r, cmpM h .ne x y = some r ∧ Q r := cmp_ne hx hy hn hm (by rw [eqv_refl d hx.lay.1]; exact q)
theorem cmp_str_eq {h : MH} {x y : Str} {Q : Bool → Prop} (q : Q (decide (x = y))) : ∃ r, cmpM h .eq (.str x) (.str y) = some r ∧ Q r := ⟨_, rfl, q⟩
theorem Dps.strs {lo : Nat → Prop} {h : MH} {n : Nat} : ∀ {l : List Str}, (∀ x ∈ l, PyData.strOk x = true) → Dps lo h n (l.map .str) (l.map .str)
  | [], _ => .nil _
  | x :: l, hs => .cons (.str _ (hs x List.mem_cons_self)) (Dps.strs fun y hy => hs y (List.mem_cons_of_mem _ hy))
theorem Dps.ints {lo : Nat → Prop} {h : MH} {n : Nat} : ∀ {l : List Int}, Dps lo h n (l.map .int) (l.map .int)
  | [] => .nil _
  | x :: l => .cons (.int _ x) Dps.ints
theorem Dps.of {α : Type} {lo : Nat → Prop} {h : MH} {n : Nat} {f : α → MV} {g : α → PyData} : ∀ {l : List α}, (∀ x ∈ l, Dp lo h n (f x) (g x)) → Dps lo h n (l.map f) (l.map g)
  | [], _ => .nil _
  | x :: l, hs => .cons (hs x List.mem_cons_self) (Dps.of fun y hy => hs y (List.mem_cons_of_mem _ hy))
theorem strOk_of {x : Str} {s : String} (h : x = Str.ofString s) : PyData.strOk x = true := by
  subst h
  unfold PyData.strOk
  rw [Str.ofString_eq_toList]
  rw [← Array.all_toList]
  simp only [List.all_eq_true, List.mem_map]
  rintro _ ⟨c, _, rfl⟩
  have := c.valid
  simp only [decide_eq_true_eq]
  have h2 : c.toNat < 1114112 := by
    have : c.val.toNat < 1114112 := by
      rcases c.valid with h | h
      · exact Nat.lt_of_lt_of_le h (by decide)
      · exact h.2
    exact this
  exact h2
theorem cut_map {α β : Type} (f : α → β) (l : List α) (lo hi : Option Int) : cutM (l.map f) lo hi = (cutM l lo hi).map f := by
  unfold cutM
  rw [List.length_map, List.map_take, List.map_drop]
theorem cut_le {α : Type} (l : List α) (lo hi : Option Int) : (cutM l lo hi).length ≤ l.length := by
  unfold cutM
  simp only [List.length_take, List.length_drop]
  omega
theorem cut_mem {α : Type} {l : List α} {lo hi : Option Int} {x : α} (h : x ∈ cutM l lo hi) : x ∈ l := List.mem_of_mem_drop (List.mem_of_mem_take h)
theorem joinL_len (S : List Nat) : ∀ ps : List (List Nat), (TL.joinL S ps).length ≤ (ps.map List.length).sum + ps.length * S.length
  | [] => Nat.zero_le _
  | [p] => by simp [TL.joinL]
  | p :: q :: r => by
    have := joinL_len S (q :: r)
    rw [TL.joinL]
    simp only [List.length_append, List.map_cons, List.sum_cons, List.length_cons, Nat.add_mul, Nat.one_mul] at *
    omega
theorem join_len (y : Str) (ps : List Str) : (Txt.join y ps).length ≤ (ps.map (·.length)).sum + ps.length * y.length := by
  rw [TL.join_eq, TL.len_tl, TL.tl_join]
  have := joinL_len (TL.tl y) (ps.map TL.tl)
  rw [List.map_map, List.length_map] at this
  refine Nat.le_trans this ?_
  have e : (List.length ∘ TL.tl) = fun x : Str => x.length := by funext x; exact (TL.len_tl x).symm
  rw [e, TL.len_tl y]
  exact Nat.le_refl _
theorem sum_le {α : Type} {f : α → Nat} {m : Nat} : ∀ {l : List α}, (∀ x ∈ l, f x ≤ m) → (l.map f).sum ≤ l.length * m
  | [], _ => Nat.zero_le _
  | x :: l, h => by
    have h1 := h x List.mem_cons_self
    have h2 := sum_le (f := f) (m := m) (l := l) fun y hy => h y (List.mem_cons_of_mem _ hy)
    rw [List.map_cons, List.sum_cons, List.length_cons, Nat.add_mul, Nat.one_mul]
    omega
theorem TotS.mono {r : SR} {k : Ct4} {nx ct : MEnv → MH → Prop} (q : TotS r k) (h1 : ∀ e h, k.nx e h → nx e h) (h2 : ∀ e h, k.ct e h → ct e h) : TotS r { k with nx := nx, ct := ct } := by
  cases r with
  | next e h => exact h1 e h q
  | cont e h => exact h2 e h q
  | ret v h => exact q
  | brk e h => exact q
  | ex x e h => exact q
  | bad => exact q
section
variable {G : MG} {cl : Nat → List MV → MH → RS MV} {e : MEnv} {h : MH} {k : Ct4}
theorem s_forcells {t : Tg} {it : II} {b : ISs} (I : MEnv → MH → Prop) (q : Tot (evI G cl it e h) fun J h1 => ∃ a, ∃ xs : List Int, J = liveIt a xs.length ∧ MH.list h1 a = some (xs.map .int) ∧ I e h1)
    (turn : ∀ c e h, I e h → Tot (asT G cl t (.int c) e h) fun e1 h1 => TotS (evSs G cl b e1 h1) { k with nx := fun e2 h2 => I e2 h2 ∧ h <+: h2, ct := fun e2 h2 => I e2 h2 ∧ h <+: h2, bk := k.nx })
    (done : ∀ e h, I e h → k.nx e h) : TotS (evS G cl (.forr t it b) e h) k := by
  refine s_for' (q.use fun J h1 ⟨a, xs, e1, l, i0⟩ => ?_)
  subst e1
  refine ⟨fun i e h => I e h ∧ h1 <+: h, ⟨i0, List.prefix_refl _⟩, fun i e h hi ⟨inv, p⟩ => ?_⟩
  have hs := list_pre p l
  have hn : (liveIt a xs.length).nx i h = some (xs.map MV.int)[i]? := by unfold liveIt; dsimp only; rw [hs]
  rw [hn, List.getElem?_map]
  cases hx : xs[i]? with
  | none => exact .inl ⟨rfl, done e h inv⟩
  | some v =>
    refine .inr ⟨(List.getElem?_eq_some_iff.mp hx).1, _, rfl, (turn v e h inv).use fun e1 h2 q => ?_⟩
    refine TotS.mono q ?_ ?_
    · exact fun e2 h3 ⟨a, b⟩ => ⟨a, p.trans b⟩
    · exact fun e2 h3 ⟨a, b⟩ => ⟨a, p.trans b⟩
end
structure Iter.On (J : Iter) (h0 : MH) (xs : List MV) : Prop where
  n : J.n = xs.length
  nx : ∀ i h', h0 <+: h' → J.nx i h' = some xs[i]?
theorem on_fix (h0 : MH) (xs : List MV) : (fixIt xs).On h0 xs := ⟨rfl, fun _ _ _ => rfl⟩
theorem on_live {h0 : MH} {a : Nat} {xs : List MV} (l : MH.list h0 a = some xs) : (liveIt a xs.length).On h0 xs := ⟨rfl, fun i h' p => by unfold liveIt; dsimp only; rw [list_pre p l]⟩
def enumL (xs : List MV) (i : Nat) : List MV := match xs with | [] => [] | x :: r => .tup [.int i, x] :: enumL r (i + 1)
theorem enumL_at : ∀ (xs : List MV) (k i : Nat), (enumL xs k)[i]? = (xs[i]?).map fun y => .tup [.int ((k + i : Nat) : Int), y]
  | [], k, i => by simp [enumL]
  | x :: r, k, 0 => by simp [enumL]
  | x :: r, k, i + 1 => by
    rw [enumL, List.getElem?_cons_succ, List.getElem?_cons_succ, enumL_at r (k + 1) i]
    congr 1
    funext y
    congr 4
    omega
theorem enumL_len : ∀ (xs : List MV) (k : Nat), (enumL xs k).length = xs.length
  | [], _ => rfl
  | x :: r, k => by rw [enumL, List.length_cons, List.length_cons, enumL_len r]
theorem enum_on {h0 : MH} {a : Nat} {xs : List MV} {Q : Iter → Prop} (l : MH.list h0 a = some xs) (q : ∀ J : Iter, J.On h0 (enumL xs 0) → Q J) : ∃ J, enumIt h0 (.ref a) = some J ∧ Q J := by
  unfold enumIt
  dsimp only
  rw [l]
  refine ⟨_, rfl, q _ ⟨(enumL_len xs 0).symm, fun i h' p => ?_⟩⟩
  dsimp only
  rw [list_pre p l, enumL_at]
  simp only [Nat.zero_add]
theorem zip_on {h0 : MH} {a b : Nat} {xs ys : List MV} {Q : Iter → Prop} (l : MH.list h0 a = some xs) (l' : MH.list h0 b = some ys) (q : ∀ J : Iter, J.On h0 (List.zipWith (fun x y => .tup [x, y]) xs ys) → Q J) : ∃ J, zipIt h0 (.ref a) (.ref b) = some J ∧ Q J := by
  unfold zipIt
  dsimp only
  rw [l, l']
  refine ⟨_, rfl, q _ ⟨by simp, fun i h' p => ?_⟩⟩
  dsimp only
  rw [list_pre p l, list_pre p l', List.getElem?_zipWith]
  dsimp only
  cases xs[i]? <;> cases ys[i]? <;> rfl
section
variable {G : MG} {cl : Nat → List MV → MH → RS MV} {e : MEnv} {h : MH} {Q : MV → MH → Prop} {k : Ct4}
theorem s_foron {t : Tg} {it : II} {b : ISs} (q : Tot (evI G cl it e h) fun J h1 => ∃ (h0 : MH) (xs : List MV) (I : Nat → MEnv → MH → Prop), J.On h0 xs ∧ I 0 e h1 ∧ (∀ i e h, I i e h → h0 <+: h) ∧
    (∀ i v e h, xs[i]? = some v → I i e h → Tot (asT G cl t v e h) fun e1 h1 => TotS (evSs G cl b e1 h1) { k with nx := I (i + 1), ct := I (i + 1), bk := k.nx }) ∧
    (∀ e h, I xs.length e h → k.nx e h)) : TotS (evS G cl (.forr t it b) e h) k := by
  refine s_for' (q.use fun J h1 ⟨h0, xs, I, on, i0, stay, turn, done⟩ => ⟨I, i0, fun i e h hi inv => ?_⟩)
  rw [on.nx i h (stay i e h inv)]
  rw [on.n] at hi ⊢
  cases hx : xs[i]? with
  | none =>
    have : i = xs.length := by
      have := List.getElem?_eq_none_iff.mp hx
      omega
    subst this
    exact .inl ⟨rfl, done e h inv⟩
  | some v => exact .inr ⟨(List.getElem?_eq_some_iff.mp hx).1, v, rfl, turn i v e h hx inv⟩
theorem w_compf {elt : IE} {tg : Tg} {it : II} {own : List Nat} (q : Tot (evI G cl it e h) fun J h1 => ∃ (xs : List MV) (R : Nat → MV → MH → Prop), J.On h1 xs ∧ xs.length ≤ sizeLine ∧ (∀ j y h2 h3, R j y h2 → h2 <+: h3 → R j y h3) ∧ (∀ j y h2 o, R j y h2 → R j y (h2.set h1.length o)) ∧
    (∀ j v h2, xs[j]? = some v → h1 <+: h2 → h1.length < h2.length → Tot (asT G cl tg v (wipeM e own) h2) fun e1 h3 => Tot (evE G cl elt e1 h3) fun y h4 => h2 <+: h4 ∧ R j y h4) ∧
    (∀ ys h', h1 <+: h' → h1.length < h'.length → ys.length = xs.length → (∀ j y, ys[j]? = some y → R j y h') → MH.wlist h' h1.length = some ys → Q (.ref h1.length) h')) : Tot (evE G cl (.comp elt tg it .none own) e h) Q := by
  refine w_comp (q.use fun J h1 ⟨xs, R, on, hz, rp, rs, turn, done⟩ => ⟨fun i acc h2 => h1 <+: h2 ∧ h1.length < h2.length ∧ MH.wlist h2 h1.length = some acc ∧ acc.length = i ∧ ∀ j y, acc[j]? = some y → R j y h2, ?_, fun i acc h2 inv => inv.2.2.1, ?_⟩)
  · exact ⟨pre_app _ _, by simp, wlist_new, rfl, fun j y e => by simp at e⟩
  · rintro i acc h2 hi ⟨p, hlt, hw, hl, hr⟩
    rw [on.nx i h2 p]
    rw [on.n] at hi ⊢
    cases hx : xs[i]? with
    | none =>
      have : i = xs.length := by
        have := List.getElem?_eq_none_iff.mp hx
        omega
      exact .inl ⟨rfl, done acc h2 p hlt (hl.trans this) hr hw⟩
    | some v =>
      have hi' := (List.getElem?_eq_some_iff.mp hx).1
      refine .inr ⟨hi', v, rfl, (turn i v h2 hx p hlt).use fun e1 h3 q => w_cnone ⟨true, rfl, fun x => (by cases x), fun _ => q.use fun y h4 ⟨p2, r⟩ => ?_⟩⟩
      have hw4 := wlist_pre p2 hw
      refine ⟨hw4, by omega, pre_set (p.trans p2) (Nat.le_refl _), by rw [List.length_set]; exact wlist_lt hw4, wlist_set hw4, by simp [hl], fun j z hj => ?_⟩
      refine rs j z h4 _ ?_
      by_cases hji : j < acc.length
      · rw [List.getElem?_append_left hji] at hj
        exact rp j z h2 h4 (hr j z hj) p2
      · rw [List.getElem?_append_right (by omega)] at hj
        have : j - acc.length = 0 := by
          have := (List.getElem?_eq_some_iff.mp hj).1
          simp at this
          omega
        rw [this] at hj
        have e : y = z := by simpa using hj
        subst e
        have : j = i := by omega
        subst this
        exact r
theorem w_comp_dt {elt : IE} {tg : Tg} {it : II} {own : List Nat} (q : Tot (evI G cl it e h) fun J h1 => ∃ (xs : List MV) (ds : List PyData) (m : Nat), J.On h1 xs ∧ ds.length = xs.length ∧ xs.length ≤ sizeLine ∧
    (∀ (j : Nat) (v : MV) (d : PyData) (h2 : MH), xs[j]? = some v → ds[j]? = some d → h1 <+: h2 → h1.length < h2.length → Tot (asT G cl tg v (wipeM e own) h2) fun e1 h3 => Tot (evE G cl elt e1 h3) fun y h4 => h2 <+: h4 ∧ Dt (h1.length + 1) h4 m y d) ∧
    (∀ ys h', h1 <+: h' → Dts (h1.length + 1) h' m ys ds → MH.wlist h' h1.length = some ys → Q (.ref h1.length) h')) : Tot (evE G cl (.comp elt tg it .none own) e h) Q := by
  refine w_compf (q.use fun J h1 ⟨xs, ds, m, on, hl, hz, turn, done⟩ => ⟨xs, fun j y h2 => ∃ d, ds[j]? = some d ∧ Dt (h1.length + 1) h2 m y d, on, hz, ?_, ?_, ?_, ?_⟩)
  · exact fun j y h2 h3 ⟨d, e, r⟩ p => ⟨d, e, r.pre p⟩
  · exact fun j y h2 o ⟨d, e, r⟩ => ⟨d, e, r.set (by omega)⟩
  · intro j v h2 hx p hlt
    obtain ⟨hj, _⟩ := List.getElem?_eq_some_iff.mp hx
    have hd : ds[j]? = some ds[j] := List.getElem?_eq_getElem (by omega)
    exact (turn j v _ h2 hx hd p hlt).use fun e1 h3 q => q.use fun y h4 ⟨p2, r⟩ => ⟨p2, _, hd, r⟩
  · intro ys h' p hlt hy hr hw
    refine done ys h' p (Dps.of_at (by omega) fun i x y hx hd => ?_) hw
    obtain ⟨d, e, r⟩ := hr i x hx
    rw [hd] at e
    cases e
    exact r
end
section
variable {G : MG} {cl : Nat → List MV → MH → RS MV} {e : MEnv} {h : MH} {k : Ct4}
theorem s_whilen {c : IE} {b : ISs} (I : Nat → MEnv → MH → Prop) (m0 : Nat) (i0 : I m0 e h) (hm : m0 < G.wf)
    (turn : ∀ m e h, I m e h → Tot (evE G cl c e h) fun x h1 => ∃ d, x = .bl d ∧ (d = true → TotS (evSs G cl b e h1) { k with nx := fun e2 h2 => ∃ m', m' < m ∧ I m' e2 h2, ct := fun e2 h2 => ∃ m', m' < m ∧ I m' e2 h2, bk := k.nx }) ∧ (d = false → k.nx e h1)) : TotS (evS G cl (.whl c b) e h) k := by
  rw [evS]
  have go : ∀ f m e h, m < f → I m e h → TotS (whileLoop (evE G cl c) (evSs G cl b) f e h) k := by
    intro f
    induction f with
    | zero => intro m e h z; omega
    | succ f ih =>
      intro m e h z inv
      obtain ⟨x, h1, e1, d, e2, q1, q2⟩ := turn m e h inv
      subst e2
      rw [whileLoop, e1]
      cases d with
      | false => exact q2 rfl
      | true =>
        dsimp only
        have q := q1 rfl
        cases hb : evSs G cl b e h1 with
        | next e2 h2 => rw [hb] at q; obtain ⟨m', hm', i2⟩ := q; exact ih m' e2 h2 (by omega) i2
        | cont e2 h2 => rw [hb] at q; obtain ⟨m', hm', i2⟩ := q; exact ih m' e2 h2 (by omega) i2
        | brk e2 h2 => rw [hb] at q; exact q
        | ret v h2 => rw [hb] at q; exact q
        | ex x e2 h2 => rw [hb] at q; exact q
        | bad => rw [hb] at q; exact q
  exact go G.wf m0 e h hm i0
end
theorem pop_ref {h : MH} {a : Nat} {xs : List MV} {y : MV} {Q : MV → MH → Prop} (la : MH.wlist h a = some (xs ++ [y])) (q : Q y (h.set a (.lst xs))) : Tot (mtM .pop (.ref a) [] h) Q := by
  unfold mtM
  dsimp only
  rw [la]
  dsimp only
  have e : (xs ++ [y])[(xs ++ [y]).length - 1]? = some y := by simp
  rw [e, List.dropLast_concat]
  exact .ok q
theorem mul_ref {h : MH} {a : Nat} {k : Int} (n : Nat) {xs : List MV} {Q : MV → MH → Prop} (la : MH.wlist h a = some xs) (hk : k = n) (hn : n < 2 ^ 62) (hz : xs.length * n ≤ sizeLine) (q : Q (.ref h.length) (h ++ [.lst (List.replicate n xs).flatten])) : Tot (binM .mul (.ref a) (.int k) h) Q := by
  subst hk
  unfold binM
  dsimp only
  rw [la]
  dsimp only
  rw [if_pos, Int.toNat_natCast]
  · exact .ok q
  · rw [Bool.and_eq_true, Bool.and_eq_true]
    exact ⟨⟨decide_eq_true (by omega), decide_eq_true (by omega)⟩, decide_eq_true (by rw [Int.toNat_natCast]; exact hz)⟩
theorem len_rng (lo : Int) (n : Nat) : (rangeI lo n).length = n := range_len n lo
theorem isin_ref {h : MH} {a : Nat} {xs : List MV} {ts : List Ty} {Q : Bool → Prop} (l : MH.list h a = some xs) (q : Q (ts.any fun t => t = .tlist)) : ∃ r, isM h ts (.ref a) = some r ∧ Q r := ⟨_, by unfold isM tyM; dsimp only; rw [l], q⟩
mutual
theorem Dp.low {p : Nat → Prop} {h : MH} {n : Nat} {v : MV} {d : PyData} : Dp p h n v d → Dp (fun i => p i ∧ i < h.length) h n v d
  | .non _ => .non _
  | .bl _ b => .bl _ b
  | .int _ i => .int _ i
  | .str _ e => .str _ e
  | .tup s => .tup (Dps.low s)
  | .ref z l s => .ref ⟨z, wlist_lt l⟩ l (Dps.low s)
theorem Dps.low {p : Nat → Prop} {h : MH} {n : Nat} {v : List MV} {d : List PyData} : Dps p h n v d → Dps (fun i => p i ∧ i < h.length) h n v d
  | .nil _ => .nil _
  | .cons a b => .cons (Dp.low a) (Dps.low b)
end
theorem Dps.set_at {p : Nat → Prop} {h : MH} {n : Nat} : ∀ {v : List MV} {d : List PyData} {j : Nat} {x : MV} {y : PyData}, Dps p h n v d → Dp p h n x y → Dps p h n (v.set j x) (d.set j y)
  | _, _, _, _, _, .nil _, _ => .nil _
  | _, _, 0, _, _, .cons a b, D => .cons D b
  | _, _, j + 1, _, _, .cons a b, D => .cons a (Dps.set_at b D)
theorem Dps.rep {p : Nat → Prop} {h : MH} {m : Nat} {v : MV} {d : PyData} (D : Dp p h m v d) : ∀ n, Dps p h m (List.replicate n v) (List.replicate n d)
  | 0 => .nil _
  | n + 1 => .cons D (Dps.rep D n)
theorem Dps.reps {p : Nat → Prop} {h : MH} {m : Nat} {v : List MV} {d : List PyData} (D : Dps p h m v d) : ∀ n, Dps p h m (List.replicate n v).flatten (List.replicate n d).flatten
  | 0 => .nil _
  | n + 1 => by rw [List.replicate_succ, List.replicate_succ, List.flatten_cons, List.flatten_cons]; exact D.app (Dps.reps D n)
theorem Dps.drop {p : Nat → Prop} {h : MH} {m : Nat} : ∀ {v : List MV} {d : List PyData} (n : Nat), Dps p h m v d → Dps p h m (v.drop n) (d.drop n)
  | _, _, 0, D => D
  | _, _, n + 1, .nil _ => .nil _
  | _, _, n + 1, .cons a b => Dps.drop n b
theorem Dps.take {p : Nat → Prop} {h : MH} {m : Nat} : ∀ {v : List MV} {d : List PyData} (n : Nat), Dps p h m v d → Dps p h m (v.take n) (d.take n)
  | _, _, 0, D => .nil _
  | _, _, n + 1, .nil _ => .nil _
  | _, _, n + 1, .cons a b => .cons a (Dps.take n b)
theorem Dps.cut {p : Nat → Prop} {h : MH} {m : Nat} {v : List MV} {d : List PyData} (lo hi : Option Int) (D : Dps p h m v d) : Dps p h m (cutM v lo hi) (cutM d lo hi) := by
  unfold cutM
  rw [D.len]
  exact (D.drop _).take _
theorem flat_len {α : Type} (n : Nat) (xs : List α) : (List.replicate n xs).flatten.length = n * xs.length := by
  induction n with
  | zero => simp
  | succ n ih => rw [List.replicate_succ, List.flatten_cons, List.length_append, ih, Nat.add_mul, Nat.one_mul]; omega
theorem Dp.near {p : Nat → Prop} {h h' : MH} {k m m' : Nat} {v : MV} {d : PyData} (D : Dp p h m v d) (q : h <+: h') (hm : m ≤ m') : Dp (fun i => p i ∨ k ≤ i) h' m' v d := (D.pre q).to hm (fun _ z => .inl z)
theorem Dps.near {p : Nat → Prop} {h h' : MH} {k m m' : Nat} {v : List MV} {d : List PyData} (D : Dps p h m v d) (q : h <+: h') (hm : m ≤ m') : Dps (fun i => p i ∨ k ≤ i) h' m' v d := (D.pre q).to hm (fun _ z => .inl z)
end M
namespace M
open PySem
structure Ex (S : Nat → Prop) (h h' : MH) : Prop where
  len : h.length ≤ h'.length
  at_ : ∀ i o, ¬ S i → h[i]? = some o → h'[i]? = some o
theorem Ex.refl (S : Nat → Prop) (h : MH) : Ex S h h := ⟨Nat.le_refl _, fun _ _ _ e => e⟩
theorem Ex.of_pre {S : Nat → Prop} {h h' : MH} (p : h <+: h') : Ex S h h' := ⟨p.length_le, fun _ _ _ e => at_pre p e⟩
theorem Ex.trans {S : Nat → Prop} {h h' h'' : MH} (a : Ex S h h') (b : Ex S h' h'') : Ex S h h'' := ⟨Nat.le_trans a.len b.len, fun i o n e => b.at_ i o n (a.at_ i o n e)⟩
theorem Ex.to {S S' : Nat → Prop} {h h' : MH} (a : Ex S h h') (f : ∀ i, i < h.length → S i → S' i) : Ex S' h h' := ⟨a.len, fun i o n e => a.at_ i o (fun s => n (f i (List.getElem?_eq_some_iff.mp e).1 s)) e⟩
theorem Ex.set {S : Nat → Prop} {h h' : MH} {D : Nat} {o : MO} (a : Ex S h h') (hD : S D ∨ h.length ≤ D) : Ex S h (h'.set D o) := by
  refine ⟨by rw [List.length_set]; exact a.len, fun i u n e => ?_⟩
  have hi := (List.getElem?_eq_some_iff.mp e).1
  rw [List.getElem?_set_ne]
  · exact a.at_ i u n e
  · rintro rfl
    rcases hD with s | s
    · exact n s
    · omega
theorem Ex.app {S : Nat → Prop} {h h' e : MH} (a : Ex S h h') : Ex S h (h' ++ e) := a.trans (.of_pre (pre_app _ _))
theorem Ex.list {S : Nat → Prop} {h h' : MH} (a : Ex S h h') {i : Nat} {xs : List MV} (n : ¬ S i) (e : MH.list h i = some xs) : MH.list h' i = some xs := by
  unfold MH.list at e ⊢
  cases q : h[i]? with
  | none => rw [q] at e; cases e
  | some o => rw [a.at_ i o n q]; rw [q] at e; exact e
theorem Ex.wlist {S : Nat → Prop} {h h' : MH} (a : Ex S h h') {i : Nat} {xs : List MV} (n : ¬ S i) (e : MH.wlist h i = some xs) : MH.wlist h' i = some xs := by
  unfold MH.wlist at e ⊢
  cases q : h[i]? with
  | none => rw [q] at e; cases e
  | some o => rw [a.at_ i o n q]; rw [q] at e; exact e
mutual
theorem Dp.ex {p S : Nat → Prop} {h h' : MH} (a : Ex S h h') (f : ∀ i, p i → i < h.length → ¬ S i) {n : Nat} {v : MV} {d : PyData} : Dp p h n v d → Dp p h' n v d
  | .non _ => .non _
  | .bl _ b => .bl _ b
  | .int _ i => .int _ i
  | .str _ e => .str _ e
  | .tup s => .tup (Dps.ex a f s)
  | .ref z l s => .ref z (a.wlist (f _ z (wlist_lt l)) l) (Dps.ex a f s)
theorem Dps.ex {p S : Nat → Prop} {h h' : MH} (a : Ex S h h') (f : ∀ i, p i → i < h.length → ¬ S i) {n : Nat} {v : List MV} {d : List PyData} : Dps p h n v d → Dps p h' n v d
  | .nil _ => .nil _
  | .cons x y => .cons (Dp.ex a f x) (Dps.ex a f y)
end
structure Iter.OnX (J : Iter) (S : Nat → Prop) (h0 : MH) (xs : List MV) : Prop where
  n : J.n = xs.length
  nx : ∀ i h', Ex S h0 h' → J.nx i h' = some xs[i]?
theorem onx_fix (S : Nat → Prop) (h0 : MH) (xs : List MV) : (fixIt xs).OnX S h0 xs := ⟨rfl, fun _ _ _ => rfl⟩
theorem onx_live {S : Nat → Prop} {h0 : MH} {a : Nat} {xs : List MV} (l : MH.list h0 a = some xs) (n : ¬ S a) : (liveIt a xs.length).OnX S h0 xs := ⟨rfl, fun i h' p => by unfold liveIt; dsimp only; rw [p.list n l]⟩
theorem onx_enum {S : Nat → Prop} {h0 : MH} {a : Nat} {xs : List MV} {Q : Iter → Prop} (l : MH.list h0 a = some xs) (n : ¬ S a) (q : ∀ J : Iter, J.OnX S h0 (enumL xs 0) → Q J) : ∃ J, enumIt h0 (.ref a) = some J ∧ Q J := by
  unfold enumIt
  dsimp only
  rw [l]
  refine ⟨_, rfl, q _ ⟨(enumL_len xs 0).symm, fun i h' p => ?_⟩⟩
  dsimp only
  rw [p.list n l, enumL_at]
  simp only [Nat.zero_add]
section
variable {G : MG} {cl : Nat → List MV → MH → RS MV} {e : MEnv} {h : MH} {Q : MV → MH → Prop} {k : Ct4}
theorem s_forx (S : Nat → Prop) {t : Tg} {it : II} {b : ISs} (q : Tot (evI G cl it e h) fun J h1 => ∃ (h0 : MH) (xs : List MV) (I : Nat → MEnv → MH → Prop), J.OnX S h0 xs ∧ I 0 e h1 ∧ (∀ i e h, I i e h → Ex S h0 h) ∧
    (∀ i v e h, xs[i]? = some v → I i e h → Tot (asT G cl t v e h) fun e1 h1 => TotS (evSs G cl b e1 h1) { k with nx := I (i + 1), ct := I (i + 1), bk := k.nx }) ∧
    (∀ e h, I xs.length e h → k.nx e h)) : TotS (evS G cl (.forr t it b) e h) k := by
  refine s_for' (q.use fun J h1 ⟨h0, xs, I, on, i0, stay, turn, done⟩ => ⟨I, i0, fun i e h hi inv => ?_⟩)
  rw [on.nx i h (stay i e h inv)]
  rw [on.n] at hi ⊢
  cases hx : xs[i]? with
  | none =>
    have : i = xs.length := by
      have := List.getElem?_eq_none_iff.mp hx
      omega
    subst this
    exact .inl ⟨rfl, done e h inv⟩
  | some v => exact .inr ⟨(List.getElem?_eq_some_iff.mp hx).1, v, rfl, turn i v e h hx inv⟩
theorem w_compx (S : Nat → Prop) {elt : IE} {tg : Tg} {it : II} {own : List Nat} (q : Tot (evI G cl it e h) fun J h1 => ∃ (xs : List MV) (R : Nat → MV → MH → Prop) (V : Nat → MH → Prop), J.OnX S h1 xs ∧ xs.length ≤ sizeLine ∧ ¬ S h1.length ∧
    (∀ j y h2 h3, R j y h2 → Ex S h2 h3 → R j y h3) ∧ (∀ j y h2 o, R j y h2 → R j y (h2.set h1.length o)) ∧ V 0 (h1 ++ [.lst []]) ∧ (∀ j h2 o, V j h2 → V j (h2.set h1.length o)) ∧
    (∀ j v h2, xs[j]? = some v → V j h2 → Ex S h1 h2 → h1.length < h2.length → Tot (asT G cl tg v (wipeM e own) h2) fun e1 h3 => Tot (evE G cl elt e1 h3) fun y h4 => Ex S h2 h4 ∧ R j y h4 ∧ V (j + 1) h4) ∧
    (∀ ys h', Ex S h1 h' → h1.length < h'.length → ys.length = xs.length → (∀ j y, ys[j]? = some y → R j y h') → V xs.length h' → MH.wlist h' h1.length = some ys → Q (.ref h1.length) h')) : Tot (evE G cl (.comp elt tg it .none own) e h) Q := by
  refine w_comp (q.use fun J h1 ⟨xs, R, V, on, hz, nS, rp, rs, v0, vs, turn, done⟩ => ⟨fun i acc h2 => Ex S h1 h2 ∧ h1.length < h2.length ∧ MH.wlist h2 h1.length = some acc ∧ acc.length = i ∧ (∀ j y, acc[j]? = some y → R j y h2) ∧ V i h2, ?_, fun i acc h2 inv => inv.2.2.1, ?_⟩)
  · exact ⟨.of_pre (pre_app _ _), by simp, wlist_new, rfl, fun j y e => by simp at e, v0⟩
  · rintro i acc h2 hi ⟨p, hlt, hw, hl, hr, hv⟩
    rw [on.nx i h2 p]
    rw [on.n] at hi ⊢
    cases hx : xs[i]? with
    | none =>
      have hi2 : i = xs.length := by
        have := List.getElem?_eq_none_iff.mp hx
        omega
      refine .inl ⟨rfl, done acc h2 p hlt (hl.trans hi2) hr ?_ hw⟩
      rw [← hi2]
      exact hv
    | some v =>
      have hi' := (List.getElem?_eq_some_iff.mp hx).1
      refine .inr ⟨hi', v, rfl, (turn i v h2 hx hv p hlt).use fun e1 h3 q => w_cnone ⟨true, rfl, fun x => (by cases x), fun _ => q.use fun y h4 ⟨p2, r, hv4⟩ => ?_⟩⟩
      have hw4 := p2.wlist nS hw
      refine ⟨hw4, by omega, (p.trans p2).set (.inr (Nat.le_refl _)), by rw [List.length_set]; exact wlist_lt hw4, wlist_set hw4, by simp [hl], fun j z hj => ?_, vs _ _ _ hv4⟩
      refine rs j z h4 _ ?_
      by_cases hji : j < acc.length
      · rw [List.getElem?_append_left hji] at hj
        exact rp j z h2 h4 (hr j z hj) p2
      · rw [List.getElem?_append_right (by omega)] at hj
        have : j - acc.length = 0 := by
          have := (List.getElem?_eq_some_iff.mp hj).1
          simp at this
          omega
        rw [this] at hj
        have e : y = z := by simpa using hj
        subst e
        have : j = i := by omega
        subst this
        exact r
end
structure Tp (h : MH) (T C : Nat) (cells : List Int) (N : Nat) : Prop where
  ex : ∃ (s : Nat) (r k : Int), s ≤ N ∧ 0 ≤ r ∧ MH.wlist h T = some [.ref C, .int s, .int r, .int k]
  cs : MH.list h C = some (cells.map .int)
  ne : T ≠ C
theorem Tp.ex' {S : Nat → Prop} {h h' : MH} {T C : Nat} {cells : List Int} {N : Nat} (t : Tp h T C cells N) (a : Ex S h h') (n1 : ¬ S T) (n2 : ¬ S C) : Tp h' T C cells N := by
  obtain ⟨s, r, k, h1, h2, h3⟩ := t.ex
  exact ⟨⟨s, r, k, h1, h2, a.wlist n1 h3⟩, a.list n2 t.cs, t.ne⟩
theorem Tp.pre {h h' : MH} {T C : Nat} {cells : List Int} {N : Nat} (t : Tp h T C cells N) (p : h <+: h') : Tp h' T C cells N := t.ex' (S := fun _ => False) (.of_pre p) (fun z => z) (fun z => z)
theorem Tp.set {h : MH} {T C : Nat} {cells : List Int} {N D : Nat} {o : MO} (t : Tp h T C cells N) (n1 : D ≠ T) (n2 : D ≠ C) : Tp (h.set D o) T C cells N := by
  obtain ⟨s, r, k, h1, h2, h3⟩ := t.ex
  exact ⟨⟨s, r, k, h1, h2, (wlist_set_ne n1).trans h3⟩, (list_set_ne n2).trans t.cs, t.ne⟩
theorem Tp.up {h : MH} {T C : Nat} {cells : List Int} {N M : Nat} (t : Tp h T C cells N) (hm : N ≤ M) : Tp h T C cells M := by
  obtain ⟨s, r, k, h1, h2, h3⟩ := t.ex
  exact ⟨⟨s, r, k, by omega, h2, h3⟩, t.cs, t.ne⟩
theorem Tp.lt {h : MH} {T C : Nat} {cells : List Int} {N : Nat} (t : Tp h T C cells N) : T < h.length ∧ C < h.length := by
  obtain ⟨s, r, k, h1, h2, h3⟩ := t.ex
  exact ⟨wlist_lt h3, list_lt t.cs⟩
theorem TotS.cut {G : MG} {cl : Nat → List MV → MH → RS MV} {e : MEnv} {h : MH} {k : Ct4} {s : IS} {r : ISs} (P : MEnv → MH → Prop) (q : TotS (evS G cl s e h) { k with nx := P }) (f : ∀ e h, P e h → TotS (evSs G cl r e h) k) : TotS (evSs G cl (.cons s r) e h) k :=
  TotS.seq (by
    cases hs : evS G cl s e h <;> rw [hs] at q <;> first | exact f _ _ q | exact q)
theorem mul_l {h : MH} {i j : Int} {Q : MV → MH → Prop} (a : -18446744073709551616 < i) (b : i < 18446744073709551616) (q : Q (.int (i * j)) h) : Tot (binM .mul (.int i) (.int j) h) Q := by
  refine Tot.eq (v := .int (i * j)) (h := h) ?_ q
  unfold binM
  dsimp only
  rw [if_pos]
  unfold mulOk
  rw [Bool.or_eq_true]
  exact .inl (by rw [Bool.and_eq_true]; exact ⟨decide_eq_true a, decide_eq_true b⟩)
theorem mul_r {h : MH} {i j : Int} {Q : MV → MH → Prop} (a : -18446744073709551616 < j) (b : j < 18446744073709551616) (q : Q (.int (i * j)) h) : Tot (binM .mul (.int i) (.int j) h) Q := by
  refine Tot.eq (v := .int (i * j)) (h := h) ?_ q
  unfold binM
  dsimp only
  rw [if_pos]
  unfold mulOk
  rw [Bool.or_eq_true]
  exact .inr (by rw [Bool.and_eq_true]; exact ⟨decide_eq_true a, decide_eq_true b⟩)
theorem mul_q {h : MH} {i j : MV} {Q : MV → MH → Prop} (q : Tot (binM .mul i j h) Q) : Tot (binM .mul i j h) Q := q
end M
namespace Law
open PySem L2 M
def top (i : Nat) : Stmt := PySem.Challenge.pw_broadrow_k35_behind_one_another_and_firs.main.body.getD i (.Pass ⟨0, 0, 0, 0⟩)
abbrev i_flat_of : Nat := 21
def c_flat_of : ISs :=
  (.cons (.ife (.cmp .eq (.idx (.var 0) (.int 0)) (.str "pair")) (
    (.cons (.asg (.name 2) (.comp (.idx (.var 5) (.int 0)) (.name 5) (.seq (.var 1)) .none [5]))
    (.cons (.asg (.name 3) (.comp (.idx (.var 5) (.int 1)) (.name 5) (.seq (.var 1)) .none [5]))
    (.cons (.ret (.tup (.cons (.call 21 (.cons (.idx (.var 0) (.int 1)) (.cons (.var 2) .nil))) (.cons (.call 21 (.cons (.idx (.var 0) (.int 2)) (.cons (.var 3) .nil))) .nil)))) .nil)))) ( .nil))
  (.cons (.ife (.cmp .eq (.idx (.var 0) (.int 0)) (.str "row")) (
    (.cons (.asg (.name 4) (.lst .nil))
    (.cons (.forr (.name 5) (.seq (.var 1)) (
      (.cons (.expr (.mth .extend (.var 4) (.cons (.var 5) .nil))) .nil)))
    (.cons (.ret (.tup (.cons (.comp (.bi .len (.cons (.var 5) .nil)) (.name 5) (.seq (.var 1)) .none [5]) (.cons (.call 21 (.cons (.idx (.var 0) (.int 1)) (.cons (.var 4) .nil))) .nil)))) .nil)))) ( .nil))
  (.cons (.ret (.bi .list (.cons (.var 1) .nil))) .nil)))
def f_flat_of : Fn := ⟨"flat_of", ["kind", "worths"], ["kind", "worths", "firsts", "seconds", "things", "worth"], c_flat_of, []⟩
abbrev i_begins : Nat := 40
def c_begins : ISs :=
  (.cons (.asg (.name 1) (.lst .nil))
  (.cons (.asg (.name 2) (.int 0))
  (.cons (.forr (.name 3) (.seq (.var 0)) (
    (.cons (.expr (.mth .append (.var 1) (.cons (.var 2) .nil)))
    (.cons (.asg (.name 2) (.bop .add (.var 2) (.var 3))) .nil))))
  (.cons (.ret (.var 1)) .nil))))
def f_begins : Fn := ⟨"begins", ["lengths"], ["lengths", "found", "at", "length"], c_begins, []⟩
abbrev i_numbers_within : Nat := 41
def c_numbers_within : ISs :=
  (.cons (.asg (.name 2) (.call 40 (.cons (.var 0) .nil)))
  (.cons (.asg (.name 3) (.lst .nil))
  (.cons (.forr (.name 4) (.seq (.var 1)) (
    (.cons (.expr (.mth .extend (.var 3) (.cons (.lrng2 (.idx (.var 2) (.var 4)) (.bop .add (.idx (.var 2) (.var 4)) (.idx (.var 0) (.var 4)))) .nil))) .nil)))
  (.cons (.ret (.var 3)) .nil))))
def f_numbers_within : Fn := ⟨"numbers_within", ["lengths", "numbers"], ["lengths", "numbers", "starts", "found", "number"], c_numbers_within, []⟩
abbrev i_chosen : Nat := 42
def c_chosen : ISs :=
  (.cons (.ife (.cmp .eq (.idx (.var 0) (.int 0)) (.str "pair")) (
    (.cons (.ret (.tup (.cons (.call 42 (.cons (.idx (.var 0) (.int 1)) (.cons (.idx (.var 1) (.int 0)) (.cons (.var 2) .nil)))) (.cons (.call 42 (.cons (.idx (.var 0) (.int 2)) (.cons (.idx (.var 1) (.int 1)) (.cons (.var 2) .nil)))) .nil)))) .nil)) ( .nil))
  (.cons (.ife (.cmp .eq (.idx (.var 0) (.int 0)) (.str "row")) (
    (.cons (.asg (.name 3) (.comp (.idx (.idx (.var 1) (.int 0)) (.var 4)) (.name 4) (.seq (.var 2)) .none [4]))
    (.cons (.ret (.tup (.cons (.var 3) (.cons (.call 42 (.cons (.idx (.var 0) (.int 1)) (.cons (.idx (.var 1) (.int 1)) (.cons (.call 41 (.cons (.idx (.var 1) (.int 0)) (.cons (.var 2) .nil))) .nil)))) .nil)))) .nil))) ( .nil))
  (.cons (.ret (.comp (.idx (.var 1) (.var 4)) (.name 4) (.seq (.var 2)) .none [4])) .nil)))
def f_chosen : Fn := ⟨"chosen", ["kind", "flat", "numbers"], ["kind", "flat", "numbers", "lengths", "number"], c_chosen, []⟩
abbrev i_behind : Nat := 43
def c_behind : ISs :=
  (.cons (.ife (.cmp .eq (.idx (.var 0) (.int 0)) (.str "pair")) (
    (.cons (.ret (.tup (.cons (.call 43 (.cons (.idx (.var 0) (.int 1)) (.cons (.idx (.var 1) (.int 0)) (.cons (.idx (.var 2) (.int 0)) .nil)))) (.cons (.call 43 (.cons (.idx (.var 0) (.int 2)) (.cons (.idx (.var 1) (.int 1)) (.cons (.idx (.var 2) (.int 1)) .nil)))) .nil)))) .nil)) ( .nil))
  (.cons (.ife (.cmp .eq (.idx (.var 0) (.int 0)) (.str "row")) (
    (.cons (.ret (.tup (.cons (.bop .add (.idx (.var 1) (.int 0)) (.idx (.var 2) (.int 0))) (.cons (.call 43 (.cons (.idx (.var 0) (.int 1)) (.cons (.idx (.var 1) (.int 1)) (.cons (.idx (.var 2) (.int 1)) .nil)))) .nil)))) .nil)) ( .nil))
  (.cons (.ret (.bop .add (.var 1) (.var 2))) .nil)))
def f_behind : Fn := ⟨"behind", ["kind", "one", "other"], ["kind", "one", "other"], c_behind, []⟩
abbrev i_first_ones : Nat := 44
def c_first_ones : ISs :=
  (.cons (.ret (.call 42 (.cons (.var 0) (.cons (.var 1) (.cons (.lrng1 (.var 2)) .nil))))) .nil)
def f_first_ones : Fn := ⟨"first_ones", ["kind", "flat", "many"], ["kind", "flat", "many"], c_first_ones, []⟩
abbrev i_law_draw : Nat := 24
def c_law_draw : ISs :=
  (.cons (.ife (.cmp .gt (.idx (.var 0) (.int 3)) (.int 0)) (
    (.cons (.asg (.sub (.var 0) (.int 3)) (.bop .sub (.idx (.var 0) (.int 3)) (.int 1)))
    (.cons (.asg (.name 5) (.idx (.var 0) (.int 2)))
    (.cons (.asg (.sub (.var 0) (.int 2)) (.bop .fdiv (.var 5) (.var 1)))
    (.cons (.ret (.bop .mod (.var 5) (.var 1))) .nil))))) ( .nil))
  (.cons (.asg (.name 2) (.idx (.var 0) (.int 1)))
  (.cons (.asg (.sub (.var 0) (.int 1)) (.bop .add (.var 2) (.int 1)))
  (.cons (.asg (.name 3) (.int 0))
  (.cons (.ife (.cmp .gt (.bi .len (.cons (.idx (.var 0) (.int 0)) .nil)) (.int 0)) (
    (.cons (.asg (.name 3) (.idx (.idx (.var 0) (.int 0)) (.bop .mod (.var 2) (.bi .len (.cons (.idx (.var 0) (.int 0)) .nil))))) .nil)) ( .nil))
  (.cons (.ife (.and (.cmp .lt (.var 2) (.bi .len (.cons (.idx (.var 0) (.int 0)) .nil))) (.cmp .ge (.var 3) (.bop .pow (.int 10) (.int 18)))) (
    (.cons (.asg (.sub (.var 0) (.int 2)) (.bop .sub (.var 3) (.bop .pow (.int 10) (.int 18))))
    (.cons (.asg (.sub (.var 0) (.int 3)) (.int 40))
    (.cons (.ret (.call 24 (.cons (.var 0) (.cons (.var 1) .nil)))) .nil)))) ( .nil))
  (.cons (.asg (.name 4) (.bop .mul (.bop .add (.bop .mod (.var 3) (.int 999983)) (.int 3)) (.bop .add (.bop .add (.bop .mod (.bop .mul (.var 2) (.var 2)) (.int 10007)) (.bop .mul (.int 61) (.var 2))) (.int 7))))
  (.cons (.asg (.name 4) (.bop .mod (.bop .mul (.bop .mod (.var 4) (.int 1000003)) (.bop .mod (.var 4) (.int 1000003))) (.int 999979)))
  (.cons (.ret (.bop .mod (.bop .mod (.bop .add (.bop .fdiv (.var 4) (.int 3)) (.bop .mul (.int 131) (.var 2))) (.int 99991)) (.var 1))) .nil)))))))))
def f_law_draw : Fn := ⟨"_law_draw", ["tape", "many"], ["tape", "many", "spot", "cell", "number", "rest"], c_law_draw, []⟩
abbrev i_law_number_2 : Nat := 25
def c_law_number_2 : ISs :=
  (.cons (.asg (.name 1) (.call 24 (.cons (.var 0) (.cons (.int 6) .nil))))
  (.cons (.ife (.cmp .lt (.var 1) (.int 4)) (
    (.cons (.ret (.bop .sub (.call 24 (.cons (.var 0) (.cons (.int 19) .nil))) (.int 9))) .nil)) ( .nil))
  (.cons (.ife (.cmp .eq (.var 1) (.int 4)) (
    (.cons (.asg (.name 3) (.bop .pow (.int 10) (.int 18)))
    (.cons (.ret (.idx (.lst (.cons (.var 3) (.cons (.bop .sub (.int 0) (.var 3)) (.cons (.bop .sub (.var 3) (.int 1)) (.cons (.bop .sub (.int 1) (.var 3)) (.cons (.int 0) .nil)))))) (.call 24 (.cons (.var 0) (.cons (.int 5) .nil))))) .nil))) ( .nil))
  (.cons (.asg (.name 2) (.bop .mul (.call 24 (.cons (.var 0) (.cons (.bop .pow (.int 10) (.int 6)) .nil))) (.bop .pow (.int 10) (.int 12))))
  (.cons (.asg (.name 2) (.bop .add (.var 2) (.bop .mul (.call 24 (.cons (.var 0) (.cons (.bop .pow (.int 10) (.int 6)) .nil))) (.bop .pow (.int 10) (.int 6)))))
  (.cons (.asg (.name 2) (.bop .add (.var 2) (.call 24 (.cons (.var 0) (.cons (.bop .pow (.int 10) (.int 6)) .nil)))))
  (.cons (.ret (.bop .mul (.var 2) (.bop .sub (.int 1) (.bop .mul (.int 2) (.call 24 (.cons (.var 0) (.cons (.int 2) .nil))))))) .nil)))))))
def f_law_number_2 : Fn := ⟨"_law_number", ["tape"], ["tape", "way", "great", "top"], c_law_number_2, []⟩
abbrev i_law_kind_2 : Nat := 26
def c_law_kind_2 : ISs :=
  (.cons (.asg (.name 2) (.call 24 (.cons (.var 0) (.cons (.int 6) .nil))))
  (.cons (.ife (.or (.cmp .eq (.var 1) (.int 1)) (.cmp .lt (.var 2) (.int 2))) (
    (.cons (.ret (.idx (.lst (.cons (.tup (.cons (.str "num") .nil)) (.cons (.tup (.cons (.str "truth") .nil)) .nil))) (.bop .mod (.var 2) (.int 2)))) .nil)) ( .nil))
  (.cons (.ife (.cmp .lt (.var 2) (.int 4)) (
    (.cons (.asg (.name 3) (.call 26 (.cons (.var 0) (.cons (.bop .sub (.var 1) (.int 1)) .nil))))
    (.cons (.ret (.tup (.cons (.str "pair") (.cons (.var 3) (.cons (.call 26 (.cons (.var 0) (.cons (.bop .sub (.var 1) (.int 1)) .nil))) .nil))))) .nil))) ( .nil))
  (.cons (.ret (.tup (.cons (.str "row") (.cons (.call 26 (.cons (.var 0) (.cons (.bop .sub (.var 1) (.int 1)) .nil))) .nil)))) .nil))))
def f_law_kind_2 : Fn := ⟨"_law_kind", ["tape", "left"], ["tape", "left", "way", "one"], c_law_kind_2, []⟩
abbrev i_law_worth_2 : Nat := 27
def c_law_worth_2 : ISs :=
  (.cons (.ife (.cmp .eq (.idx (.var 1) (.int 0)) (.str "num")) (
    (.cons (.ret (.call 25 (.cons (.var 0) .nil))) .nil)) ( .nil))
  (.cons (.ife (.cmp .eq (.idx (.var 1) (.int 0)) (.str "truth")) (
    (.cons (.ret (.cmp .eq (.call 24 (.cons (.var 0) (.cons (.int 2) .nil))) (.int 1))) .nil)) ( .nil))
  (.cons (.ife (.cmp .eq (.idx (.var 1) (.int 0)) (.str "pair")) (
    (.cons (.asg (.name 4) (.call 27 (.cons (.var 0) (.cons (.idx (.var 1) (.int 1)) (.cons (.var 2) .nil)))))
    (.cons (.ret (.tup (.cons (.var 4) (.cons (.call 27 (.cons (.var 0) (.cons (.idx (.var 1) (.int 2)) (.cons (.var 2) .nil)))) .nil)))) .nil))) ( .nil))
  (.cons (.asg (.name 3) (.call 24 (.cons (.var 0) (.cons (.int 4) .nil))))
  (.cons (.ife (.and (.var 2) (.and (.cmp .eq (.bi .len (.cons (.idx (.var 1) (.int 1)) .nil)) (.int 1)) (.cmp .eq (.call 24 (.cons (.var 0) (.cons (.int 32) .nil))) (.int 31)))) (
    (.cons (.asg (.name 3) (.bop .add (.int 196) (.call 24 (.cons (.var 0) (.cons (.int 5) .nil))))) .nil)) ( .nil))
  (.cons (.ret (.comp (.call 27 (.cons (.var 0) (.cons (.idx (.var 1) (.int 1)) (.cons (.bl false) .nil)))) (.name 5) (.rng1 (.var 3)) .none [5])) .nil))))))
def f_law_worth_2 : Fn := ⟨"_law_worth", ["tape", "kind", "long"], ["tape", "kind", "long", "many", "one", "k"], c_law_worth_2, [[(.bl true)]]⟩
abbrev i_law_alike : Nat := 28
def c_law_alike : ISs :=
  (.cons (.ife (.isin [.tlist, .ttuple] (.var 0)) (
    (.cons (.ife (.cmp .ne (.isin [.tlist] (.var 0)) (.isin [.tlist] (.var 1))) (
      (.cons (.ret (.bl false)) .nil)) ( .nil))
    (.cons (.ife (.cmp .ne (.isin [.ttuple] (.var 0)) (.isin [.ttuple] (.var 1))) (
      (.cons (.ret (.bl false)) .nil)) ( .nil))
    (.cons (.ife (.cmp .ne (.bi .len (.cons (.var 0) .nil)) (.bi .len (.cons (.var 1) .nil))) (
      (.cons (.ret (.bl false)) .nil)) ( .nil))
    (.cons (.ret (.bi .all (.cons (.comp (.call 28 (.cons (.var 2) (.cons (.var 3) .nil))) (.tup (.cons (.name 2) (.cons (.name 3) .nil))) (.zip (.var 0) (.var 1)) .none [2, 3]) .nil))) .nil))))) ( .nil))
  (.cons (.ife (.cmp .ne (.isin [.tbool] (.var 0)) (.isin [.tbool] (.var 1))) (
    (.cons (.ret (.bl false)) .nil)) ( .nil))
  (.cons (.ret (.cmp .eq (.var 0) (.var 1))) .nil)))
def f_law_alike : Fn := ⟨"_law_alike", ["due", "found"], ["due", "found", "one", "other"], c_law_alike, []⟩
abbrev i_law_spoil : Nat := 31
def c_law_spoil : ISs :=
  (.cons (.ife (.isin [.tlist, .ttuple] (.var 0)) (
    (.cons (.forr (.name 1) (.seq (.bi .list (.cons (.var 0) .nil))) (
      (.cons (.expr (.call 31 (.cons (.var 1) .nil))) .nil))) .nil)) ( .nil))
  (.cons (.ife (.isin [.tlist] (.var 0)) (
    (.cons (.expr (.mth .append (.var 0) (.cons (.int 0) .nil))) .nil)) ( .nil)) .nil))
def f_law_spoil : Fn := ⟨"_law_spoil", ["thing"], ["thing", "one"], c_law_spoil, []⟩
abbrev i_law : Nat := 45
def c_law : ISs :=
  (.cons (.asg (.name 1) (.lst (.cons (.bi .list (.cons (.slc (.var 0) .none (.some (.int 63))) .nil)) (.cons (.int 0) (.cons (.int 0) (.cons (.int 0) .nil))))))
  (.cons (.asg (.name 2) (.call 26 (.cons (.var 1) (.cons (.bop .add (.int 1) (.call 24 (.cons (.var 1) (.cons (.int 5) .nil)))) .nil))))
  (.cons (.asg (.name 3) (.comp (.calld 27 0 (.cons (.var 1) (.cons (.var 2) .nil))) (.name 9) (.rng1 (.call 24 (.cons (.var 1) (.cons (.int 5) .nil)))) .none [9]))
  (.cons (.asg (.name 4) (.comp (.calld 27 0 (.cons (.var 1) (.cons (.var 2) .nil))) (.name 9) (.rng1 (.call 24 (.cons (.var 1) (.cons (.int 5) .nil)))) .none [9]))
  (.cons (.asg (.name 5) (.call 21 (.cons (.var 2) (.cons (.var 3) .nil))))
  (.cons (.asg (.name 6) (.call 21 (.cons (.var 2) (.cons (.var 4) .nil))))
  (.cons (.asg (.name 7) (.call 43 (.cons (.var 2) (.cons (.var 5) (.cons (.var 6) .nil)))))
  (.cons (.ife (.not (.call 28 (.cons (.call 21 (.cons (.var 2) (.cons (.bop .add (.var 3) (.var 4)) .nil))) (.cons (.var 7) .nil)))) (
    (.cons (.ret (.bl false)) .nil)) ( .nil))
  (.cons (.expr (.call 31 (.cons (.var 7) .nil)))
  (.cons (.ife (.not (.call 28 (.cons (.call 21 (.cons (.var 2) (.cons (.var 3) .nil))) (.cons (.var 5) .nil)))) (
    (.cons (.ret (.bl false)) .nil)) ( .nil))
  (.cons (.ife (.not (.call 28 (.cons (.call 21 (.cons (.var 2) (.cons (.var 4) .nil))) (.cons (.var 6) .nil)))) (
    (.cons (.ret (.bl false)) .nil)) ( .nil))
  (.cons (.forr (.name 8) (.rng1 (.bop .add (.bi .len (.cons (.var 3) .nil)) (.int 1))) (
    (.cons (.asg (.name 7) (.call 44 (.cons (.var 2) (.cons (.var 5) (.cons (.var 8) .nil)))))
    (.cons (.ife (.not (.call 28 (.cons (.call 21 (.cons (.var 2) (.cons (.slc (.var 3) .none (.some (.var 8))) .nil))) (.cons (.var 7) .nil)))) (
      (.cons (.ret (.bl false)) .nil)) ( .nil))
    (.cons (.expr (.call 31 (.cons (.var 7) .nil))) .nil)))))
  (.cons (.ife (.not (.call 28 (.cons (.call 21 (.cons (.var 2) (.cons (.bop .add (.var 4) (.var 3)) .nil))) (.cons (.call 43 (.cons (.var 2) (.cons (.var 6) (.cons (.var 5) .nil)))) .nil)))) (
    (.cons (.ret (.bl false)) .nil)) ( .nil))
  (.cons (.ret (.call 28 (.cons (.call 21 (.cons (.var 2) (.cons (.var 3) .nil))) (.cons (.var 5) .nil)))) .nil))))))))))))))
def f_law : Fn := ⟨"law", ["script"], ["script", "tape", "kind", "one", "other", "mine", "yours", "told", "many", "k"], c_law, []⟩
def GG : MG := { fns := [(21, f_flat_of), (40, f_begins), (41, f_numbers_within), (42, f_chosen), (43, f_behind), (44, f_first_ones), (24, f_law_draw), (25, f_law_number_2), (26, f_law_kind_2), (27, f_law_worth_2), (28, f_law_alike), (31, f_law_spoil), (45, f_law)], consts := [], dicts := [], wf := 100000 }
end Law
namespace Law
open PySem L2 M
local macro_rules | `(tactic| walk_at "e1") => `(tactic| first
  | ((with_reducible refine' w_var ?hh ?_); (case hh => rfl))
  | with_reducible refine w_int ?_
  | with_reducible refine w_str ?_
  | with_reducible refine w_bl ?_
  | with_reducible refine w_non ?_
  | with_reducible refine w_econs ?_
  | with_reducible refine w_enil ?_
  | with_reducible refine w_bop ?_
  | with_reducible refine w_cmp ?_
  | with_reducible refine w_idx ?_
  | with_reducible refine w_call ?_
  | with_reducible refine w_bi ?_
  | with_reducible refine w_lrng1 ?_
  | with_reducible refine w_lrng2 ?_
  | ((with_reducible refine' w_calld ?hh ?hj ?_); (case hh => rfl); (case hj => rfl))
  | with_reducible refine w_slc ?_
  | with_reducible refine w_osome ?_
  | with_reducible refine w_onone ?_
  | with_reducible refine w_not ?_
  | with_reducible refine w_neg ?_
  | with_reducible refine w_chn ?_
  | with_reducible refine w_ite ?_
  | with_reducible refine w_isin ?_
  | with_reducible refine w_mth ?_
  | with_reducible refine w_tup ?_
  | with_reducible refine w_lst ?_
  | ((with_reducible refine' w_glb ?hh ?_); (case hh => rfl))
  | ((with_reducible refine' w_gin ?hh ?_); (case hh => rfl))
  | ((with_reducible refine' w_gget ?hh ?_); (case hh => rfl))
  | with_reducible refine w_iseq ?_
  | with_reducible refine w_irng1 ?_
  | with_reducible refine w_irng2 ?_
  | with_reducible refine w_ienum ?_
  | with_reducible refine w_izip ?_
  | with_reducible refine s_asg' ?_
  | with_reducible refine s_expr' ?_
  | with_reducible refine s_ret' ?_
  | with_reducible refine s_ife' ?_
  | with_reducible refine s_brk ?_
  | with_reducible refine s_cont ?_
  | with_reducible refine s_pass ?_
  | ((with_reducible refine' w_tname ?hh ?_); (case hh => exact of_decide_eq_true rfl); (try dsimp only [List.set]))
  | ((with_reducible refine' w_ttup ?hh ?_); (case hh => rfl))
  | with_reducible refine w_tcons ?_
  | with_reducible refine w_tnil ?_
  | with_reducible refine w_cnone ?_
  | with_reducible refine w_csome ?_
  | with_reducible refine ix0 ?_
  | with_reducible refine ix1 ?_
  | with_reducible refine ix2 ?_
  | with_reducible refine slc1 ?_
  | with_reducible refine add_int ?_
  | with_reducible refine sub_int ?_
  | with_reducible refine mod_int (by decide) ?_
  | with_reducible refine div_int (by decide +kernel) ?_
  | with_reducible refine len_tup ?_
  | with_reducible refine seqit_tup ?_
  | with_reducible refine mul_l (by decide) (by decide) ?_
  | with_reducible refine mul_r (by decide) (by decide) ?_
  | ((fail_if_success with_reducible refine mul_q ?_); refine Tot.eq rfl ?_)
  | (refine And.intro (sz_of rfl rfl) ?_)
  | (refine if_t (by decide +kernel) ?_)
  | (refine if_f (by decide +kernel) ?_)
  | (refine Exists.intro _ (And.intro rfl ?_))
  )
local macro_rules | `(tactic| walk_at "m1") => `(tactic| first | with_reducible refine TotS.seq ?_ | with_reducible refine s_nil ?_ | walk_at "e1")
local macro_rules | `(tactic| walk_at "m") => `(tactic| repeat walk_at "m1")
local macro_rules | `(tactic| walk_at "e") => `(tactic| repeat walk_at "e1")
local macro_rules | `(tactic| walk_at "o1") => `(tactic| first
  | with_reducible refine w_or ?_
  | with_reducible refine w_and ?_)
local macro_rules | `(tactic| walk_at "o") => `(tactic| repeat first | walk_at "m1" | walk_at "o1")
inductive Kd where
  | num | truth | pair (a b : Kd) | row (a : Kd)
  deriving DecidableEq
namespace Kd
def word : Kd → Str
  | .num => "num"
  | .truth => "truth"
  | .pair _ _ => "pair"
  | .row _ => "row"
def parts : Kd → List Kd
  | .num => []
  | .truth => []
  | .pair a b => [a, b]
  | .row a => [a]
def mv : Kd → MV
  | .num => .tup [.str "num"]
  | .truth => .tup [.str "truth"]
  | .pair a b => .tup [.str "pair", a.mv, b.mv]
  | .row a => .tup [.str "row", a.mv]
def words : Kd → List Str
  | .num => ["num"]
  | .truth => ["truth"]
  | .pair a b => "pair" :: (a.words ++ b.words)
  | .row a => "row" :: a.words
def deep : Kd → Nat
  | .num => 1
  | .truth => 1
  | .pair a b => max a.deep b.deep + 1
  | .row a => a.deep + 1
theorem deep_pos (k : Kd) : 1 ≤ k.deep := by cases k <;> simp [deep]
theorem mv_eq (k : Kd) : k.mv = .tup (.str k.word :: k.parts.map mv) := by cases k <;> rfl
theorem words_eq (k : Kd) : k.words = k.word :: k.parts.flatMap words := by cases k <;> simp [words, word, parts]
theorem part_deep {k p : Kd} (h : p ∈ k.parts) : p.deep < k.deep := by
  cases k <;> simp [parts] at h
  · rcases h with rfl | rfl <;> simp [deep] <;> omega
  · subst h; simp [deep]
theorem words_len (k : Kd) : k.words.length < 2 ^ k.deep := by
  induction k with
  | num => decide
  | truth => decide
  | pair a b iha ihb =>
    simp only [words, deep, List.length_cons, List.length_append]
    have h1 : 2 ^ a.deep ≤ 2 ^ max a.deep b.deep := Nat.pow_le_pow_right (by decide) (Nat.le_max_left _ _)
    have h2 : 2 ^ b.deep ≤ 2 ^ max a.deep b.deep := Nat.pow_le_pow_right (by decide) (Nat.le_max_right _ _)
    rw [Nat.pow_succ]
    omega
  | row a ih =>
    simp only [words, deep, List.length_cons]
    rw [Nat.pow_succ]
    omega
theorem words_pos (k : Kd) : 1 ≤ k.words.length := by rw [words_eq]; simp
theorem words_le {k : Kd} (h : k.deep ≤ 20) : k.words.length ≤ 1048576 := by
  have := words_len k
  have h2 : 2 ^ k.deep ≤ 2 ^ 20 := Nat.pow_le_pow_right (by decide) h
  omega
end Kd
theorem fmod_nat (c : Int) (m : Nat) (hm : 0 < m) : ∃ j : Nat, j < m ∧ c.fmod m = j := by
  have h1 := Int.fmod_nonneg_of_pos c (b := (m : Int)) (by omega)
  have h2 := Int.fmod_lt_of_pos c (b := (m : Int)) (by omega)
  exact ⟨(c.fmod m).toNat, by omega, by omega⟩
theorem divOk_nat {m : Nat} (h0 : 0 < m) (h1 : m < 1073741824) : divOk m = true := by
  unfold divOk
  rw [Bool.and_eq_true]
  exact ⟨decide_eq_true (by omega), decide_eq_true (by simpa using h1)⟩
theorem ixN_nat {n k : Nat} {i : Int} (e : i = k) (h : k < n) : L2.ixN n i = some k := by
  subst e
  unfold L2.ixN
  rw [if_pos (by omega), if_pos (by omega), Int.toNat_natCast]
theorem draw_great (n T C : Nat) (cells : List Int) (s many : Nat) (r k : Int) (h : MH) (w : MH.wlist h T = some [.ref C, .int s, .int r, .int k]) (hk : 0 < k) (hr : 0 ≤ r) (h0 : 0 < many) (h1 : many < 1073741824) :
    Tot (callF GG (n + 1) i_law_draw [.ref T, .int many] h) fun v h' => ∃ j : Nat, j < many ∧ v = .int j ∧ Ex (· = T) h h' ∧ h'.length = h.length ∧ ∃ r' k', 0 ≤ r' ∧ MH.wlist h' T = some [.ref C, .int s, .int r', .int k'] := by
  refine w_fn (d := f_law_draw) rfl rfl ?_
  show TotS (evSs GG (callF GG n) c_law_draw [some (.ref T), some (.int many), none, none, none, none] h) _
  unfold c_law_draw
  walk_at "m"
  refine ix_ref (list_of_w w) 3 rfl rfl ?_
  walk_at "m"
  refine if_t (decide_eq_true hk) ?_
  walk_at "m"
  refine ix_ref (list_of_w w) 3 rfl rfl ?_
  walk_at "m"
  refine w_tsub ?_
  walk_at "m"
  refine ⟨_, _, _, 3, rfl, rfl, w, rfl, ?_⟩
  have w2 := wlist_set (ys := [.ref C, .int s, .int r, .int (k - 1)]) w
  walk_at "m"
  refine ix_ref (list_of_w w2) 2 rfl rfl ?_
  walk_at "m"
  refine div_int (divOk_nat h0 h1) ?_
  refine w_tsub ?_
  walk_at "m"
  refine ⟨_, _, _, 2, rfl, rfl, w2, rfl, ?_⟩
  have w3 := wlist_set (ys := [.ref C, .int s, .int (r.fdiv many), .int (k - 1)]) w2
  walk_at "m"
  refine mod_int (by omega) ?_
  obtain ⟨j, hj, e⟩ := fmod_nat r many h0
  rw [e]
  refine ⟨j, hj, rfl, ((Ex.refl (· = T) h).set (.inl rfl)).set (.inl rfl), by simp, _, _, ?_, w3⟩
  exact Int.fdiv_nonneg hr (by omega)
theorem law_draw_ok (n T C : Nat) (cells : List Int) (N many : Nat) (h : MH) (t : Tp h T C cells N) (hN : N < 1152921504606846976) (h0 : 0 < many) (h1 : many < 1073741824) :
    Tot (callF GG (n + 2) i_law_draw [.ref T, .int many] h) fun v h' => ∃ j : Nat, j < many ∧ v = .int j ∧ Ex (· = T) h h' ∧ h'.length = h.length ∧ Tp h' T C cells (N + 1) := by
  obtain ⟨s, r, k, hs, hr, w⟩ := t.ex
  have neC : ¬ C = T := fun e => t.ne e.symm
  by_cases hk : 0 < k
  · refine (draw_great (n + 1) T C cells s many r k h w hk hr h0 h1).use ?_
    rintro v h' ⟨j, hj, e, x, l, r', k', hr', w'⟩
    exact ⟨j, hj, e, x, l, ⟨s, r', k', by omega, hr', w'⟩, x.list neC t.cs, t.ne⟩
  refine w_fn (d := f_law_draw) rfl rfl ?_
  show TotS (evSs GG (callF GG (n + 1)) c_law_draw [some (.ref T), some (.int many), none, none, none, none] h) _
  unfold c_law_draw
  walk_at "m"
  refine ix_ref (list_of_w w) 3 rfl rfl ?_
  walk_at "m"
  refine if_f (decide_eq_false hk) ?_
  walk_at "m"
  refine ix_ref (list_of_w w) 1 rfl rfl ?_
  walk_at "m"
  refine w_tsub ?_
  walk_at "m"
  refine ⟨_, _, _, 1, rfl, rfl, w, rfl, ?_⟩
  have w2 := wlist_set (ys := [.ref C, .int ((s : Int) + 1), .int r, .int k]) w
  have x2 : Ex (· = T) h (h.set T (.lst [.ref C, .int ((s : Int) + 1), .int r, .int k])) := (Ex.refl _ _).set (.inl rfl)
  have lC := x2.list neC t.cs
  have ll : (h.set T (.lst [.ref C, .int ((s : Int) + 1), .int r, .int k])).length = h.length := by simp
  show TotS (evSs GG (callF GG (n + 1)) _ _ (h.set T (.lst [.ref C, .int ((s : Int) + 1), .int r, .int k]))) _
  generalize h.set T (.lst [.ref C, .int ((s : Int) + 1), .int r, .int k]) = g at *
  refine TotS.seq ?_
  walk_at "e"
  have body : ∀ cell : Int, TotS (evSs GG (callF GG (n + 1)) (.cons (.ife (.and (.cmp .lt (.var 2) (.bi .len (.cons (.idx (.var 0) (.int 0)) .nil))) (.cmp .ge (.var 3) (.bop .pow (.int 10) (.int 18)))) (
    (.cons (.asg (.sub (.var 0) (.int 2)) (.bop .sub (.var 3) (.bop .pow (.int 10) (.int 18))))
    (.cons (.asg (.sub (.var 0) (.int 3)) (.int 40))
    (.cons (.ret (.call 24 (.cons (.var 0) (.cons (.var 1) .nil)))) .nil)))) ( .nil))
  (.cons (.asg (.name 4) (.bop .mul (.bop .add (.bop .mod (.var 3) (.int 999983)) (.int 3)) (.bop .add (.bop .add (.bop .mod (.bop .mul (.var 2) (.var 2)) (.int 10007)) (.bop .mul (.int 61) (.var 2))) (.int 7))))
  (.cons (.asg (.name 4) (.bop .mod (.bop .mul (.bop .mod (.var 4) (.int 1000003)) (.bop .mod (.var 4) (.int 1000003))) (.int 999979)))
  (.cons (.ret (.bop .mod (.bop .mod (.bop .add (.bop .fdiv (.var 4) (.int 3)) (.bop .mul (.int 131) (.var 2))) (.int 99991)) (.var 1))) .nil)))) [some (.ref T), some (.int many), some (.int s), some (.int cell), none, none] g)
     { nx := fun _ h_1 => ∃ j : Nat, j < many ∧ MV.non = .int j ∧ Ex (· = T) h h_1 ∧ h_1.length = h.length ∧ Tp h_1 T C cells (N + 1), rt := fun v h' => ∃ j : Nat, j < many ∧ v = .int j ∧ Ex (· = T) h h' ∧ h'.length = h.length ∧ Tp h' T C cells (N + 1) } := by
    intro cell
    walk_at "m"
    refine wand (decide ((s : Int) < (cells.map MV.int).length)) (decide ((1000000000000000000 : Int) ≤ cell)) ?_ ?_ ?_
    · walk_at "m"
      refine ix_ref (list_of_w w2) 0 rfl rfl ?_
      walk_at "m"
      refine len_ref lC ?_
      walk_at "m"
      exact ⟨rfl, rfl⟩
    · intro _
      walk_at "m"
      exact ⟨rfl, rfl⟩
    walk_at "m"
    refine ⟨fun c => ?_, fun c => ?_⟩
    · rw [Bool.and_eq_true] at c
      have hc := of_decide_eq_true c.2
      walk_at "m"
      refine w_tsub ?_
      walk_at "m"
      refine ⟨_, _, _, 2, rfl, rfl, w2, rfl, ?_⟩
      have w3 := wlist_set (ys := [.ref C, .int ((s : Int) + 1), .int (cell - 1000000000000000000), .int k]) w2
      walk_at "m"
      refine w_tsub ?_
      walk_at "m"
      refine ⟨_, _, _, 3, rfl, rfl, w3, rfl, ?_⟩
      have w4 := wlist_set (ys := [.ref C, .int ((s + 1 : Nat) : Int), .int (cell - 1000000000000000000), .int 40]) w3
      walk_at "m"
      refine (draw_great n T C cells (s + 1) many (cell - 1000000000000000000) 40 _ w4 (by decide) (by omega) h0 h1).use ?_
      rintro v h' ⟨j, hj, e, x, l, r', k', hr', w'⟩
      have xx : Ex (· = T) h h' := ((x2.set (.inl rfl)).set (.inl rfl)).trans x
      refine ⟨j, hj, e, xx, ?_, ⟨s + 1, r', k', by omega, hr', w'⟩, xx.list neC t.cs, t.ne⟩
      rw [l]
      simp [ll]
    · walk_at "m"
      refine mul_l (by omega) (by omega) ?_
      walk_at "m"
      obtain ⟨m1, hm1, e1⟩ := fmod_nat cell 999983 (by decide)
      have e1' : cell.fmod 999983 = (m1 : Int) := e1
      rw [e1']
      refine mul_l (by omega) (by omega) ?_
      walk_at "m"
      generalize ((m1 : Int) + 3) * (((s : Int) * s).fmod 10007 + 61 * s + 7) = z
      obtain ⟨m2, hm2, e2⟩ := fmod_nat z 1000003 (by decide)
      have e2' : z.fmod 1000003 = (m2 : Int) := e2
      rw [e2']
      refine mul_l (by omega) (by omega) ?_
      walk_at "m"
      refine mod_int (by omega) ?_
      obtain ⟨j, hj, ej⟩ := fmod_nat (((((m2 : Int) * m2).fmod 999979).fdiv 3 + 131 * (s : Int)).fmod 99991) many h0
      rw [ej]
      exact ⟨j, hj, rfl, x2, ll, ⟨s + 1, r, k, by omega, hr, w2⟩, lC, t.ne⟩
  refine TotS.cut (fun e h' => ∃ cell : Int, e = [some (.ref T), some (.int many), some (.int s), some (.int cell), none, none] ∧ h' = g) ?_ ?_
  · walk_at "e"
    refine ix_ref (list_of_w w2) 0 rfl rfl ?_
    walk_at "e"
    refine len_ref lC ?_
    walk_at "e"
    refine ⟨fun c => ?_, fun c => ?_⟩
    · walk_at "m"
      refine ix_ref (list_of_w w2) 0 rfl rfl ?_
      walk_at "m"
      refine ix_ref (list_of_w w2) 0 rfl rfl ?_
      walk_at "m"
      refine len_ref lC ?_
      have hl : 0 < cells.length := by have := of_decide_eq_true c; simp at this; omega
      refine mod_int (by rw [List.length_map]; omega) ?_
      obtain ⟨j, hj, ej⟩ := fmod_nat s cells.length hl
      rw [List.length_map, ej]
      refine ix_ref lC j rfl (v := .int (cells.getD j 0)) ?_ ?_
      · rw [List.getElem?_map, List.getD_eq_getElem?_getD, List.getElem?_eq_getElem hj]; rfl
      walk_at "m"
      rfl
    · walk_at "m"
      rfl
  · rintro e _ ⟨cell, rfl, rfl⟩
    exact body cell
theorem law_number_2_ok (n T C : Nat) (cells : List Int) (N : Nat) (h : MH) (t : Tp h T C cells N) (hN : N < 1152921504606840000) :
    Tot (callF GG (n + 3) i_law_number_2 [.ref T] h) fun v h' => (∃ z : Int, v = .int z) ∧ Ex (· = T) h h' ∧ Tp h' T C cells (N + 5) := by
  refine w_fn (d := f_law_number_2) rfl rfl ?_
  show TotS (evSs GG (callF GG (n + 2)) c_law_number_2 [some (.ref T), none, none, none] h) _
  unfold c_law_number_2
  walk_at "m"
  refine (law_draw_ok n T C cells N 6 h t (by omega) (by decide) (by decide)).use ?_
  rintro _ h1 ⟨w, hw, rfl, x1, l1, t1⟩
  walk_at "m"
  refine ⟨fun c => ?_, fun c => ?_⟩
  · walk_at "m"
    refine (law_draw_ok n T C cells (N + 1) 19 h1 t1 (by omega) (by decide) (by decide)).use ?_
    rintro _ h2 ⟨j, hj, rfl, x2, l2, t2⟩
    walk_at "m"
    exact ⟨⟨_, rfl⟩, x1.trans x2, t2.up (by omega)⟩
  · walk_at "m"
    refine ⟨fun c => ?_, fun c => ?_⟩
    · walk_at "m"
      refine (law_draw_ok n T C cells (N + 1) 5 _ (t1.pre (pre_app _ _)) (by omega) (by decide) (by decide)).use ?_
      rintro _ h2 ⟨j, hj, rfl, x2, l2, t2⟩
      have hT : ¬ h1.length = T := by have := t1.lt; omega
      have lw := x2.list hT list_new
      walk_at "m"
      obtain ⟨y, hy⟩ : ∃ y : Int, ([MV.int (10 ^ Int.toNat 18), .int (0 - 10 ^ Int.toNat 18), .int (10 ^ Int.toNat 18 - 1), .int (1 - 10 ^ Int.toNat 18), .int 0] : List MV)[j]? = some (.int y) := by
        match j, hj with
        | 0, _ => exact ⟨_, rfl⟩
        | 1, _ => exact ⟨_, rfl⟩
        | 2, _ => exact ⟨_, rfl⟩
        | 3, _ => exact ⟨_, rfl⟩
        | 4, _ => exact ⟨_, rfl⟩
        | _ + 5, hj => omega
      refine ix_ref lw j rfl hy ?_
      exact ⟨⟨_, rfl⟩, (x1.trans (.of_pre (pre_app _ _))).trans x2, t2.up (by omega)⟩
    · walk_at "m"
      refine (law_draw_ok n T C cells (N + 1) 1000000 h1 t1 (by omega) (by decide) (by decide)).use ?_
      rintro _ h2 ⟨a, ha, rfl, x2, l2, t2⟩
      walk_at "m"
      refine (law_draw_ok n T C cells (N + 2) 1000000 h2 t2 (by omega) (by decide) (by decide)).use ?_
      rintro _ h3 ⟨b, hb, rfl, x3, l3, t3⟩
      walk_at "m"
      refine (law_draw_ok n T C cells (N + 3) 1000000 h3 t3 (by omega) (by decide) (by decide)).use ?_
      rintro _ h4 ⟨c, hc, rfl, x4, l4, t4⟩
      walk_at "m"
      refine (law_draw_ok n T C cells (N + 4) 2 h4 t4 (by omega) (by decide) (by decide)).use ?_
      rintro _ h5 ⟨d, hd, rfl, x5, l5, t5⟩
      walk_at "m"
      refine mul_r (by omega) (by omega) ?_
      exact ⟨⟨_, rfl⟩, (((x1.trans x2).trans x3).trans x4).trans x5, t5.up (by omega)⟩
def kc : Nat → Nat
  | 0 => 0
  | n + 1 => 1 + 2 * kc n
theorem law_kind_2_ok : ∀ (n left T C : Nat) (cells : List Int) (N : Nat) (h : MH), Tp h T C cells N → 1 ≤ left → left ≤ n + 1 → N + kc left < 1152921504606840000 →
    Tot (callF GG (n + 3) i_law_kind_2 [.ref T, .int left] h) fun v h' => (∃ k : Kd, v = k.mv ∧ k.deep ≤ left) ∧ Ex (· = T) h h' ∧ Tp h' T C cells (N + kc left) := by
  intro n
  induction n with
  | zero =>
    intro left T C cells N h t hle1 hle2 hN
    obtain rfl : left = 1 := by omega
    refine w_fn (d := f_law_kind_2) rfl rfl ?_
    show TotS (evSs GG (callF GG 2) c_law_kind_2 [some (.ref T), some (.int (1 : Nat)), none, none] h) _
    unfold c_law_kind_2
    walk_at "m"
    refine (law_draw_ok 0 T C cells N 6 h t (by omega) (by decide) (by decide)).use ?_
    rintro _ h1 ⟨w, hw, rfl, x1, l1, t1⟩
    walk_at "m"
    have hm : ((w : Int).fmod 2 = 0 ∨ (w : Int).fmod 2 = 1) := by rw [Int.fmod_eq_emod_of_nonneg _ (by decide)]; omega
    rcases hm with hm | hm
    · rw [hm]
      refine ix_ref list_new 0 rfl rfl ?_
      exact ⟨⟨.num, rfl, by simp [Kd.deep]⟩, x1.app, (t1.pre (pre_app _ _)).up (by simp only [kc]; omega)⟩
    · rw [hm]
      refine ix_ref list_new 1 rfl rfl ?_
      exact ⟨⟨.truth, rfl, by simp [Kd.deep]⟩, x1.app, (t1.pre (pre_app _ _)).up (by simp only [kc]; omega)⟩
  | succ n ih =>
    intro left T C cells N h t hle1 hle2 hN
    refine w_fn (d := f_law_kind_2) rfl rfl ?_
    show TotS (evSs GG (callF GG (n + 3)) c_law_kind_2 [some (.ref T), some (.int left), none, none] h) _
    unfold c_law_kind_2
    walk_at "m"
    have hp : 1 ≤ kc left := by obtain ⟨m, rfl⟩ : ∃ m, left = m + 1 := ⟨left - 1, by omega⟩; rw [kc]; omega
    refine (law_draw_ok (n + 1) T C cells N 6 h t (by omega) (by decide) (by decide)).use ?_
    rintro _ h1 ⟨w, hw, rfl, x1, l1, t1⟩
    walk_at "m"
    refine wor (decide ((left : Int) = 1)) (decide ((w : Int) < 2)) ?_ ?_ ?_
    · walk_at "m"
      exact ⟨rfl, rfl⟩
    · intro _
      walk_at "m"
      exact ⟨rfl, rfl⟩
    walk_at "m"
    refine ⟨fun c => ?_, fun c => ?_⟩
    · walk_at "m"
      have hm : ((w : Int).fmod 2 = 0 ∨ (w : Int).fmod 2 = 1) := by rw [Int.fmod_eq_emod_of_nonneg _ (by decide)]; omega
      rcases hm with hm | hm
      · rw [hm]
        refine ix_ref list_new 0 rfl rfl ?_
        exact ⟨⟨.num, rfl, by simp [Kd.deep]; omega⟩, x1.app, (t1.pre (pre_app _ _)).up (by omega)⟩
      · rw [hm]
        refine ix_ref list_new 1 rfl rfl ?_
        exact ⟨⟨.truth, rfl, by simp [Kd.deep]; omega⟩, x1.app, (t1.pre (pre_app _ _)).up (by omega)⟩
    · have hl : ∃ m, left = m + 2 := by
        rw [Bool.or_eq_false_iff] at c
        have := of_decide_eq_false c.1
        exact ⟨left - 2, by omega⟩
      obtain ⟨m, rfl⟩ := hl
      have hm1 : ((m + 2 : Nat) : Int) - 1 = ((m + 1 : Nat) : Int) := by omega
      have e2 : kc (m + 2) = 1 + 2 * kc (m + 1) := rfl
      have e3 : 1 ≤ kc (m + 1) := by rw [kc]; omega
      walk_at "m"
      refine ⟨fun c => ?_, fun c => ?_⟩
      · walk_at "m"
        rw [hm1]
        refine (ih (m + 1) T C cells (N + 1) h1 t1 (by omega) (by omega) (by omega)).use ?_
        rintro _ h2 ⟨⟨a, rfl, da⟩, x2, t2⟩
        walk_at "m"
        rw [hm1]
        refine (ih (m + 1) T C cells _ h2 t2 (by omega) (by omega) (by omega)).use ?_
        rintro _ h3 ⟨⟨b, rfl, db⟩, x3, t3⟩
        walk_at "m"
        exact ⟨⟨.pair a b, rfl, by simp only [Kd.deep]; omega⟩, (x1.trans x2).trans x3, t3.up (by omega)⟩
      · walk_at "m"
        rw [hm1]
        refine (ih (m + 1) T C cells (N + 1) h1 t1 (by omega) (by omega) (by omega)).use ?_
        rintro _ h2 ⟨⟨a, rfl, da⟩, x2, t2⟩
        walk_at "m"
        exact ⟨⟨.row a, rfl, by simp only [Kd.deep]; omega⟩, x1.trans x2, t2.up (by omega)⟩
mutual
def nodes : PyData → Nat
  | .list xs => 1 + nodesAll xs
  | .tuple xs => 1 + nodesAll xs
  | _ => 1
def nodesAll : List PyData → Nat
  | [] => 0
  | x :: xs => nodes x + nodesAll xs
end
theorem nodesAll_app : ∀ xs ys : List PyData, nodesAll (xs ++ ys) = nodesAll xs + nodesAll ys
  | [], ys => by simp [nodesAll]
  | x :: xs, ys => by rw [List.cons_append, nodesAll, nodesAll, nodesAll_app xs ys]; omega
theorem nodes_pos (d : PyData) : 1 ≤ nodes d := by cases d <;> simp [nodes]
theorem len_nodes : ∀ xs : List PyData, xs.length ≤ nodesAll xs
  | [] => Nat.le_refl _
  | x :: xs => by have := len_nodes xs; have := nodes_pos x; rw [nodesAll, List.length_cons]; omega
theorem nodes_at : ∀ {xs : List PyData} {i : Nat} {d : PyData}, xs[i]? = some d → nodes d ≤ nodesAll xs
  | [], i, d, e => by simp at e
  | x :: xs, 0, d, e => by rw [List.getElem?_cons_zero] at e; cases e; rw [nodesAll]; omega
  | x :: xs, i + 1, d, e => by rw [List.getElem?_cons_succ] at e; have := nodes_at e; rw [nodesAll]; omega
theorem zip_tup {h0 : MH} {xs ys : List MV} {Q : Iter → Prop} (q : ∀ J : Iter, J.On h0 (List.zipWith (fun x y => .tup [x, y]) xs ys) → Q J) : ∃ J, zipIt h0 (.tup xs) (.tup ys) = some J ∧ Q J := by
  unfold zipIt
  dsimp only
  refine ⟨_, rfl, q _ ⟨by simp, fun i h' p => ?_⟩⟩
  dsimp only
  rw [List.getElem?_zipWith]
  cases xs[i]? <;> cases ys[i]? <;> rfl
theorem all_true {h : MH} {a : Nat} {ys : List MV} {Q : MV → MH → Prop} (l : MH.list h a = some ys) (t : ∀ (j : Nat) y, ys[j]? = some y → y = .bl true) (q : Q (.bl true) h) : Tot (biM .all [.ref a] h) Q := by
  have e : ys = (List.replicate ys.length true).map .bl := by
    refine List.ext_getElem? fun i => ?_
    rw [List.map_replicate, List.getElem?_replicate]
    split
    · rename_i hi
      rw [List.getElem?_eq_getElem hi, t i _ (List.getElem?_eq_getElem hi)]
    · rename_i hi
      rw [List.getElem?_eq_none (by omega)]
  refine Tot.eq (v := .bl true) (h := h) ?_ q
  unfold biM
  dsimp only
  rw [l, e]
  dsimp only
  rw [blsOf_map]
  dsimp only
  rw [List.all_replicate]
  simp
theorem alike_ok : ∀ (n m : Nat) (p p' : Nat → Prop) (h : MH) (v v' : MV) (d : PyData), Dp p h n v d → Dp p' h m v' d → nodes d ≤ 16777216 → Tot (callF GG (n + 1) i_law_alike [v, v'] h) fun r h' => h <+: h' ∧ r = .bl true := by
  intro n
  induction n with
  | zero =>
    intro m p p' h v v' d D D' hs
    refine w_fn (d := f_law_alike) rfl rfl ?_
    show TotS (evSs GG (callF GG 0) c_law_alike [some v, some v', none, none] h) _
    unfold c_law_alike
    cases D with
    | non =>
      cases D'
      walk_at "m"
      exact ⟨List.prefix_refl _, rfl⟩
    | bl _ b =>
      cases D'
      walk_at "m"
      exact ⟨List.prefix_refl _, by simp⟩
    | int _ b =>
      cases D'
      walk_at "m"
      exact ⟨List.prefix_refl _, by simp⟩
    | str _ hx =>
      cases D'
      walk_at "m"
      exact ⟨List.prefix_refl _, by simp⟩
  | succ n ih =>
    intro m p p' h v v' d D D' hs
    refine w_fn (d := f_law_alike) rfl rfl ?_
    show TotS (evSs GG (callF GG (n + 1)) c_law_alike [some v, some v', none, none] h) _
    unfold c_law_alike
    have comp : ∀ (xs ys : List MV) (ds : List PyData), Dps p h n xs ds → (∃ m, Dps p' h m ys ds) → nodesAll ds ≤ 16777216 → ∀ (e : MEnv) (it : II), e.length = 4 →
        (∀ Q : Iter → MH → Prop, (∀ J : Iter, J.On h (List.zipWith (fun x y => .tup [x, y]) xs ys) → Q J h) → Tot (evI GG (callF GG (n + 1)) it e h) Q) →
        Tot (evE GG (callF GG (n + 1)) (.comp (.call 28 (.cons (.var 2) (.cons (.var 3) .nil))) (.tup (.cons (.name 2) (.cons (.name 3) .nil))) it .none [2, 3]) e h) fun r h' => h <+: h' ∧ ∃ a zs, r = .ref a ∧ MH.list h' a = some zs ∧ ∀ (j : Nat) y, zs[j]? = some y → y = .bl true := by
      intro xs ys ds S ⟨m, S'⟩ hs e it he hit
      refine w_compf (hit _ fun J on => ?_)
      have l1 := S.len
      have l2 := S'.len
      refine ⟨_, fun _ y _ => y = .bl true, on, ?_, fun _ _ _ _ r _ => r, fun _ _ _ _ r => r, ?_, ?_⟩
      · have := len_nodes ds
        rw [List.length_zipWith, seq_size]
        omega
      · intro j v h2 hv p2 hlt
        rw [List.getElem?_zipWith] at hv
        cases hx : xs[j]? with
        | none => rw [hx] at hv; simp at hv
        | some x =>
          cases hy : ys[j]? with
          | none => rw [hx, hy] at hv; simp at hv
          | some y =>
            rw [hx, hy] at hv
            cases hv
            obtain ⟨dx, hdx, DX⟩ := S.at_ hx
            obtain ⟨dy, hdy, DY⟩ := S'.at_ hy
            rw [hdx] at hdy
            cases hdy
            match e, he with
            | [e0, e1, e2, e3], _ =>
            walk_at "m"
            refine (ih _ p p' h2 x y dx (DX.pre p2) (DY.pre p2) (by have := nodes_at hdx; omega)).use ?_
            rintro r h4 ⟨p4, rfl⟩
            exact ⟨p4, rfl⟩
      · intro zs h' p' hlt hl hr hw
        exact ⟨p', _, zs, rfl, list_of_w hw, hr⟩
    cases D with
    | non =>
      cases D'
      walk_at "m"
      exact ⟨List.prefix_refl _, rfl⟩
    | bl _ b =>
      cases D'
      walk_at "m"
      exact ⟨List.prefix_refl _, by simp⟩
    | int _ b =>
      cases D'
      walk_at "m"
      exact ⟨List.prefix_refl _, by simp⟩
    | str _ hx =>
      cases D'
      walk_at "m"
      exact ⟨List.prefix_refl _, by simp⟩
    | @tup _ xs ds s =>
      cases D' with
      | @tup m' ys _ s' =>
      rw [nodes] at hs
      have l1 := s.len
      have l2 := s'.len
      walk_at "m"
      refine if_f ?_ ?_
      · simp [l1, l2]
      walk_at "m"
      refine Tot.use (comp xs ys ds s ⟨_, s'⟩ (by omega) _ _ ?_ (fun Q q => ?_)) ?_
      · rfl
      · walk_at "e"
        refine q _ ⟨by simp, fun i h' p => ?_⟩
        dsimp only
        rw [List.getElem?_zipWith]
        cases xs[i]? <;> cases ys[i]? <;> rfl
      rintro _ h' ⟨p', a, zs, rfl, l, hz⟩
      walk_at "e"
      refine all_true l hz ?_
      exact ⟨p', rfl⟩
    | @ref _ a xs ds z l s =>
      cases D' with
      | @ref m' b ys _ z' l' s' =>
      rw [nodes] at hs
      have l1 := s.len
      have l2 := s'.len
      walk_at "m"
      refine isin_ref (list_of_w l) ?_
      walk_at "m"
      refine isin_ref (list_of_w l) ?_
      walk_at "m"
      refine isin_ref (list_of_w l') ?_
      walk_at "m"
      refine isin_ref (list_of_w l) ?_
      walk_at "m"
      refine isin_ref (list_of_w l') ?_
      walk_at "m"
      refine len_ref (list_of_w l) ?_
      walk_at "m"
      refine len_ref (list_of_w l') ?_
      walk_at "m"
      refine if_f ?_ ?_
      · simp [l1, l2]
      walk_at "m"
      refine Tot.use (comp xs ys ds s ⟨_, s'⟩ (by omega) _ _ ?_ (fun Q q => ?_)) ?_
      · rfl
      · walk_at "e"
        exact zip_on (list_of_w l) (list_of_w l') fun J on => q J on
      rintro _ h' ⟨p', a, zs, rfl, l, hz⟩
      walk_at "e"
      refine all_true l hz ?_
      exact ⟨p', rfl⟩
end Law
namespace Law
open PySem L2 M
local macro_rules | `(tactic| walk_at "e1") => `(tactic| first
  | ((with_reducible refine' w_var ?hh ?_); (case hh => rfl))
  | with_reducible refine w_int ?_
  | with_reducible refine w_str ?_
  | with_reducible refine w_bl ?_
  | with_reducible refine w_non ?_
  | with_reducible refine w_econs ?_
  | with_reducible refine w_enil ?_
  | with_reducible refine w_bop ?_
  | with_reducible refine w_cmp ?_
  | with_reducible refine w_idx ?_
  | with_reducible refine w_call ?_
  | with_reducible refine w_bi ?_
  | with_reducible refine w_lrng1 ?_
  | with_reducible refine w_lrng2 ?_
  | ((with_reducible refine' w_calld ?hh ?hj ?_); (case hh => rfl); (case hj => rfl))
  | with_reducible refine w_slc ?_
  | with_reducible refine w_osome ?_
  | with_reducible refine w_onone ?_
  | with_reducible refine w_not ?_
  | with_reducible refine w_neg ?_
  | with_reducible refine w_chn ?_
  | with_reducible refine w_ite ?_
  | with_reducible refine w_isin ?_
  | with_reducible refine w_mth ?_
  | with_reducible refine w_tup ?_
  | with_reducible refine w_lst ?_
  | ((with_reducible refine' w_glb ?hh ?_); (case hh => rfl))
  | ((with_reducible refine' w_gin ?hh ?_); (case hh => rfl))
  | ((with_reducible refine' w_gget ?hh ?_); (case hh => rfl))
  | with_reducible refine w_iseq ?_
  | with_reducible refine w_irng1 ?_
  | with_reducible refine w_irng2 ?_
  | with_reducible refine w_ienum ?_
  | with_reducible refine w_izip ?_
  | with_reducible refine s_asg' ?_
  | with_reducible refine s_expr' ?_
  | with_reducible refine s_ret' ?_
  | with_reducible refine s_ife' ?_
  | with_reducible refine s_brk ?_
  | with_reducible refine s_cont ?_
  | with_reducible refine s_pass ?_
  | ((with_reducible refine' w_tname ?hh ?_); (case hh => exact of_decide_eq_true rfl); (try dsimp only [List.set]))
  | ((with_reducible refine' w_ttup ?hh ?_); (case hh => rfl))
  | with_reducible refine w_tcons ?_
  | with_reducible refine w_tnil ?_
  | with_reducible refine w_cnone ?_
  | with_reducible refine w_csome ?_
  | with_reducible refine ix0 ?_
  | with_reducible refine ix1 ?_
  | with_reducible refine ix2 ?_
  | with_reducible refine slc1 ?_
  | with_reducible refine add_int ?_
  | with_reducible refine sub_int ?_
  | with_reducible refine mod_int (by decide) ?_
  | with_reducible refine div_int (by decide +kernel) ?_
  | with_reducible refine len_tup ?_
  | with_reducible refine seqit_tup ?_
  | with_reducible refine mul_l (by decide) (by decide) ?_
  | with_reducible refine mul_r (by decide) (by decide) ?_
  | ((fail_if_success with_reducible refine mul_q ?_); refine Tot.eq rfl ?_)
  | (refine And.intro (sz_of rfl rfl) ?_)
  | (refine if_t (by decide +kernel) ?_)
  | (refine if_f (by decide +kernel) ?_)
  | (refine Exists.intro _ (And.intro rfl ?_))
  )
local macro_rules | `(tactic| walk_at "m1") => `(tactic| first | with_reducible refine TotS.seq ?_ | with_reducible refine s_nil ?_ | walk_at "e1")
local macro_rules | `(tactic| walk_at "m") => `(tactic| repeat walk_at "m1")
local macro_rules | `(tactic| walk_at "e") => `(tactic| repeat walk_at "e1")
local macro_rules | `(tactic| walk_at "o1") => `(tactic| first
  | with_reducible refine w_or ?_
  | with_reducible refine w_and ?_)
local macro_rules | `(tactic| walk_at "o") => `(tactic| repeat first | walk_at "m1" | walk_at "o1")
def wk : Kd → PyData → Prop
  | .num, d => ∃ z, d = .int z
  | .truth, d => ∃ b, d = .bool b
  | .pair a b, d => ∃ x y, d = .tuple [x, y] ∧ wk a x ∧ wk b y
  | .row a, d => ∃ xs, d = .list xs ∧ xs.length ≤ 200 ∧ (a.parts ≠ [] → xs.length ≤ 3) ∧ ∀ x ∈ xs, wk a x
def wc : Kd → Nat
  | .num => 5
  | .truth => 1
  | .pair a b => wc a + wc b
  | .row a => 3 + 200 * wc a
theorem len_mv (k : Kd) : k.mv = .tup (.str k.word :: k.parts.map Kd.mv) := k.mv_eq
theorem law_worth_2_ok : ∀ (k : Kd) (n : Nat) (long : Bool) (T C : Nat) (cells : List Int) (N : Nat) (h : MH), Tp h T C cells N → k.deep ≤ n + 1 → N + wc k < 1152921504606840000 →
    Tot (callF GG (n + 4) i_law_worth_2 [.ref T, k.mv, .bl long] h) fun v h' => Ex (· = T) h h' ∧ Tp h' T C cells (N + wc k) ∧ ∃ d, wk k d ∧ Dt h.length h' k.deep v d := by
  intro k
  induction k with
  | num =>
    intro n long T C cells N h t hn hN
    refine w_fn (d := f_law_worth_2) rfl rfl ?_
    show TotS (evSs GG (callF GG (n + 3)) c_law_worth_2 [some (.ref T), some Kd.num.mv, some (.bl long), none, none, none] h) _
    unfold c_law_worth_2
    simp only [wc] at hN ⊢
    walk_at "m"
    refine (law_number_2_ok n T C cells N h t (by omega)).use ?_
    rintro _ h1 ⟨⟨z, rfl⟩, x1, t1⟩
    exact ⟨x1, t1, _, ⟨z, rfl⟩, .int _ _⟩
  | truth =>
    intro n long T C cells N h t hn hN
    refine w_fn (d := f_law_worth_2) rfl rfl ?_
    show TotS (evSs GG (callF GG (n + 3)) c_law_worth_2 [some (.ref T), some Kd.truth.mv, some (.bl long), none, none, none] h) _
    unfold c_law_worth_2
    simp only [wc] at hN ⊢
    walk_at "m"
    refine (law_draw_ok (n + 1) T C cells N 2 h t (by omega) (by decide) (by decide)).use ?_
    rintro _ h1 ⟨w, hw, rfl, x1, l1, t1⟩
    walk_at "m"
    exact ⟨x1, t1, _, ⟨_, rfl⟩, .bl _ _⟩
  | pair a b iha ihb =>
    intro n long T C cells N h t hn hN
    refine w_fn (d := f_law_worth_2) rfl rfl ?_
    show TotS (evSs GG (callF GG (n + 3)) c_law_worth_2 [some (.ref T), some (Kd.pair a b).mv, some (.bl long), none, none, none] h) _
    unfold c_law_worth_2
    simp only [wc] at hN ⊢
    simp only [Kd.deep] at hn
    obtain ⟨n, rfl⟩ : ∃ m, n = m + 1 := ⟨n - 1, by have := a.deep_pos; omega⟩
    walk_at "m"
    refine (iha n long T C cells N h t (by omega) (by omega)).use ?_
    rintro va h1 ⟨x1, t1, da, ka, Da⟩
    walk_at "m"
    refine (ihb n long T C cells _ h1 t1 (by omega) (by omega)).use ?_
    rintro vb h2 ⟨x2, t2, db, kb, Db⟩
    walk_at "m"
    have hT := t.lt.1
    refine ⟨x1.trans x2, t2.up (by omega), _, ⟨da, db, rfl, ka, kb⟩, .tup (.cons ?_ (.cons ?_ (.nil _)))⟩
    · exact (Dp.ex x2 (fun i z _ e => by subst e; omega) Da).up (Nat.le_max_left _ _) (Nat.le_refl _)
    · exact Db.up (Nat.le_max_right _ _) x1.len
  | row a ih =>
    intro n long T C cells N h t hn hN
    refine w_fn (d := f_law_worth_2) rfl rfl ?_
    show TotS (evSs GG (callF GG (n + 3)) c_law_worth_2 [some (.ref T), some (Kd.row a).mv, some (.bl long), none, none, none] h) _
    unfold c_law_worth_2
    simp only [wc] at hN ⊢
    simp only [Kd.deep] at hn
    obtain ⟨n, rfl⟩ : ∃ m, n = m + 1 := ⟨n - 1, by have := a.deep_pos; omega⟩
    have hT := t.lt.1
    refine TotS.seq ?_
    walk_at "e"
    refine s_nil ?_
    refine TotS.seq ?_
    walk_at "e"
    refine s_nil ?_
    refine TotS.seq ?_
    walk_at "e"
    refine s_nil ?_
    refine TotS.seq ?_
    walk_at "e"
    refine (law_draw_ok (n + 2) T C cells N 4 h t (by omega) (by decide) (by decide)).use ?_
    rintro _ h1 ⟨w, hw, rfl, x1, l1, t1⟩
    walk_at "e"
    refine TotS.cut (fun e h' => ∃ m : Nat, m ≤ 200 ∧ (a.parts ≠ [] → m ≤ 3) ∧ e = [some (.ref T), some (Kd.row a).mv, some (.bl long), some (.int m), none, none] ∧ Ex (· = T) h h' ∧ Tp h' T C cells (N + 3) ∧ h'.length = h.length) ?_ ?_
    · refine s_ife' ?_
      refine w_and ?_
      walk_at "e"
      refine ⟨fun c => ?_, fun c => ?_⟩
      · refine w_and ?_
        walk_at "e"
        rw [a.mv_eq]
        walk_at "e"
        refine ⟨fun c => ?_, fun c => ?_⟩
        · walk_at "e"
          refine (law_draw_ok (n + 2) T C cells (N + 1) 32 h1 t1 (by omega) (by decide) (by decide)).use ?_
          rintro _ h2 ⟨w2, hw2, rfl, x2, l2, t2⟩
          walk_at "e"
          have hpn : ¬ a.parts ≠ [] := fun z => by
            have := of_decide_eq_true c
            cases hq : a.parts with
            | nil => exact z hq
            | cons p r => rw [hq] at this; simp at this; omega
          refine ⟨fun c => ?_, fun c => ?_⟩
          · refine TotS.seq ?_
            walk_at "e"
            refine (law_draw_ok (n + 2) T C cells (N + 2) 5 h2 t2 (by omega) (by decide) (by decide)).use ?_
            rintro _ h3 ⟨w3, hw3, rfl, x3, l3, t3⟩
            walk_at "m"
            exact ⟨196 + w3, by omega, fun z => absurd z hpn, by rw [Int.natCast_add]; rfl, (x1.trans x2).trans x3, t3, by omega⟩
          · refine s_nil ?_
            exact ⟨w, by omega, fun _ => by omega, rfl, x1.trans x2, t2.up (by omega), by omega⟩
        · walk_at "e"
          refine s_nil ?_
          exact ⟨w, by omega, fun _ => by omega, rfl, x1, t1.up (by omega), by omega⟩
      · walk_at "e"
        refine s_nil ?_
        exact ⟨w, by omega, fun _ => by omega, rfl, x1, t1.up (by omega), by omega⟩
    · intro e h' ⟨m, hm, hm3, he, x', t', l'⟩
      subst he
      with_reducible refine TotS.seq ?_
      with_reducible refine s_ret' ?_
      have hT' := t'.lt
      with_reducible refine w_compx (· = T) ?_
      walk_at "e"
      refine ⟨isN_nat m rfl (by omega), ?_⟩
      rw [Int.toNat_natCast]
      refine ⟨rangeI 0 m, fun j y h2 => ∃ d, wk a d ∧ Dt (h'.length + 1) h2 a.deep y d, fun j h2 => Tp h2 T C cells (N + 3 + j * wc a), onx_fix _ _ _, ?_, ?_, ?_, ?_, ?_, ?_, ?_, ?_⟩
      · rw [range_len, seq_size]; omega
      · show ¬ h'.length = T
        omega
      · rintro j y h2 h3 ⟨d, kd, D⟩ x
        exact ⟨d, kd, Dp.ex x (fun i z _ e => by subst e; omega) D⟩
      · rintro j y h2 o ⟨d, kd, D⟩
        exact ⟨d, kd, Dt.set D (by omega)⟩
      · exact (t'.pre (pre_app _ _)).up (by omega)
      · intro j h2 o q
        exact q.set (by omega) (by omega)
      · intro j v h2 hv q x hlt
        have hj : j < m := by have := (List.getElem?_eq_some_iff.mp hv).1; rwa [range_len] at this
        have hmul : j * wc a + wc a ≤ 200 * wc a := by
          have : (j + 1) * wc a ≤ 200 * wc a := Nat.mul_le_mul_right _ (by omega)
          rw [Nat.add_mul, Nat.one_mul] at this
          exact this
        walk_at "e"
        refine (ih n false T C cells _ h2 q (by omega) (by omega)).use ?_
        rintro y h4 ⟨x4, t4, d, kd, D⟩
        exact ⟨x4, ⟨d, kd, D.up (Nat.le_refl _) (by omega)⟩, t4.up (by rw [Nat.add_mul, Nat.one_mul]; omega)⟩
      · intro ys h2 x hlt hys hr q hw
        rw [range_len] at hys q
        have hmul : m * wc a ≤ 200 * wc a := Nat.mul_le_mul_right _ hm
        refine ⟨x'.trans x, q.up (by omega), ?_⟩
        have : ∃ ds : List PyData, Dts (h'.length + 1) h2 a.deep ys ds ∧ ∀ d ∈ ds, wk a d := by
          clear hys hw
          induction ys with
          | nil => exact ⟨[], .nil _, fun d hd => by simp at hd⟩
          | cons y r ihy =>
            obtain ⟨d, kd, D⟩ := hr 0 y rfl
            obtain ⟨ds, Ds, kds⟩ := ihy fun j y hy => hr (j + 1) y hy
            refine ⟨d :: ds, .cons D Ds, fun z hz => ?_⟩
            rcases List.mem_cons.mp hz with rfl | hz
            · exact kd
            · exact kds z hz
        obtain ⟨ds, Ds, kds⟩ := this
        have hds : ds.length = m := by rw [← Dps.len Ds]; exact hys
        exact ⟨.list ds, ⟨ds, rfl, by omega, fun z => by rw [hds]; exact hm3 z, kds⟩, .ref (by omega) hw (Ds.up (Nat.le_refl _) (by omega))⟩
end Law
namespace Law
open PySem L2 M
local macro_rules | `(tactic| walk_at "e1") => `(tactic| first
  | ((with_reducible refine' w_var ?hh ?_); (case hh => rfl))
  | with_reducible refine w_int ?_
  | with_reducible refine w_str ?_
  | with_reducible refine w_bl ?_
  | with_reducible refine w_non ?_
  | with_reducible refine w_econs ?_
  | with_reducible refine w_enil ?_
  | with_reducible refine w_bop ?_
  | with_reducible refine w_cmp ?_
  | with_reducible refine w_idx ?_
  | with_reducible refine w_call ?_
  | with_reducible refine w_bi ?_
  | with_reducible refine w_lrng1 ?_
  | with_reducible refine w_lrng2 ?_
  | ((with_reducible refine' w_calld ?hh ?hj ?_); (case hh => rfl); (case hj => rfl))
  | with_reducible refine w_slc ?_
  | with_reducible refine w_osome ?_
  | with_reducible refine w_onone ?_
  | with_reducible refine w_not ?_
  | with_reducible refine w_neg ?_
  | with_reducible refine w_chn ?_
  | with_reducible refine w_ite ?_
  | with_reducible refine w_isin ?_
  | with_reducible refine w_mth ?_
  | with_reducible refine w_tup ?_
  | with_reducible refine w_lst ?_
  | ((with_reducible refine' w_glb ?hh ?_); (case hh => rfl))
  | ((with_reducible refine' w_gin ?hh ?_); (case hh => rfl))
  | ((with_reducible refine' w_gget ?hh ?_); (case hh => rfl))
  | with_reducible refine w_iseq ?_
  | with_reducible refine w_irng1 ?_
  | with_reducible refine w_irng2 ?_
  | with_reducible refine w_ienum ?_
  | with_reducible refine w_izip ?_
  | with_reducible refine s_asg' ?_
  | with_reducible refine s_expr' ?_
  | with_reducible refine s_ret' ?_
  | with_reducible refine s_ife' ?_
  | with_reducible refine s_brk ?_
  | with_reducible refine s_cont ?_
  | with_reducible refine s_pass ?_
  | ((with_reducible refine' w_tname ?hh ?_); (case hh => exact of_decide_eq_true rfl); (try dsimp only [List.set]))
  | ((with_reducible refine' w_ttup ?hh ?_); (case hh => rfl))
  | with_reducible refine w_tcons ?_
  | with_reducible refine w_tnil ?_
  | with_reducible refine w_cnone ?_
  | with_reducible refine w_csome ?_
  | with_reducible refine ix0 ?_
  | with_reducible refine ix1 ?_
  | with_reducible refine ix2 ?_
  | with_reducible refine slc1 ?_
  | with_reducible refine add_int ?_
  | with_reducible refine sub_int ?_
  | with_reducible refine mod_int (by decide) ?_
  | with_reducible refine div_int (by decide +kernel) ?_
  | with_reducible refine len_tup ?_
  | with_reducible refine seqit_tup ?_
  | with_reducible refine mul_l (by decide) (by decide) ?_
  | with_reducible refine mul_r (by decide) (by decide) ?_
  | ((fail_if_success with_reducible refine mul_q ?_); refine Tot.eq rfl ?_)
  | (refine And.intro (sz_of rfl rfl) ?_)
  | (refine if_t (by decide +kernel) ?_)
  | (refine if_f (by decide +kernel) ?_)
  | (refine Exists.intro _ (And.intro rfl ?_))
  )
local macro_rules | `(tactic| walk_at "m1") => `(tactic| first | with_reducible refine TotS.seq ?_ | with_reducible refine s_nil ?_ | walk_at "e1")
local macro_rules | `(tactic| walk_at "m") => `(tactic| repeat walk_at "m1")
local macro_rules | `(tactic| walk_at "e") => `(tactic| repeat walk_at "e1")
local macro_rules | `(tactic| walk_at "o1") => `(tactic| first
  | with_reducible refine w_or ?_
  | with_reducible refine w_and ?_)
local macro_rules | `(tactic| walk_at "o") => `(tactic| repeat first | walk_at "m1" | walk_at "o1")
def itemsF : PyData → List PyData
  | .list xs => xs
  | _ => []
def fstD : PyData → PyData
  | .tuple [x, _] => x
  | d => d
def sndD : PyData → PyData
  | .tuple [_, y] => y
  | d => d
def flatD : Kd → List PyData → PyData
  | .num, ds => .list ds
  | .truth, ds => .list ds
  | .pair a b, ds => .tuple [flatD a (ds.map fstD), flatD b (ds.map sndD)]
  | .row a, ds => .tuple [.list (ds.map fun d => .int (itemsF d).length), flatD a (ds.flatMap itemsF)]
theorem wk_fst {a b : Kd} {d : PyData} (h : wk (.pair a b) d) : wk a (fstD d) ∧ wk b (sndD d) ∧ d = .tuple [fstD d, sndD d] := by
  obtain ⟨x, y, rfl, h1, h2⟩ := h
  exact ⟨h1, h2, rfl⟩
theorem nodes_fst {a b : Kd} : ∀ {ds : List PyData}, (∀ d ∈ ds, wk (.pair a b) d) → nodesAll (ds.map fstD) ≤ nodesAll ds ∧ nodesAll (ds.map sndD) ≤ nodesAll ds
  | [], _ => ⟨Nat.le_refl _, Nat.le_refl _⟩
  | d :: ds, h => by
    have ih := nodes_fst fun z hz => h z (List.mem_cons_of_mem _ hz)
    obtain ⟨x, y, rfl, h1, h2⟩ := h d List.mem_cons_self
    simp only [List.map_cons, nodesAll, nodes, fstD, sndD] at *
    omega
theorem nodes_flat {a : Kd} : ∀ {ds : List PyData}, (∀ d ∈ ds, wk (.row a) d) → nodesAll (ds.flatMap itemsF) ≤ nodesAll ds
  | [], _ => Nat.le_refl _
  | d :: ds, h => by
    have ih := nodes_flat fun z hz => h z (List.mem_cons_of_mem _ hz)
    obtain ⟨xs, rfl, _⟩ := h d List.mem_cons_self
    simp only [List.flatMap_cons, itemsF, nodesAll, nodes, nodesAll_app] at *
    omega
theorem leaf_any {q : Nat → Prop} {h' : MH} {k : Kd} (hk : k = .num ∨ k = .truth) {n : Nat} {p : Nat → Prop} {h : MH} : ∀ {ws : List MV} {ds : List PyData}, Dps p h n ws ds → (∀ d ∈ ds, wk k d) → Dps q h' 0 ws ds
  | _, _, .nil _, _ => .nil _
  | _, _, .cons a b, w => by
    refine .cons ?_ (leaf_any hk b fun d hd => w d (List.mem_cons_of_mem _ hd))
    have := w _ List.mem_cons_self
    rcases hk with rfl | rfl
    · obtain ⟨z, rfl⟩ := this
      cases a
      exact .int _ _
    · obtain ⟨z, rfl⟩ := this
      cases a
      exact .bl _ _
theorem flat_of_ok : ∀ (k : Kd) (n m : Nat) (p : Nat → Prop) (h : MH) (w : Nat) (ws : List MV) (ds : List PyData), MH.wlist h w = some ws → Dps p h m ws ds → (∀ d ∈ ds, wk k d) → nodesAll ds ≤ 16777216 → k.deep ≤ n →
    Tot (callF GG (n + 1) i_flat_of [k.mv, .ref w] h) fun v h' => h <+: h' ∧ Dt h.length h' k.deep v (flatD k ds) := by
  intro k
  induction k with
  | num =>
    intro n m p h w ws ds hw D kd hn hf
    refine w_fn (d := f_flat_of) rfl rfl ?_
    show TotS (evSs GG (callF GG n) c_flat_of [some Kd.num.mv, some (.ref w), none, none, none, none] h) _
    unfold c_flat_of
    walk_at "m"
    refine list_ref (list_of_w hw) ?_
    exact ⟨pre_app _ _, .ref (Nat.le_refl _) wlist_new (leaf_any (.inl rfl) D kd)⟩
  | truth =>
    intro n m p h w ws ds hw D kd hn hf
    refine w_fn (d := f_flat_of) rfl rfl ?_
    show TotS (evSs GG (callF GG n) c_flat_of [some Kd.truth.mv, some (.ref w), none, none, none, none] h) _
    unfold c_flat_of
    walk_at "m"
    refine list_ref (list_of_w hw) ?_
    exact ⟨pre_app _ _, .ref (Nat.le_refl _) wlist_new (leaf_any (.inr rfl) D kd)⟩
  | pair a b iha ihb =>
    intro n m p h w ws ds hw D kd hn hf
    refine w_fn (d := f_flat_of) rfl rfl ?_
    show TotS (evSs GG (callF GG n) c_flat_of [some (Kd.pair a b).mv, some (.ref w), none, none, none, none] h) _
    unfold c_flat_of
    simp only [Kd.deep] at hf
    obtain ⟨n, rfl⟩ : ∃ j, n = j + 1 := ⟨n - 1, by omega⟩
    have hfa : a.deep ≤ n := by omega
    have hfb : b.deep ≤ n := by omega
    have hl := D.len
    have hsz : ws.length ≤ sizeLine := by have := len_nodes ds; rw [seq_size]; omega
    have item : ∀ {j : Nat} {v : MV}, ws[j]? = some v → ∃ x y dx dy m', v = .tup [x, y] ∧ ds[j]? = some (.tuple [dx, dy]) ∧ Dp p h m' x dx ∧ Dp p h m' y dy ∧ m' ≤ m := by
      intro j v hv
      obtain ⟨d, hd, Dv⟩ := D.at_ hv
      obtain ⟨dx, dy, rfl, _, _⟩ := kd d (List.mem_of_getElem? hd)
      cases Dv with
      | @tup m' xs _ s =>
        match xs, s with
        | [x, y], .cons sx (.cons sy (.nil _)) => exact ⟨x, y, dx, dy, m', rfl, hd, sx, sy, by omega⟩
    walk_at "m"
    refine w_compf ?_
    walk_at "e"
    refine seqit_ref (list_of_w hw) ?_
    refine ⟨ws, fun j y _ => ∃ d, (ds.map fstD)[j]? = some d ∧ Dp p h m y d, on_live (list_of_w hw), hsz, fun _ _ _ _ r _ => r, fun _ _ _ _ r => r, ?_, ?_⟩
    · intro j v h2 hv p2 hlt
      obtain ⟨x, y, dx, dy, m', rfl, hd, D1, D2, hm⟩ := item hv
      walk_at "e"
      exact ⟨List.prefix_refl _, dx, by rw [List.getElem?_map, hd]; rfl, D1.to hm (fun _ z => z)⟩
    intro fs h1 p1 hlt1 hfs hr1 hw1
    have DF : Dps p h m fs (ds.map fstD) := Dps.of_at (by rw [hfs, List.length_map, hl]) fun i x y hx hy => by
      obtain ⟨d, hd, DD⟩ := hr1 i x hx
      rw [hy] at hd
      cases hd
      exact DD
    walk_at "m"
    refine w_compf ?_
    walk_at "e"
    refine seqit_ref (list_of_w (wlist_pre p1 hw)) ?_
    refine ⟨ws, fun j y _ => ∃ d, (ds.map sndD)[j]? = some d ∧ Dp p h m y d, on_live (list_of_w (wlist_pre p1 hw)), hsz, fun _ _ _ _ r _ => r, fun _ _ _ _ r => r, ?_, ?_⟩
    · intro j v h2 hv p2 hlt
      obtain ⟨x, y, dx, dy, m', rfl, hd, D1, D2, hm⟩ := item hv
      walk_at "e"
      exact ⟨List.prefix_refl _, dy, by rw [List.getElem?_map, hd]; rfl, D2.to hm (fun _ z => z)⟩
    intro ss h2 p2 hlt2 hss hr2 hw2
    have DS : Dps p h m ss (ds.map sndD) := Dps.of_at (by rw [hss, List.length_map, hl]) fun i x y hx hy => by
      obtain ⟨d, hd, DD⟩ := hr2 i x hx
      rw [hy] at hd
      cases hd
      exact DD
    have nf := nodes_fst kd
    walk_at "m"
    refine (iha n m p h2 h.length fs (ds.map fstD) (wlist_pre p2 hw1) (Dps.pre (p1.trans p2) DF) (fun d hd => by obtain ⟨z, hz, rfl⟩ := List.mem_map.mp hd; exact (wk_fst (kd z hz)).1) (by omega) hfa).use ?_
    rintro va h3 ⟨p3, Da⟩
    walk_at "m"
    refine (ihb n m p h3 h1.length ss (ds.map sndD) (wlist_pre p3 hw2) (Dps.pre (p1.trans (p2.trans p3)) DS) (fun d hd => by obtain ⟨z, hz, rfl⟩ := List.mem_map.mp hd; exact (wk_fst (kd z hz)).2.1) (by omega) hfb).use ?_
    rintro vb h4 ⟨p4, Db⟩
    walk_at "m"
    have g2 := pre_len (p1.trans p2)
    have g3 := pre_len p3
    exact ⟨p1.trans (p2.trans (p3.trans p4)), .tup (.cons ((Dp.pre p4 Da).up (Nat.le_max_left _ _) (by omega)) (.cons (Dp.up Db (Nat.le_max_right _ _) (by omega)) (.nil _)))⟩
  | row a ih =>
    intro n m p h w ws ds hw D kd hn hf
    refine w_fn (d := f_flat_of) rfl rfl ?_
    show TotS (evSs GG (callF GG n) c_flat_of [some (Kd.row a).mv, some (.ref w), none, none, none, none] h) _
    unfold c_flat_of
    simp only [Kd.deep] at hf
    obtain ⟨n, rfl⟩ : ∃ j, n = j + 1 := ⟨n - 1, by omega⟩
    have hfa : a.deep ≤ n := by omega
    have hl := D.len
    have hsz : ws.length ≤ sizeLine := by have := len_nodes ds; rw [seq_size]; omega
    have nf := nodes_flat kd
    have item : ∀ {j : Nat} {v : MV}, ws[j]? = some v → ∃ i xs es m', v = .ref i ∧ ds[j]? = some (.list es) ∧ MH.wlist h i = some xs ∧ Dps p h m' xs es ∧ m' ≤ m := by
      intro j v hv
      obtain ⟨d, hd, Dv⟩ := D.at_ hv
      obtain ⟨es, rfl, _⟩ := kd d (List.mem_of_getElem? hd)
      cases Dv with
      | @ref m' i xs _ z l s => exact ⟨i, xs, es, m', rfl, hd, l, s, by omega⟩
    walk_at "m"
    refine s_foron ?_
    walk_at "e"
    refine seqit_ref (list_app (list_of_w hw)) ?_
    refine ⟨h, ws, fun i e h' => ∃ acc x, e = [some (Kd.row a).mv, some (.ref w), none, none, some (.ref h.length), x] ∧ h <+: h' ∧ MH.wlist h' h.length = some acc ∧ Dps p h m acc ((ds.take i).flatMap itemsF), on_live (list_of_w hw), ⟨[], none, rfl, pre_app _ _, wlist_new, .nil _⟩, fun i e h' ⟨_, _, _, z, _⟩ => z, ?_, ?_⟩
    · rintro i v e h1 hv ⟨acc, x, rfl, p1, hwa, DA⟩
      obtain ⟨r, xs, es, m', rfl, hd, lr, DR, hm⟩ := item hv
      walk_at "m"
      refine And.intro (recv_ref rfl (list_of_w hwa)) ?_
      walk_at "m"
      have DN : Dps p h m (acc ++ xs) ((ds.take (i + 1)).flatMap itemsF) := by
        rw [List.take_succ, hd, List.flatMap_append]
        simp only [Option.toList_some, List.flatMap_cons, List.flatMap_nil, List.append_nil, itemsF]
        exact DA.app (DR.to hm (fun _ z => z))
      refine extend_ref hwa (wlist_pre p1 lr) ?_ ?_
      · have h2 := DN.len
        rw [List.length_append] at h2
        have h3 := len_nodes ((ds.take (i + 1)).flatMap itemsF)
        have h4 := nodes_flat (a := a) (ds := ds.take (i + 1)) fun d hd => kd d (List.mem_of_mem_take hd)
        have h5 : nodesAll (ds.take (i + 1)) ≤ nodesAll ds := by
          have := nodesAll_app (ds.take (i + 1)) (ds.drop (i + 1))
          rw [List.take_append_drop] at this
          omega
        rw [seq_size]
        omega
      walk_at "m"
      exact ⟨_, _, rfl, pre_set p1 (Nat.le_refl _), wlist_set hwa, DN⟩
    · rintro e h1 ⟨acc, x, rfl, p1, hwa, DA⟩
      rw [hl, List.take_length] at DA
      walk_at "m"
      refine w_compf ?_
      walk_at "e"
      refine seqit_ref (list_of_w (wlist_pre p1 hw)) ?_
      refine ⟨ws, fun j y _ => ∃ d, ds[j]? = some d ∧ y = .int (itemsF d).length, on_live (list_of_w (wlist_pre p1 hw)), hsz, fun _ _ _ _ r _ => r, fun _ _ _ _ r => r, ?_, ?_⟩
      · intro j v h2 hv p2 hlt
        obtain ⟨r, xs, es, m', rfl, hd, lr, DR, hm⟩ := item hv
        walk_at "e"
        refine len_ref (list_of_w (wlist_pre (p1.trans p2) lr)) ?_
        exact ⟨List.prefix_refl _, _, hd, by rw [DR.len]; rfl⟩
      intro fs h2 p2 hlt2 hfs hr2 hw2
      have DF : Dts h.length h2 0 fs (ds.map fun d => .int (itemsF d).length) := Dps.of_at (by rw [hfs, List.length_map, hl]) fun i x y hx hy => by
        obtain ⟨d, hd, rfl⟩ := hr2 i x hx
        rw [List.getElem?_map, hd] at hy
        cases hy
        exact .int _ _
      walk_at "m"
      refine (ih n m p h2 h.length acc (ds.flatMap itemsF) (wlist_pre p2 hwa) (Dps.pre (p1.trans p2) DA) (fun d hd => by obtain ⟨z, hz, hz2⟩ := List.mem_flatMap.mp hd; obtain ⟨es, rfl, _, _, q⟩ := kd z hz; exact q d hz2) (by omega) hfa).use ?_
      rintro va h3 ⟨p3, Da⟩
      walk_at "m"
      have g1 := pre_len p1
      have g2 := pre_len (p1.trans p2)
      have dp := a.deep_pos
      exact ⟨p1.trans (p2.trans p3), .tup (.cons (Dp.to (n := 1) (by omega) (fun _ z => z) (.ref (by omega) (wlist_pre p3 hw2) (Dps.pre p3 DF))) (.cons (Dp.up Da (Nat.le_refl _) (by omega)) (.nil _)))⟩
end Law
namespace Law
open PySem L2 M
local macro_rules | `(tactic| walk_at "e1") => `(tactic| first
  | ((with_reducible refine' w_var ?hh ?_); (case hh => rfl))
  | with_reducible refine w_int ?_
  | with_reducible refine w_str ?_
  | with_reducible refine w_bl ?_
  | with_reducible refine w_non ?_
  | with_reducible refine w_econs ?_
  | with_reducible refine w_enil ?_
  | with_reducible refine w_bop ?_
  | with_reducible refine w_cmp ?_
  | with_reducible refine w_idx ?_
  | with_reducible refine w_call ?_
  | with_reducible refine w_bi ?_
  | with_reducible refine w_lrng1 ?_
  | with_reducible refine w_lrng2 ?_
  | ((with_reducible refine' w_calld ?hh ?hj ?_); (case hh => rfl); (case hj => rfl))
  | with_reducible refine w_slc ?_
  | with_reducible refine w_osome ?_
  | with_reducible refine w_onone ?_
  | with_reducible refine w_not ?_
  | with_reducible refine w_neg ?_
  | with_reducible refine w_chn ?_
  | with_reducible refine w_ite ?_
  | with_reducible refine w_isin ?_
  | with_reducible refine w_mth ?_
  | with_reducible refine w_tup ?_
  | with_reducible refine w_lst ?_
  | ((with_reducible refine' w_glb ?hh ?_); (case hh => rfl))
  | ((with_reducible refine' w_gin ?hh ?_); (case hh => rfl))
  | ((with_reducible refine' w_gget ?hh ?_); (case hh => rfl))
  | with_reducible refine w_iseq ?_
  | with_reducible refine w_irng1 ?_
  | with_reducible refine w_irng2 ?_
  | with_reducible refine w_ienum ?_
  | with_reducible refine w_izip ?_
  | with_reducible refine s_asg' ?_
  | with_reducible refine s_expr' ?_
  | with_reducible refine s_ret' ?_
  | with_reducible refine s_ife' ?_
  | with_reducible refine s_brk ?_
  | with_reducible refine s_cont ?_
  | with_reducible refine s_pass ?_
  | ((with_reducible refine' w_tname ?hh ?_); (case hh => exact of_decide_eq_true rfl); (try dsimp only [List.set]))
  | ((with_reducible refine' w_ttup ?hh ?_); (case hh => rfl))
  | with_reducible refine w_tcons ?_
  | with_reducible refine w_tnil ?_
  | with_reducible refine w_cnone ?_
  | with_reducible refine w_csome ?_
  | with_reducible refine ix0 ?_
  | with_reducible refine ix1 ?_
  | with_reducible refine ix2 ?_
  | with_reducible refine slc1 ?_
  | with_reducible refine add_int ?_
  | with_reducible refine sub_int ?_
  | with_reducible refine mod_int (by decide) ?_
  | with_reducible refine div_int (by decide +kernel) ?_
  | with_reducible refine len_tup ?_
  | with_reducible refine seqit_tup ?_
  | with_reducible refine mul_l (by decide) (by decide) ?_
  | with_reducible refine mul_r (by decide) (by decide) ?_
  | ((fail_if_success with_reducible refine mul_q ?_); refine Tot.eq rfl ?_)
  | (refine And.intro (sz_of rfl rfl) ?_)
  | (refine if_t (by decide +kernel) ?_)
  | (refine if_f (by decide +kernel) ?_)
  | (refine Exists.intro _ (And.intro rfl ?_))
  )
local macro_rules | `(tactic| walk_at "m1") => `(tactic| first | with_reducible refine TotS.seq ?_ | with_reducible refine s_nil ?_ | walk_at "e1")
local macro_rules | `(tactic| walk_at "m") => `(tactic| repeat walk_at "m1")
local macro_rules | `(tactic| walk_at "e") => `(tactic| repeat walk_at "e1")
local macro_rules | `(tactic| walk_at "o1") => `(tactic| first
  | with_reducible refine w_or ?_
  | with_reducible refine w_and ?_)
local macro_rules | `(tactic| walk_at "o") => `(tactic| repeat first | walk_at "m1" | walk_at "o1")
def startsN (lens : List Nat) : List Nat := (List.range lens.length).map fun i => (lens.take i).sum
theorem begins_ok (n : Nat) (h : MH) (a : Nat) (lens : List Nat) (ha : MH.wlist h a = some (lens.map fun l => .int (l : Nat))) (hz : lens.length ≤ 1000000) :
    Tot (callF GG (n + 1) i_begins [.ref a] h) fun v h' => h <+: h' ∧ ∃ R, v = .ref R ∧ h.length ≤ R ∧ MH.wlist h' R = some ((startsN lens).map fun s => .int (s : Nat)) := by
  refine w_fn (d := f_begins) rfl rfl ?_
  show TotS (evSs GG (callF GG n) c_begins [some (.ref a), none, none, none] h) _
  unfold c_begins
  walk_at "m"
  refine s_foron ?_
  walk_at "e"
  refine seqit_ref (list_app (list_of_w ha)) ?_
  refine ⟨h, lens.map fun l => .int (l : Nat), fun i e h' => i ≤ lens.length ∧ ∃ x, e = [some (.ref a), some (.ref h.length), some (.int ((lens.take i).sum : Nat)), x] ∧ h <+: h' ∧ MH.wlist h' h.length = some (((List.range i).map fun j => (lens.take j).sum).map fun s => .int (s : Nat)), on_live (list_of_w ha), ⟨Nat.zero_le _, none, rfl, pre_app _ _, wlist_new⟩, fun i e h' ⟨_, _, _, z, _⟩ => z, ?_, ?_⟩
  · rintro i v e h1 hv ⟨hi, x, rfl, p1, hw⟩
    rw [List.getElem?_map] at hv
    obtain ⟨l, hl, rfl⟩ := Option.map_eq_some_iff.mp hv
    have hil := (List.getElem?_eq_some_iff.mp hl).1
    walk_at "m"
    refine And.intro (recv_ref rfl (list_of_w hw)) ?_
    walk_at "m"
    refine append_ref hw (by simp only [List.length_map, List.length_range]; rw [seq_size]; omega) ?_
    walk_at "m"
    refine ⟨by omega, some (.int (l : Nat)), ?_, pre_set p1 (Nat.le_refl _), ?_⟩
    · rw [List.take_succ, hl]
      simp
    · rw [wlist_set hw, List.range_succ]
      simp
  · rintro e h1 ⟨hi, x, rfl, p1, hw⟩
    walk_at "m"
    refine ⟨p1, _, rfl, Nat.le_refl _, ?_⟩
    rw [hw, List.length_map]
    rfl
def withinN (lens nums : List Nat) : List Nat := nums.flatMap fun i => List.range' ((lens.take i).sum) (lens.getD i 0)
theorem rangeI_nat (s : Nat) : ∀ l : Nat, rangeI (s : Int) l = (List.range' s l).map fun j => .int (j : Nat) := by
  intro l
  induction l generalizing s with
  | zero => rfl
  | succ l ih =>
    rw [rangeI, List.range'_succ, List.map_cons]
    have := ih (s + 1)
    rw [Int.natCast_add] at this
    exact congrArg _ this
theorem within_ok (n : Nat) (h : MH) (a b : Nat) (lens nums : List Nat) (ha : MH.wlist h a = some (lens.map fun l => .int (l : Nat))) (hb : MH.wlist h b = some (nums.map fun l => .int (l : Nat))) (hz : lens.length ≤ 1000000)
    (hv : ∀ i ∈ nums, i < lens.length) (hs : lens.sum ≤ 16777216) (hw : (withinN lens nums).length ≤ 16777216) :
    Tot (callF GG (n + 2) i_numbers_within [.ref a, .ref b] h) fun v h' => h <+: h' ∧ ∃ R, v = .ref R ∧ h.length ≤ R ∧ MH.wlist h' R = some ((withinN lens nums).map fun s => .int (s : Nat)) := by
  refine w_fn (d := f_numbers_within) rfl rfl ?_
  show TotS (evSs GG (callF GG (n + 1)) c_numbers_within [some (.ref a), some (.ref b), none, none, none] h) _
  unfold c_numbers_within
  walk_at "m"
  refine (begins_ok n h a lens ha hz).use ?_
  rintro _ h1 ⟨p1, S, rfl, hS, wS⟩
  walk_at "m"
  have wS' := wlist_app (e := [MO.lst []]) wS
  have hSl := wlist_lt wS
  refine s_foron ?_
  walk_at "e"
  refine seqit_ref (list_app (list_of_w (wlist_pre p1 hb))) ?_
  refine ⟨h1, nums.map fun l => .int (l : Nat), fun i e h' => ∃ x, e = [some (.ref a), some (.ref b), some (.ref S), some (.ref h1.length), x] ∧ h1 <+: h' ∧ MH.wlist h' h1.length = some ((withinN lens (nums.take i)).map fun s => .int (s : Nat)), on_live (list_of_w (wlist_pre p1 hb)), ⟨none, rfl, pre_app _ _, wlist_new⟩, fun i e h' ⟨_, _, z, _⟩ => z, ?_, ?_⟩
  · rintro i v e h2 hvv ⟨x, rfl, p2, hw2⟩
    rw [List.getElem?_map] at hvv
    obtain ⟨k, hk, rfl⟩ := Option.map_eq_some_iff.mp hvv
    have hkl := hv k (List.mem_of_getElem? hk)
    have hlk : lens[k]? = some lens[k] := List.getElem?_eq_getElem hkl
    have sk : ((startsN lens).map fun s => MV.int (s : Nat))[k]? = some (.int ((lens.take k).sum : Nat)) := by
      rw [List.getElem?_map, startsN, List.getElem?_map, List.getElem?_range hkl]
      rfl
    have lk : (lens.map fun l => MV.int (l : Nat))[k]? = some (.int (lens[k] : Nat)) := by rw [List.getElem?_map, hlk]; rfl
    have w2S := wlist_pre p2 wS
    have w2a := wlist_pre (p1.trans p2) ha
    have bsum : (lens.take k).sum + lens[k] ≤ lens.sum := by
      have := split_at hlk
      conv => rhs; rw [this]
      rw [List.sum_append, List.sum_cons]
      omega
    walk_at "m"
    refine And.intro (recv_ref rfl (list_of_w hw2)) ?_
    walk_at "m"
    refine ix_ref (list_of_w w2S) k rfl sk ?_
    walk_at "m"
    refine ix_ref (list_of_w w2S) k rfl sk ?_
    walk_at "m"
    refine ix_ref (list_of_w w2a) k rfl lk ?_
    walk_at "m"
    have ej : ((lens.take k).sum : Int) + (lens[k] : Nat) - (lens.take k).sum = (lens[k] : Nat) := by omega
    have eN : withinN lens (nums.take (i + 1)) = withinN lens (nums.take i) ++ List.range' ((lens.take k).sum) lens[k] := by
      rw [withinN, List.take_succ, hk, List.flatMap_append]
      simp only [Option.toList_some, List.flatMap_cons, List.flatMap_nil, List.append_nil, List.getD_eq_getElem?_getD, hlk, Option.getD_some]
      rfl
    have eL : (withinN lens (nums.take (i + 1))).length ≤ (withinN lens nums).length := by
      have : withinN lens nums = withinN lens (nums.take (i + 1)) ++ withinN lens (nums.drop (i + 1)) := by
        rw [withinN, withinN, withinN, ← List.flatMap_append, List.take_append_drop]
      rw [this, List.length_append]
      omega
    refine ⟨_, _, rfl, rfl, ?_, ?_, ?_⟩
    · rw [isN_nat _ rfl (by omega), ← Int.natCast_add, isN_nat _ rfl (by omega)]
      rfl
    · rw [ej, Int.toNat_natCast, seq_size]
      omega
    rw [ej, Int.toNat_natCast, rangeI_nat]
    walk_at "m"
    refine extend_ref (wlist_app hw2) wlist_new ?_ ?_
    · rw [eN, List.length_append] at eL
      rw [List.length_map, List.length_map, seq_size]
      omega
    walk_at "m"
    refine ⟨pre_set (p2.trans (pre_app _ _)) (Nat.le_refl _), ?_⟩
    rw [wlist_set (wlist_app hw2), eN, List.map_append]
  · rintro e h2 ⟨x, rfl, p2, hw2⟩
    rw [List.length_map, List.take_length] at hw2
    walk_at "m"
    exact ⟨p1.trans p2, _, rfl, pre_len p1, hw2⟩
def pick (ds : List PyData) (nums : List Nat) : List PyData := nums.map fun i => ds.getD i .none
theorem pick_map {f : PyData → PyData} {ds : List PyData} {nums : List Nat} (hv : ∀ i ∈ nums, i < ds.length) : (pick ds nums).map f = pick (ds.map f) nums := by
  rw [pick, pick, List.map_map]
  refine List.map_congr_left fun i hi => ?_
  have := hv i hi
  simp only [Function.comp, List.getD_eq_getElem?_getD, List.getElem?_map, List.getElem?_eq_getElem this, Option.map_some, Option.getD_some]
theorem pick_wk {k : Kd} {ds : List PyData} {nums : List Nat} (hv : ∀ i ∈ nums, i < ds.length) (kd : ∀ d ∈ ds, wk k d) : ∀ d ∈ pick ds nums, wk k d := fun d hd => by
  obtain ⟨i, hi, rfl⟩ := List.mem_map.mp hd
  have := hv i hi
  rw [List.getD_eq_getElem?_getD, List.getElem?_eq_getElem this]
  exact kd _ (List.getElem_mem this)
theorem pick_range : ∀ (l : List PyData) (s n : Nat), s + n ≤ l.length → (List.range' s n).map (fun i => l.getD i .none) = (l.drop s).take n
  | l, s, 0, _ => by simp
  | l, s, n + 1, h => by
    rw [List.range'_succ, List.map_cons, pick_range l (s + 1) n (by omega)]
    have : l.drop s = l[s] :: l.drop (s + 1) := List.drop_eq_getElem_cons (by omega)
    rw [this, List.take_succ_cons, List.getD_eq_getElem?_getD, List.getElem?_eq_getElem (by omega)]
    rfl
theorem flat_drop : ∀ (ds : List PyData) (k : Nat) (h : k < ds.length), ((ds.flatMap itemsF).drop (((ds.map fun d => (itemsF d).length).take k).sum)).take (itemsF ds[k]).length = itemsF ds[k]
  | d :: ds, 0, h => by simp
  | d :: ds, k + 1, h => by
    rw [List.flatMap_cons, List.map_cons, List.take_succ_cons, List.sum_cons, List.drop_append]
    have e1 : (itemsF d).drop ((itemsF d).length + ((ds.map fun d => (itemsF d).length).take k).sum) = [] := List.drop_of_length_le (by omega)
    rw [e1, List.nil_append, Nat.add_sub_cancel_left]
    exact flat_drop ds k (by simpa using h)
theorem flat_bound : ∀ (ds : List PyData) (k : Nat) (h : k < ds.length), (((ds.map fun d => (itemsF d).length).take k).sum) + (itemsF ds[k]).length ≤ (ds.flatMap itemsF).length
  | d :: ds, 0, h => by simp
  | d :: ds, k + 1, h => by
    have := flat_bound ds k (by simpa using h)
    rw [List.flatMap_cons, List.map_cons, List.take_succ_cons, List.sum_cons, List.length_append]
    simp only [List.getElem_cons_succ]
    omega
theorem fm_congr {α β : Type} {f g : α → List β} : ∀ {l : List α}, (∀ x ∈ l, f x = g x) → l.flatMap f = l.flatMap g
  | [], _ => rfl
  | a :: l, h => by rw [List.flatMap_cons, List.flatMap_cons, h a List.mem_cons_self, fm_congr fun x hx => h x (List.mem_cons_of_mem _ hx)]
theorem pick_flat {ds : List PyData} {nums : List Nat} (hv : ∀ i ∈ nums, i < ds.length) : (pick ds nums).flatMap itemsF = pick (ds.flatMap itemsF) (withinN (ds.map fun d => (itemsF d).length) nums) := by
  rw [pick, pick, withinN, List.flatMap_map, List.map_flatMap]
  refine fm_congr fun i hi => ?_
  have h := hv i hi
  rw [pick_range]
  · rw [List.getD_eq_getElem?_getD, List.getElem?_eq_getElem h, List.getD_eq_getElem?_getD, List.getElem?_map, List.getElem?_eq_getElem h]
    simp only [Option.map_some, Option.getD_some]
    rw [flat_drop ds i h]
  · rw [List.getD_eq_getElem?_getD, List.getElem?_map, List.getElem?_eq_getElem h]
    exact flat_bound ds i h
end Law
namespace Law
open PySem L2 M
local macro_rules | `(tactic| walk_at "e1") => `(tactic| first
  | ((with_reducible refine' w_var ?hh ?_); (case hh => rfl))
  | with_reducible refine w_int ?_
  | with_reducible refine w_str ?_
  | with_reducible refine w_bl ?_
  | with_reducible refine w_non ?_
  | with_reducible refine w_econs ?_
  | with_reducible refine w_enil ?_
  | with_reducible refine w_bop ?_
  | with_reducible refine w_cmp ?_
  | with_reducible refine w_idx ?_
  | with_reducible refine w_call ?_
  | with_reducible refine w_bi ?_
  | with_reducible refine w_lrng1 ?_
  | with_reducible refine w_lrng2 ?_
  | ((with_reducible refine' w_calld ?hh ?hj ?_); (case hh => rfl); (case hj => rfl))
  | with_reducible refine w_slc ?_
  | with_reducible refine w_osome ?_
  | with_reducible refine w_onone ?_
  | with_reducible refine w_not ?_
  | with_reducible refine w_neg ?_
  | with_reducible refine w_chn ?_
  | with_reducible refine w_ite ?_
  | with_reducible refine w_isin ?_
  | with_reducible refine w_mth ?_
  | with_reducible refine w_tup ?_
  | with_reducible refine w_lst ?_
  | ((with_reducible refine' w_glb ?hh ?_); (case hh => rfl))
  | ((with_reducible refine' w_gin ?hh ?_); (case hh => rfl))
  | ((with_reducible refine' w_gget ?hh ?_); (case hh => rfl))
  | with_reducible refine w_iseq ?_
  | with_reducible refine w_irng1 ?_
  | with_reducible refine w_irng2 ?_
  | with_reducible refine w_ienum ?_
  | with_reducible refine w_izip ?_
  | with_reducible refine s_asg' ?_
  | with_reducible refine s_expr' ?_
  | with_reducible refine s_ret' ?_
  | with_reducible refine s_ife' ?_
  | with_reducible refine s_brk ?_
  | with_reducible refine s_cont ?_
  | with_reducible refine s_pass ?_
  | ((with_reducible refine' w_tname ?hh ?_); (case hh => exact of_decide_eq_true rfl); (try dsimp only [List.set]))
  | ((with_reducible refine' w_ttup ?hh ?_); (case hh => rfl))
  | with_reducible refine w_tcons ?_
  | with_reducible refine w_tnil ?_
  | with_reducible refine w_cnone ?_
  | with_reducible refine w_csome ?_
  | with_reducible refine ix0 ?_
  | with_reducible refine ix1 ?_
  | with_reducible refine ix2 ?_
  | with_reducible refine slc1 ?_
  | with_reducible refine add_int ?_
  | with_reducible refine sub_int ?_
  | with_reducible refine mod_int (by decide) ?_
  | with_reducible refine div_int (by decide +kernel) ?_
  | with_reducible refine len_tup ?_
  | with_reducible refine seqit_tup ?_
  | with_reducible refine mul_l (by decide) (by decide) ?_
  | with_reducible refine mul_r (by decide) (by decide) ?_
  | ((fail_if_success with_reducible refine mul_q ?_); refine Tot.eq rfl ?_)
  | (refine And.intro (sz_of rfl rfl) ?_)
  | (refine if_t (by decide +kernel) ?_)
  | (refine if_f (by decide +kernel) ?_)
  | (refine Exists.intro _ (And.intro rfl ?_))
  )
local macro_rules | `(tactic| walk_at "m1") => `(tactic| first | with_reducible refine TotS.seq ?_ | with_reducible refine s_nil ?_ | walk_at "e1")
local macro_rules | `(tactic| walk_at "m") => `(tactic| repeat walk_at "m1")
local macro_rules | `(tactic| walk_at "e") => `(tactic| repeat walk_at "e1")
local macro_rules | `(tactic| walk_at "o1") => `(tactic| first
  | with_reducible refine w_or ?_
  | with_reducible refine w_and ?_)
local macro_rules | `(tactic| walk_at "o") => `(tactic| repeat first | walk_at "m1" | walk_at "o1")
theorem ints_data {p : Nat → Prop} {h : MH} {n : Nat} : ∀ {ws : List MV} {ns : List Int}, Dps p h n ws (ns.map .int) → ws = ns.map .int
  | _, [], .nil _ => rfl
  | _, z :: ns, .cons a b => by
    cases a
    rw [ints_data b]
    rfl
theorem within_lt {ds : List PyData} {nums : List Nat} (hv : ∀ i ∈ nums, i < ds.length) : ∀ i ∈ withinN (ds.map fun d => (itemsF d).length) nums, i < (ds.flatMap itemsF).length := fun i hi => by
  obtain ⟨k, hk, hik⟩ := List.mem_flatMap.mp hi
  have h := hv k hk
  have hb := flat_bound ds k h
  rw [List.getD_eq_getElem?_getD, List.getElem?_map, List.getElem?_eq_getElem h] at hik
  simp only [Option.map_some, Option.getD_some, List.mem_range'_1] at hik
  omega
theorem pick_at {ds : List PyData} {nums : List Nat} {j i : Nat} (h : nums[j]? = some i) : (pick ds nums)[j]? = some (ds.getD i .none) := by rw [pick, List.getElem?_map, h]; rfl
theorem chosen_ok : ∀ (k : Kd) (n m : Nat) (p : Nat → Prop) (h : MH) (v : MV) (ds : List PyData) (b : Nat) (nums : List Nat), Dp p h m v (flatD k ds) → (∀ d ∈ ds, wk k d) → MH.wlist h b = some (nums.map fun i => .int (i : Nat)) → (∀ i ∈ nums, i < ds.length) →
    nodesAll ds ≤ 1000000 → nodesAll (pick ds nums) ≤ 16777216 → k.deep + 1 ≤ n → Tot (callF GG (n + 1) i_chosen [k.mv, v, .ref b] h) fun r h' => h <+: h' ∧ Dt h.length h' k.deep r (flatD k (pick ds nums)) := by
  have leaf : ∀ (k : Kd) (hk : k = .num ∨ k = .truth) (n m : Nat) (p : Nat → Prop) (h : MH) (f : Nat) (xs : List MV) (ds : List PyData) (b : Nat) (nums : List Nat) (x3 : Option MV), MH.wlist h f = some xs → Dps p h m xs ds → (∀ d ∈ ds, wk k d) → MH.wlist h b = some (nums.map fun i => .int (i : Nat)) → (∀ i ∈ nums, i < ds.length) → nodesAll (pick ds nums) ≤ 16777216 →
      Tot (evE GG (callF GG n) (.comp (.idx (.var 1) (.var 4)) (.name 4) (.seq (.var 2)) .none [4]) [some k.mv, some (.ref f), some (.ref b), x3, none] h) fun r h' => h <+: h' ∧ Dt h.length h' 1 r (.list (pick ds nums)) := by
    intro k hk n m p h f xs ds b nums x3 wf D kd wb hv hn
    have hsz := len_nodes (pick ds nums)
    rw [pick, List.length_map] at hsz
    refine w_compf ?_
    walk_at "e"
    refine seqit_ref (list_of_w wb) ?_
    refine ⟨_, fun j y _ => ∃ d, (pick ds nums)[j]? = some d ∧ ∀ q g, Dp q g 0 y d, on_live (list_of_w wb), by rw [List.length_map, seq_size]; rw [pick] at hn; omega, fun _ _ _ _ r _ => r, fun _ _ _ _ r => r, ?_, ?_⟩
    · intro j v h2 hvv p2 hlt
      rw [List.getElem?_map] at hvv
      obtain ⟨i, hi, rfl⟩ := Option.map_eq_some_iff.mp hvv
      have hil := hv i (List.mem_of_getElem? hi)
      have hxl : i < xs.length := by rw [D.len]; exact hil
      obtain ⟨d, hd, Dd⟩ := D.at_ (List.getElem?_eq_getElem hxl)
      walk_at "e"
      refine ix_ref (list_of_w (wlist_pre p2 wf)) i rfl (List.getElem?_eq_getElem hxl) ?_
      refine ⟨List.prefix_refl _, d, ?_, ?_⟩
      · rw [pick_at hi, List.getD_eq_getElem?_getD, hd]; rfl
      · have wd := kd d (List.mem_of_getElem? hd)
        rcases hk with rfl | rfl
        · obtain ⟨z, rfl⟩ := wd
          generalize xs[i] = y at Dd ⊢
          cases Dd
          exact fun q g => .int _ _
        · obtain ⟨z, rfl⟩ := wd
          generalize xs[i] = y at Dd ⊢
          cases Dd
          exact fun q g => .bl _ _
    · intro ys h' p' hlt hys hr hw
      refine ⟨p', .ref (Nat.le_refl _) hw (Dps.of_at (by rw [hys, List.length_map, pick, List.length_map]) fun i x y hx hy => ?_)⟩
      obtain ⟨d, hd, q⟩ := hr i x hx
      rw [hy] at hd
      cases hd
      exact q _ _
  intro k
  induction k with
  | num =>
    intro n m p h v ds b nums D kd wb hv hn hn2 hf
    rw [flatD] at D
    cases D with
    | @ref m f xs _ z l s =>
      refine w_fn (d := f_chosen) rfl rfl ?_
      show TotS (evSs GG (callF GG n) c_chosen [some Kd.num.mv, some (.ref f), some (.ref b), none, none] h) _
      unfold c_chosen
      walk_at "m"
      refine (leaf .num (.inl rfl) n m p h f xs ds b nums none l s kd wb hv hn2).use ?_
      rintro r h' ⟨p', D'⟩
      exact ⟨p', D'⟩
  | truth =>
    intro n m p h v ds b nums D kd wb hv hn hn2 hf
    rw [flatD] at D
    cases D with
    | @ref m f xs _ z l s =>
      refine w_fn (d := f_chosen) rfl rfl ?_
      show TotS (evSs GG (callF GG n) c_chosen [some Kd.truth.mv, some (.ref f), some (.ref b), none, none] h) _
      unfold c_chosen
      walk_at "m"
      refine (leaf .truth (.inr rfl) n m p h f xs ds b nums none l s kd wb hv hn2).use ?_
      rintro r h' ⟨p', D'⟩
      exact ⟨p', D'⟩
  | pair a c iha ihb =>
    intro n m p h v ds b nums D kd wb hv hn hn2 hf
    simp only [Kd.deep] at hf
    obtain ⟨n, rfl⟩ : ∃ j, n = j + 1 := ⟨n - 1, by omega⟩
    have hfa : a.deep + 1 ≤ n := by omega
    have hfb : c.deep + 1 ≤ n := by omega
    rw [flatD] at D
    have nf := nodes_fst kd
    have nf2 := nodes_fst (pick_wk hv kd)
    cases D with
    | @tup m xs _ s =>
      match xs, s with
      | [x, y], .cons sx (.cons sy (.nil _)) =>
        refine w_fn (d := f_chosen) rfl rfl ?_
        show TotS (evSs GG (callF GG (n + 1)) c_chosen [some (Kd.pair a c).mv, some (.tup [x, y]), some (.ref b), none, none] h) _
        unfold c_chosen
        walk_at "m"
        refine (iha n m p h x (ds.map fstD) b nums sx (fun d hd => by obtain ⟨z, hz, rfl⟩ := List.mem_map.mp hd; exact (wk_fst (kd z hz)).1) wb (by simpa using hv) (by omega) (by rw [← pick_map hv]; omega) hfa).use ?_
        rintro va h1 ⟨p1, Da⟩
        walk_at "m"
        refine (ihb n m p h1 y (ds.map sndD) b nums (Dp.pre p1 sy) (fun d hd => by obtain ⟨z, hz, rfl⟩ := List.mem_map.mp hd; exact (wk_fst (kd z hz)).2.1) (wlist_pre p1 wb) (by simpa using hv) (by omega) (by rw [← pick_map hv]; omega) hfb).use ?_
        rintro vb h2 ⟨p2, Db⟩
        walk_at "m"
        have g1 := pre_len p1
        refine ⟨p1.trans p2, ?_⟩
        rw [flatD, pick_map hv, pick_map hv]
        exact .tup (.cons ((Dp.pre p2 Da).up (Nat.le_max_left _ _) (Nat.le_refl _)) (.cons (Dp.up Db (Nat.le_max_right _ _) g1) (.nil _)))
  | row a ih =>
    intro n m p h v ds b nums D kd wb hv hn hn2 hf
    simp only [Kd.deep] at hf
    obtain ⟨n, rfl⟩ : ∃ j, n = j + 2 := ⟨n - 2, by omega⟩
    have hfa : a.deep + 1 ≤ n + 1 := by omega
    rw [flatD] at D
    have nf := nodes_flat kd
    have nf2 := nodes_flat (pick_wk hv kd)
    have nl := len_nodes ds
    have nl2 := len_nodes (ds.flatMap itemsF)
    have npk := len_nodes (pick ds nums)
    rw [pick, List.length_map] at npk
    cases D with
    | @tup m xs _ s =>
      match xs, s with
      | [x, y], .cons sx (.cons sy (.nil _)) =>
        cases sx with
        | @ref m r ls _ z l s =>
          have el : (ds.map fun d => PyData.int (itemsF d).length) = (ds.map fun d => ((itemsF d).length : Int)).map .int := by rw [List.map_map]; rfl
          rw [el] at s
          have els := ints_data s
          have els2 : ls = (ds.map fun d => (itemsF d).length).map fun i => .int (i : Nat) := by rw [els, List.map_map, List.map_map]; rfl
          rw [els2] at l
          clear els els2 s
          refine w_fn (d := f_chosen) rfl rfl ?_
          show TotS (evSs GG (callF GG (n + 2)) c_chosen [some (Kd.row a).mv, some (.tup [.ref r, y]), some (.ref b), none, none] h) _
          unfold c_chosen
          walk_at "m"
          refine w_compf ?_
          walk_at "e"
          refine seqit_ref (list_of_w wb) ?_
          refine ⟨_, fun j y _ => ∃ d, (pick ds nums)[j]? = some d ∧ y = .int (itemsF d).length, on_live (list_of_w wb), by rw [List.length_map, seq_size]; rw [pick] at hn2; omega, fun _ _ _ _ r _ => r, fun _ _ _ _ r => r, ?_, ?_⟩
          · intro j v h2 hvv p2 hlt
            rw [List.getElem?_map] at hvv
            obtain ⟨i, hi, rfl⟩ := Option.map_eq_some_iff.mp hvv
            have hil := hv i (List.mem_of_getElem? hi)
            walk_at "e"
            refine ix_ref (list_of_w (wlist_pre p2 l)) i rfl (v := .int (itemsF ds[i]).length) ?_ ?_
            · rw [List.getElem?_map, List.getElem?_map, List.getElem?_eq_getElem hil]; rfl
            refine ⟨List.prefix_refl _, ds[i], ?_, rfl⟩
            rw [pick_at hi, List.getD_eq_getElem?_getD, List.getElem?_eq_getElem hil]; rfl
          · intro fs h1 p1 hlt1 hfs hr1 hw1
            have DF : Dts h.length h1 0 fs ((pick ds nums).map fun d => .int (itemsF d).length) := Dps.of_at (by rw [hfs, List.length_map, List.length_map, pick, List.length_map]) fun i x y hx hy => by
              obtain ⟨d, hd, rfl⟩ := hr1 i x hx
              rw [List.getElem?_map, hd] at hy
              cases hy
              exact .int _ _
            walk_at "m"
            refine (within_ok n h1 r b (ds.map fun d => (itemsF d).length) nums (wlist_pre p1 l) (wlist_pre p1 wb) (by rw [List.length_map]; omega) (by simpa using hv) ?_ ?_).use ?_
            · rw [← List.length_flatMap]
              omega
            · have h5 := len_nodes ((pick ds nums).flatMap itemsF)
              have h6 : (pick (ds.flatMap itemsF) (withinN (ds.map fun d => (itemsF d).length) nums)).length = (withinN (ds.map fun d => (itemsF d).length) nums).length := by rw [pick, List.length_map]
              rw [← h6, ← pick_flat hv]
              omega
            rintro _ h2 ⟨p2, W, rfl, hW, wW⟩
            walk_at "m"
            refine (ih (n + 1) _ p h2 y (ds.flatMap itemsF) W _ (Dp.pre (p1.trans p2) sy) (fun d hd => by obtain ⟨z, hz, hz2⟩ := List.mem_flatMap.mp hd; obtain ⟨es, rfl, _, _, q⟩ := kd z hz; exact q d hz2) wW (within_lt hv) (by omega) (by rw [← pick_flat hv]; omega) hfa).use ?_
            rintro vb h3 ⟨p3, Db⟩
            walk_at "m"
            have g2 := pre_len (p1.trans p2)
            have dp := a.deep_pos
            refine ⟨p1.trans (p2.trans p3), ?_⟩
            rw [flatD, pick_flat hv]
            exact .tup (.cons (Dp.to (n := 1) (by omega) (fun _ z => z) (.ref (Nat.le_refl _) (wlist_pre (p2.trans p3) hw1) (Dps.pre (p2.trans p3) DF))) (.cons (Dp.up Db (Nat.le_refl _) g2) (.nil _)))
end Law
namespace Law
open PySem L2 M
local macro_rules | `(tactic| walk_at "e1") => `(tactic| first
  | ((with_reducible refine' w_var ?hh ?_); (case hh => rfl))
  | with_reducible refine w_int ?_
  | with_reducible refine w_str ?_
  | with_reducible refine w_bl ?_
  | with_reducible refine w_non ?_
  | with_reducible refine w_econs ?_
  | with_reducible refine w_enil ?_
  | with_reducible refine w_bop ?_
  | with_reducible refine w_cmp ?_
  | with_reducible refine w_idx ?_
  | with_reducible refine w_call ?_
  | with_reducible refine w_bi ?_
  | with_reducible refine w_lrng1 ?_
  | with_reducible refine w_lrng2 ?_
  | ((with_reducible refine' w_calld ?hh ?hj ?_); (case hh => rfl); (case hj => rfl))
  | with_reducible refine w_slc ?_
  | with_reducible refine w_osome ?_
  | with_reducible refine w_onone ?_
  | with_reducible refine w_not ?_
  | with_reducible refine w_neg ?_
  | with_reducible refine w_chn ?_
  | with_reducible refine w_ite ?_
  | with_reducible refine w_isin ?_
  | with_reducible refine w_mth ?_
  | with_reducible refine w_tup ?_
  | with_reducible refine w_lst ?_
  | ((with_reducible refine' w_glb ?hh ?_); (case hh => rfl))
  | ((with_reducible refine' w_gin ?hh ?_); (case hh => rfl))
  | ((with_reducible refine' w_gget ?hh ?_); (case hh => rfl))
  | with_reducible refine w_iseq ?_
  | with_reducible refine w_irng1 ?_
  | with_reducible refine w_irng2 ?_
  | with_reducible refine w_ienum ?_
  | with_reducible refine w_izip ?_
  | with_reducible refine s_asg' ?_
  | with_reducible refine s_expr' ?_
  | with_reducible refine s_ret' ?_
  | with_reducible refine s_ife' ?_
  | with_reducible refine s_brk ?_
  | with_reducible refine s_cont ?_
  | with_reducible refine s_pass ?_
  | ((with_reducible refine' w_tname ?hh ?_); (case hh => exact of_decide_eq_true rfl); (try dsimp only [List.set]))
  | ((with_reducible refine' w_ttup ?hh ?_); (case hh => rfl))
  | with_reducible refine w_tcons ?_
  | with_reducible refine w_tnil ?_
  | with_reducible refine w_cnone ?_
  | with_reducible refine w_csome ?_
  | with_reducible refine ix0 ?_
  | with_reducible refine ix1 ?_
  | with_reducible refine ix2 ?_
  | with_reducible refine slc1 ?_
  | with_reducible refine add_int ?_
  | with_reducible refine sub_int ?_
  | with_reducible refine mod_int (by decide) ?_
  | with_reducible refine div_int (by decide +kernel) ?_
  | with_reducible refine len_tup ?_
  | with_reducible refine seqit_tup ?_
  | with_reducible refine mul_l (by decide) (by decide) ?_
  | with_reducible refine mul_r (by decide) (by decide) ?_
  | ((fail_if_success with_reducible refine mul_q ?_); refine Tot.eq rfl ?_)
  | (refine And.intro (sz_of rfl rfl) ?_)
  | (refine if_t (by decide +kernel) ?_)
  | (refine if_f (by decide +kernel) ?_)
  | (refine Exists.intro _ (And.intro rfl ?_))
  )
local macro_rules | `(tactic| walk_at "m1") => `(tactic| first | with_reducible refine TotS.seq ?_ | with_reducible refine s_nil ?_ | walk_at "e1")
local macro_rules | `(tactic| walk_at "m") => `(tactic| repeat walk_at "m1")
local macro_rules | `(tactic| walk_at "e") => `(tactic| repeat walk_at "e1")
local macro_rules | `(tactic| walk_at "o1") => `(tactic| first
  | with_reducible refine w_or ?_
  | with_reducible refine w_and ?_)
local macro_rules | `(tactic| walk_at "o") => `(tactic| repeat first | walk_at "m1" | walk_at "o1")
def scal : MV → Bool
  | .int _ => true
  | .bl _ => true
  | _ => false
def LS (p : Nat → Prop) (h : MH) (c : Nat) (v : MV) : Prop := ∃ i xs, v = .ref i ∧ p i ∧ MH.wlist h i = some xs ∧ (∀ x ∈ xs, scal x = true) ∧ xs.length + c ≤ 16000000
def FS (p : Nat → Prop) (h : MH) (c : Nat) : Kd → MV → Prop
  | .num, v => LS p h c v
  | .truth, v => LS p h c v
  | .pair a b, v => ∃ x y, v = .tup [x, y] ∧ FS p h c a x ∧ FS p h c b y
  | .row a, v => ∃ x y, v = .tup [x, y] ∧ LS p h c x ∧ FS p h c a y
structure Gr (p : Nat → Prop) (c : Nat) (h h' : MH) : Prop where
  ex : Ex p h h'
  gr : ∀ i xs, p i → MH.wlist h i = some xs → ∃ k, k ≤ c ∧ MH.wlist h' i = some (xs ++ List.replicate k (.int 0))
theorem Gr.trans {p : Nat → Prop} {c d : Nat} {h h' h'' : MH} (a : Gr p c h h') (b : Gr p d h' h'') : Gr p (c + d) h h'' := ⟨a.ex.trans b.ex, fun i xs hp hw => by
  obtain ⟨k, hk, w1⟩ := a.gr i xs hp hw
  obtain ⟨j, hj, w2⟩ := b.gr i _ hp w1
  exact ⟨k + j, by omega, by rw [w2, List.append_assoc, List.replicate_append_replicate]⟩⟩
theorem LS.grow {p : Nat → Prop} {c d : Nat} {h h' : MH} {v : MV} (g : Gr p d h h') (l : LS p h (c + d) v) : LS p h' c v := by
  obtain ⟨i, xs, rfl, hp, hw, hs, hl⟩ := l
  obtain ⟨k, hk, w1⟩ := g.gr i xs hp hw
  refine ⟨i, _, rfl, hp, w1, fun x hx => ?_, by simp; omega⟩
  rcases List.mem_append.mp hx with hx | hx
  · exact hs x hx
  · rw [List.eq_of_mem_replicate hx]; rfl
theorem FS.grow {p : Nat → Prop} {c d : Nat} {h h' : MH} (g : Gr p d h h') : ∀ (k : Kd) {v : MV}, FS p h (c + d) k v → FS p h' c k v
  | .num, v, l => LS.grow g l
  | .truth, v, l => LS.grow g l
  | .pair a b, v, ⟨x, y, e, l1, l2⟩ => ⟨x, y, e, FS.grow g a l1, FS.grow g b l2⟩
  | .row a, v, ⟨x, y, e, l1, l2⟩ => ⟨x, y, e, LS.grow g l1, FS.grow g a l2⟩
theorem spoil_scal (n : Nat) (h : MH) (v : MV) (hv : scal v = true) : Tot (callF GG (n + 1) i_law_spoil [v] h) fun _ h' => h' = h := by
  refine w_fn (d := f_law_spoil) rfl rfl ?_
  show TotS (evSs GG (callF GG n) c_law_spoil [some v, none] h) _
  unfold c_law_spoil
  cases v <;> first | (simp [scal] at hv; done) | (walk_at "m"; rfl)
theorem spoil_list (n : Nat) (p : Nat → Prop) (h : MH) (v : MV) (l : LS p h 1 v) (hp : ∀ i, p i → i < h.length) : Tot (callF GG (n + 2) i_law_spoil [v] h) fun _ h' => Gr p 1 h h' := by
  obtain ⟨i, xs, rfl, hpi, hw, hs, hl⟩ := l
  refine w_fn (d := f_law_spoil) rfl rfl ?_
  show TotS (evSs GG (callF GG (n + 1)) c_law_spoil [some (.ref i), none] h) _
  unfold c_law_spoil
  walk_at "m"
  refine isin_ref (list_of_w hw) ?_
  walk_at "m"
  refine s_foron ?_
  walk_at "e"
  refine list_ref (list_of_w hw) ?_
  walk_at "e"
  refine seqit_ref list_new ?_
  refine ⟨h ++ [MO.lst xs], xs, fun j e h' => h' = h ++ [MO.lst xs] ∧ ∃ x, e = [some (.ref i), x], on_live list_new, ⟨rfl, none, rfl⟩, fun _ _ _ z => z.1 ▸ List.prefix_refl _, ?_, ?_⟩
  · rintro j u e _ hu ⟨rfl, x, rfl⟩
    walk_at "m"
    refine (spoil_scal n _ u (hs u (List.mem_of_getElem? hu))).use ?_
    rintro _ _ rfl
    walk_at "m"
    exact ⟨rfl, _, rfl⟩
  · rintro e _ ⟨rfl, x, rfl⟩
    walk_at "m"
    refine isin_ref (list_app (list_of_w hw)) ?_
    walk_at "m"
    refine And.intro (recv_ref rfl (list_app (list_of_w hw))) ?_
    walk_at "m"
    refine append_ref (wlist_app hw) (by rw [seq_size]; omega) ?_
    walk_at "m"
    refine ⟨((Ex.refl p h).app).set (.inl hpi), fun j ys hpj hj => ?_⟩
    by_cases e : i = j
    · subst e
      rw [hw] at hj
      cases hj
      exact ⟨1, Nat.le_refl _, wlist_set (wlist_app hw)⟩
    · exact ⟨0, by omega, by rw [wlist_set_ne e, wlist_app hj]; simp⟩
theorem Gr.app {p : Nat → Prop} (h e : MH) : Gr p 0 h (h ++ e) := ⟨.of_pre (pre_app _ _), fun i xs _ hw => ⟨0, Nat.le_refl _, by rw [wlist_app hw]; simp⟩⟩
theorem spoil_two (n : Nat) (p : Nat → Prop) (h : MH) (x y : MV) (c1 c2 : Nat) (hp : ∀ i, p i → i < h.length) (hx : ∀ h', Gr p 0 h h' → Tot (callF GG n i_law_spoil [x] h') fun _ h'' => Gr p c1 h' h'')
    (hy : ∀ h', Gr p c1 h h' → Tot (callF GG n i_law_spoil [y] h') fun _ h'' => Gr p c2 h' h'') : Tot (callF GG (n + 1) i_law_spoil [.tup [x, y]] h) fun _ h' => Gr p (c1 + c2) h h' := by
  refine w_fn (d := f_law_spoil) rfl rfl ?_
  show TotS (evSs GG (callF GG n) c_law_spoil [some (.tup [x, y]), none] h) _
  unfold c_law_spoil
  walk_at "m"
  with_reducible refine s_forx p ?_
  walk_at "e"
  refine seqit_ref list_new ?_
  refine ⟨h ++ [MO.lst [x, y]], [x, y], fun j e h' => (∃ x', e = [some (.tup [x, y]), x']) ∧ Gr p (match j with | 0 => 0 | 1 => c1 | _ => c1 + c2) (h ++ [MO.lst [x, y]]) h', onx_live list_new (fun z => by have := hp _ z; omega), ⟨⟨none, rfl⟩, ⟨Ex.refl _ _, fun i xs _ hw => ⟨0, Nat.le_refl _, by rw [hw]; simp⟩⟩⟩, fun _ _ _ z => z.2.ex, ?_, ?_⟩
  · rintro j u e h1 hu ⟨⟨x', rfl⟩, g⟩
    match j, hu, g with
    | 0, hu, g =>
      cases hu
      walk_at "m"
      refine (hx h1 ((Gr.app h _).trans g)).use ?_
      rintro _ h2 g2
      walk_at "m"
      have g3 : Gr p (0 + c1) _ _ := g.trans g2
      rw [Nat.zero_add] at g3
      exact ⟨⟨_, rfl⟩, g3⟩
    | 1, hu, g =>
      cases hu
      walk_at "m"
      have g0 := (Gr.app h [MO.lst [x, y]]).trans g
      rw [Nat.zero_add] at g0
      refine (hy h1 g0).use ?_
      rintro _ h2 g2
      walk_at "m"
      exact ⟨⟨_, rfl⟩, g.trans g2⟩
    | _ + 2, hu, g => simp at hu
  · rintro e h1 ⟨⟨x', rfl⟩, g⟩
    walk_at "m"
    have g0 := (Gr.app h [MO.lst [x, y]]).trans g
    rw [Nat.zero_add] at g0
    exact g0
def cntK : Kd → Nat
  | .num => 1
  | .truth => 1
  | .pair a b => cntK a + cntK b
  | .row a => 1 + cntK a
theorem spoil_flat : ∀ (k : Kd) (n c : Nat) (p : Nat → Prop) (h : MH) (v : MV), FS p h (c + cntK k) k v → (∀ i, p i → i < h.length) → k.deep + 1 ≤ n → Tot (callF GG (n + 1) i_law_spoil [v] h) fun _ h' => Gr p (cntK k) h h' := by
  have less : ∀ {p : Nat → Prop} {h : MH} {c d : Nat} {v : MV}, d ≤ c → LS p h c v → LS p h d v := fun hd ⟨i, xs, e, hp, hw, hs, hl⟩ => ⟨i, xs, e, hp, hw, hs, by omega⟩
  intro k
  induction k with
  | num =>
    intro n c p h v l hp hn
    obtain ⟨n, rfl⟩ : ∃ j, n = j + 1 := ⟨n - 1, by omega⟩
    exact spoil_list n p h v (less (by simp [cntK]) l) hp
  | truth =>
    intro n c p h v l hp hn
    obtain ⟨n, rfl⟩ : ∃ j, n = j + 1 := ⟨n - 1, by omega⟩
    exact spoil_list n p h v (less (by simp [cntK]) l) hp
  | pair a b iha ihb =>
    intro n c p h v l hp hn
    simp only [Kd.deep] at hn
    obtain ⟨n, rfl⟩ : ∃ j, n = j + 1 := ⟨n - 1, by omega⟩
    have hna : a.deep + 1 ≤ n := by omega
    have hnb : b.deep + 1 ≤ n := by omega
    obtain ⟨x, y, rfl, l1, l2⟩ := l
    rw [cntK] at l1 l2
    refine spoil_two (n + 1) p h x y (cntK a) (cntK b) hp (fun h' g => ?_) (fun h' g => ?_)
    · have l1' : FS p h (c + cntK b + cntK a + 0) a x := by rw [show c + cntK b + cntK a + 0 = c + (cntK a + cntK b) by omega]; exact l1
      exact iha n (c + cntK b) p h' x (FS.grow g a l1') (fun i z => Nat.lt_of_lt_of_le (hp i z) g.ex.len) hna
    · have l2' : FS p h (c + cntK b + cntK a) b y := by rw [show c + cntK b + cntK a = c + (cntK a + cntK b) by omega]; exact l2
      exact ihb n c p h' y (FS.grow g b l2') (fun i z => Nat.lt_of_lt_of_le (hp i z) g.ex.len) hnb
  | row a ih =>
    intro n c p h v l hp hn
    simp only [Kd.deep] at hn
    have dp := a.deep_pos
    obtain ⟨n, rfl⟩ : ∃ j, n = j + 2 := ⟨n - 2, by omega⟩
    have hna : a.deep + 1 ≤ n + 1 := by omega
    obtain ⟨x, y, rfl, l1, l2⟩ := l
    rw [cntK] at l1 l2
    refine spoil_two (n + 2) p h x y 1 (cntK a) hp (fun h' g => ?_) (fun h' g => ?_)
    · exact spoil_list n p h' x (LS.grow g (less (by omega) l1)) (fun i z => Nat.lt_of_lt_of_le (hp i z) g.ex.len)
    · have l2' : FS p h (c + cntK a + 1) a y := by rw [show c + cntK a + 1 = c + (1 + cntK a) by omega]; exact l2
      exact ih (n + 1) c p h' y (FS.grow g a l2') (fun i z => Nat.lt_of_lt_of_le (hp i z) g.ex.len) hna
theorem FS_of : ∀ (k : Kd) (n c : Nat) (p : Nat → Prop) (h : MH) (v : MV) (ds : List PyData), Dp p h n v (flatD k ds) → (∀ d ∈ ds, wk k d) → nodesAll ds + c ≤ 16000000 → FS p h c k v := by
  have leaf : ∀ (k : Kd) (hk : k = .num ∨ k = .truth) (n c : Nat) (p : Nat → Prop) (h : MH) (v : MV) (ds : List PyData), Dp p h n v (.list ds) → (∀ d ∈ ds, wk k d) → nodesAll ds + c ≤ 16000000 → LS p h c v := by
    intro k hk n c p h v ds D kd hc
    cases D with
    | @ref m i xs _ z l s =>
      refine ⟨i, xs, rfl, z, l, fun x hx => ?_, by have := s.len; have := len_nodes ds; omega⟩
      obtain ⟨j, hj⟩ := List.getElem?_of_mem hx
      obtain ⟨d, hd, D⟩ := s.at_ hj
      have w := kd d (List.mem_of_getElem? hd)
      rcases hk with rfl | rfl
      · obtain ⟨z, rfl⟩ := w
        cases D
        rfl
      · obtain ⟨z, rfl⟩ := w
        cases D
        rfl
  intro k
  induction k with
  | num => intro n c p h v ds D kd hc; exact leaf .num (.inl rfl) n c p h v ds D kd hc
  | truth => intro n c p h v ds D kd hc; exact leaf .truth (.inr rfl) n c p h v ds D kd hc
  | pair a b iha ihb =>
    intro n c p h v ds D kd hc
    have nf := nodes_fst kd
    rw [flatD] at D
    cases D with
    | @tup m xs _ s =>
      match xs, s with
      | [x, y], .cons sx (.cons sy (.nil _)) =>
        exact ⟨x, y, rfl, iha m c p h x _ sx (fun d hd => by obtain ⟨z, hz, rfl⟩ := List.mem_map.mp hd; exact (wk_fst (kd z hz)).1) (by omega), ihb m c p h y _ sy (fun d hd => by obtain ⟨z, hz, rfl⟩ := List.mem_map.mp hd; exact (wk_fst (kd z hz)).2.1) (by omega)⟩
  | row a ih =>
    intro n c p h v ds D kd hc
    have nf := nodes_flat kd
    have nl := len_nodes ds
    rw [flatD] at D
    cases D with
    | @tup m xs _ s =>
      match xs, s with
      | [x, y], .cons sx (.cons sy (.nil _)) =>
        refine ⟨x, y, rfl, ?_, ih m c p h y _ sy (fun d hd => by obtain ⟨z, hz, hz2⟩ := List.mem_flatMap.mp hd; obtain ⟨es, rfl, _, _, q⟩ := kd z hz; exact q d hz2) (by omega)⟩
        cases sx with
        | @ref m' i ys _ z l s =>
          refine ⟨i, ys, rfl, z, l, fun x hx => ?_, by have := s.len; rw [List.length_map] at this; omega⟩
          obtain ⟨j, hj⟩ := List.getElem?_of_mem hx
          obtain ⟨d, hd, D⟩ := s.at_ hj
          rw [List.getElem?_map] at hd
          obtain ⟨w, hw, rfl⟩ := Option.map_eq_some_iff.mp hd
          cases D
          rfl
end Law
namespace Law
open PySem L2 M
local macro_rules | `(tactic| walk_at "e1") => `(tactic| first
  | ((with_reducible refine' w_var ?hh ?_); (case hh => rfl))
  | with_reducible refine w_int ?_
  | with_reducible refine w_str ?_
  | with_reducible refine w_bl ?_
  | with_reducible refine w_non ?_
  | with_reducible refine w_econs ?_
  | with_reducible refine w_enil ?_
  | with_reducible refine w_bop ?_
  | with_reducible refine w_cmp ?_
  | with_reducible refine w_idx ?_
  | with_reducible refine w_call ?_
  | with_reducible refine w_bi ?_
  | with_reducible refine w_lrng1 ?_
  | with_reducible refine w_lrng2 ?_
  | ((with_reducible refine' w_calld ?hh ?hj ?_); (case hh => rfl); (case hj => rfl))
  | with_reducible refine w_slc ?_
  | with_reducible refine w_osome ?_
  | with_reducible refine w_onone ?_
  | with_reducible refine w_not ?_
  | with_reducible refine w_neg ?_
  | with_reducible refine w_chn ?_
  | with_reducible refine w_ite ?_
  | with_reducible refine w_isin ?_
  | with_reducible refine w_mth ?_
  | with_reducible refine w_tup ?_
  | with_reducible refine w_lst ?_
  | ((with_reducible refine' w_glb ?hh ?_); (case hh => rfl))
  | ((with_reducible refine' w_gin ?hh ?_); (case hh => rfl))
  | ((with_reducible refine' w_gget ?hh ?_); (case hh => rfl))
  | with_reducible refine w_iseq ?_
  | with_reducible refine w_irng1 ?_
  | with_reducible refine w_irng2 ?_
  | with_reducible refine w_ienum ?_
  | with_reducible refine w_izip ?_
  | with_reducible refine s_asg' ?_
  | with_reducible refine s_expr' ?_
  | with_reducible refine s_ret' ?_
  | with_reducible refine s_ife' ?_
  | with_reducible refine s_brk ?_
  | with_reducible refine s_cont ?_
  | with_reducible refine s_pass ?_
  | ((with_reducible refine' w_tname ?hh ?_); (case hh => exact of_decide_eq_true rfl); (try dsimp only [List.set]))
  | ((with_reducible refine' w_ttup ?hh ?_); (case hh => rfl))
  | with_reducible refine w_tcons ?_
  | with_reducible refine w_tnil ?_
  | with_reducible refine w_cnone ?_
  | with_reducible refine w_csome ?_
  | with_reducible refine ix0 ?_
  | with_reducible refine ix1 ?_
  | with_reducible refine ix2 ?_
  | with_reducible refine slc1 ?_
  | with_reducible refine add_int ?_
  | with_reducible refine sub_int ?_
  | with_reducible refine mod_int (by decide) ?_
  | with_reducible refine div_int (by decide +kernel) ?_
  | with_reducible refine len_tup ?_
  | with_reducible refine seqit_tup ?_
  | with_reducible refine mul_l (by decide) (by decide) ?_
  | with_reducible refine mul_r (by decide) (by decide) ?_
  | ((fail_if_success with_reducible refine mul_q ?_); refine Tot.eq rfl ?_)
  | (refine And.intro (sz_of rfl rfl) ?_)
  | (refine if_t (by decide +kernel) ?_)
  | (refine if_f (by decide +kernel) ?_)
  | (refine Exists.intro _ (And.intro rfl ?_))
  )
local macro_rules | `(tactic| walk_at "m1") => `(tactic| first | with_reducible refine TotS.seq ?_ | with_reducible refine s_nil ?_ | walk_at "e1")
local macro_rules | `(tactic| walk_at "m") => `(tactic| repeat walk_at "m1")
local macro_rules | `(tactic| walk_at "e") => `(tactic| repeat walk_at "e1")
local macro_rules | `(tactic| walk_at "o1") => `(tactic| first
  | with_reducible refine w_or ?_
  | with_reducible refine w_and ?_)
local macro_rules | `(tactic| walk_at "o") => `(tactic| repeat first | walk_at "m1" | walk_at "o1")
theorem behind_ok : ∀ (k : Kd) (n m m' : Nat) (p p' : Nat → Prop) (h : MH) (v v' : MV) (ds es : List PyData), Dp p h m v (flatD k ds) → Dp p' h m' v' (flatD k es) → (∀ d ∈ ds, wk k d) → (∀ d ∈ es, wk k d) → nodesAll ds + nodesAll es ≤ 16777216 → k.deep ≤ n →
    Tot (callF GG (n + 1) i_behind [k.mv, v, v'] h) fun r h' => h <+: h' ∧ Dt h.length h' k.deep r (flatD k (ds ++ es)) := by
  have leaf : ∀ (k : Kd) (hk : k = .num ∨ k = .truth) (n m m' : Nat) (p p' : Nat → Prop) (h : MH) (v v' : MV) (ds es : List PyData), Dp p h m v (.list ds) → Dp p' h m' v' (.list es) → (∀ d ∈ ds, wk k d) → (∀ d ∈ es, wk k d) → nodesAll ds + nodesAll es ≤ 16777216 →
      ∀ Q : MV → MH → Prop, (∀ r h', h <+: h' → Dt h.length h' 1 r (.list (ds ++ es)) → Q r h') → Tot (binM .add v v' h) Q := by
    intro k hk n m m' p p' h v v' ds es D D' kd ke hn Q q
    have n1 := len_nodes ds
    have n2 := len_nodes es
    cases D with
    | @ref _ i xs _ z l s =>
      cases D' with
      | @ref _ j ys _ z' l' s' =>
        refine add_ref l l' (by rw [s.len, s'.len, seq_size]; omega) ?_
        exact q _ _ (pre_app _ _) (.ref (Nat.le_refl _) wlist_new ((leaf_any hk s kd).app (leaf_any hk s' ke)))
  intro k
  induction k with
  | num =>
    intro n m m' p p' h v v' ds es D D' kd ke hn hf
    rw [flatD] at D D'
    refine w_fn (d := f_behind) rfl rfl ?_
    show TotS (evSs GG (callF GG n) c_behind [some Kd.num.mv, some v, some v'] h) _
    unfold c_behind
    walk_at "m"
    exact leaf .num (.inl rfl) n m m' p p' h v v' ds es D D' kd ke hn _ fun r h' a b => ⟨a, b⟩
  | truth =>
    intro n m m' p p' h v v' ds es D D' kd ke hn hf
    rw [flatD] at D D'
    refine w_fn (d := f_behind) rfl rfl ?_
    show TotS (evSs GG (callF GG n) c_behind [some Kd.truth.mv, some v, some v'] h) _
    unfold c_behind
    walk_at "m"
    exact leaf .truth (.inr rfl) n m m' p p' h v v' ds es D D' kd ke hn _ fun r h' a b => ⟨a, b⟩
  | pair a b iha ihb =>
    intro n m m' p p' h v v' ds es D D' kd ke hn hf
    simp only [Kd.deep] at hf
    obtain ⟨n, rfl⟩ : ∃ j, n = j + 1 := ⟨n - 1, by omega⟩
    have hfa : a.deep ≤ n := by omega
    have hfb : b.deep ≤ n := by omega
    have nf := nodes_fst kd
    have ng := nodes_fst ke
    rw [flatD] at D D'
    cases D with
    | @tup m xs _ s =>
      cases D' with
      | @tup m' ys _ s' =>
        match xs, s, ys, s' with
        | [x, y], .cons sx (.cons sy (.nil _)), [x', y'], .cons sx' (.cons sy' (.nil _)) =>
          refine w_fn (d := f_behind) rfl rfl ?_
          show TotS (evSs GG (callF GG (n + 1)) c_behind [some (Kd.pair a b).mv, some (.tup [x, y]), some (.tup [x', y'])] h) _
          unfold c_behind
          walk_at "m"
          refine (iha n m m' p p' h x x' _ _ sx sx' (fun d hd => by obtain ⟨z, hz, rfl⟩ := List.mem_map.mp hd; exact (wk_fst (kd z hz)).1) (fun d hd => by obtain ⟨z, hz, rfl⟩ := List.mem_map.mp hd; exact (wk_fst (ke z hz)).1) (by omega) hfa).use ?_
          rintro va h1 ⟨p1, Da⟩
          walk_at "m"
          refine (ihb n m m' p p' h1 y y' _ _ (Dp.pre p1 sy) (Dp.pre p1 sy') (fun d hd => by obtain ⟨z, hz, rfl⟩ := List.mem_map.mp hd; exact (wk_fst (kd z hz)).2.1) (fun d hd => by obtain ⟨z, hz, rfl⟩ := List.mem_map.mp hd; exact (wk_fst (ke z hz)).2.1) (by omega) hfb).use ?_
          rintro vb h2 ⟨p2, Db⟩
          walk_at "m"
          refine ⟨p1.trans p2, ?_⟩
          rw [flatD, List.map_append, List.map_append]
          exact .tup (.cons ((Dp.pre p2 Da).up (Nat.le_max_left _ _) (Nat.le_refl _)) (.cons (Dp.up Db (Nat.le_max_right _ _) (pre_len p1)) (.nil _)))
  | row a ih =>
    intro n m m' p p' h v v' ds es D D' kd ke hn hf
    simp only [Kd.deep] at hf
    obtain ⟨n, rfl⟩ : ∃ j, n = j + 1 := ⟨n - 1, by omega⟩
    have hfa : a.deep ≤ n := by omega
    have nf := nodes_flat kd
    have ng := nodes_flat ke
    have n1 := len_nodes ds
    have n2 := len_nodes es
    rw [flatD] at D D'
    cases D with
    | @tup m xs _ s =>
      cases D' with
      | @tup m' ys _ s' =>
        match xs, s, ys, s' with
        | [x, y], .cons sx (.cons sy (.nil _)), [x', y'], .cons sx' (.cons sy' (.nil _)) =>
          cases sx with
          | @ref _ i ws _ z l t =>
            cases sx' with
            | @ref _ j ws' _ z' l' t' =>
              refine w_fn (d := f_behind) rfl rfl ?_
              show TotS (evSs GG (callF GG (n + 1)) c_behind [some (Kd.row a).mv, some (.tup [.ref i, y]), some (.tup [.ref j, y'])] h) _
              unfold c_behind
              walk_at "m"
              have tl := t.len
              have tl' := t'.len
              rw [List.length_map] at tl tl'
              refine add_ref l l' (by rw [tl, tl', seq_size]; omega) ?_
              walk_at "m"
              refine (ih n _ _ p p' _ y y' _ _ (Dp.pre (pre_app _ _) sy) (Dp.pre (pre_app _ _) sy') (fun d hd => by obtain ⟨z, hz, hz2⟩ := List.mem_flatMap.mp hd; obtain ⟨es, rfl, _, _, q⟩ := kd z hz; exact q d hz2) (fun d hd => by obtain ⟨z, hz, hz2⟩ := List.mem_flatMap.mp hd; obtain ⟨es, rfl, _, _, q⟩ := ke z hz; exact q d hz2) (by omega) hfa).use ?_
              rintro vb h2 ⟨p2, Db⟩
              walk_at "m"
              have dp := a.deep_pos
              have e1 : (ds.map fun d => PyData.int (itemsF d).length) = (ds.map fun d => ((itemsF d).length : Int)).map .int := by rw [List.map_map]; rfl
              have e2 : (es.map fun d => PyData.int (itemsF d).length) = (es.map fun d => ((itemsF d).length : Int)).map .int := by rw [List.map_map]; rfl
              rw [e1] at t
              rw [e2] at t'
              have w1 := ints_data t
              have w2 := ints_data t'
              subst w1
              subst w2
              refine ⟨(pre_app _ _).trans p2, ?_⟩
              rw [flatD, List.map_append, List.flatMap_append, e1, e2]
              exact .tup (.cons (Dp.to (n := 1) (by omega) (fun _ z => z) (.ref (Nat.le_refl _) (wlist_pre p2 wlist_new) (Dps.ints.app Dps.ints))) (.cons (Dp.up Db (Nat.le_refl _) (by simp)) (.nil _)))
theorem first_ones_ok (k : Kd) (n m : Nat) (p : Nat → Prop) (h : MH) (v : MV) (ds : List PyData) (many : Nat) (D : Dp p h m v (flatD k ds)) (kd : ∀ d ∈ ds, wk k d) (hm : many ≤ ds.length) (hn : nodesAll ds ≤ 1000000) (hf : k.deep + 1 ≤ n) :
    Tot (callF GG (n + 2) i_first_ones [k.mv, v, .int many] h) fun r h' => h <+: h' ∧ Dt h.length h' k.deep r (flatD k (ds.take many)) := by
  have nl := len_nodes ds
  have ep : pick ds (List.range many) = ds.take many := by
    refine List.ext_getElem? fun i => ?_
    rw [pick, List.getElem?_map, List.getElem?_take]
    by_cases hi : i < many
    · rw [List.getElem?_range hi, if_pos hi]
      simp only [Option.map_some, List.getD_eq_getElem?_getD]
      rw [List.getElem?_eq_getElem (by omega)]
      rfl
    · rw [List.getElem?_eq_none (by simp; omega), if_neg hi]
      rfl
  refine w_fn (d := f_first_ones) rfl rfl ?_
  show TotS (evSs GG (callF GG (n + 1)) c_first_ones [some k.mv, some v, some (.int many)] h) _
  unfold c_first_ones
  walk_at "m"
  refine ⟨isN_nat many rfl (by omega), by rw [Int.toNat_natCast, seq_size]; omega, ?_⟩
  rw [Int.toNat_natCast]
  walk_at "m"
  have er := rangeI_nat 0 many
  rw [← List.range_eq_range'] at er
  have ntk : nodesAll (ds.take many) ≤ nodesAll ds := by
    have := nodesAll_app (ds.take many) (ds.drop many)
    rw [List.take_append_drop] at this
    omega
  refine (chosen_ok k n m p _ v ds h.length (List.range many) (Dp.pre (pre_app _ _) D) kd (by rw [← er]; exact wlist_new) (fun i hi => by have := List.mem_range.mp hi; omega) (by omega) (by rw [ep]; omega) hf).use ?_
  rintro r h2 ⟨p2, D2⟩
  rw [ep] at D2
  exact ⟨(pre_app _ _).trans p2, Dp.up D2 (Nat.le_refl _) (by simp)⟩
end Law
namespace Law
open PySem L2 M
local macro_rules | `(tactic| walk_at "e1") => `(tactic| first
  | ((with_reducible refine' w_var ?hh ?_); (case hh => rfl))
  | with_reducible refine w_int ?_
  | with_reducible refine w_str ?_
  | with_reducible refine w_bl ?_
  | with_reducible refine w_non ?_
  | with_reducible refine w_econs ?_
  | with_reducible refine w_enil ?_
  | with_reducible refine w_bop ?_
  | with_reducible refine w_cmp ?_
  | with_reducible refine w_idx ?_
  | with_reducible refine w_call ?_
  | with_reducible refine w_bi ?_
  | with_reducible refine w_lrng1 ?_
  | with_reducible refine w_lrng2 ?_
  | ((with_reducible refine' w_calld ?hh ?hj ?_); (case hh => rfl); (case hj => rfl))
  | with_reducible refine w_slc ?_
  | with_reducible refine w_osome ?_
  | with_reducible refine w_onone ?_
  | with_reducible refine w_not ?_
  | with_reducible refine w_neg ?_
  | with_reducible refine w_chn ?_
  | with_reducible refine w_ite ?_
  | with_reducible refine w_isin ?_
  | with_reducible refine w_mth ?_
  | with_reducible refine w_tup ?_
  | with_reducible refine w_lst ?_
  | ((with_reducible refine' w_glb ?hh ?_); (case hh => rfl))
  | ((with_reducible refine' w_gin ?hh ?_); (case hh => rfl))
  | ((with_reducible refine' w_gget ?hh ?_); (case hh => rfl))
  | with_reducible refine w_iseq ?_
  | with_reducible refine w_irng1 ?_
  | with_reducible refine w_irng2 ?_
  | with_reducible refine w_ienum ?_
  | with_reducible refine w_izip ?_
  | with_reducible refine s_asg' ?_
  | with_reducible refine s_expr' ?_
  | with_reducible refine s_ret' ?_
  | with_reducible refine s_ife' ?_
  | with_reducible refine s_brk ?_
  | with_reducible refine s_cont ?_
  | with_reducible refine s_pass ?_
  | ((with_reducible refine' w_tname ?hh ?_); (case hh => exact of_decide_eq_true rfl); (try dsimp only [List.set]))
  | ((with_reducible refine' w_ttup ?hh ?_); (case hh => rfl))
  | with_reducible refine w_tcons ?_
  | with_reducible refine w_tnil ?_
  | with_reducible refine w_cnone ?_
  | with_reducible refine w_csome ?_
  | with_reducible refine ix0 ?_
  | with_reducible refine ix1 ?_
  | with_reducible refine ix2 ?_
  | with_reducible refine slc1 ?_
  | with_reducible refine add_int ?_
  | with_reducible refine sub_int ?_
  | with_reducible refine mod_int (by decide) ?_
  | with_reducible refine div_int (by decide +kernel) ?_
  | with_reducible refine len_tup ?_
  | with_reducible refine seqit_tup ?_
  | with_reducible refine mul_l (by decide) (by decide) ?_
  | with_reducible refine mul_r (by decide) (by decide) ?_
  | ((fail_if_success with_reducible refine mul_q ?_); refine Tot.eq rfl ?_)
  | (refine And.intro (sz_of rfl rfl) ?_)
  | (refine if_t (by decide +kernel) ?_)
  | (refine if_f (by decide +kernel) ?_)
  | (refine Exists.intro _ (And.intro rfl ?_))
  )
local macro_rules | `(tactic| walk_at "m1") => `(tactic| first | with_reducible refine TotS.seq ?_ | with_reducible refine s_nil ?_ | walk_at "e1")
local macro_rules | `(tactic| walk_at "m") => `(tactic| repeat walk_at "m1")
local macro_rules | `(tactic| walk_at "e") => `(tactic| repeat walk_at "e1")
local macro_rules | `(tactic| walk_at "o1") => `(tactic| first
  | with_reducible refine w_or ?_
  | with_reducible refine w_and ?_)
local macro_rules | `(tactic| walk_at "o") => `(tactic| repeat first | walk_at "m1" | walk_at "o1")
def nodeB : Nat → Nat
  | 0 => 1
  | n + 1 => 202 + 3 * nodeB n
theorem nodeB_mono {a b : Nat} (h : a ≤ b) : nodeB a ≤ nodeB b := by
  induction b with
  | zero => have : a = 0 := by omega
            subst this; exact Nat.le_refl _
  | succ b ih =>
    by_cases e : a = b + 1
    · subst e; exact Nat.le_refl _
    · have := ih (by omega); rw [nodeB]; omega
theorem nodes_sum {N : Nat} : ∀ {xs : List PyData}, (∀ x ∈ xs, nodes x ≤ N) → nodesAll xs ≤ xs.length * N
  | [], _ => by simp [nodesAll]
  | x :: xs, h => by
    have h1 := h x List.mem_cons_self
    have h2 := nodes_sum fun y hy => h y (List.mem_cons_of_mem _ hy)
    rw [nodesAll, List.length_cons, Nat.add_mul, Nat.one_mul]
    omega
theorem wk_nodes : ∀ (k : Kd) (d : PyData), wk k d → nodes d ≤ nodeB (k.deep - 1)
  | .num, d, ⟨z, e⟩ => by subst e; simp [nodes, nodeB, Kd.deep]
  | .truth, d, ⟨z, e⟩ => by subst e; simp [nodes, nodeB, Kd.deep]
  | .pair a b, d, ⟨x, y, e, wx, wy⟩ => by
    subst e
    have h1 := wk_nodes a x wx
    have h2 := wk_nodes b y wy
    have h3 : nodeB (a.deep - 1) ≤ nodeB (max a.deep b.deep - 1) := nodeB_mono (by omega)
    have h4 : nodeB (b.deep - 1) ≤ nodeB (max a.deep b.deep - 1) := nodeB_mono (by omega)
    have e : (Kd.pair a b).deep - 1 = (max a.deep b.deep - 1) + 1 := by have := a.deep_pos; simp only [Kd.deep]; omega
    rw [e, nodeB, nodes, nodesAll, nodesAll, nodesAll]
    omega
  | .row a, d, ⟨xs, e, h200, h3, w⟩ => by
    subst e
    have e : (Kd.row a).deep - 1 = (a.deep - 1) + 1 := by have := a.deep_pos; simp only [Kd.deep]; omega
    have hs := nodes_sum (N := nodeB (a.deep - 1)) fun x hx => wk_nodes a x (w x hx)
    rw [e, nodeB, nodes]
    by_cases hp : a.parts = []
    · have hd : a.deep = 1 := by cases a <;> simp [Kd.parts, Kd.deep] at *
      rw [hd] at hs ⊢
      simp only [nodeB, Nat.sub_self] at hs ⊢
      omega
    · have := h3 hp
      have : xs.length * nodeB (a.deep - 1) ≤ 3 * nodeB (a.deep - 1) := Nat.mul_le_mul_right _ this
      omega
def wcB : Nat → Nat
  | 0 => 5
  | n + 1 => 3 + 200 * wcB n
theorem wcB_mono {a b : Nat} (h : a ≤ b) : wcB a ≤ wcB b := by
  induction b with
  | zero => have : a = 0 := by omega
            subst this; exact Nat.le_refl _
  | succ b ih =>
    by_cases e : a = b + 1
    · subst e; exact Nat.le_refl _
    · have := ih (by omega); rw [wcB]; omega
theorem wc_le : ∀ k : Kd, wc k ≤ wcB (k.deep - 1)
  | .num => by simp [wc, wcB, Kd.deep]
  | .truth => by simp [wc, wcB, Kd.deep]
  | .pair a b => by
    have h1 := wc_le a
    have h2 := wc_le b
    have h3 : wcB (a.deep - 1) ≤ wcB (max a.deep b.deep - 1) := wcB_mono (by omega)
    have h4 : wcB (b.deep - 1) ≤ wcB (max a.deep b.deep - 1) := wcB_mono (by omega)
    have e : (Kd.pair a b).deep - 1 = (max a.deep b.deep - 1) + 1 := by have := a.deep_pos; simp only [Kd.deep]; omega
    rw [e, wcB, wc]
    omega
  | .row a => by
    have h1 := wc_le a
    have e : (Kd.row a).deep - 1 = (a.deep - 1) + 1 := by have := a.deep_pos; simp only [Kd.deep]; omega
    rw [e, wcB, wc]
    omega
def ck : Kd → Nat
  | .num => 1
  | .truth => 1
  | .pair a b => 1 + ck a + ck b
  | .row a => 2 + ck a
theorem ck_le : ∀ k : Kd, ck k < 2 ^ k.deep ∧ cntK k ≤ 2 ^ k.deep
  | .num => by decide
  | .truth => by decide
  | .pair a b => by
    have h1 := ck_le a
    have h2 := ck_le b
    have h3 : 2 ^ a.deep ≤ 2 ^ max a.deep b.deep := Nat.pow_le_pow_right (by decide) (Nat.le_max_left _ _)
    have h4 : 2 ^ b.deep ≤ 2 ^ max a.deep b.deep := Nat.pow_le_pow_right (by decide) (Nat.le_max_right _ _)
    simp only [ck, cntK, Kd.deep]
    rw [Nat.pow_succ]
    omega
  | .row a => by
    have h1 := ck_le a
    have h3 : 2 ^ 1 ≤ 2 ^ a.deep := Nat.pow_le_pow_right (by decide) a.deep_pos
    simp only [ck, cntK, Kd.deep]
    rw [Nat.pow_succ]
    omega
theorem pair_all {a b : Kd} : ∀ {ds : List PyData}, (∀ d ∈ ds, wk (.pair a b) d) → nodesAll (ds.map fstD) + nodesAll (ds.map sndD) ≤ nodesAll ds
  | [], _ => Nat.le_refl _
  | d :: ds, h => by
    have ih := pair_all fun z hz => h z (List.mem_cons_of_mem _ hz)
    obtain ⟨x, y, rfl, h1, h2⟩ := h d List.mem_cons_self
    simp only [List.map_cons, nodesAll, nodes, fstD, sndD] at *
    omega
theorem row_all {a : Kd} : ∀ {ds : List PyData}, (∀ d ∈ ds, wk (.row a) d) → ds.length + nodesAll (ds.flatMap itemsF) ≤ nodesAll ds
  | [], _ => Nat.le_refl _
  | d :: ds, h => by
    have ih := row_all fun z hz => h z (List.mem_cons_of_mem _ hz)
    obtain ⟨xs, rfl, _⟩ := h d List.mem_cons_self
    simp only [List.flatMap_cons, itemsF, nodesAll, nodes, nodesAll_app, List.length_cons] at *
    omega
theorem ints_nodes : ∀ (ds : List PyData), nodesAll (ds.map fun d => PyData.int (itemsF d).length) = ds.length
  | [] => rfl
  | d :: ds => by rw [List.map_cons, nodesAll, ints_nodes ds, List.length_cons]; simp [nodes]; omega
theorem flatD_nodes : ∀ (k : Kd) (ds : List PyData), (∀ d ∈ ds, wk k d) → nodes (flatD k ds) ≤ nodesAll ds + ck k
  | .num, ds, h => by rw [flatD, nodes, ck]; omega
  | .truth, ds, h => by rw [flatD, nodes, ck]; omega
  | .pair a b, ds, h => by
    have h1 := flatD_nodes a (ds.map fstD) fun d hd => by obtain ⟨z, hz, rfl⟩ := List.mem_map.mp hd; exact (wk_fst (h z hz)).1
    have h2 := flatD_nodes b (ds.map sndD) fun d hd => by obtain ⟨z, hz, rfl⟩ := List.mem_map.mp hd; exact (wk_fst (h z hz)).2.1
    have h3 := pair_all h
    rw [flatD, nodes, nodesAll, nodesAll, nodesAll, ck]
    omega
  | .row a, ds, h => by
    have h1 := flatD_nodes a (ds.flatMap itemsF) fun d hd => by obtain ⟨z, hz, hz2⟩ := List.mem_flatMap.mp hd; obtain ⟨es, rfl, _, _, q⟩ := h z hz; exact q d hz2
    have h3 := row_all h
    rw [flatD, nodes, nodesAll, nodesAll, nodesAll, nodes, ints_nodes, ck]
    omega
theorem pick_all (ds : List PyData) : pick ds (List.range ds.length) = ds := by
  refine List.ext_getElem? fun i => ?_
  rw [pick, List.getElem?_map]
  by_cases h : i < ds.length
  · rw [List.getElem?_range h, List.getElem?_eq_getElem h]
    simp [h]
  · rw [List.getElem?_eq_none (by simp; omega), List.getElem?_eq_none (by omega)]
    rfl
theorem spoil_told {k : Kd} {h g : MH} {v : MV} {ds : List PyData} {n : Nat} (D : Dt h.length g n v (flatD k ds)) (kd : ∀ d ∈ ds, wk k d) (hn : nodesAll ds ≤ 10000000) (hk : k.deep ≤ 5) (hg : h <+: g) :
    Tot (callF GG 61 i_law_spoil [v] g) fun _ h' => h <+: h' := by
  have hc := (ck_le k).2
  have h32 : 2 ^ k.deep ≤ 2 ^ 5 := Nat.pow_le_pow_right (by decide) hk
  have F := FS_of k n (0 + cntK k) _ g v ds (Dp.low D) kd (by omega)
  refine (spoil_flat k 60 0 _ g v F (fun i z => z.2) (by omega)).use ?_
  rintro _ h' gr
  have y : Ex (fun i => h.length ≤ i) h h' := (Ex.of_pre hg).trans (gr.ex.to fun i _ z => z.1)
  refine List.prefix_iff_getElem?.mpr fun i hi => ?_
  exact y.at_ i _ (by show ¬ h.length ≤ i; omega) (List.getElem?_eq_getElem hi)
end Law
namespace Law
open PySem L2 M
local macro_rules | `(tactic| walk_at "e1") => `(tactic| first
  | ((with_reducible refine' w_var ?hh ?_); (case hh => rfl))
  | with_reducible refine w_int ?_
  | with_reducible refine w_str ?_
  | with_reducible refine w_bl ?_
  | with_reducible refine w_non ?_
  | with_reducible refine w_econs ?_
  | with_reducible refine w_enil ?_
  | with_reducible refine w_bop ?_
  | with_reducible refine w_cmp ?_
  | with_reducible refine w_idx ?_
  | with_reducible refine w_call ?_
  | with_reducible refine w_bi ?_
  | with_reducible refine w_lrng1 ?_
  | with_reducible refine w_lrng2 ?_
  | ((with_reducible refine' w_calld ?hh ?hj ?_); (case hh => rfl); (case hj => rfl))
  | with_reducible refine w_slc ?_
  | with_reducible refine w_osome ?_
  | with_reducible refine w_onone ?_
  | with_reducible refine w_not ?_
  | with_reducible refine w_neg ?_
  | with_reducible refine w_chn ?_
  | with_reducible refine w_ite ?_
  | with_reducible refine w_isin ?_
  | with_reducible refine w_mth ?_
  | with_reducible refine w_tup ?_
  | with_reducible refine w_lst ?_
  | ((with_reducible refine' w_glb ?hh ?_); (case hh => rfl))
  | ((with_reducible refine' w_gin ?hh ?_); (case hh => rfl))
  | ((with_reducible refine' w_gget ?hh ?_); (case hh => rfl))
  | with_reducible refine w_iseq ?_
  | with_reducible refine w_irng1 ?_
  | with_reducible refine w_irng2 ?_
  | with_reducible refine w_ienum ?_
  | with_reducible refine w_izip ?_
  | with_reducible refine s_asg' ?_
  | with_reducible refine s_expr' ?_
  | with_reducible refine s_ret' ?_
  | with_reducible refine s_ife' ?_
  | with_reducible refine s_brk ?_
  | with_reducible refine s_cont ?_
  | with_reducible refine s_pass ?_
  | ((with_reducible refine' w_tname ?hh ?_); (case hh => exact of_decide_eq_true rfl); (try dsimp only [List.set]))
  | ((with_reducible refine' w_ttup ?hh ?_); (case hh => rfl))
  | with_reducible refine w_tcons ?_
  | with_reducible refine w_tnil ?_
  | with_reducible refine w_cnone ?_
  | with_reducible refine w_csome ?_
  | with_reducible refine ix0 ?_
  | with_reducible refine ix1 ?_
  | with_reducible refine ix2 ?_
  | with_reducible refine slc1 ?_
  | with_reducible refine add_int ?_
  | with_reducible refine sub_int ?_
  | with_reducible refine mod_int (by decide) ?_
  | with_reducible refine div_int (by decide +kernel) ?_
  | with_reducible refine len_tup ?_
  | with_reducible refine seqit_tup ?_
  | with_reducible refine mul_l (by decide) (by decide) ?_
  | with_reducible refine mul_r (by decide) (by decide) ?_
  | ((fail_if_success with_reducible refine mul_q ?_); refine Tot.eq rfl ?_)
  | (refine And.intro (sz_of rfl rfl) ?_)
  | (refine if_t (by decide +kernel) ?_)
  | (refine if_f (by decide +kernel) ?_)
  | (refine Exists.intro _ (And.intro rfl ?_))
  )
local macro_rules | `(tactic| walk_at "m1") => `(tactic| first | with_reducible refine TotS.seq ?_ | with_reducible refine s_nil ?_ | walk_at "e1")
local macro_rules | `(tactic| walk_at "m") => `(tactic| repeat walk_at "m1")
local macro_rules | `(tactic| walk_at "e") => `(tactic| repeat walk_at "e1")
local macro_rules | `(tactic| walk_at "o1") => `(tactic| first
  | with_reducible refine w_or ?_
  | with_reducible refine w_and ?_)
local macro_rules | `(tactic| walk_at "o") => `(tactic| repeat first | walk_at "m1" | walk_at "o1")
theorem comp_ok (k : Kd) (hkd : k.deep ≤ 5) (T C : Nat) (cells : List Int) (N : Nat) (g2 : MH) (a0 a3 a4 a5 a6 a7 a8 a9 : Option MV) (t2 : Tp g2 T C cells N) (hN : N ≤ 100000000000) :
    Tot (evE GG (callF GG 61) (.comp (.calld 27 0 (.cons (.var 1) (.cons (.var 2) .nil))) (.name 9) (.rng1 (.call 24 (.cons (.var 1) (.cons (.int 5) .nil)))) .none [9]) [a0, some (.ref T), some k.mv, a3, a4, a5, a6, a7, a8, a9] g2) fun v g' =>
      Ex (· = T) g2 g' ∧ Tp g' T C cells (N + 50000000000) ∧ ∃ D ys ds, v = .ref D ∧ g2.length ≤ D ∧ MH.wlist g' D = some ys ∧ Dps (fun i => g2.length ≤ i) g' k.deep ys ds ∧ (∀ d ∈ ds, wk k d) ∧ ys.length ≤ 4 := by
  with_reducible refine w_compx (· = T) ?_
  walk_at "e"
  refine (law_draw_ok 59 T C cells _ 5 g2 t2 (by omega) (by decide) (by decide)).use ?_
  rintro _ g3 ⟨m, hm, rfl, x3, l3, t3⟩
  walk_at "e"
  with_reducible refine And.intro (isN_nat m rfl (by omega)) ?_
  rw [Int.toNat_natCast]
  have hT3 := t3.lt
  have hwc : wc k ≤ 8024120603 := Nat.le_trans (wc_le k) (Nat.le_trans (wcB_mono (b := 4) (by omega)) (by decide))
  with_reducible refine ⟨rangeI 0 m, fun j y h2 => ∃ d, wk k d ∧ Dt (g3.length + 1) h2 k.deep y d, fun j h2 => Tp h2 T C cells (N + 1 + j * wc k), onx_fix _ _ _, ?_, ?_, ?_, ?_, ?_, ?_, ?_, ?_⟩
  · rw [range_len, seq_size]; omega
  · show ¬ g3.length = T
    omega
  · rintro j y h2 h3 ⟨d, kd, D⟩ x
    exact ⟨d, kd, Dp.ex x (fun i z _ e => by subst e; omega) D⟩
  · rintro j y h2 o ⟨d, kd, D⟩
    exact ⟨d, kd, Dt.set D (by omega)⟩
  · exact (t3.pre (pre_app _ _)).up (by omega)
  · intro j h2 o q
    exact q.set (by omega) (by omega)
  · intro j v h2 hv q x hlt
    have hj : j < m := by have := (List.getElem?_eq_some_iff.mp hv).1; rwa [range_len] at this
    have hmul : (j + 1) * wc k ≤ 4 * 8024120603 := Nat.mul_le_mul (by omega) hwc
    rw [Nat.add_mul, Nat.one_mul] at hmul
    walk_at "e"
    refine (law_worth_2_ok k 57 true T C cells _ h2 q (by omega) (by omega)).use ?_
    rintro y h4 ⟨x4, t4, d, kd, D⟩
    exact ⟨x4, ⟨d, kd, D.up (Nat.le_refl _) (by omega)⟩, t4.up (by rw [Nat.add_mul, Nat.one_mul]; omega)⟩
  · intro ys g4 x4 hlt4 hys hr4 t4 hw4
    rw [range_len] at hys t4
    have : ∃ ds : List PyData, Dts (g3.length + 1) g4 k.deep ys ds ∧ ∀ d ∈ ds, wk k d := by
      clear hys hw4
      induction ys with
      | nil => exact ⟨[], .nil _, fun d hd => by simp at hd⟩
      | cons y r ihy =>
        obtain ⟨d, kd, D⟩ := hr4 0 y rfl
        obtain ⟨ds, Ds, kds⟩ := ihy fun j y hy => hr4 (j + 1) y hy
        refine ⟨d :: ds, .cons D Ds, fun z hz => ?_⟩
        rcases List.mem_cons.mp hz with rfl | hz
        · exact kd
        · exact kds z hz
    obtain ⟨ds, Ds, kds⟩ := this
    have hmul4 : m * wc k ≤ 4 * 8024120603 := Nat.mul_le_mul (by omega) hwc
    exact ⟨x3.trans x4, t4.up (by omega), _, ys, ds, rfl, by omega, hw4, Dps.up Ds (Nat.le_refl _) (by omega), kds, by omega⟩
end Law
namespace Law
open PySem L2 M
local macro_rules | `(tactic| walk_at "e1") => `(tactic| first
  | ((with_reducible refine' w_var ?hh ?_); (case hh => rfl))
  | with_reducible refine w_int ?_
  | with_reducible refine w_str ?_
  | with_reducible refine w_bl ?_
  | with_reducible refine w_non ?_
  | with_reducible refine w_econs ?_
  | with_reducible refine w_enil ?_
  | with_reducible refine w_bop ?_
  | with_reducible refine w_cmp ?_
  | with_reducible refine w_idx ?_
  | with_reducible refine w_call ?_
  | with_reducible refine w_bi ?_
  | with_reducible refine w_lrng1 ?_
  | with_reducible refine w_lrng2 ?_
  | ((with_reducible refine' w_calld ?hh ?hj ?_); (case hh => rfl); (case hj => rfl))
  | with_reducible refine w_slc ?_
  | with_reducible refine w_osome ?_
  | with_reducible refine w_onone ?_
  | with_reducible refine w_not ?_
  | with_reducible refine w_neg ?_
  | with_reducible refine w_chn ?_
  | with_reducible refine w_ite ?_
  | with_reducible refine w_isin ?_
  | with_reducible refine w_mth ?_
  | with_reducible refine w_tup ?_
  | with_reducible refine w_lst ?_
  | ((with_reducible refine' w_glb ?hh ?_); (case hh => rfl))
  | ((with_reducible refine' w_gin ?hh ?_); (case hh => rfl))
  | ((with_reducible refine' w_gget ?hh ?_); (case hh => rfl))
  | with_reducible refine w_iseq ?_
  | with_reducible refine w_irng1 ?_
  | with_reducible refine w_irng2 ?_
  | with_reducible refine w_ienum ?_
  | with_reducible refine w_izip ?_
  | with_reducible refine s_asg' ?_
  | with_reducible refine s_expr' ?_
  | with_reducible refine s_ret' ?_
  | with_reducible refine s_ife' ?_
  | with_reducible refine s_brk ?_
  | with_reducible refine s_cont ?_
  | with_reducible refine s_pass ?_
  | ((with_reducible refine' w_tname ?hh ?_); (case hh => exact of_decide_eq_true rfl); (try dsimp only [List.set]))
  | ((with_reducible refine' w_ttup ?hh ?_); (case hh => rfl))
  | with_reducible refine w_tcons ?_
  | with_reducible refine w_tnil ?_
  | with_reducible refine w_cnone ?_
  | with_reducible refine w_csome ?_
  | with_reducible refine ix0 ?_
  | with_reducible refine ix1 ?_
  | with_reducible refine ix2 ?_
  | with_reducible refine slc1 ?_
  | with_reducible refine add_int ?_
  | with_reducible refine sub_int ?_
  | with_reducible refine mod_int (by decide) ?_
  | with_reducible refine div_int (by decide +kernel) ?_
  | with_reducible refine len_tup ?_
  | with_reducible refine seqit_tup ?_
  | with_reducible refine mul_l (by decide) (by decide) ?_
  | with_reducible refine mul_r (by decide) (by decide) ?_
  | ((fail_if_success with_reducible refine mul_q ?_); refine Tot.eq rfl ?_)
  | (refine And.intro (sz_of rfl rfl) ?_)
  | (refine if_t (by decide +kernel) ?_)
  | (refine if_f (by decide +kernel) ?_)
  | (refine Exists.intro _ (And.intro rfl ?_))
  )
local macro_rules | `(tactic| walk_at "m1") => `(tactic| first | with_reducible refine TotS.seq ?_ | with_reducible refine s_nil ?_ | walk_at "e1")
local macro_rules | `(tactic| walk_at "m") => `(tactic| repeat walk_at "m1")
local macro_rules | `(tactic| walk_at "e") => `(tactic| repeat walk_at "e1")
local macro_rules | `(tactic| walk_at "o1") => `(tactic| first
  | with_reducible refine w_or ?_
  | with_reducible refine w_and ?_)
local macro_rules | `(tactic| walk_at "o") => `(tactic| repeat first | walk_at "m1" | walk_at "o1")
theorem law_true : ∀ ns : List Int, ns.length ≤ 63 → ∃ h', callF GG 62 i_law [.ref 0] (scriptM ns) = .ok (.bl true) h' := by
  intro ns hns
  suffices T : Tot (callF GG 62 i_law [.ref 0] (scriptM ns)) fun v _ => v = .bl true by
    obtain ⟨v, h', e, rfl⟩ := T
    exact ⟨h', e⟩
  refine w_fn (d := f_law) rfl rfl ?_
  show TotS (evSs GG (callF GG 61) c_law [some (.ref 0), none, none, none, none, none, none, none, none, none] (scriptM ns)) _
  unfold c_law
  have h0 : MH.list (scriptM ns) 0 = some (ns.map .int) := rfl
  with_reducible refine TotS.seq ?_
  walk_at "e"
  have tp : Tp (scriptM ns ++ [MO.lst (cutM (List.map MV.int ns) none (some 63))] ++ [MO.lst (cutM (List.map MV.int ns) none (some 63))] ++
        [MO.lst [MV.ref (List.length (scriptM ns ++ [MO.lst (cutM (List.map MV.int ns) none (some 63))])), MV.int 0, MV.int 0, MV.int 0]])
      (List.length (scriptM ns ++ [MO.lst (cutM (List.map MV.int ns) none (some 63))] ++ [MO.lst (cutM (List.map MV.int ns) none (some 63))]))
      (List.length (scriptM ns ++ [MO.lst (cutM (List.map MV.int ns) none (some 63))])) (cutM ns none (some 63)) 0 := by
    refine ⟨⟨0, 0, 0, Nat.le_refl _, Int.le_refl _, wlist_new⟩, ?_, by simp⟩
    rw [← cut_map]
    exact list_app list_new
  generalize scriptM ns ++ [MO.lst (cutM (List.map MV.int ns) none (some 63))] ++ [MO.lst (cutM (List.map MV.int ns) none (some 63))] ++
        [MO.lst [MV.ref (List.length (scriptM ns ++ [MO.lst (cutM (List.map MV.int ns) none (some 63))])), MV.int 0, MV.int 0, MV.int 0]] = g at *
  generalize List.length (scriptM ns ++ [MO.lst (cutM (List.map MV.int ns) none (some 63))] ++ [MO.lst (cutM (List.map MV.int ns) none (some 63))]) = T at *
  generalize List.length (scriptM ns ++ [MO.lst (cutM (List.map MV.int ns) none (some 63))]) = C at *
  generalize cutM ns none (some 63) = cells at *
  have hT := tp.lt
  with_reducible refine TotS.seq ?_
  walk_at "e"
  refine (law_draw_ok 59 T C cells 0 5 g tp (by decide) (by decide) (by decide)).use ?_
  rintro _ g1 ⟨m0, hm0, rfl, x1, l1, t1⟩
  walk_at "e"
  have el : (1 : Int) + (m0 : Int) = ((m0 + 1 : Nat) : Int) := by omega
  rw [el]
  have hkc : kc (m0 + 1) ≤ 31 := by
    match m0, hm0 with
    | 0, _ => decide
    | 1, _ => decide
    | 2, _ => decide
    | 3, _ => decide
    | 4, _ => decide
    | _ + 5, h => omega
  refine (law_kind_2_ok 58 (m0 + 1) T C cells _ g1 t1 (by omega) (by omega) (by omega)).use ?_
  rintro _ g2 ⟨⟨k, rfl, hk⟩, x2, t2⟩
  have hkd : k.deep ≤ 5 := by omega
  have t2' := t2.up (M := 100) (by omega)
  have hT2 := t2.lt
  walk_at "e"
  with_reducible refine TotS.seq ?_
  with_reducible refine s_asg' ?_
  refine (comp_ok k hkd T C cells 100 g2 _ _ _ _ _ _ _ _ t2' (by omega)).use ?_
  rintro _ g3 ⟨x3, t3, D1, ys1, ds1, rfl, hD1, w1, Q1, kd1, l1⟩
  walk_at "e"
  with_reducible refine TotS.seq ?_
  with_reducible refine s_asg' ?_
  refine (comp_ok k hkd T C cells _ g3 _ _ _ _ _ _ _ _ t3 (by omega)).use ?_
  rintro _ g4 ⟨x4, t4, D2, ys2, ds2, rfl, hD2, w2', Q2, kd2, l2⟩
  have w1' : MH.wlist g4 D1 = some ys1 := x4.wlist (by show ¬ D1 = T; omega) w1
  have Q1' := Dps.ex x4 (fun i z _ e => by subst e; omega) Q1
  have y1 := Q1.len
  have y2 := Q2.len
  have nb : ∀ ds : List PyData, (∀ d ∈ ds, wk k d) → ds.length ≤ 8 → nodesAll ds ≤ 65288 := fun ds kd hl => by
    have h1 := nodes_sum (N := 8161) (xs := ds) fun x hx => Nat.le_trans (wk_nodes k x (kd x hx)) (Nat.le_trans (nodeB_mono (b := 4) (by omega)) (by decide))
    have : ds.length * 8161 ≤ 8 * 8161 := Nat.mul_le_mul_right _ hl
    omega
  have n1 := nb ds1 kd1 (by omega)
  have n2 := nb ds2 kd2 (by omega)
  have kd12 : ∀ d ∈ ds1 ++ ds2, wk k d := fun d hd => (List.mem_append.mp hd).elim (kd1 d) (kd2 d)
  have kd21 : ∀ d ∈ ds2 ++ ds1, wk k d := fun d hd => (List.mem_append.mp hd).elim (kd2 d) (kd1 d)
  have n12 := nb _ kd12 (by rw [List.length_append]; omega)
  have n21 := nb _ kd21 (by rw [List.length_append]; omega)
  have hck := (ck_le k).1
  have h32 : 2 ^ k.deep ≤ 2 ^ 5 := Nat.pow_le_pow_right (by decide) hkd
  have f1 := flatD_nodes k _ kd1
  have f2 := flatD_nodes k _ kd2
  have f12 := flatD_nodes k _ kd12
  have f21 := flatD_nodes k _ kd21
  walk_at "e"
  with_reducible refine TotS.seq ?_
  walk_at "e"
  refine (flat_of_ok k 60 k.deep _ g4 D1 ys1 ds1 w1' Q1' kd1 (by omega) (by omega)).use ?_
  rintro m1 g5 ⟨p5, F1⟩
  walk_at "e"
  with_reducible refine TotS.seq ?_
  walk_at "e"
  refine (flat_of_ok k 60 k.deep _ g5 D2 ys2 ds2 (wlist_pre p5 w2') (Dps.pre p5 Q2) kd2 (by omega) (by omega)).use ?_
  rintro m2 g6 ⟨p6, F2⟩
  have q46 := p5.trans p6
  have F1' := Dp.pre p6 F1
  have wa := wlist_pre q46 w1'
  have wb := wlist_pre q46 w2'
  have Da := Dps.pre q46 Q1'
  have Db := Dps.pre q46 Q2
  walk_at "e"
  with_reducible refine TotS.seq ?_
  walk_at "e"
  refine (behind_ok k 60 k.deep k.deep _ _ g6 m1 m2 ds1 ds2 F1' F2 kd1 kd2 (by omega) (by omega)).use ?_
  rintro tv g7 ⟨p7, DT⟩
  walk_at "e"
  with_reducible refine TotS.seq ?_
  walk_at "e"
  refine add_ref (wlist_pre p7 wa) (wlist_pre p7 wb) (by rw [seq_size]; omega) ?_
  walk_at "e"
  refine (flat_of_ok k 60 k.deep (fun _ => True) _ g7.length (ys1 ++ ys2) (ds1 ++ ds2) wlist_new ((Dps.to (Nat.le_refl _) (fun _ _ => trivial) (Dps.pre (p7.trans (pre_app _ _)) Da)).app (Dps.to (Nat.le_refl _) (fun _ _ => trivial) (Dps.pre (p7.trans (pre_app _ _)) Db))) kd12 (by omega) (by omega)).use ?_
  rintro v8 g8 ⟨p8, D8⟩
  walk_at "e"
  refine (alike_ok 60 k.deep _ _ g8 _ _ _ (Dp.to (by omega) (fun _ z => z) D8) (Dp.pre ((pre_app _ _).trans p8) DT) (by omega)).use ?_
  rintro _ g9 ⟨p9, rfl⟩
  have q79 := ((pre_app g7 _).trans p8).trans p9
  walk_at "e"
  with_reducible refine s_nil ?_
  with_reducible refine TotS.seq ?_
  walk_at "e"
  refine (spoil_told (h := g6) (g := g9) (Dp.pre q79 DT) kd12 (by omega) hkd (p7.trans q79)).use ?_
  rintro _ g10 p10
  walk_at "e"
  with_reducible refine TotS.seq ?_
  walk_at "e"
  have same1 : ∀ {g : MH}, g6 <+: g → Tot (callF GG 61 i_flat_of [k.mv, .ref D1] g) fun v h' => g <+: h' ∧ Dt g.length h' k.deep v (flatD k ds1) := fun q => flat_of_ok k 60 k.deep _ _ D1 ys1 ds1 (wlist_pre q wa) (Dps.pre q Da) kd1 (by omega) (by omega)
  have same2 : ∀ {g : MH}, g6 <+: g → Tot (callF GG 61 i_flat_of [k.mv, .ref D2] g) fun v h' => g <+: h' ∧ Dt g.length h' k.deep v (flatD k ds2) := fun q => flat_of_ok k 60 k.deep _ _ D2 ys2 ds2 (wlist_pre q wb) (Dps.pre q Db) kd2 (by omega) (by omega)
  refine (same1 p10).use ?_
  rintro v11 g11 ⟨p11, D11⟩
  walk_at "e"
  refine (alike_ok 60 k.deep _ _ g11 _ _ _ (Dp.to (by omega) (fun _ z => z) D11) (Dp.pre (p10.trans p11) F1') (by omega)).use ?_
  rintro _ g12 ⟨p12, rfl⟩
  have q12 := p10.trans (p11.trans p12)
  walk_at "e"
  with_reducible refine s_nil ?_
  with_reducible refine TotS.seq ?_
  walk_at "e"
  refine (same2 q12).use ?_
  rintro v13 g13 ⟨p13, D13⟩
  walk_at "e"
  refine (alike_ok 60 k.deep _ _ g13 _ _ _ (Dp.to (by omega) (fun _ z => z) D13) (Dp.pre (q12.trans p13) F2) (by omega)).use ?_
  rintro _ g14 ⟨p14, rfl⟩
  have q14 := q12.trans (p13.trans p14)
  walk_at "e"
  with_reducible refine s_nil ?_
  with_reducible refine TotS.cut (fun e h' => (∃ x7 x8, e = [some (.ref 0), some (.ref T), some k.mv, some (.ref D1), some (.ref D2), some m1, some m2, x7, x8, none]) ∧ g6 <+: h') ?_ ?_
  · with_reducible refine s_foron ?_
    walk_at "e"
    refine len_ref (list_of_w (wlist_pre q14 wa)) ?_
    with_reducible refine w_int ?_
    with_reducible refine add_int ?_
    have em : (ys1.length : Int) + 1 = ((ys1.length + 1 : Nat) : Int) := by omega
    have eb : bnd62 ((ys1.length : Int) + 1) = true := by rw [em]; exact isN_nat _ rfl (by omega)
    have ez : ((ys1.length : Int) + 1).toNat = ys1.length + 1 := by omega
    with_reducible refine Exists.intro _ (And.intro (Eq.refl _) (And.intro eb ?_))
    rw [ez]
    with_reducible refine ⟨[], rangeI 0 (ys1.length + 1), fun i e h' => (∃ x7 x8, e = [some (.ref 0), some (.ref T), some k.mv, some (.ref D1), some (.ref D2), some m1, some m2, x7, x8, none]) ∧ g6 <+: h', on_fix _ _, ⟨⟨_, _, rfl⟩, q14⟩, fun _ _ _ _ => List.nil_prefix, ?_, fun _ _ z => z⟩
    intro i u e h1 hu ⟨⟨x7, x8, he⟩, q1⟩
    subst he
    have hi : i < ys1.length + 1 := by have := (List.getElem?_eq_some_iff.mp hu).1; rwa [range_len] at this
    rw [range_at _ 0 i hi, Int.zero_add] at hu
    cases hu
    with_reducible refine' w_tname ?hh ?_
    case hh => exact of_decide_eq_true rfl
    (try dsimp only [List.set])
    with_reducible refine TotS.seq ?_
    with_reducible refine s_asg' ?_
    with_reducible refine w_call ?_
    with_reducible refine w_econs ?_
    with_reducible refine w_var (v := k.mv) ?_ ?_
    · rfl
    with_reducible refine w_econs ?_
    with_reducible refine w_var (v := m1) ?_ ?_
    · rfl
    with_reducible refine w_econs ?_
    with_reducible refine w_var (v := .int (i : Nat)) ?_ ?_
    · rfl
    with_reducible refine w_enil ?_
    refine (first_ones_ok k 59 k.deep _ h1 m1 ds1 i (Dp.pre q1 F1') kd1 (by omega) (by omega) (by omega)).use ?_
    rintro tv2 h2 ⟨r2, E2⟩
    walk_at "e"
    with_reducible refine TotS.seq ?_
    walk_at "e"
    refine slc_ref (list_of_w (wlist_pre (q1.trans r2) wa)) ?_
    rw [cut_to]
    walk_at "e"
    have kdt : ∀ d ∈ ds1.take i, wk k d := fun d hd => kd1 d (List.mem_of_mem_take hd)
    have nt := nb _ kdt (by rw [List.length_take]; omega)
    have ft := flatD_nodes k _ kdt
    refine (flat_of_ok k 60 k.deep _ _ h2.length (ys1.take i) (ds1.take i) wlist_new ((Dps.pre ((q1.trans r2).trans (pre_app _ _)) Da).take i) kdt (by omega) (by omega)).use ?_
    rintro v3 h3 ⟨r3, E3⟩
    walk_at "e"
    refine (alike_ok 60 k.deep _ _ h3 _ _ _ (Dp.to (by omega) (fun _ z => z) E3) (Dp.pre ((pre_app _ _).trans r3) E2) (by omega)).use ?_
    rintro _ h4 ⟨r4, rfl⟩
    have s24 := ((pre_app h2 _).trans r3).trans r4
    walk_at "e"
    with_reducible refine s_nil ?_
    with_reducible refine TotS.seq ?_
    walk_at "e"
    refine (spoil_told (h := h1) (g := h4) (Dp.pre s24 E2) kdt (by omega) hkd (r2.trans s24)).use ?_
    rintro _ h5 r5
    with_reducible refine s_nil ?_
    exact ⟨⟨_, _, rfl⟩, q1.trans r5⟩
  intro e h1 ⟨⟨x7, x8, he⟩, q1⟩
  subst he
  with_reducible refine TotS.seq ?_
  walk_at "e"
  refine add_ref (wlist_pre q1 wb) (wlist_pre q1 wa) (by rw [seq_size]; omega) ?_
  walk_at "e"
  refine (flat_of_ok k 60 k.deep (fun _ => True) _ h1.length (ys2 ++ ys1) (ds2 ++ ds1) wlist_new ((Dps.to (Nat.le_refl _) (fun _ _ => trivial) (Dps.pre (q1.trans (pre_app _ _)) Db)).app (Dps.to (Nat.le_refl _) (fun _ _ => trivial) (Dps.pre (q1.trans (pre_app _ _)) Da))) kd21 (by omega) (by omega)).use ?_
  rintro v2 h2 ⟨r2, E2⟩
  have s2 := q1.trans ((pre_app _ _).trans r2)
  walk_at "e"
  refine (behind_ok k 60 k.deep k.deep _ _ h2 m2 m1 ds2 ds1 (Dp.pre s2 F2) (Dp.pre s2 F1') kd2 kd1 (by omega) (by omega)).use ?_
  rintro v3 h3 ⟨r3, E3⟩
  walk_at "e"
  refine (alike_ok 60 k.deep _ _ h3 _ _ _ (Dp.to (by omega) (fun _ z => z) (Dp.pre r3 E2)) E3 (by omega)).use ?_
  rintro _ h4 ⟨r4, rfl⟩
  have s4 := s2.trans (r3.trans r4)
  walk_at "e"
  with_reducible refine s_nil ?_
  with_reducible refine TotS.seq ?_
  walk_at "e"
  refine (same1 s4).use ?_
  rintro v5 h5 ⟨r5, E5⟩
  walk_at "e"
  refine (alike_ok 60 k.deep _ _ h5 _ _ _ (Dp.to (by omega) (fun _ z => z) E5) (Dp.pre (s4.trans r5) F1') (by omega)).use ?_
  rintro _ h6 ⟨r6, rfl⟩
  rfl
end Law
namespace Law
open PySem L2 M
theorem all_mk {l : PySem.W.OpenLaw} {w : World} {K : PySem.W.Frag} {h : Heap} {mg : Str → Option Value} {fa : Addr} (X : K.In h) (G : h.Ns mainGlobals mg) (hfa : mg "law" = some (.ref fa))
    {od0 an0 : Option Addr} {sl_0 : Array (Option Value)} {oc0 kV0 dc0 pm0 cd0 ct0 : Value} {f0 : Addr}
    {od1 an1 : Option Addr} {sl_1 : Array (Option Value)} {oc1 kV1 dc1 pm1 cd1 ct1 : Value} {f1 : Addr}
    {od2 an2 : Option Addr} {sl_2 : Array (Option Value)} {oc2 kV2 dc2 pm2 cd2 ct2 : Value} {f2 : Addr}
    {od3 an3 : Option Addr} {sl_3 : Array (Option Value)} {oc3 kV3 dc3 pm3 cd3 ct3 : Value} {f3 : Addr}
    {od4 an4 : Option Addr} {sl_4 : Array (Option Value)} {oc4 kV4 dc4 pm4 cd4 ct4 : Value} {f4 : Addr}
    {od5 an5 : Option Addr} {sl_5 : Array (Option Value)} {oc5 kV5 dc5 pm5 cd5 ct5 : Value} {f5 : Addr}
    {od6 an6 : Option Addr} {sl_6 : Array (Option Value)} {oc6 kV6 dc6 pm6 cd6 ct6 : Value} {f6 : Addr}
    {od7 an7 : Option Addr} {sl_7 : Array (Option Value)} {oc7 kV7 dc7 pm7 cd7 ct7 : Value} {f7 : Addr}
    {od8 an8 : Option Addr} {sl_8 : Array (Option Value)} {oc8 kV8 dc8 pm8 cd8 ct8 : Value} {f8 : Addr}
    {od9 an9 : Option Addr} {sl_9 : Array (Option Value)} {oc9 kV9 dc9 pm9 cd9 ct9 : Value} {f9 : Addr}
    {T9 : Addr} {td9 : Option Addr} {tn9 : Nat} {ts9 : Array (Option Value)}
    {od10 an10 : Option Addr} {sl_10 : Array (Option Value)} {oc10 kV10 dc10 pm10 cd10 ct10 : Value} {f10 : Addr}
    {od11 an11 : Option Addr} {sl_11 : Array (Option Value)} {oc11 kV11 dc11 pm11 cd11 ct11 : Value} {f11 : Addr}
    {od12 an12 : Option Addr} {sl_12 : Array (Option Value)} {oc12 kV12 dc12 pm12 cd12 ct12 : Value} {f12 : Addr}
    (fa0 : PySem.W.nsIn K mainGlobals "flat_of" = some (some (.ref f0)))
    (fl0 : K.lookup f0 = some ⟨oc0, od0, .func (PySem.W.fnOf "flat_of" "flat_of" (defArgs (top 1)) (defBody (top 1)) (defScope (top 1)) .none kV0 dc0 pm0 an0 cd0 ct0), sl_0⟩)
    (fc0 : PySem.W.codeIn K cd0 "flat_of" = true)
    (fk0 : PySem.W.keepIn K (.ref f0) = true)
    (fa1 : PySem.W.nsIn K mainGlobals "begins" = some (some (.ref f1)))
    (fl1 : K.lookup f1 = some ⟨oc1, od1, .func (PySem.W.fnOf "begins" "begins" (defArgs (top 3)) (defBody (top 3)) (defScope (top 3)) .none kV1 dc1 pm1 an1 cd1 ct1), sl_1⟩)
    (fc1 : PySem.W.codeIn K cd1 "begins" = true)
    (fk1 : PySem.W.keepIn K (.ref f1) = true)
    (fa2 : PySem.W.nsIn K mainGlobals "numbers_within" = some (some (.ref f2)))
    (fl2 : K.lookup f2 = some ⟨oc2, od2, .func (PySem.W.fnOf "numbers_within" "numbers_within" (defArgs (top 4)) (defBody (top 4)) (defScope (top 4)) .none kV2 dc2 pm2 an2 cd2 ct2), sl_2⟩)
    (fc2 : PySem.W.codeIn K cd2 "numbers_within" = true)
    (fk2 : PySem.W.keepIn K (.ref f2) = true)
    (fa3 : PySem.W.nsIn K mainGlobals "chosen" = some (some (.ref f3)))
    (fl3 : K.lookup f3 = some ⟨oc3, od3, .func (PySem.W.fnOf "chosen" "chosen" (defArgs (top 5)) (defBody (top 5)) (defScope (top 5)) .none kV3 dc3 pm3 an3 cd3 ct3), sl_3⟩)
    (fc3 : PySem.W.codeIn K cd3 "chosen" = true)
    (fk3 : PySem.W.keepIn K (.ref f3) = true)
    (fa4 : PySem.W.nsIn K mainGlobals "behind" = some (some (.ref f4)))
    (fl4 : K.lookup f4 = some ⟨oc4, od4, .func (PySem.W.fnOf "behind" "behind" (defArgs (top 6)) (defBody (top 6)) (defScope (top 6)) .none kV4 dc4 pm4 an4 cd4 ct4), sl_4⟩)
    (fc4 : PySem.W.codeIn K cd4 "behind" = true)
    (fk4 : PySem.W.keepIn K (.ref f4) = true)
    (fa5 : PySem.W.nsIn K mainGlobals "first_ones" = some (some (.ref f5)))
    (fl5 : K.lookup f5 = some ⟨oc5, od5, .func (PySem.W.fnOf "first_ones" "first_ones" (defArgs (top 7)) (defBody (top 7)) (defScope (top 7)) .none kV5 dc5 pm5 an5 cd5 ct5), sl_5⟩)
    (fc5 : PySem.W.codeIn K cd5 "first_ones" = true)
    (fk5 : PySem.W.keepIn K (.ref f5) = true)
    (fa6 : PySem.W.nsIn K mainGlobals "_law_draw" = some (some (.ref f6)))
    (fl6 : K.lookup f6 = some ⟨oc6, od6, .func (PySem.W.fnOf "_law_draw" "_law_draw" (defArgs (top 9)) (defBody (top 9)) (defScope (top 9)) .none kV6 dc6 pm6 an6 cd6 ct6), sl_6⟩)
    (fc6 : PySem.W.codeIn K cd6 "_law_draw" = true)
    (fk6 : PySem.W.keepIn K (.ref f6) = true)
    (fa7 : PySem.W.nsIn K mainGlobals "_law_number" = some (some (.ref f7)))
    (fl7 : K.lookup f7 = some ⟨oc7, od7, .func (PySem.W.fnOf "_law_number" "_law_number" (defArgs (top 10)) (defBody (top 10)) (defScope (top 10)) .none kV7 dc7 pm7 an7 cd7 ct7), sl_7⟩)
    (fc7 : PySem.W.codeIn K cd7 "_law_number" = true)
    (fk7 : PySem.W.keepIn K (.ref f7) = true)
    (fa8 : PySem.W.nsIn K mainGlobals "_law_kind" = some (some (.ref f8)))
    (fl8 : K.lookup f8 = some ⟨oc8, od8, .func (PySem.W.fnOf "_law_kind" "_law_kind" (defArgs (top 11)) (defBody (top 11)) (defScope (top 11)) .none kV8 dc8 pm8 an8 cd8 ct8), sl_8⟩)
    (fc8 : PySem.W.codeIn K cd8 "_law_kind" = true)
    (fk8 : PySem.W.keepIn K (.ref f8) = true)
    (fa9 : PySem.W.nsIn K mainGlobals "_law_worth" = some (some (.ref f9)))
    (fl9 : K.lookup f9 = some ⟨oc9, od9, .func (PySem.W.fnOf "_law_worth" "_law_worth" (defArgs (top 12)) (defBody (top 12)) (defScope (top 12)) (.ref T9) kV9 dc9 pm9 an9 cd9 ct9), sl_9⟩)
    (fc9 : PySem.W.codeIn K cd9 "_law_worth" = true)
    (fk9 : PySem.W.keepIn K (.ref f9) = true)
    (ft9 : K.lookup T9 = some ⟨.type "tuple", td9, .seq #[.bool true] tn9, ts9⟩)
    (fa10 : PySem.W.nsIn K mainGlobals "_law_alike" = some (some (.ref f10)))
    (fl10 : K.lookup f10 = some ⟨oc10, od10, .func (PySem.W.fnOf "_law_alike" "_law_alike" (defArgs (top 13)) (defBody (top 13)) (defScope (top 13)) .none kV10 dc10 pm10 an10 cd10 ct10), sl_10⟩)
    (fc10 : PySem.W.codeIn K cd10 "_law_alike" = true)
    (fk10 : PySem.W.keepIn K (.ref f10) = true)
    (fa11 : PySem.W.nsIn K mainGlobals "_law_spoil" = some (some (.ref f11)))
    (fl11 : K.lookup f11 = some ⟨oc11, od11, .func (PySem.W.fnOf "_law_spoil" "_law_spoil" (defArgs (top 14)) (defBody (top 14)) (defScope (top 14)) .none kV11 dc11 pm11 an11 cd11 ct11), sl_11⟩)
    (fc11 : PySem.W.codeIn K cd11 "_law_spoil" = true)
    (fk11 : PySem.W.keepIn K (.ref f11) = true)
    (fa12 : PySem.W.nsIn K mainGlobals "law" = some (some (.ref f12)))
    (fl12 : K.lookup f12 = some ⟨oc12, od12, .func (PySem.W.fnOf "law" "law" (defArgs (top 15)) (defBody (top 15)) (defScope (top 15)) .none kV12 dc12 pm12 an12 cd12 ct12), sl_12⟩)
    (fc12 : PySem.W.codeIn K cd12 "law" = true)
    (fk12 : PySem.W.keepIn K (.ref f12) = true)
    (z_len : PySem.W.nsIn K mainGlobals "len" = some none)
    (z_abs : PySem.W.nsIn K mainGlobals "abs" = some none)
    (z_int : PySem.W.nsIn K mainGlobals "int" = some none)
    (z_str : PySem.W.nsIn K mainGlobals "str" = some none)
    (z_sum : PySem.W.nsIn K mainGlobals "sum" = some none)
    (z_max : PySem.W.nsIn K mainGlobals "max" = some none)
    (z_min : PySem.W.nsIn K mainGlobals "min" = some none)
    (z_sorted : PySem.W.nsIn K mainGlobals "sorted" = some none)
    (z_list : PySem.W.nsIn K mainGlobals "list" = some none)
    (z_tuple : PySem.W.nsIn K mainGlobals "tuple" = some none)
    (z_all : PySem.W.nsIn K mainGlobals "all" = some none)
    (z_any : PySem.W.nsIn K mainGlobals "any" = some none)
    (z_range : PySem.W.nsIn K mainGlobals "range" = some none)
    (z_enumerate : PySem.W.nsIn K mainGlobals "enumerate" = some none)
    (z_zip : PySem.W.nsIn K mainGlobals "zip" = some none)
    (z_isinstance : PySem.W.nsIn K mainGlobals "isinstance" = some none)
    (z_bool : PySem.W.nsIn K mainGlobals "bool" = some none) :
    ∃ fd : FuncData, (∀ (s : Shared) (v : Value), BindsTo s fd ⟨[v], []⟩ [("script", v)]) ∧ ∀ base : Heap, K.In base → base.Ns mainGlobals mg → FnOk l.prog w K mg base (L2.CX l.prog w) 62 fa fd ["script"] (spLaw GG K 62 45) := by
  have hF : FnsAt GG K mg [(21, f0, PySem.W.fnOf "flat_of" "flat_of" (defArgs (top 1)) (defBody (top 1)) (defScope (top 1)) .none kV0 dc0 pm0 an0 cd0 ct0), (40, f1, PySem.W.fnOf "begins" "begins" (defArgs (top 3)) (defBody (top 3)) (defScope (top 3)) .none kV1 dc1 pm1 an1 cd1 ct1), (41, f2, PySem.W.fnOf "numbers_within" "numbers_within" (defArgs (top 4)) (defBody (top 4)) (defScope (top 4)) .none kV2 dc2 pm2 an2 cd2 ct2), (42, f3, PySem.W.fnOf "chosen" "chosen" (defArgs (top 5)) (defBody (top 5)) (defScope (top 5)) .none kV3 dc3 pm3 an3 cd3 ct3), (43, f4, PySem.W.fnOf "behind" "behind" (defArgs (top 6)) (defBody (top 6)) (defScope (top 6)) .none kV4 dc4 pm4 an4 cd4 ct4), (44, f5, PySem.W.fnOf "first_ones" "first_ones" (defArgs (top 7)) (defBody (top 7)) (defScope (top 7)) .none kV5 dc5 pm5 an5 cd5 ct5), (24, f6, PySem.W.fnOf "_law_draw" "_law_draw" (defArgs (top 9)) (defBody (top 9)) (defScope (top 9)) .none kV6 dc6 pm6 an6 cd6 ct6), (25, f7, PySem.W.fnOf "_law_number" "_law_number" (defArgs (top 10)) (defBody (top 10)) (defScope (top 10)) .none kV7 dc7 pm7 an7 cd7 ct7), (26, f8, PySem.W.fnOf "_law_kind" "_law_kind" (defArgs (top 11)) (defBody (top 11)) (defScope (top 11)) .none kV8 dc8 pm8 an8 cd8 ct8), (27, f9, PySem.W.fnOf "_law_worth" "_law_worth" (defArgs (top 12)) (defBody (top 12)) (defScope (top 12)) (.ref T9) kV9 dc9 pm9 an9 cd9 ct9), (28, f10, PySem.W.fnOf "_law_alike" "_law_alike" (defArgs (top 13)) (defBody (top 13)) (defScope (top 13)) .none kV10 dc10 pm10 an10 cd10 ct10), (31, f11, PySem.W.fnOf "_law_spoil" "_law_spoil" (defArgs (top 14)) (defBody (top 14)) (defScope (top 14)) .none kV11 dc11 pm11 an11 cd11 ct11), (45, f12, PySem.W.fnOf "law" "law" (defArgs (top 15)) (defBody (top 15)) (defScope (top 15)) .none kV12 dc12 pm12 an12 cd12 ct12)] := by
    refine fns_of ?_
    refine all_cons ⟨f0, _, top 1, rfl, fund_mk (st := top 1) fl0 fc0 fk0, scope_of (by decide +kernel), by decide +kernel, PySem.W.mg_of X G fa0, fk0, .none rfl ((fun_mk (st := top 1) fl0 fc0 fk0).binds (ps := ["kind", "worths"]) (fun _ _ _ _ _ _ us hl => match us, hl with | [_, _], _ => rfl))⟩ ?_
    refine all_cons ⟨f1, _, top 3, rfl, fund_mk (st := top 3) fl1 fc1 fk1, scope_of (by decide +kernel), by decide +kernel, PySem.W.mg_of X G fa1, fk1, .none rfl ((fun_mk (st := top 3) fl1 fc1 fk1).binds (ps := ["lengths"]) (fun _ _ _ _ _ _ us hl => match us, hl with | [_], _ => rfl))⟩ ?_
    refine all_cons ⟨f2, _, top 4, rfl, fund_mk (st := top 4) fl2 fc2 fk2, scope_of (by decide +kernel), by decide +kernel, PySem.W.mg_of X G fa2, fk2, .none rfl ((fun_mk (st := top 4) fl2 fc2 fk2).binds (ps := ["lengths", "numbers"]) (fun _ _ _ _ _ _ us hl => match us, hl with | [_, _], _ => rfl))⟩ ?_
    refine all_cons ⟨f3, _, top 5, rfl, fund_mk (st := top 5) fl3 fc3 fk3, scope_of (by decide +kernel), by decide +kernel, PySem.W.mg_of X G fa3, fk3, .none rfl ((fun_mk (st := top 5) fl3 fc3 fk3).binds (ps := ["kind", "flat", "numbers"]) (fun _ _ _ _ _ _ us hl => match us, hl with | [_, _, _], _ => rfl))⟩ ?_
    refine all_cons ⟨f4, _, top 6, rfl, fund_mk (st := top 6) fl4 fc4 fk4, scope_of (by decide +kernel), by decide +kernel, PySem.W.mg_of X G fa4, fk4, .none rfl ((fun_mk (st := top 6) fl4 fc4 fk4).binds (ps := ["kind", "one", "other"]) (fun _ _ _ _ _ _ us hl => match us, hl with | [_, _, _], _ => rfl))⟩ ?_
    refine all_cons ⟨f5, _, top 7, rfl, fund_mk (st := top 7) fl5 fc5 fk5, scope_of (by decide +kernel), by decide +kernel, PySem.W.mg_of X G fa5, fk5, .none rfl ((fun_mk (st := top 7) fl5 fc5 fk5).binds (ps := ["kind", "flat", "many"]) (fun _ _ _ _ _ _ us hl => match us, hl with | [_, _, _], _ => rfl))⟩ ?_
    refine all_cons ⟨f6, _, top 9, rfl, fund_mk (st := top 9) fl6 fc6 fk6, scope_of (by decide +kernel), by decide +kernel, PySem.W.mg_of X G fa6, fk6, .none rfl ((fun_mk (st := top 9) fl6 fc6 fk6).binds (ps := ["tape", "many"]) (fun _ _ _ _ _ _ us hl => match us, hl with | [_, _], _ => rfl))⟩ ?_
    refine all_cons ⟨f7, _, top 10, rfl, fund_mk (st := top 10) fl7 fc7 fk7, scope_of (by decide +kernel), by decide +kernel, PySem.W.mg_of X G fa7, fk7, .none rfl ((fun_mk (st := top 10) fl7 fc7 fk7).binds (ps := ["tape"]) (fun _ _ _ _ _ _ us hl => match us, hl with | [_], _ => rfl))⟩ ?_
    refine all_cons ⟨f8, _, top 11, rfl, fund_mk (st := top 11) fl8 fc8 fk8, scope_of (by decide +kernel), by decide +kernel, PySem.W.mg_of X G fa8, fk8, .none rfl ((fun_mk (st := top 11) fl8 fc8 fk8).binds (ps := ["tape", "left"]) (fun _ _ _ _ _ _ us hl => match us, hl with | [_, _], _ => rfl))⟩ ?_
    refine all_cons ⟨f9, _, top 12, rfl, ⟨_, _, (fund_mk1 (st := top 12) (v := .bl true) fl9 fc9 fk9 ft9 rfl rfl)⟩, scope_of (by decide +kernel), by decide +kernel, PySem.W.mg_of X G fa9, fk9, bindsD1 (fund_mk1 (st := top 12) (v := .bl true) fl9 fc9 fk9 ft9 rfl rfl) (ps := ["tape", "kind", "long"]) (d := f_law_worth_2) rfl rfl rfl (fun ρ H => .cons (.bl _) .nil) (fun _ _ _ _ _ _ _ us its h1 h2 => match us, its, h1, h2 with | [_, _, _], [_], _, _ => ⟨_, rfl, rfl⟩) (fun _ _ _ _ _ _ _ us its h1 h2 => match us, its, h1, h2 with | [_, _], [_], _, _ => ⟨_, rfl, rfl⟩)⟩ ?_
    refine all_cons ⟨f10, _, top 13, rfl, fund_mk (st := top 13) fl10 fc10 fk10, scope_of (by decide +kernel), by decide +kernel, PySem.W.mg_of X G fa10, fk10, .none rfl ((fun_mk (st := top 13) fl10 fc10 fk10).binds (ps := ["due", "found"]) (fun _ _ _ _ _ _ us hl => match us, hl with | [_, _], _ => rfl))⟩ ?_
    refine all_cons ⟨f11, _, top 14, rfl, fund_mk (st := top 14) fl11 fc11 fk11, scope_of (by decide +kernel), by decide +kernel, PySem.W.mg_of X G fa11, fk11, .none rfl ((fun_mk (st := top 14) fl11 fc11 fk11).binds (ps := ["thing"]) (fun _ _ _ _ _ _ us hl => match us, hl with | [_], _ => rfl))⟩ ?_
    refine all_cons ⟨f12, _, top 15, rfl, fund_mk (st := top 15) fl12 fc12 fk12, scope_of (by decide +kernel), by decide +kernel, PySem.W.mg_of X G fa12, fk12, .none rfl ((fun_mk (st := top 15) fl12 fc12 fk12).binds (ps := ["script"]) (fun _ _ _ _ _ _ us hl => match us, hl with | [_], _ => rfl))⟩ ?_
    exact all_nil
  have hC : ConstsAt GG K mg := by
    refine consts_of ?_
    exact all_nil
  have hD : DictsAt GG w K mg := by
    refine dicts_of ?_
    exact all_nil
  have hB : ∀ x ∈ bltNames, mg x = none := by
    intro x hx
    simp only [bltNames, List.mem_cons, List.mem_nil_iff, or_false] at hx
    rcases hx with rfl | rfl | rfl | rfl | rfl | rfl | rfl | rfl | rfl | rfl | rfl | rfl | rfl | rfl | rfl | rfl | rfl
    · exact PySem.W.mg_none_of X G z_len
    · exact PySem.W.mg_none_of X G z_abs
    · exact PySem.W.mg_none_of X G z_int
    · exact PySem.W.mg_none_of X G z_str
    · exact PySem.W.mg_none_of X G z_sum
    · exact PySem.W.mg_none_of X G z_max
    · exact PySem.W.mg_none_of X G z_min
    · exact PySem.W.mg_none_of X G z_sorted
    · exact PySem.W.mg_none_of X G z_list
    · exact PySem.W.mg_none_of X G z_tuple
    · exact PySem.W.mg_none_of X G z_all
    · exact PySem.W.mg_none_of X G z_any
    · exact PySem.W.mg_none_of X G z_range
    · exact PySem.W.mg_none_of X G z_enumerate
    · exact PySem.W.mg_none_of X G z_zip
    · exact PySem.W.mg_none_of X G z_isinstance
    · exact PySem.W.mg_none_of X G z_bool
  have ea := hfa.symm.trans (PySem.W.mg_of X G fa12)
  cases ea
  refine ⟨PySem.W.fnOf "law" "law" (defArgs (top 15)) (defBody (top 15)) (defScope (top 15)) .none kV12 dc12 pm12 an12 cd12 ct12, fun s v => .of_eq rfl, fun base _ _ => ?_⟩
  obtain ⟨a', fd', ht, F', _⟩ := fns_ok (P := l.prog) (w := w) (base := base) hF hC hD hB 62 45 f_law rfl
  cases ht
  exact law_ok rfl law_true F'
theorem walk {l : PySem.W.OpenLaw} {q : Program} {loose : List Str} {XP : (Str → Option Value) → Heap → Prop} {YP : World → Heap → Prop} {d : DefRec} {K : Params → PySem.W.Frag} (hn : l.most = some 63) (hdf : d.params.defaults = [])
    (hY : ∀ (w : World) (h : Heap), YP w h → (K w.params).In h)
    (F : ∀ (w : World) (mg : Str → Option Value) (fa : Addr) (h : Heap), (K w.params).In h → h.Ns mainGlobals mg → mg d.name = some (.ref fa) →
      ∃ fd : FuncData, (∀ (s : Shared) (u : Value), BindsTo s fd ⟨[u], []⟩ [("script", u)]) ∧ ∀ base : Heap, (K w.params).In base → base.Ns mainGlobals mg → FnOk l.prog w (K w.params) mg base (L2.CX l.prog w) 62 fa fd ["script"] (spLaw GG (K w.params) 62 45)) :
    PySem.W.WalkO q loose XP YP l.row.toRowW d [] (fun f vs => PySem.call f vs) :=
  L2.walk_of (n := 63) (k := 62) (x := "script") (CX := fun w => L2.CX l.prog w) (sp := fun w => spLaw GG (K w.params) 62 45) hn (by decide) hdf ⟨rfl, by decide, by decide⟩ hY F (fun w H a ns hl ho hS => ⟨a, ns, rfl, frz_of ho hS, hl, fun _ => rfl⟩) fun w H s e s' z => cx_none z
end Law
open PySem PySem.W PyProof.Rows
set_option maxRecDepth 100000 in
set_option maxHeartbeats 0 in
set_option pp.maxSteps 60 in
theorem PySem.Challenge.cw_broadrow_k35_behind_one_another_and_firs_holds : PySem.Challenge.rw_broadrow_k35_behind_one_another_and_firs.Holds := by
  w_on; o_law; k_head; (case hw => w_witness2)
  k_fill
  refine Law.walk (l := PySem.Challenge.rw_broadrow_k35_behind_one_another_and_firs) rfl rfl (fun w h Y => PySem.W.kIn_of Y) ?F
  case F =>
    intro w mg fa h KX G hmg
    refine' Law.all_mk KX G hmg ?fa0 ?fl0 ?fc0 ?fk0 ?fa1 ?fl1 ?fc1 ?fk1 ?fa2 ?fl2 ?fc2 ?fk2 ?fa3 ?fl3 ?fc3 ?fk3 ?fa4 ?fl4 ?fc4 ?fk4 ?fa5 ?fl5 ?fc5 ?fk5 ?fa6 ?fl6 ?fc6 ?fk6 ?fa7 ?fl7 ?fc7 ?fk7 ?fa8 ?fl8 ?fc8 ?fk8 ?fa9 ?fl9 ?fc9 ?fk9 ?ft9 ?fa10 ?fl10 ?fc10 ?fk10 ?fa11 ?fl11 ?fc11 ?fk11 ?fa12 ?fl12 ?fc12 ?fk12 ?z_len ?z_abs ?z_int ?z_str ?z_sum ?z_max ?z_min ?z_sorted ?z_list ?z_tuple ?z_all ?z_any ?z_range ?z_enumerate ?z_zip ?z_isinstance ?z_bool
    (case fa0 => k_is)
    (case fl0 => k_is)
    (case fc0 => k_is)
    (case fk0 => k_is)
    (case fa1 => k_is)
    (case fl1 => k_is)
    (case fc1 => k_is)
    (case fk1 => k_is)
    (case fa2 => k_is)
    (case fl2 => k_is)
    (case fc2 => k_is)
    (case fk2 => k_is)
    (case fa3 => k_is)
    (case fl3 => k_is)
    (case fc3 => k_is)
    (case fk3 => k_is)
    (case fa4 => k_is)
    (case fl4 => k_is)
    (case fc4 => k_is)
    (case fk4 => k_is)
    (case fa5 => k_is)
    (case fl5 => k_is)
    (case fc5 => k_is)
    (case fk5 => k_is)
    (case fa6 => k_is)
    (case fl6 => k_is)
    (case fc6 => k_is)
    (case fk6 => k_is)
    (case fa7 => k_is)
    (case fl7 => k_is)
    (case fc7 => k_is)
    (case fk7 => k_is)
    (case fa8 => k_is)
    (case fl8 => k_is)
    (case fc8 => k_is)
    (case fk8 => k_is)
    (case fa9 => k_is)
    (case fl9 => k_is)
    (case fc9 => k_is)
    (case fk9 => k_is)
    (case ft9 => k_is)
    (case fa10 => k_is)
    (case fl10 => k_is)
    (case fc10 => k_is)
    (case fk10 => k_is)
    (case fa11 => k_is)
    (case fl11 => k_is)
    (case fc11 => k_is)
    (case fk11 => k_is)
    (case fa12 => k_is)
    (case fl12 => k_is)
    (case fc12 => k_is)
    (case fk12 => k_is)
    (case z_len => k_is)
    (case z_abs => k_is)
    (case z_int => k_is)
    (case z_str => k_is)
    (case z_sum => k_is)
    (case z_max => k_is)
    (case z_min => k_is)
    (case z_sorted => k_is)
    (case z_list => k_is)
    (case z_tuple => k_is)
    (case z_all => k_is)
    (case z_any => k_is)
    (case z_range => k_is)
    (case z_enumerate => k_is)
    (case z_zip => k_is)
    (case z_isinstance => k_is)
    (case z_bool => k_is)
