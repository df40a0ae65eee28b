import PyProof.Rows.All
import HandS.ForMost
import HandS.TupAny
import HandS.TupMul
import HandS.Lambda
import HandS.Deep
import HandS.TupLe
import HandS.Gcd
import HandS.IsInst
import HandS.Dict
import HandS.More
import HandS.WordsExc
import KE.GoesEnum
import KE.GoesMore
import HandS.Defaults
import HandS.ExcIs
import HandS.HeadHook1
import HandS.Walk
import HandS.ExcValue
import HandS.ExcField
import HandS.RaiseMore
import HandS.CallLocal
import KE.KDictZip
import KE.KDictList
import HandS.Style
import HandS.HeadEnd
import HandS.HeadHook2
import HandS.HeadHook4
import HandS.Head2
import HandS.EndTab
import HandS.EndBits
import HandS.Head3
import KE.KStateDown
import PySem.Challenge.RW_swaytold_k52_markets_and_prices
set_option Elab.async false
set_option linter.all false
set_option maxRecDepth 100000
namespace Sw
open PySem
inductive D where
  | non | bl (b : Bool) | int (i : Int) | str (s : Str)
  | tup (xs : List D) | lst (xs : List D) | dic (ks vs : List D)
  | scr (ns : List Int) | fn (i : Nat) | exc (c : Nat) (fs : List Str) (vs : List D)
  deriving Inhabited
inductive S where
  | v (d : D) | r (n : Nat)
  deriving Inhabited
inductive Ob where
  | lst (xs : List S) | dic (ks : List D) (vs : List S) | ins (c : Nat) (fs : List Str) (vs : List S)
abbrev Store := List (Option Ob)
abbrev Env := List (Option S)
inductive Res (α : Type) where
  | ok (a : α) (st : Store) | ex (c : Nat) (fs : List Str) (vs : List D) (st : Store) | bad
def Res.bind {α β : Type} (x : Res α) (f : α → Store → Res β) : Res β := match x with
  | .ok a st => f a st
  | .ex c fs vs st => .ex c fs vs st
  | .bad => .bad
@[simp] theorem Res.bind_ok {α β : Type} (a : α) (st : Store) (f : α → Store → Res β) : (Res.ok a st).bind f = f a st := rfl
@[simp] theorem Res.bind_bad {α β : Type} (f : α → Store → Res β) : (Res.bad : Res α).bind f = .bad := rfl
@[simp] theorem Res.bind_ex {α β : Type} (c : Nat) (fs : List Str) (vs : List D) (st : Store) (f : α → Store → Res β) : (Res.ex c fs vs st : Res α).bind f = .ex c fs vs st := rfl
def Res.nox {α : Type} (x : Res α) : Res α := match x with
  | .ok a st => .ok a st
  | _ => .bad
@[simp] theorem Res.nox_ok {α : Type} (a : α) (st : Store) : (Res.ok a st).nox = .ok a st := rfl
@[simp] theorem Res.nox_bad {α : Type} : (Res.bad : Res α).nox = .bad := rfl
def need {α : Type} (o : Option α) (st : Store) : Res α := match o with
  | some a => .ok a st
  | none => .bad
@[simp] theorem need_some {α : Type} (a : α) (st : Store) : need (some a) st = .ok a st := rfl
@[simp] theorem need_none {α : Type} (st : Store) : need (none : Option α) st = .bad := rfl

mutual
def D.dep : D → Nat
  | .tup xs | .lst xs => D.depAll xs + 1
  | .dic _ _ | .scr _ | .fn _ | .exc _ _ _ => 1000
  | _ => 0
def D.depAll : List D → Nat
  | [] => 0
  | x :: xs => max x.dep (D.depAll xs)
end
mutual
def D.pd : D → PyData
  | .non => .none
  | .bl b => .bool b
  | .int i => .int i
  | .str s => .str s
  | .tup xs => .tuple (D.pdAll xs)
  | .lst xs => .list (D.pdAll xs)
  | _ => .none
def D.pdAll : List D → List PyData
  | [] => []
  | x :: xs => x.pd :: D.pdAll xs
end
def D.eqv (d e : D) : Bool := PyData.eqv d.pd e.pd
def allV : List S → Option (List D)
  | [] => some []
  | .v d :: r => (allV r).map (d :: ·)
  | .r _ :: _ => none
def items (s : S) (st : Store) : Option (List S) := match s with
  | .v (.lst ds) => some (ds.map S.v)
  | .v (.tup ds) => some (ds.map S.v)
  | .r n => (match st[n]? with
    | some (some (.lst xs)) => some xs
    | _ => none)
  | _ => none
def lstI (s : S) (st : Store) : Option (List S) := match s with
  | .v (.lst ds) => some (ds.map S.v)
  | .r n => (match st[n]? with
    | some (some (.lst xs)) => some xs
    | _ => none)
  | _ => none
def rdD (s : S) (st : Store) : Option D := match s with
  | .v d => some d
  | .r n => (match st[n]? with
    | some (some (.lst xs)) => (allV xs).map D.lst
    | some (some (.dic ks vs)) => (allV vs).map (D.dic ks)
    | _ => none)
def rdAll : List S → Store → Option (List D)
  | [], _ => some []
  | s :: r, st => (rdD s st).bind fun d => (rdAll r st).map (d :: ·)
def lzSem (x y : S) (st : Store) : Option (List S) := (lstI x st).bind fun xs => (lstI y st).bind fun ys => (allV xs).bind fun ds => (allV ys).map fun es => (ds.zip es).map fun p => S.v (.tup [p.1, p.2])
def allBl : List D → Option (List Bool)
  | [] => some []
  | .bl b :: r => (allBl r).map (b :: ·)
  | _ :: _ => none
def allInt : List D → Option (List Int)
  | [] => some []
  | .int b :: r => (allInt r).map (b :: ·)
  | _ :: _ => none
def allStr : List D → Option (List Str)
  | [] => some []
  | .str b :: r => (allStr r).map (b :: ·)
  | _ :: _ => none

inductive Bop | add | sub | mul | fdiv | mod | pow
  deriving DecidableEq
inductive Cop | eq | ne | lt | le | gt | ge | isv | isnt | in_ | nin
  deriving DecidableEq
inductive Ty | int | bool | str | tuple | list | dict | cls (c : Nat)
  deriving DecidableEq
inductive Bl | len | tuple | all | any | sum | abs | int | str | min | max | gcd
  deriving DecidableEq
inductive Mt | append | pop | insert | extend | index | get | join | upper
  deriving DecidableEq
inductive Tg where
  | one (i : Nat) | nil | cons (t : Tg) (ts : Tg)
inductive Oc2 where
  | own (c : Nat) | ve
  deriving DecidableEq
mutual
inductive E where
  | var (i : Nat) | glob (i : Nat) | cint (i : Int) | cstr (s : Str) | cbl (b : Bool) | cnon
  | tup (es : Es)
  | fr (f : Fr) | al (f : Fr)
  | dnew (ks : List Str) (es : Es)
  | bop (o : Bop) (a b : E) | neg (a : E)
  | cmp (o : Cop) (a b : E) | chn (o o' : Cop) (a b c : E) | not (a : E) | andv (es : Es) | orv (es : Es)
  | ife (c : Cd) (a b : E)
  | ix (a i : E) | slc (a : E) (lo hi : Oe)
  | call (f : Nat) (es : Es)
  | callk (f : Nat) (es : Es) (ks : List Str) (kes : Es)
  | bl (b : Bl) (es : Es)
  | isi (e : E) (ts : List Ty) (par : Bool)
  | mth (m : Mt) (o : E) (es : Es)
  | frz (e : E)
  | stuck
  | fnv (i : Nat) | callv (i : Nat) (es : Es)
  | caught (e : E) | isx (e : E) (c : Oc2) | fld (e : E) (f : Str)
inductive Es where
  | nil | cons (e : E) (es : Es)
inductive Oe where
  | no | yes (e : E)
inductive Fr where
  | disp (es : Es)
  | comp (el : E) (tg : Tg) (vs : List Nat) (it : It) (c : Oc)
  | lof (e : E) | srt (e : E) | add (a b : E) | lzip (a b : E)
inductive Oc where
  | no | yes (c : Cd)
inductive Cd where
  | cmp (o : Cop) (a b : E)
  | chain (o o' : Cop) (a b c : E)
  | and (cs : Cs) | or (cs : Cs) | not (a : Cd) | ife (c a b : Cd)
  | val (e : E)
inductive Cs where
  | nil | cons (c : Cd) (cs : Cs)
inductive It where
  | sq (e : E) | rng (a : E) | rng2 (a b : E) | zip (a b : E) | zip3 (a b c : E) | enum (a : E)
end
mutual
inductive St where
  | asg (t : Tg) (e : E)
  | par (is : List Nat) (es : Es)
  | setix (o i e : E)
  | expr (e : E)
  | ret (e : E) | retN
  | ite (c : Cd) (a b : Ss)
  | for_ (t : Tg) (it : It) (b : Ss)
  | whl (c : Cd) (b : Ss)
  | pass | brk | cont
  | rais
  | thr (c : Nat) (f : Option Str) (es : Es)
inductive Ss where
  | nil | cons (s : St) (r : Ss)
end

structure Gt where
  sub : Nat → Nat → Bool
  cs : List (Str × D)
  cl : List Str
  ks : List Str
  kw : List (Nat × Nat × List Str)
  keep : List Nat
  ps : Nat → List Str
  ct : Option Str := none
  rz : List Nat := []
mutual
def D.beq : D → D → Bool
  | .non, .non => true
  | .bl a, .bl b => a == b
  | .int a, .int b => a == b
  | .str a, .str b => a == b
  | .tup a, .tup b => D.beqAll a b
  | .lst a, .lst b => D.beqAll a b
  | _, _ => false
def D.beqAll : List D → List D → Bool
  | [], [] => true
  | a :: as, b :: bs => D.beq a b && D.beqAll as bs
  | _, _ => false
end
def mulOk (i j : Int) : Bool := decide (i.natAbs < 2 ^ 64) || decide (j.natAbs < 2 ^ 64) || decide (i.natAbs.log2 + j.natAbs.log2 < 100000000)
def divOk (i j : Int) : Bool := decide (j ≠ 0) && !Builtin.divisionGoesByPylong i j
def powOk (i j : Int) : Bool := decide (0 ≤ j) && decide (j ≤ 1000000) && decide (i.natAbs < 2 ^ 64)
def repOk (n : Nat) (k : Int) : Bool := decide (-(2 ^ 63) ≤ k) && decide (k < 2 ^ 63) && decide (n * k.toNat ≤ sizeLine)
def strRep (s : Str) (k : Nat) : Str := ⟨(List.replicate k s.cps.toList).flatten.toArray⟩
def bopSem (o : Bop) (x y : S) (st : Store) : Option S := match o, x, y with
  | .add, .v (.int i), .v (.int j) => some (.v (.int (i + j)))
  | .sub, .v (.int i), .v (.int j) => some (.v (.int (i - j)))
  | .mul, .v (.int i), .v (.int j) => if mulOk i j then some (.v (.int (i * j))) else none
  | .fdiv, .v (.int i), .v (.int j) => if divOk i j then some (.v (.int (i.fdiv j))) else none
  | .mod, .v (.int i), .v (.int j) => if j ≠ 0 then some (.v (.int (i.fmod j))) else none
  | .pow, .v (.int i), .v (.int j) => if powOk i j then some (.v (.int (i ^ j.toNat))) else none
  | .add, .v (.str a), .v (.str b) => if a.length + b.length ≤ sizeLine then some (.v (.str (a ++ b))) else none
  | .add, .v (.tup a), .v (.tup b) => if a.length + b.length ≤ sizeLine then some (.v (.tup (a ++ b))) else none
  | .mul, .v (.tup a), .v (.int k) => if 0 < a.length ∧ a.length ≤ 1000 ∧ 2 ≤ k ∧ k ≤ 1000 then some (.v (.tup (List.replicate k.toNat a).flatten)) else none
  | .mul, .v (.lst a), .v (.int k) => if repOk a.length k then some (.v (.lst (List.replicate k.toNat a).flatten)) else none
  | .add, _, _ => (rdD x st).bind fun d => (rdD y st).bind fun e => (match d, e with
    | .lst a, .lst b => if a.length + b.length ≤ sizeLine then some (.v (.lst (a ++ b))) else none
    | _, _ => none)
  | _, _, _ => none
def signIn (a z : Str) : Option Bool := if a.cps.size = 1 then some (decide (a.cps.getD 0 0 ∈ z.cps.toList)) else none
def cmpSem (o : Cop) (x y : S) (st : Store) : Option Bool := match o with
  | .eq => (rdD x st).bind fun d => (rdD y st).bind fun e => if d.dep ≤ 60 ∧ e.dep ≤ 60 then some (d.eqv e) else none
  | .ne => (rdD x st).bind fun d => (rdD y st).bind fun e => if d.dep ≤ 60 ∧ e.dep ≤ 60 then some (!d.eqv e) else none
  | .lt => (match x, y with
    | .v (.int i), .v (.int j) => some (decide (i < j))
    | .v (.str i), .v (.str j) => some (decide (i.cps.toList < j.cps.toList))
    | _, _ => none)
  | .le => (match x, y with
    | .v (.int i), .v (.int j) => some (decide (i ≤ j))
    | _, _ => none)
  | .gt => (match x, y with
    | .v (.int i), .v (.int j) => some (decide (j < i))
    | _, _ => none)
  | .ge => (match x, y with
    | .v (.int i), .v (.int j) => some (decide (j ≤ i))
    | _, _ => none)
  | .isv => (match y, x with
    | .v .non, .v .non => some true
    | .v .non, _ => some false
    | .v (.bl b), .v (.bl a) => some (decide (a = b))
    | _, _ => none)
  | .isnt => (match y, x with
    | .v .non, .v .non => some false
    | .v .non, _ => some true
    | .v (.bl b), .v (.bl a) => some (!decide (a = b))
    | _, _ => none)
  | .in_ => (rdD x st).bind fun d => (rdD y st).bind fun e => (match d, e with
    | .str a, .str z => signIn a z
    | d, .lst es => if d.dep ≤ 60 ∧ (D.lst es).dep ≤ 60 then some (es.any fun z => z.eqv d) else none
    | d, .tup es => if d.dep ≤ 60 ∧ (D.tup es).dep ≤ 60 then some (es.any fun z => z.eqv d) else none
    | _, _ => none)
  | .nin => (rdD x st).bind fun d => (rdD y st).bind fun e => (match d, e with
    | .str a, .str z => (signIn a z).map (!·)
    | d, .lst es => if d.dep ≤ 60 ∧ (D.lst es).dep ≤ 60 then some (!es.any fun z => z.eqv d) else none
    | d, .tup es => if d.dep ≤ 60 ∧ (D.tup es).dep ≤ 60 then some (!es.any fun z => z.eqv d) else none
    | _, _ => none)
def keyD : D → Option L2.Key
  | .int i => some (.inl i)
  | .str s => some (.inr s)
  | _ => none
def keyAt (k : D) : List D → Option Nat
  | [] => none
  | a :: r => if a.beq k then some 0 else (keyAt k r).map (· + 1)
def ixSem (x i : S) (st : Store) : Option S := match x, i with
  | .v (.tup ds), .v (.int k) => (L2.atI ds k).map .v
  | .v (.lst ds), .v (.int k) => (L2.atI ds k).map .v
  | .v (.str z), .v (.int k) => (L2.atI z.cps.toList k).map fun c => .v (.str ⟨#[c]⟩)
  | .v (.dic ks vs), .v k => (keyAt k ks).bind fun j => vs[j]?.map .v
  | .r n, .v k => (match st[n]? with
    | some (some (.lst xs)) => (match k with
      | .int k => L2.atI xs k
      | _ => none)
    | some (some (.dic ks vs)) => (keyAt k ks).bind fun j => vs[j]?
    | _ => none)
  | _, _ => none
def cutD {α : Type} (xs : List α) (lo hi : Option Int) : List α := (xs.drop (HT.sIx xs.length 0 lo)).take (HT.sIx xs.length xs.length hi - HT.sIx xs.length 0 lo)
def slcSem (x : S) (lo hi : Option Int) (st : Store) : Option S := (rdD x st).bind fun d => match d with
  | .tup ds => some (.v (.tup (cutD ds lo hi)))
  | .lst ds => some (.v (.lst (cutD ds lo hi)))
  | .str z => some (.v (.str ⟨(cutD z.cps.toList lo hi).toArray⟩))
  | _ => none
def sumInt : List Int → Int
  | [] => 0
  | i :: r => i + sumInt r
def blSem (b : Bl) (xs : List S) (st : Store) : Option S := match b, xs with
  | .len, [x] => (match x with
    | .v (.str z) => some (.v (.int z.length))
    | .v (.scr ns) => some (.v (.int ns.length))
    | x => (items x st).map fun xs => .v (.int xs.length))
  | .tuple, [x] => (rdD x st).bind fun d => (match d with
    | .lst ds => some (.v (.tup ds))
    | .tup ds => some (.v (.tup ds))
    | _ => none)
  | .all, [x] => (rdD x st).bind fun d => (match d with
    | .lst ds => (allBl ds).map fun bs => .v (.bl (bs.all id))
    | _ => none)
  | .any, [x] => (rdD x st).bind fun d => (match d with
    | .lst ds => (allBl ds).map fun bs => .v (.bl (bs.any id))
    | _ => none)
  | .sum, [x] => (rdD x st).bind fun d => (match d with
    | .lst ds => (allInt ds).map fun ns => .v (.int ns.sum)
    | _ => none)
  | .abs, [.v (.int i)] => some (.v (.int (if i < 0 then -i else i)))
  | .int, [.v (.int i)] => some (.v (.int i))
  | .min, [.v (.int i), .v (.int j)] => some (.v (.int (if j < i then j else i)))
  | .max, [.v (.int i), .v (.int j)] => some (.v (.int (if j > i then j else i)))
  | .gcd, [.v (.int i), .v (.int j)] => some (.v (.int ((Nat.gcd i.natAbs j.natAbs : Nat) : Int)))
  | _, _ => none
def tyOf (x : S) (st : Store) : Option Ty := match x with
  | .v (.bl _) => some .bool
  | .v (.int _) => some .int
  | .v (.str _) => some .str
  | .v (.tup _) => some .tuple
  | .v (.lst _) => some .list
  | .v (.dic _ _) => some .dict
  | .v (.exc c _ _) => some (.cls c)
  | .r n => (match st[n]? with
    | some (some (.lst _)) => some .list
    | some (some (.dic _ _)) => some .dict
    | _ => none)
  | _ => none
def tyFits (u t : Ty) : Bool := match u, t with
  | .bool, .int => true
  | u, t => decide (u = t)
def nexc : S → Bool
  | .v (.exc _ _ _) => false
  | _ => true
def isTy (x : S) (st : Store) (t : Ty) : Option Bool := match x with
  | .v .non => some false
  | x => (tyOf x st).map fun u => tyFits u t
def isiSem (x : S) (st : Store) : List Ty → Option Bool
  | [] => some false
  | t :: ts => (isTy x st t).bind fun b => if b then some true else isiSem x st ts
def mthTy (m : Mt) (x : S) (st : Store) : Bool := match m, x with
  | .get, .r n => (match st[n]? with
    | some (some (.dic _ _)) => true
    | _ => false)
  | .join, .v (.str _) => true
  | .upper, .v (.str _) => true
  | .index, .v (.lst _) => true
  | .get, _ | .join, _ | .upper, _ => false
  | _, .r n => (match st[n]? with
    | some (some (.lst _)) => true
    | _ => false)
  | _, _ => false
def mthSem (m : Mt) (o : S) (as : List S) (st : Store) : Res S := match m, o, as with
  | .append, .r n, [.v a] => (match st[n]? with
    | some (some (.lst xs)) => if xs.length < sizeLine then .ok (.v .non) (st.set n (some (.lst (xs ++ [.v a])))) else .bad
    | _ => .bad)
  | .pop, .r n, [] => (match st[n]? with
    | some (some (.lst xs)) => (match xs[xs.length - 1]? with
      | some a => .ok a (st.set n (some (.lst xs.dropLast)))
      | none => .bad)
    | _ => .bad)
  | .pop, .r n, [.v (.int i)] => (match st[n]? with
    | some (some (.lst xs)) => (match L2.ixN xs.length i with
      | some k => (match xs[k]? with
        | some a => .ok a (st.set n (some (.lst (xs.eraseIdx k))))
        | none => .bad)
      | none => .bad)
    | _ => .bad)
  | .extend, .r n, [a] => (match st[n]?, rdD a st with
    | some (some (.lst xs)), some (.lst ds) => if xs.length + ds.length ≤ sizeLine then .ok (.v .non) (st.set n (some (.lst (xs ++ ds.map .v)))) else .bad
    | _, _ => .bad)
  | .insert, .r n, [.v (.int i), .v a] => (match st[n]? with
    | some (some (.lst xs)) => if xs.length < sizeLine ∧ 0 ≤ i ∧ i < 2 ^ 63 then .ok (.v .non) (st.set n (some (.lst (xs.take i.toNat ++ [.v a] ++ xs.drop i.toNat)))) else .bad
    | _ => .bad)
  | .join, .v (.str a), [x] => (match rdD x st with
    | some (.lst ds) => (match allStr ds with
      | some ys => if (ys.map (·.length)).sum + ys.length * a.length ≤ 16777216 ∧ (Txt.join a ys).length ≤ sizeLine ∧ PyData.strOk (Txt.join a ys) = true then .ok (.v (.str (Txt.join a ys))) st else .bad
      | none => .bad)
    | _ => .bad)
  | .upper, .v (.str a), [] => if a.length ≤ 5592405 ∧ (Txt.upper a).length ≤ sizeLine ∧ PyData.strOk (Txt.upper a) = true then .ok (.v (.str (Txt.upper a))) st else .bad
  | .index, .v (.lst ds), [.v d] => if (D.lst ds).dep ≤ 60 ∧ d.dep ≤ 60 then (match ds.findIdx? (fun z => z.eqv d) with
    | some j => .ok (.v (.int (j : Nat))) st
    | none => .bad) else .bad
  | .get, .r n, [.v k, .v d] => (match st[n]? with
    | some (some (.dic ks vs)) => if (keyD k).isSome then (match keyAt k ks with
      | some j => (match vs[j]? with
        | some s => .ok s st
        | none => .bad)
      | none => .ok (.v d) st) else .bad
    | _ => .bad)
  | _, _, _ => .bad
def setSem (o i e : S) (st : Store) : Res Unit := match o, i, e with
  | .r n, .v k, .v e => (match st[n]? with
    | some (some (.lst xs)) => (match k with
      | .int k => (match L2.ixN xs.length k with
        | some j => .ok () (st.set n (some (.lst (xs.set j (.v e)))))
        | none => .bad)
      | _ => .bad)
    | some (some (.dic ks vs)) => if ks.length < sizeLine ∧ (keyD k).isSome then (match keyAt k ks with
      | some j => .ok () (st.set n (some (.dic ks (vs.set j (.v e)))))
      | none => .ok () (st.set n (some (.dic (ks ++ [k]) (vs ++ [.v e]))))) else .bad
    | _ => .bad)
  | _, _, _ => .bad
def frzSem (x : S) (st : Store) : Res S := match x with
  | .r n => (match rdD x st with
    | some (.lst ds) => .ok (.v (.lst ds)) (st.set n none)
    | some (.dic ks ds) => .ok (.v (.dic ks ds)) (st.set n none)
    | _ => .bad)
  | x => .ok x st
mutual
def asgT : Tg → S → Env → Option Env
  | .one i, s, ρ => if i < ρ.length then some (ρ.set i (some s)) else none
  | .nil, .v (.tup []), ρ => some ρ
  | .cons t ts, .v (.tup (d :: ds)), ρ => (asgT t (.v d) ρ).bind fun ρ' => asgT ts (.v (.tup ds)) ρ'
  | _, _, _ => none
end
def asgL : Tg → List S → Env → Option Env
  | .nil, [], ρ => some ρ
  | .cons t ts, s :: r, ρ => (asgT t s ρ).bind fun ρ' => asgL ts r ρ'
  | _, _, _ => none
def setAll : List Nat → List S → Env → Option Env
  | [], [], ρ => some ρ
  | i :: is, s :: r, ρ => if i < ρ.length then setAll is r (ρ.set i (some s)) else none
  | _, _, _ => none
structure Wk where
  rows : List (List S)
  pk : Bool
  src : List (Nat × Option (Option Ob))
def Wk.asg (w : Wk) (t : Tg) (row : List S) (ρ : Env) : Option Env := match w.pk, row with
  | true, row => asgL t row ρ
  | false, [s] => asgT t s ρ
  | _, _ => none
def Wk.stands (w : Wk) (st : Store) : Prop := ∀ p ∈ w.src, st[p.1]? = p.2
def srcOf (x : S) (st : Store) : List (Nat × Option (Option Ob)) := match x with
  | .r n => [(n, st[n]?)]
  | _ => []
def rngRows (a b : Int) : List (List S) := (List.range (b - a).toNat).map fun i => [S.v (.int (a + (i : Nat)))]
def walkSq (x : S) (st : Store) : Option Wk := match x with
  | .v (.str z) => some ⟨z.cps.toList.map fun c => [S.v (.str ⟨#[c]⟩)], false, []⟩
  | .v (.scr ns) => some ⟨ns.map fun n => [S.v (.int n)], false, []⟩
  | x => (items x st).map fun xs => ⟨xs.map fun s => [s], false, srcOf x st⟩
noncomputable def walkRng (a b : Int) : Option Wk := @ite _ (-(2 ^ 62) ≤ a ∧ a < 2 ^ 62 ∧ -(2 ^ 62) ≤ b ∧ b < 2 ^ 62 ∧ (b - a).toNat ≤ sizeLine) (Classical.propDecidable _) (some ⟨rngRows a b, false, []⟩) none
def walkZip (x y : S) (st : Store) : Option Wk := (items x st).bind fun xs => (items y st).map fun ys => ⟨(xs.zip ys).map fun p => [p.1, p.2], true, srcOf x st ++ srcOf y st⟩
def walkZip3 (x y z : S) (st : Store) : Option Wk := (items x st).bind fun xs => (items y st).bind fun ys => (items z st).map fun zs => ⟨(xs.zip (ys.zip zs)).map fun p => [p.1, p.2.1, p.2.2], true, srcOf x st ++ (srcOf y st ++ srcOf z st)⟩
def walkEnum (x : S) (st : Store) : Option Wk := (items x st).map fun xs => ⟨(xs.zipIdx 0).map fun p => [S.v (.int (p.2 : Nat)), p.1], true, srcOf x st⟩
inductive Fl where
  | nx | rt (s : S) | bk | ct
def wipe (ρ : Env) : List Nat → Env
  | [] => ρ
  | v :: vs => (wipe ρ vs).set v none
def kwG {α : Type} (ps : List Str) (n : Nat) (ks : List Str) (ys : List α) : Option (List α) := (ps.drop n).mapM fun p => (ks.zip ys).lookup p
section
open Classical
noncomputable def compR (w : Wk) (one : List S → Store → Res (Option S)) : List (List S) → List S → Store → Res (List S)
  | [], acc, st => if w.stands st then .ok acc st else .bad
  | row :: r, acc, st => if w.stands st then (one row st).bind fun o st1 => (match o with
      | some s => compR w one r (acc ++ [s]) st1
      | none => compR w one r acc st1) else .bad
noncomputable def forR (w : Wk) (t : Tg) (body : Env → Store → Res (Env × Fl)) : List (List S) → Env → Store → Res (Env × Fl)
  | [], ρ, st => if w.stands st then .ok (ρ, .nx) st else .bad
  | row :: r, ρ, st => if w.stands st then (match w.asg t row ρ with
      | none => .bad
      | some ρ1 => (body ρ1 st).bind fun p st1 => (match p.2 with
        | .rt s => .ok (p.1, .rt s) st1
        | .bk => .ok (p.1, .nx) st1
        | _ => forR w t body r p.1 st1)) else .bad
def whileN (c : Env → Store → Res Bool) (body : Env → Store → Res (Env × Fl)) : Nat → Env → Store → Option (Res (Env × Fl))
  | 0, _, _ => none
  | n + 1, ρ, st => match c ρ st with
    | .ok true st1 => (match body ρ st1 with
      | .ok (ρ2, .rt s) st2 => some (.ok (ρ2, .rt s) st2)
      | .ok (ρ2, .bk) st2 => some (.ok (ρ2, .nx) st2)
      | .ok (ρ2, _) st2 => whileN c body n ρ2 st2
      | .ex a b d e => some (.ex a b d e)
      | .bad => some .bad)
    | .ok false st1 => some (.ok (ρ, .nx) st1)
    | .ex a b d e => some (.ex a b d e)
    | .bad => some .bad
noncomputable def whileR (c : Env → Store → Res Bool) (body : Env → Store → Res (Env × Fl)) (ρ : Env) (st : Store) : Res (Env × Fl) :=
  if h : ∃ n r, whileN c body n ρ st = some r then h.choose_spec.choose else .bad
end
variable (G : Gt) (C : Nat → List S → Store → Res S)
mutual
noncomputable def evE : E → Env → Store → Res S
  | .var i, ρ, st => (match ρ[i]? with
    | some (some s) => .ok s st
    | _ => .bad)
  | .glob i, _, st => need (G.cs[i]?.map fun p => S.v p.2) st
  | .cint i, _, st => .ok (.v (.int i)) st
  | .cstr s, _, st => .ok (.v (.str s)) st
  | .cbl b, _, st => .ok (.v (.bl b)) st
  | .cnon, _, st => .ok (.v .non) st
  | .tup es, ρ, st => (evEs es ρ st).bind fun xs st1 => need ((allV xs).map fun ds => S.v (.tup ds)) st1
  | .fr f, ρ, st => (evFr f ρ st).bind fun xs st1 => need ((allV xs).map fun ds => S.v (.lst ds)) st1
  | .al f, ρ, st => (evFr f ρ st).bind fun xs st1 => .ok (.r st1.length) (st1 ++ [some (.lst xs)])
  | .dnew ks es, ρ, st => (evEs es ρ st).bind fun xs st1 => if ks.length = xs.length ∧ ks.Nodup then .ok (.r st1.length) (st1 ++ [some (.dic (ks.map D.str) xs)]) else .bad
  | .bop o a b, ρ, st => (evE a ρ st).bind fun x st1 => (evE b ρ st1).bind fun y st2 => need (bopSem o x y st2) st2
  | .neg a, ρ, st => (evE a ρ st).bind fun x st1 => (match x with
    | .v (.int i) => .ok (.v (.int (-i))) st1
    | _ => .bad)
  | .cmp o a b, ρ, st => (evE a ρ st).bind fun x st1 => (evE b ρ st1).bind fun y st2 => need ((cmpSem o x y st2).map fun k => S.v (.bl k)) st2
  | .chn o o' a b c, ρ, st => (evE a ρ st).bind fun x st1 => (evE b ρ st1).bind fun y st2 => (need (cmpSem o x y st2) st2).bind fun k st3 =>
      if k then (evE c ρ st3).bind fun z st4 => need ((cmpSem o' y z st4).map fun k => S.v (.bl k)) st4 else .ok (.v (.bl false)) st3
  | .not a, ρ, st => (evE a ρ st).bind fun x st1 => (match x with
    | .v (.bl b) => .ok (.v (.bl (!b))) st1
    | _ => .bad)
  | .andv es, ρ, st => evAnd es ρ st
  | .orv es, ρ, st => evOr es ρ st
  | .ife c a b, ρ, st => (evC c ρ st).bind fun t st1 => if t then evE a ρ st1 else evE b ρ st1
  | .ix a i, ρ, st => (evE a ρ st).bind fun x st1 => (evE i ρ st1).bind fun y st2 => need (ixSem x y st2) st2
  | .slc a lo hi, ρ, st => (evE a ρ st).bind fun x st1 => (evO lo ρ st1).bind fun l st2 => (evO hi ρ st2).bind fun h st3 => need (slcSem x l h st3) st3
  | .call f es, ρ, st => (evEs es ρ st).bind fun xs st1 => C f xs st1
  | .callk f es ks kes, ρ, st => (evEs es ρ st).bind fun xs st1 => (evEs kes ρ st1).bind fun ys st2 =>
      (match kwG (G.ps f) xs.length ks ys with
      | some zs => if ks.length = ys.length then C f (xs ++ zs) st2 else .bad
      | none => .bad)
  | .bl b es, ρ, st => (evEs es ρ st).bind fun xs st1 => need (blSem b xs st1) st1
  | .isi e ts _, ρ, st => (evE e ρ st).bind fun x st1 => if nexc x then need ((isiSem x st1 ts).map fun b => S.v (.bl b)) st1 else .bad
  | .mth m o es, ρ, st => (evE o ρ st).bind fun x st1 => if mthTy m x st1 then (evEs es ρ st1).bind fun xs st2 => mthSem m x xs st2 else .bad
  | .frz e, ρ, st => (evE e ρ st).bind fun x st1 => frzSem x st1
  | .stuck, _, _ => .bad
  | .fnv i, _, st => .ok (.v (.fn i)) st
  | .callv i es, ρ, st => (match ρ[i]? with
    | some (some (.v (.fn f))) => if f < G.cl.length then (evEs es ρ st).bind fun xs st1 => C f xs st1 else .bad
    | _ => .bad)
  | .caught e, ρ, st => (match evE e ρ st with
    | .ok _ st' => .ok (.v .non) st'
    | .ex c fs vs st' => if c < G.ks.length then .ok (.v (.exc c fs vs)) st' else .bad
    | .bad => .bad)
  | .isx e c, ρ, st => (evE e ρ st).bind fun x st1 => (match x, c with
    | .v .non, _ => .ok (.v (.bl false)) st1
    | .v (.exc d [] _), .own c => if d < G.ks.length then .ok (.v (.bl (G.sub d c))) st1 else .bad
    | _, _ => .bad)
  | .fld e f, ρ, st => (evE e ρ st).bind fun x st1 => (match x with
    | .v (.exc _ [g] [d]) => if f = g then .ok (.v d) st1 else .bad
    | _ => .bad)
noncomputable def evAnd : Es → Env → Store → Res S
  | .nil, _, _ => .bad
  | .cons a .nil, ρ, st => evE a ρ st
  | .cons a (.cons b r), ρ, st => (evE a ρ st).bind fun x st1 => (match x with
    | .v (.bl true) => evAnd (.cons b r) ρ st1
    | .v (.bl false) => .ok (.v (.bl false)) st1
    | _ => .bad)
noncomputable def evOr : Es → Env → Store → Res S
  | .nil, _, _ => .bad
  | .cons a .nil, ρ, st => evE a ρ st
  | .cons a (.cons b r), ρ, st => (evE a ρ st).bind fun x st1 => (match x with
    | .v (.bl false) => evOr (.cons b r) ρ st1
    | .v (.bl true) => .ok (.v (.bl true)) st1
    | _ => .bad)
noncomputable def evEs : Es → Env → Store → Res (List S)
  | .nil, _, st => .ok [] st
  | .cons e es, ρ, st => (evE e ρ st).bind fun x st1 => (evEs es ρ st1).bind fun xs st2 => .ok (x :: xs) st2
noncomputable def evO : Oe → Env → Store → Res (Option Int)
  | .no, _, st => .ok none st
  | .yes e, ρ, st => (evE e ρ st).bind fun x st1 => (match x with
    | .v (.int i) => .ok (some i) st1
    | _ => .bad)
noncomputable def evFr : Fr → Env → Store → Res (List S)
  | .disp es, ρ, st => evEs es ρ st
  | .comp el tg vs it c, ρ, st => (evIt it ρ st).bind fun w st1 => compR w (fun row st2 => Res.nox (match w.asg tg row (wipe ρ vs) with
      | none => .bad
      | some ρ2 => (evOc c ρ2 st2).bind fun b st3 => if b then (evE el ρ2 st3).bind fun x st4 => .ok (some x) st4 else .ok none st3)) w.rows [] st1
  | .lof e, ρ, st => (evE e ρ st).bind fun x st1 => need (items x st1) st1
  | .srt e, ρ, st => .bad
  | .lzip a b, ρ, st => (evE a ρ st).bind fun x st1 => (evE b ρ st1).bind fun y st2 => need (lzSem x y st2) st2
  | .add a b, ρ, st => (evE a ρ st).bind fun x st1 => (evE b ρ st1).bind fun y st2 => (match lstI x st2, lstI y st2 with
    | some xs, some ys => if xs.length + ys.length ≤ sizeLine then .ok (xs ++ ys) st2 else .bad
    | _, _ => .bad)
noncomputable def evOc : Oc → Env → Store → Res Bool
  | .no, _, st => .ok true st
  | .yes c, ρ, st => evC c ρ st
noncomputable def evC : Cd → Env → Store → Res Bool
  | .cmp o a b, ρ, st => (evE a ρ st).bind fun x st1 => (evE b ρ st1).bind fun y st2 => need (cmpSem o x y st2) st2
  | .chain o o' a b c, ρ, st => (evE a ρ st).bind fun x st1 => (evE b ρ st1).bind fun y st2 => (need (cmpSem o x y st2) st2).bind fun k st3 =>
      if k then (evE c ρ st3).bind fun z st4 => need (cmpSem o' y z st4) st4 else .ok false st3
  | .and cs, ρ, st => evAll cs ρ st
  | .or cs, ρ, st => evAny cs ρ st
  | .ife c a b, ρ, st => (evC c ρ st).bind fun k st1 => if k then evC a ρ st1 else evC b ρ st1
  | .not a, ρ, st => (evC a ρ st).bind fun k st1 => .ok (!k) st1
  | .val e, ρ, st => (evE e ρ st).bind fun x st1 => (match x with
    | .v (.bl b) => .ok b st1
    | _ => .bad)
noncomputable def evAll : Cs → Env → Store → Res Bool
  | .nil, _, _ => .bad
  | .cons a .nil, ρ, st => evC a ρ st
  | .cons a (.cons b r), ρ, st => (evC a ρ st).bind fun k st1 => if k then evAll (.cons b r) ρ st1 else .ok false st1
noncomputable def evAny : Cs → Env → Store → Res Bool
  | .nil, _, _ => .bad
  | .cons a .nil, ρ, st => evC a ρ st
  | .cons a (.cons b r), ρ, st => (evC a ρ st).bind fun k st1 => if k then .ok true st1 else evAny (.cons b r) ρ st1
noncomputable def evIt : It → Env → Store → Res Wk
  | .sq e, ρ, st => (evE e ρ st).bind fun x st1 => need (walkSq x st1) st1
  | .rng a, ρ, st => (evE a ρ st).bind fun x st1 => (match x with
    | .v (.int n) => need (walkRng 0 n) st1
    | _ => .bad)
  | .rng2 a b, ρ, st => (evE a ρ st).bind fun x st1 => (evE b ρ st1).bind fun y st2 => (match x, y with
    | .v (.int m), .v (.int n) => need (walkRng m n) st2
    | _, _ => .bad)
  | .zip a b, ρ, st => (evE a ρ st).bind fun x st1 => (evE b ρ st1).bind fun y st2 => need (walkZip x y st2) st2
  | .zip3 a b c, ρ, st => (evE a ρ st).bind fun x st1 => (evE b ρ st1).bind fun y st2 => (evE c ρ st2).bind fun z st3 => need (walkZip3 x y z st3) st3
  | .enum a, ρ, st => (evE a ρ st).bind fun x st1 => need (walkEnum x st1) st1
end
mutual
noncomputable def exS : St → Env → Store → Res (Env × Fl)
  | .asg t e, ρ, st => (evE G C e ρ st).bind fun x st1 => need ((asgT t x ρ).map fun ρ' => (ρ', Fl.nx)) st1
  | .par is es, ρ, st => (evEs G C es ρ st).bind fun xs st1 => need ((setAll is xs ρ).map fun ρ' => (ρ', Fl.nx)) st1
  | .setix o i e, ρ, st => (evE G C e ρ st).bind fun x st1 => (evE G C o ρ st1).bind fun y st2 => (evE G C i ρ st2).bind fun z st3 => (setSem y z x st3).bind fun _ st4 => .ok (ρ, .nx) st4
  | .expr e, ρ, st => (evE G C e ρ st).bind fun _ st1 => .ok (ρ, .nx) st1
  | .ret e, ρ, st => (evE G C e ρ st).bind fun x st1 => .ok (ρ, .rt x) st1
  | .retN, ρ, st => .ok (ρ, .rt (.v .non)) st
  | .ite c a b, ρ, st => (evC G C c ρ st).bind fun k st1 => if k then exSs a ρ st1 else exSs b ρ st1
  | .for_ t it b, ρ, st => (evIt G C it ρ st).bind fun w st1 => forR w t (fun ρ2 st2 => exSs b ρ2 st2) w.rows ρ st1
  | .whl c b, ρ, st => whileR (fun ρ2 st2 => evC G C c ρ2 st2) (fun ρ2 st2 => exSs b ρ2 st2) ρ st
  | .pass, ρ, st => .ok (ρ, .nx) st
  | .brk, ρ, st => .ok (ρ, .bk) st
  | .cont, ρ, st => .ok (ρ, .ct) st
  | .rais, _, _ => .bad
  | .thr c f es, ρ, st => (evEs G C es ρ st).bind fun xs st1 => (match f, xs with
    | none, [.v _] => .ex c [] [] st1
    | some f, [.v d] => .ex c [f] [d] st1
    | _, _ => .bad)
noncomputable def exSs : Ss → Env → Store → Res (Env × Fl)
  | .nil, ρ, st => .ok (ρ, .nx) st
  | .cons s r, ρ, st => (exS s ρ st).bind fun p st1 => (match p.2 with
    | .nx => exSs r p.1 st1
    | _ => .ok p st1)
end
structure Fd where
  np : Nat
  nn : Nat
  body : Ss
def trunc (n : Nat) (keep : Bool) : Res S → Res S
  | .ok (.v d) st => if keep then .ok (.v d) st else .ok (.v d) (st.take n)
  | .ok (.r m) st => if keep then .ok (.r m) st else if m < n then .ok (.r m) (st.take n) else .bad
  | .ex c fs vs st => .ex c fs vs (st.take n)
  | .bad => .bad
noncomputable def callK (fd : Nat → Option Fd) : Nat → Nat → List S → Store → Res S
  | 0, _, _, _ => .bad
  | k + 1, f, xs, st => match fd f with
    | none => .bad
    | some d => if xs.length = d.np then trunc st.length (G.keep.contains f) ((exSs G (callK fd k) d.body (xs.map some ++ List.replicate (d.nn - d.np) none) st).bind fun p st1 => (match p.2 with
        | .rt s => .ok s st1
        | .nx => .ok (.v .non) st1
        | _ => .bad)) else .bad
end Sw

set_option linter.all false
set_option maxRecDepth 100000
namespace Sw
open PySem L2
structure Gh where
  ph : Nat → Addr
  B : Addr → Prop
def Live (g : Gh) (st : Store) (a : Addr) : Prop := ∃ n o, st[n]? = some (some o) ∧ g.ph n = a
def Bar (g : Gh) (st : Store) (a : Addr) : Prop := Live g st a ∨ g.B a
structure Ct where
  K : PySem.W.Frag
  fad : Nat → Addr
  cad : Nat → Addr
  T : List (Addr × Str)
def KTup (K : PySem.W.Frag) (a : Addr) (vs : List V) : Prop :=
  ∃ (o : Obj) (its : Array Value) (n : Nat), K.lookup a = some o ∧ o.cls = .type "tuple" ∧ o.data = .seq its n ∧ its.size ≤ sizeLine ∧ Vals vs its.toList
def SqF (K : PySem.W.Frag) (X : Addr → Prop) (H : Hp) (a : Addr) (xs : List V) : Prop :=
  (¬ X a ∧ (H a = some (.lst xs) ∨ ∃ o, H a = some (.frz o (.lst xs)))) ∨ ∃ (o : Obj) (its : Array Value) (n : Nat), K.lookup a = some o ∧ o.cls = .type "list" ∧ o.dict = none ∧ o.data = .seq its n ∧ its.size ≤ sizeLine ∧ Vals xs its.toList
theorem SqF.sql {K : PySem.W.Frag} {X : Addr → Prop} {H : Hp} {a : Addr} {xs : List V} (h : SqF K X H a xs) : SqL K H a xs := h.elim (fun ⟨_, e⟩ => .inl e) .inr
def ExcV (a : Addr) (cls : Value) (d : Option Addr) : HO := .ext fun h => ∃ (oe : Obj) (vs : Array Value), h.get? a = some oe ∧ Zc cls d oe ∧ oe.data = .fields vs
def FldR (X : Addr → Prop) (H : Hp) (fs : List Str) (us : List V) (d : Option Addr) : Prop := (fs = [] ∧ us = [] ∧ d = none) ∨ ∃ f u dd, fs = [f] ∧ us = [u] ∧ d = some dd ∧ ¬ X dd ∧ H dd = some (.xd [(f, u)])
def keysD : List D → Option (List Key)
  | [] => some []
  | d :: r => (keyD d).bind fun k => (keysD r).map (k :: ·)
section
variable (c : Ct) (X : Addr → Prop) (H : Hp)
mutual
def Rp : D → V → Prop
  | .non, v => v = .non
  | .bl b, v => v = .bl b
  | .int i, v => v = .int i
  | .str s, v => v = .str s ∧ s.length ≤ sizeLine ∧ PyData.strOk s = true
  | .tup ds, v => ∃ a vs, v = .ref a ∧ ((¬ X a ∧ H a = some (.tup vs)) ∨ KTup c.K a vs) ∧ RpL ds vs
  | .lst ds, v => ∃ a vs, v = .ref a ∧ ¬ X a ∧ H a = some (.lst vs) ∧ RpL ds vs
  | .dic ks ds, v => ∃ a kk vs, v = .ref a ∧ ¬ X a ∧ H a = some (.dK (kk.zip vs)) ∧ keysD ks = some kk ∧ kk.length = vs.length ∧ kk.Nodup ∧ RpL ds vs
  | .scr ns, v => ∃ a, v = .ref a ∧ SqF c.K X H a (ns.map V.int)
  | .fn i, v => v = .ref (c.fad i)
  | .exc ci fs ds, v => ∃ a us d, v = .ref a ∧ ¬ X a ∧ H a = some (ExcV a (.ref (c.cad ci)) d) ∧ FldR X H fs us d ∧ RpL ds us
def RpL : List D → List V → Prop
  | [], [] => True
  | d :: ds, v :: vs => Rp d v ∧ RpL ds vs
  | _, _ => False
end
end
def RelSb (c : Ct) (g : Gh) (st : Store) (H : Hp) (b : Nat) (s : S) (v : V) : Prop := match s with
  | .v d => Rp c (Bar g st) H d v
  | .r n => v = .ref (g.ph n) ∧ n < b
def RelLb (c : Ct) (g : Gh) (st : Store) (H : Hp) (b : Nat) : List S → List V → Prop
  | [], [] => True
  | s :: r, v :: vs => RelSb c g st H b s v ∧ RelLb c g st H b r vs
  | _, _ => False
abbrev RelS (c : Ct) (g : Gh) (st : Store) (H : Hp) (s : S) (v : V) : Prop := RelSb c g st H st.length s v
abbrev RelL (c : Ct) (g : Gh) (st : Store) (H : Hp) (xs : List S) (vs : List V) : Prop := RelLb c g st H st.length xs vs
def ObR (c : Ct) (g : Gh) (st : Store) (H : Hp) (b : Nat) (o : Ob) (h : HO) : Prop := match o with
  | .lst xs => ∃ vs, h = .lst vs ∧ RelLb c g st H b xs vs
  | .dic ks xs => ∃ kk vs, keysD ks = some kk ∧ RelLb c g st H b xs vs ∧ kk.length = vs.length ∧ kk.Nodup ∧ h = .dK (kk.zip vs)
  | .ins _ _ _ => False
def Pln (o : HO) : Prop := (∀ ps, o ≠ .tbl ps) ∧ ∀ φ, o ≠ .ext φ
theorem tabs_at {T : List (Addr × Str)} {H H' : Hp} {a : Addr} (t : LamX.Tabs T H) (h : ∀ u, H a = some u → Pln u) (k : ∀ b, b ≠ a → H' b = H b) : LamX.Tabs T H' := fun p hp => by
  obtain ⟨ps, h1, h2, h3⟩ := t p hp
  refine ⟨ps, ?_, h2, fun pos cv e => ?_⟩
  · rw [k _ (fun z => (h _ (by rw [← z]; exact h1)).1 ps rfl)]; exact h1
  · obtain ⟨c0, e1, e2⟩ := h3 pos cv e
    exact ⟨c0, e1, by rw [k _ (fun z => (h _ (by rw [← z]; exact e2)).2 _ rfl)]; exact e2⟩
theorem tabs_new {T : List (Addr × Str)} {H : Hp} {a : Addr} {o : HO} (t : LamX.Tabs T H) (h : H a = none) : LamX.Tabs T (upd H a o) := tabs_at t (fun u e => by rw [h] at e; cases e) fun b hb => upd_ne hb
def Nt (H : Hp) (a : Addr) : Prop := ∃ o, H a = some o ∧ ∀ ps, o ≠ .tbl ps
theorem Nt.no {H : Hp} {a : Addr} (h : H a = none) : ¬ Nt H a := fun ⟨o, e, _⟩ => by rw [h] at e; cases e
theorem Nt.eq {H H' : Hp} {a : Addr} (e : H' a = H a) (h : Nt H a) : Nt H' a := by
  obtain ⟨o, e1, n⟩ := h
  exact ⟨o, e.trans e1, n⟩
structure RelSt (c : Ct) (g : Gh) (st : Store) (H : Hp) : Prop where
  ob : ∀ (n : Nat) (o : Ob), st[n]? = some (some o) → ∃ h, H (g.ph n) = some h ∧ ObR c g st H n o h
  inj : ∀ (n m : Nat) (o o' : Ob), st[n]? = some (some o) → st[m]? = some (some o') → g.ph n = g.ph m → n = m
  bar : ∀ a, g.B a → Nt H a ∧ ¬ Live g st a
  tab : LamX.Tabs c.T H
structure RelE (c : Ct) (g : Gh) (st : Store) (H : Hp) (ρ : Env) (σ : L2.St) : Prop where
  len : ρ.length = σ.length
  at_ : ∀ (i : Nat) (s : S), ρ[i]? = some (some s) → ∃ v, σ[i]? = some (some v) ∧ RelS c g st H s v
structure Keeps (g : Gh) (st : Store) (H : Hp) (g' : Gh) (st' : Store) (H' : Hp) : Prop where
  same : ∀ a o, ¬ Live g st a → H a = some o → (∀ ps, o ≠ .tbl ps) → H' a = some o
  live : ∀ a, Live g' st' a → Live g st a ∨ ¬ Nt H a
  B : g'.B = g.B
  ph : ∀ n, n < st.length → g'.ph n = g.ph n
  len : st.length ≤ st'.length
  some_ : ∀ a, Nt H a → Nt H' a
theorem Keeps.refl (g : Gh) (st : Store) (H : Hp) : Keeps g st H g st H := ⟨fun _ _ _ h _ => h, fun _ h => .inl h, rfl, fun _ _ => rfl, Nat.le_refl _, fun _ h => h⟩
theorem Keeps.trans {g g1 g2 : Gh} {st st1 st2 : Store} {H H1 H2 : Hp} (a : Keeps g st H g1 st1 H1) (b : Keeps g1 st1 H1 g2 st2 H2) : Keeps g st H g2 st2 H2 where
  same := fun x o nl h nt => b.same x o (fun l => (a.live x l).elim nl fun e => e ⟨o, h, nt⟩) (a.same x o nl h nt) nt
  live := fun x l => by
    rcases b.live x l with l | e
    · exact a.live x l
    · exact .inr fun h => e (a.some_ x h)
  B := b.B.trans a.B
  ph := fun n h => (b.ph n (Nat.lt_of_lt_of_le h a.len)).trans (a.ph n h)
  len := Nat.le_trans a.len b.len
  some_ := fun x h => b.some_ x (a.some_ x h)
section
variable {c : Ct} {g g' : Gh} {st st' : Store} {H H' : Hp} {b : Nat}
mutual
theorem Rp.move {X X' : Addr → Prop} (hs : ∀ a o, ¬ X a → H a = some o → (∀ ps, o ≠ .tbl ps) → ¬ X' a ∧ H' a = some o) : ∀ (d : D) (v : V), Rp c X H d v → Rp c X' H' d v
  | .non, _, h | .bl _, _, h | .int _, _, h | .str _, _, h | .fn _, _, h => by simpa only [Rp] using h
  | .dic ks ds, v, h => by
    simp only [Rp] at h ⊢
    obtain ⟨a, kk, vs, e, n, h1, h3, h4, h5, h2⟩ := h
    obtain ⟨n', e'⟩ := hs a _ n h1 fun ps z => by cases z
    exact ⟨a, kk, vs, e, n', e', h3, h4, h5, RpL.move hs ds vs h2⟩
  | .exc ci fs ds, v, h => by
    simp only [Rp] at h ⊢
    obtain ⟨a, us, d, e, n, h1, h2, h3⟩ := h
    obtain ⟨n', e'⟩ := hs a _ n h1 fun ps z => by cases z
    refine ⟨a, us, d, e, n', e', ?_, RpL.move hs ds us h3⟩
    rcases h2 with h2 | ⟨f, u, dd, q1, q2, q3, q4, q5⟩
    · exact .inl h2
    · obtain ⟨n2, e2⟩ := hs dd _ q4 q5 fun ps z => by cases z
      exact .inr ⟨f, u, dd, q1, q2, q3, n2, e2⟩
  | .tup ds, v, h => by
    simp only [Rp] at h ⊢
    obtain ⟨a, vs, e, h1, h2⟩ := h
    refine ⟨a, vs, e, ?_, RpL.move hs ds vs h2⟩
    rcases h1 with ⟨n, e⟩ | k
    · exact .inl (hs a _ n e fun ps z => by cases z)
    · exact .inr k
  | .lst ds, v, h => by
    simp only [Rp] at h ⊢
    obtain ⟨a, vs, e, n, h1, h2⟩ := h
    obtain ⟨n', e'⟩ := hs a _ n h1 fun ps z => by cases z
    exact ⟨a, vs, e, n', e', RpL.move hs ds vs h2⟩
  | .scr ns, v, h => by
    simp only [Rp] at h ⊢
    obtain ⟨a, e, h1⟩ := h
    refine ⟨a, e, h1.elim (fun ⟨n, h1⟩ => ?_) .inr⟩
    rcases h1 with h1 | ⟨o, h1⟩
    · obtain ⟨n', e'⟩ := hs a _ n h1 fun ps z => by cases z
      exact .inl ⟨n', .inl e'⟩
    · obtain ⟨n', e'⟩ := hs a _ n h1 fun ps z => by cases z
      exact .inl ⟨n', .inr ⟨o, e'⟩⟩
theorem RpL.move {X X' : Addr → Prop} (hs : ∀ a o, ¬ X a → H a = some o → (∀ ps, o ≠ .tbl ps) → ¬ X' a ∧ H' a = some o) : ∀ (ds : List D) (vs : List V), RpL c X H ds vs → RpL c X' H' ds vs
  | [], [], h => h
  | d :: ds, v :: vs, h => by
    simp only [RpL] at h ⊢
    exact ⟨Rp.move hs d v h.1, RpL.move hs ds vs h.2⟩
  | [], _ :: _, h | _ :: _, [], h => by simp only [RpL] at h
end
theorem Keeps.bar (k : Keeps g st H g' st' H') : ∀ a o, ¬ Bar g st a → H a = some o → (∀ ps, o ≠ .tbl ps) → ¬ Bar g' st' a ∧ H' a = some o := fun a o nb h nt => by
  refine ⟨?_, k.same a o (fun l => nb (.inl l)) h nt⟩
  rintro (l | b)
  · rcases k.live a l with l | e
    · exact nb (.inl l)
    · exact e ⟨o, h, nt⟩
  · rw [k.B] at b; exact nb (.inr b)
theorem RelSb.move (k : Keeps g st H g' st' H') {b b' : Nat} (hb : b ≤ st.length) (hb' : b ≤ b') {s : S} {v : V} (h : RelSb c g st H b s v) : RelSb c g' st' H' b' s v := by
  cases s with
  | v d => exact Rp.move k.bar d v h
  | r n =>
    obtain ⟨e, l⟩ := h
    exact ⟨by rw [k.ph n (Nat.lt_of_lt_of_le l hb)]; exact e, Nat.lt_of_lt_of_le l hb'⟩
theorem RelLb.move (k : Keeps g st H g' st' H') {b b' : Nat} (hb : b ≤ st.length) (hb' : b ≤ b') : ∀ {xs : List S} {vs : List V}, RelLb c g st H b xs vs → RelLb c g' st' H' b' xs vs
  | [], [], _ => trivial
  | _ :: _, _ :: _, h => ⟨RelSb.move k hb hb' h.1, RelLb.move k hb hb' h.2⟩
theorem RelS.move (k : Keeps g st H g' st' H') {s : S} {v : V} (h : RelS c g st H s v) : RelS c g' st' H' s v := RelSb.move k (Nat.le_refl _) k.len h
theorem RelL.move (k : Keeps g st H g' st' H') {xs : List S} {vs : List V} (h : RelL c g st H xs vs) : RelL c g' st' H' xs vs := RelLb.move k (Nat.le_refl _) k.len h
theorem RelSb.up {b b' : Nat} (hb' : b ≤ b') {s : S} {v : V} (h : RelSb c g st H b s v) : RelSb c g st H b' s v := by
  cases s with
  | v d => exact h
  | r n => exact ⟨h.1, Nat.lt_of_lt_of_le h.2 hb'⟩
theorem RelLb.up {b b' : Nat} (hb' : b ≤ b') : ∀ {xs : List S} {vs : List V}, RelLb c g st H b xs vs → RelLb c g st H b' xs vs
  | [], [], _ => trivial
  | _ :: _, _ :: _, h => ⟨RelSb.up hb' h.1, RelLb.up hb' h.2⟩
theorem RelE.move (k : Keeps g st H g' st' H') {ρ : Env} {σ : L2.St} (h : RelE c g st H ρ σ) : RelE c g' st' H' ρ σ :=
  ⟨h.len, fun i s e => let ⟨v, e', r⟩ := h.at_ i s e; ⟨v, e', r.move k⟩⟩
theorem RelLb.length : ∀ {xs : List S} {vs : List V}, RelLb c g st H b xs vs → xs.length = vs.length
  | [], [], _ => rfl
  | _ :: _, _ :: _, h => congrArg (· + 1) (RelLb.length h.2)
theorem RpL.length {X : Addr → Prop} : ∀ {ds : List D} {vs : List V}, RpL c X H ds vs → ds.length = vs.length
  | [], [], _ => rfl
  | d :: ds, v :: vs, h => by simp only [RpL] at h; exact congrArg (· + 1) (RpL.length h.2)
  | [], _ :: _, h | _ :: _, [], h => by simp only [RpL] at h
theorem RelLb.ofV : ∀ {ds : List D} {vs : List V}, RpL c (Bar g st) H ds vs → RelLb c g st H b (ds.map S.v) vs
  | [], [], _ => trivial
  | d :: ds, v :: vs, h => by simp only [RpL] at h; exact ⟨h.1, RelLb.ofV h.2⟩
  | [], _ :: _, h | _ :: _, [], h => by simp only [RpL] at h
theorem RelLb.toV : ∀ {xs : List S} {ds : List D} {vs : List V}, allV xs = some ds → RelLb c g st H b xs vs → RpL c (Bar g st) H ds vs
  | [], ds, [], e, _ => by cases e; simp only [RpL]
  | .v d :: r, ds, v :: vs, e, h => by
    simp only [allV, Option.map_eq_some_iff] at e
    obtain ⟨es, e1, rfl⟩ := e
    simp only [RpL]
    exact ⟨h.1, RelLb.toV e1 h.2⟩
  | .r _ :: _, _, _ :: _, e, _ => by simp only [allV] at e; cases e
theorem RelLb.get : ∀ {xs : List S} {vs : List V} {i : Nat} {s : S}, RelLb c g st H b xs vs → xs[i]? = some s → ∃ v, vs[i]? = some v ∧ RelSb c g st H b s v
  | [], [], i, s, _, e => by simp at e
  | x :: xs, v :: vs, 0, s, h, e => by simp at e; subst e; exact ⟨v, rfl, h.1⟩
  | x :: xs, v :: vs, i + 1, s, h, e => by
    obtain ⟨u, h1, h2⟩ := RelLb.get (i := i) h.2 (by simpa using e)
    exact ⟨u, by simpa using h1, h2⟩
theorem RelLb.get' : ∀ {xs : List S} {vs : List V} {i : Nat} {v : V}, RelLb c g st H b xs vs → vs[i]? = some v → ∃ s, xs[i]? = some s ∧ RelSb c g st H b s v
  | [], [], i, s, _, e => by simp at e
  | x :: xs, u :: vs, 0, v, h, e => by simp at e; subst e; exact ⟨x, rfl, h.1⟩
  | x :: xs, u :: vs, i + 1, v, h, e => by
    obtain ⟨u, h1, h2⟩ := RelLb.get' (i := i) h.2 (by simpa using e)
    exact ⟨u, by simpa using h1, h2⟩
theorem RelLb.app : ∀ {xs ys : List S} {vs us : List V}, RelLb c g st H b xs vs → RelLb c g st H b ys us → RelLb c g st H b (xs ++ ys) (vs ++ us)
  | [], _, [], _, _, h => h
  | _ :: _, _, _ :: _, _, h, h' => ⟨h.1, RelLb.app h.2 h'⟩
theorem RelLb.set {s : S} {v : V} (r : RelSb c g st H b s v) : ∀ {xs : List S} {vs : List V} (i : Nat), RelLb c g st H b xs vs → RelLb c g st H b (xs.set i s) (vs.set i v)
  | [], [], _, _ => trivial
  | _ :: _, _ :: _, 0, h => ⟨r, h.2⟩
  | _ :: _, _ :: _, i + 1, h => ⟨h.1, RelLb.set r i h.2⟩
theorem RelLb.eraseIdx : ∀ {xs : List S} {vs : List V} (i : Nat), RelLb c g st H b xs vs → RelLb c g st H b (xs.eraseIdx i) (vs.eraseIdx i)
  | [], [], _, _ => trivial
  | _ :: _, _ :: _, 0, h => h.2
  | _ :: _, _ :: _, i + 1, h => ⟨h.1, RelLb.eraseIdx i h.2⟩
theorem RelLb.dropLast : ∀ {xs : List S} {vs : List V}, RelLb c g st H b xs vs → RelLb c g st H b xs.dropLast vs.dropLast
  | [], [], _ => trivial
  | [_], [_], _ => trivial
  | _ :: _ :: _, _ :: _ :: _, h => ⟨h.1, RelLb.dropLast h.2⟩
  | _ :: _ :: _, [_], h => h.2.elim
  | [_], _ :: _ :: _, h => h.2.elim
theorem RelLb.take : ∀ {xs : List S} {vs : List V} (n : Nat), RelLb c g st H b xs vs → RelLb c g st H b (xs.take n) (vs.take n)
  | _, _, 0, _ => by simp only [List.take_zero]; trivial
  | [], [], _ + 1, _ => trivial
  | _ :: _, _ :: _, n + 1, h => ⟨h.1, RelLb.take n h.2⟩
theorem RelLb.drop : ∀ {xs : List S} {vs : List V} (n : Nat), RelLb c g st H b xs vs → RelLb c g st H b (xs.drop n) (vs.drop n)
  | _, _, 0, h => h
  | [], [], _ + 1, _ => trivial
  | _ :: _, _ :: _, n + 1, h => RelLb.drop n h.2
theorem RpL.app {X : Addr → Prop} : ∀ {ds es : List D} {vs us : List V}, RpL c X H ds vs → RpL c X H es us → RpL c X H (ds ++ es) (vs ++ us)
  | [], _, [], _, _, h => h
  | _ :: _, _, _ :: _, _, h, h' => by simp only [RpL, List.cons_append] at h ⊢; exact ⟨h.1, RpL.app h.2 h'⟩
  | [], _, _ :: _, _, h, _ | _ :: _, _, [], _, h, _ => by simp only [RpL] at h
theorem RpL.take {X : Addr → Prop} : ∀ {ds : List D} {vs : List V} (n : Nat), RpL c X H ds vs → RpL c X H (ds.take n) (vs.take n)
  | _, _, 0, _ => by simp only [List.take_zero, RpL]
  | [], [], _ + 1, h => by simp only [List.take_nil, RpL]
  | _ :: _, _ :: _, n + 1, h => by simp only [RpL, List.take_succ_cons] at h ⊢; exact ⟨h.1, RpL.take n h.2⟩
  | [], _ :: _, _ + 1, h | _ :: _, [], _ + 1, h => by simp only [RpL] at h
theorem RpL.drop {X : Addr → Prop} : ∀ {ds : List D} {vs : List V} (n : Nat), RpL c X H ds vs → RpL c X H (ds.drop n) (vs.drop n)
  | _, _, 0, h => h
  | [], [], _ + 1, h => by simp only [List.drop_nil, RpL]
  | _ :: _, _ :: _, n + 1, h => by simp only [RpL, List.drop_succ_cons] at h ⊢; exact RpL.drop n h.2
  | [], _ :: _, _ + 1, h | _ :: _, [], _ + 1, h => by simp only [RpL] at h
theorem RpL.get {X : Addr → Prop} : ∀ {ds : List D} {vs : List V} {i : Nat} {d : D}, RpL c X H ds vs → ds[i]? = some d → ∃ v, vs[i]? = some v ∧ Rp c X H d v
  | [], [], i, s, _, e => by simp at e
  | x :: xs, v :: vs, 0, s, h, e => by simp only [RpL] at h; simp at e; subst e; exact ⟨v, rfl, h.1⟩
  | x :: xs, v :: vs, i + 1, s, h, e => by
    simp only [RpL] at h
    obtain ⟨u, h1, h2⟩ := RpL.get (i := i) h.2 (by simpa using e)
    exact ⟨u, by simpa using h1, h2⟩
  | [], _ :: _, _, _, h, _ | _ :: _, [], _, _, h, _ => by simp only [RpL] at h
theorem ObR.pln {o : Ob} {h : HO} (r : ObR c g st H b o h) : Pln h := by
  cases o with
  | lst xs => obtain ⟨vs, rfl, _⟩ := r; exact ⟨(fun _ z => nomatch z), (fun _ z => nomatch z)⟩
  | dic ks xs => obtain ⟨kk, vs, _, _, _, _, rfl⟩ := r; exact ⟨(fun _ z => nomatch z), (fun _ z => nomatch z)⟩
  | ins _ _ _ => exact r.elim
theorem Keeps.new {p : Addr} {o : HO} (h : H p = none) : Keeps g st H g st (upd H p o) where
  same := fun a u _ e _ => by rw [upd_ne (ne_of_none e h)]; exact e
  live := fun _ l => .inl l
  B := rfl
  ph := fun _ _ => rfl
  len := Nat.le_refl _
  some_ := fun a e => e.eq (upd_ne fun z => Nt.no h (z ▸ e))
theorem ObR.move (k : Keeps g st H g' st' H') {o : Ob} {h : HO} (hb : b ≤ st.length) (r : ObR c g st H b o h) : ObR c g' st' H' b o h := by
  cases o with
  | lst xs => obtain ⟨vs, e, r⟩ := r; exact ⟨vs, e, r.move k hb (Nat.le_refl _)⟩
  | dic ks xs => obtain ⟨kk, vs, e, r, z⟩ := r; exact ⟨kk, vs, e, r.move k hb (Nat.le_refl _), z⟩
  | ins _ _ _ => exact r
theorem lt_of_get {n : Nat} {o : Option Ob} (e : st[n]? = some o) : n ≤ st.length := Nat.le_of_lt (List.getElem?_eq_some_iff.mp e).1
theorem RelSt.new {p : Addr} {o : HO} (R : RelSt c g st H) (h : H p = none) : RelSt c g st (upd H p o) where
  ob := fun n u e => by
    obtain ⟨x, h1, h2⟩ := R.ob n u e
    exact ⟨x, by rw [upd_ne (ne_of_none h1 h)]; exact h1, h2.move (Keeps.new h) (lt_of_get e)⟩
  inj := R.inj
  bar := fun a b => ⟨(Keeps.new (g := g) (st := st) h).some_ a (R.bar a b).1, (R.bar a b).2⟩
  tab := tabs_new R.tab h
theorem RelSt.notBar (R : RelSt c g st H) {p : Addr} (h : H p = none) : ¬ Bar g st p := by
  rintro (⟨n, o, e, rfl⟩ | b)
  · obtain ⟨x, h1, _⟩ := R.ob n o e
    rw [h1] at h; cases h
  · exact Nt.no h (R.bar p b).1
theorem Rp.newTup {p : Addr} {ds : List D} {vs : List V} (R : RelSt c g st H) (h : H p = none) (r : RpL c (Bar g st) H ds vs) : Rp c (Bar g st) (upd H p (.tup vs)) (.tup ds) (.ref p) := by
  simp only [Rp]
  exact ⟨p, vs, rfl, .inl ⟨R.notBar h, upd_same⟩, RpL.move (Keeps.new h).bar _ _ r⟩
theorem Rp.newLst {p : Addr} {ds : List D} {vs : List V} (R : RelSt c g st H) (h : H p = none) (r : RpL c (Bar g st) H ds vs) : Rp c (Bar g st) (upd H p (.lst vs)) (.lst ds) (.ref p) := by
  simp only [Rp]
  exact ⟨p, vs, rfl, R.notBar h, upd_same, RpL.move (Keeps.new h).bar _ _ r⟩
theorem Rp.sqT {X : Addr → Prop} {ds : List D} {v : V} (r : Rp c X H (.tup ds) v) : ∃ a vs, v = .ref a ∧ SqT c.K H a vs ∧ RpL c X H ds vs := by
  simp only [Rp] at r
  obtain ⟨a, vs, e, h, r⟩ := r
  refine ⟨a, vs, e, ?_, r⟩
  rcases h with ⟨_, h⟩ | h
  · exact .of h
  · exact .inr h
theorem RelS.lst {x : S} {v : V} {xs : List S} (R : RelSt c g st H) (r : RelS c g st H x v) (e : x = .v (.lst ds) ∧ xs = ds.map S.v ∨ ∃ n, x = .r n ∧ st[n]? = some (some (.lst xs))) : ∃ a vs, v = .ref a ∧ H a = some (.lst vs) ∧ RelL c g st H xs vs := by
  rcases e with ⟨rfl, rfl⟩ | ⟨n, rfl, e⟩
  · simp only [RelS, RelSb, Rp] at r
    obtain ⟨a, vs, rfl, _, h, r⟩ := r
    exact ⟨a, vs, rfl, h, RelLb.ofV r⟩
  · obtain ⟨rfl, _⟩ := r
    obtain ⟨h, h1, vs, rfl, h2⟩ := R.ob n _ e
    exact ⟨_, vs, rfl, h1, h2.up (lt_of_get e)⟩
end
end Sw

set_option linter.all false
set_option maxRecDepth 100000
set_option maxHeartbeats 1000000
namespace Sw
open PySem L2 PySem.Spec PyProof.Rows
def ExR (c : Ct) (g : Gh) (st : Store) (H : Hp) : List Str → List D → Option Addr → Prop
  | [], [], d => d = none
  | [f], [x], d => ∃ dd v, d = some dd ∧ H dd = some (.xd [(f, v)]) ∧ ¬ Bar g st dd ∧ Rp c (Bar g st) H x v
  | _, _, _ => False
def PostG {α β : Type} (c : Ct) (W : XK) (g : Gh) (st : Store) (H : Hp) (M : Gh → Store → Hp → α → β → Prop) (r : Res α) (Q : β → Hp → Prop) : Prop := match r with
  | .ok a st' => ∀ b H' g', RelSt c g' st' H' → Keeps g st H g' st' H' → M g' st' H' a b → Q b H'
  | .ex ci fs vs st' => ∀ d H' g', RelSt c g' st' H' → Keeps g st H g' st' H' → ExR c g' st' H' fs vs d → W (.ref (c.cad ci)) d H'
  | .bad => False
def RG {α β : Type} (c : Ct) (W : XK) (M : Gh → Store → Hp → α → β → Prop) (f : Env → Store → Res α) (σ : L2.St) (H : Hp) (Q : β → Hp → Prop) : Prop :=
  ∃ g ρ st, RelSt c g st H ∧ RelE c g st H ρ σ ∧ PostG c W g st H M (f ρ st) Q
abbrev MS (c : Ct) : Gh → Store → Hp → S → V → Prop := fun g st H s v => RelS c g st H s v
abbrev ML (c : Ct) : Gh → Store → Hp → List S → List V → Prop := fun g st H s v => RelL c g st H s v
abbrev MB : Gh → Store → Hp → Bool → Bool → Prop := fun _ _ _ a b => a = b
abbrev RD (c : Ct) (W : XK) (f : Env → Store → Res S) : TE := RG c W (MS c) f
abbrev RT (c : Ct) (W : XK) (f : Env → Store → Res Bool) : TT := RG c W MB f
abbrev RA (c : Ct) (W : XK) (f : Env → Store → Res (List S)) : TA := RG c W (ML c) f
section
variable {c : Ct} {W : XK} {g g1 : Gh} {st st1 : Store} {H H1 : Hp} {α β γ δ : Type} {ρ : Env} {σ : L2.St}
theorem PostG.from {M : Gh → Store → Hp → α → β → Prop} {r : Res α} {Q : β → Hp → Prop} (k : Keeps g st H g1 st1 H1) (p : PostG c W g st H M r Q) : PostG c W g1 st1 H1 M r Q := by
  cases r with
  | ok a st' => exact fun b H' g' R k' m => p b H' g' R (k.trans k') m
  | ex a b d e => exact fun b H' g' R k' m => p b H' g' R (k.trans k') m
  | bad => exact p
theorem RG.bind {M : Gh → Store → Hp → α → β → Prop} {M' : Gh → Store → Hp → γ → δ → Prop} {f : Env → Store → Res α} {k : α → Store → Res γ} {Q : δ → Hp → Prop} {Q' : β → Hp → Prop}
    (Rs : RelSt c g st H) (Re : RelE c g st H ρ σ) (p : PostG c W g st H M' ((f ρ st).bind k) Q)
    (h : ∀ a st1 b H1 g1, RelSt c g1 st1 H1 → RelE c g1 st1 H1 ρ σ → Keeps g st H g1 st1 H1 → M g1 st1 H1 a b → PostG c W g1 st1 H1 M' (k a st1) Q → Q' b H1) : RG c W M f σ H Q' := by
  refine ⟨g, ρ, st, Rs, Re, ?_⟩
  cases e : f ρ st with
  | ok a st' =>
    rw [e] at p
    intro b H' g' R k' m
    exact h a st' b H' g' R (Re.move k') k' m (p.from k')
  | ex a b d e' => rw [e] at p; exact p
  | bad => rw [e] at p; exact p
theorem RG.bindE {M : Gh → Store → Hp → α → β → Prop} {M' : Gh → Store → Hp → γ → δ → Prop} {f : Env → Store → Res α} {k : α → Store → Res γ} {Q : δ → Hp → Prop} {Q' : β → Hp → Prop}
    (Rs : RelSt c g st H) (Re : RelE c g st H ρ σ) (p : PostG c W g st H M' ((f ρ st).bind k) Q)
    (h : ∀ a st1 b H1 g1, f ρ st = .ok a st1 → RelSt c g1 st1 H1 → RelE c g1 st1 H1 ρ σ → Keeps g st H g1 st1 H1 → M g1 st1 H1 a b → PostG c W g1 st1 H1 M' (k a st1) Q → Q' b H1) : RG c W M f σ H Q' := by
  refine ⟨g, ρ, st, Rs, Re, ?_⟩
  cases e : f ρ st with
  | ok a st' =>
    rw [e] at p
    intro b H' g' R k' m
    exact h a st' b H' g' e R (Re.move k') k' m (p.from k')
  | ex a b d e' => rw [e] at p; exact p
  | bad => rw [e] at p; exact p
theorem PostG.now {M : Gh → Store → Hp → α → β → Prop} {a : α} {b : β} {Q : β → Hp → Prop} (Rs : RelSt c g st H) (p : PostG c W g st H M (.ok a st) Q) (m : M g st H a b) : Q b H :=
  p b H g Rs (Keeps.refl _ _ _) m
theorem PostG.new {M : Gh → Store → Hp → α → β → Prop} {a : α} {b : β} {Q : β → Hp → Prop} {q : Addr} {o : HO} (Rs : RelSt c g st H) (hq : H q = none) (p : PostG c W g st H M (.ok a st) Q) (m : M g st (upd H q o) a b) : Q b (upd H q o) :=
  p b _ g (Rs.new hq) (Keeps.new hq) m
end
theorem PE_imp {X : Cx} {e : Expr} {t t' : TE} (h : PE X e t) (i : ∀ σ H Q, t' σ H Q → t σ H Q) : PE X e t' := ⟨fun pins s σ H Q I q => h.run pins s σ H Q I (i σ H Q q)⟩
theorem PT_imp {X : Cx} {e : Expr} {t t' : TT} (h : PT X e t) (i : ∀ σ H Q, t' σ H Q → t σ H Q) : PT X e t' := ⟨fun pins s σ H Q I q => h.run pins s σ H Q I (i σ H Q q)⟩
theorem PA_imp {X : Cx} {e : List Expr} {t t' : TA} (h : PA X e t) (i : ∀ σ H Q, t' σ H Q → t σ H Q) : PA X e t' := ⟨fun pos pins s σ H Q I q => h.run pos pins s σ H Q I (i σ H Q q)⟩
theorem PS_imp {X : Cx} {e : Stmt} {t t' : TS} (h : PS X e t) (i : ∀ D σ H, t' D σ H → t D σ H) : PS X e t' := ⟨fun pins s σ H D I q => h.run pins s σ H D I (i D σ H q)⟩
theorem PSs_imp {X : Cx} {e : List Stmt} {t t' : TS} (h : PSs X e t) (i : ∀ D σ H, t' D σ H → t D σ H) : PSs X e t' := ⟨fun pins s σ H D I q => h.run pins s σ H D I (i D σ H q)⟩

def Bop.op : Bop → Operator
  | .add => .Add | .sub => .Sub | .mul => .Mult | .fdiv => .FloorDiv | .mod => .Mod | .pow => .Pow
def rBop (c : Ct) (W : XK) (o : Bop) : R2 := fun x y H Q => ∃ g st a b, RelSt c g st H ∧ RelS c g st H a x ∧ RelS c g st H b y ∧ PostG c W g st H (MS c) (need (bopSem o a b st) st) Q
theorem mulOk_ok {i j : Int} (h : mulOk i j = true) : IntMulOk i j := by
  unfold mulOk at h
  simp only [Bool.or_eq_true, decide_eq_true_eq] at h
  have b : ∀ x : Int, Builtin.Int.intBits x ≤ x.natAbs.log2 + 1 := fun x => by
    unfold Builtin.Int.intBits
    split <;> omega
  rcases h with (h | h) | h
  · exact .of_left (intBits_le_64 (by omega) (by omega))
  · exact .of_right (intBits_le_64 (by omega) (by omega))
  · have h1 := b i
    have h2 := b j
    have e : bitsLine = 134217728 := by decide
    unfold IntMulOk
    intro z
    rw [Bool.and_eq_true] at z
    have z2 := z.2
    unfold Builtin.Int.intTooBig at z2
    have z3 := of_decide_eq_true z2
    rw [e] at z3
    omega
section
variable {X : Cx}
theorem o_fdiv : OpR X (binaryOp .FloorDiv) (rI (fun i j => divOk i j = true) fun i j => .int (i.fdiv j)) := opI fun i j _ _ _ _ _ hc q => by
  unfold divOk at hc
  simp only [Bool.and_eq_true, decide_eq_true_eq, Bool.not_eq_true'] at hc
  exact floordiv_int hc.1 q (.inl hc.2)
theorem o_mul : OpR X (binaryOp .Mult) (rI (fun i j => mulOk i j = true) fun i j => .int (i * j)) := opI fun _ _ _ _ _ _ _ hc q => mul_int q (mulOk_ok hc)
theorem o_pow : OpR X (binaryOp .Pow) (rI (fun i j => powOk i j = true) fun i j => .int (i ^ j.toNat)) := opI fun _ _ _ _ _ _ _ hc q => by
  unfold powOk at hc
  simp only [Bool.and_eq_true, decide_eq_true_eq] at hc
  exact pow_int_small hc.1.1 hc.1.2 hc.2 q
end
theorem strOk_app {a b : Str} (ha : PyData.strOk a = true) (hb : PyData.strOk b = true) : PyData.strOk (a ++ b) = true := by
  unfold PyData.strOk at *
  show ((a.cps ++ b.cps).all _) = true
  rw [Array.all_append, ha, hb]
  rfl
theorem len_app (a b : Str) : (a ++ b).length = a.length + b.length := by
  show (a.cps ++ b.cps).size = _
  rw [Array.size_append]
  rfl
theorem rdD_lst {c : Ct} {g : Gh} {st : Store} {H : Hp} {x : S} {v : V} {ds : List D} (R : RelSt c g st H) (r : RelS c g st H x v) (e : rdD x st = some (.lst ds)) :
    ∃ a vs, v = .ref a ∧ H a = some (.lst vs) ∧ RpL c (Bar g st) H ds vs := by
  cases x with
  | v d =>
    simp only [rdD, Option.some.injEq] at e
    subst e
    simp only [RelS, RelSb, Rp] at r
    obtain ⟨a, vs, rfl, _, h, r⟩ := r
    exact ⟨a, vs, rfl, h, r⟩
  | r n =>
    simp only [rdD] at e
    split at e
    · rename_i xs e1
      simp only [Option.map_eq_some_iff] at e
      obtain ⟨es, e2, e3⟩ := e
      cases e3
      obtain ⟨rfl, _⟩ := r
      obtain ⟨h, h1, vs, rfl, h2⟩ := R.ob n _ e1
      exact ⟨_, vs, rfl, h1, h2.toV e2⟩
    · simp only [Option.map_eq_some_iff] at e
      obtain ⟨es, e2, e3⟩ := e
      cases e3
    · cases e
theorem rdD_tup {c : Ct} {g : Gh} {st : Store} {H : Hp} {x : S} {v : V} {ds : List D} (r : RelS c g st H x v) (e : rdD x st = some (.tup ds)) : x = .v (.tup ds) := by
  cases x with
  | v d =>
    simp only [rdD, Option.some.injEq] at e
    rw [e]
  | r n =>
    simp only [rdD] at e
    split at e
    · simp only [Option.map_eq_some_iff] at e
      obtain ⟨es, e2, e3⟩ := e
      cases e3
    · simp only [Option.map_eq_some_iff] at e
      obtain ⟨es, e2, e3⟩ := e
      cases e3
    · cases e
theorem rdD_str {st : Store} {x : S} {z : Str} (e : rdD x st = some (.str z)) : x = .v (.str z) := by
  cases x with
  | v d =>
    simp only [rdD, Option.some.injEq] at e
    rw [e]
  | r n =>
    simp only [rdD] at e
    split at e
    · simp only [Option.map_eq_some_iff] at e
      obtain ⟨es, e2, e3⟩ := e
      cases e3
    · simp only [Option.map_eq_some_iff] at e
      obtain ⟨es, e2, e3⟩ := e
      cases e3
    · cases e
section
variable {X : Cx} {c : Ct} {W : XK}
theorem RpL.rep {Y : Addr → Prop} {H : Hp} {ds : List D} {vs : List V} (r : RpL c Y H ds vs) : ∀ n : Nat, RpL c Y H (List.replicate n ds).flatten (List.replicate n vs).flatten
  | 0 => by simp only [List.replicate_zero, List.flatten_nil, RpL]
  | n + 1 => by
    simp only [List.replicate_succ, List.flatten_cons]
    exact r.app (RpL.rep r n)
theorem o_addL (hK : X.K = c.K) : OpR X (binaryOp .Add) (fun x y H Q => ∃ g st a b as bs, RelSt c g st H ∧ RelS c g st H a x ∧ RelS c g st H b y ∧ rdD a st = some (.lst as) ∧ rdD b st = some (.lst bs) ∧ as.length + bs.length ≤ sizeLine ∧
    PostG c W g st H (MS c) (.ok (.v (.lst (as ++ bs))) st) Q) := by
  intro pins s σ H x y v u Q I rx ry h
  obtain ⟨g, st, a, b, as, bs, R, ra, rb, ea, eb, hl, p⟩ := h
  obtain ⟨l, xs, rfl, hx, r1⟩ := rdD_lst R ra ea
  obtain ⟨l', ys, rfl, hy, r2⟩ := rdD_lst R rb eb
  refine op_cat pins s σ H _ _ v u Q I rx ry ⟨l, l', xs, ys, rfl, rfl, hx, hy, by rw [← r1.length, ← r2.length]; exact hl, fun q hq => ?_⟩
  exact p.new R hq (Rp.newLst R hq (r1.app r2))
theorem op_bop (hK : X.K = c.K) (o : Bop) : OpR X (binaryOp o.op) (rBop c W o) := by
  intro pins s σ H x y v u Q I rx ry h
  obtain ⟨g, st, a, b, R, ra, rb, p⟩ := h
  have lists : ∀ (o : Bop) (s' : S), o = .add → ((rdD a st).bind fun d => (rdD b st).bind fun e => (match d, e with
    | .lst a, .lst b => if a.length + b.length ≤ sizeLine then some (S.v (.lst (a ++ b))) else none
    | _, _ => none)) = some s' → PostG c W g st H (MS c) (.ok s' st) Q → wpAny (model X.prog X.w) X.A (binaryOp .Add v u) (EP X pins σ Q) X.xe s := by
    intro o s' _ e p
    simp only [Option.bind_eq_some_iff] at e
    obtain ⟨d, e1, d', e2, e3⟩ := e
    split at e3
    · rename_i as bs
      split at e3
      · rename_i hl
        cases e3
        exact o_addL hK pins s σ H x y v u Q I rx ry ⟨g, st, a, b, as, bs, R, ra, rb, e1, e2, hl, p⟩
      · cases e3
    · cases e3
  cases e : bopSem o a b st with
  | none => rw [e] at p; exact p.elim
  | some s' =>
    rw [e] at p
    replace p : PostG c W g st H (MS c) (.ok s' st) Q := p
    unfold bopSem at e
    split at e
    · cases e
      simp only [RelS, RelSb, Rp] at ra rb
      exact op_add pins s σ H x y v u Q I rx ry ⟨_, _, ra, rb, p.now R (by simp only [RelS, RelSb, Rp])⟩
    · cases e
      simp only [RelS, RelSb, Rp] at ra rb
      exact op_sub pins s σ H x y v u Q I rx ry ⟨_, _, ra, rb, p.now R (by simp only [RelS, RelSb, Rp])⟩
    · split at e
      · rename_i hc
        cases e
        simp only [RelS, RelSb, Rp] at ra rb
        exact o_mul pins s σ H x y v u Q I rx ry ⟨_, _, ra, rb, hc, p.now R (by simp only [RelS, RelSb, Rp])⟩
      · cases e
    · split at e
      · rename_i hc
        cases e
        simp only [RelS, RelSb, Rp] at ra rb
        exact o_fdiv pins s σ H x y v u Q I rx ry ⟨_, _, ra, rb, hc, p.now R (by simp only [RelS, RelSb, Rp])⟩
      · cases e
    · split at e
      · rename_i hc
        cases e
        simp only [RelS, RelSb, Rp] at ra rb
        exact op_modN pins s σ H x y v u Q I rx ry ⟨_, _, ra, rb, hc, p.now R (by simp only [RelS, RelSb, Rp])⟩
      · cases e
    · split at e
      · rename_i hc
        cases e
        simp only [RelS, RelSb, Rp] at ra rb
        exact o_pow pins s σ H x y v u Q I rx ry ⟨_, _, ra, rb, hc, p.now R (by simp only [RelS, RelSb, Rp])⟩
      · cases e
    · split at e
      · rename_i hc
        cases e
        simp only [RelS, RelSb, Rp] at ra rb
        exact op_add_str pins s σ H x y v u Q I rx ry ⟨_, _, ra.1, rb.1, hc, p.now R (by simp only [RelS, RelSb, Rp]; exact ⟨trivial, by rw [len_app]; exact hc, strOk_app ra.2.2 rb.2.2⟩)⟩
      · cases e
    · rename_i as bs
      split at e
      · rename_i hc
        cases e
        obtain ⟨l, xs, rfl, hx, r1⟩ := Rp.sqT ra
        obtain ⟨l', ys, rfl, hy, r2⟩ := Rp.sqT rb
        refine op_catA pins s σ H _ _ v u Q I rx ry ⟨l, l', xs, ys, rfl, rfl, by rw [hK]; exact hx, by rw [hK]; exact hy, by rw [← r1.length, ← r2.length]; exact hc, fun z => ?_, fun _ z => ?_, fun _ _ q hq => ?_⟩
        · subst z
          have e1 : as = [] := List.length_eq_zero_iff.mp r1.length
          subst e1
          exact p.now R (by simpa using rb)
        · subst z
          have e1 : bs = [] := List.length_eq_zero_iff.mp r2.length
          subst e1
          exact p.now R (by simpa using ra)
        · exact p.new R hq (Rp.newTup R hq (r1.app r2))
      · cases e
    · rename_i as k
      split at e
      · rename_i hc
        cases e
        obtain ⟨l, xs, rfl, hx, r1⟩ := Rp.sqT ra
        simp only [RelS, RelSb, Rp] at rb
        obtain ⟨h1, h2, h3, h4⟩ := hc
        have e1 := r1.length
        refine op_repT pins s σ H _ _ v u Q I rx ry ⟨l, k, xs, rfl, rb, by rw [hK]; exact hx, fun z => by rw [z] at e1; have e2 : as.length = 0 := e1; omega, h3, h4, by omega, fun q hq => ?_⟩
        exact p.new R hq (Rp.newTup R hq (r1.rep _))
      · cases e
    · rename_i as k
      split at e
      · rename_i hc
        cases e
        simp only [RelS, RelSb, Rp] at ra rb
        obtain ⟨l, xs, rfl, _, hx, r1⟩ := ra
        unfold repOk at hc
        simp only [Bool.and_eq_true, decide_eq_true_eq] at hc
        obtain ⟨⟨h1, h2⟩, h3⟩ := hc
        refine op_rep pins s σ H _ _ v u Q I rx ry ⟨l, k, xs, rfl, rb, hx, h1, h2, by rw [← r1.length]; exact h3, fun q hq => ?_⟩
        exact p.new R hq (Rp.newLst R hq (r1.rep _))
      · cases e
    · exact lists _ s' rfl e p
    · cases e
end
end Sw

set_option linter.all false
set_option maxRecDepth 100000
set_option maxHeartbeats 1000000
namespace Sw
open PySem L2 PySem.Spec PyProof.Rows
section
variable {c : Ct} {Y : Addr → Prop} {H : Hp}
mutual
theorem Rp.dp : ∀ (d : D) (v : V), Rp c Y H d v → d.dep < 1000 → Dp c.K H v d.pd ∧ d.pd.canLay0 = true ∧ d.pd.depth ≤ d.dep
  | .non, v, h, _ => by simp only [Rp] at h; subst h; exact ⟨.non, rfl, Nat.le_refl _⟩
  | .bl b, v, h, _ => by simp only [Rp] at h; subst h; exact ⟨.bl b, rfl, Nat.le_refl _⟩
  | .int b, v, h, _ => by simp only [Rp] at h; subst h; exact ⟨.int b, rfl, Nat.le_refl _⟩
  | .str b, v, h, _ => by
    simp only [Rp] at h
    obtain ⟨rfl, _, h⟩ := h
    exact ⟨.str b, by simpa only [D.pd, PyData.canLay0] using h, Nat.le_refl _⟩
  | .dic _ _, _, _, h | .scr _, _, _, h | .fn _, _, _, h | .exc _ _ _, _, _, h => by simp [D.dep] at h
  | .tup ds, v, h, hd => by
    obtain ⟨a, vs, rfl, h1, h2⟩ := Rp.sqT h
    simp only [D.dep] at hd
    obtain ⟨p, q, r⟩ := RpL.dp ds vs h2 (by omega)
    exact ⟨.tup h1 p, by simpa only [D.pd, PyData.canLay0] using q, by simpa only [D.pd, PyData.depth, D.dep] using Nat.succ_le_succ r⟩
  | .lst ds, v, h, hd => by
    simp only [Rp] at h
    obtain ⟨a, vs, rfl, _, h1, h2⟩ := h
    simp only [D.dep] at hd
    obtain ⟨p, q, r⟩ := RpL.dp ds vs h2 (by omega)
    exact ⟨.lst (.of h1) p, by simpa only [D.pd, PyData.canLay0] using q, by simpa only [D.pd, PyData.depth, D.dep] using Nat.succ_le_succ r⟩
theorem RpL.dp : ∀ (ds : List D) (vs : List V), RpL c Y H ds vs → D.depAll ds < 1000 → DpAll c.K H vs (D.pdAll ds) ∧ PyData.canLayAll0 (D.pdAll ds) = true ∧ PyData.depthAll (D.pdAll ds) ≤ D.depAll ds
  | [], [], _, _ => ⟨.nil, rfl, Nat.le_refl _⟩
  | d :: ds, v :: vs, h, hd => by
    simp only [RpL] at h
    simp only [D.depAll] at hd
    obtain ⟨p1, q1, r1⟩ := Rp.dp d v h.1 (by omega)
    obtain ⟨p2, q2, r2⟩ := RpL.dp ds vs h.2 (by omega)
    refine ⟨.cons p1 p2, by simp only [D.pdAll, PyData.canLayAll0, q1, q2, Bool.and_self], ?_⟩
    simp only [D.pdAll, PyData.depthAll, D.depAll]
    omega
  | [], _ :: _, h, _ | _ :: _, [], h, _ => by simp only [RpL] at h
end
end
theorem rdD_dp {c : Ct} {g : Gh} {st : Store} {H : Hp} {x : S} {v : V} {d : D} (R : RelSt c g st H) (r : RelS c g st H x v) (e : rdD x st = some d) (hd : d.dep ≤ 60) :
    Dp c.K H v d.pd ∧ SeqAt.shaped d.pd = true := by
  have key : Dp c.K H v d.pd ∧ d.pd.canLay0 = true ∧ d.pd.depth ≤ d.dep := by
    cases x with
    | v d' =>
      simp only [rdD, Option.some.injEq] at e
      subst e
      exact Rp.dp d' v r (by omega)
    | r n =>
      cases d with
      | lst ds =>
        obtain ⟨a, vs, rfl, h1, h2⟩ := rdD_lst R r e
        simp only [D.dep] at hd
        obtain ⟨p, q, s⟩ := RpL.dp ds vs h2 (by omega)
        exact ⟨.lst (.of h1) p, by simpa only [D.pd, PyData.canLay0] using q, by simpa only [D.pd, PyData.depth, D.dep] using Nat.succ_le_succ s⟩
      | _ =>
        simp only [rdD] at e
        split at e
        · simp only [Option.map_eq_some_iff] at e
          obtain ⟨es, e2, e3⟩ := e
          cases e3
        · simp only [Option.map_eq_some_iff] at e
          obtain ⟨es, e2, e3⟩ := e
          cases e3 <;> simp [D.dep] at hd
        · cases e
  refine ⟨key.1, ?_⟩
  unfold SeqAt.shaped
  rw [key.2.1, Bool.true_and, decide_eq_true_eq]
  have := key.2.2
  omega
def Cop.op : Cop → CmpOp
  | .eq => .Eq | .ne => .NotEq | .lt => .Lt | .le => .LtE | .gt => .Gt | .ge => .GtE | .isv => .Is | .isnt => .IsNot | .in_ => .In | .nin => .NotIn
def rCop (c : Ct) (W : XK) (o : Cop) : R2 := fun x y H Q => ∃ g st a b, RelSt c g st H ∧ RelS c g st H a x ∧ RelS c g st H b y ∧ PostG c W g st H MB (need (cmpSem o a b st) st) (fun k H' => Q (.bl k) H')
theorem pdAll_any (d : PyData) : ∀ es : List D, (D.pdAll es).any (fun z => PyData.eqv z d) = es.any fun z => PyData.eqv z.pd d
  | [] => rfl
  | e :: es => by simp only [D.pdAll, List.any_cons, pdAll_any d es]
theorem sign_eq {a : Str} (h : a.cps.size = 1) : a = ⟨#[a.cps.getD 0 0]⟩ := by
  obtain ⟨⟨l⟩⟩ := a
  match l, h with
  | [x], _ => rfl
theorem op_notBl {X : Cx} : OpR X (compareOp .IsNot) (fun x y H Q => ∃ a b : Bool, x = .bl a ∧ y = .bl b ∧ Q (.bl (!decide (a = b))) H) := by
  intro pins s σ H x y v u Q I rx ry h
  obtain ⟨a, b, rfl, rfl, q⟩ := h
  cases (show v = Value.bool a from rx)
  cases (show u = Value.bool b from ry)
  by_cases e : a = b
  · subst e
    exact wpAny_isNot_self rfl ⟨.bl false, H, I, rfl, by simpa using q⟩
  · exact wpAny_isNot_other rfl (fun z => e (Value.bool.inj z)) ⟨.bl true, H, I, rfl, by simpa [e] using q⟩
section
variable {X : Cx} {c : Ct} {W : XK}
theorem relS_non {c : Ct} {g : Gh} {st : Store} {H : Hp} {a : S} {x : V} (r : RelS c g st H a x) : decide (x = .non) = (match a with
    | .v .non => true
    | _ => false) := by
  cases a with
  | v d =>
    cases d with
    | non => simp only [RelS, RelSb, Rp] at r; simp [r]
    | dic _ _ => simp only [RelS, RelSb, Rp] at r; obtain ⟨a, kk, vs, e, _⟩ := r; simp [e]
    | exc _ _ _ => simp only [RelS, RelSb, Rp] at r; obtain ⟨a, us, d, e, _⟩ := r; simp [e]
    | tup _ => obtain ⟨a, vs, e, _⟩ := Rp.sqT r; simp [e]
    | lst _ => simp only [RelS, RelSb, Rp] at r; obtain ⟨a, vs, e, _⟩ := r; simp [e]
    | scr _ => simp only [RelS, RelSb, Rp] at r; obtain ⟨a, e, _⟩ := r; simp [e]
    | str _ => simp only [RelS, RelSb, Rp] at r; simp [r.1]
    | _ => simp only [RelS, RelSb, Rp] at r; simp [r]
  | r n => obtain ⟨e, _⟩ := r; simp [e]
theorem op_cmp (hK : X.K = c.K) (hu : X.A.units + 65 < cLine) (o : Cop) : OpR X (compareOp o.op) (rCop c W o) := by
  intro pins s σ H x y v u Q I rx ry h
  obtain ⟨g, st, a, b, R, ra, rb, p⟩ := h
  cases e : cmpSem o a b st with
  | none => rw [e] at p; exact p.elim
  | some k =>
    rw [e] at p
    replace p : Q (.bl k) H := PostG.now (M := MB) R p rfl
    cases o with
    | eq =>
      simp only [cmpSem, Option.bind_eq_some_iff] at e
      obtain ⟨d, e1, d', e2, e3⟩ := e
      split at e3
      · rename_i hd
        cases e3
        obtain ⟨p1, s1⟩ := rdD_dp R ra e1 hd.1
        obtain ⟨p2, s2⟩ := rdD_dp R rb e2 hd.2
        exact op_eqD (by omega) pins s σ H x y v u Q I rx ry ⟨_, _, by rw [hK]; exact p1, by rw [hK]; exact p2, s1, s2, p⟩
      · cases e3
    | ne =>
      simp only [cmpSem, Option.bind_eq_some_iff] at e
      obtain ⟨d, e1, d', e2, e3⟩ := e
      split at e3
      · rename_i hd
        cases e3
        obtain ⟨p1, s1⟩ := rdD_dp R ra e1 hd.1
        obtain ⟨p2, s2⟩ := rdD_dp R rb e2 hd.2
        exact op_neD (by omega) pins s σ H x y v u Q I rx ry ⟨_, _, by rw [hK]; exact p1, by rw [hK]; exact p2, s1, s2, p⟩
      · cases e3
    | lt =>
      simp only [cmpSem] at e
      split at e
      · cases e
        simp only [RelS, RelSb, Rp] at ra rb
        exact op_lt pins s σ H x y v u Q I rx ry ⟨_, _, ra, rb, p⟩
      · cases e
        simp only [RelS, RelSb, Rp] at ra rb
        exact op_lt_str pins s σ H x y v u Q I rx ry ⟨_, _, ra.1, rb.1, p⟩
      · cases e
    | le =>
      simp only [cmpSem] at e
      split at e
      · cases e
        simp only [RelS, RelSb, Rp] at ra rb
        exact op_le pins s σ H x y v u Q I rx ry ⟨_, _, ra, rb, p⟩
      · cases e
    | gt =>
      simp only [cmpSem] at e
      split at e
      · cases e
        simp only [RelS, RelSb, Rp] at ra rb
        exact op_gt pins s σ H x y v u Q I rx ry ⟨_, _, ra, rb, p⟩
      · cases e
    | ge =>
      simp only [cmpSem] at e
      split at e
      · cases e
        simp only [RelS, RelSb, Rp] at ra rb
        exact op_ge pins s σ H x y v u Q I rx ry ⟨_, _, ra, rb, p⟩
      · cases e
    | isv =>
      have rn := relS_non ra
      simp only [cmpSem] at e
      split at e
      · cases e
        simp only [RelS, RelSb, Rp] at rb
        exact op_isN pins s σ H x y v u Q I rx ry ⟨rb, by rw [rn]; exact p⟩
      · rename_i hn
        cases e
        simp only [RelS, RelSb, Rp] at rb
        refine op_isN pins s σ H x y v u Q I rx ry ⟨rb, ?_⟩
        rw [rn]
        split
        · exact absurd rfl hn
        · exact p
      · cases e
        simp only [RelS, RelSb, Rp] at ra rb
        exact op_is_bl pins s σ H x y v u Q I rx ry ⟨_, _, ra, rb, p⟩
      · cases e
    | isnt =>
      have rn := relS_non ra
      simp only [cmpSem] at e
      split at e
      · cases e
        simp only [RelS, RelSb, Rp] at rb
        exact op_notN pins s σ H x y v u Q I rx ry ⟨rb, by rw [rn]; exact p⟩
      · rename_i hn
        cases e
        simp only [RelS, RelSb, Rp] at rb
        refine op_notN pins s σ H x y v u Q I rx ry ⟨rb, ?_⟩
        rw [rn]
        split
        · exact absurd rfl hn
        · exact p
      · cases e
        simp only [RelS, RelSb, Rp] at ra rb
        exact op_notBl pins s σ H x y v u Q I rx ry ⟨_, _, ra, rb, p⟩
      · cases e
    | in_ =>
      simp only [cmpSem, Option.bind_eq_some_iff] at e
      obtain ⟨d, e1, d', e2, e3⟩ := e
      split at e3
      · rename_i ca z
        unfold signIn at e3
        split at e3
        · rename_i hs
          cases e3
          obtain rfl := rdD_str e1
          obtain rfl := rdD_str e2
          simp only [RelS, RelSb, Rp] at ra rb
          refine op_in_sign pins s σ H x y v u Q I rx ry ⟨_, z, ?_, rb.1, p⟩
          rw [ra.1]
          exact congrArg V.str (sign_eq hs)
        · cases e3
      · rename_i es _
        split at e3
        · rename_i hd
          cases e3
          obtain ⟨p1, s1⟩ := rdD_dp R ra e1 hd.1
          obtain ⟨p2, s2⟩ := rdD_dp R rb e2 hd.2
          refine op_inD hu pins s σ H x y v u Q I rx ry ⟨_, _, by rw [hK]; exact p1, by rw [hK]; exact p2, s1, s2, ?_⟩
          rw [pdAll_any]
          exact p
        · cases e3
      · rename_i es _
        split at e3
        · rename_i hd
          cases e3
          obtain ⟨p1, s1⟩ := rdD_dp R ra e1 hd.1
          obtain ⟨p2, s2⟩ := rdD_dp R rb e2 hd.2
          rw [← hK] at p1 p2
          obtain ⟨as, r1⟩ := Dp.reads I _ x v p1 rx
          obtain ⟨bs, r2⟩ := Dp.reads I _ y u p2 ry
          refine SeqAt.in_tuple_reads r2 r1 (SeqAt.canLay_of_shaped s2) (SeqAt.canLay_of_shaped s1) (room_in_shaped s1 hu) ⟨.bl _, H, I, rfl, ?_⟩
          rw [pdAll_any]
          exact p
        · cases e3
      · cases e3
    | nin =>
      simp only [cmpSem, Option.bind_eq_some_iff] at e
      obtain ⟨d, e1, d', e2, e3⟩ := e
      split at e3
      · rename_i ca z
        simp only [Option.map_eq_some_iff] at e3
        obtain ⟨k', e3, rfl⟩ := e3
        unfold signIn at e3
        split at e3
        · rename_i hs
          cases e3
          obtain rfl := rdD_str e1
          obtain rfl := rdD_str e2
          simp only [RelS, RelSb, Rp] at ra rb
          refine op_notIn_sign pins s σ H x y v u Q I rx ry ⟨_, z, ?_, rb.1, p⟩
          rw [ra.1]
          exact congrArg V.str (sign_eq hs)
        · cases e3
      · rename_i es _
        split at e3
        · rename_i hd
          cases e3
          obtain ⟨p1, s1⟩ := rdD_dp R ra e1 hd.1
          obtain ⟨p2, s2⟩ := rdD_dp R rb e2 hd.2
          refine op_notInD hu pins s σ H x y v u Q I rx ry ⟨_, _, by rw [hK]; exact p1, by rw [hK]; exact p2, s1, s2, ?_⟩
          rw [pdAll_any]
          exact p
        · cases e3
      · rename_i es _
        split at e3
        · rename_i hd
          cases e3
          obtain ⟨p1, s1⟩ := rdD_dp R ra e1 hd.1
          obtain ⟨p2, s2⟩ := rdD_dp R rb e2 hd.2
          rw [← hK] at p1 p2
          obtain ⟨as, r1⟩ := Dp.reads I _ x v p1 rx
          obtain ⟨bs, r2⟩ := Dp.reads I _ y u p2 ry
          refine SeqAt.notIn_tuple_reads r2 r1 (SeqAt.canLay_of_shaped s2) (SeqAt.canLay_of_shaped s1) (room_in_shaped s1 hu) ⟨.bl _, H, I, rfl, ?_⟩
          rw [pdAll_any]
          exact p
        · cases e3
      · cases e3
end
end Sw

set_option linter.all false
set_option maxRecDepth 100000
set_option maxHeartbeats 1000000
namespace Sw
open PySem L2 PySem.Spec PyProof.Rows
section
variable {c : Ct} {g : Gh} {st : Store} {H : Hp}
theorem get_set {α : Type} {l : List α} {n m : Nat} {a b : α} (h : (l.set n a)[m]? = some b) : (m = n ∧ b = a) ∨ (m ≠ n ∧ l[m]? = some b) := by
  by_cases e : n = m
  · subst e
    by_cases hl : n < l.length
    · rw [List.getElem?_set_self hl] at h
      exact .inl ⟨rfl, (Option.some.inj h).symm⟩
    · rw [List.getElem?_eq_none (by rw [List.length_set]; omega)] at h
      cases h
  · rw [List.getElem?_set_ne e] at h
    exact .inr ⟨fun z => e z.symm, h⟩
theorem live_put {n : Nat} {o o' : Ob} (e : st[n]? = some (some o)) (a : Addr) : Live g (st.set n (some o')) a ↔ Live g st a := by
  have hl : n < st.length := (List.getElem?_eq_some_iff.mp e).1
  constructor
  · rintro ⟨m, x, h, rfl⟩
    rcases get_set h with ⟨rfl, _⟩ | ⟨_, h⟩
    · exact ⟨_, o, e, rfl⟩
    · exact ⟨m, x, h, rfl⟩
  · rintro ⟨m, x, h, rfl⟩
    by_cases z : m = n
    · subst z; exact ⟨m, o', by rw [List.getElem?_set_self hl], rfl⟩
    · exact ⟨m, x, by rw [List.getElem?_set_ne (fun q => z q.symm)]; exact h, rfl⟩
theorem RelSt.put {n : Nat} {o o' : Ob} {h' : HO} (R : RelSt c g st H) (e : st[n]? = some (some o)) (r : ObR c g st H n o' h') :
    RelSt c g (st.set n (some o')) (upd H (g.ph n) h') ∧ Keeps g st H g (st.set n (some o')) (upd H (g.ph n) h') := by
  have hl : n < st.length := (List.getElem?_eq_some_iff.mp e).1
  have K : Keeps g st H g (st.set n (some o')) (upd H (g.ph n) h') := {
    same := fun a u nl h _ => by
      rw [upd_ne (fun z => nl ⟨n, o, e, z.symm⟩)]
      exact h
    live := fun a l => .inl ((live_put e a).mp l)
    B := rfl
    ph := fun _ _ => rfl
    len := by rw [List.length_set]; exact Nat.le_refl _
    some_ := fun a h => by
      by_cases z : a = g.ph n
      · rw [z]; exact ⟨h', upd_same, r.pln.1⟩
      · exact h.eq (upd_ne z) }
  refine ⟨⟨fun m x h => ?_, fun m k x y h1 h2 q => ?_, fun a b => ⟨K.some_ a (R.bar a b).1, fun l => (R.bar a b).2 ((live_put e a).mp l)⟩, ?_⟩, K⟩
  · rcases get_set h with ⟨rfl, hx⟩ | ⟨ne, h⟩
    · have hx := Option.some.inj hx
      subst hx
      exact ⟨h', upd_same, r.move K (Nat.le_of_lt hl)⟩
    · obtain ⟨u, h1, h2⟩ := R.ob m x h
      refine ⟨u, ?_, h2.move K (lt_of_get h)⟩
      rw [upd_ne (fun z => ne (R.inj m n x o h e z))]
      exact h1
  · have at_ : ∀ {j : Nat} {x : Ob}, (st.set n (some o'))[j]? = some (some x) → ∃ y, st[j]? = some (some y) := fun {j x} h => by
      rcases get_set h with ⟨rfl, _⟩ | ⟨_, h⟩
      · exact ⟨o, e⟩
      · exact ⟨x, h⟩
    obtain ⟨x', h1⟩ := at_ h1
    obtain ⟨y', h2⟩ := at_ h2
    exact R.inj m k x' y' h1 h2 q
  · obtain ⟨u, h1, h2⟩ := R.ob n o e
    exact tabs_at R.tab (fun u' e' => by rw [h1] at e'; cases e'; exact h2.pln) fun b hb => upd_ne hb
theorem RelSt.kill {n : Nat} (R : RelSt c g st H) : RelSt c g (st.set n none) H ∧ Keeps g st H g (st.set n none) H := by
  have lv : ∀ a, Live g (st.set n none) a → Live g st a := by
    rintro a ⟨m, x, h, rfl⟩
    rcases get_set h with ⟨_, z⟩ | ⟨_, h⟩
    · cases z
    · exact ⟨m, x, h, rfl⟩
  have K : Keeps g st H g (st.set n none) H := ⟨fun _ _ _ h _ => h, fun a l => .inl (lv a l), rfl, fun _ _ => rfl, by rw [List.length_set]; exact Nat.le_refl _, fun _ h => h⟩
  refine ⟨⟨fun m x h => ?_, fun m k x y h1 h2 q => ?_, fun a b => ⟨(R.bar a b).1, fun l => (R.bar a b).2 (lv a l)⟩, R.tab⟩, K⟩
  · rcases get_set h with ⟨_, z⟩ | ⟨_, h⟩
    · cases z
    · obtain ⟨u, h1, h2⟩ := R.ob m x h
      exact ⟨u, h1, h2.move K (lt_of_get h)⟩
  · rcases get_set h1 with ⟨_, z⟩ | ⟨_, h1⟩
    · cases z
    · rcases get_set h2 with ⟨_, z⟩ | ⟨_, h2⟩
      · cases z
      · exact R.inj m k x y h1 h2 q
def Gh.add (g : Gh) (n : Nat) (p : Addr) : Gh := ⟨fun m => if m = n then p else g.ph m, g.B⟩
theorem RelSt.alloc {p : Addr} {o : Ob} {h : HO} (R : RelSt c g st H) (hp : H p = none) (r : ObR c g st H st.length o h) :
    RelSt c (g.add st.length p) (st ++ [some o]) (upd H p h) ∧ Keeps g st H (g.add st.length p) (st ++ [some o]) (upd H p h) := by
  have phl : ∀ n, n < st.length → (g.add st.length p).ph n = g.ph n := fun n hn => if_neg (Nat.ne_of_lt hn)
  have pht : (g.add st.length p).ph st.length = p := if_pos rfl
  have at_ : ∀ {m : Nat} {x : Ob}, (st ++ [some o])[m]? = some (some x) → (m < st.length ∧ st[m]? = some (some x)) ∨ (m = st.length ∧ x = o) := fun {m x} e => by
    by_cases hm : m < st.length
    · rw [List.getElem?_append_left hm] at e
      exact .inl ⟨hm, e⟩
    · have hl := (List.getElem?_eq_some_iff.mp e).1
      rw [List.length_append] at hl
      have e2 : m = st.length := by
        simp at hl
        omega
      subst e2
      rw [List.getElem?_append_right (Nat.le_refl _), Nat.sub_self] at e
      exact .inr ⟨rfl, (Option.some.inj (Option.some.inj e)).symm⟩
  have K : Keeps g st H (g.add st.length p) (st ++ [some o]) (upd H p h) := {
    same := fun a u nl e _ => by rw [upd_ne (ne_of_none e hp)]; exact e
    live := by
      rintro a ⟨m, x, e, rfl⟩
      rcases at_ e with ⟨hm, e⟩ | ⟨rfl, rfl⟩
      · rw [phl m hm]; exact .inl ⟨m, x, e, rfl⟩
      · rw [pht]; exact .inr (Nt.no hp)
    B := rfl
    ph := phl
    len := by rw [List.length_append]; omega
    some_ := fun a e => e.eq (upd_ne fun z => Nt.no hp (z ▸ e)) }
  have lv : ∀ m x, st[m]? = some (some x) → g.ph m ≠ p := fun m x e z => by
    obtain ⟨u, h1, _⟩ := R.ob m x e
    rw [z, hp] at h1
    cases h1
  refine ⟨⟨fun m x e => ?_, fun m k x y h1 h2 q => ?_, fun a b => ⟨K.some_ a (R.bar a b).1, ?_⟩, tabs_new R.tab hp⟩, K⟩
  · rcases at_ e with ⟨hm, e⟩ | ⟨rfl, rfl⟩
    · obtain ⟨u, h1, h2⟩ := R.ob m x e
      refine ⟨u, ?_, h2.move K (Nat.le_of_lt hm)⟩
      rw [phl m hm, upd_ne (lv m x e)]
      exact h1
    · refine ⟨h, ?_, r.move K (Nat.le_refl _)⟩
      rw [pht, upd_same]
  · rcases at_ h1 with ⟨hm, h1'⟩ | ⟨em, _⟩
    · rcases at_ h2 with ⟨hk, h2'⟩ | ⟨ek, _⟩
      · rw [phl m hm, phl k hk] at q
        exact R.inj m k x y h1' h2' q
      · rw [phl m hm, ek, pht] at q
        exact absurd q (lv m x h1')
    · rcases at_ h2 with ⟨hk, h2'⟩ | ⟨ek, _⟩
      · rw [em, pht, phl k hk] at q
        exact absurd q.symm (lv k y h2')
      · rw [em, ek]
  · rintro ⟨m, x, e, z⟩
    rcases at_ e with ⟨hm, e⟩ | ⟨rfl, rfl⟩
    · rw [phl m hm] at z
      exact (R.bar a b).2 ⟨m, x, e, z⟩
    · rw [pht] at z
      exact Nt.no hp (z ▸ (R.bar a b).1)
theorem RelSt.cut {g' : Gh} {st' : Store} {H' : Hp} {n : Nat} (hn : n = st.length) (R : RelSt c g' st' H') (K : Keeps g st H g' st' H') : RelSt c g' (st'.take n) H' ∧ Keeps g st H g' (st'.take n) H' ∧ (∀ d v, Rp c (Bar g' st') H' d v → Rp c (Bar g' (st'.take n)) H' d v) := by
  have at_ : ∀ {m : Nat} {x : Ob}, (st'.take n)[m]? = some (some x) → st'[m]? = some (some x) := fun {m x} h => by
    rw [List.getElem?_take] at h
    split at h
    · exact h
    · cases h
  have lv : ∀ a, Live g' (st'.take n) a → Live g' st' a := by
    rintro a ⟨m, x, h, rfl⟩
    exact ⟨m, x, at_ h, rfl⟩
  have mv : ∀ d v, Rp c (Bar g' st') H' d v → Rp c (Bar g' (st'.take n)) H' d v := fun d v h =>
    Rp.move (fun a o nb e _ => ⟨fun z => nb (z.elim (fun l => .inl (lv a l)) .inr), e⟩) d v h
  have mvb : ∀ {b : Nat} {s : S} {v : V}, RelSb c g' st' H' b s v → RelSb c g' (st'.take n) H' b s v := fun {b s v} h => by
    cases s with
    | v d => exact mv d v h
    | r m => exact h
  have mvl : ∀ {b : Nat} (xs : List S) (vs : List V), RelLb c g' st' H' b xs vs → RelLb c g' (st'.take n) H' b xs vs := by
    intro b xs
    induction xs with
    | nil => intro vs h; cases vs with
      | nil => trivial
      | cons _ _ => exact h.elim
    | cons x xs ih => intro vs h; cases vs with
      | nil => exact h.elim
      | cons v vs => exact ⟨mvb h.1, ih vs h.2⟩
  refine ⟨⟨fun m x e => ?_, fun m k x y h1 h2 q => R.inj m k x y (at_ h1) (at_ h2) q, fun a b => ⟨(R.bar a b).1, fun l => (R.bar a b).2 (lv a l)⟩, R.tab⟩, ⟨K.same, fun a l => K.live a (lv a l), K.B, K.ph, ?_, K.some_⟩, mv⟩
  · obtain ⟨u, h1, h2⟩ := R.ob m x (at_ e)
    refine ⟨u, h1, ?_⟩
    cases x with
    | lst xs => obtain ⟨vs, e, r⟩ := h2; exact ⟨vs, e, mvl _ _ r⟩
    | dic ks xs => obtain ⟨kk, vs, e, r, z⟩ := h2; exact ⟨kk, vs, e, mvl _ _ r, z⟩
    | ins _ _ _ => exact h2
  · rw [List.length_take, hn]
    have := K.len
    omega
theorem items_lst {x : S} {v : V} {xs : List S} (R : RelSt c g st H) (r : RelS c g st H x v) (e : items x st = some xs) :
    ∃ a vs, v = .ref a ∧ (H a = some (.lst vs) ∨ SqT c.K H a vs) ∧ RelL c g st H xs vs := by
  cases x with
  | v d =>
    cases d with
    | lst ds =>
      simp only [items, Option.some.injEq] at e
      subst e
      simp only [RelS, RelSb, Rp] at r
      obtain ⟨a, vs, rfl, _, h, r⟩ := r
      exact ⟨a, vs, rfl, .inl h, RelLb.ofV r⟩
    | tup ds =>
      simp only [items, Option.some.injEq] at e
      subst e
      obtain ⟨a, vs, rfl, h, r⟩ := Rp.sqT r
      exact ⟨a, vs, rfl, .inr h, RelLb.ofV r⟩
    | _ => simp only [items] at e; cases e
  | r n =>
    simp only [items] at e
    split at e
    · rename_i ys e1
      cases e
      obtain ⟨rfl, _⟩ := r
      obtain ⟨h, h1, vs, rfl, h2⟩ := R.ob n _ e1
      exact ⟨_, vs, rfl, .inl h1, h2.up (lt_of_get e1)⟩
    · cases e
end
end Sw

set_option linter.all false
set_option maxRecDepth 100000
set_option maxHeartbeats 1000000
namespace Sw
open PySem L2 PySem.Spec PyProof.Rows
section
variable {c : Ct} {g : Gh} {st : Store} {H : Hp} {b : Nat}
theorem atI_rel {xs : List S} {vs : List V} {k : Int} {s : S} (r : RelLb c g st H b xs vs) (e : atI xs k = some s) : ∃ v, atI vs k = some v ∧ RelSb c g st H b s v := by
  unfold atI at e ⊢
  rw [← r.length]
  cases h : ixN xs.length k with
  | none => rw [h] at e; cases e
  | some j =>
    rw [h] at e
    obtain ⟨v, h1, h2⟩ := r.get (i := j) (by simpa using e)
    exact ⟨v, by simpa using h1, h2⟩
theorem atI_rp {Y : Addr → Prop} {ds : List D} {vs : List V} {k : Int} {d : D} (r : RpL c Y H ds vs) (e : atI ds k = some d) : ∃ v, atI vs k = some v ∧ Rp c Y H d v := by
  unfold atI at e ⊢
  rw [← r.length]
  cases h : ixN ds.length k with
  | none => rw [h] at e; cases e
  | some j =>
    rw [h] at e
    obtain ⟨v, h1, h2⟩ := r.get (i := j) (by simpa using e)
    exact ⟨v, by simpa using h1, h2⟩
theorem strOk_one {z : Str} (h : PyData.strOk z = true) {k : Int} {x : Nat} (e : atI z.cps.toList k = some x) : PyData.strOk ⟨#[x]⟩ = true := by
  obtain ⟨j, _, h2, _⟩ := atI_get e
  unfold PyData.strOk at h ⊢
  rw [Array.all_eq_true'] at h
  have := h x (by rw [← Array.mem_toList_iff]; exact List.mem_of_getElem? h2)
  simpa using this
theorem one_le : (1 : Nat) ≤ sizeLine := by rw [sizeLine_eq]; decide
theorem key_beq {a k : D} {ka : Key} (ha : keyD a = some ka) (h : a.beq k = true) : keyD k = some ka := by
  cases a with
  | int i => cases k with
    | int j => simp only [D.beq, beq_iff_eq] at h; rw [← h]; exact ha
    | _ => simp [D.beq] at h
  | str i => cases k with
    | str j => simp only [D.beq, beq_iff_eq] at h; rw [← h]; exact ha
    | _ => simp [D.beq] at h
  | _ => simp [keyD] at ha
theorem key_beq_ne {a k : D} {ka kk : Key} (ha : keyD a = some ka) (hk : keyD k = some kk) (h : a.beq k = false) : ka ≠ kk := by
  rintro rfl
  cases a with
  | int i => cases k with
    | int j => simp only [keyD, Option.some.injEq] at ha hk; rw [← hk] at ha; cases ha; simp [D.beq] at h
    | str j => simp only [keyD, Option.some.injEq] at ha hk; rw [← hk] at ha; cases ha
    | _ => simp [keyD] at hk
  | str i => cases k with
    | str j => simp only [keyD, Option.some.injEq] at ha hk; rw [← hk] at ha; cases ha; simp [D.beq] at h
    | int j => simp only [keyD, Option.some.injEq] at ha hk; rw [← hk] at ha; cases ha
    | _ => simp [keyD] at hk
  | _ => simp [keyD] at ha
theorem keysD_cons {d : D} {r : List D} {kk : List Key} (h : keysD (d :: r) = some kk) : ∃ k ks, keyD d = some k ∧ keysD r = some ks ∧ kk = k :: ks := by
  simp only [keysD, Option.bind_eq_some_iff, Option.map_eq_some_iff] at h
  obtain ⟨k, h1, ks, h2, rfl⟩ := h
  exact ⟨k, ks, h1, h2, rfl⟩
theorem keyAt_some {k : D} : ∀ {ks : List D} {kk : List Key} {vs : List V} {j : Nat}, keysD ks = some kk → keyAt k ks = some j → kk.length = vs.length → ∃ key v, keyD k = some key ∧ vs[j]? = some v ∧ kk[j]? = some key ∧ valV (kk.zip vs) key = some v
  | [], _, _, _, _, h, _ => by cases h
  | d :: r, kk, vs, j, h, e, hl => by
    obtain ⟨key, ks, h1, h2, rfl⟩ := keysD_cons h
    cases vs with
    | nil => cases hl
    | cons v vs =>
      simp only [keyAt] at e
      split at e
      · rename_i hb
        cases e
        exact ⟨key, v, key_beq h1 hb, rfl, rfl, valV_pos rfl⟩
      · rename_i hb
        simp only [Option.map_eq_some_iff] at e
        obtain ⟨j', e', rfl⟩ := e
        obtain ⟨key', v', a, b, c, d⟩ := keyAt_some h2 e' (Nat.succ.inj hl)
        refine ⟨key', v', a, by simpa using b, by simpa using c, ?_⟩
        rw [List.zip_cons_cons, valV_neg (key_beq_ne h1 a (Bool.not_eq_true _ ▸ hb))]
        exact d
theorem keyAt_none {k : D} {key : Key} (hk : keyD k = some key) : ∀ {ks : List D} {kk : List Key}, keysD ks = some kk → keyAt k ks = none → key ∉ kk
  | [], _, h, _ => by cases h; simp
  | d :: r, kk, h, e => by
    obtain ⟨key', ks, h1, h2, rfl⟩ := keysD_cons h
    simp only [keyAt] at e
    split at e
    · cases e
    · rename_i hb
      simp only [Option.map_eq_none_iff] at e
      simp only [List.mem_cons, not_or]
      exact ⟨fun z => key_beq_ne h1 hk (Bool.not_eq_true _ ▸ hb) z.symm, keyAt_none hk h2 e⟩
theorem keysD_length : ∀ {ks : List D} {kk : List Key}, keysD ks = some kk → ks.length = kk.length
  | [], _, h => by cases h; rfl
  | d :: r, kk, h => by
    obtain ⟨key', ks, h1, h2, rfl⟩ := keysD_cons h
    exact congrArg (· + 1) (keysD_length h2)
theorem keyD_rp {Y : Addr → Prop} {k : D} {key : Key} {v : V} (h : keyD k = some key) (r : Rp c Y H k v) : v = kV key := by
  cases k with
  | int i => simp only [keyD, Option.some.injEq] at h; simp only [Rp] at r; rw [← h, r]; rfl
  | str i => simp only [keyD, Option.some.injEq] at h; simp only [Rp] at r; rw [← h, r.1]; rfl
  | _ => simp [keyD] at h
end
def rIxs (c : Ct) (W : XK) : R2 := fun x y H Q => ∃ g st a b, RelSt c g st H ∧ RelS c g st H a x ∧ RelS c g st H b y ∧ PostG c W g st H (MS c) (need (ixSem a b st) st) Q
section
variable {X : Cx} {c : Ct} {W : XK}
theorem ix_dictK (hu : X.A.units + 1 < cLine) : IxR X (fun x y H Q => ∃ a kvs k v, x = .ref a ∧ y = kV k ∧ H a = some (.dK kvs) ∧ valV kvs k = some v ∧ Q v H) := by
  intro value slice pins s σ H x y v u Q I rx ry h hs
  obtain ⟨a, kvs, k, z, rfl, rfl, ha, hv, q⟩ := h
  cases rx
  have gd : DGet H a (kV k) (some z) := by rw [← hv]; exact DGet.k ha
  exact tail_any (dict_typeIs I gd) PySem.F.slot_dict_getitem.lookup (d_getItem hu I gd ry fun w' s3 I3 rw' => ⟨z, H, I3, rw', q⟩) hs
theorem o_ix (hK : X.K = c.K) (hu : X.A.units + 1 < cLine) : IxR X (rIxs c W) := by
  intro value slice pins s σ H x y v u Q I rx ry h hs
  obtain ⟨g, st, a, b, R, ra, rb, p⟩ := h
  cases e : ixSem a b st with
  | none => rw [e] at p; exact p.elim
  | some s' =>
    rw [e] at p
    replace p : PostG c W g st H (MS c) (.ok s' st) Q := p
    unfold ixSem at e
    split at e
    · simp only [Option.map_eq_some_iff] at e
      obtain ⟨d, e, rfl⟩ := e
      obtain ⟨l, vs, rfl, hl, r⟩ := Rp.sqT ra
      simp only [RelS, RelSb, Rp] at rb
      obtain ⟨z, hz, rz⟩ := atI_rp r e
      exact ix_tup value slice pins s σ H _ _ v u Q I rx ry ⟨l, vs, _, z, rfl, rb, by rw [hK]; exact hl, hz, p.now R rz⟩ hs
    · simp only [Option.map_eq_some_iff] at e
      obtain ⟨d, e, rfl⟩ := e
      simp only [RelS, RelSb, Rp] at ra rb
      obtain ⟨l, vs, rfl, _, hl, r⟩ := ra
      obtain ⟨z, hz, rz⟩ := atI_rp r e
      exact ix_list value slice pins s σ H _ _ v u Q I rx ry ⟨l, vs, _, z, rfl, rb, .of hl, hz, p.now R rz⟩ hs
    · simp only [Option.map_eq_some_iff] at e
      obtain ⟨d, e, rfl⟩ := e
      simp only [RelS, RelSb, Rp] at ra rb
      exact ix_str value slice pins s σ H _ _ v u Q I rx ry ⟨_, _, d, ra.1, rb, ra.2.1, e, p.now R (by simp only [RelSb, Rp]; exact ⟨trivial, one_le, strOk_one ra.2.2 e⟩)⟩ hs
    · simp only [Option.bind_eq_some_iff] at e
      obtain ⟨j, e2, e3⟩ := e
      simp only [Option.map_eq_some_iff] at e3
      obtain ⟨d, e3, rfl⟩ := e3
      simp only [RelS, RelSb, Rp] at ra
      obtain ⟨a0, kk, us, rfl, _, h1, hk, hl, nd, h2⟩ := ra
      obtain ⟨key, z, k1, k2, k3, k4⟩ := keyAt_some hk e2 hl
      obtain ⟨z', hz, rz⟩ := RpL.get h2 e3
      rw [k2] at hz
      cases hz
      exact ix_dictK hu value slice pins s σ H _ _ v u Q I rx ry ⟨_, _, key, z, rfl, keyD_rp k1 rb, h1, k4, p.now R rz⟩ hs
    · split at e
      · rename_i xs e1
        split at e
        · obtain ⟨rfl, hn⟩ := ra
          obtain ⟨h, h1, vs, rfl, h2⟩ := R.ob _ _ e1
          simp only [RelS, RelSb, Rp] at rb
          obtain ⟨z, hz, rz⟩ := atI_rel h2 e
          exact ix_list value slice pins s σ H _ _ v u Q I rx ry ⟨_, vs, _, z, rfl, rb, .of h1, hz, p.now R (rz.up (lt_of_get e1))⟩ hs
        · cases e
      · rename_i k _ ks vs e1
        simp only [Option.bind_eq_some_iff] at e
        obtain ⟨j, e2, e3⟩ := e
        obtain ⟨rfl, hn⟩ := ra
        obtain ⟨h, h1, kk, us, hk, h2, hl, nd, rfl⟩ := R.ob _ _ e1
        obtain ⟨key, z, k1, k2, k3, k4⟩ := keyAt_some hk e2 hl
        obtain ⟨z', hz, rz⟩ := h2.get e3
        rw [k2] at hz
        cases hz
        exact ix_dictK hu value slice pins s σ H _ _ v u Q I rx ry ⟨_, _, key, z, rfl, keyD_rp k1 rb, h1, k4, p.now R (rz.up (lt_of_get e1))⟩ hs
      · cases e
    · cases e
theorem RpL.cut {Y : Addr → Prop} {H : Hp} {ds : List D} {vs : List V} (r : RpL c Y H ds vs) (lo hi : Option Int) : RpL c Y H (cutD ds lo hi) (cutV vs lo hi) := by
  unfold cutD cutV
  rw [r.length]
  exact (r.drop _).take _
theorem cutD_all {α : Type} (xs : List α) {lo hi : Option Int} (h : HT.sIx xs.length 0 lo = 0 ∧ HT.sIx xs.length xs.length hi = xs.length) : cutD xs lo hi = xs := by
  unfold cutD
  rw [h.1, h.2]
  simp
theorem strOk_cut {z : Str} (h : PyData.strOk z = true) (lo hi : Option Int) : PyData.strOk ⟨(cutD z.cps.toList lo hi).toArray⟩ = true := by
  unfold PyData.strOk at h ⊢
  rw [Array.all_eq_true'] at h ⊢
  intro x hx
  refine h x ?_
  have hx : x ∈ cutD z.cps.toList lo hi := by simpa using hx
  unfold cutD at hx
  rw [← Array.mem_toList_iff]
  exact List.mem_of_mem_drop (List.mem_of_mem_take hx)
theorem len_cut (z : Str) (lo hi : Option Int) : (⟨(cutD z.cps.toList lo hi).toArray⟩ : Str).length ≤ z.length := by
  show (cutD z.cps.toList lo hi).toArray.size ≤ z.cps.size
  unfold cutD
  simp only [List.size_toArray, List.length_take, List.length_drop, Array.length_toList]
  omega
def rSlc (c : Ct) (W : XK) : V → Option Int → Option Int → Hp → VK → Prop := fun x lo hi H Q => ∃ g st a, RelSt c g st H ∧ RelS c g st H a x ∧ PostG c W g st H (MS c) (need (slcSem a lo hi st) st) Q
theorem o_slc (hK : X.K = c.K) : SlR X (rSlc c W) := by
  intro pins s σ H x v vl vu lo hi sl Q I rx hs pl pu h
  obtain ⟨g, st, a, R, ra, p⟩ := h
  cases e : slcSem a lo hi st with
  | none => rw [e] at p; exact p.elim
  | some s' =>
    rw [e] at p
    replace p : PostG c W g st H (MS c) (.ok s' st) Q := p
    unfold slcSem at e
    simp only [Option.bind_eq_some_iff] at e
    obtain ⟨d, e1, e⟩ := e
    split at e
    · cases e
      obtain rfl := rdD_tup ra e1
      obtain ⟨l, vs, rfl, hl, r⟩ := Rp.sqT ra
      refine sl_tupA pins s σ H _ v vl vu lo hi sl Q I rx hs pl pu ⟨l, vs, rfl, by rw [hK]; exact hl, fun hw => ?_, fun hw q hq => ?_⟩
      · rw [← r.length] at hw
        rw [cutD_all _ hw] at p
        exact p.now R ra
      · exact p.new R hq (Rp.newTup R hq (r.cut lo hi))
    · cases e
      obtain ⟨l, vs, rfl, hl, r⟩ := rdD_lst R ra e1
      refine sl_list pins s σ H _ v vl vu lo hi sl Q I rx hs pl pu ⟨l, vs, rfl, .of hl, fun q hq => ?_⟩
      exact p.new R hq (Rp.newLst R hq (r.cut lo hi))
    · cases e
      obtain rfl := rdD_str e1
      simp only [RelS, RelSb, Rp] at ra
      refine sl_str pins s σ H _ v vl vu lo hi sl Q I rx hs pl pu ⟨_, ra.1, ra.2.1, ?_⟩
      refine p.now R ?_
      simp only [RelSb, Rp]
      exact ⟨rfl, Nat.le_trans (len_cut _ lo hi) ra.2.1, strOk_cut ra.2.2 lo hi⟩
    · cases e
def rBl (c : Ct) (W : XK) (b : Bl) : List V → Hp → VK → Prop := fun xs H Q => ∃ g st as, RelSt c g st H ∧ RelL c g st H as xs ∧ PostG c W g st H (MS c) (need (blSem b as st) st) Q
def Bl.val : Bl → Value
  | .len => .builtin "len" | .tuple => .type "tuple" | .all => .builtin "all" | .any => .builtin "any" | .sum => .builtin "sum" | .abs => .builtin "abs"
  | .int => .type "int" | .str => .type "str" | .min => .builtin "min" | .max => .builtin "max" | .gcd => .builtin "math.gcd"
theorem relL_one {g : Gh} {st : Store} {H : Hp} {x : S} {xs : List V} (r : RelL c g st H [x] xs) : ∃ v, xs = [v] ∧ RelS c g st H x v := by
  match xs, r with
  | [v], r => exact ⟨v, rfl, r.1⟩
  | _ :: _ :: _, r => exact r.2.elim
theorem relL_two {g : Gh} {st : Store} {H : Hp} {x y : S} {xs : List V} (r : RelL c g st H [x, y] xs) : ∃ v u, xs = [v, u] ∧ RelS c g st H x v ∧ RelS c g st H y u := by
  match xs, r with
  | [v, u], r => exact ⟨v, u, rfl, r.1, r.2.1⟩
  | [_], r => exact r.2.elim
  | _ :: _ :: _ :: _, r => exact r.2.2.elim
theorem allBl_rp {Y : Addr → Prop} {H : Hp} : ∀ {ds : List D} {vs : List V} {bs : List Bool}, allBl ds = some bs → RpL c Y H ds vs → vs = bs.map V.bl
  | [], [], _, e, _ => by cases e; rfl
  | .bl b :: r, v :: vs, bs, e, h => by
    simp only [allBl, Option.map_eq_some_iff] at e
    obtain ⟨bs', e, rfl⟩ := e
    simp only [RpL, Rp] at h
    rw [h.1, allBl_rp e h.2]
    rfl
  | [], _ :: _, _, _, h | .bl _ :: _, [], _, _, h => by simp only [RpL] at h
theorem allInt_rp {Y : Addr → Prop} {H : Hp} : ∀ {ds : List D} {vs : List V} {bs : List Int}, allInt ds = some bs → RpL c Y H ds vs → vs = bs.map V.int
  | [], [], _, e, _ => by cases e; rfl
  | .int b :: r, v :: vs, bs, e, h => by
    simp only [allInt, Option.map_eq_some_iff] at e
    obtain ⟨bs', e, rfl⟩ := e
    simp only [RpL, Rp] at h
    rw [h.1, allInt_rp e h.2]
    rfl
  | [], _ :: _, _, _, h | .int _ :: _, [], _, _, h => by simp only [RpL] at h
theorem o_bl (hK : X.K = c.K) (hc : X.calm = true) (b : Bl) : CallR X b.val (rBl c W b) := by
  intro pins s σ H xs us Q I r h
  obtain ⟨g, st, as, R, ra, p⟩ := h
  cases e : blSem b as st with
  | none => rw [e] at p; exact p.elim
  | some s' =>
    rw [e] at p
    replace p : PostG c W g st H (MS c) (.ok s' st) Q := p
    unfold blSem at e
    split at e
    · rename_i x
      obtain ⟨v, rfl, rx⟩ := relL_one ra
      split at e
      · cases e
        simp only [RelS, RelSb, Rp] at rx
        obtain ⟨rfl, h1, h2⟩ := rx
        exact call_len pins s σ H _ us Q I r ⟨_, _, rfl, ⟨h1, rfl⟩, p.now R (by simp only [RelSb, Rp])⟩
      · cases e
        simp only [RelS, RelSb, Rp] at rx
        obtain ⟨a, rfl, h1⟩ := rx
        exact call_len pins s σ H _ us Q I r ⟨_, _, rfl, .inl ⟨_, by rw [hK]; exact h1.sql, rfl⟩, p.now R (by simp only [RelSb, Rp, List.length_map])⟩
      · simp only [Option.map_eq_some_iff] at e
        obtain ⟨ys, e, rfl⟩ := e
        obtain ⟨a, vs, rfl, h1, r1⟩ := items_lst R rx e
        refine call_len pins s σ H _ us Q I r ⟨_, vs.length, rfl, ?_, p.now R (by simp only [RelSb, Rp]; rw [r1.length])⟩
        rcases h1 with h1 | h1
        · exact .inl ⟨vs, .of h1, rfl⟩
        · exact .inr ⟨vs, by rw [hK]; exact h1, rfl⟩
    · rename_i x
      obtain ⟨v, rfl, rx⟩ := relL_one ra
      simp only [Option.bind_eq_some_iff] at e
      obtain ⟨d, e1, e⟩ := e
      split at e
      · cases e
        obtain ⟨a, vs, rfl, h1, r1⟩ := rdD_lst R rx e1
        exact call_tuple_of pins s σ H _ us Q I r ⟨a, vs, rfl, .inl ⟨.of h1, fun l hl => p.new R hl (Rp.newTup R hl r1)⟩⟩
      · cases e
        obtain rfl := rdD_tup rx e1
        obtain ⟨a, vs, rfl, h1, r1⟩ := Rp.sqT rx
        exact call_tuple_of pins s σ H _ us Q I r ⟨a, vs, rfl, .inr ⟨by rw [hK]; exact h1, p.now R rx⟩⟩
      · cases e
    · rename_i x
      obtain ⟨v, rfl, rx⟩ := relL_one ra
      simp only [Option.bind_eq_some_iff] at e
      obtain ⟨d, e1, e⟩ := e
      split at e
      · simp only [Option.map_eq_some_iff] at e
        obtain ⟨bs, e, rfl⟩ := e
        obtain ⟨a, vs, rfl, h1, r1⟩ := rdD_lst R rx e1
        have e2 := allBl_rp e r1
        subst e2
        exact cr_all hc pins s σ H _ us Q I r ⟨a, bs, rfl, .of h1, p.now R (by simp only [RelSb, Rp])⟩
      · cases e
    · rename_i x
      obtain ⟨v, rfl, rx⟩ := relL_one ra
      simp only [Option.bind_eq_some_iff] at e
      obtain ⟨d, e1, e⟩ := e
      split at e
      · simp only [Option.map_eq_some_iff] at e
        obtain ⟨bs, e, rfl⟩ := e
        obtain ⟨a, vs, rfl, h1, r1⟩ := rdD_lst R rx e1
        have e2 := allBl_rp e r1
        subst e2
        exact cr_any hc pins s σ H _ us Q I r ⟨a, bs, rfl, .of h1, p.now R (by simp only [RelSb, Rp])⟩
      · cases e
    · rename_i x
      obtain ⟨v, rfl, rx⟩ := relL_one ra
      simp only [Option.bind_eq_some_iff] at e
      obtain ⟨d, e1, e⟩ := e
      split at e
      · simp only [Option.map_eq_some_iff] at e
        obtain ⟨bs, e, rfl⟩ := e
        obtain ⟨a, vs, rfl, h1, r1⟩ := rdD_lst R rx e1
        have e2 := allInt_rp e r1
        subst e2
        exact cr_sum hc pins s σ H _ us Q I r ⟨a, bs, rfl, .of h1, p.now R (by simp only [RelSb, Rp])⟩
      · cases e
    · cases e
      obtain ⟨v, rfl, rx⟩ := relL_one ra
      simp only [RelS, RelSb, Rp] at rx
      subst rx
      exact call_abs pins s σ H _ us Q I r ⟨_, rfl, p.now R (by simp only [RelSb, Rp])⟩
    · cases e
      obtain ⟨v, rfl, rx⟩ := relL_one ra
      simp only [RelS, RelSb, Rp] at rx
      subst rx
      exact call_int1 pins s σ H _ us Q I r (.inl ⟨_, rfl, p.now R (by simp only [RelSb, Rp])⟩)
    · cases e
      obtain ⟨v, u, rfl, rx, ry⟩ := relL_two ra
      simp only [RelS, RelSb, Rp] at rx ry
      subst rx ry
      exact call_min2 hc pins s σ H _ us Q I r ⟨_, _, rfl, p.now R (by simp only [RelSb, Rp])⟩
    · cases e
      obtain ⟨v, u, rfl, rx, ry⟩ := relL_two ra
      simp only [RelS, RelSb, Rp] at rx ry
      subst rx ry
      exact call_max2 hc pins s σ H _ us Q I r ⟨_, _, rfl, p.now R (by simp only [RelSb, Rp])⟩
    · cases e
      obtain ⟨v, u, rfl, rx, ry⟩ := relL_two ra
      simp only [RelS, RelSb, Rp] at rx ry
      subst rx ry
      exact cr_gcd pins s σ H _ us Q I r ⟨_, _, rfl, p.now R (by simp only [RelSb, Rp])⟩
    · cases e
end
end Sw

set_option linter.all false
set_option maxRecDepth 100000
set_option maxHeartbeats 1000000
namespace Sw
open PySem L2 PySem.Spec PyProof.Rows
def Ty.v (c : Ct) : Ty → V
  | .int => .ty "int" | .bool => .ty "bool" | .str => .ty "str" | .tuple => .ty "tuple" | .list => .ty "list" | .dict => .ty "dict"
  | .cls i => .ref (c.cad i)
def Ty.u (c : Ct) : Ty → Value
  | .int => .type "int" | .bool => .type "bool" | .str => .type "str" | .tuple => .type "tuple" | .list => .type "list" | .dict => .type "dict"
  | .cls i => .ref (c.cad i)
def Ty.plain : Ty → Bool
  | .cls _ => false
  | _ => true
theorem Ty.clsV (c : Ct) (t : Ty) : ClsV (t.v c) (t.u c) := by
  cases t with
  | cls i => exact .own _
  | _ => exact .ty _
def Ty.s : Ty → String
  | .int => "int" | .bool => "bool" | .str => "str" | .tuple => "tuple" | .list => "list" | .dict => "dict" | .cls _ => ""
theorem Ty.us (c : Ct) {t : Ty} (h : t.plain = true) : t.u c = .type t.s := by
  cases t <;> first | rfl | exact Bool.noConfusion h
theorem kit_plain (c : Ct) (u t : Ty) (hu : u.plain = true) (ht : t.plain = true) : PySem.W.kitOne c.K (u.u c) (t.u c) = some (tyFits u t) := by
  rw [Ty.us c hu, Ty.us c ht]
  refine kit_ty ?_
  cases u <;> first | exact Bool.noConfusion hu | (cases t <;> first | exact Bool.noConfusion ht | decide +kernel)
theorem kit_non (c : Ct) (t : Ty) (ht : t.plain = true) : PySem.W.kitOne c.K (.type "NoneType") (t.u c) = some false := by
  rw [Ty.us c ht]
  refine kit_ty ?_
  cases t <;> first | exact Bool.noConfusion ht | decide +kernel
section
variable {c : Ct} {g : Gh} {st : Store} {H : Hp}
theorem tyOf_ok {x : S} {v : V} {t : Ty} (R : RelSt c g st H) (r : RelS c g st H x v) (e : tyOf x st = some t) (hp : t.plain = true) : TyX c.K H v (t.u c) := by
  cases x with
  | v d =>
    cases d with
    | bl b => simp only [tyOf, Option.some.injEq] at e; subst e; simp only [RelS, RelSb, Rp] at r; subst r; exact .base (.bl b)
    | int b => simp only [tyOf, Option.some.injEq] at e; subst e; simp only [RelS, RelSb, Rp] at r; subst r; exact .base (.int b)
    | str b => simp only [tyOf, Option.some.injEq] at e; subst e; simp only [RelS, RelSb, Rp] at r; obtain ⟨rfl, _⟩ := r; exact .base (.str b)
    | tup ds =>
      simp only [tyOf, Option.some.injEq] at e
      subst e
      simp only [RelS, RelSb, Rp] at r
      obtain ⟨a, vs, rfl, h, _⟩ := r
      rcases h with ⟨_, h⟩ | ⟨o, its, n, h1, h2, _⟩
      · exact .base (.tup h)
      · exact .kTuple h1 h2
    | lst ds =>
      simp only [tyOf, Option.some.injEq] at e
      subst e
      simp only [RelS, RelSb, Rp] at r
      obtain ⟨a, vs, rfl, _, h, _⟩ := r
      exact .base (.lst h)
    | exc _ _ _ => simp only [tyOf, Option.some.injEq] at e; subst e; cases hp
    | dic _ _ =>
      simp only [tyOf, Option.some.injEq] at e
      subst e
      simp only [RelS, RelSb, Rp] at r
      obtain ⟨a, kk, vs, rfl, _, h, _⟩ := r
      exact .base (.dK h)
    | _ => simp [tyOf] at e
  | r n =>
    obtain ⟨rfl, _⟩ := r
    simp only [tyOf] at e
    split at e
    · rename_i xs e1
      cases e
      obtain ⟨h, h1, vs, rfl, h2⟩ := R.ob n _ e1
      exact .base (.lst h1)
    · rename_i ks xs e1
      cases e
      obtain ⟨h, h1, kk, vs, _, _, _, _, rfl⟩ := R.ob n _ e1
      exact .base (.dK h1)
    · cases e
theorem isTy_ok {x : S} {v : V} {t : Ty} {b : Bool} (R : RelSt c g st H) (r : RelS c g st H x v) (e : isTy x st t = some b) (hx : ∀ i fs vs, x ≠ .v (.exc i fs vs)) (hp : t.plain = true) :
    ∃ tv, TyX c.K H v tv ∧ PySem.W.kitOne c.K tv (t.u c) = some b := by
  unfold isTy at e
  split at e
  · cases e
    simp only [RelS, RelSb, Rp] at r
    subst r
    exact ⟨_, .base .non, kit_non c t hp⟩
  · simp only [Option.map_eq_some_iff] at e
    obtain ⟨u, e1, e2⟩ := e
    have hu : u.plain = true := by
      cases u with
      | cls i =>
        exfalso
        cases x with
        | v d => cases d <;> simp [tyOf] at e1 <;> exact hx _ _ _ rfl
        | r n => simp only [tyOf] at e1; split at e1 <;> cases e1
      | _ => rfl
    refine ⟨_, tyOf_ok R r e1 hu, ?_⟩
    rw [kit_plain c u t hu hp]
    exact congrArg some e2
theorem isi_ok {x : S} {v : V} (R : RelSt c g st H) (r : RelS c g st H x v) (hx : ∀ i fs vs, x ≠ .v (.exc i fs vs)) : ∀ {ts : List Ty} {b : Bool}, ts ≠ [] → isiSem x st ts = some b → (∀ t ∈ ts, t.plain = true) →
    ∃ tv, TyX c.K H v tv ∧ PySem.W.kitAny c.K tv (ts.map (Ty.u c)) = some b := by
  intro ts b hne
  -- one class for the value, whatever is asked
  have one : ∀ t : Ty, t.plain = true → ∀ b, isTy x st t = some b → ∃ tv, TyX c.K H v tv ∧ PySem.W.kitOne c.K tv (t.u c) = some b := fun t hp b e => isTy_ok R r e hx hp
  have val : (x = .v .non ∧ TyX c.K H v (.type "NoneType")) ∨ (∃ u, tyOf x st = some u ∧ x ≠ .v .non) ∨ (tyOf x st = none ∧ x ≠ .v .non) := by
    by_cases hn : x = .v .non
    · subst hn
      simp only [RelS, RelSb, Rp] at r
      subst r
      exact .inl ⟨rfl, .base .non⟩
    · cases e : tyOf x st with
      | none => exact .inr (.inr ⟨rfl, hn⟩)
      | some u => exact .inr (.inl ⟨u, rfl, hn⟩)
  rcases val with ⟨rfl, hv⟩ | ⟨u, hu, hn⟩ | ⟨hu, hn⟩
  · intro e hp
    refine ⟨_, hv, ?_⟩
    clear one hne
    induction ts generalizing b with
    | nil => cases e; rfl
    | cons t ts ih =>
      simp only [isiSem, isTy, Option.bind_some] at e
      rw [List.map_cons]
      refine kitAny_cons (kit_non c t (hp t List.mem_cons_self)) (fun _ => ?_) (fun z => by cases z)
      exact ih (by simpa using e) fun t' h => hp t' (List.mem_cons_of_mem _ h)
  · have hup : u.plain = true := by
      cases u with
      | cls i =>
        exfalso
        cases x with
        | v d => cases d <;> simp [tyOf] at hu <;> exact hx _ _ _ rfl
        | r n => simp only [tyOf] at hu; split at hu <;> cases hu
      | _ => rfl
    intro e hp
    refine ⟨_, tyOf_ok R r hu hup, ?_⟩
    clear one hne
    induction ts generalizing b with
    | nil => cases e; rfl
    | cons t ts ih =>
      rw [List.map_cons]
      have e0 : isTy x st t = some (tyFits u t) := by
        unfold isTy
        split
        · exact absurd rfl hn
        · rw [hu]; rfl
      simp only [isiSem, e0, Option.bind_some] at e
      refine kitAny_cons (kit_plain c u t hup (hp t List.mem_cons_self)) (fun z => ?_) (fun z => ?_)
      · rw [z] at e
        exact ih (by simpa using e) fun t' h => hp t' (List.mem_cons_of_mem _ h)
      · rw [z] at e
        simpa using e.symm
  · intro e hp
    exfalso
    cases ts with
    | nil => exact hne rfl
    | cons t ts =>
      have e0 : isTy x st t = none := by
        unfold isTy
        split
        · exact absurd rfl hn
        · rw [hu]; rfl
      simp only [isiSem, e0, Option.bind_none] at e
      cases e
end
def Mt.id : Mt → String
  | .append => "list.append" | .pop => "list.pop" | .insert => "list.insert" | .extend => "list.extend" | .index => "list.index" | .get => "dict.get" | .join => "str.join" | .upper => "str.upper"
def rMt (c : Ct) (W : XK) (m : Mt) : V → List V → Hp → VK → Prop := fun x xs H Q => ∃ g st a as, RelSt c g st H ∧ RelS c g st H a x ∧ RelL c g st H as xs ∧ PostG c W g st H (MS c) (mthSem m a as st) Q
section
variable {X : Cx} {c : Ct} {W : XK}
theorem ixN_seqI {n : Nat} {i : Int} {k : Nat} (h : ixN n i = some k) (hn : n ≤ sizeLine) : seqIndex? i n = some k ∧ k < n ∧ -(2 ^ 63) ≤ i ∧ i < 2 ^ 63 := by
  obtain ⟨h1, h2, h3, h4⟩ := ixN_seq h
  have := sizeLine_eq
  exact ⟨h1, h2, by omega, by omega⟩
theorem lst_len {pins : List (Addr × Obj)} {σ : L2.St} {H : Hp} {s : Shared} {a : Addr} {vs : List V} (I : L2.Inv X pins σ H s) (h : H a = some (.lst vs)) : vs.length ≤ sizeLine := (I.hok a _ h).1
theorem allStr_rp {Y : Addr → Prop} {H : Hp} : ∀ {ds : List D} {vs : List V} {bs : List Str}, allStr ds = some bs → RpL c Y H ds vs → vs = bs.map V.str
  | [], [], bs, e, _ => by cases e; rfl
  | .str b :: ds, v :: vs, bs, e, h => by
    simp only [allStr, Option.map_eq_some_iff] at e
    obtain ⟨cs, e1, rfl⟩ := e
    simp only [RpL, Rp] at h
    rw [List.map_cons, ← allStr_rp e1 h.2, h.1.1]
  | [], _ :: _, _, _, h => by simp only [RpL] at h
  | .non :: _, _, _, e, _ | .bl _ :: _, _, _, e, _ | .int _ :: _, _, _, e, _ | .tup _ :: _, _, _, e, _ | .lst _ :: _, _, _, e, _ | .dic _ _ :: _, _, _, e, _ | .scr _ :: _, _, _, e, _ | .fn _ :: _, _, _, e, _ | .exc _ _ _ :: _, _, _, e, _ => by simp [allStr] at e
  | .str _ :: _, [], _, _, h => by simp only [RpL] at h
theorem find_pd {d : D} : ∀ {ds : List D} {j : Nat}, ds.findIdx? (fun z => z.eqv d) = some j → ∃ z, (D.pdAll ds)[j]? = some z ∧ PyData.eqv z d.pd = true ∧ ∀ (m : Nat) (z' : PyData), m < j → (D.pdAll ds)[m]? = some z' → PyData.eqv z' d.pd = false
  | [], j, h => by simp at h
  | x :: ds, j, h => by
    rw [List.findIdx?_cons] at h
    split at h
    · rename_i hx
      cases h
      exact ⟨x.pd, by simp only [D.pdAll] <;> rfl, hx, fun m z' hm => absurd hm (Nat.not_lt_zero _)⟩
    · rename_i hx
      simp only [Option.map_eq_some_iff] at h
      obtain ⟨k, h1, rfl⟩ := h
      obtain ⟨z, a, b, e⟩ := find_pd h1
      refine ⟨z, by simp only [D.pdAll]; simpa using a, b, fun m z' hm hz => ?_⟩
      cases m with
      | zero =>
        simp only [D.pdAll] at hz
        have : x.pd = z' := by simpa using hz
        rw [← this]
        exact Bool.eq_false_iff.mpr hx
      | succ m =>
        simp only [D.pdAll] at hz
        exact e m z' (by omega) (by simpa using hz)
theorem o_mt (hK : X.K = c.K) (hu : X.A.units + 65 < cLine) (hc : X.calm = true) (m : Mt) : MtM X m.id (rMt c W m) := by
  intro pins s σ H x xs v us Q I rx rxs h
  obtain ⟨g, st, a, as, R, ra, ras, p⟩ := h
  unfold mthSem at p
  split at p
  · rename_i n d
    split at p
    · rename_i ys e1
      split at p
      · rename_i hl
        obtain ⟨rfl, hn⟩ := ra
        obtain ⟨u, rfl, ru⟩ := relL_one ras
        obtain ⟨h, h1, vs, rfl, h2⟩ := R.ob _ _ e1
        have hb : RelSb c g st H n (.v d) u := ru
        refine mt_append pins s σ H _ _ v us Q I rx rxs ⟨_, vs, u, rfl, rfl, h1, by rw [← h2.length]; exact hl, ?_⟩
        obtain ⟨R', K'⟩ := R.put (o' := .lst (ys ++ [.v d])) (h' := .lst (vs ++ [u])) e1 ⟨_, rfl, h2.app ⟨hb, trivial⟩⟩
        exact p _ _ _ R' K' (by simp only [RelSb, Rp])
      · exact p.elim
    · exact p.elim
  · rename_i n
    split at p
    · rename_i ys e1
      split at p
      · rename_i z hz
        obtain ⟨rfl, hn⟩ := ra
        have hxs : xs = [] := by
          match xs, ras with
          | [], _ => rfl
        subst hxs
        obtain ⟨h, h1, vs, rfl, h2⟩ := R.ob _ _ e1
        obtain ⟨y, hy, ry⟩ := h2.get hz
        refine mt_pop pins s σ H _ _ v us Q I rx rxs ⟨_, vs, y, rfl, rfl, h1, by rw [← h2.length]; exact hy, ?_⟩
        obtain ⟨R', K'⟩ := R.put (o' := .lst ys.dropLast) (h' := .lst vs.dropLast) e1 ⟨_, rfl, h2.dropLast⟩
        exact p _ _ _ R' K' (RelSb.move K' (lt_of_get e1) (by rw [List.length_set]; exact lt_of_get e1) ry)
      · exact p.elim
    · exact p.elim
  · rename_i n i
    split at p
    · rename_i ys e1
      split at p
      · rename_i k hk
        split at p
        · rename_i z hz
          obtain ⟨rfl, hn⟩ := ra
          obtain ⟨u, rfl, ru⟩ := relL_one ras
          simp only [RelS, RelSb, Rp] at ru
          subst ru
          obtain ⟨h, h1, vs, rfl, h2⟩ := R.ob _ _ e1
          obtain ⟨y, hy, ry⟩ := h2.get hz
          have hl := lst_len I h1
          rw [h2.length] at hk
          obtain ⟨k1, k2, k3, k4⟩ := ixN_seqI hk hl
          refine mt_popAt pins s σ H _ _ v us Q I rx rxs ⟨_, vs, i, k, y, rfl, rfl, h1, k3, k4, k1, hy, ?_⟩
          obtain ⟨R', K'⟩ := R.put (o' := .lst (ys.eraseIdx k)) (h' := .lst (vs.eraseIdx k)) e1 ⟨_, rfl, h2.eraseIdx k⟩
          exact p _ _ _ R' K' (RelSb.move K' (lt_of_get e1) (by rw [List.length_set]; exact lt_of_get e1) ry)
        · exact p.elim
      · exact p.elim
    · exact p.elim
  · rename_i n d
    split at p
    · rename_i ys ds e1 e2
      split at p
      · rename_i hl
        obtain ⟨rfl, hn⟩ := ra
        obtain ⟨u, rfl, ru⟩ := relL_one ras
        obtain ⟨h, h1, vs, rfl, h2⟩ := R.ob _ _ e1
        obtain ⟨b, ws, rfl, h3, h4⟩ := rdD_lst R ru e2
        refine mt_extend pins s σ H _ _ v us Q I rx rxs ⟨_, b, vs, ws, rfl, rfl, h1, h3, by rw [← h2.length, ← h4.length]; exact hl, ?_⟩
        obtain ⟨R', K'⟩ := R.put (o' := .lst (ys ++ ds.map .v)) (h' := .lst (vs ++ ws)) e1 ⟨_, rfl, h2.app (RelLb.ofV h4)⟩
        exact p _ _ _ R' K' (by simp only [RelSb, Rp])
      · exact p.elim
    · exact p.elim
  · rename_i n i d
    split at p
    · rename_i ys e1
      split at p
      · rename_i hl
        obtain ⟨rfl, hn⟩ := ra
        obtain ⟨u1, u2, rfl, ru1, ru2⟩ := relL_two ras
        simp only [RelS, RelSb, Rp] at ru1
        subst ru1
        obtain ⟨h, h1, vs, rfl, h2⟩ := R.ob _ _ e1
        have hb : RelSb c g st H n (.v d) u2 := ru2
        refine mt_insert pins s σ H _ _ v us Q I rx rxs ⟨_, vs, i, u2, rfl, rfl, h1, by rw [← h2.length]; exact hl.1, hl.2.1, hl.2.2, ?_⟩
        obtain ⟨R', K'⟩ := R.put (o' := .lst (ys.take i.toNat ++ [.v d] ++ ys.drop i.toNat)) (h' := .lst (vs.take i.toNat ++ [u2] ++ vs.drop i.toNat)) e1 ⟨_, rfl, RelLb.app (RelLb.app (RelLb.take _ h2) (show RelLb c g st H n [.v d] [u2] from ⟨hb, trivial⟩)) (RelLb.drop _ h2)⟩
        exact p _ _ _ R' K' (by simp only [RelSb, Rp])
      · exact p.elim
    · exact p.elim
  · rename_i a y
    split at p
    · rename_i ds e1
      split at p
      · rename_i ts e2
        split at p
        · rename_i hl
          simp only [RelS, RelSb, Rp] at ra
          obtain ⟨u, rfl, ru⟩ := relL_one ras
          obtain ⟨b, ws, rfl, h3, h4⟩ := rdD_lst R ru e1
          have e3 := allStr_rp e2 h4
          subst e3
          exact mt_join pins s σ H _ _ v us Q I rx rxs ⟨a, b, ts, ra.1, rfl, .inl (.inl (.inl h3)), hl.1, p.now R (by simp only [RelSb, Rp]; exact ⟨trivial, hl.2.1, hl.2.2⟩)⟩
        · exact p.elim
      · exact p.elim
    · exact p.elim
  · rename_i a
    split at p
    · rename_i hl
      simp only [RelS, RelSb, Rp] at ra
      have hxs : xs = [] := by
        match xs, ras with
        | [], _ => rfl
      subst hxs
      exact mt_upper pins s σ H _ _ v us Q I rx rxs ⟨a, ra.1, rfl, hl.1, p.now R (by simp only [RelSb, Rp]; exact ⟨trivial, hl.2.1, hl.2.2⟩)⟩
    · exact p.elim
  · rename_i ds d
    split at p
    · rename_i hd
      split at p
      · rename_i j hj
        obtain ⟨u, rfl, ru⟩ := relL_one ras
        have ra0 := ra
        simp only [RelS, RelSb, Rp] at ra
        obtain ⟨a, vs, rfl, _, _, _⟩ := ra
        obtain ⟨p1, s1⟩ := rdD_dp R ra0 (show rdD (.v (.lst ds)) st = some (.lst ds) from rfl) hd.1
        obtain ⟨p2, s2⟩ := rdD_dp R ru (show rdD (.v d) st = some d from rfl) hd.2
        obtain ⟨z, hz, hzj, hno⟩ := find_pd hj
        have e5 : (D.lst ds).pd = .list (D.pdAll ds) := by simp only [D.pd]
        rw [e5] at p1 s1
        exact mt_indexD hu pins s σ H _ _ v us Q I rx rxs ⟨a, u, d.pd, D.pdAll ds, j, z, rfl, rfl, by rw [hK]; exact p1, by rw [hK]; exact p2, s1, s2, hz, hzj, hno, p.now R (by simp only [RelSb, Rp])⟩
      · exact p.elim
    · exact p.elim
  · rename_i n k d
    split at p
    · rename_i ks ys e1
      split at p
      · rename_i hk
        obtain ⟨key, k1⟩ := Option.isSome_iff_exists.mp hk
        obtain ⟨rfl, hn⟩ := ra
        obtain ⟨u1, u2, rfl, ru1, ru2⟩ := relL_two ras
        obtain ⟨h, h1, kk, vs, hkk, h2, hl, nd, rfl⟩ := R.ob _ _ e1
        have ei := keyD_rp k1 ru1
        subst ei
        cases rx
        cases rxs with
        | cons r1 rr =>
          cases rr with
          | cons r2 rr =>
            cases rr
            have hu2 : X.A.units + 1 < cLine := by omega
            split at p
            · rename_i j hj
              obtain ⟨key', z, k1', k2, k3, k4⟩ := keyAt_some hkk hj hl
              rw [k1] at k1'
              cases k1'
              split at p
              · rename_i s' es
                obtain ⟨z', hz1, hz2⟩ := h2.get es
                rw [k2] at hz1
                cases hz1
                refine d_get2 hu2 I (DGet.k h1) r1 r2 fun w' s2 I2 rw' => ?_
                rw [k4] at rw'
                exact ⟨z, _, I2, rw', p.now R (RelSb.up (lt_of_get e1) hz2)⟩
              · exact p.elim
            · rename_i hj
              have hn' := keyAt_none k1 hkk hj
              have ev : valV (kk.zip vs) key = none := by
                cases q : valV (kk.zip vs) key with
                | none => rfl
                | some w =>
                  exfalso
                  have : ((kk.zip vs).any fun kv => decide (kv.1 = key)) = true := by rw [valV_any, q]; rfl
                  simp only [List.any_eq_true, decide_eq_true_eq] at this
                  obtain ⟨kv, h, rfl⟩ := this
                  exact hn' (List.of_mem_zip h).1
              refine d_get2 hu2 I (DGet.k h1) r1 r2 fun w' s2 I2 rw' => ?_
              rw [ev] at rw'
              exact ⟨u2, _, I2, rw', p.now R ru2⟩
      · exact p.elim
    · exact p.elim
  · exact p.elim
def rSt (c : Ct) (W : XK) : V → V → V → Hp → (Hp → Prop) → Prop := fun o i v H Q => ∃ g st so si se, RelSt c g st H ∧ RelS c g st H so o ∧ RelS c g st H si i ∧ RelS c g st H se v ∧ PostG c W g st H (fun _ _ _ (_ : Unit) (_ : Unit) => True) (setSem so si se st) (fun _ H' => Q H')
theorem zip_set (kk : List Key) (vs : List V) (j : Nat) (key : Key) (v : V) (hj : kk[j]? = some key) (nd : kk.Nodup) (hl : kk.length = vs.length) : putK (kk.zip vs) key v = kk.zip (vs.set j v) := by
  have hv : (valV (kk.zip vs) key).isSome = true := by
    induction kk generalizing vs j with
    | nil => simp at hj
    | cons k kk ih =>
      cases vs with
      | nil => cases hl
      | cons w vs =>
        rw [List.zip_cons_cons]
        by_cases e : k = key
        · rw [valV_pos e]; rfl
        · rw [valV_neg e]
          cases j with
          | zero => simp at hj; exact absurd hj e
          | succ j => exact ih vs j (by simpa using hj) (List.nodup_cons.mp nd).2 (Nat.succ.inj hl)
  unfold putK
  rw [valV_any, if_pos hv]
  clear hv
  induction kk generalizing vs j with
  | nil => simp at hj
  | cons k kk ih =>
    cases vs with
    | nil => cases hl
    | cons w vs =>
      cases j with
      | zero =>
        simp at hj
        subst hj
        simp only [List.zip_cons_cons, List.map_cons, if_true, List.set_cons_zero]
        congr 1
        have hk := (List.nodup_cons.mp nd).1
        rw [List.map_congr_left (g := id), List.map_id]
        intro p hp
        rw [if_neg]
        · rfl
        · rintro rfl
          exact hk (List.of_mem_zip hp).1
      | succ j =>
        have e : k ≠ key := by
          rintro rfl
          exact (List.nodup_cons.mp nd).1 (List.mem_of_getElem? (by simpa using hj))
        simp only [List.zip_cons_cons, List.map_cons, List.set_cons_succ]
        rw [if_neg e, ih vs j (by simpa using hj) (List.nodup_cons.mp nd).2 (Nat.succ.inj hl)]
theorem keysD_snoc {k : D} {key : Key} (hk : keyD k = some key) : ∀ {ks : List D} {kk : List Key}, keysD ks = some kk → keysD (ks ++ [k]) = some (kk ++ [key])
  | [], _, h => by cases h; simp [keysD, hk]
  | d :: r, kk, h => by
    obtain ⟨key', ks, h1, h2, rfl⟩ := keysD_cons h
    simp only [List.cons_append, keysD, h1, keysD_snoc hk h2, Option.bind_some, Option.map_some]
theorem o_set (hu : X.A.units + 1 < cLine) : PSet X (rSt c W) := by
  intro pins s σ H o i v ov iv u Q I ro ri rv h
  obtain ⟨g, st, so, si, se, R, r1, r2, r3, p⟩ := h
  unfold setSem at p
  split at p
  · rename_i n k e
    split at p
    · rename_i xs e1
      split at p
      · rename_i k
        split at p
        · rename_i j hj
          obtain ⟨rfl, hn⟩ := r1
          simp only [RelS, RelSb, Rp] at r2
          subst r2
          obtain ⟨h, h1, vs, rfl, h2⟩ := R.ob _ _ e1
          refine set_list pins s σ H _ _ v ov iv u Q I ro ri rv ⟨_, vs, k, j, rfl, rfl, h1, by rw [← h2.length]; exact hj, ?_⟩
          have hb : RelSb c g st H n (.v e) v := r3
          obtain ⟨R', K'⟩ := R.put (o' := .lst (xs.set j (.v e))) (h' := .lst (vs.set j v)) e1 ⟨_, rfl, RelLb.set hb j h2⟩
          exact p () _ _ R' K' trivial
        · exact p.elim
      · exact p.elim
    · rename_i ks xs e1
      obtain ⟨rfl, hn⟩ := r1
      obtain ⟨h, h1, kk, vs, hk, h2, hl, nd, rfl⟩ := R.ob _ _ e1
      have hb : RelSb c g st H n (.v e) v := r3
      split at p
      · rename_i hz
        obtain ⟨hz, hks⟩ := hz
        obtain ⟨key, k1⟩ := Option.isSome_iff_exists.mp hks
        have ei := keyD_rp k1 r2
        subst ei
        have zl : (kk.zip vs).length < sizeLine := by
          rw [List.length_zip, ← hl, Nat.min_self, ← keysD_length hk]
          exact hz
        cases ro
        split at p
        · rename_i j hj
          obtain ⟨key', z, k1', k2, k3, k4⟩ := keyAt_some hk hj hl
          rw [k1] at k1'
          cases k1'
          obtain ⟨R', K'⟩ := R.put (o' := .dic ks (xs.set j (.v e))) (h' := .dK (putK (kk.zip vs) key v)) e1 ⟨kk, vs.set j v, hk, RelLb.set hb j h2, by rw [List.length_set]; exact hl, nd, by rw [zip_set kk vs j key v k3 nd hl]⟩
          exact d_setItem hu I (DPut.k h1 zl) ri rv fun s' I' => ⟨_, I', p () _ _ R' K' trivial⟩
        · rename_i hj
          have hn' := keyAt_none k1 hk hj
          have e2 : putK (kk.zip vs) key v = (kk ++ [key]).zip (vs ++ [v]) := by
            rw [putK_new]
            · rw [List.zip_append hl]; rfl
            · cases q : valV (kk.zip vs) key with
              | none => rfl
              | some w =>
                exfalso
                have : ((kk.zip vs).any fun kv => decide (kv.1 = key)) = true := by rw [valV_any, q]; rfl
                simp only [List.any_eq_true, decide_eq_true_eq] at this
                obtain ⟨kv, h, rfl⟩ := this
                exact hn' (List.of_mem_zip h).1
          have nd' : (kk ++ [key]).Nodup := by
            rw [List.nodup_append]
            refine ⟨nd, by simp, ?_⟩
            intro a ha b' hb' hab
            simp at hb'
            subst hb'
            exact hn' (hab ▸ ha)
          obtain ⟨R', K'⟩ := R.put (o' := .dic (ks ++ [k]) (xs ++ [.v e])) (h' := .dK (putK (kk.zip vs) key v)) e1 ⟨kk ++ [key], vs ++ [v], keysD_snoc k1 hk, h2.app ⟨hb, trivial⟩, by simp [hl], nd', by rw [e2]⟩
          exact d_setItem hu I (DPut.k h1 zl) ri rv fun s' I' => ⟨_, I', p () _ _ R' K' trivial⟩
      · exact p.elim
    · exact p.elim
  · exact p.elim
end
end Sw

set_option linter.all false
set_option maxRecDepth 100000
set_option maxHeartbeats 1000000
namespace Sw
open PySem L2 PySem.Spec PyProof.Rows
section
variable {X : Cx} {c : Ct} {W : XK} {a b e : Expr} {es : List Expr} {pos : Pos} {fa fb fc : Env → Store → Res S}
theorem need_map {α β : Type} {o : Option α} {f : α → β} {st : Store} : need (o.map f) st = (need o st).bind fun a st' => .ok (f a) st' := by
  cases o <;> rfl
theorem d_var {i : Nat} {x : Str} (hN : X.N[i]? = some x) (hv : Vis X.env.scope x) (hd : (x == ("__debug__" : Str)) = false) (hcd : (x == ("__classdict__" : Str)) = false) :
    PE X (.Name x pos) (RD c W fun ρ st => match ρ[i]? with
      | some (some s) => .ok s st
      | _ => .bad) := by
  refine PE_imp (pe_var hN hv hd hcd) fun σ H Q ⟨g, ρ, st, Rs, Re, p⟩ => ?_
  dsimp only at p
  split at p
  · rename_i s e
    obtain ⟨v, e', r⟩ := Re.at_ i s e
    exact ⟨v, e', p.now Rs r⟩
  · exact p.elim
theorem d_const {e : Expr} {v : V} {d : D} (h : PE X e (tC v)) (r : ∀ Y H, Rp c Y H d v) : PE X e (RD c W fun _ st => .ok (.v d) st) :=
  PE_imp h fun σ H Q ⟨g, ρ, st, Rs, Re, p⟩ => p.now Rs (r _ _)
theorem d_imp {e : Expr} {f f' : Env → Store → Res S} (h : PE X e (RD c W f)) (i : ∀ ρ st, f' ρ st = f ρ st) : PE X e (RD c W f') := by
  have : f' = f := funext fun ρ => funext fun st => i ρ st
  rw [this]
  exact h
theorem d_bop (hK : X.K = c.K) (o : Bop) (ha : PE X a (RD c W fa)) (hb : PE X b (RD c W fb)) :
    PE X (.BinOp a o.op b pos) (RD c W fun ρ st => (fa ρ st).bind fun x st1 => (fb ρ st1).bind fun y st2 => need (bopSem o x y st2) st2) := by
  refine PE_imp (pe_op (op_bop (W := W) hK o) ha hb) fun σ H Q ⟨g, ρ, st, Rs, Re, p⟩ => ?_
  refine RG.bind Rs Re p fun x st1 v H1 g1 Rs Re K m p => ?_
  refine RG.bind Rs Re p fun y st2 u H2 g2 Rs2 Re2 K2 m2 p => ?_
  exact ⟨g2, st2, x, y, Rs2, m.move K2, m2, p⟩
theorem d_neg (ha : PE X a (RD c W fa)) : PE X (.UnaryOp .USub a pos) (RD c W fun ρ st => (fa ρ st).bind fun x st1 => match x with
    | .v (.int i) => .ok (.v (.int (-i))) st1
    | _ => .bad) := by
  refine PE_imp (pe_un un_neg ha) fun σ H Q ⟨g, ρ, st, Rs, Re, p⟩ => ?_
  refine RG.bind Rs Re p fun x st1 v H1 g1 Rs Re K m p => ?_
  split at p
  · simp only [RelS, RelSb, Rp] at m
    exact ⟨_, m, p.now Rs (by simp only [RelSb, Rp])⟩
  · exact p.elim
theorem d_not (ha : PE X a (RD c W fa)) : PE X (.UnaryOp .Not a pos) (RD c W fun ρ st => (fa ρ st).bind fun x st1 => match x with
    | .v (.bl b) => .ok (.v (.bl (!b))) st1
    | _ => .bad) := by
  refine PE_imp (pe_not ha) fun σ H Q ⟨g, ρ, st, Rs, Re, p⟩ => ?_
  refine RG.bind Rs Re p fun x st1 v H1 g1 Rs Re K m p => ?_
  split at p
  · simp only [RelS, RelSb, Rp] at m
    exact ⟨_, m, p.now Rs (by simp only [RelSb, Rp])⟩
  · exact p.elim
theorem d_cmp (hK : X.K = c.K) (hu : X.A.units + 65 < cLine) (o : Cop) (hm : behindInMarks o.op b = false) (ha : PE X a (RD c W fa)) (hb : PE X b (RD c W fb)) :
    PE X (.Compare a [o.op] [b] pos) (RD c W fun ρ st => (fa ρ st).bind fun x st1 => (fb ρ st1).bind fun y st2 => need ((cmpSem o x y st2).map fun k => S.v (.bl k)) st2) := by
  refine PE_imp (pe_cmpR (op_cmp (W := W) hK hu o) ha hb hm) fun σ H Q ⟨g, ρ, st, Rs, Re, p⟩ => ?_
  refine RG.bind Rs Re p fun x st1 v H1 g1 Rs Re K m p => ?_
  refine RG.bind Rs Re p fun y st2 u H2 g2 Rs2 Re2 K2 m2 p => ?_
  refine ⟨g2, st2, x, y, Rs2, m.move K2, m2, ?_⟩
  cases e : cmpSem o x y st2 with
  | none => rw [e] at p; exact p.elim
  | some k =>
    rw [e] at p
    intro k' H' g' R' K' z
    cases z
    exact p (.bl k) H' g' R' K' (by simp only [RelSb, Rp])
theorem t_cmp (hK : X.K = c.K) (hu : X.A.units + 65 < cLine) (o : Cop) (hm : behindInMarks o.op b = false) (ha : PE X a (RD c W fa)) (hb : PE X b (RD c W fb)) :
    PT X (.Compare a [o.op] [b] pos) (RT c W fun ρ st => (fa ρ st).bind fun x st1 => (fb ρ st1).bind fun y st2 => need (cmpSem o x y st2) st2) := by
  refine PT_imp (pt_cmpR (op_cmp (W := W) hK hu o) ha hb hm) fun σ H Q ⟨g, ρ, st, Rs, Re, p⟩ => ?_
  refine RG.bind Rs Re p fun x st1 v H1 g1 Rs Re K m p => ?_
  refine RG.bind Rs Re p fun y st2 u H2 g2 Rs2 Re2 K2 m2 p => ?_
  refine ⟨g2, st2, x, y, Rs2, m.move K2, m2, ?_⟩
  cases e : cmpSem o x y st2 with
  | none => rw [e] at p; exact p.elim
  | some k =>
    rw [e] at p
    intro k' H' g' R' K' z
    cases z
    exact ⟨k, rfl, p k H' g' R' K' rfl⟩
theorem d_chn {cc : Expr} (hK : X.K = c.K) (hu : X.A.units + 65 < cLine) (o o' : Cop) (hm : lastMarks [o.op, o'.op] [b, cc] = false) (ha : PE X a (RD c W fa)) (hb : PE X b (RD c W fb)) (hc : PE X cc (RD c W fc)) :
    PE X (.Compare a [o.op, o'.op] [b, cc] pos) (RD c W fun ρ st => (fa ρ st).bind fun x st1 => (fb ρ st1).bind fun y st2 => (need (cmpSem o x y st2) st2).bind fun k st3 =>
      if k then (fc ρ st3).bind fun z st4 => need ((cmpSem o' y z st4).map fun k => S.v (.bl k)) st4 else .ok (.v (.bl false)) st3) := by
  refine PE_imp (pe_chain (op_cmp (W := W) hK hu o) (op_cmp (W := W) hK hu o') ha hb hc hm) fun σ H Q ⟨g, ρ, st, Rs, Re, p⟩ => ?_
  refine RG.bind Rs Re p fun x st1 v H1 g1 Rs Re K m p => ?_
  refine RG.bind Rs Re p fun y st2 u H2 g2 Rs2 Re2 K2 m2 p => ?_
  refine ⟨g2, st2, x, y, Rs2, m.move K2, m2, ?_⟩
  cases e : cmpSem o x y st2 with
  | none => rw [e] at p; exact p.elim
  | some k =>
    rw [e] at p
    intro k' H' g' R' K' z
    cases z
    refine ⟨k, rfl, ?_⟩
    replace p := PostG.from K' (show PostG c W g2 st2 H2 (MS c) (if k then (fc ρ st2).bind fun z st4 => need ((cmpSem o' y z st4).map fun k => S.v (.bl k)) st4 else .ok (.v (.bl false)) st2) Q from p)
    cases k with
    | false =>
      rw [if_neg Bool.false_ne_true]
      exact p.now R' (by simp only [RelSb, Rp])
    | true =>
      rw [if_pos rfl]
      refine RG.bind R' (Re2.move K') p fun z st4 w H4 g4 Rs4 Re4 K4 m4 p => ?_
      refine ⟨g4, st4, y, z, Rs4, (m2.move K').move K4, m4, ?_⟩
      cases e : cmpSem o' y z st4 with
      | none => rw [e] at p; exact p.elim
      | some k =>
        rw [e] at p
        intro k' H' g' R' K' z
        cases z
        exact p (.bl k) H' g' R' K' (by simp only [RelSb, Rp])
theorem t_chn {cc : Expr} (hK : X.K = c.K) (hu : X.A.units + 65 < cLine) (o o' : Cop) (hm : lastMarks [o.op, o'.op] [b, cc] = false) (ha : PE X a (RD c W fa)) (hb : PE X b (RD c W fb)) (hc : PE X cc (RD c W fc)) :
    PT X (.Compare a [o.op, o'.op] [b, cc] pos) (RT c W fun ρ st => (fa ρ st).bind fun x st1 => (fb ρ st1).bind fun y st2 => (need (cmpSem o x y st2) st2).bind fun k st3 =>
      if k then (fc ρ st3).bind fun z st4 => need (cmpSem o' y z st4) st4 else .ok false st3) := by
  refine PT_imp (pt_chain (op_cmp (W := W) hK hu o) (op_cmp (W := W) hK hu o') ha hb hc hm) fun σ H Q ⟨g, ρ, st, Rs, Re, p⟩ => ?_
  refine RG.bind Rs Re p fun x st1 v H1 g1 Rs Re K m p => ?_
  refine RG.bind Rs Re p fun y st2 u H2 g2 Rs2 Re2 K2 m2 p => ?_
  refine ⟨g2, st2, x, y, Rs2, m.move K2, m2, ?_⟩
  cases e : cmpSem o x y st2 with
  | none => rw [e] at p; exact p.elim
  | some k =>
    rw [e] at p
    intro k' H' g' R' K' z
    cases z
    refine ⟨k, rfl, ?_⟩
    replace p := PostG.from K' (show PostG c W g2 st2 H2 MB (if k then (fc ρ st2).bind fun z st4 => need (cmpSem o' y z st4) st4 else .ok false st2) Q from p)
    cases k with
    | false =>
      rw [if_neg Bool.false_ne_true]
      exact ⟨false, rfl, p.now R' rfl⟩
    | true =>
      rw [if_pos rfl]
      refine RG.bind R' (Re2.move K') p fun z st4 w H4 g4 Rs4 Re4 K4 m4 p => ?_
      refine ⟨g4, st4, y, z, Rs4, (m2.move K').move K4, m4, ?_⟩
      cases e : cmpSem o' y z st4 with
      | none => rw [e] at p; exact p.elim
      | some k =>
        rw [e] at p
        intro k' H' g' R' K' z
        cases z
        exact ⟨k, rfl, p k H' g' R' K' rfl⟩
theorem t_val (he : ∀ whole, isTrue e X.env whole = (do let v ← whole; standAt e.pos; holding [v] (truthy v))) (ha : PE X e (RD c W fa)) : PT X e (RT c W fun ρ st => (fa ρ st).bind fun x st1 => match x with
    | .v (.bl b) => .ok b st1
    | _ => .bad) := by
  refine PT_imp (pt_val ha he) fun σ H Q ⟨g, ρ, st, Rs, Re, p⟩ => ?_
  refine RG.bind Rs Re p fun x st1 v H1 g1 Rs Re K m p => ?_
  split at p
  · simp only [RelS, RelSb, Rp] at m
    exact ⟨_, m, p.now Rs rfl⟩
  · exact p.elim
theorem t_not {fc : Env → Store → Res Bool} (ha : PT X a (RT c W fc)) : PT X (.UnaryOp .Not a pos) (RT c W fun ρ st => (fc ρ st).bind fun k st1 => .ok (!k) st1) := by
  refine PT_imp (pt_not ha) fun σ H Q ⟨g, ρ, st, Rs, Re, p⟩ => ?_
  refine RG.bind Rs Re p fun x st1 v H1 g1 Rs Re K m p => ?_
  cases m
  exact p.now Rs rfl
theorem d_ife {t : Expr} {ft : Env → Store → Res Bool} (ht : PT X t (RT c W ft)) (ha : PE X a (RD c W fa)) (hb : PE X b (RD c W fb)) :
    PE X (.IfExp t a b pos) (RD c W fun ρ st => (ft ρ st).bind fun k st1 => if k then fa ρ st1 else fb ρ st1) := by
  refine PE_imp (pe_ifExp ht ha hb) fun σ H Q ⟨g, ρ, st, Rs, Re, p⟩ => ?_
  refine RG.bind Rs Re p fun x st1 v H1 g1 Rs Re K m p => ?_
  cases m
  cases x with
  | true => rw [if_pos rfl]; exact ⟨g1, ρ, st1, Rs, Re, p⟩
  | false => rw [if_neg Bool.false_ne_true]; exact ⟨g1, ρ, st1, Rs, Re, p⟩
theorem t_ife {t : Expr} {ft ga gb : Env → Store → Res Bool} (ht : PT X t (RT c W ft)) (ha : PT X a (RT c W ga)) (hb : PT X b (RT c W gb)) :
    PT X (.IfExp t a b pos) (RT c W fun ρ st => (ft ρ st).bind fun k st1 => if k then ga ρ st1 else gb ρ st1) := by
  refine ⟨fun pins s σ H Q I ⟨g, ρ, st, Rs, Re, p⟩ => ?_⟩
  unfold PySem.isTrue
  refine wpAny_bind (thn (ht.run pins s σ H (fun k H1 => ∃ g1 st1, RelSt c g1 st1 H1 ∧ RelE c g1 st1 H1 ρ σ ∧ PostG c W g1 st1 H1 MB (if k then ga ρ st1 else gb ρ st1) Q) I
    (RG.bind Rs Re p fun x st1 v H1 g1 Rs Re K m p => by cases m; exact ⟨g1, st1, Rs, Re, p⟩)) fun k s1 ⟨H1, I1, g1, st1, Rs1, Re1, p⟩ => ?_)
  cases k with
  | true => exact ha.run pins s1 σ H1 Q I1 ⟨g1, ρ, st1, Rs1, Re1, p⟩
  | false => exact hb.run pins s1 σ H1 Q I1 ⟨g1, ρ, st1, Rs1, Re1, p⟩
theorem d_ix (hK : X.K = c.K) (hu : X.A.units + 1 < cLine) (hs : PlainIx b) (ha : PE X a (RD c W fa)) (hb : PE X b (RD c W fb)) :
    PE X (.Subscript a b pos) (RD c W fun ρ st => (fa ρ st).bind fun x st1 => (fb ρ st1).bind fun y st2 => need (ixSem x y st2) st2) := by
  refine PE_imp (pe_ix (o_ix (W := W) hK hu) ha hb hs) fun σ H Q ⟨g, ρ, st, Rs, Re, p⟩ => ?_
  refine RG.bind Rs Re p fun x st1 v H1 g1 Rs Re K m p => ?_
  refine RG.bind Rs Re p fun y st2 u H2 g2 Rs2 Re2 K2 m2 p => ?_
  exact ⟨g2, st2, x, y, Rs2, m.move K2, m2, p⟩
abbrev MO : Gh → Store → Hp → Option Int → Option Int → Prop := fun _ _ _ a b => a = b
abbrev RO (c : Ct) (W : XK) (f : Env → Store → Res (Option Int)) : TO := RG c W MO f
theorem PO_imp {o : Option Expr} {t t' : TO} (h : PO X o t) (i : ∀ σ H Q, t' σ H Q → t σ H Q) : PO X o t' := ⟨fun pins s σ H Q I q => h.run pins s σ H Q I (i σ H Q q)⟩
theorem do_none : PO X none (RO c W fun _ st => .ok none st) := PO_imp po_none fun σ H Q ⟨g, ρ, st, Rs, Re, p⟩ => p.now Rs rfl
theorem do_some (ha : PE X a (RD c W fa)) : PO X (some a) (RO c W fun ρ st => (fa ρ st).bind fun x st1 => match x with
    | .v (.int i) => .ok (some i) st1
    | _ => .bad) := by
  refine PO_imp (po_some ha) fun σ H Q ⟨g, ρ, st, Rs, Re, p⟩ => ?_
  refine RG.bind Rs Re p fun x st1 v H1 g1 Rs Re K m p => ?_
  split at p
  · simp only [RelS, RelSb, Rp] at m
    exact ⟨_, m, p.now Rs rfl⟩
  · exact p.elim
theorem d_slc {lo hi : Option Expr} {p2 : Pos} {fl fh : Env → Store → Res (Option Int)} (hK : X.K = c.K) (ha : PE X a (RD c W fa)) (hl : PO X lo (RO c W fl)) (hh : PO X hi (RO c W fh)) :
    PE X (.Subscript a (.Slice lo hi none p2) pos) (RD c W fun ρ st => (fa ρ st).bind fun x st1 => (fl ρ st1).bind fun l st2 => (fh ρ st2).bind fun h st3 => need (slcSem x l h st3) st3) := by
  refine PE_imp (pe_slice (o_slc (W := W) hK) ha hl hh) fun σ H Q ⟨g, ρ, st, Rs, Re, p⟩ => ?_
  refine RG.bind Rs Re p fun x st1 v H1 g1 Rs Re K m p => ?_
  refine RG.bind Rs Re p fun y st2 u H2 g2 Rs2 Re2 K2 m2 p => ?_
  refine RG.bind Rs2 Re2 p fun z st3 w H3 g3 Rs3 Re3 K3 m3 p => ?_
  cases m2
  cases m3
  exact ⟨g3, st3, x, Rs3, (m.move K2).move K3, p⟩
theorem a_nil : PA X [] (RA c W fun _ st => .ok [] st) := PA_imp pa_nil fun σ H Q ⟨g, ρ, st, Rs, Re, p⟩ => p.now Rs trivial
theorem a_cons {fs : Env → Store → Res (List S)} (hs : starEach (e :: es) X.env = (false, eval e X.env) :: starEach es X.env) (ha : PE X e (RD c W fa)) (hr : PA X es (RA c W fs)) :
    PA X (e :: es) (RA c W fun ρ st => (fa ρ st).bind fun x st1 => (fs ρ st1).bind fun xs st2 => .ok (x :: xs) st2) := by
  refine PA_imp (pa_cons ha hr hs) fun σ H Q ⟨g, ρ, st, Rs, Re, p⟩ => ?_
  refine RG.bind Rs Re p fun x st1 v H1 g1 Rs Re K m p => ?_
  refine RG.bind Rs Re p fun y st2 u H2 g2 Rs2 Re2 K2 m2 p => ?_
  exact p.now Rs2 ⟨m.move K2, m2⟩
theorem d_tup {fs : Env → Store → Res (List S)} {x1 : Nat} (hl : es.length ≤ 1000) (hln : ∀ ρ st xs st', fs ρ st = .ok xs st' → xs.length = es.length) (ha : PA X es (RA c W fs)) :
    PE X (.Tuple es x1 pos) (RD c W fun ρ st => (fs ρ st).bind fun xs st1 => need ((allV xs).map fun ds => S.v (.tup ds)) st1) := by
  refine PE_imp (pe_tup ha) fun σ H Q ⟨g, ρ, st, Rs, Re, p⟩ => ?_
  refine RG.bindE Rs Re p fun xs st1 vs H1 g1 ef Rs Re K m p => ?_
  refine ⟨?_, fun q hq => ?_⟩
  · rw [← RelLb.length m, hln ρ st xs st1 ef, sizeLine_eq]; omega
  · cases e2 : allV xs with
    | none => rw [e2] at p; exact p.elim
    | some ds =>
      rw [e2] at p
      exact PostG.new (o := .tup vs) Rs hq p (Rp.newTup Rs hq (RelLb.toV e2 m))
def RF (c : Ct) (W : XK) (f : Env → Store → Res (List S)) : TE := fun σ H Q => RG c W (ML c) f σ H fun vs H' => ∀ q, H' q = none → Q (.ref q) (upd H' q (.lst vs))
theorem d_fr {e : Expr} {f : Env → Store → Res (List S)} (h : PE X e (RF c W f)) : PE X e (RD c W fun ρ st => (f ρ st).bind fun xs st1 => need ((allV xs).map fun ds => S.v (.lst ds)) st1) := by
  refine PE_imp h fun σ H Q ⟨g, ρ, st, Rs, Re, p⟩ => ?_
  refine RG.bind Rs Re p fun xs st1 vs H1 g1 Rs Re K m p q hq => ?_
  cases e2 : allV xs with
  | none => rw [e2] at p; exact p.elim
  | some ds =>
    rw [e2] at p
    exact PostG.new (o := .lst vs) Rs hq p (Rp.newLst Rs hq (RelLb.toV e2 m))
theorem d_al {e : Expr} {f : Env → Store → Res (List S)} (h : PE X e (RF c W f)) : PE X e (RD c W fun ρ st => (f ρ st).bind fun xs st1 => .ok (.r st1.length) (st1 ++ [some (.lst xs)])) := by
  refine PE_imp h fun σ H Q ⟨g, ρ, st, Rs, Re, p⟩ => ?_
  refine RG.bind Rs Re p fun xs st' vs H' g' R' Re K' m p q hq => ?_
  obtain ⟨R2, K2⟩ := R'.alloc (o := .lst xs) (h := .lst vs) hq ⟨vs, rfl, m⟩
  refine p (.ref q) _ _ R2 K2 ⟨?_, by simp⟩
  show V.ref q = V.ref (if st'.length = st'.length then q else _)
  rw [if_pos rfl]
theorem f_disp {fs : Env → Store → Res (List S)} (hl : es.length ≤ 1000) (hln : ∀ ρ st xs st', fs ρ st = .ok xs st' → xs.length = es.length) (ha : PA X es (RA c W fs)) : PE X (.List es pos) (RF c W fs) := by
  refine PE_imp (pe_lst ha) fun σ H Q ⟨g, ρ, st, Rs, Re, p⟩ => ⟨g, ρ, st, Rs, Re, ?_⟩
  cases e : fs ρ st with
  | ok xs st' =>
    rw [e] at p
    intro vs H' g' R' K' m
    refine ⟨?_, fun q hq => p vs H' g' R' K' m q hq⟩
    rw [← RelLb.length m, hln ρ st xs st' e, sizeLine_eq]; omega
  | ex a b d e' => rw [e] at p; exact p
  | bad => rw [e] at p; exact p
end
end Sw

set_option linter.all false
set_option maxRecDepth 100000
set_option maxHeartbeats 1000000
namespace Sw
open PySem L2 PySem.Spec PyProof.Rows
inductive Sk where
  | lst (a : Addr) | tup (a : Addr)
def Sk.ad : Sk → Addr
  | .lst a => a
  | .tup a => a
def Sk.hs (K : PySem.W.Frag) (H : Hp) : Sk → List V → Prop
  | .lst a, xs => SqL K H a xs
  | .tup a, xs => SqT K H a xs
def Sk.it : Sk → Addr → Nat → Heap → Prop
  | .lst a, it, i, h => h.IsListIter it a i
  | .tup a, it, i, h => h.IsTupleIter it a i
def Sk.ob : Sk → Array Value → Heap → Prop
  | .lst a, its, h => h.IsList a its
  | .tup a, its, h => h.IsTuple a its
def Sk.o : Sk → Obj
  | .lst a => { cls := .type "list_iterator", data := .fields #[.ref a, .int 0 0] }
  | .tup a => { cls := .type "tuple_iterator", data := .fields #[.ref a, .int 0 0] }
theorem Sk.draws {prog : Program} {w : World} {A : Around} (hh : A.handled = none) (k : Sk) (it : Addr) (hne : k.ad ≠ it) (items : Array Value) :
    Draws prog w A it [it, k.ad] items.size (fun i v => items[i]? = some v) (fun i h => k.it it i h ∧ k.ob items h) := by
  cases k with
  | lst a => exact .list hh it a hne items
  | tup a => exact .tuple hh it a hne items
theorem Sk.begins (k : Sk) (items : Array Value) : Begins (.ref k.ad) k.o (k.ob items) := by
  cases k with
  | lst a => exact begins_list a items
  | tup a => exact begins_tuple a items
theorem Sk.itObj {k : Sk} {it : Addr} {i : Nat} {h : Heap} (x : k.it it i h) : ∃ o, h.get? it = some o ∧ ∀ v, o.data ≠ .cell v := by
  cases k with
  | lst a => obtain ⟨o, e, _, d⟩ := x; exact ⟨o, e, fun v q => by rw [d] at q; cases q⟩
  | tup a => obtain ⟨o, e, _, d⟩ := x; exact ⟨o, e, fun v q => by rw [d] at q; cases q⟩
theorem Sk.itKeep {k : Sk} {it : Addr} {i : Nat} {h h' : Heap} (x : k.it it i h) (hk : ∀ o, h.get? it = some o → h'.get? it = some o) : k.it it i h' := by
  cases k with
  | lst a => obtain ⟨o, e, r⟩ := x; exact ⟨o, hk o e, r⟩
  | tup a => obtain ⟨o, e, r⟩ := x; exact ⟨o, hk o e, r⟩
theorem Sk.itNew {k : Sk} {it : Addr} {h : Heap} (x : h.get? it = some k.o) : k.it it 0 h := by
  cases k with
  | lst a => exact ⟨_, x, rfl, rfl⟩
  | tup a => exact ⟨_, x, rfl, rfl⟩
section
variable {X : Cx} {pins : List (Addr × Obj)} {σ : L2.St} {H : Hp} {s : Shared}
theorem Sk.get (I : Inv X pins σ H s) {k : Sk} {xs : List V} (h : k.hs X.K H xs) : ∃ its : List Value, Vals xs its ∧ k.ob its.toArray s.heap ∧ xs.length ≤ sizeLine ∧ k.ad < s.heap.objs.size := by
  cases k with
  | lst a =>
    obtain ⟨its, r, p, z⟩ := I.list h
    exact ⟨its, r, p.isList, z, p.lt⟩
  | tup a =>
    obtain ⟨its, r, p, z⟩ := I.tuple h
    obtain ⟨o, e, _⟩ := id p
    exact ⟨its, r, p, z, Heap.lt_size e⟩
theorem Sk.inj (I : Inv X pins σ H s) {k : Sk} {xs ys : List V} (h : k.hs X.K H xs) (h' : k.hs X.K H ys) : xs = ys := by
  cases k with
  | lst a => exact I.list_inj h h'
  | tup a => exact I.tuple_inj h h'
end
theorem turn_ofT {P : Program} {w : World} {K : PySem.W.Frag} {elts : List Expr} {kk : Nat} {tpos : Pos} {J : L2.It} {fp : List Addr} {it : Addr} {tn : Nat → Heap → Prop} (R : Nat → Hp → List V → Prop) (mem : it ∈ fp)
    (obj : ∀ i h, tn i h → ∀ b ∈ fp, ∃ o, h.get? b = some o ∧ ∀ v, o.data ≠ .cell v)
    (keep : ∀ i h h', tn i h → (∀ b ∈ fp, ∀ o, h.get? b = some o → h'.get? b = some o) → tn i h')
    (self : ∀ (A : Around) (i : Nat) (s : Shared) (Q : Value → Shared → Prop) (E : Value → Shared → Prop), tn i s.heap → Q (.ref it) s → wpAny (model P w) A (pyIter (.ref it)) Q E s)
    (hy : ∀ i H T xs, H T = none → R i H xs → J.yld i H (.ref T) (upd H T (.tup xs)))
    (hw : ∀ (X : Cx) (pins : List (Addr × Obj)) (s : Shared) (σ : L2.St) (H : Hp) (i : Nat), X.prog = P → X.w = w → X.K = K → X.calm = true → Inv X pins σ H s → tn i s.heap → (J.go i H ∨ J.stop i H) →
      ∃ n fpW wr Pt St Mid, WalksT X.prog X.w X.A it fpW wr n Pt St Mid ∧ (∀ b ∈ wr, b ∈ fp) ∧ (J.go i H → i < n) ∧ (J.stop i H → i = n) ∧ St i s.heap ∧ (∀ j h', St j h' → tn j h') ∧
        ∀ vals, Pt i vals → ∃ xs, Vals xs vals.toList ∧ xs.length ≤ sizeLine ∧ R i H xs) :
    Turn P w K (.Tuple elts kk tpos) J fp it tn where
  mem := mem
  obj := obj
  keep := keep
  item := by
    intro X hP hw' hK hc i pins s σ H E I hf st hg
    obtain ⟨n, fpW, wr, Pt, St, Mid, W, hsub, h1, h2, h3, h4, h5⟩ := hw X pins s σ H i hP hw' hK hc I st (.inl hg)
    subst hP hw' hK
    refine W.item i s _ _ (h1 hg) h3 fun T vals h' tk hPt hT hIs mid hk => ⟨.ref T, rfl, ?_⟩
    refine W.go elts kk tpos i T { s with heap := h', toks := tk } _ _ mid fun h'' st'' hk'' => ?_
    obtain ⟨xs, rv, hz, hR⟩ := h5 vals hPt
    have hTw := W.apart i T h' mid
    have new : ObjOk X.prog X.w (upd H T (.tup xs)) h'' T (.tup xs) := by
      refine ⟨hz, vals.toList, rv, ?_⟩
      obtain ⟨o, e, r⟩ := hIs
      exact ⟨o, hk'' T o hTw e, r⟩
    have I1 : Inv X pins σ (upd H T (.tup xs)) { s with heap := h'', toks := tk } :=
      I.turnedNew (ch := fp) (fun b o hb q => hk'' b o (fun z => hb (hsub b z)) (hk b o (fun z => hb (hsub b z)) q)) hf hT new
    refine ⟨.ref T, _, I1, rfl, hy i H T xs (I.hok.fresh hT) hR, h4 _ _ st'', fun b hb => ?_⟩
    rw [upd_ne ?_]
    · exact (hf b hb).1
    · intro z
      obtain ⟨o, e, _⟩ := obj i s.heap st b hb
      exact absurd (Nat.lt_of_lt_of_le (Heap.lt_size e) (by rw [z]; exact hT)) (Nat.lt_irrefl _)
  done := by
    intro X hP hw' hK hc i pins s σ H E I hf st hg
    obtain ⟨n, fpW, wr, Pt, St, Mid, W, hsub, h1, h2, h3, h4, h5⟩ := hw X pins s σ H i hP hw' hK hc I st (.inr hg)
    subst hP hw' hK
    have e := h2 hg
    subst e
    exact W.done s _ _ h3 fun h' tk hk => ⟨rfl, I.turnedL (ch := fp) (fun b o hb q => hk b o (fun z => hb (hsub b z)) q) hf⟩
  self := self
def Itz2 (K : PySem.W.Frag) (k1 k2 : Sk) : L2.It :=
  ⟨fun i H => ∃ xs ys, k1.hs K H xs ∧ k2.hs K H ys ∧ i < xs.length ∧ i < ys.length,
    fun i H v H' => ∃ T x y, v = .ref T ∧ H T = none ∧ H' = upd H T (.tup [x, y]) ∧ (∀ xs, k1.hs K H xs → xs[i]? = some x) ∧ ∀ ys, k2.hs K H ys → ys[i]? = some y,
    fun i H => ∃ xs ys, k1.hs K H xs ∧ k2.hs K H ys ∧ i = min xs.length ys.length⟩
theorem turn_zip2 {P : Program} {w : World} {K : PySem.W.Frag} {elts : List Expr} {kk : Nat} {tpos : Pos} {k1 k2 : Sk} {N : Addr} (h1 : k1.ad < N) (h2 : k2.ad < N) :
    Turn P w K (.Tuple elts kk tpos) (Itz2 K k1 k2) [N + 4, N + 2, N + 3, N, N + 1] (N + 4) (fun i h => IsZip h (N + 4) (N + 2) (N + 3) .none ∧ IsTupOf2 h (N + 2) (.ref N) (.ref (N + 1)) ∧ (∃ x y, IsTupOf2 h (N + 3) x y) ∧ k1.it N i h ∧ k2.it (N + 1) i h) := by
  refine turn_ofT (fun i H vs => ∃ x y, vs = [x, y] ∧ (∀ xs, k1.hs K H xs → xs[i]? = some x) ∧ ∀ ys, k2.hs K H ys → ys[i]? = some y) (by simp) ?_ ?_ ?_ ?_ ?_
  · intro i h st b hb
    obtain ⟨hz, hTI, ⟨x, y, hTO⟩, i1, i2⟩ := st
    have e' : b = N + 4 ∨ b = N + 2 ∨ b = N + 3 ∨ b = N ∨ b = N + 1 := by simpa using hb
    rcases e' with q | q | q | q | q
    · rw [q]; exact ⟨_, hz, fun v q => nomatch q⟩
    · rw [q]; exact ⟨_, hTI, fun v q => nomatch q⟩
    · rw [q]; exact ⟨_, hTO, fun v q => nomatch q⟩
    · rw [q]; exact Sk.itObj i1
    · rw [q]; exact Sk.itObj i2
  · intro i h h' st k
    obtain ⟨hz, hTI, ⟨x, y, hTO⟩, i1, i2⟩ := st
    exact ⟨k _ (by simp) _ hz, k _ (by simp) _ hTI, ⟨x, y, k _ (by simp) _ hTO⟩, Sk.itKeep i1 fun o q => k N (by simp) o q, Sk.itKeep i2 fun o q => k (N + 1) (by simp) o q⟩
  · exact fun A i s Q E st h => wpAny_pyIter_zip st.1 h
  · rintro i H T xs hT ⟨x, y, rfl, a, b⟩
    exact ⟨T, x, y, rfl, hT, rfl, a, b⟩
  · rintro X pins s σ H i hP hw hK hc I ⟨hz, hTI, hTO, i1, i2⟩ hgs
    subst hP hw hK
    have get : ∃ xs ys, k1.hs X.K H xs ∧ k2.hs X.K H ys := hgs.elim (fun ⟨xs, ys, a, b, _⟩ => ⟨xs, ys, a, b⟩) fun ⟨xs, ys, a, b, _⟩ => ⟨xs, ys, a, b⟩
    obtain ⟨xs, ys, hx, hy⟩ := get
    obtain ⟨its, rv, p, _, _⟩ := k1.get I hx
    obtain ⟨its2, rv2, p2, _, _⟩ := k2.get I hy
    have hh : X.A.in1.handled = none := I.ok.hd hc
    have l1 := rv.length
    have l2 := rv2.length
    refine ⟨_, _, _, _, _, _, WalksT.zipD2 (zip_sep2 (fp1 := [k1.ad]) (fp2 := [k2.ad]) (by simpa using h1) (by simpa using h2)) (k1.draws hh N (Nat.ne_of_lt h1) its.toArray) (k2.draws hh (N + 1) (Nat.ne_of_lt (Nat.lt_succ_of_lt h2)) its2.toArray), ?_, ?_, ?_, ⟨hz, hTI, hTO, ⟨i1, p⟩, ⟨i2, p2⟩⟩, ?_, ?_⟩
    · intro b hb
      have hb' : b = N + 4 ∨ b = N + 3 ∨ b = N ∨ b = N + 1 := by simpa using hb
      simp only [List.mem_cons, List.not_mem_nil, or_false]
      rcases hb' with e | e | e | e <;> rw [e] <;> simp
    · rintro ⟨xs', ys', a, b, c, d⟩
      have e1 := Sk.inj I a hx
      have e2 := Sk.inj I b hy
      subst e1 e2
      simp only [List.size_toArray]
      omega
    · rintro ⟨xs', ys', a, b, c⟩
      have e1 := Sk.inj I a hx
      have e2 := Sk.inj I b hy
      subst e1 e2
      simp only [List.size_toArray]
      omega
    · rintro j h' ⟨a, b, c, ⟨d, _⟩, ⟨e, _⟩⟩
      exact ⟨a, b, c, d, e⟩
    · rintro vals ⟨u1, u2, e1, e2, rfl⟩
      have e1' : its[i]? = some u1 := by simpa using e1
      have e2' : its2[i]? = some u2 := by simpa using e2
      have hxi : i < xs.length := by have := (List.getElem?_eq_some_iff.mp e1').1; omega
      have hyi : i < ys.length := by have := (List.getElem?_eq_some_iff.mp e2').1; omega
      obtain ⟨w1, q1, r1⟩ := rv.get (List.getElem?_eq_getElem hxi)
      obtain ⟨w2, q2, r2⟩ := rv2.get (List.getElem?_eq_getElem hyi)
      rw [e1'] at q1
      rw [e2'] at q2
      cases q1
      cases q2
      exact ⟨[xs[i], ys[i]], .cons r1 (.cons r2 .nil), by show 2 ≤ sizeLine; decide, _, _, rfl, fun z hz => by rw [Sk.inj I hz hx]; exact List.getElem?_eq_getElem hxi, fun z hz => by rw [Sk.inj I hz hy]; exact List.getElem?_eq_getElem hyi⟩
def iZip2 (K : PySem.W.Frag) (ta : TA) : TI := fun σ H R => ta σ H fun vs H1 => ∃ k1 k2 xs ys, vs = [.ref (Sk.ad k1), .ref (Sk.ad k2)] ∧ k1.hs K H1 xs ∧ k2.hs K H1 ys ∧ (xs.length ≤ sizeLine → R (Itz2 K k1 k2) H1)
theorem pi_zip2 {X : Cx} {e e2 : Expr} {ta : TA} {p pos tpos : Pos} {elts : List Expr} {kk : Nat} (hg : Gl X "zip") (hm : X.mg "zip" = none) (ha : PA X [e, e2] ta)
    (hs : starEach [e, e2] X.env = (false, eval e X.env) :: starEach [e2] X.env) (hpl : (backTo pos (starEach [e2] X.env)).any (·.1) = false) :
    PI X (.Tuple elts kk tpos) (.Call (.Name "zip" p) [e, e2] [] pos) (iZip2 X.K ta) := by
  refine ⟨fun pins s σ H R I h => ?_⟩
  refine Call_ (ld_blt I hg hm PyProof.Rows.boot_zip (PyProof.Rows.callWith_type1 (thn (ha.run pos pins s σ H _ I h) fun us s1 ⟨vs, H1, I1, r1, q1⟩ => ?_) hs hpl))
  obtain ⟨k1, k2, xs, ys, ex, hx, hy, q⟩ := q1
  subst ex
  cases r1 with
  | cons r rr =>
    cases rr with
    | cons r' rr =>
      cases rr
      cases r
      cases r'
      obtain ⟨its, rv, p1, hzx, l1⟩ := k1.get I1 hx
      obtain ⟨its2, rv2, p2, _, l2⟩ := k2.get I1 hy
      refine zip_begins2 (k1.begins its.toArray) (k2.begins its2.toArray) p1 p2 fun h' hz hTI hTO g1 g2 hsz hk => wpAny_pyIter_zip hz ?_
      have I2 : Inv X pins σ H1 { s1 with heap := h' } := I1.kept (t' := s1.toks) hk
      refine ⟨s1.heap.objs.size + 4, [s1.heap.objs.size + 4, s1.heap.objs.size + 2, s1.heap.objs.size + 3, s1.heap.objs.size, s1.heap.objs.size + 1], _, _, H1, rfl, I2, turn_zip2 l1 l2, ⟨hz, hTI, ⟨_, _, hTO⟩, Sk.itNew g1, Sk.itNew g2⟩, fun c hcm => ?_, q hzx⟩
      have e' : c = s1.heap.objs.size + 4 ∨ c = s1.heap.objs.size + 2 ∨ c = s1.heap.objs.size + 3 ∨ c = s1.heap.objs.size ∨ c = s1.heap.objs.size + 1 := by simpa using hcm
      have hle : s1.heap.objs.size ≤ c := by
        rcases e' with z | z | z | z | z
        · rw [z]; exact Nat.le_add_right _ _
        · rw [z]; exact Nat.le_add_right _ _
        · rw [z]; exact Nat.le_add_right _ _
        · rw [z]; exact Nat.le_refl _
        · rw [z]; exact Nat.le_add_right _ _
      exact I1.fpOk hle (I1.hok.fresh hle)
def Itz3 (K : PySem.W.Frag) (k1 k2 k3 : Sk) : L2.It :=
  ⟨fun i H => ∃ xs ys zs, k1.hs K H xs ∧ k2.hs K H ys ∧ k3.hs K H zs ∧ i < xs.length ∧ i < ys.length ∧ i < zs.length,
    fun i H v H' => ∃ T x y z, v = .ref T ∧ H T = none ∧ H' = upd H T (.tup [x, y, z]) ∧ (∀ xs, k1.hs K H xs → xs[i]? = some x) ∧ (∀ ys, k2.hs K H ys → ys[i]? = some y) ∧ ∀ zs, k3.hs K H zs → zs[i]? = some z,
    fun i H => ∃ xs ys zs, k1.hs K H xs ∧ k2.hs K H ys ∧ k3.hs K H zs ∧ i = min (min xs.length ys.length) zs.length⟩
theorem turn_zip3 {P : Program} {w : World} {K : PySem.W.Frag} {elts : List Expr} {kk : Nat} {tpos : Pos} {k1 k2 k3 : Sk} {N : Addr} (h1 : k1.ad < N) (h2 : k2.ad < N) (h3 : k3.ad < N) :
    Turn P w K (.Tuple elts kk tpos) (Itz3 K k1 k2 k3) [N + 5, N + 3, N + 4, N, N + 1, N + 2] (N + 5) (fun i h => IsZip h (N + 5) (N + 3) (N + 4) .none ∧ IsTupOf3 h (N + 3) (.ref N) (.ref (N + 1)) (.ref (N + 2)) ∧ (∃ x y z, IsTupOf3 h (N + 4) x y z) ∧ k1.it N i h ∧ k2.it (N + 1) i h ∧ k3.it (N + 2) i h) := by
  refine turn_ofT (fun i H vs => ∃ x y z, vs = [x, y, z] ∧ (∀ xs, k1.hs K H xs → xs[i]? = some x) ∧ (∀ ys, k2.hs K H ys → ys[i]? = some y) ∧ ∀ zs, k3.hs K H zs → zs[i]? = some z) (by simp) ?_ ?_ ?_ ?_ ?_
  · intro i h st b hb
    obtain ⟨hz, hTI, ⟨x, y, z, hTO⟩, i1, i2, i3⟩ := st
    have e' : b = N + 5 ∨ b = N + 3 ∨ b = N + 4 ∨ b = N ∨ b = N + 1 ∨ b = N + 2 := by simpa using hb
    rcases e' with q | q | q | q | q | q
    · rw [q]; exact ⟨_, hz, fun v q => nomatch q⟩
    · rw [q]; exact ⟨_, hTI, fun v q => nomatch q⟩
    · rw [q]; exact ⟨_, hTO, fun v q => nomatch q⟩
    · rw [q]; exact Sk.itObj i1
    · rw [q]; exact Sk.itObj i2
    · rw [q]; exact Sk.itObj i3
  · intro i h h' st k
    obtain ⟨hz, hTI, ⟨x, y, z, hTO⟩, i1, i2, i3⟩ := st
    exact ⟨k _ (by simp) _ hz, k _ (by simp) _ hTI, ⟨x, y, z, k _ (by simp) _ hTO⟩, Sk.itKeep i1 fun o q => k N (by simp) o q, Sk.itKeep i2 fun o q => k (N + 1) (by simp) o q, Sk.itKeep i3 fun o q => k (N + 2) (by simp) o q⟩
  · exact fun A i s Q E st h => wpAny_pyIter_zip st.1 h
  · rintro i H T xs hT ⟨x, y, z, rfl, a, b, c⟩
    exact ⟨T, x, y, z, rfl, hT, rfl, a, b, c⟩
  · rintro X pins s σ H i hP hw hK hc I ⟨hz, hTI, hTO, i1, i2, i3⟩ hgs
    subst hP hw hK
    have get : ∃ xs ys zs, k1.hs X.K H xs ∧ k2.hs X.K H ys ∧ k3.hs X.K H zs := hgs.elim (fun ⟨xs, ys, zs, a, b, c, _⟩ => ⟨xs, ys, zs, a, b, c⟩) fun ⟨xs, ys, zs, a, b, c, _⟩ => ⟨xs, ys, zs, a, b, c⟩
    obtain ⟨xs, ys, zs, hx, hy, hzz⟩ := get
    obtain ⟨its, rv, p, _, _⟩ := k1.get I hx
    obtain ⟨its2, rv2, p2, _, _⟩ := k2.get I hy
    obtain ⟨its3, rv3, p3, _, _⟩ := k3.get I hzz
    have hh : X.A.in1.handled = none := I.ok.hd hc
    have l1 := rv.length
    have l2 := rv2.length
    have l3 := rv3.length
    refine ⟨_, _, _, _, _, _, WalksT.zipD3 (zip_sep3 (fp1 := [k1.ad]) (fp2 := [k2.ad]) (fp3 := [k3.ad]) (by simpa using h1) (by simpa using h2) (by simpa using h3)) (k1.draws hh N (Nat.ne_of_lt h1) its.toArray) (k2.draws hh (N + 1) (Nat.ne_of_lt (Nat.lt_succ_of_lt h2)) its2.toArray) (k3.draws hh (N + 2) (Nat.ne_of_lt (Nat.lt_succ_of_lt (Nat.lt_succ_of_lt h3))) its3.toArray), ?_, ?_, ?_, ⟨hz, hTI, hTO, ⟨i1, p⟩, ⟨i2, p2⟩, ⟨i3, p3⟩⟩, ?_, ?_⟩
    · intro b hb
      have hb' : b = N + 5 ∨ b = N + 4 ∨ b = N ∨ b = N + 1 ∨ b = N + 2 := by simpa using hb
      simp only [List.mem_cons, List.not_mem_nil, or_false]
      rcases hb' with e | e | e | e | e <;> rw [e] <;> simp
    · rintro ⟨xs', ys', zs', a, b, c, d, d2, d3⟩
      have e1 := Sk.inj I a hx
      have e2 := Sk.inj I b hy
      have e3 := Sk.inj I c hzz
      subst e1 e2 e3
      simp only [List.size_toArray]
      omega
    · rintro ⟨xs', ys', zs', a, b, c, d⟩
      have e1 := Sk.inj I a hx
      have e2 := Sk.inj I b hy
      have e3 := Sk.inj I c hzz
      subst e1 e2 e3
      simp only [List.size_toArray]
      omega
    · rintro j h' ⟨a, b, c, ⟨d, _⟩, ⟨e, _⟩, ⟨f, _⟩⟩
      exact ⟨a, b, c, d, e, f⟩
    · rintro vals ⟨u1, u2, u3, e1, e2, e3, rfl⟩
      have e1' : its[i]? = some u1 := by simpa using e1
      have e2' : its2[i]? = some u2 := by simpa using e2
      have e3' : its3[i]? = some u3 := by simpa using e3
      have hxi : i < xs.length := by have := (List.getElem?_eq_some_iff.mp e1').1; omega
      have hyi : i < ys.length := by have := (List.getElem?_eq_some_iff.mp e2').1; omega
      have hzi : i < zs.length := by have := (List.getElem?_eq_some_iff.mp e3').1; omega
      obtain ⟨w1, q1, r1⟩ := rv.get (List.getElem?_eq_getElem hxi)
      obtain ⟨w2, q2, r2⟩ := rv2.get (List.getElem?_eq_getElem hyi)
      obtain ⟨w3, q3, r3⟩ := rv3.get (List.getElem?_eq_getElem hzi)
      rw [e1'] at q1
      rw [e2'] at q2
      rw [e3'] at q3
      cases q1
      cases q2
      cases q3
      exact ⟨[xs[i], ys[i], zs[i]], .cons r1 (.cons r2 (.cons r3 .nil)), by show 3 ≤ sizeLine; decide, _, _, _, rfl, fun z hz => by rw [Sk.inj I hz hx]; exact List.getElem?_eq_getElem hxi, fun z hz => by rw [Sk.inj I hz hy]; exact List.getElem?_eq_getElem hyi, fun z hz => by rw [Sk.inj I hz hzz]; exact List.getElem?_eq_getElem hzi⟩
def iZip3 (K : PySem.W.Frag) (ta : TA) : TI := fun σ H R => ta σ H fun vs H1 => ∃ k1 k2 k3 xs ys zs, vs = [.ref (Sk.ad k1), .ref (Sk.ad k2), .ref (Sk.ad k3)] ∧ k1.hs K H1 xs ∧ k2.hs K H1 ys ∧ k3.hs K H1 zs ∧ (xs.length ≤ sizeLine → R (Itz3 K k1 k2 k3) H1)
theorem pi_zip3 {X : Cx} {e e2 e3 : Expr} {ta : TA} {p pos tpos : Pos} {elts : List Expr} {kk : Nat} (hg : Gl X "zip") (hm : X.mg "zip" = none) (ha : PA X [e, e2, e3] ta)
    (hs : starEach [e, e2, e3] X.env = (false, eval e X.env) :: starEach [e2, e3] X.env) (hpl : (backTo pos (starEach [e2, e3] X.env)).any (·.1) = false) :
    PI X (.Tuple elts kk tpos) (.Call (.Name "zip" p) [e, e2, e3] [] pos) (iZip3 X.K ta) := by
  refine ⟨fun pins s σ H R I h => ?_⟩
  refine Call_ (ld_blt I hg hm PyProof.Rows.boot_zip (PyProof.Rows.callWith_type1 (thn (ha.run pos pins s σ H _ I h) fun us s1 ⟨vs, H1, I1, r1, q1⟩ => ?_) hs hpl))
  obtain ⟨k1, k2, k3, xs, ys, zs, ex, hx, hy, hzz, q⟩ := q1
  subst ex
  cases r1 with
  | cons r rr =>
    cases rr with
    | cons r' rr =>
      cases rr with
      | cons r'' rr =>
        cases rr
        cases r
        cases r'
        cases r''
        obtain ⟨its, rv, p1, hzx, l1⟩ := k1.get I1 hx
        obtain ⟨its2, rv2, p2, _, l2⟩ := k2.get I1 hy
        obtain ⟨its3, rv3, p3, _, l3⟩ := k3.get I1 hzz
        refine zip_begins3 (k1.begins its.toArray) (k2.begins its2.toArray) (k3.begins its3.toArray) p1 p2 p3 fun h' hz hTI hTO g1 g2 g3 hsz hk => wpAny_pyIter_zip hz ?_
        have I2 : Inv X pins σ H1 { s1 with heap := h' } := I1.kept (t' := s1.toks) hk
        refine ⟨s1.heap.objs.size + 5, [s1.heap.objs.size + 5, s1.heap.objs.size + 3, s1.heap.objs.size + 4, s1.heap.objs.size, s1.heap.objs.size + 1, s1.heap.objs.size + 2], _, _, H1, rfl, I2, turn_zip3 l1 l2 l3, ⟨hz, hTI, ⟨_, _, _, hTO⟩, Sk.itNew g1, Sk.itNew g2, Sk.itNew g3⟩, fun c hcm => ?_, q hzx⟩
        have e' : c = s1.heap.objs.size + 5 ∨ c = s1.heap.objs.size + 3 ∨ c = s1.heap.objs.size + 4 ∨ c = s1.heap.objs.size ∨ c = s1.heap.objs.size + 1 ∨ c = s1.heap.objs.size + 2 := by simpa using hcm
        have hle : s1.heap.objs.size ≤ c := by
          rcases e' with z | z | z | z | z | z
          · rw [z]; exact Nat.le_add_right _ _
          · rw [z]; exact Nat.le_add_right _ _
          · rw [z]; exact Nat.le_add_right _ _
          · rw [z]; exact Nat.le_refl _
          · rw [z]; exact Nat.le_add_right _ _
          · rw [z]; exact Nat.le_add_right _ _
        exact I1.fpOk hle (I1.hok.fresh hle)
def Itn (K : PySem.W.Frag) (k : Sk) : L2.It :=
  ⟨fun i H => ∃ xs, k.hs K H xs ∧ i < xs.length, fun i H v H' => ∃ T x, v = .ref T ∧ H T = none ∧ H' = upd H T (.tup [.int (i : Nat), x]) ∧ ∀ xs, k.hs K H xs → xs[i]? = some x, fun i H => ∃ xs, k.hs K H xs ∧ i = xs.length⟩
theorem turn_enumK {P : Program} {w : World} {K : PySem.W.Frag} {elts : List Expr} {kk : Nat} {tpos : Pos} {k : Sk} {N : Addr} (h1 : k.ad < N) :
    Turn P w K (.Tuple elts kk tpos) (Itn K k) [N + 1, N] (N + 1) (fun i h => (∃ old, IsEnum h (N + 1) N (0 + (i : Int)) old) ∧ k.it N i h) := by
  refine turn_ofT (fun i H vs => ∃ x, vs = [.int (i : Nat), x] ∧ ∀ xs, k.hs K H xs → xs[i]? = some x) (by simp) ?_ ?_ ?_ ?_ ?_
  · intro i h st b hb
    obtain ⟨⟨old, he⟩, i1⟩ := st
    have e' : b = N + 1 ∨ b = N := by simpa using hb
    rcases e' with q | q
    · rw [q]; exact ⟨_, he, fun v q => nomatch q⟩
    · rw [q]; exact Sk.itObj i1
  · intro i h h' st kp
    obtain ⟨⟨old, he⟩, i1⟩ := st
    exact ⟨⟨old, kp _ (by simp) _ he⟩, Sk.itKeep i1 fun o q => kp N (by simp) o q⟩
  · exact fun A i s Q E st h => let ⟨⟨_, he⟩, _⟩ := st; wpAny_pyIter_enum he h
  · rintro i H T xs hT ⟨x, rfl, a⟩
    exact ⟨T, x, rfl, hT, rfl, a⟩
  · rintro X pins s σ H i hP hw hK hc I ⟨he, i1⟩ hgs
    subst hP hw hK
    have get : ∃ xs, k.hs X.K H xs := hgs.elim (fun ⟨xs, a, _⟩ => ⟨xs, a⟩) fun ⟨xs, a, _⟩ => ⟨xs, a⟩
    obtain ⟨xs, hx⟩ := get
    obtain ⟨its, rv, p, _, _⟩ := k.get I hx
    have hh : X.A.in1.handled = none := I.ok.hd hc
    have l1 := rv.length
    have hne : N + 1 ∉ [N, k.ad] := by
      intro hm
      have q : N + 1 = N ∨ N + 1 = k.ad := by simpa using hm
      rcases q with q | q
      · exact Nat.succ_ne_self _ q
      · have : k.ad < N + 1 := Nat.lt_succ_of_lt h1
        rw [← q] at this
        exact Nat.lt_irrefl _ this
    refine ⟨_, _, _, _, _, _, WalksT.enumFrom 0 (k.draws hh N (Nat.ne_of_lt h1) its.toArray) (N + 1) (Nat.succ_ne_self _) hne (by simp), ?_, ?_, ?_, ⟨he, ⟨i1, p⟩⟩, ?_, ?_⟩
    · intro b hb
      exact hb
    · rintro ⟨xs', a, b⟩
      have e1 := Sk.inj I a hx
      subst e1
      simp only [List.size_toArray]
      omega
    · rintro ⟨xs', a, b⟩
      have e1 := Sk.inj I a hx
      subst e1
      simp only [List.size_toArray]
      omega
    · rintro j h' ⟨a, b, _⟩
      exact ⟨a, b⟩
    · rintro vals ⟨t, u, e1, rfl⟩
      have e1' : its[i]? = some u := by simpa using e1
      have hxi : i < xs.length := by have := (List.getElem?_eq_some_iff.mp e1').1; omega
      obtain ⟨w1, q1, r1⟩ := rv.get (List.getElem?_eq_getElem hxi)
      rw [e1'] at q1
      cases q1
      exact ⟨[.int (i : Nat), xs[i]], .cons ⟨t, by rw [Int.zero_add]⟩ (.cons r1 .nil), by show 2 ≤ sizeLine; decide, _, rfl, fun z hz => by rw [Sk.inj I hz hx]; exact List.getElem?_eq_getElem hxi⟩
theorem meets_enumerate_newB1 {v : Value} {o : Obj} {H : Heap → Prop} (B : Begins v o H) :
    Meets (Builtin.«enumerate.__new__» ⟨[.type "enumerate", v], []⟩) (fun _ R s => H s.heap ∧
      R (.ok (.ret (.ref (s.heap.push o).objs.size))) { s with heap := (s.heap.push o).push { cls := .type "enumerate", data := .fields #[.none, .bool false, .ref s.heap.objs.size, rawInt 0, .none, .none] } }) :=
  .of_wp fun prog w A R s h => by
    obtain ⟨hp, g, d, tk, os⟩ := s; obtain ⟨h1, h⟩ := h
    have hsub := sub_enumerate
    have q1 : ∀ {A' : Around} {E : Value → Shared → Prop} {Q : Value → Shared → Prop}, Q (.ref hp.objs.size) ⟨hp.push o, g, d, tk, os⟩ → wpAny (model prog w) A' (pyIter v) Q E ⟨hp, g, d, tk, os⟩ :=
      fun q => B.iter prog w _ _ ⟨hp, g, d, tk, os⟩ _ h1 q
    wp_walk using q1
    refine wpAny_stack_any fun st => wpAny_pure ?_
    split
    · rename_i c _ _ _ _ _
      cases (c == Value.type "enumerate")
      · wp_walk using q1
        exact ⟨_, rfl, h⟩
      · wp_walk using q1
        exact ⟨_, rfl, h⟩
    · wp_walk using q1
      exact ⟨_, rfl, h⟩
theorem enum_begins1 {prog : Program} {w : World} {A : Around} {E : Value → Shared → Prop} {s : Shared} {v : Value} {o : Obj} {H : Heap → Prop} {Q : Value → Shared → Prop} (B : Begins v o H) (h1 : H s.heap)
    (h : ∀ h', IsEnum h' (s.heap.objs.size + 1) s.heap.objs.size 0 .none → h'.get? s.heap.objs.size = some o → h'.objs.size = s.heap.objs.size + 2 →
      (∀ b o, s.heap.get? b = some o → h'.get? b = some o) → Q (.ref (s.heap.objs.size + 1)) { s with heap := h' }) :
    wpAny (model prog w) A (call (.type "enumerate") [v]) Q E s := by
  refine callType_new F.called_enumerate (by decide) (F.typeCall_enumerate_1 _) (F.newCall_enumerate_1 _) (fun obj => F.args_object_init_2 obj _) F.entry_enumerate_new
    (meets_enumerate_newB1 B) ⟨h1, ?_⟩
  have hz : (s.heap.push o).objs.size = s.heap.objs.size + 1 := Heap.size_push ..
  show _ ∧ _
  rw [hz]
  have he : IsEnum ((s.heap.push o).push { cls := .type "enumerate", data := .fields #[.none, .bool false, .ref s.heap.objs.size, rawInt 0, .none, .none] }) (s.heap.objs.size + 1) s.heap.objs.size 0 .none := by
    have := Heap.get?_push_size (s.heap.push o) (o := { cls := .type "enumerate", data := .fields #[.none, .bool false, .ref s.heap.objs.size, rawInt 0, .none, .none] }) rfl
    rw [hz] at this; exact this
  refine ⟨⟨_, he, rfl⟩, h _ he (Heap.get?_push_of_some _ (Heap.get?_push_size _ B.free)) (by rw [Heap.size_push, hz]) fun b o x => Heap.get?_push_of_some _ (Heap.get?_push_of_some _ x)⟩
def iEnumK (K : PySem.W.Frag) (ta : TA) : TI := fun σ H R => ta σ H fun vs H1 => ∃ k xs, vs = [.ref (Sk.ad k)] ∧ k.hs K H1 xs ∧ (xs.length ≤ sizeLine → R (Itn K k) H1)
theorem pi_enumK {X : Cx} {e : Expr} {ta : TA} {p pos tpos : Pos} {elts : List Expr} {kk : Nat} (hg : Gl X "enumerate") (hm : X.mg "enumerate" = none) (ha : PA X [e] ta) (hs : starEach [e] X.env = [(false, eval e X.env)]) :
    PI X (.Tuple elts kk tpos) (.Call (.Name "enumerate" p) [e] [] pos) (iEnumK X.K ta) := by
  refine ⟨fun pins s σ H R I h => ?_⟩
  refine Call_ (ld_blt I hg hm boot_enumerate (PyProof.Rows.callWith_type1 (thn (ha.run pos pins s σ H _ I h) fun us s1 ⟨vs, H1, I1, r1, q1⟩ => ?_) hs rfl))
  obtain ⟨k, xs, ex, hx, q⟩ := q1
  subst ex
  cases r1 with
  | cons r rr =>
    cases rr
    cases r
    obtain ⟨its, rv, p1, hzx, l1⟩ := k.get I1 hx
    refine enum_begins1 (k.begins its.toArray) p1 fun h' he hit hsz hk => wpAny_pyIter_enum he ?_
    have I2 : Inv X pins σ H1 { s1 with heap := h' } := I1.kept (t' := s1.toks) hk
    refine ⟨s1.heap.objs.size + 1, [s1.heap.objs.size + 1, s1.heap.objs.size], _, _, H1, rfl, I2, turn_enumK l1, ⟨⟨.none, he⟩, Sk.itNew hit⟩, fun b hb => ?_, q hzx⟩
    have e' : b = s1.heap.objs.size + 1 ∨ b = s1.heap.objs.size := by simpa using hb
    have hle : s1.heap.objs.size ≤ b := by
      rcases e' with z | z
      · rw [z]; exact Nat.le_add_right _ _
      · rw [z]; exact Nat.le_refl _
    exact I1.fpOk hle (I1.hok.fresh hle)
end Sw

set_option linter.all false
set_option maxRecDepth 100000
set_option maxHeartbeats 1000000
namespace Sw
open PySem L2 PySem.Spec PyProof.Rows
def spC (c : Ct) (C : Nat → List S → Store → Res S) (i : Nat) : Sp := fun vs H Q E => ∃ g st as, RelSt c g st H ∧ RelL c g st H as vs ∧ PostG c E g st H (MS c) (C i as st) Q
def kwL {α : Type} (ps : List Str) (n : Nat) (ks : List Str) (vs zs : List α) : List α := match kwG ps n ks zs with
  | some l => vs ++ l
  | none => vs
def bnames : List Str := ["len", "tuple", "all", "any", "sum", "abs", "int", "str", "bool", "min", "max", "isinstance", "list", "dict", "range", "zip", "enumerate", "sorted", "set"]
def isV (sc : Scope) (x : Str) : Bool := match sc.names.lookup x with
  | some .local => true
  | some .cell => true
  | some .free => true
  | _ => false
def isL (sc : Scope) (x : Str) : Bool := match sc.names.lookup x with
  | some .local => true
  | some .cell => true
  | _ => false
def isG (sc : Scope) (x : Str) : Bool := match sc.names.lookup x with
  | some .globalImplicit => true
  | _ => false
def nodb (x : Str) : Bool := !(x == ("__debug__" : Str)) && !(x == ("__classdict__" : Str)) && decide (x ≠ "__name__")
theorem nodb_ok {x : Str} (h : nodb x = true) : (x == ("__debug__" : Str)) = false ∧ (x == ("__classdict__" : Str)) = false ∧ x ≠ "__name__" := by
  unfold nodb at h
  simp only [Bool.and_eq_true, Bool.not_eq_true', decide_eq_true_eq] at h
  exact ⟨h.1.1, h.1.2, h.2⟩
structure CatF (K : PySem.W.Frag) (mg : Str → Option Value) (x : Str) (CS : Addr) : Prop where
  ex : ∃ (a e fnd er : Str) (g : Addr) (pg : Arguments) (sg : Scope) (dV kV doc pm cdv ct oc : Value) (an od : Option Addr) (osl : Array (Option Value)) (j : Nat) (p1 p2 p3 p4 p5 p6 p7 p8 p9 q1 q2 q3 q4 q5 : Pos),
    mg x = some (.ref g) ∧ PySem.W.keepIn K (.ref g) = true ∧
    K.lookup g = some ⟨oc, od, .func (PySem.W.fnOf x x pg [.Assign [.Name fnd p1] (.Constant .none j p2) p3, .Try [.Expr (.Call (.Name a p4) [] [] p5) p6] [.ExceptHandler (some (.Name e p7)) (some er) [.Assign [.Name fnd p8] (.Name er p9) q1] q2] [] [] q3, .Return (some (.Name fnd q4)) q5] sg dV kV doc pm an cdv ct), osl⟩ ∧
    PySem.W.codeIn K cdv x = true ∧
    Binds K (PySem.W.fnOf x x pg [.Assign [.Name fnd p1] (.Constant .none j p2) p3, .Try [.Expr (.Call (.Name a p4) [] [] p5) p6] [.ExceptHandler (some (.Name e p7)) (some er) [.Assign [.Name fnd p8] (.Name er p9) q1] q2] [] [] q3, .Return (some (.Name fnd q4)) q5] sg dV kV doc pm an cdv ct) [a] [] ∧
    FnScope [a, fnd, er] [a] sg ∧ [a, fnd, er].Nodup ∧ Vis sg a ∧ sg.names.lookup e = some .globalImplicit ∧ sg.names.lookup fnd = some .local ∧ sg.names.lookup er = some .local ∧ mg e = some (.ref CS) ∧
    (e == ("__debug__" : Str)) = false ∧ nodb fnd = true ∧ nodb er = true ∧ nodb a = true
structure CatM (c : Ct) (G : Gt) (K : PySem.W.Frag) (mg : Str → Option Value) (x : Str) : Prop where
  ex : ∃ CS, CatF K mg x CS ∧ ∀ ci, ci < G.ks.length → PySem.W.exmOne K (.ref (c.cad ci)) (.ref CS) = some true
structure ExcM (c : Ct) (G : Gt) (K : PySem.W.Frag) (mg : Str → Option Value) : Prop where
  is_ : ∀ (i : Nat) (x : Str), G.ks[i]? = some x → mg x = some (.ref (c.cad i)) ∧ ExcC K (c.cad i) ∧ PySem.W.kitOne K (.type "NoneType") (.ref (c.cad i)) = some false ∧ ∀ j, j < G.ks.length → PySem.W.kitOne K (.ref (c.cad j)) (.ref (c.cad i)) = some (G.sub j i)
  rs : ∀ i, i ∈ G.rz → PySem.W.excIn K (c.cad i) He.veBase "ValueError.__new__" = true ∧ PySem.W.keepIn K (.ref (c.cad i)) = true ∧ PySem.W.subIn K (.ref (c.cad i)) (.type "BaseException") = some true ∧ PySem.W.typeIn K (.ref (c.cad i)) = some (.type "type")
def noPar : Arguments → Bool
  | ⟨[], [], none, [], [], none, []⟩ => true
  | _ => false
def owF (lm : Bool) (sc : Scope) : Scope := { sc with isCoroutine := !lm }
def owC (ow sc : Scope) : Scope := { sc with isCoroutine := ow.isCoroutine }
structure Gd (c : Ct) (G : Gt) (C : Nat → List S → Store → Res S) (W : XK) (N : List Str) (sc ow : Scope) (X : Cx) : Prop where
  K : X.K = c.K
  calm : X.calm = true
  N : X.N = N
  nd : X.N.Nodup
  sc : X.env.scope = sc
  sto : ∀ x, isL ow x = true → Loc X.env.scope x ∧ (X.fn x = true ∨ X.env.scope.names.lookup x = some .local)
  units : X.A.units + 65 < cLine
  cst : ∀ (i : Nat) (x : Str) (d : D), G.cs[i]? = some (x, d) → ∃ u v, X.mg x = some u ∧ RelV v u ∧ ∀ Y H, Rp c Y H d v
  none_ : ∀ x ∈ bnames, X.mg x = none
  gcd : X.mg "gcd" = some (.builtin "math.gcd")
  fn : ∀ (f : Nat) (x : Str), G.cl[f]? = some x → X.mg x = some (.ref (c.fad f)) ∧ PySem.W.keepIn X.K (.ref (c.fad f)) = true ∧ ∃ k fd, Room k X.A ∧ FnOk X.prog X.w X.K X.mg X.base (L2.CX X.prog X.w) k (c.fad f) fd (G.ps f) (spC c C f) ∧ Binds X.K fd (G.ps f) [] ∧
    ∀ n ks, (f, n, ks) ∈ G.kw → KBn X.K fd (G.ps f) n ks (kwL (G.ps f) n ks) (kwL (G.ps f) n ks)
  tk : Takes X (fun cls d _ H => W cls d H)
  exm : ExcM c G X.K X.mg
  cat : ∀ x, G.ct = some x → CatM c G X.K X.mg x
  lam : ow.isCoroutine = false → ∃ (k : Nat) (cA P : Addr), Room (k + 2) X.A ∧ LamX.TabB X.base X.mg cA P ∧ X.env.code = .ref cA ∧ (P, X.env.qual ++ "<lambda>") ∈ c.T ∧ (∀ p ∈ c.T, p.1 = P → p.2 = X.env.qual ++ "<lambda>") ∧
    ∀ (f : Nat) (x : Str), G.cl[f]? = some x → ∃ fd, FnOk X.prog X.w X.K X.mg X.base (L2.CX X.prog X.w) k (c.fad f) fd (G.ps f) (spC c C f) ∧ Binds X.K fd (G.ps f) [] ∧ ∀ n ks, (f, n, ks) ∈ G.kw → KBn X.K fd (G.ps f) n ks (kwL (G.ps f) n ks) (kwL (G.ps f) n ks)
def nstar : Expr → Bool
  | .Starred _ _ => false
  | _ => true
theorem star_cons {e : Expr} {es : List Expr} {env : PySem.Env} (h : nstar e = true) : starEach (e :: es) env = (false, eval e env) :: starEach es env := by
  cases e <;> first | rfl | exact Bool.noConfusion h
theorem star_plain {env : PySem.Env} {pos : Pos} : ∀ {es : List Expr}, es.all nstar = true → (backTo pos (starEach es env)).any (·.1) = false
  | [], _ => rfl
  | e :: es, h => by
    simp only [List.all_cons, Bool.and_eq_true] at h
    rw [star_cons h.1]
    show (false || (backTo pos (starEach es env)).any (·.1)) = false
    rw [star_plain h.2]
    rfl
section
variable {X : Cx} {c : Ct} {W : XK} {G : Gt} {C : Nat → List S → Store → Res S} {N : List Str} {sc ow : Scope} {a b e : Expr} {es : List Expr} {p pos : Pos} {x : Str} {fa fb : Env → Store → Res S} {fs fk : Env → Store → Res (List S)} {f : Nat}
theorem Gd.gl (D : Gd c G C W N sc ow X) (h : isG sc x = true) : Gl X x := by
  unfold isG at h
  show X.env.scope.names.lookup x = _
  rw [D.sc]
  split at h
  · assumption
  · cases h
theorem Gd.vis (D : Gd c G C W N sc ow X) (h : isV sc x = true) : Vis X.env.scope x := by
  unfold isV at h
  rw [D.sc]
  split at h
  · exact .inl (by assumption)
  · exact .inr (.inl (by assumption))
  · exact .inr (.inr (by assumption))
  · cases h
theorem Gd.passes (D : Gd c G C W N sc ow X) : Passes (L2.CX X.prog X.w) X W := passes_call D.tk fun _ _ _ _ h => h
theorem d_call (D : Gd c G C W N sc ow X) (hf : G.cl[f]? = some x) (hg : isG sc x = true) (hdb : nodb x = true) (hst : (e :: es).all nstar = true) (ha : PA X (e :: es) (RA c W fs)) :
    PE X (.Call (.Name x p) (e :: es) [] pos) (RD c W fun ρ st => (fs ρ st).bind fun xs st1 => C f xs st1) := by
  obtain ⟨hm, hk, k, fd, hr, F, hb, _⟩ := D.fn f x hf
  have h2 := hst
  simp only [List.all_cons, Bool.and_eq_true] at h2
  refine PE_imp (pe_call F hr (D.gl hg) hm hk hb .nil D.passes ha (nodb_ok hdb).1 (star_cons h2.1) (star_plain h2.2)) fun σ H Q ⟨g, ρ, st, Rs, Re, q⟩ => ?_
  refine RG.bind Rs Re q fun xs st1 vs H1 g1 Rs Re K m q => ?_
  rw [List.append_nil]
  exact ⟨g1, st1, xs, Rs, m, q⟩
theorem d_call0 (D : Gd c G C W N sc ow X) (hf : G.cl[f]? = some x) (hg : isG sc x = true) (hdb : nodb x = true) :
    PE X (.Call (.Name x p) [] [] pos) (RD c W fun ρ st => (Res.ok ([] : List S) st).bind fun xs st1 => C f xs st1) := by
  obtain ⟨hm, hk, k, fd, hr, F, hb, _⟩ := D.fn f x hf
  refine PE_imp (pe_call0 F hr (D.gl hg) hm hk hb .nil D.passes (nodb_ok hdb).1) fun σ H Q ⟨g, ρ, st, Rs, Re, q⟩ => ?_
  exact ⟨g, st, [], Rs, trivial, q⟩
structure KwOk (kws : List Keyword) (ks : List Str) : Prop where
  eq : kws.map (fun k => match k with | ⟨n, _, _⟩ => n) = ks.map some
theorem kw_each {env : PySem.Env} : ∀ {kws : List Keyword}, (keywordEach kws env).map (·.1) = kws.map (fun k => match k with | ⟨n, _, _⟩ => n)
  | [] => rfl
  | ⟨n, v, q⟩ :: r => congrArg (n :: ·) (kw_each (kws := r))
theorem kw_back {pos : Pos} {l : List (Option Str × Sem Value)} : (backToKw pos l).map (·.1) = l.map (·.1) := by
  unfold backToKw
  rw [List.map_map]
  rfl
theorem kw_names {kws : List Keyword} {ks : List Str} {env : PySem.Env} {pos : Pos} (h : KwOk kws ks) : (backToKw pos (keywordEach kws env)).map (·.1) = ks.map some := by
  rw [kw_back, kw_each, h.eq]
theorem names_all {β : Type} : ∀ {l : List (Option Str × β)} {ks : List Str}, l.map (·.1) = ks.map some → l.all (·.1.isSome) = true ∧ l.filterMap (·.1) = ks ∧ l.any (·.1.isNone) = false
  | [], [], _ => ⟨rfl, rfl, rfl⟩
  | [], _ :: _, h => by cases h
  | _ :: _, [], h => by cases h
  | (n, v) :: l, k :: ks, h => by
    simp only [List.map_cons, List.cons.injEq] at h
    obtain ⟨h1, h2⟩ := h
    obtain ⟨a, b, d⟩ := names_all h2
    have h1 : n = some k := h1
    subst h1
    exact ⟨by simpa using a, by simp [b], by simpa using d⟩
theorem lookup_rel {g : Gh} {st : Store} {H : Hp} {bb : Nat} {k : Str} : ∀ {ks : List Str} {ys : List S} {vs : List V} {s : S}, RelLb c g st H bb ys vs → (ks.zip ys).lookup k = some s → ∃ v, (ks.zip vs).lookup k = some v ∧ RelSb c g st H bb s v
  | [], _, _, _, _, h => by simp at h
  | _ :: _, [], _, _, _, h => by simp at h
  | q :: ks, y :: ys, v :: vs, s, r, h => by
    simp only [List.zip_cons_cons, List.lookup_cons] at h ⊢
    split at h
    · rename_i e
      cases h
      exact ⟨v, rfl, r.1⟩
    · rename_i e
      exact lookup_rel r.2 h
theorem mapM_rel {g : Gh} {st : Store} {H : Hp} {bb : Nat} {f : Str → Option S} {h : Str → Option V} (hf : ∀ k s, f k = some s → ∃ v, h k = some v ∧ RelSb c g st H bb s v) : ∀ {ks : List Str} {zs : List S}, ks.mapM f = some zs → ∃ us, ks.mapM h = some us ∧ RelLb c g st H bb zs us
  | [], zs, e => by
    simp only [List.mapM_nil] at e
    cases e
    exact ⟨[], rfl, trivial⟩
  | k :: ks, zs, e => by
    rw [List.mapM_cons] at e
    simp only [Option.bind_eq_bind, Option.bind_eq_some_iff] at e
    obtain ⟨s, e1, zs', e2, e3⟩ := e
    cases e3
    obtain ⟨v, h1, h2⟩ := hf k s e1
    obtain ⟨us, h3, h4⟩ := mapM_rel hf e2
    refine ⟨v :: us, ?_, h2, h4⟩
    rw [List.mapM_cons, h1, h3]
    rfl
theorem kwG_rel {g : Gh} {st : Store} {H : Hp} {bb : Nat} {ps ks : List Str} {n : Nat} {ys zs : List S} {vs : List V} (r : RelLb c g st H bb ys vs) (h : kwG ps n ks ys = some zs) : ∃ us, kwG ps n ks vs = some us ∧ RelLb c g st H bb zs us :=
  mapM_rel (fun _ _ e => lookup_rel r e) h
theorem d_callk {ks : List Str} {kws : List Keyword} (D : Gd c G C W N sc ow X) (hf : G.cl[f]? = some x) (hg : isG sc x = true) (hdb : nodb x = true) (hst : (e :: es).all nstar = true) (hn : ∀ ρ st xs st', fs ρ st = .ok xs st' → xs.length = (e :: es).length) (hkw : (f, (e :: es).length, ks) ∈ G.kw) (hk2 : KwOk kws ks)
    (ha : PA X (e :: es) (RA c W fs)) (hk : PK X kws (RA c W fk)) :
    PE X (.Call (.Name x p) (e :: es) kws pos) (RD c W fun ρ st => (fs ρ st).bind fun xs st1 => (fk ρ st1).bind fun ys st2 => match kwG (G.ps f) xs.length ks ys with
      | some zs => if ks.length = ys.length then C f (xs ++ zs) st2 else .bad
      | none => .bad) := by
  obtain ⟨hm, hk', k, fd, hr, F, hb, hkb⟩ := D.fn f x hf
  have h2 := hst
  simp only [List.all_cons, Bool.and_eq_true] at h2
  have nm := kw_names (env := X.env) (pos := pos) hk2
  obtain ⟨n1, n2, n3⟩ := names_all nm
  refine PE_imp (pe_callN F hr (D.gl hg) hm hk' (hkb _ _ hkw) D.passes ha hk n1 n2 (nodb_ok hdb).1 (star_cons h2.1) (by rw [star_plain hst, n3]; rfl)) fun σ H Q ⟨g, ρ, st, Rs, Re, q⟩ => ?_
  refine RG.bindE Rs Re q fun xs st1 vs H1 g1 ef Rs Re K m q => ?_
  refine RG.bind Rs Re q fun ys st2 us H2 g2 Rs2 Re2 K2 m2 q => ?_
  have hl := hn _ _ _ _ ef
  split at q
  · rename_i zs ez
    split at q
    · rename_i el
      refine ⟨by rw [← RelLb.length m]; exact hl, by rw [← RelLb.length m2]; exact el.symm, ?_⟩
      rw [hl] at ez
      obtain ⟨ws, e1, e2⟩ := kwG_rel m2 ez
      unfold kwL
      rw [e1]
      exact ⟨g2, st2, _, Rs2, RelLb.app (m.move K2) e2, q⟩
    · exact q.elim
  · exact q.elim
theorem pe_callN0 {CX' : CXT} {k : Nat} {f : Addr} {fd : FuncData} {ps ks : List Str} {sp : Sp} {E : XK} {kws : List Keyword} {tk : TA} {g : List Value → List Value → List Value} {gV : List V → List V → List V} (F : FnOk X.prog X.w X.K X.mg X.base CX' k f fd ps sp) (hr : Room k X.A) (hg : Gl X x) (hm : X.mg x = some (.ref f)) (hk : PySem.W.keepIn X.K (.ref f) = true) (hb : KBn X.K fd ps 0 ks g gV) (hx : Passes CX' X E)
    (hkw : PK X kws tk) (hall : (backToKw pos (keywordEach kws X.env)).all (·.1.isSome) = true) (hks : (backToKw pos (keywordEach kws X.env)).filterMap (·.1) = ks)
    (hdb : (x == ("__debug__" : Str)) = false) (hpl : (backToKw pos (keywordEach kws X.env)).any (·.1.isNone) = false) :
    PE X (.Call (.Name x p) [] kws pos) (tCallN 0 ks.length sp gV E tNil tk) := by
  refine ⟨fun pins s σ H Q I h => ?_⟩
  refine wpAny_Call_Name_kw (ld_glob I hg hm ?_ hdb)
  refine PySem.W.callWith_KW0 (h₀ := X.base) I.ok.mod.kin hk hall ?_ (by show (false || _) = false; rw [hpl]; rfl)
  refine thn (hkw.run pos pins s σ H _ I h) fun ws s2 ⟨zs, H2, I2, rz, l1, l2, q2⟩ => ⟨I2.kIn, ?_⟩
  rw [hks]
  exact run_fnN (us := []) (vs := []) F hr hb hx I2 .nil rz rfl l2 q2
theorem d_callk0 {ks : List Str} {kws : List Keyword} (D : Gd c G C W N sc ow X) (hf : G.cl[f]? = some x) (hg : isG sc x = true) (hdb : nodb x = true) (hkw : (f, 0, ks) ∈ G.kw) (hk2 : KwOk kws ks) (hk : PK X kws (RA c W fk)) :
    PE X (.Call (.Name x p) [] kws pos) (RD c W fun ρ st => (Res.ok ([] : List S) st).bind fun xs st1 => (fk ρ st1).bind fun ys st2 => match kwG (G.ps f) xs.length ks ys with
      | some zs => if ks.length = ys.length then C f (xs ++ zs) st2 else .bad
      | none => .bad) := by
  obtain ⟨hm, hk', k, fd, hr, F, hb, hkb⟩ := D.fn f x hf
  have nm := kw_names (env := X.env) (pos := pos) hk2
  obtain ⟨n1, n2, n3⟩ := names_all nm
  refine PE_imp (pe_callN0 F hr (D.gl hg) hm hk' (hkb _ _ hkw) D.passes hk n1 n2 (nodb_ok hdb).1 n3) fun σ H Q ⟨g, ρ, st, Rs, Re, q⟩ => ?_
  refine RG.bind Rs Re q fun ys st2 us H2 g2 Rs2 Re2 K2 m2 q => ?_
  split at q
  · rename_i zs ez
    split at q
    · rename_i el
      refine ⟨rfl, by rw [← RelLb.length m2]; exact el.symm, ?_⟩
      obtain ⟨ws, e1, e2⟩ := kwG_rel m2 ez
      have e1' : kwG (G.ps f) 0 ks us = some ws := e1
      unfold kwL
      rw [e1']
      exact ⟨g2, st2, _, Rs2, e2, q⟩
    · exact q.elim
  · exact q.elim
theorem PK_imp {kws : List Keyword} {t t' : TA} (h : PK X kws t) (i : ∀ σ H Q, t' σ H Q → t σ H Q) : PK X kws t' := ⟨fun pos pins s σ H Q I q => h.run pos pins s σ H Q I (i σ H Q q)⟩
theorem k_nil : PK X [] (RA c W fun _ st => .ok [] st) := PK_imp pk_nil fun σ H Q ⟨g, ρ, st, Rs, Re, p⟩ => p.now Rs trivial
theorem k_cons {nm : Option Str} {kp : Pos} {kws : List Keyword} (ha : PE X e (RD c W fa)) (hr : PK X kws (RA c W fs)) :
    PK X (⟨nm, e, kp⟩ :: kws) (RA c W fun ρ st => (fa ρ st).bind fun x st1 => (fs ρ st1).bind fun xs st2 => .ok (x :: xs) st2) := by
  refine PK_imp (pk_cons ha hr) fun σ H Q ⟨g, ρ, st, Rs, Re, p⟩ => ?_
  refine RG.bind Rs Re p fun x st1 v H1 g1 Rs Re K m p => ?_
  refine RG.bind Rs Re p fun y st2 u H2 g2 Rs2 Re2 K2 m2 p => ?_
  exact p.now Rs2 ⟨m.move K2, m2⟩
def Bl.nm : Bl → Str
  | .len => "len" | .tuple => "tuple" | .all => "all" | .any => "any" | .sum => "sum" | .abs => "abs" | .int => "int" | .str => "str" | .min => "min" | .max => "max" | .gcd => "gcd"
theorem d_bl (D : Gd c G C W N sc ow X) (bl : Bl) (hx : x = bl.nm) (hg : isG sc x = true) (hst : (e :: es).all nstar = true) (ha : PA X (e :: es) (RA c W fs)) :
    PE X (.Call (.Name x p) (e :: es) [] pos) (RD c W fun ρ st => (fs ρ st).bind fun xs st1 => need (blSem bl xs st1) st1) := by
  have h2 := hst
  simp only [List.all_cons, Bool.and_eq_true] at h2
  have s1 := star_cons (es := es) (env := X.env) h2.1
  have s2 := star_plain (env := X.env) (pos := pos) h2.2
  have r := o_bl (X := X) (W := W) (c := c) D.K D.calm bl
  have nn : ∀ y, y ∈ bnames → X.mg y = none := D.none_
  have base : PE X (.Call (.Name x p) (e :: es) [] pos) (tCB (rBl c W bl) (RA c W fs)) := by
    subst hx
    cases bl
    · exact pe_callB r (D.gl hg) (nn _ (by decide)) boot_len ha (by decide) (by decide) s1 s2
    · exact pe_callTy r (D.gl hg) (nn _ (by decide)) boot_tuple ha (by decide) (by decide) s1 s2
    · exact pe_callB r (D.gl hg) (nn _ (by decide)) boot_all ha (by decide) (by decide) s1 s2
    · exact pe_callB r (D.gl hg) (nn _ (by decide)) boot_any ha (by decide) (by decide) s1 s2
    · exact pe_callB r (D.gl hg) (nn _ (by decide)) boot_sum ha (by decide) (by decide) s1 s2
    · exact pe_callB r (D.gl hg) (nn _ (by decide)) boot_abs ha (by decide) (by decide) s1 s2
    · exact pe_callTy r (D.gl hg) (nn _ (by decide)) boot_int ha (by decide) (by decide) s1 s2
    · exact pe_callTy r (D.gl hg) (nn _ (by decide)) boot_str ha (by decide) (by decide) s1 s2
    · exact pe_callB r (D.gl hg) (nn _ (by decide)) boot_min ha (by decide) (by decide) s1 s2
    · exact pe_callB r (D.gl hg) (nn _ (by decide)) boot_max ha (by decide) (by decide) s1 s2
    · exact pe_callBfun r (D.gl hg) D.gcd ha (by decide) s1 s2
  refine PE_imp base fun σ H Q ⟨g, ρ, st, Rs, Re, q⟩ => ?_
  refine RG.bind Rs Re q fun xs st1 vs H1 g1 Rs Re K m q => ?_
  exact ⟨g1, st1, xs, Rs, m, q⟩
def Ty.nm : Ty → Str
  | .int => "int" | .bool => "bool" | .str => "str" | .tuple => "tuple" | .list => "list" | .dict => "dict" | .cls _ => ""
theorem pe_ty (D : Gd c G C W N sc ow X) {t : Ty} (ht : t.plain = true) {q : Pos} (hx : x = t.nm) (hg : isG sc x = true) : PE X (.Name x q) (tC (t.v c)) := by
  subst hx
  have nn : ∀ y, y ∈ bnames → X.mg y = none := D.none_
  cases t
  · exact pe_bltn (D.gl hg) (nn _ (by decide)) boot_int rfl (by decide) (by decide)
  · exact pe_bltn (D.gl hg) (nn _ (by decide)) boot_bool rfl (by decide) (by decide)
  · exact pe_bltn (D.gl hg) (nn _ (by decide)) boot_str rfl (by decide) (by decide)
  · exact pe_bltn (D.gl hg) (nn _ (by decide)) boot_tuple rfl (by decide) (by decide)
  · exact pe_bltn (D.gl hg) (nn _ (by decide)) boot_list rfl (by decide) (by decide)
  · exact pe_bltn (D.gl hg) (nn _ (by decide)) boot_dict rfl (by decide) (by decide)
  · exact Bool.noConfusion ht
theorem kitAny_one {K : PySem.W.Frag} {t u : Value} : PySem.W.kitAny K t [u] = PySem.W.kitOne K t u := by
  unfold PySem.W.kitAny
  cases PySem.W.kitOne K t u with
  | none => rfl
  | some b => cases b <;> rfl
theorem nexc_ok {x : S} (h : nexc x = true) : ∀ i fs vs, x ≠ .v (.exc i fs vs) := by
  rintro i fs vs rfl
  exact Bool.noConfusion h
theorem d_isi1 (D : Gd c G C W N sc ow X) {t : Ty} (ht : t.plain = true) {y : Str} {q : Pos} (hx : x = "isinstance") (hy : y = t.nm) (hg : isG sc x = true) (hgy : isG sc y = true) (hst : nstar e = true) (ha : PE X e (RD c W fa)) :
    PE X (.Call (.Name x p) [e, .Name y q] [] pos) (RD c W fun ρ st => (fa ρ st).bind fun x st1 => if nexc x then need ((isiSem x st1 [t]).map fun b => S.v (.bl b)) st1 else .bad) := by
  subst hx
  have st2 : ([.Name y q] : List Expr).all nstar = true := rfl
  refine PE_imp (pe_callB call_isi (D.gl hg) (D.none_ _ (by decide)) boot_isinstance (pa_cons ha (pa_cons (pe_ty D ht hy hgy) pa_nil (star_cons rfl)) (star_cons hst)) (by decide) (by decide) (star_cons hst) (star_plain st2)) fun σ H Q ⟨g, ρ, st, Rs, Re, z⟩ => ?_
  refine RG.bind Rs Re z fun s st1 v H1 g1 Rs Re K m z => ?_
  split at z
  · rename_i hx
    show rIsi X.K [v, t.v c] H1 Q
    cases e2 : isiSem s st1 [t] with
    | none => rw [e2] at z; exact z.elim
    | some k =>
      rw [e2] at z
      obtain ⟨tv, h1, h2⟩ := isi_ok Rs m (nexc_ok hx) (by simp) e2 (fun t' h => by rw [List.mem_singleton.mp h]; exact ht)
      rw [List.map_cons, List.map_nil, kitAny_one, ← D.K] at h2
      rw [← D.K] at h1
      exact ⟨v, t.v c, tv, t.u c, k, rfl, t.clsV c, h1, h2, z.now Rs (by simp only [RelSb, Rp])⟩
  · exact z.elim
def tyNames (N : List Str) (sc : Scope) : List Ty → List Expr → Bool
  | [], [] => true
  | t :: ts, .Name x _ :: es => t.plain && decide (x = t.nm) && isG sc x && tyNames N sc ts es
  | _, _ => false
def tTys : List Ty → Ct → TA
  | [], _ => tNil
  | t :: ts, c => tCons (tC (t.v c)) (tTys ts c)
theorem pa_tys (D : Gd c G C W N sc ow X) : ∀ {ts : List Ty} {es : List Expr}, tyNames N sc ts es = true → PA X es (tTys ts c) ∧ (∀ t ∈ ts, t.plain = true)
  | [], [], _ => ⟨pa_nil, fun _ h => nomatch h⟩
  | t :: ts, .Name x q :: es, h => by
    simp only [tyNames, Bool.and_eq_true, decide_eq_true_eq] at h
    obtain ⟨⟨⟨h1, h2⟩, h3⟩, h4⟩ := h
    obtain ⟨a, b⟩ := pa_tys D h4
    refine ⟨pa_cons (pe_ty D h1 h2 h3) a (star_cons rfl), fun t' ht => ?_⟩
    rcases List.mem_cons.mp ht with rfl | ht
    · exact h1
    · exact b _ ht
theorem tTys_run {σ : L2.St} : ∀ {ts : List Ty} {H : Hp} {Q : List V → Hp → Prop}, Q (ts.map (Ty.v c)) H → tTys ts c σ H Q
  | [], _, _, h => h
  | t :: ts, H, Q, h => by
    show tTys ts c σ H fun vs H1 => Q (t.v c :: vs) H1
    exact tTys_run (Q := fun vs H1 => Q (t.v c :: vs) H1) h
theorem clsV_all : ∀ ts : List Ty, Paired ClsV (ts.map (Ty.v c)) (ts.map (Ty.u c))
  | [] => .nil
  | t :: ts => .cons (t.clsV c) (clsV_all ts)
theorem d_isiT (D : Gd c G C W N sc ow X) {ts : List Ty} {l : List Expr} {k : Nat} {q : Pos} (hts : tyNames N sc ts l = true) (hne : ts ≠ []) (hlen : ts.length ≤ 100) (hx : x = "isinstance") (hg : isG sc x = true) (hst : nstar e = true) (ha : PE X e (RD c W fa)) :
    PE X (.Call (.Name x p) [e, .Tuple l k q] [] pos) (RD c W fun ρ st => (fa ρ st).bind fun x st1 => if nexc x then need ((isiSem x st1 ts).map fun b => S.v (.bl b)) st1 else .bad) := by
  subst hx
  have st2 : ([.Tuple l k q] : List Expr).all nstar = true := rfl
  obtain ⟨pa, hp⟩ := pa_tys D hts
  refine PE_imp (pe_callB call_isiT (D.gl hg) (D.none_ _ (by decide)) boot_isinstance (pa_cons ha (pa_cons (pe_tup pa) pa_nil (star_cons rfl)) (star_cons hst)) (by decide) (by decide) (star_cons hst) (star_plain st2)) fun σ H Q ⟨g, ρ, st, Rs, Re, z⟩ => ?_
  refine RG.bind Rs Re z fun s st1 v H1 g1 Rs Re K m z => ?_
  show tTys ts c σ H1 fun xs H2 => xs.length ≤ sizeLine ∧ ∀ p, H2 p = none → rIsiT X.K [v, .ref p] (upd H2 p (.tup xs)) Q
  refine tTys_run ⟨by rw [List.length_map, sizeLine_eq]; omega, fun T hT => ?_⟩
  split at z
  · rename_i hx
    cases e2 : isiSem s st1 ts with
    | none => rw [e2] at z; exact z.elim
    | some kk =>
      rw [e2] at z
      have m' := RelS.move (Keeps.new (g := g1) (st := st1) (o := .tup (ts.map (Ty.v c))) hT) m
      obtain ⟨tv, h1, h2⟩ := isi_ok (Rs.new hT) m' (nexc_ok hx) hne e2 hp
      rw [← D.K] at h1 h2
      exact ⟨v, T, ts.map (Ty.v c), tv, ts.map (Ty.u c), kk, rfl, upd_same, clsV_all ts, h1, h2, z.new Rs hT (by simp only [RelSb, Rp])⟩
  · exact z.elim
def Mt.nm : Mt → Str
  | .append => "append" | .pop => "pop" | .insert => "insert" | .extend => "extend" | .index => "index" | .get => "get" | .join => "join" | .upper => "upper"
def Mt.T : Mt → String
  | .get => "dict"
  | .join => "str" | .upper => "str"
  | _ => "list"
theorem mt_facts (m : Mt) : PlainAttrs m.T ∧ Slot m.T m.nm m.id ∧ typeOf (.builtin m.id) = pure (.type "method_descriptor") := by
  cases m
  · exact ⟨F.plainAttrs_list, F.slot_list_append, F.type_list_append⟩
  · exact ⟨F.plainAttrs_list, F.slot_list_pop, F.type_list_pop⟩
  · exact ⟨F.plainAttrs_list, F.slot_list_insert, F.type_list_insert⟩
  · exact ⟨F.plainAttrs_list, F.slot_list_extend, F.type_list_extend⟩
  · exact ⟨F.plainAttrs_list, F.slot_list_index, F.type_list_index⟩
  · exact ⟨F.plainAttrs_dict, F.slot_dict_get, F.type_dict_get⟩
  · exact ⟨F.plainAttrs_str, F.slot_str_join, F.type_str_join⟩
  · exact ⟨F.plainAttrs_str, F.slot_str_upper, F.type_str_upper⟩
theorem mthTy_ok {g : Gh} {st : Store} {H : Hp} {m : Mt} {s : S} {v : V} {K : PySem.W.Frag} (R : RelSt c g st H) (r : RelS c g st H s v) (h : mthTy m s st = true) : tyV K m.T v H := by
  have lst : ∀ n, (match st[n]? with | some (some (.lst _)) => true | _ => false) = true → ∃ xs, H (g.ph n) = some (.lst xs) := fun n h => by
    split at h
    · rename_i xs e
      obtain ⟨h1, h2, vs, rfl, _⟩ := R.ob n _ e
      exact ⟨vs, h2⟩
    · cases h
  have dic : ∀ n, (match st[n]? with | some (some (.dic _ _)) => true | _ => false) = true → ∃ xs, H (g.ph n) = some (.dK xs) := fun n h => by
    split at h
    · rename_i xs ys e
      obtain ⟨h1, h2, kk, vs, _, _, _, _, rfl⟩ := R.ob n _ e
      exact ⟨_, h2⟩
    · cases h
  cases s with
  | r n =>
    obtain ⟨rfl, _⟩ := r
    cases m
    all_goals first
      | exact Bool.noConfusion h
      | (obtain ⟨xs, e⟩ := lst n h; exact .inl ⟨rfl, xs, .inl (.inl e)⟩)
      | (obtain ⟨xs, e⟩ := dic n h; exact .inr (.inr (.inl ⟨rfl, .inl ⟨xs, e⟩⟩)))
  | v d =>
    cases d with
    | str z =>
      cases m
      all_goals first
        | exact Bool.noConfusion h
        | (simp only [RelS, RelSb, Rp] at r
           rw [r.1]
           rfl)
    | lst ds =>
      cases m
      all_goals first
        | exact Bool.noConfusion h
        | (simp only [RelS, RelSb, Rp] at r
           obtain ⟨a, vs, rfl, _, e, _⟩ := r
           exact .inl ⟨rfl, vs, .inl (.inl e)⟩)
    | _ => cases m <;> exact Bool.noConfusion h
theorem att_base {o : Expr} {m : Str} {env : PySem.Env} {wh : Sem Value} (h : (match o with | .Call (.Name id _) [] [] _ => !(id == ("super" : Str)) | _ => true) = true) : attributeBase o m env wh = wh := by
  unfold attributeBase
  split
  · rename_i id a b
    have h1 : (id != ("super" : Str)) = true := h
    rw [h1]
    rfl
  · rfl
def okBase : Expr → Bool
  | .Call (.Name id _) [] [] _ => !(id == ("super" : Str))
  | _ => true
theorem d_mth (D : Gd c G C W N sc ow X) (m : Mt) {o : Expr} {apos cpos : Pos} {fo : Env → Store → Res S} (hx : x = m.nm) (hb : okBase o = true) (hl : (apos.endLine == cpos.line) = true) (hst : (e :: es).all nstar = true) (h30 : (e :: es).length < 30) (ho : PE X o (RD c W fo)) (ha : PA X (e :: es) (RA c W fs)) :
    PE X (.Call (.Attribute o x apos) (e :: es) [] cpos) (RD c W fun ρ st => (fo ρ st).bind fun x st1 => if mthTy m x st1 then (fs ρ st1).bind fun xs st2 => mthSem m x xs st2 else .bad) := by
  subst hx
  obtain ⟨f1, f2, f3⟩ := mt_facts m
  have h2 := hst
  simp only [List.all_cons, Bool.and_eq_true] at h2
  have few : ((backTo cpos (starEach (e :: es) X.env)).all (fun x => !x.1) && (backToKw cpos (keywordEach [] X.env)).all (fun x => x.1.isSome)
      && decide ((e :: es).length + ([] : List Keyword).length + (if ([] : List Keyword).isEmpty then 0 else 1) < 30)) = true := by
    have e1 := star_plain (env := X.env) (pos := cpos) hst
    have e2 : (backTo cpos (starEach (e :: es) X.env)).all (fun x => !x.1) = true := by
      rw [List.all_eq_not_any_not]
      simp only [Bool.not_not]
      rw [e1]
      rfl
    rw [e2]
    simp only [Bool.true_and, Bool.and_eq_true, decide_eq_true_eq]
    exact ⟨rfl, by simpa using h30⟩
  refine PE_imp (pe_bm f1 f2 f3 (r := rMt c W m) (o_mt D.K D.units D.calm m) ho ha (att_base hb) few hl (star_cons h2.1) (star_plain h2.2)) fun σ H Q ⟨g, ρ, st, Rs, Re, z⟩ => ?_
  refine RG.bind Rs Re z fun s st1 v H1 g1 Rs Re K k z => ?_
  split at z
  · rename_i ht
    refine ⟨mthTy_ok Rs k ht, ?_⟩
    refine RG.bind Rs Re z fun xs st2 vs H2 g2 Rs2 Re2 K2 k2 z => ?_
    exact ⟨g2, st2, s, xs, Rs2, k.move K2, k2, z⟩
  · exact z.elim
theorem d_mth0 (D : Gd c G C W N sc ow X) (m : Mt) {o : Expr} {apos cpos : Pos} {fo : Env → Store → Res S} (hx : x = m.nm) (hb : okBase o = true) (hl : (apos.endLine == cpos.line) = true) (ho : PE X o (RD c W fo)) :
    PE X (.Call (.Attribute o x apos) [] [] cpos) (RD c W fun ρ st => (fo ρ st).bind fun x st1 => if mthTy m x st1 then (Res.ok ([] : List S) st1).bind fun xs st2 => mthSem m x xs st2 else .bad) := by
  subst hx
  obtain ⟨f1, f2, f3⟩ := mt_facts m
  refine PE_imp (pe_bm0 f1 f2 f3 (r := rMt c W m) (o_mt D.K D.units D.calm m) ho (att_base hb) hl) fun σ H Q ⟨g, ρ, st, Rs, Re, z⟩ => ?_
  refine RG.bind Rs Re z fun s st1 v H1 g1 Rs Re K k z => ?_
  split at z
  · rename_i ht
    exact ⟨mthTy_ok Rs k ht, g1, st1, s, [], Rs, k, trivial, z⟩
  · exact z.elim
theorem d_and1 (ha : PE X a (RD c W fa)) : PE X (.BoolOp .And [a] pos) (RD c W fa) := pe_one ha
theorem d_and (ha : PE X a (RD c W fa)) (hb : PE X (.BoolOp .And (b :: es) pos) (RD c W fb)) :
    PE X (.BoolOp .And (a :: b :: es) pos) (RD c W fun ρ st => (fa ρ st).bind fun x st1 => match x with
      | .v (.bl true) => fb ρ st1
      | .v (.bl false) => .ok (.v (.bl false)) st1
      | _ => .bad) := by
  refine PE_imp (pe_and ha hb) fun σ H Q ⟨g, ρ, st, Rs, Re, p⟩ => ?_
  refine RG.bind Rs Re p fun x st1 v H1 g1 Rs Re K m p => ?_
  split at p
  · simp only [RelS, RelSb, Rp] at m
    exact ⟨true, m, by rw [if_pos rfl]; exact ⟨g1, ρ, st1, Rs, Re, p⟩⟩
  · simp only [RelS, RelSb, Rp] at m
    exact ⟨false, m, by rw [if_neg Bool.false_ne_true]; exact p.now Rs (by simp only [RelSb, Rp])⟩
  · exact p.elim
theorem d_or (ha : PE X a (RD c W fa)) (hb : PE X (.BoolOp .Or (b :: es) pos) (RD c W fb)) :
    PE X (.BoolOp .Or (a :: b :: es) pos) (RD c W fun ρ st => (fa ρ st).bind fun x st1 => match x with
      | .v (.bl false) => fb ρ st1
      | .v (.bl true) => .ok (.v (.bl true)) st1
      | _ => .bad) := by
  refine PE_imp (pe_or ha hb) fun σ H Q ⟨g, ρ, st, Rs, Re, p⟩ => ?_
  refine RG.bind Rs Re p fun x st1 v H1 g1 Rs Re K m p => ?_
  split at p
  · simp only [RelS, RelSb, Rp] at m
    exact ⟨false, m, by rw [if_neg Bool.false_ne_true]; exact ⟨g1, ρ, st1, Rs, Re, p⟩⟩
  · simp only [RelS, RelSb, Rp] at m
    exact ⟨true, m, by rw [if_pos rfl]; exact p.now Rs (by simp only [RelSb, Rp])⟩
  · exact p.elim
theorem PW_imp {e : Expr} {t t' : TT} (h : PW X e t) (i : ∀ σ H Q, t' σ H Q → t σ H Q) : PW X e t' := ⟨fun wh pins s σ H Q I q => h.run wh pins s σ H Q I (i σ H Q q)⟩
theorem w_and {ga gb : Env → Store → Res Bool} (ha : PT X a (RT c W ga)) (hb : PW X (.BoolOp .And (b :: es) pos) (RT c W gb)) :
    PW X (.BoolOp .And (a :: b :: es) pos) (RT c W fun ρ st => (ga ρ st).bind fun k st1 => if k then gb ρ st1 else .ok false st1) := by
  refine PW_imp (pw_and ha hb) fun σ H Q ⟨g, ρ, st, Rs, Re, p⟩ => ?_
  refine RG.bind Rs Re p fun x st1 v H1 g1 Rs Re K m p => ?_
  cases m
  cases x with
  | true => rw [if_pos rfl]; exact ⟨g1, ρ, st1, Rs, Re, p⟩
  | false => rw [if_neg Bool.false_ne_true]; exact p.now Rs rfl
theorem w_or {ga gb : Env → Store → Res Bool} (ha : PT X a (RT c W ga)) (hb : PW X (.BoolOp .Or (b :: es) pos) (RT c W gb)) :
    PW X (.BoolOp .Or (a :: b :: es) pos) (RT c W fun ρ st => (ga ρ st).bind fun k st1 => if k then .ok true st1 else gb ρ st1) := by
  refine PW_imp (pw_or ha hb) fun σ H Q ⟨g, ρ, st, Rs, Re, p⟩ => ?_
  refine RG.bind Rs Re p fun x st1 v H1 g1 Rs Re K m p => ?_
  cases m
  cases x with
  | true => rw [if_pos rfl]; exact p.now Rs rfl
  | false => rw [if_neg Bool.false_ne_true]; exact ⟨g1, ρ, st1, Rs, Re, p⟩
theorem f_lof (D : Gd c G C W N sc ow X) (hx : x = "list") (hg : isG sc x = true) (hst : nstar e = true) (ha : PE X e (RD c W fa)) :
    PE X (.Call (.Name x p) [e] [] pos) (RF c W fun ρ st => (fa ρ st).bind fun x st1 => need (items x st1) st1) := by
  subst hx
  refine PE_imp (pe_callTy call_list_of (D.gl hg) (D.none_ _ (by decide)) boot_list (pa_cons ha pa_nil (star_cons hst)) (by decide) (by decide) (star_cons hst) rfl) fun σ H Q ⟨g, ρ, st, Rs, Re, z⟩ => ?_
  refine RG.bind Rs Re z fun s st1 v H1 g1 Rs1 Re1 K1 m z => ?_
  cases e2 : items s st1 with
  | none => rw [e2] at z; exact z.elim
  | some xs =>
    rw [e2] at z
    obtain ⟨a, vs, rfl, h, r⟩ := items_lst Rs1 m e2
    refine ⟨a, vs, rfl, ?_, fun l hl => z.now Rs1 r l hl⟩
    rcases h with h | h
    · exact .inl (.inl (.inl h))
    · rw [D.K]; exact .inr h
theorem lstI_ok {g : Gh} {st : Store} {H : Hp} {x : S} {v : V} {xs : List S} (R : RelSt c g st H) (r : RelS c g st H x v) (e : lstI x st = some xs) : ∃ a vs, v = .ref a ∧ H a = some (.lst vs) ∧ RelL c g st H xs vs := by
  cases x with
  | v d =>
    cases d with
    | lst ds =>
      simp only [lstI, Option.some.injEq] at e
      subst e
      simp only [RelS, RelSb, Rp] at r
      obtain ⟨a, vs, rfl, _, h, r⟩ := r
      exact ⟨a, vs, rfl, h, RelLb.ofV r⟩
    | _ => simp only [lstI] at e; cases e
  | r n =>
    simp only [lstI] at e
    split at e
    · rename_i ys e1
      cases e
      obtain ⟨rfl, _⟩ := r
      obtain ⟨h, h1, vs, rfl, h2⟩ := R.ob n _ e1
      exact ⟨_, vs, rfl, h1, h2.up (lt_of_get e1)⟩
    · cases e
theorem f_add (ha : PE X a (RD c W fa)) (hb : PE X b (RD c W fb)) :
    PE X (.BinOp a .Add b pos) (RF c W fun ρ st => (fa ρ st).bind fun x st1 => (fb ρ st1).bind fun y st2 => match lstI x st2, lstI y st2 with
      | some xs, some ys => if xs.length + ys.length ≤ sizeLine then .ok (xs ++ ys) st2 else .bad
      | _, _ => .bad) := by
  refine PE_imp (pe_op op_cat ha hb) fun σ H Q ⟨g, ρ, st, Rs, Re, p⟩ => ?_
  refine RG.bind Rs Re p fun x st1 v H1 g1 Rs Re K m p => ?_
  refine RG.bind Rs Re p fun y st2 u H2 g2 Rs2 Re2 K2 m2 p => ?_
  split at p
  · rename_i xs ys e1 e2
    split at p
    · rename_i hl
      obtain ⟨l, vs, rfl, h1, r1⟩ := lstI_ok Rs2 (m.move K2) e1
      obtain ⟨l', us, rfl, h2, r2⟩ := lstI_ok Rs2 m2 e2
      exact ⟨l, l', vs, us, rfl, rfl, h1, h2, by rw [← RelLb.length r1, ← RelLb.length r2]; exact hl, fun q hq => p.now Rs2 (RelLb.app r1 r2) q hq⟩
    · exact p.elim
  · exact p.elim
theorem d_dnew0 : PE X (.Dict [] [] pos) (RD c W fun ρ st => .ok (.r st.length) (st ++ [some (.dic [] [])])) := by
  refine PE_imp pe_dnewK fun σ H Q ⟨g, ρ, st, Rs, Re, p⟩ => fun q hq => ?_
  obtain ⟨R2, K2⟩ := Rs.alloc (o := .dic [] []) (h := .dK []) hq ⟨[], [], rfl, trivial, rfl, List.nodup_nil, rfl⟩
  refine p (.ref q) _ _ R2 K2 ⟨?_, by simp⟩
  show V.ref q = V.ref (if st.length = st.length then q else _)
  rw [if_pos rfl]
end
end Sw

set_option linter.all false
set_option maxRecDepth 100000
set_option maxHeartbeats 1000000
namespace Sw
open PySem L2 PySem.Spec PyProof.Rows
def GW (c : Ct) (srcs : List (S × V)) (w : Wk) : Hp → Prop := fun H => ∃ g st, RelSt c g st H ∧ (∀ p ∈ srcs, RelS c g st H p.1 p.2) ∧ w.stands st
def YW (c : Ct) (srcs : List (S × V)) (w : Wk) : Nat → Hp → V → Hp → Prop := fun i H x H' => ∀ g st, RelSt c g st H → (∀ p ∈ srcs, RelS c g st H p.1 p.2) → w.stands st → ∀ row, w.rows[i]? = some row →
  if w.pk then ∃ T vs, x = .ref T ∧ H T = none ∧ H' = upd H T (.tup vs) ∧ RelL c g st H row vs else H' = H ∧ ∀ s, row = [s] → RelS c g st H s x
def MW (c : Ct) : Gh → Store → Hp → Wk → L2.It → Prop := fun g st H w J => ∃ srcs, (∀ p ∈ srcs, RelS c g st H p.1 p.2) ∧ w.stands st ∧ w.rows.length ≤ sizeLine ∧ Walk J w.rows.length (GW c srcs w) (YW c srcs w)
abbrev RI (c : Ct) (W : XK) (f : Env → Store → Res Wk) : TI := RG c W (MW c) f
theorem PI_imp {X : Cx} {tg e : Expr} {t t' : TI} (h : PI X tg e t) (i : ∀ σ H R, t' σ H R → t σ H R) : PI X tg e t' := ⟨fun pins s σ H R I q => h.run pins s σ H R I (i σ H R q)⟩
def kOf (x : S) (a : Addr) : Sk := match x with
  | .v (.tup _) => .tup a
  | _ => .lst a
theorem kOf_ad (x : S) (a : Addr) : (kOf x a).ad = a := by
  unfold kOf
  split <;> rfl
section
variable {c : Ct} {g : Gh} {st st0 : Store} {H : Hp}
theorem items_sk {x : S} {v : V} {xs : List S} (R : RelSt c g st H) (r : RelS c g st H x v) (e : items x st = some xs) : ∃ a vs, v = .ref a ∧ (kOf x a).hs c.K H vs ∧ RelL c g st H xs vs := by
  cases x with
  | v d =>
    cases d with
    | lst ds =>
      simp only [items, Option.some.injEq] at e
      subst e
      simp only [RelS, RelSb, Rp] at r
      obtain ⟨a, vs, rfl, _, h, r⟩ := r
      exact ⟨a, vs, rfl, .inl (.inl h), RelLb.ofV r⟩
    | tup ds =>
      simp only [items, Option.some.injEq] at e
      subst e
      obtain ⟨a, vs, rfl, h, r⟩ := Rp.sqT r
      exact ⟨a, vs, rfl, h, RelLb.ofV r⟩
    | _ => simp only [items] at e; cases e
  | r n =>
    simp only [items] at e
    split at e
    · rename_i ys e1
      cases e
      obtain ⟨rfl, _⟩ := r
      obtain ⟨h, h1, vs, rfl, h2⟩ := R.ob n _ e1
      exact ⟨_, vs, rfl, .inl (.inl h1), h2.up (lt_of_get e1)⟩
    · cases e
theorem items_stands {x : S} {xs : List S} (e : items x st0 = some xs) (h : ∀ p ∈ srcOf x st0, st[p.1]? = p.2) : items x st = some xs := by
  cases x with
  | v d => cases d <;> exact e
  | r n =>
    have q : st[n]? = st0[n]? := h (n, st0[n]?) (by simp [srcOf])
    simp only [items] at e ⊢
    rw [q]
    exact e
theorem rel_ints {b : Nat} : ∀ ns : List Int, RelLb c g st H b (ns.map fun n => S.v (.int n)) (ns.map V.int)
  | [] => trivial
  | n :: r => ⟨by simp only [RelSb, Rp], rel_ints r⟩
theorem rows_len {α : Type} {xs : List S} {vs : List V} (r : RelL c g st H xs vs) : xs.length = vs.length := RelLb.length r
end
section
variable {X : Cx} {c : Ct} {W : XK} {G : Gt} {C : Nat → List S → Store → Res S} {N : List Str} {sc ow : Scope} {tg a b e : Expr} {p pos : Pos} {x : Str} {fa fb fc : Env → Store → Res S}
def Itk (K : PySem.W.Frag) : Sk → L2.It
  | .lst a => Itl K a
  | .tup a => Itt K a
theorem walk_k {K : PySem.W.Frag} {k : Sk} {w : Wk} {srcs : List (S × V)} {xs : List S} (hK : K = c.K) (hr : w.rows = xs.map fun s => [s]) (hp : w.pk = false)
    (h : ∀ g st H, RelSt c g st H → (∀ p ∈ srcs, RelS c g st H p.1 p.2) → w.stands st → ∃ vs, k.hs c.K H vs ∧ RelL c g st H xs vs) : Walk (Itk K k) w.rows.length (GW c srcs w) (YW c srcs w) := by
  subst hK
  have hl : w.rows.length = xs.length := by rw [hr, List.length_map]
  rw [hl]
  refine ⟨fun i H hi ⟨g, st, R, hs, ht⟩ => ?_, fun H ⟨g, st, R, hs, ht⟩ => ?_, fun i H y H' hi _ hy g st R hs ht row er => ?_⟩
  · obtain ⟨vs, h1, h2⟩ := h g st H R hs ht
    have hl := RelLb.length h2
    have hi' : i < vs.length := by omega
    cases k with
    | lst a => exact ⟨vs, vs[i], h1, List.getElem?_eq_getElem hi'⟩
    | tup a => exact ⟨vs, vs[i], h1, List.getElem?_eq_getElem hi'⟩
  · obtain ⟨vs, h1, h2⟩ := h g st H R hs ht
    have hl := RelLb.length h2
    cases k with
    | lst a => exact ⟨vs, h1, by omega⟩
    | tup a => exact ⟨vs, h1, by omega⟩
  · obtain ⟨vs, h1, h2⟩ := h g st H R hs ht
    have hy' : H' = H ∧ vs[i]? = some y := by
      cases k with
      | lst a => exact ⟨hy.1, hy.2 vs h1⟩
      | tup a => exact ⟨hy.1, hy.2 vs h1⟩
    rw [hp, if_neg Bool.false_ne_true]
    refine ⟨hy'.1, fun s es => ?_⟩
    subst es
    rw [hr, List.getElem?_map, Option.map_eq_some_iff] at er
    obtain ⟨s', e1, e2⟩ := er
    cases e2
    obtain ⟨v, h3, h4⟩ := h2.get e1
    rw [hy'.2] at h3
    cases h3
    exact h4
theorem walk_s {w : Wk} {srcs : List (S × V)} {z : Str} (hr : w.rows = z.cps.toList.map fun c => [S.v (.str ⟨#[c]⟩)]) (hp : w.pk = false) (hz : PyData.strOk z = true) : Walk (Its z) w.rows.length (GW c srcs w) (YW c srcs w) := by
  have hl : w.rows.length = z.cps.size := by rw [hr, List.length_map, Array.length_toList]
  rw [hl]
  refine ⟨fun i H hi _ => hi, fun H _ => Nat.le_refl _, fun i H y H' hi _ hy g st R hs ht row er => ?_⟩
  obtain ⟨h1, cc, h2, h3⟩ := hy
  rw [hp, if_neg Bool.false_ne_true]
  refine ⟨h1, fun s es => ?_⟩
  subst es
  rw [hr, List.getElem?_map, Option.map_eq_some_iff] at er
  obtain ⟨c', e1, e2⟩ := er
  cases e2
  rw [Array.getElem?_toList, h2] at e1
  cases e1
  subst h3
  simp only [RelS, RelSb, Rp]
  refine ⟨trivial, one_le, ?_⟩
  unfold PyData.strOk at hz ⊢
  have := Array.all_eq_true_iff_forall_mem.mp hz cc (Array.mem_of_getElem? h2)
  simpa using this
theorem walk_r {w : Wk} {srcs : List (S × V)} {lo : Int} {n : Nat} (hr : w.rows = (List.range n).map fun i => [S.v (.int (lo + (i : Nat)))]) (hp : w.pk = false) : Walk (Itr lo n) w.rows.length (GW c srcs w) (YW c srcs w) := by
  have hl : w.rows.length = n := by rw [hr, List.length_map, List.length_range]
  rw [hl]
  refine ⟨fun i H hi _ => hi, fun H _ => Nat.le_refl _, fun i H y H' hi _ hy g st R hs ht row er => ?_⟩
  obtain ⟨h1, h2⟩ := hy
  rw [hp, if_neg Bool.false_ne_true]
  refine ⟨h1, fun s es => ?_⟩
  subst es
  rw [hr, List.getElem?_map, Option.map_eq_some_iff] at er
  obtain ⟨c', e1, e2⟩ := er
  cases e2
  rw [List.getElem?_range hi] at e1
  cases e1
  subst h2
  simp only [RelS, RelSb, Rp]
def iAny (K : PySem.W.Frag) (te : TE) : TI := fun σ H R => te σ H fun v H1 => (∃ k xs, v = .ref (Sk.ad k) ∧ k.hs K H1 xs ∧ (xs.length ≤ sizeLine → R (Itk K k) H1)) ∨ ∃ z, v = .str z ∧ R (Its z) H1
theorem pi_any {te : TE} (he : PE X e te) : PI X tg e (iAny X.K te) := by
  refine ⟨fun pins s σ H R I h => ?_⟩
  refine thn (he.run pins s σ H _ I h) fun v s1 ⟨y, H1, I1, r1, q⟩ => ?_
  rcases q with ⟨k, xs, ex, hq, q⟩ | ⟨z, ex, q⟩
  · subst ex
    cases r1
    have new : ∀ o : Obj, o.isFreed = false → FpOk X pins H1 s1.heap.objs.size := fun _ _ => I1.fpOk (Nat.le_refl _) (I1.hok.fresh (Nat.le_refl _))
    have one : ∀ b ∈ [s1.heap.objs.size], FpOk X pins H1 b := fun b hb => by
      rw [List.mem_singleton.mp hb]
      exact I1.fpOk (Nat.le_refl _) (I1.hok.fresh (Nat.le_refl _))
    cases k with
    | lst a =>
      obtain ⟨its, rv, p, hz⟩ := I1.list hq
      refine wpAny_pyIter_list p.isList ?_
      exact ⟨s1.heap.objs.size, [s1.heap.objs.size], _, _, H1, rfl, I1.kept (t' := s1.toks) fun b o e => Heap.get?_push_of_some _ e, turn_list a _, ⟨_, Heap.get?_push_size _ rfl, rfl, rfl⟩, one, q hz⟩
    | tup a =>
      obtain ⟨its, rv, p, hz⟩ := I1.tuple hq
      refine wpAny_pyIter_tuple (show s1.heap.IsTuple a its.toArray from p) ?_
      exact ⟨s1.heap.objs.size, [s1.heap.objs.size], _, _, H1, rfl, I1.kept (t' := s1.toks) fun b o e => Heap.get?_push_of_some _ e, turn_tuple a _, ⟨_, Heap.get?_push_size _ rfl, rfl, rfl⟩, one, q hz⟩
  · subst ex
    obtain ⟨t, rfl⟩ := r1
    cases ha : z.cps.all (· < 128)
    · exact wpAny_pyIter_wide ha (pi_one (tk := s1.toks) I1 _ (turn_str _ z t "str_iterator" (.inr rfl)) ⟨_, Heap.get?_push_size _ rfl, rfl, rfl⟩ q)
    · exact wpAny_pyIter_ascii ha (pi_one (tk := s1.toks) I1 _ (turn_str _ z t "str_ascii_iterator" (.inl rfl)) ⟨_, Heap.get?_push_size _ rfl, rfl, rfl⟩ q)
theorem stands_nil {w : Wk} {st : Store} (h : w.src = []) : w.stands st := by
  intro p hp
  rw [h] at hp
  cases hp
theorem stands_now {x : S} {st : Store} : ∀ p ∈ srcOf x st, st[p.1]? = p.2 := by
  intro p hp
  cases x with
  | v d => cases hp
  | r n =>
    simp only [srcOf, List.mem_singleton] at hp
    rw [hp]
theorem i_sq (hK : X.K = c.K) (ha : PE X a (RD c W fa)) : PI X tg a (RI c W fun ρ st => (fa ρ st).bind fun x st1 => need (walkSq x st1) st1) := by
  refine PI_imp (pi_any ha) fun σ H R ⟨g, ρ, st, Rs, Re, p⟩ => ?_
  refine RG.bind Rs Re p fun x st1 v H1 g1 Rs Re K m p => ?_
  cases e : walkSq x st1 with
  | none => rw [e] at p; exact p.elim
  | some w =>
    rw [e] at p
    have gen : ∀ xs, items x st1 = some xs → w = ⟨xs.map fun s => [s], false, srcOf x st1⟩ → (∃ k xs, v = .ref (Sk.ad k) ∧ k.hs X.K H1 xs ∧ (xs.length ≤ sizeLine → R (Itk X.K k) H1)) := fun xs e1 e2 => by
      obtain ⟨ad, vs, rfl, h1, h2⟩ := items_sk Rs m e1
      subst e2
      refine ⟨kOf x ad, vs, by rw [kOf_ad], by rw [hK]; exact h1, fun hsz => ?_⟩
      refine p.now Rs ⟨[(x, .ref ad)], fun q hq => by rw [List.mem_singleton.mp hq]; exact m, stands_now, by rw [List.length_map, RelLb.length h2]; exact hsz, ?_⟩
      refine walk_k (xs := xs) hK rfl rfl fun g2 st2 H2 R2 hs ht => ?_
      obtain ⟨ad', vs', e3, h3, h4⟩ := items_sk R2 (hs _ List.mem_cons_self) (items_stands e1 ht)
      cases e3
      exact ⟨vs', h3, h4⟩
    unfold walkSq at e
    split at e
    · rename_i z
      obtain rfl := (Option.some.inj e).symm
      simp only [RelS, RelSb, Rp] at m
      exact .inr ⟨z, m.1, p.now Rs ⟨[], (fun q hq => nomatch hq), stands_nil rfl, by rw [List.length_map, Array.length_toList]; exact m.2.1, walk_s rfl rfl m.2.2⟩⟩
    · rename_i ns
      obtain rfl := (Option.some.inj e).symm
      have m0 := m
      simp only [RelS, RelSb, Rp] at m
      obtain ⟨ad, rfl, h⟩ := m
      refine .inl ⟨.lst ad, ns.map V.int, rfl, by rw [hK]; exact h.sql, fun hsz => ?_⟩
      refine p.now Rs ⟨[(.v (.scr ns), .ref ad)], fun q hq => by rw [List.mem_singleton.mp hq]; exact m0, stands_nil rfl, by rw [List.length_map] at hsz ⊢; exact hsz, ?_⟩
      refine walk_k (xs := ns.map fun n => S.v (.int n)) hK (by rw [List.map_map]; rfl) rfl fun g2 st2 H2 R2 hs ht => ?_
      have m2 := hs _ List.mem_cons_self
      simp only [RelS, RelSb, Rp] at m2
      obtain ⟨ad', e3, h'⟩ := m2
      cases e3
      exact ⟨ns.map V.int, h'.sql, rel_ints ns⟩
    · simp only [Option.map_eq_some_iff] at e
      obtain ⟨xs, e1, e2⟩ := e
      exact .inl (gen xs e1 e2.symm)
theorem i_rng (D : Gd c G C W N sc ow X) (hx : x = "range") (hg : isG sc x = true) (hst : nstar a = true) (ha : PE X a (RD c W fa)) : PI X tg (.Call (.Name x p) [a] [] pos) (RI c W fun ρ st => (fa ρ st).bind fun x st1 => match x with
    | .v (.int n) => need (walkRng 0 n) st1
    | _ => .bad) := by
  subst hx
  refine PI_imp (pi_range1 (D.gl hg) (D.none_ _ (by decide)) (pa_cons ha pa_nil (star_cons hst)) (star_cons hst)) fun σ H R ⟨g, ρ, st, Rs, Re, z⟩ => ?_
  refine RG.bind Rs Re z fun s st1 v H1 g1 Rs Re K m z => ?_
  split at z
  · rename_i n
    simp only [RelS, RelSb, Rp] at m
    subst m
    cases e : walkRng 0 n with
    | none => rw [e] at z; exact z.elim
    | some w =>
      rw [e] at z
      unfold walkRng at e
      split at e
      · rename_i hc
        cases e
        refine ⟨n, rfl, hc.2.2.1, hc.2.2.2.1, ?_⟩
        refine z.now Rs ⟨[], (fun q hq => nomatch hq), stands_nil rfl, by simp only [rngRows, List.length_map, List.length_range]; exact hc.2.2.2.2, ?_⟩
        refine walk_r ?_ rfl
        show rngRows 0 n = _
        unfold rngRows
        rw [Int.sub_zero]
      · cases e
  · exact z.elim
theorem i_rng2 (D : Gd c G C W N sc ow X) (hx : x = "range") (hg : isG sc x = true) (hst : nstar a = true) (hst2 : nstar b = true) (ha : PE X a (RD c W fa)) (hb : PE X b (RD c W fb)) : PI X tg (.Call (.Name x p) [a, b] [] pos) (RI c W fun ρ st => (fa ρ st).bind fun x st1 => (fb ρ st1).bind fun y st2 => match x, y with
    | .v (.int m), .v (.int n) => need (walkRng m n) st2
    | _, _ => .bad) := by
  subst hx
  refine PI_imp (pi_range2 (D.gl hg) (D.none_ _ (by decide)) (pa_cons ha (pa_cons hb pa_nil (star_cons hst2)) (star_cons hst)) (by rw [star_cons hst, star_cons hst2]; rfl) (star_cons hst2)) fun σ H R ⟨g, ρ, st, Rs, Re, z0⟩ => ?_
  refine RG.bind Rs Re z0 fun s st1 v H1 g1 Rs Re K m z1 => ?_
  refine RG.bind Rs Re z1 fun y st2 u H2 g2 Rs2 Re2 K2 m2 z => ?_
  split at z
  · rename_i i n
    simp only [RelS, RelSb, Rp] at m m2
    subst m m2
    cases e : walkRng i n with
    | none => rw [e] at z; exact z.elim
    | some w =>
      rw [e] at z
      unfold walkRng at e
      split at e
      · rename_i hc
        cases e
        refine ⟨i, n, rfl, ⟨hc.1, hc.2.1, hc.2.2.1, hc.2.2.2.1⟩, ?_⟩
        exact z.now Rs2 ⟨[], (fun q hq => nomatch hq), stands_nil rfl, by simp only [rngRows, List.length_map, List.length_range]; exact hc.2.2.2.2, walk_r rfl rfl⟩
      · cases e
  · exact z.elim
theorem walk_z2 {K : PySem.W.Frag} {k1 k2 : Sk} {w : Wk} {srcs : List (S × V)} {xs ys : List S} (hK : K = c.K) (hr : w.rows = (xs.zip ys).map fun p => [p.1, p.2]) (hp : w.pk = true)
    (h : ∀ g st H, RelSt c g st H → (∀ p ∈ srcs, RelS c g st H p.1 p.2) → w.stands st → ∃ vs us, k1.hs c.K H vs ∧ RelL c g st H xs vs ∧ k2.hs c.K H us ∧ RelL c g st H ys us) : Walk (Itz2 K k1 k2) w.rows.length (GW c srcs w) (YW c srcs w) := by
  subst hK
  have hl : w.rows.length = min xs.length ys.length := by rw [hr, List.length_map, List.length_zip]
  rw [hl]
  refine ⟨fun i H hi ⟨g, st, R, hs, ht⟩ => ?_, fun H ⟨g, st, R, hs, ht⟩ => ?_, fun i H y H' hi _ hy g st R hs ht row er => ?_⟩
  · obtain ⟨vs, us, h1, h2, h3, h4⟩ := h g st H R hs ht
    have l1 := RelLb.length h2
    have l2 := RelLb.length h4
    exact ⟨vs, us, h1, h3, by omega, by omega⟩
  · obtain ⟨vs, us, h1, h2, h3, h4⟩ := h g st H R hs ht
    have l1 := RelLb.length h2
    have l2 := RelLb.length h4
    exact ⟨vs, us, h1, h3, by rw [l1, l2]⟩
  · obtain ⟨vs, us, h1, h2, h3, h4⟩ := h g st H R hs ht
    obtain ⟨T, x1, x2, q1, q2, q3, q4, q5⟩ := hy
    have e1 := q4 vs h1
    have e2 := q5 us h3
    rw [hp, if_pos rfl]
    rw [hr, List.getElem?_map, Option.map_eq_some_iff] at er
    obtain ⟨⟨s1, s2⟩, e3, e4⟩ := er
    rw [List.getElem?_zip_eq_some] at e3
    obtain ⟨v1, f1, f2⟩ := h2.get e3.1
    obtain ⟨v2, f3, f4⟩ := h4.get e3.2
    rw [e1] at f1
    rw [e2] at f3
    cases f1
    cases f3
    subst e4
    exact ⟨T, [x1, x2], q1, q2, q3, f2, f4, trivial⟩
theorem i_zip (D : Gd c G C W N sc ow X) {elts : List Expr} {kk : Nat} {tpos : Pos} (hx : x = "zip") (hg : isG sc x = true) (hst : nstar a = true) (hst2 : nstar b = true) (ha : PE X a (RD c W fa)) (hb : PE X b (RD c W fb)) :
    PI X (.Tuple elts kk tpos) (.Call (.Name x p) [a, b] [] pos) (RI c W fun ρ st => (fa ρ st).bind fun x st1 => (fb ρ st1).bind fun y st2 => need (walkZip x y st2) st2) := by
  subst hx
  have st2 : ([b] : List Expr).all nstar = true := by simp [hst2]
  refine PI_imp (pi_zip2 (D.gl hg) (D.none_ _ (by decide)) (pa_cons ha (pa_cons hb pa_nil (star_cons hst2)) (star_cons hst)) (star_cons hst) (star_plain st2)) fun σ H R ⟨g, ρ, st, Rs, Re, z⟩ => ?_
  refine RG.bind Rs Re z fun s st1 v H1 g1 Rs Re K m z => ?_
  refine RG.bind Rs Re z fun y st2 u H2 g2 Rs2 Re2 K2 m2 z => ?_
  have m := m.move K2
  cases e : walkZip s y st2 with
  | none => rw [e] at z; exact z.elim
  | some w =>
    rw [e] at z
    simp only [walkZip, Option.bind_eq_some_iff, Option.map_eq_some_iff] at e
    obtain ⟨xs, e1, ys, e2, e3⟩ := e
    subst e3
    obtain ⟨a1, vs, rfl, h1, h2⟩ := items_sk Rs2 m e1
    obtain ⟨a2, us, rfl, h3, h4⟩ := items_sk Rs2 m2 e2
    refine ⟨kOf s a1, kOf y a2, vs, us, by rw [kOf_ad, kOf_ad], by rw [D.K]; exact h1, by rw [D.K]; exact h3, fun hsz => ?_⟩
    refine z.now Rs2 ⟨[(s, .ref a1), (y, .ref a2)], fun q hq => ?_, fun q hq => ?_, by simp only [List.length_map, List.length_zip]; rw [RelLb.length h2]; omega, ?_⟩
    · simp only [List.mem_cons, List.not_mem_nil, or_false] at hq
      rcases hq with rfl | rfl
      · exact m
      · exact m2
    · rcases List.mem_append.mp hq with h | h
      · exact stands_now q h
      · exact stands_now q h
    · refine walk_z2 (xs := xs) (ys := ys) D.K rfl rfl fun g3 st3 H3 R3 hs ht => ?_
      obtain ⟨b1, vs', q1, q2, q3⟩ := items_sk R3 (hs (s, .ref a1) (by simp)) (items_stands e1 fun q hq => ht q (List.mem_append_left _ hq))
      obtain ⟨b2, us', q4, q5, q6⟩ := items_sk R3 (hs (y, .ref a2) (by simp)) (items_stands e2 fun q hq => ht q (List.mem_append_right _ hq))
      cases q1
      cases q4
      exact ⟨vs', us', q2, q3, q5, q6⟩
theorem walk_z3 {K : PySem.W.Frag} {k1 k2 k3 : Sk} {w : Wk} {srcs : List (S × V)} {xs ys zs : List S} (hK : K = c.K) (hr : w.rows = (xs.zip (ys.zip zs)).map fun p => [p.1, p.2.1, p.2.2]) (hp : w.pk = true)
    (h : ∀ g st H, RelSt c g st H → (∀ p ∈ srcs, RelS c g st H p.1 p.2) → w.stands st → ∃ vs us ws, k1.hs c.K H vs ∧ RelL c g st H xs vs ∧ k2.hs c.K H us ∧ RelL c g st H ys us ∧ k3.hs c.K H ws ∧ RelL c g st H zs ws) : Walk (Itz3 K k1 k2 k3) w.rows.length (GW c srcs w) (YW c srcs w) := by
  subst hK
  have hl : w.rows.length = min (min xs.length ys.length) zs.length := by rw [hr, List.length_map, List.length_zip, List.length_zip, Nat.min_assoc]
  rw [hl]
  refine ⟨fun i H hi ⟨g, st, R, hs, ht⟩ => ?_, fun H ⟨g, st, R, hs, ht⟩ => ?_, fun i H y H' hi _ hy g st R hs ht row er => ?_⟩
  · obtain ⟨vs, us, ws, h1, h2, h3, h4, h5, h6⟩ := h g st H R hs ht
    have l1 := RelLb.length h2
    have l2 := RelLb.length h4
    have l3 := RelLb.length h6
    exact ⟨vs, us, ws, h1, h3, h5, by omega, by omega, by omega⟩
  · obtain ⟨vs, us, ws, h1, h2, h3, h4, h5, h6⟩ := h g st H R hs ht
    have l1 := RelLb.length h2
    have l2 := RelLb.length h4
    have l3 := RelLb.length h6
    exact ⟨vs, us, ws, h1, h3, h5, by rw [l1, l2, l3]⟩
  · obtain ⟨vs, us, ws, h1, h2, h3, h4, h5, h6⟩ := h g st H R hs ht
    obtain ⟨T, x1, x2, x3, q1, q2, q3, q4, q5, q6⟩ := hy
    have e1 := q4 vs h1
    have e2 := q5 us h3
    have e3 := q6 ws h5
    rw [hp, if_pos rfl]
    rw [hr, List.getElem?_map, Option.map_eq_some_iff] at er
    obtain ⟨⟨s1, s2, s3⟩, e4, e5⟩ := er
    rw [List.getElem?_zip_eq_some] at e4
    have e6 := e4.2
    rw [List.getElem?_zip_eq_some] at e6
    obtain ⟨v1, f1, f2⟩ := h2.get e4.1
    obtain ⟨v2, f3, f4⟩ := h4.get e6.1
    obtain ⟨v3, f5, f6⟩ := h6.get e6.2
    rw [e1] at f1
    rw [e2] at f3
    rw [e3] at f5
    cases f1
    cases f3
    cases f5
    subst e5
    exact ⟨T, [x1, x2, x3], q1, q2, q3, f2, f4, f6, trivial⟩
theorem i_zip3 (D : Gd c G C W N sc ow X) {cc : Expr} {elts : List Expr} {kk : Nat} {tpos : Pos} (hx : x = "zip") (hg : isG sc x = true) (hst : nstar a = true) (hst2 : nstar b = true) (hst3 : nstar cc = true) (ha : PE X a (RD c W fa)) (hb : PE X b (RD c W fb)) (hc : PE X cc (RD c W fc)) :
    PI X (.Tuple elts kk tpos) (.Call (.Name x p) [a, b, cc] [] pos) (RI c W fun ρ st => (fa ρ st).bind fun x st1 => (fb ρ st1).bind fun y st2 => (fc ρ st2).bind fun z st3 => need (walkZip3 x y z st3) st3) := by
  subst hx
  have st2 : ([b, cc] : List Expr).all nstar = true := by simp [hst2, hst3]
  refine PI_imp (pi_zip3 (D.gl hg) (D.none_ _ (by decide)) (pa_cons ha (pa_cons hb (pa_cons hc pa_nil (star_cons hst3)) (star_cons hst2)) (star_cons hst)) (star_cons hst) (star_plain st2)) fun σ H R ⟨g, ρ, st, Rs, Re, z⟩ => ?_
  refine RG.bind Rs Re z fun s st1 v H1 g1 Rs Re K m z => ?_
  refine RG.bind Rs Re z fun y st2 u H2 g2 Rs2 Re2 K2 m2 z => ?_
  refine RG.bind Rs2 Re2 z fun t st3 r H3 g3 Rs3 Re3 K3 m3 z => ?_
  have m := (m.move K2).move K3
  have m2 := m2.move K3
  cases e : walkZip3 s y t st3 with
  | none => rw [e] at z; exact z.elim
  | some w =>
    rw [e] at z
    simp only [walkZip3, Option.bind_eq_some_iff, Option.map_eq_some_iff] at e
    obtain ⟨xs, e1, ys, e2, zs, e3, e4⟩ := e
    subst e4
    obtain ⟨a1, vs, rfl, h1, h2⟩ := items_sk Rs3 m e1
    obtain ⟨a2, us, rfl, h3, h4⟩ := items_sk Rs3 m2 e2
    obtain ⟨a3, ws, rfl, h5, h6⟩ := items_sk Rs3 m3 e3
    refine ⟨kOf s a1, kOf y a2, kOf t a3, vs, us, ws, by rw [kOf_ad, kOf_ad, kOf_ad], by rw [D.K]; exact h1, by rw [D.K]; exact h3, by rw [D.K]; exact h5, fun hsz => ?_⟩
    refine z.now Rs3 ⟨[(s, .ref a1), (y, .ref a2), (t, .ref a3)], fun q hq => ?_, fun q hq => ?_, by simp only [List.length_map, List.length_zip]; rw [RelLb.length h2]; omega, ?_⟩
    · simp only [List.mem_cons, List.not_mem_nil, or_false] at hq
      rcases hq with rfl | rfl | rfl
      · exact m
      · exact m2
      · exact m3
    · rcases List.mem_append.mp hq with h | h
      · exact stands_now q h
      · rcases List.mem_append.mp h with h | h
        · exact stands_now q h
        · exact stands_now q h
    · refine walk_z3 (xs := xs) (ys := ys) (zs := zs) D.K rfl rfl fun g4 st4 H4 R4 hs ht => ?_
      obtain ⟨b1, vs', q1, q2, q3⟩ := items_sk R4 (hs (s, .ref a1) (by simp)) (items_stands e1 fun q hq => ht q (List.mem_append_left _ hq))
      obtain ⟨b2, us', q4, q5, q6⟩ := items_sk R4 (hs (y, .ref a2) (by simp)) (items_stands e2 fun q hq => ht q (List.mem_append_right _ (List.mem_append_left _ hq)))
      obtain ⟨b3, ws', q7, q8, q9⟩ := items_sk R4 (hs (t, .ref a3) (by simp)) (items_stands e3 fun q hq => ht q (List.mem_append_right _ (List.mem_append_right _ hq)))
      cases q1
      cases q4
      cases q7
      exact ⟨vs', us', ws', q2, q3, q5, q6, q8, q9⟩
theorem walk_n {K : PySem.W.Frag} {k : Sk} {w : Wk} {srcs : List (S × V)} {xs : List S} (hK : K = c.K) (hr : w.rows = (xs.zipIdx 0).map fun p => [S.v (.int (p.2 : Nat)), p.1]) (hp : w.pk = true)
    (h : ∀ g st H, RelSt c g st H → (∀ p ∈ srcs, RelS c g st H p.1 p.2) → w.stands st → ∃ vs, k.hs c.K H vs ∧ RelL c g st H xs vs) : Walk (Itn K k) w.rows.length (GW c srcs w) (YW c srcs w) := by
  subst hK
  have hl : w.rows.length = xs.length := by rw [hr, List.length_map, List.length_zipIdx]
  rw [hl]
  refine ⟨fun i H hi ⟨g, st, R, hs, ht⟩ => ?_, fun H ⟨g, st, R, hs, ht⟩ => ?_, fun i H y H' hi _ hy g st R hs ht row er => ?_⟩
  · obtain ⟨vs, h1, h2⟩ := h g st H R hs ht
    have l1 := RelLb.length h2
    exact ⟨vs, h1, by omega⟩
  · obtain ⟨vs, h1, h2⟩ := h g st H R hs ht
    have l1 := RelLb.length h2
    exact ⟨vs, h1, by omega⟩
  · obtain ⟨vs, h1, h2⟩ := h g st H R hs ht
    obtain ⟨T, x1, q1, q2, q3, q4⟩ := hy
    have e1 := q4 vs h1
    rw [hp, if_pos rfl]
    rw [hr, List.getElem?_map, Option.map_eq_some_iff] at er
    obtain ⟨⟨s1, n⟩, e4, e5⟩ := er
    rw [List.getElem?_zipIdx] at e4
    simp only [Option.map_eq_some_iff, Nat.zero_add, Prod.mk.injEq] at e4
    obtain ⟨s1', e6, e7, e8⟩ := e4
    subst e7 e8
    obtain ⟨v1, f1, f2⟩ := h2.get e6
    rw [e1] at f1
    cases f1
    subst e5
    exact ⟨T, [.int (i : Nat), x1], q1, q2, q3, by simp only [RelSb, Rp], f2, trivial⟩
theorem i_enum (D : Gd c G C W N sc ow X) {elts : List Expr} {kk : Nat} {tpos : Pos} (hx : x = "enumerate") (hg : isG sc x = true) (hst : nstar a = true) (ha : PE X a (RD c W fa)) :
    PI X (.Tuple elts kk tpos) (.Call (.Name x p) [a] [] pos) (RI c W fun ρ st => (fa ρ st).bind fun x st1 => need (walkEnum x st1) st1) := by
  subst hx
  refine PI_imp (pi_enumK (D.gl hg) (D.none_ _ (by decide)) (pa_cons ha pa_nil (star_cons hst)) (star_cons hst)) fun σ H R ⟨g, ρ, st, Rs, Re, z⟩ => ?_
  refine RG.bind Rs Re z fun s st1 v H1 g1 Rs Re K m z => ?_
  cases e : walkEnum s st1 with
  | none => rw [e] at z; exact z.elim
  | some w =>
    rw [e] at z
    simp only [walkEnum, Option.map_eq_some_iff] at e
    obtain ⟨xs, e1, e2⟩ := e
    subst e2
    obtain ⟨a1, vs, rfl, h1, h2⟩ := items_sk Rs m e1
    refine ⟨kOf s a1, vs, by rw [kOf_ad], by rw [D.K]; exact h1, fun hsz => ?_⟩
    refine z.now Rs ⟨[(s, .ref a1)], fun q hq => by rw [List.mem_singleton.mp hq]; exact m, stands_now, by rw [List.length_map, List.length_zipIdx, RelLb.length h2]; exact hsz, ?_⟩
    refine walk_n (xs := xs) D.K rfl rfl fun g3 st3 H3 R3 hs ht => ?_
    obtain ⟨b1, vs', q1, q2, q3⟩ := items_sk R3 (hs (s, .ref a1) (by simp)) (items_stands e1 ht)
    cases q1
    exact ⟨vs', q2, q3⟩
end
end Sw

set_option linter.all false
set_option maxRecDepth 100000
set_option maxHeartbeats 1000000
namespace Sw
open PySem L2 PySem.Spec PyProof.Rows
section
variable {c : Ct} {g : Gh} {st : Store} {H : Hp} {ρ : Env} {σ : L2.St}
theorem RelE.set (R : RelE c g st H ρ σ) {i : Nat} {s : S} {v : V} (r : RelS c g st H s v) : RelE c g st H (ρ.set i (some s)) (σ.set i (some v)) := by
  refine ⟨by rw [List.length_set, List.length_set]; exact R.len, fun j t e => ?_⟩
  rcases get_set e with ⟨rfl, e1⟩ | ⟨ne, e1⟩
  · have hl : j < σ.length := by
      have := (List.getElem?_eq_some_iff.mp e).1
      rw [List.length_set, R.len] at this
      exact this
    cases e1
    exact ⟨v, by rw [List.getElem?_set_self hl], r⟩
  · obtain ⟨u, h1, h2⟩ := R.at_ j t e1
    exact ⟨u, by rw [List.getElem?_set_ne (fun z => ne z.symm)]; exact h1, h2⟩
theorem RelE.unset (R : RelE c g st H ρ σ) {i : Nat} : RelE c g st H (ρ.set i none) (σ.set i none) := by
  refine ⟨by rw [List.length_set, List.length_set]; exact R.len, fun j t e => ?_⟩
  rcases get_set e with ⟨rfl, e1⟩ | ⟨ne, e1⟩
  · cases e1
  · obtain ⟨u, h1, h2⟩ := R.at_ j t e1
    exact ⟨u, by rw [List.getElem?_set_ne (fun z => ne z.symm)]; exact h1, h2⟩
theorem RelE.wipe (R : RelE c g st H ρ σ) : ∀ vs : List Nat, RelE c g st H (wipe ρ vs) (L2.wipe σ vs)
  | [] => R
  | v :: vs => (RelE.wipe R vs).unset
end
def Tg.ixs : Tg → List Nat
  | .one i => [i]
  | .nil => []
  | .cons t ts => t.ixs ++ ts.ixs
def Same (t : Tg) (σ σ' : L2.St) : Prop := ∀ is : List Nat, (∀ i ∈ t.ixs, i ∈ is) → L2.wipe σ' is = L2.wipe σ is
theorem wipe_set1 {σ : L2.St} {i : Nat} {x : Option V} : ∀ vs : List Nat, (L2.wipe (σ.set i x) vs).set i none = (L2.wipe σ vs).set i none
  | [] => by unfold L2.wipe; rw [List.set_set]
  | v :: vs => by
    unfold L2.wipe
    by_cases e : v = i
    · subst e
      rw [List.set_set, List.set_set]
      exact wipe_set1 vs
    · rw [List.set_comm _ _ e, wipe_set1 vs, List.set_comm _ _ e]
theorem wipe_set {σ : L2.St} {i : Nat} {x : Option V} : ∀ {vs : List Nat}, i ∈ vs → L2.wipe (σ.set i x) vs = L2.wipe σ vs
  | v :: vs, h => by
    unfold L2.wipe
    by_cases e : i = v
    · subst e
      exact wipe_set1 vs
    · rcases List.mem_cons.mp h with q | q
      · exact absurd q e
      · rw [wipe_set q]
theorem wipe_wipe' {σ : L2.St} {ws : List Nat} : ∀ {vs : List Nat}, (∀ i ∈ vs, i ∈ ws) → L2.wipe (L2.wipe σ vs) ws = L2.wipe σ ws
  | [], _ => rfl
  | v :: vs, h => by
    show L2.wipe ((L2.wipe σ vs).set v none) ws = _
    rw [wipe_set (h v List.mem_cons_self)]
    exact wipe_wipe' fun i hi => h i (List.mem_cons_of_mem _ hi)
def RGT (c : Ct) (t : Tg) : TG := fun v σ H Q => ∃ g ρ st s ρ', RelSt c g st H ∧ RelE c g st H ρ σ ∧ RelS c g st H s v ∧ asgT t s ρ = some ρ' ∧ ∀ σ', RelE c g st H ρ' σ' → Same t σ σ' → Q σ' H
def RGL (c : Ct) (t : Tg) : TGs := fun vs σ H Q => ∃ g ρ st xs ρ', RelSt c g st H ∧ RelE c g st H ρ σ ∧ RelL c g st H xs vs ∧ asgL t xs ρ = some ρ' ∧ ∀ σ', RelE c g st H ρ' σ' → Same t σ σ' → Q σ' H
theorem PG_imp {X : Cx} {e : Expr} {t t' : TG} (h : PG X e t) (i : ∀ v σ H Q, t' v σ H Q → t v σ H Q) : PG X e t' := ⟨fun pins s σ H v u Q I r q => h.run pins s σ H v u Q I r (i v σ H Q q)⟩
theorem PGs_imp {X : Cx} {e : List Expr} {t t' : TGs} (h : PGs X e t) (i : ∀ v σ H Q, t' v σ H Q → t v σ H Q) : PGs X e t' := ⟨fun pins s σ H v u Q I r q => h.run pins s σ H v u Q I r (i v σ H Q q)⟩
theorem asg_each {env : PySem.Env} : ∀ {es : List Expr}, es.all nstar = true → (assignEach es env).length = es.length ∧ (assignEach es env).findIdx? (·.1) = none
  | [], _ => ⟨rfl, rfl⟩
  | e :: es, h => by
    simp only [List.all_cons, Bool.and_eq_true] at h
    obtain ⟨a, b⟩ := asg_each (env := env) h.2
    have q : assignEach (e :: es) env = (false, assign e env) :: assignEach es env := by
      cases e <;> first | rfl | exact Bool.noConfusion h.1
    rw [q]
    refine ⟨congrArg (· + 1) a, ?_⟩
    rw [List.findIdx?_cons, b]
    rfl
theorem asg_cons {env : PySem.Env} {e : Expr} {es : List Expr} (h : nstar e = true) : (assignEach (e :: es) env).map (·.2) = assign e env :: (assignEach es env).map (·.2) := by
  cases e <;> first | rfl | exact Bool.noConfusion h
mutual
def mtT (N : List Str) (ow : Scope) : Tg → Expr → Bool
  | .one i, .Name x _ => decide (N[i]? = some x) && isL ow x
  | .nil, .Tuple [] _ _ => true
  | .cons t ts, .Tuple (e :: es) _ _ => nstar e && mtT N ow t e && mtTs N ow ts es
  | _, _ => false
def mtTs (N : List Str) (ow : Scope) : Tg → List Expr → Bool
  | .nil, [] => true
  | .cons t ts, e :: es => nstar e && mtT N ow t e && mtTs N ow ts es
  | _, _ => false
end
def asg_TL {N : List Str} {ow : Scope} : ∀ {t : Tg} {es : List Expr} {ds : List D} {ρ : Env}, mtTs N ow t es = true → asgT t (.v (.tup ds)) ρ = asgL t (ds.map S.v) ρ
  | .nil, [], [], _, _ => rfl
  | .nil, [], _ :: _, _, _ => rfl
  | .cons t ts, e :: es, [], _, _ => rfl
  | .cons t ts, e :: es, d :: ds, ρ, h => by
    simp only [mtTs, Bool.and_eq_true] at h
    simp only [asgT, asgL, List.map_cons]
    congr 1
    funext ρ'
    exact asg_TL h.2
  | .one _, es, _, _, h => by simp [mtTs] at h
  | .nil, _ :: _, _, _, h => by simp [mtTs] at h
  | .cons _ _, [], _, _, h => by simp [mtTs] at h
theorem nstar_all {N : List Str} {ow : Scope} : ∀ {t : Tg} {es : List Expr}, mtTs N ow t es = true → es.all nstar = true
  | .nil, [], _ => rfl
  | .cons t ts, e :: es, h => by
    simp only [mtTs, Bool.and_eq_true] at h
    simp only [List.all_cons, Bool.and_eq_true]
    exact ⟨h.1.1, nstar_all h.2⟩
  | .one _, es, h => by simp [mtTs] at h
  | .nil, _ :: _, h => by simp [mtTs] at h
  | .cons _ _, [], h => by simp [mtTs] at h
theorem asgL_len {N : List Str} {ow : Scope} : ∀ {t : Tg} {es : List Expr} {xs : List S} {ρ ρ' : Env}, mtTs N ow t es = true → asgL t xs ρ = some ρ' → xs.length = es.length
  | .nil, [], [], _, _, _, _ => rfl
  | .nil, [], _ :: _, _, _, _, e => by simp [asgL] at e
  | .cons t ts, e :: es, [], _, _, _, h => by simp [asgL] at h
  | .cons t ts, e :: es, x :: xs, ρ, ρ', h, e' => by
    simp only [mtTs, Bool.and_eq_true] at h
    simp only [asgL, Option.bind_eq_some_iff] at e'
    obtain ⟨ρ1, _, e2⟩ := e'
    exact congrArg (· + 1) (asgL_len h.2 e2)
  | .one _, es, _, _, _, h, _ => by simp [mtTs] at h
  | .nil, _ :: _, _, _, _, h, _ => by simp [mtTs] at h
  | .cons _ _, [], _, _, _, h, _ => by simp [mtTs] at h
theorem gCons_run {c : Ct} {t ts : Tg} {g : Gh} {st : Store} {H : Hp} {ρ ρ' : Env} {σ : L2.St} {xs : List S} {vs : List V} {Q : L2.St → Hp → Prop} (Rs : RelSt c g st H) (Re : RelE c g st H ρ σ) (r : RelL c g st H xs vs) (e : asgL (.cons t ts) xs ρ = some ρ') (k : ∀ σ', RelE c g st H ρ' σ' → Same (.cons t ts) σ σ' → Q σ' H) :
    gCons (RGT c t) (RGL c ts) vs σ H Q := by
  cases xs with
  | nil => simp [asgL] at e
  | cons x xs =>
    cases vs with
    | nil => exact r.elim
    | cons v vs =>
      simp only [asgL, Option.bind_eq_some_iff] at e
      obtain ⟨ρ1, e1, e2⟩ := e
      exact ⟨v, vs, rfl, g, ρ, st, x, ρ1, Rs, Re, r.1, e1, fun σ1 Re1 s1 => ⟨g, ρ1, st, xs, ρ', Rs, Re1, r.2, e2, fun σ2 Re2 s2 => k σ2 Re2 fun is h => (s2 is fun i hi => h i (List.mem_append_right _ hi)).trans (s1 is fun i hi => h i (List.mem_append_left _ hi))⟩⟩
section
variable {X : Cx} {c : Ct} {W : XK} {G : Gt} {C : Nat → List S → Store → Res S} {N : List Str} {sc ow : Scope}
mutual
theorem g_T (D : Gd c G C W N sc ow X) : ∀ {t : Tg} {e : Expr}, mtT N ow t e = true → PG X e (RGT c t)
  | .one i, .Name x q, h => by
    simp only [mtT, Bool.and_eq_true, decide_eq_true_eq] at h
    obtain ⟨h1, h2⟩ := D.sto x h.2
    refine PG_imp (pg_name D.nd (by rw [D.N]; exact h.1) h1 h2) fun v σ H Q ⟨g, ρ, st, s, ρ', Rs, Re, r, e, k⟩ => ?_
    simp only [asgT] at e
    split at e
    · cases e
      exact k _ (Re.set r) fun is h => wipe_set (h i (by simp [Tg.ixs]))
    · cases e
  | .nil, .Tuple [] k q, h => by
    refine PG_imp (pg_tup D.calm pgs_nil rfl rfl) fun v σ H Q ⟨g, ρ, st, s, ρ', Rs, Re, r, e, k⟩ => ?_
    cases s with
    | r n => simp [asgT] at e
    | v d =>
      cases d with
      | tup ds =>
        cases ds with
        | nil =>
          simp only [asgT, Option.some.injEq] at e
          subst e
          obtain ⟨a, vs, rfl, h1, h2⟩ := Rp.sqT r
          have hl := h2.length
          have hv : vs = [] := List.length_eq_zero_iff.mp hl.symm
          exact ⟨a, vs, rfl, by rw [D.K]; exact h1, by rw [hv]; rfl, hv, k _ Re fun _ _ => rfl⟩
        | cons _ _ => simp [asgT] at e
      | _ => simp [asgT] at e
  | .cons t ts, .Tuple (e :: es) k q, h => by
    have h0 := h
    simp only [mtT, Bool.and_eq_true] at h
    obtain ⟨⟨h1, h2⟩, h3⟩ := h
    have hall := nstar_all h3
    have all2 : (e :: es).all nstar = true := by simp [h1, hall]
    obtain ⟨l1, l2⟩ := asg_each (env := X.env) all2
    refine PG_imp (pg_tup D.calm (pgs_cons (g_T D h2) (g_Ts D h3) (asg_cons h1)) l1 l2) fun v σ H Q ⟨g, ρ, st, s, ρ', Rs, Re, r, e', kk⟩ => ?_
    have hm : mtTs N ow (.cons t ts) (e :: es) = true := by
      simp only [mtTs, Bool.and_eq_true]
      exact ⟨⟨h1, h2⟩, h3⟩
    cases s with
    | r n => simp [asgT] at e'
    | v d =>
      cases d with
      | tup ds =>
        obtain ⟨a, vs, rfl, q1, q2⟩ := Rp.sqT r
        rw [asg_TL hm] at e'
        refine ⟨a, vs, rfl, by rw [D.K]; exact q1, ?_, ?_⟩
        · rw [← q2.length, ← List.length_map (f := S.v)]
          exact asgL_len hm e'
        · exact gCons_run Rs Re (RelLb.ofV q2) e' kk
      | _ => simp [asgT] at e'
  | .one _, .Tuple _ _ _, h => by simp [mtT] at h
  | .nil, .Tuple (_ :: _) _ _, h => by simp [mtT] at h
  | .cons _ _, .Tuple [] _ _, h => by simp [mtT] at h
  | .nil, .Name _ _, h | .cons _ _, .Name _ _, h => by simp [mtT] at h
theorem g_Ts (D : Gd c G C W N sc ow X) : ∀ {t : Tg} {es : List Expr}, mtTs N ow t es = true → PGs X es (RGL c t)
  | .nil, [], _ => PGs_imp pgs_nil fun vs σ H Q ⟨g, ρ, st, xs, ρ', Rs, Re, r, e, k⟩ => by
    cases xs with
    | nil =>
      cases vs with
      | nil => simp only [asgL, Option.some.injEq] at e; subst e; exact ⟨rfl, k _ Re fun _ _ => rfl⟩
      | cons _ _ => exact r.elim
    | cons _ _ => simp [asgL] at e
  | .cons t ts, e :: es, h => by
    simp only [mtTs, Bool.and_eq_true] at h
    obtain ⟨⟨h1, h2⟩, h3⟩ := h
    exact PGs_imp (pgs_cons (g_T D h2) (g_Ts D h3) (asg_cons h1)) fun vs σ H Q ⟨g, ρ, st, xs, ρ', Rs, Re, r, e, k⟩ => gCons_run Rs Re r e k
end
end
def RGW (c : Ct) (t : Tg) : TG := fun v σ H Q => RGT c t v σ H Q ∨ ∃ g ρ st T vs row ρ', RelSt c g st H ∧ RelE c g st H ρ σ ∧ v = .ref T ∧ H T = some (.tup vs) ∧ RelL c g st H row vs ∧ asgL t row ρ = some ρ' ∧ ∀ σ', RelE c g st H ρ' σ' → Same t σ σ' → Q σ' H
theorem PG_or {X : Cx} {e : Expr} {t t' : TG} (h : PG X e t) (h' : PG X e t') : PG X e (fun v σ H Q => t v σ H Q ∨ t' v σ H Q) := ⟨fun pins s σ H v u Q I r q => q.elim (h.run pins s σ H v u Q I r) (h'.run pins s σ H v u Q I r)⟩
section
variable {X : Cx} {c : Ct} {W : XK} {G : Gt} {C : Nat → List S → Store → Res S} {N : List Str} {sc ow : Scope}
theorem g_W (D : Gd c G C W N sc ow X) {t : Tg} {e : Expr} (h : mtT N ow t e = true) : PG X e (RGW c t) := by
  refine PG_or (g_T D h) ?_
  cases t with
  | one i => exact ⟨fun pins s σ H v u Q I r ⟨g, ρ, st, T, vs, row, ρ', _, _, _, _, _, e, _⟩ => by simp [asgL] at e⟩
  | nil =>
    cases e with
    | Tuple es k q =>
      cases es with
      | nil =>
        refine PG_imp (pg_tup (n := 0) D.calm (g_Ts D (t := .nil) (es := []) rfl) rfl rfl) fun v σ H Q ⟨g, ρ, st, T, vs, row, ρ', Rs, Re, hv, hT, r, e, k⟩ => ?_
        have hl := RelLb.length r
        have h0 := asgL_len (N := N) (ow := ow) (t := .nil) (es := []) rfl e
        exact ⟨T, vs, hv, .inl (.inl hT), by rw [← hl, h0]; rfl, g, ρ, st, row, ρ', Rs, Re, r, e, k⟩
      | cons _ _ => simp [mtT] at h
    | _ => simp [mtT] at h
  | cons t ts =>
    cases e with
    | Tuple es k q =>
      cases es with
      | nil => simp [mtT] at h
      | cons e es =>
        have hm : mtTs N ow (.cons t ts) (e :: es) = true := by
          simp only [mtT] at h
          simp only [mtTs]
          exact h
        obtain ⟨l1, l2⟩ := asg_each (env := X.env) (nstar_all hm)
        refine PG_imp (pg_tup D.calm (g_Ts D hm) l1 l2) fun v σ H Q ⟨g, ρ, st, T, vs, row, ρ', Rs, Re, hv, hT, r, e, k⟩ => ?_
        exact ⟨T, vs, hv, .inl (.inl hT), by rw [← RelLb.length r]; exact asgL_len hm e, g, ρ, st, row, ρ', Rs, Re, r, e, k⟩
    | _ => simp [mtT] at h
end
def del (H : Hp) (D : Addr) : Hp := fun a => if a = D then none else H a
theorem del_same {H : Hp} {D : Addr} : del H D D = none := if_pos rfl
theorem del_ne {H : Hp} {D a : Addr} (h : a ≠ D) : del H D a = H a := if_neg h
theorem RelSb.mvX {c : Ct} {g g' : Gh} {st st' : Store} {H H' : Hp} {b : Nat} (hs : ∀ a o, ¬ Bar g st a → H a = some o → (∀ ps, o ≠ .tbl ps) → ¬ Bar g' st' a ∧ H' a = some o) (hp : ∀ n, g'.ph n = g.ph n) {s : S} {v : V} (h : RelSb c g st H b s v) : RelSb c g' st' H' b s v := by
  cases s with
  | v d => exact Rp.move hs d v h
  | r n => exact ⟨by rw [hp]; exact h.1, h.2⟩
theorem RelLb.mvX {c : Ct} {g g' : Gh} {st st' : Store} {H H' : Hp} {b : Nat} (hs : ∀ a o, ¬ Bar g st a → H a = some o → (∀ ps, o ≠ .tbl ps) → ¬ Bar g' st' a ∧ H' a = some o) (hp : ∀ n, g'.ph n = g.ph n) : ∀ {xs : List S} {vs : List V}, RelLb c g st H b xs vs → RelLb c g' st' H' b xs vs
  | [], [], _ => trivial
  | _ :: _, _ :: _, h => ⟨RelSb.mvX hs hp h.1, RelLb.mvX hs hp h.2⟩
theorem ObR.mvX {c : Ct} {g g' : Gh} {st st' : Store} {H H' : Hp} {b : Nat} (hs : ∀ a o, ¬ Bar g st a → H a = some o → (∀ ps, o ≠ .tbl ps) → ¬ Bar g' st' a ∧ H' a = some o) (hp : ∀ n, g'.ph n = g.ph n) {o : Ob} {h : HO} (r : ObR c g st H b o h) : ObR c g' st' H' b o h := by
  cases o with
  | lst xs => obtain ⟨vs, e, r⟩ := r; exact ⟨vs, e, r.mvX hs hp⟩
  | dic ks xs => obtain ⟨kk, vs, e, r, z⟩ := r; exact ⟨kk, vs, e, r.mvX hs hp, z⟩
  | ins _ _ _ => exact r
section
variable {c : Ct} {g1 : Gh} {st1 : Store} {H1 : Hp} {D : Addr}
def Gh.bar (g : Gh) (D : Addr) : Gh := ⟨g.ph, fun a => g.B a ∨ a = D⟩
structure PvS (mk : List V → HO) (c : Ct) (g1 : Gh) (st1 : Store) (H1 : Hp) (D : Addr) (g : Gh) (st : Store) (H : Hp) (acc : List S) (vs : List V) : Prop where
  rs : RelSt c g st H
  hB : g.B = fun a => g1.B a ∨ a = D
  hD : H D = some (mk vs)
  nt : ∀ vs, Pln (mk vs)
  ra : RelL c g st H acc vs
  kp : Keeps g1 st1 H1 ⟨g.ph, g1.B⟩ st (del H D)
  h1 : H1 D = none
  r1 : RelSt c g1 st1 H1
variable {mk : List V → HO} {g : Gh} {st : Store} {H : Hp} {acc : List S} {vs : List V}
theorem PvS.barD (P : PvS mk c g1 st1 H1 D g st H acc vs) : Bar g st D := .inr (by rw [P.hB]; exact .inr rfl)
theorem PvS.phD (P : PvS mk c g1 st1 H1 D g st H acc vs) {n : Nat} {o : Ob} (e : st[n]? = some (some o)) : g.ph n ≠ D := fun z => (P.rs.bar D (by rw [P.hB]; exact .inr rfl)).2 ⟨n, o, e, z⟩
theorem PvS.up (P : PvS mk c g1 st1 H1 D g st H acc vs) : ∀ a o, ¬ Bar ⟨g.ph, g1.B⟩ st a → del H D a = some o → (∀ ps, o ≠ .tbl ps) → ¬ Bar g st a ∧ H a = some o := fun a o nb e _ => by
  have hne : a ≠ D := fun z => by rw [z, del_same] at e; cases e
  rw [del_ne hne] at e
  refine ⟨?_, e⟩
  rintro (l | b)
  · exact nb (.inl l)
  · rw [P.hB] at b
    rcases b with b | b
    · exact nb (.inr b)
    · exact hne b
theorem PvS.dn (P : PvS mk c g1 st1 H1 D g st H acc vs) : ∀ a o, ¬ Bar g st a → H a = some o → (∀ ps, o ≠ .tbl ps) → ¬ Bar ⟨g.ph, g1.B⟩ st a ∧ del H D a = some o := fun a o nb e _ => by
  have hne : a ≠ D := fun z => nb (by rw [z]; exact P.barD)
  refine ⟨?_, by rw [del_ne hne]; exact e⟩
  rintro (l | b)
  · exact nb (.inl l)
  · exact nb (.inr (by rw [P.hB]; exact .inl b))
theorem PvS.out (P : PvS mk c g1 st1 H1 D g st H acc vs) : RelSt c ⟨g.ph, g1.B⟩ st (del H D) where
  ob := fun n o e => by
    obtain ⟨h, e1, e2⟩ := P.rs.ob n o e
    exact ⟨h, by rw [del_ne (P.phD e)]; exact e1, ObR.mvX P.dn (fun _ => rfl) e2⟩
  inj := P.rs.inj
  bar := fun a b => by
    have hne : a ≠ D := fun z => by
      rw [z] at b
      exact Nt.no P.h1 (P.r1.bar D b).1
    refine ⟨?_, (P.rs.bar a (by rw [P.hB]; exact .inl b)).2⟩
    exact (P.rs.bar a (by rw [P.hB]; exact .inl b)).1.eq (del_ne hne)
  tab := tabs_at P.rs.tab (fun u e => by rw [P.hD] at e; cases e; exact P.nt vs) fun b hb => del_ne hb
theorem PvS.start (nt : ∀ vs, Pln (mk vs)) (R : RelSt c g1 st1 H1) (h : H1 D = none) : PvS mk c g1 st1 H1 D (g1.bar D) st1 (upd H1 D (mk [])) [] [] := by
  have nb : ¬ Bar g1 st1 D := R.notBar h
  have hs : ∀ a o, ¬ Bar g1 st1 a → H1 a = some o → (∀ ps, o ≠ .tbl ps) → ¬ Bar (g1.bar D) st1 a ∧ upd H1 D (mk []) a = some o := fun a o n e _ => by
    have hne := ne_of_none e h
    refine ⟨?_, by rw [upd_ne hne]; exact e⟩
    rintro (l | b | b)
    · exact n (.inl l)
    · exact n (.inr b)
    · exact hne b
  refine ⟨⟨fun n o e => ?_, R.inj, fun a b => ?_, tabs_new R.tab h⟩, rfl, upd_same, nt, trivial, ?_, h, R⟩
  · obtain ⟨x, e1, e2⟩ := R.ob n o e
    exact ⟨x, (upd_ne (ne_of_none e1 h)).trans e1, ObR.mvX hs (fun _ => rfl) e2⟩
  · rcases b with b | b
    · refine ⟨?_, (R.bar a b).2⟩
      exact (R.bar a b).1.eq (upd_ne (fun z => by rw [z] at b; exact Nt.no h (R.bar D b).1))
    · rw [b]
      exact ⟨⟨_, upd_same, (nt []).1⟩, fun l => nb (.inl l)⟩
  · have e : del (upd H1 D (mk [])) D = H1 := by
      funext a
      by_cases z : a = D
      · rw [z, del_same, h]
      · rw [del_ne z, upd_ne z]
    rw [e]
    exact Keeps.refl _ _ _
theorem PvS.step {g' : Gh} {st' : Store} {H' : Hp} (P : PvS mk c g1 st1 H1 D g st H acc vs) (R : RelSt c g' st' H') (K : Keeps g st H g' st' H') : PvS mk c g1 st1 H1 D g' st' H' acc vs where
  rs := R
  hB := K.B.trans P.hB
  hD := K.same D _ (fun l => (P.rs.bar D (by rw [P.hB]; exact .inr rfl)).2 l) P.hD (P.nt vs).1
  nt := P.nt
  ra := RelL.move K P.ra
  kp := P.kp.trans {
    same := fun a o nl e nt => by
      have hne : a ≠ D := fun z => by rw [z, del_same] at e; cases e
      rw [del_ne hne] at e ⊢
      exact K.same a o nl e nt
    live := fun a l => by
      rcases K.live a l with l | e
      · exact .inl l
      · right
        by_cases z : a = D
        · rw [z]; exact Nt.no del_same
        · exact fun q => e (q.eq (del_ne z).symm)
    B := rfl
    ph := K.ph
    len := K.len
    some_ := fun a e => by
      have hne : a ≠ D := fun z => Nt.no del_same (z ▸ e)
      exact (K.some_ a (e.eq (del_ne hne).symm)).eq (del_ne hne) }
  h1 := P.h1
  r1 := P.r1
theorem PvS.push (P : PvS mk c g1 st1 H1 D g st H acc vs) {s : S} {y : V} (r : RelS c g st H s y) : PvS mk c g1 st1 H1 D g st (upd H D (mk (vs ++ [y]))) (acc ++ [s]) (vs ++ [y]) := by
  have hs : ∀ a o, ¬ Bar g st a → H a = some o → (∀ ps, o ≠ .tbl ps) → ¬ Bar g st a ∧ upd H D (mk (vs ++ [y])) a = some o := fun a o nb e _ => by
    have hne : a ≠ D := fun z => nb (by rw [z]; exact P.barD)
    exact ⟨nb, by rw [upd_ne hne]; exact e⟩
  refine ⟨⟨fun n o e => ?_, P.rs.inj, fun a b => ⟨?_, (P.rs.bar a b).2⟩, tabs_at P.rs.tab (fun u e => by rw [P.hD] at e; cases e; exact P.nt vs) fun b hb => upd_ne hb⟩, P.hB, upd_same, P.nt, ?_, ?_, P.h1, P.r1⟩
  · obtain ⟨x, e1, e2⟩ := P.rs.ob n o e
    exact ⟨x, by rw [upd_ne (P.phD e)]; exact e1, e2.mvX hs (fun _ => rfl)⟩
  · by_cases z : a = D
    · rw [z]; exact ⟨_, upd_same, (P.nt _).1⟩
    · exact (P.rs.bar a b).1.eq (upd_ne z)
  · exact RelLb.app (RelLb.mvX hs (fun _ => rfl) P.ra) ⟨RelSb.mvX hs (fun _ => rfl) r, trivial⟩
  · have e : del (upd H D (mk (vs ++ [y]))) D = del H D := by
      funext a
      by_cases z : a = D
      · rw [z, del_same, del_same]
      · rw [del_ne z, del_ne z, upd_ne z]
    rw [e]
    exact P.kp
theorem PvS.rel (P : PvS mk c g1 st1 H1 D g st H acc vs) {s : S} {v : V} (r : RelS c g1 st1 H1 s v) : RelS c g st H s v := by
  have h := RelS.move P.kp r
  exact RelSb.mvX P.up (fun _ => rfl) h
theorem PvS.env (P : PvS mk c g1 st1 H1 D g st H acc vs) {ρ : Env} {σ : L2.St} (r : RelE c g1 st1 H1 ρ σ) : RelE c g st H ρ σ :=
  ⟨r.len, fun i s e => let ⟨v, e', r'⟩ := r.at_ i s e; ⟨v, e', P.rel r'⟩⟩
theorem PvS.lift (P : PvS mk c g1 st1 H1 D g st H acc vs) : ∀ a o, ¬ Bar g st a → H a = some o → (∀ ps, o ≠ .tbl ps) → ¬ Bar ⟨g.ph, g1.B⟩ st a ∧ H a = some o := fun a o nb e _ =>
  ⟨fun b => nb (b.elim .inl fun b => .inr (by rw [P.hB]; exact .inl b)), e⟩
theorem PvS.open (P : PvS mk c g1 st1 H1 D g st H acc vs) : RelSt c ⟨g.ph, g1.B⟩ st H where
  ob := fun n o e => by
    obtain ⟨h, e1, e2⟩ := P.rs.ob n o e
    exact ⟨h, e1, ObR.mvX P.lift (fun _ => rfl) e2⟩
  inj := P.rs.inj
  bar := fun a b => P.rs.bar a (by rw [P.hB]; exact .inl b)
  tab := P.rs.tab
theorem PvS.keep (P : PvS mk c g1 st1 H1 D g st H acc vs) : Keeps g1 st1 H1 ⟨g.ph, g1.B⟩ st H := P.kp.trans {
  same := fun a o nl e nt => by
    have hne : a ≠ D := fun z => by rw [z, del_same] at e; cases e
    rw [del_ne hne] at e
    exact e
  live := fun a l => .inl l
  B := rfl
  ph := fun _ _ => rfl
  len := Nat.le_refl _
  some_ := fun a e => e.eq (del_ne fun z => Nt.no del_same (z ▸ e)).symm }
end
def NoX : XK := fun _ _ _ => False
noncomputable def rowR (w : Wk) (tg : Tg) (vs : List Nat) (fc : Env → Store → Res Bool) (fe : Env → Store → Res S) (ρ : Env) : List S → Store → Res (Option S) := fun row st2 => Res.nox (match w.asg tg row (wipe ρ vs) with
  | none => .bad
  | some ρ2 => (fc ρ2 st2).bind fun b st3 => if b then (fe ρ2 st3).bind fun x st4 => .ok (some x) st4 else .ok none st3)
theorem lc_read {c : Ct} {W : XK} {fi : Env → Store → Res Wk} {tg : Tg} {vs : List Nat} {fc : Env → Store → Res Bool} {fe : Env → Store → Res S} (hv : ∀ i ∈ tg.ixs, i ∈ vs) {σ : L2.St} {H : Hp} {Q : VK}
    (h : RF c W (fun ρ st => (fi ρ st).bind fun w st1 => compR w (rowR w tg vs fc fe ρ) w.rows [] st1) σ H Q) : tLc (RI c W fi) (RGW c tg) (RT c NoX fc) (RD c NoX fe) vs σ H Q := by
  obtain ⟨g, ρ, st, Rs, Re, p⟩ := h
  refine RG.bind Rs Re p fun w st1 J H1 g1 Rs1 Re1 K1 m p D hD => ?_
  obtain ⟨srcs, hsr, hst, hsz, wk⟩ := m
  let Q' : List V → Hp → Prop := fun vs H' => ∀ q, H' q = none → Q (.ref q) (upd H' q (.lst vs))
  have st_of : ∀ (rows : List (List S)) (acc : List S) (st : Store), PostG c W g1 st1 H1 (ML c) (compR w (rowR w tg vs fc fe ρ) rows acc st) Q' → w.stands st := fun rows acc st p => by
    cases rows with
    | nil => unfold compR at p; split at p; exact ‹w.stands st›; exact p.elim
    | cons row r => unfold compR at p; split at p; exact ‹w.stands st›; exact p.elim
  refine lc_it wk (fun i H => ∃ g st acc us, PvS .lst c g1 st1 H1 D g st H acc us ∧ acc.length ≤ i ∧ PostG c W g1 st1 H1 (ML c) (compR w (rowR w tg vs fc fe ρ) (w.rows.drop i) acc st) Q') ?_ ?_ ?_ ?_
  · exact ⟨g1.bar D, st1, [], [], PvS.start (fun _ => ⟨(fun _ z => nomatch z), (fun _ z => nomatch z)⟩) Rs1 hD, Nat.le_refl _, p⟩
  · rintro i H _ ⟨g, st, acc, us, P, _, p⟩
    exact ⟨g, st, P.rs, fun q hq => P.rel (hsr q hq), st_of _ _ _ p⟩
  · rintro i x H H' hi ⟨g, st, acc, us, P, hl, p⟩ y
    have hst2 := st_of _ _ _ p
    have y := y g st P.rs (fun q hq => P.rel (hsr q hq)) hst2 w.rows[i] (List.getElem?_eq_getElem hi)
    rw [List.drop_eq_getElem_cons hi] at p
    unfold compR at p
    rw [if_pos hst2] at p
    generalize w.rows[i] = row at y p
    unfold rowR at p
    have Rw : RelE c g st H (wipe ρ vs) (L2.wipe σ vs) := (P.env Re1).wipe vs
    have eqw : ∀ σ2, Same tg (L2.wipe σ vs) σ2 → L2.wipe σ2 vs = L2.wipe σ vs := fun σ2 s => (s vs hv).trans (wipe_wipe' fun _ h => h)
    -- what is left, once the row is stored
    have rest : ∀ (ρ2 : Env) (H' : Hp) (σ2 : L2.St), w.asg tg row (wipe ρ vs) = some ρ2 → PvS .lst c g1 st1 H1 D g st H' acc us → RelE c g st H' ρ2 σ2 → RT c NoX fc σ2 H' fun b H3 =>
        if b = true then RD c NoX fe σ2 H3 fun y H4 => ∃ acc, H4 D = some (.lst acc) ∧ acc.length < sizeLine ∧ ∃ g st acc' us, PvS .lst c g1 st1 H1 D g st (upd H4 D (.lst (acc ++ [y]))) acc' us ∧ acc'.length ≤ i + 1 ∧ PostG c W g1 st1 H1 (ML c) (compR w (rowR w tg vs fc fe ρ) (w.rows.drop (i + 1)) acc' st) Q'
        else ∃ g st acc us, PvS .lst c g1 st1 H1 D g st H3 acc us ∧ acc.length ≤ i + 1 ∧ PostG c W g1 st1 H1 (ML c) (compR w (rowR w tg vs fc fe ρ) (w.rows.drop (i + 1)) acc st) Q' := fun ρ2 H' σ2 ea P' Re2 => by
      rw [ea] at p
      refine ⟨g, ρ2, st, P'.rs, Re2, ?_⟩
      dsimp only at p
      cases ec : fc ρ2 st with
      | bad => rw [ec] at p; exact p.elim
      | ex a b d e => rw [ec] at p; exact p.elim
      | ok b st3 =>
        rw [ec] at p
        intro b' H3 g3 Rs3 K3 eb
        cases eb
        have P3 := P'.step Rs3 K3
        cases b with
        | false =>
          rw [if_neg Bool.false_ne_true]
          exact ⟨g3, st3, acc, us, P3, by omega, p⟩
        | true =>
          rw [if_pos rfl]
          refine ⟨g3, ρ2, st3, Rs3, Re2.move K3, ?_⟩
          rw [Res.bind_ok, if_pos rfl] at p
          cases ee : fe ρ2 st3 with
          | bad => rw [ee] at p; exact p.elim
          | ex a b d e => rw [ee] at p; exact p.elim
          | ok s st4 =>
            rw [ee] at p
            intro y H4 g4 Rs4 K4 m4
            have P4 := P3.step Rs4 K4
            have hl4 := RelLb.length P4.ra
            refine ⟨us, P4.hD, by omega, g4, st4, acc ++ [s], us ++ [y], P4.push m4, by rw [List.length_append]; simp; omega, p⟩
    cases ea : w.asg tg row (wipe ρ vs) with
    | none => rw [ea] at p; exact p.elim
    | some ρ2 =>
      cases hk : w.pk with
      | false =>
        rw [hk, if_neg Bool.false_ne_true] at y
        obtain ⟨rfl, y⟩ := y
        have ea0 := ea
        unfold Wk.asg at ea
        rw [hk] at ea
        cases row with
        | nil => simp at ea
        | cons s r =>
          cases r with
          | cons _ _ => simp at ea
          | nil =>
            exact .inl ⟨g, wipe ρ vs, st, s, ρ2, P.rs, Rw, y s rfl, by simpa using ea, fun σ2 Re2 sm => ⟨eqw σ2 sm, rest ρ2 _ σ2 ea0 P Re2⟩⟩
      | true =>
        rw [hk, if_pos rfl] at y
        obtain ⟨T, ws, rfl, hT, rfl, r⟩ := y
        have ea0 := ea
        unfold Wk.asg at ea
        rw [hk] at ea
        have Kn : Keeps g st H g st (upd H T (.tup ws)) := Keeps.new hT
        have Rn := P.rs.new (o := .tup ws) hT
        exact .inr ⟨g, wipe ρ vs, st, T, ws, row, ρ2, Rn, Rw.move Kn, rfl, upd_same, RelL.move Kn r, by simpa using ea, fun σ2 Re2 sm => ⟨eqw σ2 sm, rest ρ2 _ σ2 ea0 (P.step Rn Kn) Re2⟩⟩
  · rintro H ⟨g, st, acc, us, P, _, p⟩
    rw [List.drop_length] at p
    unfold compR at p
    split at p
    · have q := p us (del H D) ⟨g.ph, g1.B⟩ P.out P.kp (RelLb.mvX P.dn (fun _ => rfl) P.ra) D del_same
      have e : upd (del H D) D (.lst us) = H := by
        funext a
        by_cases z : a = D
        · rw [z, upd_same, P.hD]
        · rw [upd_ne z, del_ne z]
      rw [e] at q
      exact q
    · exact p.elim
end Sw

set_option linter.all false
set_option maxRecDepth 100000
set_option maxHeartbeats 4000000
namespace Sw
open PySem L2 PySem.Spec PyProof.Rows
def isIx : Expr → Bool
  | .Slice _ _ _ _ => false
  | _ => true
theorem isIx_ok {b : Expr} (h : isIx b = true) : PlainIx b := by
  intro o i
  cases b <;> first | rfl | exact Bool.noConfusion h
def notSet : Expr → Bool
  | .Set _ _ _ => false
  | _ => true
theorem notSet_ok {e : Expr} {env : PySem.Env} {x : Value} (h : notSet e = true) : foldedSetIterable e env x = pure x := by
  cases e <;> first | rfl | exact Bool.noConfusion h
def plainTest : Expr → Bool
  | .UnaryOp .Not _ _ => false
  | .BoolOp _ _ _ => false
  | .IfExp _ _ _ _ => false
  | .Compare _ _ _ _ => false
  | _ => true
theorem plainTest_ok {e : Expr} {env : PySem.Env} (h : plainTest e = true) : ∀ whole, isTrue e env whole = (do let v ← whole; standAt e.pos; holding [v] (truthy v)) := by
  intro whole
  cases e <;> first
    | rfl
    | exact Bool.noConfusion h
    | (rename_i op _ _; cases op <;> first | rfl | exact Bool.noConfusion h)
def ownOf (N : List Str) (vs : List Nat) : List (Str × Nat) := vs.map fun i => (N.getD i "", i)
theorem ownOf_ix (N : List Str) (vs : List Nat) : (ownOf N vs).map (·.2) = vs := by
  unfold ownOf
  rw [List.map_map]
  exact List.map_id' vs
def mtKs : List Str → List (Option Expr) → Bool
  | [], [] => true
  | k :: ks, some (.Constant (.str y) _ _) :: r => decide (k = y) && mtKs ks r
  | _, _ => false
def kwNames : List Str → List Keyword → Bool
  | [], [] => true
  | k :: ks, ⟨some y, _, _⟩ :: r => decide (k = y) && kwNames ks r
  | _, _ => false
def isTup : Expr → Bool
  | .Tuple _ _ _ => true
  | _ => false
section
variable (G : Gt) (N : List Str)
mutual
def mtE : E → Scope → Scope → Expr → Bool
  | .var i, sc, _, X => (match X with
    | .Name x _ => decide (N[i]? = some x) && isV sc x && nodb x
    | _ => false)
  | .glob i, sc, _, X => (match X with
    | .Name x _ => (match G.cs[i]? with
    | some p => decide (p.1 = x)
    | none => false) && isG sc x && nodb x
    | _ => false)
  | .cint i, _, _, X => (match X with
    | .Constant (.int j) _ _ => decide (i = j)
    | _ => false)
  | .cstr z, _, _, X => (match X with
    | .Constant (.str y) _ _ => decide (z = y) && decide (z.length ≤ 1000) && PyData.strOk z
    | _ => false)
  | .cbl b, _, _, X => (match X with
    | .Constant (.bool d) _ _ => b == d
    | _ => false)
  | .cnon, _, _, X => (match X with
    | .Constant .none _ _ => true
    | _ => false)
  | .tup es, sc, ow, X => (match X with
    | .Tuple l _ _ => mtEs es sc ow l && l.all nstar && decide (l.length ≤ 1000)
    | _ => false)
  | .fr f, sc, ow, e => mtF f sc ow e
  | .al f, sc, ow, e => mtF f sc ow e
  | .dnew ks es, sc, ow, X => (match X with
    | .Dict keys vals _ => mtKs ks keys && mtEs es sc ow vals && decide (ks.length ≤ 15) && decide (keys.length = vals.length)
    | _ => false)
  | .bop o a b, sc, ow, X => (match X with
    | .BinOp x op y _ => decide (o.op = op) && mtE a sc ow x && mtE b sc ow y
    | _ => false)
  | .neg a, sc, ow, X => (match X with
    | .UnaryOp .USub x _ => mtE a sc ow x
    | _ => false)
  | .cmp o a b, sc, ow, X => (match X with
    | .Compare x [op] [y] _ => decide (o.op = op) && !behindInMarks op y && mtE a sc ow x && mtE b sc ow y
    | _ => false)
  | .chn o o' a b c, sc, ow, X => (match X with
    | .Compare x [op, op'] [y, z] _ => decide (o.op = op) && decide (o'.op = op') && !lastMarks [op, op'] [y, z] && mtE a sc ow x && mtE b sc ow y && mtE c sc ow z
    | _ => false)
  | .not a, sc, ow, X => (match X with
    | .UnaryOp .Not x _ => mtE a sc ow x
    | _ => false)
  | .andv es, sc, ow, X => (match X with
    | .BoolOp .And l _ => mtEs es sc ow l
    | _ => false)
  | .orv es, sc, ow, X => (match X with
    | .BoolOp .Or l _ => mtEs es sc ow l
    | _ => false)
  | .ife c a b, sc, ow, X => (match X with
    | .IfExp t x y _ => mtC c sc ow t && mtE a sc ow x && mtE b sc ow y
    | _ => false)
  | .ix a i, sc, ow, X => (match X with
    | .Subscript x y _ => isIx y && mtE a sc ow x && mtE i sc ow y
    | _ => false)
  | .slc a lo hi, sc, ow, X => (match X with
    | .Subscript x (.Slice l h none _) _ => mtE a sc ow x && mtO lo sc ow l && mtO hi sc ow h
    | _ => false)
  | .call f es, sc, ow, X => (match X with
    | .Call (.Name x _) l [] _ => decide (G.cl[f]? = some x) && isG sc x && nodb x && mtEs es sc ow l && l.all nstar
    | _ => false)
  | .callk f es ks kes, sc, ow, X => (match X with
    | .Call (.Name x _) l kws _ => decide (G.cl[f]? = some x) && isG sc x && nodb x && mtEs es sc ow l && l.all nstar && decide ((f, l.length, ks) ∈ G.kw) && kwNames ks kws && mtEs kes sc ow (kws.map fun k => match k with | ⟨_, e, _⟩ => e)
    | _ => false)
  | .bl b es, sc, ow, X => (match X with
    | .Call (.Name x _) (e :: l) [] _ => decide (x = b.nm) && isG sc x && mtEs es sc ow (e :: l) && (e :: l).all nstar
    | _ => false)
  | .isi e ts par, sc, ow, X => (match X with
    | .Call (.Name x _) [y, z] [] _ => decide (x = "isinstance") && isG sc x && nstar y && mtE e sc ow y && (match par, ts, z with
    | false, [t], .Name u _ => t.plain && decide (u = t.nm) && isG sc u
    | true, t :: ts, .Tuple l _ _ => tyNames N sc (t :: ts) l && decide ((t :: ts).length ≤ 100)
    | _, _, _ => false)
    | _ => false)
  | .mth m o es, sc, ow, X => (match X with
    | .Call (.Attribute ob x apos) l [] cpos => decide (x = m.nm) && okBase ob && (apos.endLine == cpos.line) && mtE o sc ow ob && mtEs es sc ow l && l.all nstar && decide (l.length < 30)
    | _ => false)
  | .frz e, sc, ow, x => mtE e sc ow x
  | .stuck, _, _, _ => true
  | .fnv f, sc, _, X => (match X with
    | .Name x _ => decide (G.cl[f]? = some x) && isG sc x && nodb x
    | _ => false)
  | .callv i es, sc, ow, X => (match X with
    | .Call (.Name x _) (e :: l) [] _ => decide (N[i]? = some x) && isV sc x && nodb x && mtEs es sc ow (e :: l) && (e :: l).all nstar
    | _ => false)
  | .caught e, sc, ow, X => (match X with
    | .Call (.Name x _) [.Lambda ps body lsc _] [] _ => !ow.isCoroutine && decide (G.ct = some x) && isG sc x && nodb x && noPar ps && LamX.lamSB sc lsc && mtE e lsc (owF false lsc) body
    | _ => false)
  | .isx e o, sc, ow, X => (match o with
    | .own ci => (match X with
      | .Call (.Name x _) [y, .Name z _] [] _ => decide (x = "isinstance") && isG sc x && nstar y && mtE e sc ow y && decide (G.ks[ci]? = some z) && isG sc z && nodb z
      | _ => false)
    | .ve => false)
  | .fld _ _, _, _, _ => false
def mtEs : Es → Scope → Scope → List Expr → Bool
  | .nil, _, _, X => (match X with
    | [] => true
    | _ => false)
  | .cons e es, sc, ow, X => (match X with
    | x :: l => mtE e sc ow x && mtEs es sc ow l
    | _ => false)
def mtO : Oe → Scope → Scope → Option Expr → Bool
  | .no, _, _, X => (match X with
    | none => true
    | _ => false)
  | .yes e, sc, ow, X => (match X with
    | some x => mtE e sc ow x
    | _ => false)
def mtF : Fr → Scope → Scope → Expr → Bool
  | .disp es, sc, ow, X => (match X with
    | .List l _ => mtEs es sc ow l && l.all nstar && decide (l.length ≤ 1000)
    | _ => false)
  | .comp el tg vs it c, sc, ow, X => (match X with
    | .ListComp elt [⟨t, iter, ifs, as⟩] scope _ => decide (as = 0) && blkC N sc scope (ownOf N vs) && mtIt it sc ow iter t && mtT N (owC ow scope) tg t && mtOc c (relS scope sc) (owC ow scope) ifs && mtE el (relS scope sc) (owC ow scope) elt && tg.ixs.all (fun i => decide (i ∈ vs)) && notSet iter
    | _ => false)
  | .lof e, sc, ow, X => (match X with
    | .Call (.Name x _) [y] [] _ => decide (x = "list") && isG sc x && nstar y && mtE e sc ow y
    | _ => false)
  | .add a b, sc, ow, X => (match X with
    | .BinOp x .Add y _ => mtE a sc ow x && mtE b sc ow y
    | _ => false)
  | .srt _, _, _, _ => false
  | .lzip a b, sc, ow, X => (match X with
    | .Call (.Name x _) [.Call (.Name x2 _) [y, z] [] _] [] _ => decide (x = "list") && isG sc x && decide (x2 = "zip") && isG sc x2 && nstar y && nstar z && mtE a sc ow y && mtE b sc ow z
    | _ => false)
def mtOc : Oc → Scope → Scope → List Expr → Bool
  | .no, _, _, X => (match X with
    | [] => true
    | _ => false)
  | .yes c, sc, ow, X => (match X with
    | [x] => mtC c sc ow x
    | _ => false)
def mtC : Cd → Scope → Scope → Expr → Bool
  | .cmp o a b, sc, ow, X => (match X with
    | .Compare x [op] [y] _ => decide (o.op = op) && !behindInMarks op y && mtE a sc ow x && mtE b sc ow y
    | _ => false)
  | .chain o o' a b c, sc, ow, X => (match X with
    | .Compare x [op, op'] [y, z] _ => decide (o.op = op) && decide (o'.op = op') && !lastMarks [op, op'] [y, z] && mtE a sc ow x && mtE b sc ow y && mtE c sc ow z
    | _ => false)
  | .and cs, sc, ow, X => (match X with
    | .BoolOp .And l _ => mtCs cs sc ow l
    | _ => false)
  | .or cs, sc, ow, X => (match X with
    | .BoolOp .Or l _ => mtCs cs sc ow l
    | _ => false)
  | .not a, sc, ow, X => (match X with
    | .UnaryOp .Not x _ => mtC a sc ow x
    | _ => false)
  | .ife c a b, sc, ow, X => (match X with
    | .IfExp t x y _ => mtC c sc ow t && mtC a sc ow x && mtC b sc ow y
    | _ => false)
  | .val e, sc, ow, x => plainTest x && mtE e sc ow x
def mtCs : Cs → Scope → Scope → List Expr → Bool
  | .nil, _, _, X => (match X with
    | [] => true
    | _ => false)
  | .cons c cs, sc, ow, X => (match X with
    | x :: l => mtC c sc ow x && mtCs cs sc ow l
    | _ => false)
def mtIt : It → Scope → Scope → Expr → Expr → Bool
  | .sq e, sc, ow, x, _ => mtE e sc ow x
  | .rng a, sc, ow, X, _ => (match X with
    | .Call (.Name x _) [y] [] _ => decide (x = "range") && isG sc x && nstar y && mtE a sc ow y
    | _ => false)
  | .rng2 a b, sc, ow, X, _ => (match X with
    | .Call (.Name x _) [y, z] [] _ => decide (x = "range") && isG sc x && nstar y && nstar z && mtE a sc ow y && mtE b sc ow z
    | _ => false)
  | .zip a b, sc, ow, X, tg => (match X with
    | .Call (.Name x _) [y, z] [] _ => decide (x = "zip") && isG sc x && nstar y && nstar z && mtE a sc ow y && mtE b sc ow z && isTup tg
    | _ => false)
  | .zip3 a b c, sc, ow, X, tg => (match X with
    | .Call (.Name x _) [y, z, u] [] _ => decide (x = "zip") && isG sc x && nstar y && nstar z && nstar u && mtE a sc ow y && mtE b sc ow z && mtE c sc ow u && isTup tg
    | _ => false)
  | .enum a, sc, ow, X, tg => (match X with
    | .Call (.Name x _) [y] [] _ => decide (x = "enumerate") && isG sc x && nstar y && mtE a sc ow y && isTup tg
    | _ => false)
end
end
end Sw

set_option linter.all false
set_option maxRecDepth 100000
set_option maxHeartbeats 4000000
namespace Sw
open PySem L2 PySem.Spec PyProof.Rows
def esLen : Es → Nat
  | .nil => 0
  | .cons _ es => esLen es + 1
theorem evEs_len {G : Gt} {C : Nat → List S → Store → Res S} : ∀ {es : Es} {ρ : Env} {st st' : Store} {xs : List S}, evEs G C es ρ st = .ok xs st' → xs.length = esLen es
  | .nil, ρ, st, st', xs, h => by simp only [evEs] at h; cases h; rfl
  | .cons e es, ρ, st, st', xs, h => by
    simp only [evEs] at h
    cases e1 : evE G C e ρ st with
    | bad => rw [e1] at h; cases h
    | ex a b d e => rw [e1] at h; cases h
    | ok x st1 =>
      rw [e1, Res.bind_ok] at h
      cases e2 : evEs G C es ρ st1 with
      | bad => rw [e2] at h; cases h
      | ex a b d e => rw [e2] at h; cases h
      | ok ys st2 =>
        rw [e2, Res.bind_ok] at h
        cases h
        exact congrArg (· + 1) (evEs_len e2)
theorem mtEs_len {G : Gt} {N : List Str} : ∀ {es : Es} {sc ow : Scope} {l : List Expr}, mtEs G N es sc ow l = true → l.length = esLen es
  | .nil, _, _, l, h => by simp only [mtEs] at h; split at h; rfl; cases h
  | .cons e es, _, _, l, h => by
    simp only [mtEs] at h
    split at h
    · simp only [Bool.and_eq_true] at h
      exact congrArg (· + 1) (mtEs_len h.2)
    · cases h
section
variable {c : Ct} {G : Gt} {C : Nat → List S → Store → Res S} {N : List Str}
def AllE (c : Ct) (G : Gt) (C : Nat → List S → Store → Res S) (W : XK) (X : Cx) : Es → List Expr → Prop
  | .nil, [] => True
  | .cons e es, x :: l => PE X x (RD c W (evE G C e)) ∧ AllE c G C W X es l
  | _, _ => False
def AllC (c : Ct) (G : Gt) (C : Nat → List S → Store → Res S) (W : XK) (X : Cx) : Cs → List Expr → Prop
  | .nil, [] => True
  | .cons e es, x :: l => PT X x (RT c W (evC G C e)) ∧ AllC c G C W X es l
  | _, _ => False
variable {W : XK} {X : Cx} {sc ow : Scope}
theorem AllE.pa : ∀ {es : Es} {l : List Expr}, AllE c G C W X es l → l.all nstar = true → PA X l (RA c W (evEs G C es))
  | .nil, [], _, _ => by
    have : evEs G C .nil = fun _ st => .ok [] st := by funext ρ st; simp only [evEs]
    rw [this]
    exact a_nil
  | .cons e es, x :: l, h, hs => by
    simp only [List.all_cons, Bool.and_eq_true] at hs
    have : evEs G C (.cons e es) = fun ρ st => (evE G C e ρ st).bind fun x st1 => (evEs G C es ρ st1).bind fun xs st2 => .ok (x :: xs) st2 := by funext ρ st; simp only [evEs]
    rw [this]
    exact a_cons (star_cons hs.1) h.1 (AllE.pa h.2 hs.2)
  | .nil, _ :: _, h, _ | .cons _ _, [], h, _ => h.elim
theorem AllE.pk : ∀ {es : Es} {kws : List Keyword}, AllE c G C W X es (kws.map fun k => match k with | ⟨_, e, _⟩ => e) → PK X kws (RA c W (evEs G C es))
  | .nil, [], _ => by
    have : evEs G C .nil = fun _ st => .ok [] st := by funext ρ st; simp only [evEs]
    rw [this]
    exact k_nil
  | .cons e es, ⟨n, x, q⟩ :: l, h => by
    have : evEs G C (.cons e es) = fun ρ st => (evE G C e ρ st).bind fun x st1 => (evEs G C es ρ st1).bind fun xs st2 => .ok (x :: xs) st2 := by funext ρ st; simp only [evEs]
    rw [this]
    exact k_cons h.1 (AllE.pk h.2)
  | .nil, _ :: _, h | .cons _ _, [], h => h.elim
theorem AllE.and {pos : Pos} : ∀ {es : Es} {l : List Expr}, AllE c G C W X es l → es ≠ .nil → PE X (.BoolOp .And l pos) (RD c W (evAnd G C es))
  | .nil, _, _, hn => absurd rfl hn
  | .cons e .nil, [x], h, _ => by
    have : evAnd G C (.cons e .nil) = evE G C e := by funext ρ st; simp only [evAnd]
    rw [this]
    exact d_and1 h.1
  | .cons e (.cons e' es), x :: y :: l, h, _ => by
    have : evAnd G C (.cons e (.cons e' es)) = fun ρ st => (evE G C e ρ st).bind fun x st1 => match x with
      | .v (.bl true) => evAnd G C (.cons e' es) ρ st1
      | .v (.bl false) => .ok (.v (.bl false)) st1
      | _ => .bad := by funext ρ st; simp only [evAnd] <;> rfl
    rw [this]
    exact d_and h.1 (AllE.and h.2 (fun z => nomatch z))
  | .cons _ .nil, [], h, _ | .cons _ (.cons _ _), [], h, _ => h.elim
  | .cons _ .nil, _ :: _ :: _, h, _ => h.2.elim
  | .cons _ (.cons _ _), [_], h, _ => h.2.elim
theorem AllE.or {pos : Pos} : ∀ {es : Es} {l : List Expr}, AllE c G C W X es l → es ≠ .nil → PE X (.BoolOp .Or l pos) (RD c W (evOr G C es))
  | .nil, _, _, hn => absurd rfl hn
  | .cons e .nil, [x], h, _ => by
    have : evOr G C (.cons e .nil) = evE G C e := by funext ρ st; simp only [evOr]
    rw [this]
    exact pe_one h.1
  | .cons e (.cons e' es), x :: y :: l, h, _ => by
    have : evOr G C (.cons e (.cons e' es)) = fun ρ st => (evE G C e ρ st).bind fun x st1 => match x with
      | .v (.bl false) => evOr G C (.cons e' es) ρ st1
      | .v (.bl true) => .ok (.v (.bl true)) st1
      | _ => .bad := by funext ρ st; simp only [evOr] <;> rfl
    rw [this]
    exact d_or h.1 (AllE.or h.2 (fun z => nomatch z))
  | .cons _ .nil, [], h, _ | .cons _ (.cons _ _), [], h, _ => h.elim
  | .cons _ .nil, _ :: _ :: _, h, _ => h.2.elim
  | .cons _ (.cons _ _), [_], h, _ => h.2.elim
theorem AllC.and {pos : Pos} : ∀ {es : Cs} {l : List Expr}, AllC c G C W X es l → es ≠ .nil → PW X (.BoolOp .And l pos) (RT c W (evAll G C es))
  | .nil, _, _, hn => absurd rfl hn
  | .cons e .nil, [x], h, _ => by
    have : evAll G C (.cons e .nil) = evC G C e := by funext ρ st; simp only [evAll]
    rw [this]
    exact pw_and1 h.1
  | .cons e (.cons e' es), x :: y :: l, h, _ => by
    have : evAll G C (.cons e (.cons e' es)) = fun ρ st => (evC G C e ρ st).bind fun k st1 => if k then evAll G C (.cons e' es) ρ st1 else .ok false st1 := by funext ρ st; simp only [evAll]
    rw [this]
    exact w_and h.1 (AllC.and h.2 (fun z => nomatch z))
  | .cons _ .nil, [], h, _ | .cons _ (.cons _ _), [], h, _ => h.elim
  | .cons _ .nil, _ :: _ :: _, h, _ => h.2.elim
  | .cons _ (.cons _ _), [_], h, _ => h.2.elim
theorem AllC.or {pos : Pos} : ∀ {es : Cs} {l : List Expr}, AllC c G C W X es l → es ≠ .nil → PW X (.BoolOp .Or l pos) (RT c W (evAny G C es))
  | .nil, _, _, hn => absurd rfl hn
  | .cons e .nil, [x], h, _ => by
    have : evAny G C (.cons e .nil) = evC G C e := by funext ρ st; simp only [evAny]
    rw [this]
    exact pw_or1 h.1
  | .cons e (.cons e' es), x :: y :: l, h, _ => by
    have : evAny G C (.cons e (.cons e' es)) = fun ρ st => (evC G C e ρ st).bind fun k st1 => if k then .ok true st1 else evAny G C (.cons e' es) ρ st1 := by funext ρ st; simp only [evAny]
    rw [this]
    exact w_or h.1 (AllC.or h.2 (fun z => nomatch z))
  | .cons _ .nil, [], h, _ | .cons _ (.cons _ _), [], h, _ => h.elim
  | .cons _ .nil, _ :: _ :: _, h, _ => h.2.elim
  | .cons _ (.cons _ _), [_], h, _ => h.2.elim
theorem bad_imp {x : Expr} : PE X x (RD c W fun _ _ => .bad) := ⟨fun pins s σ H Q I ⟨g, ρ, st, _, _, p⟩ => p.elim⟩
theorem badT_imp {x : Expr} : PT X x (RT c W fun _ _ => .bad) := ⟨fun pins s σ H Q I ⟨g, ρ, st, _, _, p⟩ => p.elim⟩
theorem d_frz {e : Expr} {fa : Env → Store → Res S} (ha : PE X e (RD c W fa)) : PE X e (RD c W fun ρ st => (fa ρ st).bind fun x st1 => frzSem x st1) := by
  refine PE_imp ha fun σ H Q ⟨g, ρ, st, Rs, Re, p⟩ => ?_
  refine RG.bind Rs Re p fun x st1 v H1 g1 Rs Re K m p => ?_
  unfold frzSem at p
  split at p
  · rename_i n
    split at p
    · rename_i ds e
      have hl : ∃ xs, st1[n]? = some (some (.lst xs)) ∧ allV xs = some ds := by
        simp only [rdD] at e
        split at e
        · rename_i xs e1
          simp only [Option.map_eq_some_iff] at e
          obtain ⟨ds', e2, e3⟩ := e
          cases e3
          exact ⟨xs, e1, e2⟩
        · simp only [Option.map_eq_some_iff] at e
          obtain ⟨ds', e2, e3⟩ := e
          cases e3
        · cases e
      obtain ⟨xs, e1, e2⟩ := hl
      obtain ⟨rfl, hn⟩ := m
      obtain ⟨R2, K2⟩ := RelSt.kill (n := n) Rs
      obtain ⟨h, h1, vs, rfl, h2⟩ := Rs.ob n _ e1
      refine p (.ref (g1.ph n)) H1 g1 R2 K2 ?_
      simp only [RelS, RelSb, Rp]
      refine ⟨g1.ph n, vs, rfl, ?_, h1, RpL.move K2.bar _ _ (h2.toV e2)⟩
      rintro (⟨k, o, e3, e4⟩ | b)
      · rcases get_set e3 with ⟨_, z⟩ | ⟨ne, e3⟩
        · cases z
        · exact ne (Rs.inj k n o _ e3 e1 e4)
      · exact (Rs.bar _ b).2 ⟨n, _, e1, rfl⟩
    · rename_i ks ds e
      have hl : ∃ xs, st1[n]? = some (some (.dic ks xs)) ∧ allV xs = some ds := by
        simp only [rdD] at e
        split at e
        · simp only [Option.map_eq_some_iff] at e
          obtain ⟨ds', e2, e3⟩ := e
          cases e3
        · rename_i ks' xs e1
          simp only [Option.map_eq_some_iff] at e
          obtain ⟨ds', e2, e3⟩ := e
          cases e3
          exact ⟨xs, e1, e2⟩
        · cases e
      obtain ⟨xs, e1, e2⟩ := hl
      obtain ⟨rfl, hn⟩ := m
      obtain ⟨R2, K2⟩ := RelSt.kill (n := n) Rs
      obtain ⟨h, h1, kk, vs, hk, h2, hl2, hnd, rfl⟩ := Rs.ob n _ e1
      refine p (.ref (g1.ph n)) H1 g1 R2 K2 ?_
      simp only [RelS, RelSb, Rp]
      refine ⟨g1.ph n, kk, vs, rfl, ?_, h1, hk, hl2, hnd, RpL.move K2.bar _ _ (h2.toV e2)⟩
      rintro (⟨k, o, e3, e4⟩ | b)
      · rcases get_set e3 with ⟨_, z⟩ | ⟨ne, e3⟩
        · cases z
        · exact ne (Rs.inj k n o _ e3 e1 e4)
      · exact (Rs.bar _ b).2 ⟨n, _, e1, rfl⟩
    · exact p.elim
  · exact p.now Rs m
def trsOf (c : Ct) (G : Gt) (C : Nat → List S → Store → Res S) (W : XK) : List Str → Es → List (TE × TE)
  | k :: ks, .cons e es => (tC (.str k), RD c W (evE G C e)) :: trsOf c G C W ks es
  | _, _ => []
theorem pps_of {pos : Pos} : ∀ {ks : List Str} {es : Es} {keys : List (Option Expr)} {l : List Expr}, mtKs ks keys = true → AllE c G C W X es l → keys.length = l.length → PPs X pos keys l (trsOf c G C W ks es)
  | [], .nil, [], [], _, _, _ => pps_nil
  | [], _, _ :: _, _, h, _, _ => by simp [mtKs] at h
  | k :: ks, .cons e es, ky :: keys, x :: l, h, ha, hl => by
    have hk : ∃ j q, ky = some (.Constant (.str k) j q) ∧ mtKs ks keys = true := by
      unfold mtKs at h
      split at h
      · rename_i h1 h2; cases h1
      · rename_i k' ks' y j q r h1 h2
        cases h1
        cases h2
        simp only [Bool.and_eq_true, decide_eq_true_eq] at h
        exact ⟨j, q, by rw [h.1], h.2⟩
      · cases h
    obtain ⟨j, q, rfl, h2⟩ := hk
    exact pps_cons pe_str ha.1 (pps_of h2 ha.2 (by simpa using hl))
  | [], .nil, [], _ :: _, _, h, _ => h.elim
  | [], .cons _ _, [], [], _, h, _ => h.elim
  | [], .cons _ _, [], _ :: _, _, _, h => by simp at h
  | _ :: _, _, [], _, h, _, _ => by simp [mtKs] at h
  | _ :: _, .nil, _ :: _, [], _, _, h => by simp at h
  | _ :: _, .nil, _ :: _, _ :: _, _, h, _ => h.elim
  | _ :: _, .cons _ _, _ :: _, [], _, h, _ => h.elim
theorem mtKs_facts : ∀ {ks : List Str} {keys : List (Option Expr)}, mtKs ks keys = true → keys.all (·.isSome) = true ∧ keys.length = ks.length
  | [], [], _ => ⟨rfl, rfl⟩
  | [], _ :: _, h => by simp [mtKs] at h
  | _ :: _, [], h => by simp [mtKs] at h
  | k :: ks, ky :: keys, h => by
    unfold mtKs at h
    split at h
    · rename_i h1 h2; cases h1
    · rename_i k' ks' y j q r h1 h2
      cases h1
      cases h2
      simp only [Bool.and_eq_true, decide_eq_true_eq] at h
      obtain ⟨a, b⟩ := mtKs_facts h.2
      exact ⟨by simp only [List.all_cons, Option.isSome_some, Bool.true_and]; exact a, by simp [b]⟩
    · cases h
theorem tPairs_run {σ : L2.St} : ∀ {ks : List Str} {es : Es} {g : Gh} {st : Store} {H : Hp} {ρ : Env} {Q : List (V × V) → Hp → Prop}, RelSt c g st H → RelE c g st H ρ σ → ks.length = esLen es →
    (match evEs G C es ρ st with
      | .ok xs st' => ∀ vs H' g', RelSt c g' st' H' → Keeps g st H g' st' H' → RelL c g' st' H' xs vs → Q ((ks.zip vs).map fun p => (V.str p.1, p.2)) H'
      | .ex ci fs vs st' => ∀ d H' g', RelSt c g' st' H' → Keeps g st H g' st' H' → ExR c g' st' H' fs vs d → W (.ref (c.cad ci)) d H'
      | .bad => False) → tPairs (trsOf c G C W ks es) σ H Q
  | [], .nil, g, st, H, ρ, Q, Rs, Re, _, p => by
    simp only [evEs] at p
    exact p [] H g Rs (Keeps.refl _ _ _) trivial
  | k :: ks, .cons e es, g, st, H, ρ, Q, Rs, Re, hl, p => by
    show RD c W (evE G C e) σ H fun y H2 => tPairs (trsOf c G C W ks es) σ H2 fun ps H3 => Q ((V.str k, y) :: ps) H3
    simp only [evEs] at p
    refine ⟨g, ρ, st, Rs, Re, ?_⟩
    cases e1 : evE G C e ρ st with
    | bad => rw [e1] at p; exact p.elim
    | ex a b d e' => rw [e1] at p; exact p
    | ok x st1 =>
      rw [e1, Res.bind_ok] at p
      intro v H1 g1 Rs1 K1 m
      refine tPairs_run Rs1 (Re.move K1) (by simpa [esLen] using hl) ?_
      cases e2 : evEs G C es ρ st1 with
      | bad => rw [e2] at p; exact p.elim
      | ex a b d e' =>
        rw [e2] at p
        exact fun d' H' g' R K z => p d' H' g' R (K1.trans K) z
      | ok xs st2 =>
        rw [e2, Res.bind_ok] at p
        exact fun vs H' g' R K z => p (v :: vs) H' g' R (K1.trans K) ⟨m.move K, z⟩
  | [], .cons _ _, _, _, _, _, _, _, _, h, _ => by simp [esLen] at h
  | _ :: _, .nil, _, _, _, _, _, _, _, h, _ => by simp [esLen] at h
theorem keysD_str : ∀ ks : List Str, keysD (ks.map D.str) = some (ks.map Sum.inr)
  | [] => rfl
  | k :: ks => by
    simp only [List.map_cons, keysD, keyD, Option.bind_some, keysD_str ks, Option.map_some]
theorem putK_new {k : Key} {v : V} {kvs : List (Key × V)} (h : k ∉ kvs.map (·.1)) : putK kvs k v = kvs ++ [(k, v)] := by
  unfold putK
  rw [if_neg]
  intro q
  obtain ⟨p, hp, e⟩ := List.any_eq_true.mp q
  exact h (List.mem_map.mpr ⟨p, hp, of_decide_eq_true e⟩)
theorem mergeK_new : ∀ {more kvs : List (Key × V)}, (kvs.map (·.1) ++ more.map (·.1)).Nodup → mergeK kvs more = kvs ++ more
  | [], kvs, _ => by
    show kvs = kvs ++ []
    rw [List.append_nil]
  | p :: r, kvs, h => by
    show mergeK (putK kvs p.1 p.2) r = _
    have h1 : p.1 ∉ kvs.map (·.1) := by
      intro hm
      have := List.nodup_append.mp h
      exact this.2.2 p.1 hm p.1 (by simp) rfl
    rw [putK_new h1, mergeK_new (by simpa using h)]
    simp
theorem d_dnew {pos : Pos} {ks : List Str} {es : Es} {keys : List (Option Expr)} {l : List Expr} (hk : mtKs ks keys = true) (ha : AllE c G C W X es l) (hl : l.length = esLen es) (hkl : keys.length = l.length) (h15 : ks.length ≤ 15) :
    PE X (.Dict keys l pos) (RD c W fun ρ st => (evEs G C es ρ st).bind fun xs st1 => if ks.length = xs.length ∧ ks.Nodup then .ok (.r st1.length) (st1 ++ [some (.dic (ks.map D.str) xs)]) else .bad) := by
  obtain ⟨a1, a2⟩ := mtKs_facts hk
  by_cases hz : keys = []
  · subst hz
    have hl0 : l = [] := List.length_eq_zero_iff.mp hkl.symm
    subst hl0
    have hk0 : ks = [] := List.length_eq_zero_iff.mp a2.symm
    subst hk0
    cases es with
    | cons _ _ => exact ha.elim
    | nil =>
      refine PE_imp (d_dnew0 (W := W) (c := c)) fun σ H Q ⟨g, ρ, st, Rs, Re, p⟩ => ⟨g, ρ, st, Rs, Re, ?_⟩
      simp only [evEs, Res.bind_ok] at p
      rw [if_pos ⟨rfl, List.nodup_nil⟩] at p
      exact p
  · refine PE_imp (pe_disp (pps_of (W := W) (pos := pos) hk ha hkl) a1 hkl hz (by omega)) fun σ H Q ⟨g, ρ, st, Rs, Re, p⟩ => fun D hD => ?_
    have P0 := PvS.start (mk := fun _ => .dK []) (D := D) (fun _ => ⟨(fun _ z => nomatch z), (fun _ z => nomatch z)⟩) Rs hD
    have hle : ks.length = esLen es := by omega
    refine tPairs_run P0.rs (P0.env Re) hle ?_
    dsimp only at p
    cases e : evEs G C es ρ st with
    | bad => rw [e] at p; exact p.elim
    | ex a b d e' =>
      rw [e] at p
      intro d' H' g' R K z
      have P1 := P0.step R K
      refine p d' H' ⟨g'.ph, g.B⟩ P1.open P1.keep ?_
      match b, d, z with
      | [], [], z => exact z
      | [f], [x], ⟨dd, v, z1, z2, z3, z4⟩ => exact ⟨dd, v, z1, z2, (P1.lift dd _ z3 z2 (fun _ q => nomatch q)).1, Rp.move P1.lift x v z4⟩
      | [], _ :: _, z => exact z.elim
      | [_], [], z => exact z.elim
      | [_], _ :: _ :: _, z => exact z.elim
      | _ :: _ :: _, _, z => exact z.elim
    | ok xs st1 =>
      rw [e, Res.bind_ok] at p
      intro vs H1 g1 R1 K1 m
      have P1 := P0.step R1 K1
      split at p
      · rename_i hc
        have hlen := RelLb.length m
        have hkv : ((ks.zip vs).map fun p => (V.str p.1, p.2)) = (((ks.map Sum.inr).zip vs : List (Key × V)).map fun kv => (kV kv.1, kv.2)) := by
          rw [List.zip_map_left, List.map_map]
          rfl
        refine ⟨P1.hD, (ks.map Sum.inr).zip vs, hkv, by rw [List.length_zip, List.length_map]; omega, ?_⟩
        have e1 : ((ks.map Sum.inr).zip vs : List (Key × V)).map (·.1) = ks.map Sum.inr := by
          rw [List.map_fst_zip]
          rw [List.length_map]
          omega
        have nd : (ks.map (Sum.inr : Str → Key)).Nodup := List.Pairwise.map _ (fun a b h z => h (Sum.inr.inj z)) hc.2
        have e2 : mergeK [] ((ks.map Sum.inr).zip vs) = (ks.map Sum.inr).zip vs := by
          rw [mergeK_new]
          · rfl
          · rw [e1]
            exact nd
        rw [e2]
        have m2 : RelL c ⟨g1.ph, g.B⟩ st1 (del H1 D) xs vs := RelLb.mvX P1.dn (fun _ => rfl) m
        obtain ⟨R2, K2⟩ := RelSt.alloc (p := D) (o := .dic (ks.map Sw.D.str) xs) (h := .dK ((ks.map Sum.inr).zip vs)) P1.out del_same ⟨ks.map Sum.inr, vs, keysD_str ks, m2, by rw [List.length_map]; omega, nd, rfl⟩
        have e3 : upd (del H1 D) D (.dK ((ks.map Sum.inr).zip vs)) = upd H1 D (.dK ((ks.map Sum.inr).zip vs)) := by
          funext a
          by_cases z : a = D
          · rw [z, upd_same, upd_same]
          · rw [upd_ne z, upd_ne z, del_ne z]
        rw [e3] at R2 K2
        refine p (.ref D) _ _ R2 (P1.kp.trans K2) ⟨?_, by simp⟩
        show V.ref D = V.ref (if st1.length = st1.length then D else _)
        rw [if_pos rfl]
      · exact p.elim
end
end Sw

set_option linter.all false
set_option maxRecDepth 100000
set_option maxHeartbeats 2000000
namespace Sw
open PySem L2 PySem.Spec PyProof.Rows
section
variable {X : Cx} {pins : List (Addr × Obj)} {σ : L2.St} {H : Hp} {s : Shared}
theorem inv_track {a : Addr} {o : HO} (I : L2.Inv X pins σ H s) (na : H a = none) (nL : a ≠ X.env.locals) (nC : ∀ x c, X.env.cells.lookup x = some c → c ≠ a) (np : ∀ p ∈ X.pn ++ pins, p.1 ≠ a) (n0 : X.s_0.heap.get? a = none) (new : ObjOk X.prog X.w (upd H a o) s.heap a o) :
    L2.Inv X pins σ (upd H a o) s where
  ok := I.ok
  os := I.os
  bare := I.bare
  base := {
    keep := I.base.keep
    slot := I.base.slot
    free := fun b u e n hx => by rw [upd_ne (fun z => by rw [z, n0] at e; cases e)]; exact I.base.free b u e n hx
    there := I.base.there
    tups := fun b xs e => by rw [upd_ne (ne_of_none (I.base.tups b xs e) na)]; exact I.base.tups b xs e
    frzs := fun b u xs e => by rw [upd_ne (ne_of_none (I.base.frzs b u xs e) na)]; exact I.base.frzs b u xs e
    tbls := fun b ps e => by
      obtain ⟨more, q⟩ := I.base.tbls b ps e
      exact ⟨more, by rw [upd_ne (ne_of_none q na)]; exact q⟩ }
  loc := I.loc
  cell := I.cell
  free := by rw [upd_ne (Ne.symm nL)]; exact I.free
  freeC := fun x c e => by rw [upd_ne (nC x c e)]; exact I.freeC x c e
  pin := fun p hp => by
    obtain ⟨e, n, r⟩ := I.pin p hp
    exact ⟨e, by rw [upd_ne (np p hp)]; exact n, r⟩
  hok := I.hok.laidN (fun _ _ e => e) na new
  len := I.len
end
theorem excV_ok {P : Program} {w : World} {H : Hp} {h : Heap} {a : Addr} {cls : Value} {d : Option Addr} {oe : Obj} {vs : Array Value} (e : h.get? a = some oe) (z : Zc cls d oe) (hd : oe.data = .fields vs) : ObjOk P w H h a (ExcV a cls d) :=
  ⟨⟨oe, vs, e, z, hd⟩, ⟨oe, e⟩, fun _ _ ⟨o, v, q, r⟩ k => ⟨o, v, k o q, r⟩⟩
def wKp (K : PySem.W.Frag) (c : Value) (i n : Nat) (ts : Addr → TS) (D : Ends) : WX := fun cls d σ H =>
  PySem.W.exmOne K cls c = some true ∧ (σ.length = n → ∀ a, H a = none → ts a { nx := fun σ' H' => D.nx (σ'.set i none) (upd H' a (ExcV a cls d)), rt := fun _ _ => False } (σ.set i (some (.ref a))) H)
section
variable {X : Cx} {x n : Str} {c : Value} {i : Nat} {body suite : List Stmt} {b₀ : Stmt} {np pos pos' : Pos} {tb : WX → TS} {ts : Addr → TS}
theorem ps_try_keep (hs : X.stack = X.env :: X.outer) (hf : X.env.frame = some X.env.locals) (hex : X.ex = []) (hN : X.N.Nodup) (hi : X.N[i]? = some n) (hln : X.env.kindOf n = some .local) (hc : Names X x c)
    (hb : ∀ (W : WX) (pn : List (Addr × Obj)) (xe : Value → Shared → Prop), L2.Takes (X.tr pn xe) W → PassesOwn (model X.prog X.w) X.A X.env xe → PSs (X.tr pn xe) body (tb W))
    (hsu : ∀ (a : Addr) (oe : Obj) (pn : List (Addr × Obj)), PSs (X.suite a ((a, oe) :: pn)) (b₀ :: suite) (ts a)) :
    PS X (.Try body [.ExceptHandler (some (.Name x np)) (some n) (b₀ :: suite) pos'] [] [] pos) (fun D σ H => tb (wKp X.K c i X.N.length ts D) D σ H) := by
  refine ⟨fun pins s σ H D I h => ?_⟩
  have ok := I.ok
  have hfr : X.A.frames = some (X.env :: X.outer) := by rw [ok.frames, hs]
  have hloc : Loc X.env.scope n := .inl hln
  refine wpAny_Try_except ?_
  refine wpAny_mono ((hb (wKp X.K c i X.N.length ts D) (X.pn ++ pins) (fun e s₁ => wpAny (model X.prog X.w) X.A (noteFrame e X.env) (fun _ s₂ => wpAny (model X.prog X.w) X.A (setFlight e none) (fun _ s₃ =>
    wpAny (model X.prog X.w) X.A (handleBy e X.env [.ExceptHandler (some (.Name x np)) (some n) (b₀ :: suite) pos']) (SP X pins D) X.xe s₃) X.xe s₂) X.xe s₁) (fun u s' xx => ?_) PassesOwn.looking).run [] s σ H D (I.toTry _) h) (fun f s1 hsp => ?_) (fun e s1 he => he)
  · -- the catch
    obtain ⟨a, B, sI, pins', σ', H', cls, d, rfl, J', nb, up, sky, na, os, ag, hb1, hyes⟩ := xx
    have J : Inv X pins σ' H' sI := J'.ofTry ok
    have sky' : Sky B (X.env :: X.outer) a (Zc cls d) X.env.locals s'.heap := by rw [← hs]; exact sky
    show wpAny (model X.prog X.w) X.A (noteFrame (.ref a) X.env) _ _ _
    refine Sky.land Zc.steady hfr hf sky' fun h3 fl3 up3 => ?_
    have J3 : Inv X pins σ' H' { s' with heap := h3 } := J.landed nb fl3.1 (up.trans up3) os ag
    obtain ⟨oe3, vs3, he3, hz3, hd3⟩ := fl3.there
    have notFr : ∀ {h : Heap} {o : Obj} {vs : Array Value}, h.FunFrames B (X.env :: X.outer) → h.get? a = some o → o.data = .fields vs → a ∉ frs (X.env :: X.outer) := fun {h o vs} ff e dd hm => by
      obtain ⟨_, o', e', hnf⟩ := ff.mem hm
      rw [e] at e'; cases e'
      exact hnf _ dd
    have nfr := notFr fl3.2.2.1 he3 hd3
    have nL : a ≠ X.env.locals := fun z => nfr (List.mem_filterMap.mpr ⟨X.env, List.mem_cons_self, by rw [hf, z]⟩)
    have nF : a ∉ X.fs := fun hm => by
      obtain ⟨e, he, q⟩ := List.mem_filterMap.mp hm
      exact nfr (List.mem_filterMap.mpr ⟨e, List.mem_cons_of_mem _ he, q⟩)
    have Ba : B.get? a = none := fl3.2.1
    have hIa : ∀ o, sI.heap.get? a ≠ some o := fun o e => by
      have := nb a o e (by rw [hs]; exact nfr)
      rw [Ba] at this
      cases this
    have n0 : X.s_0.heap.get? a = none := by
      cases q : X.s_0.heap.get? a with
      | none => rfl
      | some o =>
        obtain ⟨o', e'⟩ := J.base.there a o q (by rw [hex]; simp)
        exact absurd e' (hIa o')
    have nC : ∀ y c, X.env.cells.lookup y = some c → c ≠ a := fun y c e z => by
      obtain ⟨v, o, ho, _⟩ := J.cell y c e
      rw [z] at ho
      exact hIa o ho
    have npn : ∀ p ∈ X.pn ++ pins, p.1 ≠ a := fun p hp z => by
      have e := (J.pin p hp).1
      rw [z] at e
      exact hIa _ e
    have S3 := J3.suite he3 hd3 na nL nF
    refine wpAny_handleBy_cons (codeAny_handlers_test ?_) (by intro q; cases q)
    have LT : PySem.W.Looks (model X.prog X.w) h3 (typeOf (.ref a)) cls := fun A Q E s k q => wpAny_typeOf_ref (k _ _ he3) (by rw [hz3.1]; exact q)
    have LM := PySem.W.exm_one (M := model X.prog X.w) (J3.kIn) LT hb1
    have test : ∀ {Q : Value → Shared → Prop} {E : Value → Shared → Prop}, Q c { s' with heap := h3 } → wpAny (model X.prog X.w) (X.A.mark (some (.ref a))) (eval (.Name x np) X.env) Q E { s' with heap := h3 } := fun {Q E} q => by
      obtain ⟨hg, hdbg, hm | ⟨hm, hv, hnn⟩⟩ := hc
      · exact ld_glob (X := X.suite a ((a, oe3) :: (X.pn ++ pins))) S3 hg hm q hdbg
      · exact ld_blt (X := X.suite a ((a, oe3) :: (X.pn ++ pins))) S3 hg hm hv q hnn hdbg
    refine test (LM.here ?_)
    refine codeAny_handlers_suite_as ?_
    refine HandSPX.lands_againZ fl3 fun h4 fl4 up4 => ?_
    have J4 : Inv X pins σ' H' { s' with heap := h4 } := J.landed nb fl4.1 ((up.trans up3).trans up4) os ag
    obtain ⟨oe4, vs4, he4, hz4, hd4⟩ := fl4.there
    have S4 := J4.suite he4 hd4 na nL nF
    refine store_ok (X := X.suite a ((a, oe4) :: (X.pn ++ pins))) (v := .ref a) S4 hN hi hloc rfl (fun s5 S5 => ?_) (.inr hln)
    refine wpAny_mono ((hsu a oe4 (X.pn ++ pins)).run [] s5 _ H' _ S5 (hyes J.len a na)) (fun f s6 hsp => ?_) (fun _ _ z => False.elim z)
    cases f with
    | next =>
      obtain ⟨σ6, H6, S6, q6⟩ := hsp
      obtain ⟨e6, n6, _⟩ := S6.pin (a, oe4) (List.mem_append_left _ List.mem_cons_self)
      have U6 := inv_track (a := a) (o := ExcV a cls d) (S6.unsuite ok) n6 nL nC npn n0 (excV_ok e6 hz4 hd4)
      exact gone_ok U6 hN hi hln fun s7 J7 => ⟨_, _, J7, q6⟩
    | brk =>
      obtain ⟨σ6, H6, S6, q6⟩ := hsp
      exact q6.elim
    | cont =>
      obtain ⟨σ6, H6, S6, q6⟩ := hsp
      exact q6.elim
    | ret u =>
      obtain ⟨v6, σ6, H6, S6, r6, q6⟩ := hsp
      exact q6.elim
  · cases f with
    | next =>
      obtain ⟨σ', H', J', q⟩ := hsp
      exact wpAny_execs_nil ⟨σ', H', J'.ofTry ok, q⟩
    | brk =>
      obtain ⟨σ', H', J', q⟩ := hsp
      exact ⟨σ', H', J'.ofTry ok, q⟩
    | cont =>
      obtain ⟨σ', H', J', q⟩ := hsp
      exact ⟨σ', H', J'.ofTry ok, q⟩
    | ret u =>
      obtain ⟨v, σ', H', J', r, q⟩ := hsp
      exact ⟨v, σ', H', J'.ofTry ok, r, q⟩
end
def TTc (K : PySem.W.Frag) (CS : Addr) : (XK → Hp → VK → Prop) → Hp → VK → Prop := fun tl H Q =>
  tl (fun cls d H' => PySem.W.exmOne K cls (.ref CS) = some true ∧ ∀ a, H' a = none → Q (.ref a) (upd H' a (ExcV a cls d))) H fun _ H' => ∃ v, (some (some V.non) : Option (Option V)) = some (some v) ∧ Q v H'
theorem caught_gives {X : Cx} {Ng : List Str} {x a e q fnd er : Str} {sg : Scope} {g CS : Addr} {cdg : Value} {j : Nat} {p1 p2 p3 p4 p5 p6 p7 p8 p9 q1 q2 q3 q4 q5 : Pos} (hN : Ng = [a, fnd, er]) (hnd : Ng.Nodup)
    (hge : sg.names.lookup e = some .globalImplicit) (hlf : sg.names.lookup fnd = some .local) (hle : sg.names.lookup er = some .local) (hme : X.mg e = some (.ref CS)) (hde : (e == ("__debug__" : Str)) = false)
    (df : (fnd == ("__debug__" : Str)) = false ∧ (fnd == ("__classdict__" : Str)) = false) (dr : (er == ("__debug__" : Str)) = false ∧ (er == ("__classdict__" : Str)) = false) :
    LamX.GivesTo X Ng x sg g cdg [.Assign [.Name fnd p1] (.Constant .none j p2) p3, .Try [.Expr (.Call (.Name a p4) [] [] p5) p6] [.ExceptHandler (some (.Name e p7)) (some er) [.Assign [.Name fnd p8] (.Name er p9) q1] q2] [] [] q3, .Return (some (.Name fnd q4)) q5] a q (TTc X.K CS) := by
  intro f c' s H Q tl act hc h
  subst hN
  have hgl : Gl (cxOf C8.CX0 X.prog X.w X.K X.mg X.base [a, fnd, er] x sg g cdg X.A X.stack s H C8.E0).nox e := hge
  have vf : Vis sg fnd := .inl hlf
  have ve : Vis sg er := .inl hle
  refine ⟨_, pss_cons (ps_set (i := 1) hnd rfl (.inl hlf) pe_non (by rfl) (.inl rfl)) (pss_cons (ps_try_keep (X := (cxOf C8.CX0 X.prog X.w X.K X.mg X.base [a, fnd, er] x sg g cdg X.A X.stack s H C8.E0).nox) (i := 2) (c := .ref CS)
      (ts := fun ad => tAsg (tVar 2) (gName 1))
      (tb := fun W D σ H => ∃ Ech : XK, (∀ cls d σ' H', Ech cls d H' → W cls d σ' H') ∧ σ[0]? = some (some (.ref f)) ∧ H c' = some (LamX.CodeO c' q) ∧ tl Ech H fun _ H1 => D.nx σ H1)
      rfl rfl rfl hnd rfl hle ⟨hgl, hde, .inl hme⟩ (fun W pn xe tk _ => ?_) (fun ad oe pn => pss_one (ps_set (i := 1) hnd rfl (.inl hlf) (pe_var (i := 2) rfl ve dr.1 dr.2) (by rfl) (.inl rfl)))) (pss_one (ps_ret (pe_var (i := 1) rfl vf df.1 df.2)))), ?_⟩
  · refine ⟨fun pins s' σ H' D I h' => ?_⟩
    obtain ⟨Ech, hW, h1, h2, h3⟩ := h'
    have hp := act W pn xe Ech p4 p5 tk hW
    have hq := pss_one (ps_expr (pos := p6) hp (by rfl))
    exact hq.run pins s' σ H' D I ⟨h1, h2, h3⟩
  · refine ⟨fun cls d H' => PySem.W.exmOne X.K cls (.ref CS) = some true ∧ ∀ a, H' a = none → Q (.ref a) (upd H' a (ExcV a cls d)), fun cls d σ' H' ⟨b1, b2⟩ => ⟨b1, fun hl ad na => ?_⟩, rfl, hc, h⟩
    have hl : σ'.length = 3 := hl
    refine ⟨.ref ad, by rw [List.getElem?_set_self (by omega)], ?_⟩
    refine ⟨.ref ad, ?_, b2 ad na⟩
    rw [List.getElem?_set_ne (by decide), List.getElem?_set_self (by rw [List.length_set]; omega)]
end Sw

set_option linter.all false
set_option maxRecDepth 100000
set_option maxHeartbeats 2000000
namespace Sw
open PySem L2 PySem.Spec PyProof.Rows
theorem lookup_mem' {β : Type} {x : Str} {b : β} : ∀ {l : List (Str × β)}, l.lookup x = some b → ∃ y ∈ l, y.2 = b
  | [], h => by cases h
  | (k, v) :: l, h => by
    rw [List.lookup_cons] at h
    split at h
    · exact ⟨(k, v), List.mem_cons_self, Option.some.inj h⟩
    · obtain ⟨y, hy, e⟩ := lookup_mem' h
      exact ⟨y, List.mem_cons_of_mem _ hy, e⟩
section
variable {lsc : Scope} {X : Cx} {c : Ct} {W : XK} {G : Gt} {C : Nat → List S → Store → Res S} {N : List Str} {sc ow : Scope}
theorem keeps_ext {g : Gh} {st : Store} {H H1 : Hp} (e : LamX.ExtN H H1) : Keeps g st H g st H1 where
  same := fun a o _ h nt => e a o h nt
  live := fun _ l => .inl l
  B := rfl
  ph := fun _ _ => rfl
  len := Nat.le_refl _
  some_ := fun a ⟨o, h, nt⟩ => ⟨o, e a o h nt, nt⟩
theorem RelSt.ext {g : Gh} {st : Store} {H H1 : Hp} (R : RelSt c g st H) (e : LamX.ExtN H H1) (t : LamX.Tabs c.T H1) : RelSt c g st H1 where
  ob := fun n o h => by
    obtain ⟨u, h1, h2⟩ := R.ob n o h
    exact ⟨u, e _ _ h1 h2.pln.1, h2.move (keeps_ext e) (lt_of_get h)⟩
  inj := R.inj
  bar := fun a b => ⟨(keeps_ext (g := g) (st := st) e).some_ a (R.bar a b).1, (R.bar a b).2⟩
  tab := t
def catR (n : Nat) (r : Res S) : Res S := match r with
  | .ok _ st' => .ok (.v .non) st'
  | .ex c fs vs st' => if c < n then .ok (.v (.exc c fs vs)) st' else .bad
  | .bad => .bad
theorem cat_read {CS : Addr} {f : Env → Store → Res S} {n : Nat} (hc : ∀ ci, ci < n → PySem.W.exmOne X.K (.ref (c.cad ci)) (.ref CS) = some true) {σ : L2.St} {H : Hp} {Q : VK} (h : RD c W (fun ρ st => catR n (f ρ st)) σ H Q) :
    LamX.tLam c.T (TTc X.K CS) (fun E => RD c E f) σ H Q := by
  obtain ⟨g, ρ, st, Rs, Re, p⟩ := h
  refine ⟨Rs.tab, fun H1 eN T1 => ?_⟩
  have R1 := Rs.ext eN T1
  have K1 : Keeps g st H g st H1 := keeps_ext eN
  refine ⟨g, ρ, st, R1, Re.move K1, ?_⟩
  replace p : PostG c W g st H (MS c) (catR n (f ρ st)) Q := p
  cases e : f ρ st with
  | bad => rw [e] at p; exact p.elim
  | ok s st' =>
    rw [e] at p
    exact fun b H' g' R K' m => ⟨.non, rfl, p .non H' g' R (K1.trans K') (by simp only [RelSb, Rp])⟩
  | ex ci fs vs st' =>
    rw [e] at p
    unfold catR at p
    dsimp only at p
    split at p
    · rename_i hlt
      intro d H' g' R K' z
      refine ⟨hc ci hlt, fun a na => p (.ref a) _ g' (R.new na) (K1.trans (K'.trans (Keeps.new na))) ?_⟩
      have nb := R.notBar na
      have kb := (Keeps.new (g := g') (st := st') (o := ExcV a (.ref (c.cad ci)) d) na).bar
      simp only [RelSb, Rp]
      match fs, vs, z with
      | [], [], z =>
        have z : d = none := z
        exact ⟨a, [], d, rfl, nb, upd_same, .inl ⟨rfl, rfl, z⟩, by simp only [RpL]⟩
      | [f'], [x'], ⟨dd, v, z1, z2, z3, z4⟩ =>
        obtain ⟨z5, z6⟩ := kb dd _ z3 z2 fun _ q => nomatch q
        refine ⟨a, [v], d, rfl, nb, upd_same, .inr ⟨f', v, dd, rfl, rfl, z1, z5, z6⟩, ?_⟩
        simp only [RpL]
        exact ⟨Rp.move kb _ _ z4, trivial⟩
      | [], _ :: _, z => exact z.elim
      | [_], [], z => exact z.elim
      | [_], _ :: _ :: _, z => exact z.elim
      | _ :: _ :: _, _, z => exact z.elim
    · exact p.elim
theorem Gd.lamc {k : Nat} (D : Gd c G C W N sc ow X) (hfn : ∀ (f : Nat) (x : Str), G.cl[f]? = some x → ∃ fd, FnOk X.prog X.w X.K X.mg X.base (L2.CX X.prog X.w) k (c.fad f) fd (G.ps f) (spC c C f) ∧ Binds X.K fd (G.ps f) [] ∧ ∀ n ks, (f, n, ks) ∈ G.kw → KBn X.K fd (G.ps f) n ks (kwL (G.ps f) n ks) (kwL (G.ps f) n ks))
    (L : LamX.LamS X.env.scope lsc) (A : Around) (outer : List PySem.Env) (s : Shared) (H : Hp) (E : XK) (f c' : Addr) (hr : Room k (A.deeper (LamX.lamEnv X lsc s.heap.objs.size f c'))) :
    Gd c G C E N lsc (owF false lsc) (LamX.lamCx X A outer s H E lsc f c') where
  K := D.K
  calm := rfl
  N := D.N
  nd := D.nd
  sc := rfl
  sto := fun x h => by
    exfalso
    unfold isL at h
    split at h
    · rename_i e
      obtain ⟨y, hy, z⟩ := lookup_mem' e
      exact (L.own y hy).1 z
    · rename_i e
      obtain ⟨y, hy, z⟩ := lookup_mem' e
      exact (L.own y hy).2 z
    · cases h
  units := by
    have := hr.un
    show (A.deeper (LamX.lamEnv X lsc s.heap.objs.size f c')).units + 65 < _
    omega
  cst := D.cst
  none_ := D.none_
  gcd := D.gcd
  fn := fun f' y e => by
    obtain ⟨m1, m2, _⟩ := D.fn f' y e
    obtain ⟨fd, h1, h2, h3⟩ := hfn f' y e
    exact ⟨m1, m2, k, fd, hr, h1, h2, h3⟩
  tk := takes_of rfl rfl rfl rfl
  exm := D.exm
  cat := D.cat
  lam := fun z => by cases z
theorem d_caught {x : Str} {params : Arguments} {body : Expr} {f : Env → Store → Res S} {p lpos pos : Pos} (D : Gd c G C W N sc ow X) (how : ow.isCoroutine = false) (M : G.ct = some x) (hg : isG sc x = true) (hdb : nodb x = true) (hp : noPar params = true) (hL : LamX.lamSB sc lsc = true)
    (hbody : ∀ (X' : Cx) (E : XK), Gd c G C E N lsc (owF false lsc) X' → PE X' body (RD c E f)) :
    PE X (.Call (.Name x p) [.Lambda params body lsc lpos] [] pos) (RD c W fun ρ st => catR G.ks.length (f ρ st)) := by
  obtain ⟨k, cA, P, hr, TB, hcode, hmT, hu, hfn⟩ := D.lam how
  obtain ⟨CS, F, hcl⟩ := (D.cat x M).ex
  obtain ⟨a, e, fnd, er, g, pg, sg, dV, kV, doc, pm, cdv, ct, oc, an, od, osl, j, p1, p2, p3, p4, p5, p6, p7, p8, p9, q1, q2, q3, q4, q5, m1, m2, m3, m4, m5, m6, m7, m8, m9, m10, m11, m12, m13, m14, m15, m16⟩ := F.ex
  obtain ⟨f1, f2, _⟩ := nodb_ok m14
  obtain ⟨r1, r2, _⟩ := nodb_ok m15
  obtain ⟨a1, a2, _⟩ := nodb_ok m16
  have L : LamX.LamS X.env.scope lsc := by rw [D.sc]; exact LamX.lamS_by hL
  have hpar : params = ⟨[], [], none, [], [], none, []⟩ := by
    unfold noPar at hp
    split at hp
    · rfl
    · cases hp
  subst hpar
  refine PE_imp (LamX.pe_lamcall (t := fun E => RD c E f) (TT := TTc X.K CS) (Ng := [a, fnd, er]) (D.gl hg) m1 m2 m3 m4 m5 m6 rfl m8 (caught_gives rfl m7 m9 m10 m11 m12 m13 ⟨f1, f2⟩ ⟨r1, r2⟩) TB hcode hmT hu hr L rfl (fun _ _ _ _ _ => rfl) (fun A outer s H E f' c' hr2 => hbody _ E (D.lamc hfn L A outer s H E f' c' hr2)) (nodb_ok hdb).1 a1 a2) fun σ H Q h => cat_read hcl h
end
end Sw

set_option linter.all false
set_option maxRecDepth 100000
set_option maxHeartbeats 2000000
namespace Sw
open PySem L2 PySem.Spec PyProof.Rows
section
variable {X : Cx} {c : Ct} {W : XK} {G : Gt} {C : Nat → List S → Store → Res S} {N : List Str} {sc ow : Scope}
def isxR (G : Gt) (ci : Nat) (x : S) (st : Store) : Res S := match x with
  | .v .non => .ok (.v (.bl false)) st
  | .v (.exc d [] _) => if d < G.ks.length then .ok (.v (.bl (G.sub d ci))) st else .bad
  | _ => .bad
def rIsx (c : Ct) (G : Gt) (W : XK) (ci : Nat) : List V → Hp → VK → Prop := fun xs H Q => ∃ g st a v, RelSt c g st H ∧ RelS c g st H a v ∧ xs = [v, .ref (c.cad ci)] ∧ PostG c W g st H (MS c) (isxR G ci a st) Q
theorem call_isx {ci : Nat} {x : Str} (M : ExcM c G X.K X.mg) (hx : G.ks[ci]? = some x) : CallR X (.builtin "isinstance") (rIsx c G W ci) := by
  intro pins s σ H xs us Q I r h
  obtain ⟨g, st, a, v, R, m, rfl, p⟩ := h
  obtain ⟨m1, m2, m3, m4⟩ := M.is_ ci x hx
  unfold isxR at p
  split at p
  · simp only [RelS, RelSb, Rp] at m
    subst m
    exact call_isi pins s σ H _ us Q I r ⟨.non, .ref (c.cad ci), .type "NoneType", .ref (c.cad ci), false, rfl, .own _, .base .non, m3, p.now R (by simp only [RelSb, Rp])⟩
  · split at p
    · rename_i d ds hd
      simp only [RelS, RelSb, Rp] at m
      obtain ⟨a, us', dd, rfl, nb, e1, e2, e3⟩ := m
      have hdd : dd = none := by
        rcases e2 with ⟨_, _, z⟩ | ⟨_, _, _, z, _⟩
        · exact z
        · cases z
      subst hdd
      obtain ⟨oe, vs, h1, h2, h3⟩ := (I.hok a _ e1).1
      obtain ⟨u1, u2, rfl, r1, r2⟩ := vals2 r
      cases r1
      cases r2
      obtain ⟨xd, hxd⟩ : ∃ xd, G.ks[d]? = some xd := ⟨_, List.getElem?_eq_getElem hd⟩
      obtain ⟨_, Cd, _, _⟩ := M.is_ d xd hxd
      have J : PySem.W.InstAt s.heap a oe (c.cad d) none := by
        obtain ⟨oc, od, oda, osl⟩ := oe
        obtain ⟨z1, z2⟩ := h2
        dsimp only at z1 z2 h3
        subst z1 z2 h3
        exact ⟨h1, rfl, rfl, trivial⟩
      exact PySem.W.kia_one (PySem.W.handS_kitx_exc Cd.hg Cd.hk Cd.hs Cd.hd Cd.ha Cd.hn Cd.ht Cd.hm) I.kIn J (m4 d hd) (fun z => nomatch z) fun tk => ⟨.bl (G.sub d ci), H, I.kept (t' := tk) fun _ _ z => z, rfl, p.now R (by simp only [RelSb, Rp])⟩
    · exact p.elim
  · exact p.elim
theorem d_isx {e : Expr} {fa : Env → Store → Res S} {x z : Str} {p q pos : Pos} {ci : Nat} (D : Gd c G C W N sc ow X) (hx : x = "isinstance") (hg : isG sc x = true) (hz : G.ks[ci]? = some z) (hgz : isG sc z = true) (hdb : nodb z = true) (hst : nstar e = true) (ha : PE X e (RD c W fa)) :
    PE X (.Call (.Name x p) [e, .Name z q] [] pos) (RD c W fun ρ st => (fa ρ st).bind fun x st1 => isxR G ci x st1) := by
  subst hx
  have st2 : ([.Name z q] : List Expr).all nstar = true := rfl
  obtain ⟨m1, _⟩ := D.exm.is_ ci z hz
  refine PE_imp (pe_callB (call_isx (W := W) D.exm hz) (D.gl hg) (D.none_ _ (by decide)) boot_isinstance (pa_cons ha (pa_cons (pe_glob (v := .ref (c.cad ci)) (D.gl hgz) m1 rfl (nodb_ok hdb).1) pa_nil (star_cons rfl)) (star_cons hst)) (by decide) (by decide) (star_cons hst) (star_plain st2)) fun σ H Q ⟨g, ρ, st, Rs, Re, z⟩ => ?_
  refine RG.bind Rs Re z fun s st1 v H1 g1 Rs Re K m z => ?_
  exact ⟨g1, st1, s, v, Rs, m, rfl, z⟩
theorem d_fnv {f : Nat} {x : Str} {p : Pos} (D : Gd c G C W N sc ow X) (hf : G.cl[f]? = some x) (hg : isG sc x = true) (hdb : nodb x = true) : PE X (.Name x p) (RD c W fun _ st => .ok (.v (.fn f)) st) := by
  obtain ⟨m1, _⟩ := D.fn f x hf
  exact d_const (pe_glob (v := .ref (c.fad f)) (D.gl hg) m1 rfl (nodb_ok hdb).1) fun Y H => by simp only [Rp]
theorem d_callv {i : Nat} {x : Str} {e : Expr} {es : List Expr} {fs : Env → Store → Res (List S)} {p pos : Pos} (D : Gd c G C W N sc ow X) (hi : N[i]? = some x) (hv : isV sc x = true) (hdb : nodb x = true) (hst : (e :: es).all nstar = true) (ha : PA X (e :: es) (RA c W fs)) :
    PE X (.Call (.Name x p) (e :: es) [] pos) (RD c W fun ρ st => match ρ[i]? with
      | some (some (.v (.fn f))) => if f < G.cl.length then (fs ρ st).bind fun xs st1 => C f xs st1 else .bad
      | _ => .bad) := by
  have h2 := hst
  simp only [List.all_cons, Bool.and_eq_true] at h2
  refine ⟨fun pins s σ H Q I ⟨g, ρ, st, Rs, Re, q⟩ => ?_⟩
  dsimp only at q
  split at q
  · rename_i f e1
    split at q
    · rename_i hlt
      obtain ⟨hm, hk, k, fd, hr, F, hb, _⟩ := D.fn f G.cl[f] (List.getElem?_eq_getElem hlt)
      obtain ⟨v, e2, m⟩ := Re.at_ i _ e1
      simp only [RelS, RelSb, Rp] at m
      subst m
      refine (pe_callL (i := i) (f := c.fad f) (E := W) F hr (by rw [D.N]; exact hi) (D.vis hv) hk hb .nil D.passes ha (nodb_ok hdb).1 (nodb_ok hdb).2.1 (star_cons h2.1) (star_plain h2.2)).run pins s σ H Q I ⟨e2, ?_⟩
      refine RG.bind Rs Re q fun xs st1 vs H1 g1 Rs Re K m q => ?_
      rw [List.append_nil]
      exact ⟨g1, st1, xs, Rs, m, q⟩
    · exact q.elim
  · exact q.elim
end
end Sw

set_option linter.all false
set_option maxRecDepth 100000
set_option maxHeartbeats 2000000
namespace Sw
open PySem L2 PySem.Spec PyProof.Rows PySem.W PySem.Calls
theorem zip_no_len : typeLookup (.type "zip") "__len__" = pure none := by rw [typeLookup_type, builtinLookup_eq_fast]; kernel_rfl
theorem zip_no_hint : typeLookup (.type "zip") "__length_hint__" = pure none := by rw [typeLookup_type, builtinLookup_eq_fast]; kernel_rfl
def ZSt (h : Heap) (z TI TO i1 i2 l1 l2 : Addr) (xs ys : Array Value) (i : Nat) : Prop :=
  IsPair h TI (.ref i1) (.ref i2) ∧ h.IsListIter i1 l1 i ∧ h.IsListIter i2 l2 i ∧ h.IsList l1 xs ∧ h.IsList l2 ys ∧
  ((IsZip h z TI TO .none ∧ ∃ a b, IsPair h TO a b) ∨ ∃ T f oT, IsZipHeld h z TI TO T f ∧ h.get? T = some oT ∧ T ≠ z ∧ T ≠ i1 ∧ T ≠ i2)
structure GotZ (b : Addr) (no : List Addr) (h : Heap) (xs ys : Array Value) (Ts : List Addr) : Prop where
  nodup : Ts.Nodup
  row : ∀ (j : Nat) (T : Addr), Ts[j]? = some T → b ≤ T ∧ T ∉ no ∧ ∃ x y, xs[j]? = some x ∧ ys[j]? = some y ∧ IsPair h T x y
theorem GotZ.keep {b : Addr} {no : List Addr} {h h' : Heap} {xs ys : Array Value} {Ts : List Addr} (g : GotZ b no h xs ys Ts) (k : ∀ c o, c ∉ no → h.get? c = some o → h'.get? c = some o) : GotZ b no h' xs ys Ts :=
  ⟨g.nodup, fun j T e => by
    obtain ⟨h1, h2, x, y, h3, h4, h5⟩ := g.row j T e
    exact ⟨h1, h2, x, y, h3, h4, k _ _ h2 h5⟩⟩
theorem GotZ.push {b T : Addr} {no : List Addr} {h : Heap} {xs ys : Array Value} {Ts : List Addr} {x y : Value} (g : GotZ b no h xs ys Ts) (hT : T ∉ Ts) (hb : b ≤ T) (hno : T ∉ no) (hx : xs[Ts.length]? = some x) (hy : ys[Ts.length]? = some y) (hp : IsPair h T x y) : GotZ b no h xs ys (Ts ++ [T]) := by
  refine ⟨List.nodup_append.mpr ⟨g.nodup, by simp, fun a ha c hc => ?_⟩, fun j U e => ?_⟩
  · have : c = T := by simpa using hc
    subst this
    exact fun z => hT (z ▸ ha)
  · rw [List.getElem?_append] at e
    split at e
    · exact g.row j U e
    · rename_i hl
      have hj : j = Ts.length := by
        cases q : j - Ts.length with
        | zero => omega
        | succ m => rw [q] at e; simp at e
      subst hj
      simp at e
      subst e
      exact ⟨hb, hno, x, y, hx, hy, hp⟩
section
variable {prog : Program} {w : World} {A : Around} {E : Value → Shared → Prop}
abbrev lstO (acc : Array Value) (c : Nat) : Obj := { cls := .type "list", dict := none, data := .seq acc c, slots := #[] }
theorem ZSt.keep {h h' : Heap} {z TI TO i1 i2 l1 l2 S : Addr} {xs ys : Array Value} {i : Nat} (st : ZSt h z TI TO i1 i2 l1 l2 xs ys i) (hS : S ∉ [z, TI, TO, i1, i2, l1, l2]) (hSl : ∀ x, h.get? S = some x → h'.get? S ≠ none)
    (k : ∀ c o, c ≠ S → h.get? c = some o → h'.get? c = some o) : ZSt h' z TI TO i1 i2 l1 l2 xs ys i := by
  simp only [List.mem_cons, List.not_mem_nil, or_false, not_or] at hS
  obtain ⟨n1, n2, n3, n4, n5, n6, n7⟩ := hS
  obtain ⟨a1, a2, a3, a4, a5, a6⟩ := st
  refine ⟨k _ _ (Ne.symm n2) a1, a2.at fun o e => k _ _ (Ne.symm n4) e, a3.at fun o e => k _ _ (Ne.symm n5) e, a4.at fun o e => k _ _ (Ne.symm n6) e, a5.at fun o e => k _ _ (Ne.symm n7) e, ?_⟩
  rcases a6 with ⟨b1, a, b, b2⟩ | ⟨T, f, oT, b1, b2, b3, b4, b5⟩
  · exact .inl ⟨k _ _ (Ne.symm n1) b1, a, b, k _ _ (Ne.symm n3) b2⟩
  · by_cases q : T = S
    · subst q
      cases e : h'.get? T with
      | none => exact absurd e (hSl _ b2)
      | some o => exact .inr ⟨T, f, o, k _ _ (Ne.symm n1) b1, e, b3, b4, b5⟩
    · exact .inr ⟨T, f, oT, k _ _ (Ne.symm n1) b1, k _ _ q b2, b3, b4, b5⟩
theorem zst_item {s : Shared} {z TI TO i1 i2 l1 l2 : Addr} {xs ys : Array Value} {i : Nat} {x y : Value} {Q : Option Value → Shared → Prop} (D : ZipApart z TI TO i1 i2 l1 l2) (st : ZSt s.heap z TI TO i1 i2 l1 l2 xs ys i) (hx : xs[i]? = some x) (hy : ys[i]? = some y)
    (hQ : ∀ h', ZSt h' z TI TO i1 i2 l1 l2 xs ys (i + 1) → IsPair h' s.heap.objs.size x y → h'.objs.size = s.heap.objs.size + 1 → (∀ c o, c ∉ [z, TO, i1, i2] → s.heap.get? c = some o → h'.get? c = some o) → Q (some (.ref s.heap.objs.size)) { s with heap := h' }) :
    wpAny (model prog w) A (pyNext (.ref z)) Q E s := by
  obtain ⟨a1, a2, a3, a4, a5, a6⟩ := st
  have hi1 : i1 < s.heap.objs.size := by obtain ⟨_, e, _⟩ := a2; exact Heap.lt_size e
  have hi2 : i2 < s.heap.objs.size := by obtain ⟨_, e, _⟩ := a3; exact Heap.lt_size e
  rcases a6 with ⟨b1, a, b, b2⟩ | ⟨T, f, oT, b1, b2, b3, b4, b5⟩
  · refine wpAny_pyNext_zip_item D b1 a1 b2 a2 a3 a4 a5 hx hy fun h' c1 c2 c3 c4 c5 c6 c7 => ?_
    exact hQ h' ⟨c7 _ _ D.TIz D.TITO D.TIi1 D.TIi2 a1, c3, c4, a4.at fun o e => c7 _ _ D.l1z D.l1TO D.l1i1 D.l1i2 e, a5.at fun o e => c7 _ _ D.l2z D.l2TO D.l2i1 D.l2i2 e,
      .inr ⟨_, false, _, c1, c5, Nat.ne_of_gt (Heap.lt_size b1), Nat.ne_of_gt hi1, Nat.ne_of_gt hi2⟩⟩ c5 c6 fun c o hc e => c7 c o (fun q => hc (by simp [q])) (fun q => hc (by simp [q])) (fun q => hc (by simp [q])) (fun q => hc (by simp [q])) e
  · refine wpAny_pyNext_zip_item_held D b1 b2 a1 a2 a3 a4 a5 hx hy fun h' c1 c3 c4 c5 c6 c7 => ?_
    exact hQ h' ⟨c7 _ _ D.TIz D.TIi1 D.TIi2 a1, c3, c4, a4.at fun o e => c7 _ _ D.l1z D.l1i1 D.l1i2 e, a5.at fun o e => c7 _ _ D.l2z D.l2i1 D.l2i2 e,
      .inr ⟨T, true, oT, c1, c7 _ _ b3 b4 b5 b2, b3, b4, b5⟩⟩ c5 c6 fun c o hc e => c7 c o (fun q => hc (by simp [q])) (fun q => hc (by simp [q])) (fun q => hc (by simp [q])) e
theorem zst_end {s : Shared} {z TI TO i1 i2 l1 l2 : Addr} {xs ys : Array Value} {i : Nat} {Q : Option Value → Shared → Prop} (hh : A.handled = none) (D : ZipApart z TI TO i1 i2 l1 l2) (st : ZSt s.heap z TI TO i1 i2 l1 l2 xs ys i) (hend : xs[i]? = none ∨ ys[i]? = none)
    (hQ : ∀ h', (∀ c o, c ∉ [z, TO, i1, i2] → s.heap.get? c = some o → h'.get? c = some o) → Q none { s with heap := h' }) :
    wpAny (model prog w) A (pyNext (.ref z)) Q E s := by
  obtain ⟨a1, a2, a3, a4, a5, a6⟩ := st
  rcases a6 with ⟨b1, a, b, b2⟩ | ⟨T, f, oT, b1, b2, b3, b4, b5⟩
  · exact wpAny_pyNext_zip_end hh D b1 a1 b2 a2 a3 a4 a5 hend fun h' c7 => hQ h' fun c o hc e => c7 c o (fun q => hc (by simp [q])) (fun q => hc (by simp [q])) (fun q => hc (by simp [q])) (fun q => hc (by simp [q])) e
  · exact wpAny_pyNext_zip_end_held hh D b1 b2 a1 a2 a3 a4 a5 hend fun h' c7 => hQ h' fun c o hc e => c7 c o (fun q => hc (by simp [q])) (fun q => hc (by simp [q])) (fun q => hc (by simp [q])) e
theorem zip_drain {R : Result → Shared → Prop} {z TI TO i1 i2 l1 l2 S b m : Addr} {xs ys : Array Value} (hh : A.handled = none) (D : ZipApart z TI TO i1 i2 l1 l2) (hbm : b ≤ m) (hm : ∀ c ∈ [z, TO, i1, i2, S], c < m) (hSn : S ∉ [z, TI, TO, i1, i2, l1, l2]) (res : Value)
    (hn : min xs.size ys.size ≤ sizeLine) : ∀ (k i : Nat) (s : Shared) (acc : Array Value) (Ts : List Addr) (c : Nat), min xs.size ys.size - i = k → i ≤ min xs.size ys.size → ZSt s.heap z TI TO i1 i2 l1 l2 xs ys i →
    s.heap.get? S = some (lstO acc c) → acc = (Ts.map Value.ref).toArray → Ts.length = i → GotZ b [z, TO, i1, i2, S] s.heap xs ys Ts → m ≤ s.heap.objs.size →
    (∀ h' tk Ts' c', (∀ c o, c ∉ [z, TO, i1, i2, S] → s.heap.get? c = some o → h'.get? c = some o) → h'.get? S = some (lstO (Ts'.map Value.ref).toArray c') → Ts'.length = min xs.size ys.size → GotZ b [z, TO, i1, i2, S] h' xs ys Ts' → R (.ok (.ret res)) { s with heap := h', toks := tk }) →
    codeAny (model prog w) A (.builtin "list.extend.loop" ⟨[.ref S, .ref z, res], []⟩) R s := by
  have hSn' := hSn
  simp only [List.mem_cons, List.not_mem_nil, or_false, not_or] at hSn'
  obtain ⟨n1, n2, n3, n4, n5, n6, n7⟩ := hSn'
  have hS4 : S ∉ [z, TO, i1, i2] := by simp only [List.mem_cons, List.not_mem_nil, or_false, not_or]; exact ⟨n1, n3, n4, n5⟩
  have sub : ∀ {c}, c ∉ [z, TO, i1, i2, S] → c ∉ [z, TO, i1, i2] := fun {c} h q => h (by
    simp only [List.mem_cons, List.not_mem_nil, or_false] at q ⊢
    rcases q with q | q | q | q
    · exact .inl q
    · exact .inr (.inl q)
    · exact .inr (.inr (.inl q))
    · exact .inr (.inr (.inr (.inl q))))
  intro k
  induction k with
  | zero =>
    intro i s acc Ts c hk hi hst hS hacc hl hg hb hR
    have hin : i = min xs.size ys.size := by omega
    refine codeAny_builtin PySem.F.entry_extend_loop ?_
    rw [Around.under_plainId PySem.F.plain_extend_loop _]
    show wpAny _ A.in1 (pyNext (.ref z) >>= _) _ _ s
    refine wpAny_bind (zst_end (A := A.in1) hh D hst ?_ fun h' hk => ?_)
    · have : xs.size ≤ i ∨ ys.size ≤ i := by omega
      rcases this with q | q
      · exact .inl (Array.getElem?_eq_none q)
      · exact .inr (Array.getElem?_eq_none q)
    · subst hacc
      exact wpAny_pure (hR h' s.toks Ts c (fun c o hc e => hk c o (sub hc) e) (hk _ _ hS4 hS) (by rw [hl, hin]) (hg.keep fun c o hc e => hk c o (sub hc) e))
  | succ k ih =>
    intro i s acc Ts c hk hi hst hS hacc hl hg hb hR
    have hlt : i < min xs.size ys.size := by omega
    have hx : xs[i]? = some xs[i] := Array.getElem?_eq_getElem (by omega)
    have hy : ys[i]? = some ys[i] := Array.getElem?_eq_getElem (by omega)
    refine codeAny_builtin PySem.F.entry_extend_loop ?_
    rw [Around.under_plainId PySem.F.plain_extend_loop _]
    show wpAny _ A.in1 (pyNext (.ref z) >>= _) _ _ s
    refine wpAny_bind (zst_item (A := A.in1) D hst hx hy fun h' hst' hp hsz hk' => ?_)
    have hS' : h'.get? S = some (lstO acc c) := hk' _ _ hS4 hS
    have hasz : acc.size = i := by rw [hacc]; simpa using hl
    have hSlt : S < s.heap.objs.size := Heap.lt_size hS
    show wpAny _ A.in1 (updateSeq S (·.push (.ref s.heap.objs.size)) >>= _) _ _ _
    refine wpAny_bind ?_
    have hno : s.heap.objs.size ∉ [z, TO, i1, i2, S] := fun q => Nat.lt_irrefl _ (Nat.lt_of_lt_of_le (hm _ q) hb)
    have kk : ∀ c o, c ∉ [z, TO, i1, i2, S] → s.heap.get? c = some o → (h'.update S (Obj.mapSeq (·.push (Value.ref s.heap.objs.size)))).get? c = some o := fun c o hc e =>
      (Heap.get?_update_other _ _ (fun q : S = c => hc (by simp [q]))).trans (hk' c o (sub hc) e)
    refine wpAny_updateSeq hS' rfl (wpAny_pure ⟨plainId_quiet PySem.F.plain_extend_loop _, ih (i + 1) _ (acc.push (.ref s.heap.objs.size)) (Ts ++ [s.heap.objs.size]) _ (by omega) hlt
      (hst'.keep hSn (fun x q => by rw [Heap.get?_update_self _ hS' rfl]; exact fun z => nomatch z) fun c o hc e => (Heap.get?_update_other _ _ (Ne.symm hc)).trans e) (Heap.get?_update_self _ hS' rfl) (by rw [hacc]; simp) (by simp [hl]) ((hg.keep kk).push (fun hm => ?_) (Nat.le_trans hbm hb) hno (by rw [hl]; exact hx) (by rw [hl]; exact hy) ?_) ?_ fun h2 tk Ts2 c2 k2 hS2 hl2 hg2 => ?_⟩)
      (by rw [hasz]; omega) (by show (acc.push _).size ≤ sizeLine + 1; rw [Array.size_push, hasz]; omega)
    · obtain ⟨j, hj⟩ := List.mem_iff_getElem?.mp hm
      obtain ⟨_, _, _, _, _, _, h5⟩ := hg.row j _ hj
      exact Nat.lt_irrefl _ (Heap.lt_size h5)
    · exact (Heap.get?_update_other _ _ (fun q : S = _ => Nat.ne_of_lt hSlt q)).trans hp
    · show m ≤ (h'.update S _).objs.size
      rw [(Heap.SameBut.update ..).1, hsz]
      exact Nat.le_succ_of_le hb
    · exact hR h2 tk Ts2 c2 (fun c o hc e => k2 c o hc (kk c o hc e)) hS2 hl2 hg2
theorem call_list_zip {s : Shared} {Q : Value → Shared → Prop} {z TI TO i1 i2 l1 l2 b : Addr} {xs ys : Array Value} (hh : A.handled = none) (D : ZipApart z TI TO i1 i2 l1 l2) (st : ZSt s.heap z TI TO i1 i2 l1 l2 xs ys 0)
    (hlt : ∀ c ∈ [z, TI, TO, i1, i2, l1, l2], c < s.heap.objs.size) (hb : b ≤ s.heap.objs.size) (hn : min xs.size ys.size ≤ sizeLine)
    (hQ : ∀ h' tk Ts c', (∀ c o, c ∉ [z, TO, i1, i2] → s.heap.get? c = some o → h'.get? c = some o) → h'.get? s.heap.objs.size = some (lstO (Ts.map Value.ref).toArray c') → Ts.length = min xs.size ys.size → GotZ b [z, TO, i1, i2, s.heap.objs.size] h' xs ys Ts → Q (.ref s.heap.objs.size) { s with heap := h', toks := tk }) :
    wpAny (model prog w) A (call (.type "list") [.ref z]) Q E s := by
  have hSn : s.heap.objs.size ∉ [z, TI, TO, i1, i2, l1, l2] := fun q => Nat.lt_irrefl _ (hlt _ q)
  have hSz : s.heap.objs.size ≠ z := fun q => hSn (by simp [← q])
  refine callType_codes (Q₁ := fun obj s₁ => obj = .ref s.heap.objs.size ∧ s₁ = { s with heap := s.heap.push { cls := .type "list", data := .seq #[] } }) PySem.F.called_list (PySem.F.typeCall_list_1 _) PySem.F.entry_list_init
    (code_list_new _ ⟨rfl, rfl⟩) fun obj s₁ h₁ => ?_
  obtain ⟨rfl, rfl⟩ := h₁
  have hS : (s.heap.push { cls := .type "list", data := .seq #[] }).get? s.heap.objs.size = some { cls := .type "list", data := .seq #[] } := Heap.get?_push_size _ rfl
  have k0 : ∀ c o, s.heap.get? c = some o → (s.heap.push { cls := .type "list", data := .seq #[] }).get? c = some o := fun c o e => Heap.get?_push_of_some _ e
  refine ⟨⟨_, hS, rfl⟩, PySem.F.args_list_init_2 _ _, ?_⟩
  have zt : ∀ {h : Heap} {t : Nat}, ZSt h z TI TO i1 i2 l1 l2 xs ys 0 → ({ s with heap := h, toks := t } : Shared).TypeIs (.ref z) "zip" := fun {h t} st => by
    obtain ⟨a1, a2, a3, a4, a5, a6⟩ := st
    rcases a6 with ⟨b1, _⟩ | ⟨T, f, oT, b1, _⟩
    · exact ⟨_, b1, rfl⟩
    · exact ⟨_, b1, rfl⟩
  have st0 : ZSt (s.heap.push { cls := .type "list", data := .seq #[] }) z TI TO i1 i2 l1 l2 xs ys 0 := st.keep hSn (fun x q => by rw [hS]; exact fun z => nomatch z) fun c o _ e => k0 c o e
  show wpAny _ _ (do let old ← Builtin.List.listItems (.ref s.heap.objs.size); Builtin.List.listUpdate (.ref s.heap.objs.size) (fun _ => #[]); letGo old.toList.reverse; Builtin.List.listExtendWith (.ref s.heap.objs.size) (.ref z) .none) _ _ _
  refine wpAny_bind ?_
  unfold Builtin.List.listItems
  refine wpAny_bind (wpAny_seqItems hS rfl (wpAny_pure ?_))
  show wpAny _ _ (updateSeq s.heap.objs.size (fun _ => #[]) >>= fun _ => letGo (#[] : Array Value).toList.reverse >>= fun _ => Builtin.List.listExtendWith (.ref s.heap.objs.size) (.ref z) .none) _ _ _
  refine wpAny_bind (wpAny_updateSeq hS rfl ?_)
  have hS2 := Heap.get?_update_self (Obj.mapSeq (fun _ => (#[] : Array Value))) hS rfl
  have st2 := st0.keep (h' := (s.heap.push { cls := .type "list", data := .seq #[] }).update s.heap.objs.size (Obj.mapSeq (fun _ => (#[] : Array Value)))) hSn (fun x q => by rw [hS2]; exact fun z => nomatch z) fun c o hc e => (Heap.get?_update_other _ _ (Ne.symm hc)).trans e
  have k2 : ∀ c o, s.heap.get? c = some o → ((s.heap.push { cls := .type "list", data := .seq #[] }).update s.heap.objs.size (Obj.mapSeq (fun _ => (#[] : Array Value)))).get? c = some o :=
    fun c o e => (Heap.get?_update_other _ _ (Nat.ne_of_gt (Heap.lt_size e))).trans (k0 c o e)
  refine wpAny_bind (wpAny_letGo ?_)
  unfold Builtin.List.listExtendWith
  refine wpAny_bind (wpAny_typeOf (T := "zip") (zt (t := s.toks) st2) ?_)
  have h1 : Builtin.List.listSameRef (.ref s.heap.objs.size) (.ref z) = false := by simp [Builtin.List.listSameRef, hSz]
  have h2 : (Value.type "zip" == Value.type "list") = false := by decide
  have h3 : (Value.type "zip" == Value.type "tuple") = false := by decide
  simp only [h1, h2, h3, Bool.or_false, Bool.false_eq_true, if_false]
  have iter : ∀ {s₂ : Shared} {Q2 : Value → Shared → Prop} {E2 : Value → Shared → Prop}, ZSt s₂.heap z TI TO i1 i2 l1 l2 xs ys 0 → Q2 (.ref z) s₂ → wpAny (model prog w) A.in1.in1 (pyIter (.ref z)) Q2 E2 s₂ := fun {s₂ Q2 E2} st q => by
    obtain ⟨a1, a2, a3, a4, a5, a6⟩ := st
    rcases a6 with ⟨b1, _⟩ | ⟨T, f, oT, b1, _⟩
    · exact wpAny_pyIter_zip b1 q
    · refine wpAny_pyIter_slot (T := "zip") ⟨_, b1, rfl⟩ PySem.F.slot_zip_iter (wpAny_call_entry PySem.F.slot_zip_iter (T := "zip") ⟨_, b1, rfl⟩ PySem.F.entry_zip_iter ?_ (PySem.F.args_zip_iter_1 _))
      show wpAny _ _ (ret (.ref z)) _ _ _
      exact wpAny_pure ⟨_, rfl, "zip", _, ⟨_, b1, rfl⟩, PySem.F.slot_zip_next.lookup, q⟩
  refine wpAny_bind (iter st2 ?_)
  refine wpAny_bind (wpAny_holding ?_)
  unfold Builtin.List.listLengthHint
  refine wpAny_bind (wpAny_specialOf (zt (t := s.toks) st2) zip_no_len ?_)
  show wpAny _ _ (specialOf (Value.ref z) (Str.ofString "__length_hint__") >>= _) _ _ _
  refine wpAny_bind (wpAny_specialOf (zt (t := s.toks) st2) zip_no_hint ?_)
  refine wpAny_pure ?_
  show wpAny _ _ (rule "list.extend.makes-room" >>= fun _ => Builtin.List.listTouch (.ref s.heap.objs.size) >>= fun _ =>
    again (.builtin "list.extend.loop" ⟨[.ref s.heap.objs.size, .ref z, .none], []⟩)) _ _ _
  refine wpAny_bind (wpAny_rule ?_)
  refine wpAny_bind ?_
  show wpAny _ _ (updateSeq s.heap.objs.size (·.push .none) >>= fun _ => updateSeq s.heap.objs.size (·.pop)) _ _ _
  refine wpAny_bind (wpAny_updateSeq hS2 rfl ?_)
  have hS3 := Heap.get?_update_self (Obj.mapSeq (·.push Value.none)) hS2 rfl
  have st3 := st2.keep (h' := ((s.heap.push { cls := .type "list", data := .seq #[] }).update s.heap.objs.size (Obj.mapSeq (fun _ => (#[] : Array Value)))).update s.heap.objs.size (Obj.mapSeq (·.push Value.none))) hSn (fun x q => by rw [hS3]; exact fun z => nomatch z) fun c o hc e => (Heap.get?_update_other _ _ (Ne.symm hc)).trans e
  refine wpAny_updateSeq (hz := by seq_fits) hS3 rfl ?_
  have hS4 := Heap.get?_update_self (Obj.mapSeq (·.pop)) hS3 rfl
  have st4 := st3.keep (h' := (((s.heap.push { cls := .type "list", data := .seq #[] }).update s.heap.objs.size (Obj.mapSeq (fun _ => (#[] : Array Value)))).update s.heap.objs.size (Obj.mapSeq (·.push Value.none))).update s.heap.objs.size (Obj.mapSeq (·.pop))) hSn (fun x q => by rw [hS4]; exact fun z => nomatch z) fun c o hc e => (Heap.get?_update_other _ _ (Ne.symm hc)).trans e
  have k4 : ∀ c o, s.heap.get? c = some o → ((((s.heap.push { cls := .type "list", data := .seq #[] }).update s.heap.objs.size (Obj.mapSeq (fun _ => (#[] : Array Value)))).update s.heap.objs.size (Obj.mapSeq (·.push Value.none))).update s.heap.objs.size (Obj.mapSeq (·.pop))).get? c = some o :=
    fun c o e => (Heap.get?_update_other _ _ (Nat.ne_of_gt (Heap.lt_size e))).trans ((Heap.get?_update_other _ _ (Nat.ne_of_gt (Heap.lt_size e))).trans (k2 c o e))
  have hsz : ((((s.heap.push { cls := .type "list", data := .seq #[] }).update s.heap.objs.size (Obj.mapSeq (fun _ => (#[] : Array Value)))).update s.heap.objs.size (Obj.mapSeq (·.push Value.none))).update s.heap.objs.size (Obj.mapSeq (·.pop))).objs.size = s.heap.objs.size + 1 := by
    rw [(Heap.SameBut.update ..).1, (Heap.SameBut.update ..).1, (Heap.SameBut.update ..).1, Heap.size_push]
  refine wpAny_pure ⟨plainId_quiet PySem.F.plain_extend_loop _, zip_drain (A := A.in1) (b := b) (m := s.heap.objs.size + 1) hh D (Nat.le_succ_of_le hb) (fun c hc => ?_) hSn .none hn _ 0 _ _ [] _ rfl (Nat.zero_le _) st4 hS4 rfl rfl ⟨List.nodup_nil, fun j T e => by simp at e⟩ (Nat.le_of_eq hsz.symm) fun h' tk Ts c' kk hS' hl hg => ?_⟩
  · have e' : c = z ∨ c = TO ∨ c = i1 ∨ c = i2 ∨ c = s.heap.objs.size := by simpa using hc
    rcases e' with q | q | q | q | q
    · rw [q]; exact Nat.lt_succ_of_lt (hlt z (by simp))
    · rw [q]; exact Nat.lt_succ_of_lt (hlt TO (by simp))
    · rw [q]; exact Nat.lt_succ_of_lt (hlt i1 (by simp))
    · rw [q]; exact Nat.lt_succ_of_lt (hlt i2 (by simp))
    · rw [q]; exact Nat.lt_succ_self _
  · exact ⟨rfl, hQ h' tk Ts c' (fun c o hc e => kk c o (fun q => hc (by
      have e' : c = z ∨ c = TO ∨ c = i1 ∨ c = i2 ∨ c = s.heap.objs.size := by simpa using q
      rcases e' with q | q | q | q | q
      · simp [q]
      · simp [q]
      · simp [q]
      · simp [q]
      · exact absurd (Heap.lt_size e) (by rw [q]; exact Nat.lt_irrefl _))) (k4 c o e)) hS' hl hg⟩
end
def updZ : Hp → List Addr → List (V × V) → Hp
  | H, T :: Ts, p :: ps => updZ (upd H T (.tup [p.1, p.2])) Ts ps
  | H, _, _ => H
theorem updZ_none {q : Addr} : ∀ (Ts : List Addr) (ps : List (V × V)) (H : Hp), H q = none → q ∉ Ts → updZ H Ts ps q = none
  | [], _, _, h, _ => h
  | _ :: _, [], _, h, _ => h
  | T :: Ts, p :: ps, H, h, hq => by
    simp only [List.mem_cons, not_or] at hq
    exact updZ_none Ts ps _ (by rw [upd_ne hq.1]; exact h) hq.2
theorem inv_trackZ {X : Cx} {pins : List (Addr × Obj)} {σ : L2.St} {s : Shared} {b : Addr} (side : ∀ T, b ≤ T → T ≠ X.env.locals ∧ (∀ x c, X.env.cells.lookup x = some c → c ≠ T) ∧ (∀ p ∈ X.pn ++ pins, p.1 ≠ T) ∧ X.s_0.heap.get? T = none) :
    ∀ (Ts : List Addr) (ps : List (V × V)) (H : Hp), L2.Inv X pins σ H s → Ts.Nodup → (∀ T ∈ Ts, b ≤ T ∧ H T = none) → (∀ (j : Nat) (T : Addr) (p : V × V), Ts[j]? = some T → ps[j]? = some p → ∃ u u2, RelV p.1 u ∧ RelV p.2 u2 ∧ IsPair s.heap T u u2) → L2.Inv X pins σ (updZ H Ts ps) s
  | [], _, _, I, _, _, _ => I
  | _ :: _, [], _, I, _, _, _ => I
  | T :: Ts, p :: ps, H, I, nd, h, r => by
    simp only [List.nodup_cons] at nd
    obtain ⟨u, u2, ru, ru2, hp⟩ := r 0 T p rfl rfl
    obtain ⟨hb, hn⟩ := h T List.mem_cons_self
    obtain ⟨s1, s2, s3, s4⟩ := side T hb
    refine inv_trackZ side Ts ps _ (inv_track I hn s1 s2 s3 s4 ⟨by show 2 ≤ sizeLine; decide, [u, u2], .cons ru (.cons ru2 .nil), ⟨_, hp, rfl, _, rfl⟩⟩) nd.2 (fun T' h' => ?_) fun j T' p' e e' => r (j + 1) T' p' (by simpa using e) (by simpa using e')
    obtain ⟨hb', hn'⟩ := h T' (List.mem_cons_of_mem _ h')
    exact ⟨hb', by rw [upd_ne (show T' ≠ T from fun z => nd.1 (by rw [← z]; exact h'))]; exact hn'⟩
def tLz (K : PySem.W.Frag) (ta : TA) : TE := fun σ H Q => ta σ H fun vs H1 => ∃ a b xs ys, vs = [.ref a, .ref b] ∧ SqL K H1 a xs ∧ SqL K H1 b ys ∧ ∀ Ts : List Addr, Ts.length = min xs.length ys.length → Ts.Nodup → (∀ T ∈ Ts, H1 T = none) →
  ∀ q, H1 q = none → q ∉ Ts → Q (.ref q) (upd (updZ H1 Ts (xs.zip ys)) q (.lst (Ts.map V.ref)))
theorem vals_refs : ∀ Ts : List Addr, Vals (Ts.map V.ref) (Ts.map Value.ref)
  | [] => .nil
  | _ :: Ts => .cons rfl (vals_refs Ts)
theorem pe_lzip {X : Cx} {e e2 : Expr} {ta : TA} {p p2 pos pos2 : Pos} (hg : Gl X "list") (hm : X.mg "list" = none) (hg2 : Gl X "zip") (hm2 : X.mg "zip" = none) (ha : PA X [e, e2] ta)
    (hs : starEach [e, e2] X.env = (false, eval e X.env) :: starEach [e2] X.env) (hpl : (backTo pos2 (starEach [e2] X.env)).any (·.1) = false) (hc : X.calm = true) :
    PE X (.Call (.Name "list" p) [.Call (.Name "zip" p2) [e, e2] [] pos2] [] pos) (tLz X.K ta) := by
  refine ⟨fun pins s σ H Q I h => ?_⟩
  refine wpAny_Call_Name_kw (ld_blt I hg hm boot_list ?_)
  refine PyProof.Rows.callWith_type1 ?_ (by rfl) (by rfl)
  show wpAny _ _ (spliced ((false, eval (.Call (.Name "zip" p2) [e, e2] [] pos2) X.env) :: backTo pos (starEach [] X.env))) _ _ s
  refine Calls.spliced_cons ?_
  refine wpAny_Call_Name_kw (ld_blt I hg2 hm2 PyProof.Rows.boot_zip (PyProof.Rows.callWith_type1 (thn (ha.run pos2 pins s σ H _ I h) fun us s1 ⟨vs, H1, I1, r1, q1⟩ => ?_) hs hpl))
  obtain ⟨a, b, xs, ys, ex, hqx, hqy, q1⟩ := q1
  subst ex
  cases r1 with
  | cons r rr =>
  cases rr with
  | cons r' rr =>
  cases rr
  cases r
  cases r'
  obtain ⟨its, rv, p1, z1⟩ := I1.list hqx
  obtain ⟨its2, rv2, pp2, z2⟩ := I1.list hqy
  refine call_zip_2 p1.isList pp2.isList fun h' hz hTI hTO h1 h2 hsz hk => ?_
  refine Calls.spliced_nil ?_
  have D := PySem.W.ktu_apart s1.heap.objs.size a b p1.lt pp2.lt
  have fresh : ∀ c, s1.heap.objs.size ≤ c → FpOk X pins H1 c := fun c hle => I1.fpOk hle (I1.hok.fresh hle)
  refine call_list_zip (b := s1.heap.objs.size) (s := { s1 with heap := h' }) (I1.ok.hd hc) D ⟨hTI, h1, h2, p1.isList.at fun o e => hk _ o e, pp2.isList.at fun o e => hk _ o e, .inl ⟨hz, _, _, hTO⟩⟩ (fun c hc => ?_) (by show s1.heap.objs.size ≤ h'.objs.size; rw [hsz]; exact Nat.le_add_right _ _) ?_ fun h2' tk Ts c' kk hS hl hg => ?_
  · show c < h'.objs.size
    rw [hsz]
    have l1 := p1.lt
    have l2 := pp2.lt
    have e' : c = s1.heap.objs.size + 4 ∨ c = s1.heap.objs.size + 2 ∨ c = s1.heap.objs.size + 3 ∨ c = s1.heap.objs.size ∨ c = s1.heap.objs.size + 1 ∨ c = a ∨ c = b := by simpa using hc
    rcases e' with q | q | q | q | q | q | q
    · rw [q]; exact Nat.lt_succ_self _
    · rw [q]; exact Nat.add_lt_add_left (by decide) _
    · rw [q]; exact Nat.add_lt_add_left (by decide) _
    · rw [q]; exact Nat.lt_add_of_pos_right (by decide)
    · rw [q]; exact Nat.add_lt_add_left (by decide) _
    · rw [q]; exact Nat.lt_of_lt_of_le l1 (Nat.le_add_right _ _)
    · rw [q]; exact Nat.lt_of_lt_of_le l2 (Nat.le_add_right _ _)
  · have := rv.length
    have := rv2.length
    simp only [List.size_toArray]
    omega
  · have k1 : ∀ c o, s1.heap.get? c = some o → h2'.get? c = some o := fun c o e => kk c o (fun q => by
      have lt := Heap.lt_size e
      have e' : c = s1.heap.objs.size + 4 ∨ c = s1.heap.objs.size + 3 ∨ c = s1.heap.objs.size ∨ c = s1.heap.objs.size + 1 := by simpa using q
      rcases e' with q | q | q | q <;> (rw [q] at lt; exact absurd lt (Nat.not_lt.mpr (by first | exact Nat.le_add_right _ _ | exact Nat.le_refl _)))) (hk c o e)
    have I2 : L2.Inv X pins σ H1 { s1 with heap := h2', toks := tk } := I1.kept (t' := tk) k1
    have S0 : X.s_0.heap.objs.size ≤ s1.heap.objs.size := I1.sz
    have side : ∀ T, s1.heap.objs.size ≤ T → T ≠ X.env.locals ∧ (∀ x c, X.env.cells.lookup x = some c → c ≠ T) ∧ (∀ p ∈ X.pn ++ pins, p.1 ≠ T) ∧ X.s_0.heap.get? T = none := fun T hT => by
      obtain ⟨_, f1, _, _, f4, f5⟩ := fresh T hT
      refine ⟨f1, f4, f5, ?_⟩
      cases q : X.s_0.heap.get? T with
      | none => rfl
      | some o => exact absurd (Heap.lt_size q) (Nat.not_lt.mpr (Nat.le_trans S0 hT))
    have hTs : ∀ T ∈ Ts, s1.heap.objs.size ≤ T ∧ H1 T = none := fun T hT => by
      obtain ⟨j, hj⟩ := List.mem_iff_getElem?.mp hT
      obtain ⟨g1, _⟩ := hg.row j T hj
      exact ⟨g1, I1.hok.fresh g1⟩
    have hSge : s1.heap.objs.size ≤ h'.objs.size := by rw [hsz]; exact Nat.le_add_right _ _
    have hSn : h'.objs.size ∉ Ts := fun hm => by
      obtain ⟨j, hj⟩ := List.mem_iff_getElem?.mp hm
      obtain ⟨_, g2, _⟩ := hg.row j _ hj
      exact g2 (by simp)
    have I3 := inv_trackZ side Ts (xs.zip ys) H1 I2 hg.nodup hTs fun j T p e e' => by
      obtain ⟨_, _, x, y, hx, hy, hp⟩ := hg.row j T e
      rw [List.getElem?_zip_eq_some] at e'
      obtain ⟨u, hu, ru⟩ := rv.get e'.1
      obtain ⟨u2, hu2, ru2⟩ := rv2.get e'.2
      have hx' : its[j]? = some x := by simpa using hx
      have hy' : its2[j]? = some y := by simpa using hy
      rw [hu] at hx'
      rw [hu2] at hy'
      cases hx'
      cases hy'
      exact ⟨_, _, ru, ru2, hp⟩
    have hSf : H1 h'.objs.size = none := I1.hok.fresh hSge
    obtain ⟨s1', s2', s3', s4'⟩ := side _ hSge
    have hlen : Ts.length = min xs.length ys.length := by rw [hl, ← rv.length.symm, ← rv2.length.symm]; simp
    refine ⟨.ref h'.objs.size, _, inv_track (o := .lst (Ts.map V.ref)) I3 (updZ_none Ts _ _ hSf hSn) s1' s2' s3' s4' ⟨?_, Ts.map Value.ref, c', vals_refs Ts, hS⟩, rfl, q1 Ts hlen hg.nodup (fun T hT => (hTs T hT).2) _ hSf hSn⟩
    rw [List.length_map]
    omega
theorem relZ {c : Ct} {g : Gh} {st : Store} : ∀ (Ts : List Addr) (ds es : List D) (vs us : List V) (H : Hp), RelSt c g st H → RpL c (Bar g st) H ds vs → RpL c (Bar g st) H es us → Ts.length = min vs.length us.length → Ts.Nodup → (∀ T ∈ Ts, H T = none) →
    RelSt c g st (updZ H Ts (vs.zip us)) ∧ Keeps g st H g st (updZ H Ts (vs.zip us)) ∧ RpL c (Bar g st) (updZ H Ts (vs.zip us)) ((ds.zip es).map fun p => D.tup [p.1, p.2]) (Ts.map V.ref)
  | [], ds, es, vs, us, H, R, r1, r2, hl, _, _ => by
    refine ⟨R, Keeps.refl _ _ _, ?_⟩
    have h1 := r1.length
    have h2 := r2.length
    have : ds.zip es = [] := by
      apply List.eq_nil_of_length_eq_zero
      rw [List.length_zip]
      simp at hl
      omega
    rw [this]
    simp only [List.map_nil, RpL]
  | T :: Ts, [], es, vs, us, H, R, r1, r2, hl, _, _ => by
    have h1 := r1.length
    simp at h1 hl
    omega
  | T :: Ts, d :: ds, [], vs, us, H, R, r1, r2, hl, _, _ => by
    have h1 := r2.length
    simp at h1 hl
    omega
  | T :: Ts, d :: ds, e :: es, vs, us, H, R, r1, r2, hl, nd, hn => by
    cases vs with
    | nil => simp at hl
    | cons v vs =>
    cases us with
    | nil => simp at hl
    | cons u us =>
    simp only [RpL] at r1 r2
    simp only [List.nodup_cons] at nd
    have hT := hn T List.mem_cons_self
    have k := Keeps.new (g := g) (st := st) (o := .tup [v, u]) hT
    have t := Rp.newTup (ds := [d, e]) (vs := [v, u]) R hT (by simp only [RpL]; exact ⟨r1.1, r2.1, trivial⟩)
    obtain ⟨R', K', r'⟩ := relZ Ts ds es vs us (upd H T (.tup [v, u])) (R.new hT) (RpL.move k.bar _ _ r1.2) (RpL.move k.bar _ _ r2.2) (by simp at hl; omega) nd.2 fun T' h' => by
      rw [upd_ne (show T' ≠ T from fun z => nd.1 (by rw [← z]; exact h'))]
      exact hn T' (List.mem_cons_of_mem _ h')
    simp only [List.zip_cons_cons, List.map_cons, updZ, RpL]
    exact ⟨R', k.trans K', Rp.move K'.bar _ _ t, r'⟩
section
variable {X : Cx} {c : Ct} {W : XK} {G : Gt} {C : Nat → List S → Store → Res S} {N : List Str} {sc ow : Scope} {a b : Expr} {p p2 pos pos2 : Pos} {x x2 : Str} {fa fb : Env → Store → Res S}
theorem f_lzip (D : Gd c G C W N sc ow X) (hx : x = "list") (hg : isG sc x = true) (hx2 : x2 = "zip") (hg2 : isG sc x2 = true) (hst : nstar a = true) (hst2 : nstar b = true) (ha : PE X a (RD c W fa)) (hb : PE X b (RD c W fb)) :
    PE X (.Call (.Name x p) [.Call (.Name x2 p2) [a, b] [] pos2] [] pos) (RF c W fun ρ st => (fa ρ st).bind fun x st1 => (fb ρ st1).bind fun y st2 => need (lzSem x y st2) st2) := by
  subst hx
  subst hx2
  have st2 : ([b] : List Expr).all nstar = true := by simp [hst2]
  refine PE_imp (pe_lzip (D.gl hg) (D.none_ _ (by decide)) (D.gl hg2) (D.none_ _ (by decide)) (pa_cons ha (pa_cons hb pa_nil (star_cons hst2)) (star_cons hst)) (star_cons hst) (star_plain st2) D.calm) fun σ H R ⟨g, ρ, st, Rs, Re, z⟩ => ?_
  refine RG.bind Rs Re z fun s st1 v H1 g1 Rs Re K m z => ?_
  refine RG.bind Rs Re z fun y st2 u H2 g2 Rs2 Re2 K2 m2 z => ?_
  have m := m.move K2
  cases e : lzSem s y st2 with
  | none => rw [e] at z; exact z.elim
  | some zs =>
    rw [e] at z
    simp only [lzSem, Option.bind_eq_some_iff, Option.map_eq_some_iff] at e
    obtain ⟨xs, e1, ys, e2, ds, e3, es, e4, e5⟩ := e
    subst e5
    obtain ⟨a1, vs, rfl, h1, h2⟩ := lstI_ok Rs2 m e1
    obtain ⟨a2, us, rfl, h3, h4⟩ := lstI_ok Rs2 m2 e2
    refine ⟨a1, a2, vs, us, rfl, .inl (.inl h1), .inl (.inl h3), fun Ts hl nd hn q hq hqn => ?_⟩
    obtain ⟨R', K', r'⟩ := relZ Ts ds es vs us H2 Rs2 (RelLb.toV e3 h2) (RelLb.toV e4 h4) hl nd hn
    refine z (Ts.map V.ref) _ g2 R' K' ?_ q (updZ_none Ts _ _ hq hqn)
    have := RelLb.ofV (b := st2.length) r'
    rw [List.map_map] at this
    exact this
end
end Sw

set_option linter.all false
set_option maxRecDepth 100000
set_option maxHeartbeats 4000000
namespace Sw
open PySem L2 PySem.Spec PyProof.Rows
theorem Gd.blk {c : Ct} {G : Gt} {C : Nat → List S → Store → Res S} {W : XK} {N : List Str} {sc ow : Scope} {X : Cx} (D : Gd c G C W N sc ow X) (s : Shared) (H : Hp) (scope : Scope) (A : Addr) (cl : List (Str × Addr)) (fp : List Addr) :
    Gd c G C NoX N (relS scope sc) (owC ow scope) (X.blk s H scope (compEnvC scope cl A X.env) fp) where
  K := D.K
  calm := D.calm
  N := D.N
  nd := D.nd
  sc := by rw [← D.sc]; rfl
  sto := fun x h => by
    unfold isL at h
    split at h
    · rename_i e
      have e : scope.names.lookup x = some .local := e
      have e2 := lookup_relS_keep (sc := X.env.scope) (k := .local) (by decide) e
      exact ⟨.inl e2, .inr e2⟩
    · rename_i e
      have e : scope.names.lookup x = some .cell := e
      have e2 := lookup_relS_keep (sc := X.env.scope) (k := .cell) (by decide) e
      refine ⟨.inr e2, .inl ?_⟩
      show (scope.names.lookup x == some .cell) = true
      rw [e]
      rfl
    · cases h
  units := D.units
  cst := D.cst
  none_ := D.none_
  gcd := D.gcd
  fn := D.fn
  exm := D.exm
  cat := D.cat
  lam := D.lam
  tk := fun u s' ⟨a, B, sI, pins, σ, H', cls, d, h⟩ => h.2.2.2.2.2.2.2.2.elim
theorem kw_ok : ∀ {ks : List Str} {kws : List Keyword}, kwNames ks kws = true → KwOk kws ks
  | [], [], _ => ⟨rfl⟩
  | [], _ :: _, h => by simp [kwNames] at h
  | _ :: _, [], h => by simp [kwNames] at h
  | k :: ks, ⟨none, _, _⟩ :: r, h => by simp [kwNames] at h
  | k :: ks, ⟨some y, e, q⟩ :: r, h => by
    simp only [kwNames, Bool.and_eq_true, decide_eq_true_eq] at h
    have := (kw_ok h.2).eq
    exact ⟨by simp only [List.map_cons]; rw [this, h.1]⟩
theorem kw_len : ∀ {ks : List Str} {kws : List Keyword}, kwNames ks kws = true → ks.length = kws.length
  | [], [], _ => rfl
  | [], _ :: _, h => by simp [kwNames] at h
  | _ :: _, [], h => by simp [kwNames] at h
  | k :: ks, ⟨none, _, _⟩ :: r, h => by simp [kwNames] at h
  | k :: ks, ⟨some y, e, q⟩ :: r, h => by
    simp only [kwNames, Bool.and_eq_true, decide_eq_true_eq] at h
    exact congrArg (· + 1) (kw_len h.2)
theorem RD.of {c : Ct} {W : XK} {X : Cx} {x : Expr} {f f' : Env → Store → Res S} (h : PE X x (RD c W f)) (e : f' = f) : PE X x (RD c W f') := e ▸ h
section
variable {c : Ct} {G : Gt} {C : Nat → List S → Store → Res S} {N : List Str}
structure LcOk (c : Ct) (G : Gt) (C : Nat → List S → Store → Res S) (N : List Str) (W : XK) (X : Cx) (el : E) (tg : Tg) (vs : List Nat) (it : It) (oc : Oc) (x : Expr) : Prop where
  ex : ∃ elt t iter ifs scope pos wi g tt te, x = .ListComp elt [⟨t, iter, ifs, 0⟩] scope pos ∧ PI X t iter wi ∧ BlkOk X.N X.env.scope scope (ownOf N vs) ∧
    (∀ (s : Shared) (H : Hp) (A : Addr) (cl : List (Str × Addr)) (fp : List Addr), PG (X.blk s H scope (compEnvC scope cl A X.env) fp) t g) ∧
    (∀ (s : Shared) (H : Hp) (A : Addr) (cl : List (Str × Addr)) (fp : List Addr), PTs (X.blk s H scope (compEnvC scope cl A X.env) fp) ifs tt) ∧
    (∀ (s : Shared) (H : Hp) (A : Addr) (cl : List (Str × Addr)) (fp : List Addr), PE (X.blk s H scope (compEnvC scope cl A X.env) fp) elt te) ∧
    (∀ v, foldedSetIterable iter X.env v = pure v) ∧
    ∀ σ H Q, RF c W (evFr G C (.comp el tg vs it oc)) σ H Q → tLc wi g tt te ((ownOf N vs).map (·.2)) σ H Q
theorem LcOk.pe {W : XK} {X : Cx} {el : E} {tg : Tg} {vs : List Nat} {it : It} {oc : Oc} {x : Expr} (hc : X.calm = true) (hN : X.N.Nodup) (h : LcOk c G C N W X el tg vs it oc x) : PE X x (RF c W (evFr G C (.comp el tg vs it oc))) := by
  obtain ⟨elt, t, iter, ifs, scope, pos, wi, g, tt, te, rfl, h1, h2, h3, h4, h5, h6, h7⟩ := h.ex
  exact PE_imp (pe_lc hc hN h1 h2 h3 h4 h5 h6) h7
theorem lc_of {el : E} {tg : Tg} {vs : List Nat} {it : It} {oc : Oc} (hIt : ∀ {W : XK} {sc ow : Scope} {X : Cx} {x tg : Expr}, Gd c G C W N sc ow X → mtIt G N it sc ow x tg = true → PI X tg x (RI c W (evIt G C it)))
    (hOc : ∀ {W : XK} {sc ow : Scope} {X : Cx} {l : List Expr}, Gd c G C W N sc ow X → mtOc G N oc sc ow l = true → PTs X l (RT c W (evOc G C oc)))
    (hE : ∀ {W : XK} {sc ow : Scope} {X : Cx} {x : Expr}, Gd c G C W N sc ow X → mtE G N el sc ow x = true → PE X x (RD c W (evE G C el)))
    {W : XK} {sc ow : Scope} {X : Cx} {x : Expr} (D : Gd c G C W N sc ow X) (h : mtF G N (.comp el tg vs it oc) sc ow x = true) : LcOk c G C N W X el tg vs it oc x := by
  simp only [mtF] at h
  split at h
  · rename_i elt t iter ifs as scope pos
    simp only [Bool.and_eq_true, decide_eq_true_eq] at h
    obtain ⟨⟨⟨⟨⟨⟨⟨h1, h2⟩, h3⟩, h4⟩, h5⟩, h6⟩, h7⟩, h8⟩ := h
    subst h1
    refine ⟨elt, t, iter, ifs, scope, pos, _, _, _, _, rfl, hIt D h3, ?_, fun s H A cl fp => g_W (D.blk s H scope A cl fp) h4, fun s H A cl fp => hOc (D.blk s H scope A cl fp) h5, fun s H A cl fp => hE (D.blk s H scope A cl fp) h6, fun v => notSet_ok h8, fun σ H Q z => ?_⟩
    · rw [D.N, D.sc]
      exact blkOk_by h2
    · rw [ownOf_ix]
      refine lc_read (fi := evIt G C it) (fc := evOc G C oc) (fe := evE G C el) (fun i hi => ?_) ?_
      · have := List.all_eq_true.mp h7 i hi
        exact of_decide_eq_true this
      · have : evFr G C (.comp el tg vs it oc) = fun ρ st => (evIt G C it ρ st).bind fun w st1 => compR w (rowR w tg vs (evOc G C oc) (evE G C el) ρ) w.rows [] st1 := by
          funext ρ st
          simp only [evFr]
          rfl
        rw [this] at z
        exact z
  · cases h
mutual
theorem sE : ∀ (e : E) {W : XK} {sc ow : Scope} {X : Cx} {x : Expr}, Gd c G C W N sc ow X → mtE G N e sc ow x = true → PE X x (RD c W (evE G C e))
  | .var i, W, sc, ow, X, x, D, h => by
    simp only [mtE] at h
    split at h
    · simp only [Bool.and_eq_true, decide_eq_true_eq] at h
      obtain ⟨⟨h1, h2⟩, h3⟩ := h
      obtain ⟨n1, n2, _⟩ := nodb_ok h3
      exact RD.of (d_var (i := i) (by rw [D.N]; exact h1) (D.vis h2) n1 n2) (by funext ρ st; simp only [evE] <;> rfl)
    · cases h
  | .glob i, W, sc, ow, X, x, D, h => by
    simp only [mtE] at h
    split at h
    · simp only [Bool.and_eq_true] at h
      obtain ⟨⟨h1, h2⟩, h3⟩ := h
      split at h1
      · rename_i q e
        have h1 := of_decide_eq_true h1
        obtain ⟨u, v, m1, m2, m3⟩ := D.cst i q.1 q.2 e
        rw [h1] at m1
        exact RD.of (d_const (pe_glob (D.gl h2) m1 m2 (nodb_ok h3).1) m3) (by funext ρ st; simp only [evE, e] <;> rfl)
      · cases h1
    · cases h
  | .cint i, W, sc, ow, X, x, D, h => by
    simp only [mtE] at h
    split at h
    · have h := of_decide_eq_true h
      subst h
      exact RD.of (d_const (d := .int i) pe_int fun Y H => by simp only [Rp]) (by funext ρ st; simp only [evE])
    · cases h
  | .cstr z, W, sc, ow, X, x, D, h => by
    simp only [mtE] at h
    split at h
    · simp only [Bool.and_eq_true, decide_eq_true_eq] at h
      obtain ⟨⟨h1, h2⟩, h3⟩ := h
      subst h1
      exact RD.of (d_const (d := .str z) pe_str fun Y H => by simp only [Rp]; exact ⟨trivial, by rw [sizeLine_eq]; omega, h3⟩) (by funext ρ st; simp only [evE])
    · cases h
  | .cbl b, W, sc, ow, X, x, D, h => by
    simp only [mtE] at h
    split at h
    · have h := eq_of_beq h
      subst h
      exact RD.of (d_const (d := .bl b) pe_bl fun Y H => by simp only [Rp]) (by funext ρ st; simp only [evE])
    · cases h
  | .cnon, W, sc, ow, X, x, D, h => by
    simp only [mtE] at h
    split at h
    · exact RD.of (d_const (d := .non) pe_non fun Y H => by simp only [Rp]) (by funext ρ st; simp only [evE])
    · cases h
  | .tup es, W, sc, ow, X, x, D, h => by
    simp only [mtE] at h
    split at h
    · simp only [Bool.and_eq_true, decide_eq_true_eq] at h
      obtain ⟨⟨h1, h2⟩, h3⟩ := h
      exact RD.of (d_tup h3 (fun ρ st xs st' e => (evEs_len e).trans (mtEs_len h1).symm) ((sEs es D h1).pa h2)) (by funext ρ st; simp only [evE])
    · cases h
  | .fr f, W, sc, ow, X, x, D, h => by
    simp only [mtE] at h
    exact RD.of (d_fr (sF f D h)) (by funext ρ st; simp only [evE])
  | .al f, W, sc, ow, X, x, D, h => by
    simp only [mtE] at h
    exact RD.of (d_al (sF f D h)) (by funext ρ st; simp only [evE])
  | .dnew ks es, W, sc, ow, X, x, D, h => by
    simp only [mtE] at h
    split at h
    · simp only [Bool.and_eq_true, decide_eq_true_eq] at h
      obtain ⟨⟨⟨h1, h2⟩, h3⟩, h4⟩ := h
      exact RD.of (d_dnew h1 (sEs es D h2) (mtEs_len h2) h4 h3) (by funext ρ st; simp only [evE])
    · cases h
  | .bop o a b, W, sc, ow, X, x, D, h => by
    simp only [mtE] at h
    split at h
    · simp only [Bool.and_eq_true, decide_eq_true_eq] at h
      obtain ⟨⟨h1, h2⟩, h3⟩ := h
      subst h1
      exact RD.of (d_bop D.K o (sE a D h2) (sE b D h3)) (by funext ρ st; simp only [evE])
    · cases h
  | .neg a, W, sc, ow, X, x, D, h => by
    simp only [mtE] at h
    split at h
    · exact RD.of (d_neg (sE a D h)) (by funext ρ st; simp only [evE] <;> rfl)
    · cases h
  | .cmp o a b, W, sc, ow, X, x, D, h => by
    simp only [mtE] at h
    split at h
    · simp only [Bool.and_eq_true, decide_eq_true_eq, Bool.not_eq_true'] at h
      obtain ⟨⟨⟨h1, h2⟩, h3⟩, h4⟩ := h
      subst h1
      exact RD.of (d_cmp D.K D.units o h2 (sE a D h3) (sE b D h4)) (by funext ρ st; simp only [evE])
    · cases h
  | .chn o o' a b cc, W, sc, ow, X, x, D, h => by
    simp only [mtE] at h
    split at h
    · simp only [Bool.and_eq_true, decide_eq_true_eq, Bool.not_eq_true'] at h
      obtain ⟨⟨⟨⟨⟨h1, h2⟩, h3⟩, h4⟩, h5⟩, h6⟩ := h
      subst h1 h2
      exact RD.of (d_chn D.K D.units o o' h3 (sE a D h4) (sE b D h5) (sE cc D h6)) (by funext ρ st; simp only [evE])
    · cases h
  | .not a, W, sc, ow, X, x, D, h => by
    simp only [mtE] at h
    split at h
    · exact RD.of (d_not (sE a D h)) (by funext ρ st; simp only [evE] <;> rfl)
    · cases h
  | .andv es, W, sc, ow, X, x, D, h => by
    simp only [mtE] at h
    split at h
    · have A := sEs es D h
      cases es with
      | nil => exact RD.of bad_imp (by funext ρ st; simp only [evE, evAnd])
      | cons e es => exact RD.of (A.and (fun z => nomatch z)) (by funext ρ st; simp only [evE])
    · cases h
  | .orv es, W, sc, ow, X, x, D, h => by
    simp only [mtE] at h
    split at h
    · have A := sEs es D h
      cases es with
      | nil => exact RD.of bad_imp (by funext ρ st; simp only [evE, evOr])
      | cons e es => exact RD.of (A.or (fun z => nomatch z)) (by funext ρ st; simp only [evE])
    · cases h
  | .ife cc a b, W, sc, ow, X, x, D, h => by
    simp only [mtE] at h
    split at h
    · simp only [Bool.and_eq_true] at h
      obtain ⟨⟨h1, h2⟩, h3⟩ := h
      exact RD.of (d_ife (sC cc D h1) (sE a D h2) (sE b D h3)) (by funext ρ st; simp only [evE])
    · cases h
  | .ix a i, W, sc, ow, X, x, D, h => by
    simp only [mtE] at h
    split at h
    · simp only [Bool.and_eq_true] at h
      obtain ⟨⟨h1, h2⟩, h3⟩ := h
      exact RD.of (d_ix D.K (by have := D.units; omega) (isIx_ok h1) (sE a D h2) (sE i D h3)) (by funext ρ st; simp only [evE])
    · cases h
  | .slc a lo hi, W, sc, ow, X, x, D, h => by
    simp only [mtE] at h
    split at h
    · simp only [Bool.and_eq_true] at h
      obtain ⟨⟨h1, h2⟩, h3⟩ := h
      exact RD.of (d_slc D.K (sE a D h1) (sO lo D h2) (sO hi D h3)) (by funext ρ st; simp only [evE])
    · cases h
  | .call f es, W, sc, ow, X, x, D, h => by
    simp only [mtE] at h
    split at h
    · rename_i y p l pos
      simp only [Bool.and_eq_true, decide_eq_true_eq] at h
      obtain ⟨⟨⟨⟨h1, h2⟩, h3⟩, h4⟩, h5⟩ := h
      have A := sEs es D h4
      cases l with
      | nil =>
        cases es with
        | nil => exact RD.of (d_call0 D h1 h2 h3) (by funext ρ st; simp only [evE, evEs])
        | cons _ _ => exact A.elim
      | cons z l => exact RD.of (d_call D h1 h2 h3 h5 (A.pa h5)) (by funext ρ st; simp only [evE])
    · cases h
  | .callk f es ks kes, W, sc, ow, X, x, D, h => by
    simp only [mtE] at h
    split at h
    · rename_i y p l kws pos
      simp only [Bool.and_eq_true, decide_eq_true_eq] at h
      obtain ⟨⟨⟨⟨⟨⟨⟨h1, h2⟩, h3⟩, h4⟩, h5⟩, h6⟩, h7⟩, h8⟩ := h
      have A := sEs es D h4
      have B := sEs kes D h8
      cases l with
      | nil =>
        cases es with
        | nil => exact RD.of (d_callk0 D h1 h2 h3 h6 (kw_ok h7) (AllE.pk B)) (by funext ρ st; simp only [evE, evEs] <;> rfl)
        | cons _ _ => exact A.elim
      | cons z l => exact RD.of (d_callk D h1 h2 h3 h5 (fun ρ st xs st' e => (evEs_len e).trans (mtEs_len h4).symm) h6 (kw_ok h7) (A.pa h5) (AllE.pk B)) (by funext ρ st; simp only [evE] <;> rfl)
    · cases h
  | .bl b es, W, sc, ow, X, x, D, h => by
    simp only [mtE] at h
    split at h
    · simp only [Bool.and_eq_true, decide_eq_true_eq] at h
      obtain ⟨⟨⟨h1, h2⟩, h3⟩, h4⟩ := h
      exact RD.of (d_bl D b h1 h2 (by simpa using h4) ((sEs es D h3).pa (by simpa using h4))) (by funext ρ st; simp only [evE])
    · cases h
  | .isi e ts par, W, sc, ow, X, x, D, h => by
    simp only [mtE] at h
    split at h
    · simp only [Bool.and_eq_true, decide_eq_true_eq] at h
      obtain ⟨⟨⟨⟨h1, h2⟩, h3⟩, h4⟩, h5⟩ := h
      split at h5
      · simp only [Bool.and_eq_true, decide_eq_true_eq] at h5
        exact RD.of (d_isi1 D h5.1.1 h1 h5.1.2 h2 h5.2 h3 (sE e D h4)) (by funext ρ st; simp only [evE])
      · simp only [Bool.and_eq_true, decide_eq_true_eq] at h5
        exact RD.of (d_isiT D h5.1 (fun z => nomatch z) h5.2 h1 h2 h3 (sE e D h4)) (by funext ρ st; simp only [evE])
      · cases h5
    · cases h
  | .mth m o es, W, sc, ow, X, x, D, h => by
    simp only [mtE] at h
    split at h
    · rename_i ob y apos l cpos
      simp only [Bool.and_eq_true, decide_eq_true_eq] at h
      obtain ⟨⟨⟨⟨⟨⟨h1, h2⟩, h3⟩, h4⟩, h5⟩, h6⟩, h7⟩ := h
      have A := sEs es D h5
      cases l with
      | nil =>
        cases es with
        | nil => exact RD.of (d_mth0 D m h1 h2 h3 (sE o D h4)) (by funext ρ st; simp only [evE, evEs])
        | cons _ _ => exact A.elim
      | cons z l => exact RD.of (d_mth D m h1 h2 h3 h6 h7 (sE o D h4) (A.pa h6)) (by funext ρ st; simp only [evE])
    · cases h
  | .frz e, W, sc, ow, X, x, D, h => by
    simp only [mtE] at h
    exact RD.of (d_frz (sE e D h)) (by funext ρ st; simp only [evE])
  | .stuck, W, sc, ow, X, x, D, h => RD.of bad_imp (by funext ρ st; simp only [evE])
  | .fnv f, W, sc, ow, X, x, D, h => by
    simp only [mtE] at h
    split at h
    · simp only [Bool.and_eq_true, decide_eq_true_eq] at h
      exact RD.of (d_fnv D h.1.1 h.1.2 h.2) (by funext ρ st; simp only [evE])
    · cases h
  | .callv i es, W, sc, ow, X, x, D, h => by
    simp only [mtE] at h
    split at h
    · simp only [Bool.and_eq_true, decide_eq_true_eq] at h
      obtain ⟨⟨⟨⟨h1, h2⟩, h3⟩, h4⟩, h5⟩ := h
      exact RD.of (d_callv D h1 h2 h3 h5 ((sEs es D h4).pa h5)) (by funext ρ st; simp only [evE] <;> rfl)
    · cases h
  | .caught e, W, sc, ow, X, x, D, h => by
    simp only [mtE] at h
    split at h
    · simp only [Bool.and_eq_true, decide_eq_true_eq, Bool.not_eq_true'] at h
      obtain ⟨⟨⟨⟨⟨⟨h1, h2⟩, h3⟩, h4⟩, h5⟩, h6⟩, h7⟩ := h
      exact RD.of (d_caught D h1 h2 h3 h4 h5 h6 fun X' E D' => sE e D' h7) (by funext ρ st; simp only [evE]; cases evE G C e ρ st <;> rfl)
    · cases h
  | .isx e (.own ci), W, sc, ow, X, x, D, h => by
    simp only [mtE] at h
    split at h
    · simp only [Bool.and_eq_true, decide_eq_true_eq] at h
      obtain ⟨⟨⟨⟨⟨⟨h1, h2⟩, h3⟩, h4⟩, h5⟩, h6⟩, h7⟩ := h
      exact RD.of (d_isx D h1 h2 h5 h6 h7 h3 (sE e D h4)) (by funext ρ st; simp only [evE]; congr 1; funext x st1; unfold isxR; split <;> first | rfl | (split <;> first | rfl | simp_all))
    · cases h
  | .isx e .ve, W, sc, ow, X, x, D, h => by simp [mtE] at h
  | .fld _ _, W, sc, ow, X, x, D, h => by simp [mtE] at h
theorem sEs : ∀ (es : Es) {W : XK} {sc ow : Scope} {X : Cx} {l : List Expr}, Gd c G C W N sc ow X → mtEs G N es sc ow l = true → AllE c G C W X es l
  | .nil, W, sc, ow, X, l, D, h => by
    simp only [mtEs] at h
    split at h
    · trivial
    · cases h
  | .cons e es, W, sc, ow, X, l, D, h => by
    simp only [mtEs] at h
    split at h
    · simp only [Bool.and_eq_true] at h
      exact ⟨sE e D h.1, sEs es D h.2⟩
    · cases h
theorem sO : ∀ (o : Oe) {W : XK} {sc ow : Scope} {X : Cx} {x : Option Expr}, Gd c G C W N sc ow X → mtO G N o sc ow x = true → PO X x (RO c W (evO G C o))
  | .no, W, sc, ow, X, x, D, h => by
    simp only [mtO] at h
    split at h
    · have : evO G C .no = fun _ st => .ok none st := by funext ρ st; simp only [evO]
      rw [this]
      exact do_none
    · cases h
  | .yes e, W, sc, ow, X, x, D, h => by
    simp only [mtO] at h
    split at h
    · have : evO G C (.yes e) = fun ρ st => (evE G C e ρ st).bind fun x st1 => match x with
        | .v (.int i) => .ok (some i) st1
        | _ => .bad := by funext ρ st; simp only [evO] <;> rfl
      rw [this]
      exact do_some (sE e D h)
    · cases h
theorem sF : ∀ (f : Fr) {W : XK} {sc ow : Scope} {X : Cx} {x : Expr}, Gd c G C W N sc ow X → mtF G N f sc ow x = true → PE X x (RF c W (evFr G C f))
  | .disp es, W, sc, ow, X, x, D, h => by
    simp only [mtF] at h
    split at h
    · simp only [Bool.and_eq_true, decide_eq_true_eq] at h
      obtain ⟨⟨h1, h2⟩, h3⟩ := h
      have : evFr G C (.disp es) = evEs G C es := by funext ρ st; simp only [evFr]
      rw [this]
      exact f_disp h3 (fun ρ st xs st' e => (evEs_len e).trans (mtEs_len h1).symm) ((sEs es D h1).pa h2)
    · cases h
  | .comp el tg vs it oc, W, sc, ow, X, x, D, h => (lc_of (fun D h => sIt it D h) (fun D h => sOc oc D h) (fun D h => sE el D h) D h).pe D.calm D.nd
  | .lzip a b, W, sc, ow, X, x, D, h => by
    simp only [mtF] at h
    split at h
    · simp only [Bool.and_eq_true, decide_eq_true_eq] at h
      obtain ⟨⟨⟨⟨⟨⟨⟨h1, h2⟩, h3⟩, h4⟩, h5⟩, h6⟩, h7⟩, h8⟩ := h
      have : evFr G C (.lzip a b) = fun ρ st => (evE G C a ρ st).bind fun x st1 => (evE G C b ρ st1).bind fun y st2 => need (lzSem x y st2) st2 := by funext ρ st; simp only [evFr]
      rw [this]
      exact f_lzip D h1 h2 h3 h4 h5 h6 (sE a D h7) (sE b D h8)
    · cases h
  | .lof e, W, sc, ow, X, x, D, h => by
    simp only [mtF] at h
    split at h
    · simp only [Bool.and_eq_true, decide_eq_true_eq] at h
      obtain ⟨⟨⟨h1, h2⟩, h3⟩, h4⟩ := h
      have : evFr G C (.lof e) = fun ρ st => (evE G C e ρ st).bind fun x st1 => need (items x st1) st1 := by funext ρ st; simp only [evFr]
      rw [this]
      exact f_lof D h1 h2 h3 (sE e D h4)
    · cases h
  | .add a b, W, sc, ow, X, x, D, h => by
    simp only [mtF] at h
    split at h
    · simp only [Bool.and_eq_true] at h
      have : evFr G C (.add a b) = fun ρ st => (evE G C a ρ st).bind fun x st1 => (evE G C b ρ st1).bind fun y st2 => match lstI x st2, lstI y st2 with
        | some xs, some ys => if xs.length + ys.length ≤ sizeLine then .ok (xs ++ ys) st2 else .bad
        | _, _ => .bad := by funext ρ st; simp only [evFr] <;> rfl
      rw [this]
      exact f_add (sE a D h.1) (sE b D h.2)
    · cases h
  | .srt e, W, sc, ow, X, x, D, h => by simp [mtF] at h
theorem sOc : ∀ (oc : Oc) {W : XK} {sc ow : Scope} {X : Cx} {l : List Expr}, Gd c G C W N sc ow X → mtOc G N oc sc ow l = true → PTs X l (RT c W (evOc G C oc))
  | .no, W, sc, ow, X, l, D, h => by
    simp only [mtOc] at h
    split at h
    · refine ⟨fun pins s σ H Q I ⟨g, ρ, st, Rs, Re, p⟩ => pts_nil.run pins s σ H Q I ?_⟩
      have : evOc G C .no = fun _ st => .ok true st := by funext ρ st; simp only [evOc]
      rw [this] at p
      exact p.now Rs rfl
    · cases h
  | .yes cc, W, sc, ow, X, l, D, h => by
    simp only [mtOc] at h
    split at h
    · have : evOc G C (.yes cc) = evC G C cc := by funext ρ st; simp only [evOc]
      rw [this]
      exact pts_one (sC cc D h)
    · cases h
theorem sC : ∀ (cc : Cd) {W : XK} {sc ow : Scope} {X : Cx} {x : Expr}, Gd c G C W N sc ow X → mtC G N cc sc ow x = true → PT X x (RT c W (evC G C cc))
  | .cmp o a b, W, sc, ow, X, x, D, h => by
    simp only [mtC] at h
    split at h
    · simp only [Bool.and_eq_true, decide_eq_true_eq, Bool.not_eq_true'] at h
      obtain ⟨⟨⟨h1, h2⟩, h3⟩, h4⟩ := h
      subst h1
      have : evC G C (.cmp o a b) = fun ρ st => (evE G C a ρ st).bind fun x st1 => (evE G C b ρ st1).bind fun y st2 => need (cmpSem o x y st2) st2 := by funext ρ st; simp only [evC]
      rw [this]
      exact t_cmp D.K D.units o h2 (sE a D h3) (sE b D h4)
    · cases h
  | .chain o o' a b cc, W, sc, ow, X, x, D, h => by
    simp only [mtC] at h
    split at h
    · simp only [Bool.and_eq_true, decide_eq_true_eq, Bool.not_eq_true'] at h
      obtain ⟨⟨⟨⟨⟨h1, h2⟩, h3⟩, h4⟩, h5⟩, h6⟩ := h
      subst h1 h2
      have : evC G C (.chain o o' a b cc) = fun ρ st => (evE G C a ρ st).bind fun x st1 => (evE G C b ρ st1).bind fun y st2 => (need (cmpSem o x y st2) st2).bind fun k st3 =>
        if k then (evE G C cc ρ st3).bind fun z st4 => need (cmpSem o' y z st4) st4 else .ok false st3 := by funext ρ st; simp only [evC]
      rw [this]
      exact t_chn D.K D.units o o' h3 (sE a D h4) (sE b D h5) (sE cc D h6)
    · cases h
  | .and cs, W, sc, ow, X, x, D, h => by
    simp only [mtC] at h
    split at h
    · have A := sCs cs D h
      cases cs with
      | nil =>
        have : evC G C (.and .nil) = fun _ _ => .bad := by funext ρ st; simp only [evC, evAll]
        rw [this]
        exact badT_imp
      | cons a b =>
        have : evC G C (.and (.cons a b)) = evAll G C (.cons a b) := by funext ρ st; simp only [evC]
        rw [this]
        exact (A.and (fun z => nomatch z)).pt
    · cases h
  | .or cs, W, sc, ow, X, x, D, h => by
    simp only [mtC] at h
    split at h
    · have A := sCs cs D h
      cases cs with
      | nil =>
        have : evC G C (.or .nil) = fun _ _ => .bad := by funext ρ st; simp only [evC, evAny]
        rw [this]
        exact badT_imp
      | cons a b =>
        have : evC G C (.or (.cons a b)) = evAny G C (.cons a b) := by funext ρ st; simp only [evC]
        rw [this]
        exact (A.or (fun z => nomatch z)).pt
    · cases h
  | .not a, W, sc, ow, X, x, D, h => by
    simp only [mtC] at h
    split at h
    · have : evC G C (.not a) = fun ρ st => (evC G C a ρ st).bind fun k st1 => .ok (!k) st1 := by funext ρ st; simp only [evC]
      rw [this]
      exact t_not (sC a D h)
    · cases h
  | .ife cc a b, W, sc, ow, X, x, D, h => by
    simp only [mtC] at h
    split at h
    · simp only [Bool.and_eq_true] at h
      obtain ⟨⟨h1, h2⟩, h3⟩ := h
      have : evC G C (.ife cc a b) = fun ρ st => (evC G C cc ρ st).bind fun k st1 => if k then evC G C a ρ st1 else evC G C b ρ st1 := by funext ρ st; simp only [evC]
      rw [this]
      exact t_ife (sC cc D h1) (sC a D h2) (sC b D h3)
    · cases h
  | .val e, W, sc, ow, X, x, D, h => by
    simp only [mtC, Bool.and_eq_true] at h
    have : evC G C (.val e) = fun ρ st => (evE G C e ρ st).bind fun x st1 => match x with
      | .v (.bl b) => .ok b st1
      | _ => .bad := by funext ρ st; simp only [evC] <;> rfl
    rw [this]
    exact t_val (plainTest_ok h.1) (sE e D h.2)
theorem sCs : ∀ (cs : Cs) {W : XK} {sc ow : Scope} {X : Cx} {l : List Expr}, Gd c G C W N sc ow X → mtCs G N cs sc ow l = true → AllC c G C W X cs l
  | .nil, W, sc, ow, X, l, D, h => by
    simp only [mtCs] at h
    split at h
    · trivial
    · cases h
  | .cons e es, W, sc, ow, X, l, D, h => by
    simp only [mtCs] at h
    split at h
    · simp only [Bool.and_eq_true] at h
      exact ⟨sC e D h.1, sCs es D h.2⟩
    · cases h
theorem sIt : ∀ (it : It) {W : XK} {sc ow : Scope} {X : Cx} {x tg : Expr}, Gd c G C W N sc ow X → mtIt G N it sc ow x tg = true → PI X tg x (RI c W (evIt G C it))
  | .sq e, W, sc, ow, X, x, tg, D, h => by
    simp only [mtIt] at h
    have : evIt G C (.sq e) = fun ρ st => (evE G C e ρ st).bind fun x st1 => need (walkSq x st1) st1 := by funext ρ st; simp only [evIt]
    rw [this]
    exact i_sq D.K (sE e D h)
  | .rng a, W, sc, ow, X, x, tg, D, h => by
    simp only [mtIt] at h
    split at h
    · simp only [Bool.and_eq_true, decide_eq_true_eq] at h
      obtain ⟨⟨⟨h1, h2⟩, h3⟩, h4⟩ := h
      have : evIt G C (.rng a) = fun ρ st => (evE G C a ρ st).bind fun x st1 => match x with
        | .v (.int n) => need (walkRng 0 n) st1
        | _ => .bad := by funext ρ st; simp only [evIt] <;> rfl
      rw [this]
      exact i_rng D h1 h2 h3 (sE a D h4)
    · cases h
  | .rng2 a b, W, sc, ow, X, x, tg, D, h => by
    simp only [mtIt] at h
    split at h
    · simp only [Bool.and_eq_true, decide_eq_true_eq] at h
      obtain ⟨⟨⟨⟨⟨h1, h2⟩, h3⟩, h4⟩, h5⟩, h6⟩ := h
      have : evIt G C (.rng2 a b) = fun ρ st => (evE G C a ρ st).bind fun x st1 => (evE G C b ρ st1).bind fun y st2 => match x, y with
        | .v (.int m), .v (.int n) => need (walkRng m n) st2
        | _, _ => .bad := by funext ρ st; simp only [evIt] <;> rfl
      rw [this]
      exact i_rng2 D h1 h2 h3 h4 (sE a D h5) (sE b D h6)
    · cases h
  | .zip a b, W, sc, ow, X, x, tg, D, h => by
    simp only [mtIt] at h
    split at h
    · simp only [Bool.and_eq_true, decide_eq_true_eq] at h
      obtain ⟨⟨⟨⟨⟨⟨h1, h2⟩, h3⟩, h4⟩, h5⟩, h6⟩, h7⟩ := h
      have : evIt G C (.zip a b) = fun ρ st => (evE G C a ρ st).bind fun x st1 => (evE G C b ρ st1).bind fun y st2 => need (walkZip x y st2) st2 := by funext ρ st; simp only [evIt]
      rw [this]
      cases tg with
      | Tuple => exact i_zip D h1 h2 h3 h4 (sE a D h5) (sE b D h6)
      | _ => exact Bool.noConfusion h7
    · cases h
  | .zip3 a b cc, W, sc, ow, X, x, tg, D, h => by
    simp only [mtIt] at h
    split at h
    · simp only [Bool.and_eq_true, decide_eq_true_eq] at h
      obtain ⟨⟨⟨⟨⟨⟨⟨⟨h1, h2⟩, h3⟩, h4⟩, h5⟩, h6⟩, h7⟩, h8⟩, h9⟩ := h
      have : evIt G C (.zip3 a b cc) = fun ρ st => (evE G C a ρ st).bind fun x st1 => (evE G C b ρ st1).bind fun y st2 => (evE G C cc ρ st2).bind fun z st3 => need (walkZip3 x y z st3) st3 := by funext ρ st; simp only [evIt]
      rw [this]
      cases tg with
      | Tuple => exact i_zip3 D h1 h2 h3 h4 h5 (sE a D h6) (sE b D h7) (sE cc D h8)
      | _ => exact Bool.noConfusion h9
    · cases h
  | .enum a, W, sc, ow, X, x, tg, D, h => by
    simp only [mtIt] at h
    split at h
    · simp only [Bool.and_eq_true, decide_eq_true_eq] at h
      obtain ⟨⟨⟨⟨h1, h2⟩, h3⟩, h4⟩, h5⟩ := h
      have : evIt G C (.enum a) = fun ρ st => (evE G C a ρ st).bind fun x st1 => need (walkEnum x st1) st1 := by funext ρ st; simp only [evIt]
      rw [this]
      cases tg with
      | Tuple => exact i_enum D h1 h2 h3 (sE a D h4)
      | _ => exact Bool.noConfusion h5
    · cases h
end
theorem sLc (el : E) (tg : Tg) (vs : List Nat) (it : It) (oc : Oc) {W : XK} {sc ow : Scope} {X : Cx} {x : Expr} (D : Gd c G C W N sc ow X) (h : mtF G N (.comp el tg vs it oc) sc ow x = true) : LcOk c G C N W X el tg vs it oc x :=
  lc_of (fun D h => sIt it D h) (fun D h => sOc oc D h) (fun D h => sE el D h) D h
end
end Sw

set_option linter.all false
set_option maxRecDepth 100000
set_option maxHeartbeats 4000000
namespace Sw
open PySem L2 PySem.Spec PyProof.Rows
def FlOk (c : Ct) (g : Gh) (st : Store) (H : Hp) (fl : Fl) (D : Ends) (σ : L2.St) : Prop := match fl with
  | .nx => D.nx σ H
  | .rt s => ∀ v, RelS c g st H s v → D.rt v H
  | .bk => D.bk σ H
  | .ct => D.ct σ H
def PostS (c : Ct) (W : XK) (g : Gh) (st : Store) (H : Hp) (r : Res (Env × Fl)) (D : Ends) : Prop := match r with
  | .ok p st' => ∀ σ' H' g', RelSt c g' st' H' → Keeps g st H g' st' H' → RelE c g' st' H' p.1 σ' → FlOk c g' st' H' p.2 D σ'
  | .ex ci fs vs st' => ∀ d H' g', RelSt c g' st' H' → Keeps g st H g' st' H' → ExR c g' st' H' fs vs d → W (.ref (c.cad ci)) d H'
  | .bad => False
def RS (c : Ct) (W : XK) (f : Env → Store → Res (Env × Fl)) : TS := fun D σ H => ∃ g ρ st, RelSt c g st H ∧ RelE c g st H ρ σ ∧ PostS c W g st H (f ρ st) D
section
variable {c : Ct} {W : XK} {g g1 : Gh} {st st1 : Store} {H H1 : Hp} {α β : Type} {ρ : Env} {σ : L2.St} {D : Ends}
theorem PostS.from {r : Res (Env × Fl)} (k : Keeps g st H g1 st1 H1) (p : PostS c W g st H r D) : PostS c W g1 st1 H1 r D := by
  cases r with
  | ok a st' => exact fun σ' H' g' R k' e => p σ' H' g' R (k.trans k') e
  | ex a b d e => exact fun b H' g' R k' m => p b H' g' R (k.trans k') m
  | bad => exact p
theorem RS.bind {M : Gh → Store → Hp → α → β → Prop} {f : Env → Store → Res α} {k : α → Store → Res (Env × Fl)} {Q' : β → Hp → Prop} (Rs : RelSt c g st H) (Re : RelE c g st H ρ σ) (p : PostS c W g st H ((f ρ st).bind k) D)
    (h : ∀ a st1 b H1 g1, RelSt c g1 st1 H1 → RelE c g1 st1 H1 ρ σ → Keeps g st H g1 st1 H1 → M g1 st1 H1 a b → PostS c W g1 st1 H1 (k a st1) D → Q' b H1) : RG c W M f σ H Q' := by
  refine ⟨g, ρ, st, Rs, Re, ?_⟩
  cases e : f ρ st with
  | ok a st' =>
    rw [e] at p
    intro b H' g' R k' m
    exact h a st' b H' g' R (Re.move k') k' m (p.from k')
  | ex a b d e' => rw [e] at p; exact p
  | bad => rw [e] at p; exact p
theorem PostS.now (Rs : RelSt c g st H) (Re : RelE c g st H ρ σ) {fl : Fl} (p : PostS c W g st H (.ok (ρ, fl) st) D) : FlOk c g st H fl D σ := p σ H g Rs (Keeps.refl _ _ _) Re
end
section
variable {X : Cx} {c : Ct} {W : XK} {G : Gt} {C : Nat → List S → Store → Res S} {N : List Str} {sc ow : Scope}
theorem s_pass {pos : Pos} : PS X (.Pass pos) (RS c W fun ρ st => .ok (ρ, .nx) st) := PS_imp ps_pass fun D σ H ⟨g, ρ, st, Rs, Re, p⟩ => p.now Rs Re
theorem s_brk {pos : Pos} : PS X (.Break pos) (RS c W fun ρ st => .ok (ρ, .bk) st) := PS_imp ps_break fun D σ H ⟨g, ρ, st, Rs, Re, p⟩ => p.now Rs Re
theorem s_cont {pos : Pos} : PS X (.Continue pos) (RS c W fun ρ st => .ok (ρ, .ct) st) := PS_imp ps_continue fun D σ H ⟨g, ρ, st, Rs, Re, p⟩ => p.now Rs Re
theorem s_ret {e : Expr} {pos : Pos} {fa : Env → Store → Res S} (ha : PE X e (RD c W fa)) : PS X (.Return (some e) pos) (RS c W fun ρ st => (fa ρ st).bind fun x st1 => .ok (ρ, .rt x) st1) :=
  PS_imp (ps_ret ha) fun D σ H ⟨g, ρ, st, Rs, Re, p⟩ => RS.bind Rs Re p fun x st1 v H1 g1 Rs Re K m p => p.now Rs Re v m
theorem s_retN {pos : Pos} : PS X (.Return none pos) (RS c W fun ρ st => .ok (ρ, .rt (.v .non)) st) := PS_imp ps_retN fun D σ H ⟨g, ρ, st, Rs, Re, p⟩ => p.now Rs Re _ (by simp only [RelS, RelSb, Rp])
theorem s_expr {e : Expr} {pos : Pos} {fa : Env → Store → Res S} (hs : swapsWith e none pos.line X.env = pure false) (ha : PE X e (RD c W fa)) : PS X (.Expr e pos) (RS c W fun ρ st => (fa ρ st).bind fun _ st1 => .ok (ρ, .nx) st1) :=
  PS_imp (ps_expr ha hs) fun D σ H ⟨g, ρ, st, Rs, Re, p⟩ => RS.bind Rs Re p fun x st1 v H1 g1 Rs Re K m p => p.now Rs Re
theorem s_if {t : Expr} {a b : List Stmt} {pos : Pos} {ft : Env → Store → Res Bool} {fa fb : Env → Store → Res (Env × Fl)} (ht : PT X t (RT c W ft)) (ha : PSs X a (RS c W fa)) (hb : PSs X b (RS c W fb)) :
    PS X (.If t a b pos) (RS c W fun ρ st => (ft ρ st).bind fun k st1 => if k then fa ρ st1 else fb ρ st1) :=
  PS_imp (ps_if ht ha hb) fun D σ H ⟨g, ρ, st, Rs, Re, p⟩ => RS.bind Rs Re p fun k st1 b H1 g1 Rs Re K m p => by
    cases m
    cases k with
    | true => rw [if_pos rfl]; exact ⟨g1, ρ, st1, Rs, Re, p⟩
    | false => rw [if_neg Bool.false_ne_true]; exact ⟨g1, ρ, st1, Rs, Re, p⟩
theorem ss_nil : PSs X [] (RS c W fun ρ st => .ok (ρ, .nx) st) := PSs_imp pss_nil fun D σ H ⟨g, ρ, st, Rs, Re, p⟩ => p.now Rs Re
theorem ss_cons {s : Stmt} {r : List Stmt} {fa fb : Env → Store → Res (Env × Fl)} (ha : PS X s (RS c W fa)) (hb : PSs X r (RS c W fb)) :
    PSs X (s :: r) (RS c W fun ρ st => (fa ρ st).bind fun p st1 => match p.2 with
      | .nx => fb p.1 st1
      | _ => .ok p st1) :=
  PSs_imp (pss_cons ha hb) fun D σ H ⟨g, ρ, st, Rs, Re, p⟩ => ⟨g, ρ, st, Rs, Re, by
    dsimp only at p
    cases e : fa ρ st with
    | bad => rw [e] at p; exact p.elim
    | ex a b d e' => rw [e] at p; exact p
    | ok q st1 =>
      rw [e, Res.bind_ok] at p
      intro σ' H' g' R' K' E'
      have p := PostS.from K' p
      cases hf : q.2 with
      | nx =>
        rw [hf] at p
        exact ⟨g', q.1, st1, R', E', p⟩
      | rt s =>
        rw [hf] at p
        have := p σ' H' g' R' (Keeps.refl _ _ _) E'
        rw [hf] at this
        exact this
      | bk =>
        rw [hf] at p
        have := p σ' H' g' R' (Keeps.refl _ _ _) E'
        rw [hf] at this
        exact this
      | ct =>
        rw [hf] at p
        have := p σ' H' g' R' (Keeps.refl _ _ _) E'
        rw [hf] at this
        exact this⟩
theorem s_while {t : Expr} {b : List Stmt} {pos : Pos} {ft : Env → Store → Res Bool} {fb : Env → Store → Res (Env × Fl)} (hp : PassesOwn (model X.prog X.w) X.A X.env X.xe) (ht : PT X t (RT c W ft)) (hb : PSs X b (RS c W fb)) :
    PS X (.While t b [] pos) (RS c W fun ρ st => whileR ft fb ρ st) := by
  refine PS_imp (ps_while hp ht hb) fun D σ H ⟨g0, ρ0, st0, Rs0, Re0, p0⟩ => ?_
  dsimp only at p0
  unfold whileR at p0
  split at p0
  · rename_i hex
    have hr := hex.choose_spec.choose_spec
    refine ⟨fun m σ H1 => ∃ g ρ st, RelSt c g st H1 ∧ RelE c g st H1 ρ σ ∧ Keeps g0 st0 H g st H1 ∧ ∃ r, whileN ft fb m ρ st = some r ∧ PostS c W g0 st0 H r D, ⟨hex.choose, g0, ρ0, st0, Rs0, Re0, Keeps.refl _ _ _, _, hr, p0⟩, ?_⟩
    clear hr p0 hex
    rintro m σ H1 ⟨g, ρ, st, Rs, Re, K, r, hw, p⟩
    cases m with
    | zero => simp [whileN] at hw
    | succ n =>
      simp only [whileN] at hw
      refine ⟨g, ρ, st, Rs, Re, ?_⟩
      cases e1 : ft ρ st with
      | bad => rw [e1] at hw; cases hw; exact p.elim
      | ex a b d e => rw [e1] at hw; cases hw; exact fun d' H' g' R' K' z => p d' H' g' R' (K.trans K') z
      | ok k st1 =>
        rw [e1] at hw
        intro k' H2 g2 Rs2 K2 ek
        cases ek
        cases k with
        | false =>
          rw [if_neg Bool.false_ne_true]
          cases hw
          exact p σ H2 g2 Rs2 (K.trans K2) (Re.move K2)
        | true =>
          rw [if_pos rfl]
          refine ⟨fun σ H1 => ∃ g ρ st, RelSt c g st H1 ∧ RelE c g st H1 ρ σ ∧ Keeps g0 st0 H g st H1 ∧ ∃ r, whileN ft fb n ρ st = some r ∧ PostS c W g0 st0 H r D, fun σ' H' z => ⟨n, Nat.lt_succ_self n, z⟩, g2, ρ, st1, Rs2, Re.move K2, ?_⟩
          dsimp only at hw
          cases e2 : fb ρ st1 with
          | bad => rw [e2] at hw; cases hw; exact p.elim
          | ex a b d e => rw [e2] at hw; cases hw; exact fun d' H' g' R' K' z => p d' H' g' R' ((K.trans K2).trans K') z
          | ok q st2 =>
            rw [e2] at hw
            obtain ⟨ρ2, fl⟩ := q
            intro σ' H' g' R' K' E'
            have KK := (K.trans K2).trans K'
            cases fl with
            | nx => exact ⟨g', ρ2, st2, R', E', KK, r, hw, p⟩
            | ct => exact ⟨g', ρ2, st2, R', E', KK, r, hw, p⟩
            | bk => cases hw; exact p σ' H' g' R' KK E'
            | rt s => cases hw; exact p σ' H' g' R' KK E'
  · exact p0.elim
theorem s_for {tg iter : Expr} {b : List Stmt} {pos : Pos} {t : Tg} {fi : Env → Store → Res Wk} {fb : Env → Store → Res (Env × Fl)} (hp : PassesOwn (model X.prog X.w) X.A X.env X.xe) (hc : X.calm = true) (hs : ∀ x, foldedSetIterable iter X.env x = pure x)
    (hi : PI X tg iter (RI c W fi)) (hg : PG X tg (RGW c t)) (hb : PSs X b (RS c W fb)) : PS X (.For tg iter b [] pos) (RS c W fun ρ st => (fi ρ st).bind fun w st1 => forR w t fb w.rows ρ st1) := by
  refine PS_imp (ps_for hp hc hi hg hb hs) fun D σ H ⟨g, ρ, st, Rs, Re, p⟩ => ?_
  refine RS.bind Rs Re p fun w st0 J H0 g0 Rs0 Re0 K0 m p => ?_
  obtain ⟨srcs, hsr, hst, hsz, wk⟩ := m
  have st_of : ∀ (rows : List (List S)) (ρ : Env) (st : Store), PostS c W g0 st0 H0 (forR w t fb rows ρ st) D → w.stands st := fun rows ρ st p => by
    cases rows with
    | nil => unfold forR at p; split at p; exact ‹w.stands st›; exact p.elim
    | cons row r => unfold forR at p; split at p; exact ‹w.stands st›; exact p.elim
  refine for_it wk (fun i σ H => ∃ g ρ st, RelSt c g st H ∧ RelE c g st H ρ σ ∧ Keeps g0 st0 H0 g st H ∧ PostS c W g0 st0 H0 (forR w t fb (w.rows.drop i) ρ st) D) ?_ ?_ ?_ ?_
  · exact ⟨g0, ρ, st0, Rs0, Re0, Keeps.refl _ _ _, p⟩
  · rintro i σ H _ ⟨g, ρ, st, Rs, Re, K, p⟩
    exact ⟨g, st, Rs, fun q hq => (hsr q hq).move K, st_of _ _ _ p⟩
  · rintro i x σ H H' hi ⟨g, ρ, st, Rs, Re, K, p⟩ y
    have hst2 := st_of _ _ _ p
    have y := y g st Rs (fun q hq => (hsr q hq).move K) hst2 w.rows[i] (List.getElem?_eq_getElem hi)
    rw [List.drop_eq_getElem_cons hi] at p
    unfold forR at p
    rw [if_pos hst2] at p
    generalize w.rows[i] = row at y p
    have rest : ∀ (ρ2 : Env) (H' : Hp) (σ2 : L2.St), w.asg t row ρ = some ρ2 → RelSt c g st H' → Keeps g st H g st H' → RelE c g st H' ρ2 σ2 →
        RS c W fb { D with
          nx := fun σ H => ∃ g ρ st, RelSt c g st H ∧ RelE c g st H ρ σ ∧ Keeps g0 st0 H0 g st H ∧ PostS c W g0 st0 H0 (forR w t fb (w.rows.drop (i + 1)) ρ st) D
          ct := fun σ H => ∃ g ρ st, RelSt c g st H ∧ RelE c g st H ρ σ ∧ Keeps g0 st0 H0 g st H ∧ PostS c W g0 st0 H0 (forR w t fb (w.rows.drop (i + 1)) ρ st) D
          bk := D.nx } σ2 H' := fun ρ2 H' σ2 ea R' K' Re2 => by
      rw [ea] at p
      dsimp only at p
      refine ⟨g, ρ2, st, R', Re2, ?_⟩
      cases e2 : fb ρ2 st with
      | bad => rw [e2] at p; exact p.elim
      | ex a b d e => rw [e2] at p; exact fun d' H2 g2 R2 K2 z => p d' H2 g2 R2 ((K.trans K').trans K2) z
      | ok q st2 =>
        rw [e2, Res.bind_ok] at p
        obtain ⟨ρ3, fl⟩ := q
        intro σ3 H3 g3 R3 K3 E3
        have KK := (K.trans K').trans K3
        cases fl with
        | nx => exact ⟨g3, ρ3, st2, R3, E3, KK, p⟩
        | ct => exact ⟨g3, ρ3, st2, R3, E3, KK, p⟩
        | bk => exact p σ3 H3 g3 R3 KK E3
        | rt s => exact p σ3 H3 g3 R3 KK E3
    cases ea : w.asg t row ρ with
    | none => rw [ea] at p; exact p.elim
    | some ρ2 =>
      cases hk : w.pk with
      | false =>
        rw [hk, if_neg Bool.false_ne_true] at y
        obtain ⟨rfl, y⟩ := y
        have ea0 := ea
        unfold Wk.asg at ea
        rw [hk] at ea
        cases row with
        | nil => simp at ea
        | cons s r =>
          cases r with
          | cons _ _ => simp at ea
          | nil => exact .inl ⟨g, ρ, st, s, ρ2, Rs, Re, y s rfl, by simpa using ea, fun σ2 Re2 sm => rest ρ2 _ σ2 ea0 Rs (Keeps.refl _ _ _) Re2⟩
      | true =>
        rw [hk, if_pos rfl] at y
        obtain ⟨T, ws, rfl, hT, rfl, r⟩ := y
        have ea0 := ea
        unfold Wk.asg at ea
        rw [hk] at ea
        have Kn : Keeps g st H g st (upd H T (.tup ws)) := Keeps.new hT
        have Rn := Rs.new (o := .tup ws) hT
        exact .inr ⟨g, ρ, st, T, ws, row, ρ2, Rn, Re.move Kn, rfl, upd_same, RelL.move Kn r, by simpa using ea, fun σ2 Re2 sm => rest ρ2 _ σ2 ea0 Rn Kn Re2⟩
  · rintro σ H ⟨g, ρ, st, Rs, Re, K, p⟩
    rw [List.drop_length] at p
    unfold forR at p
    split at p
    · exact p σ H g Rs K Re
    · exact p.elim
theorem asg_read {te : TE} {fa : Env → Store → Res S} {t : Tg} (hi : ∀ σ H Q, RD c W fa σ H Q → te σ H Q) {D : Ends} {σ : L2.St} {H : Hp} (h : RS c W (fun ρ st => (fa ρ st).bind fun x st1 => need ((asgT t x ρ).map fun ρ' => (ρ', Fl.nx)) st1) D σ H) :
    tAsg te (RGT c t) D σ H := by
  obtain ⟨g, ρ, st, Rs, Re, p⟩ := h
  refine hi _ _ _ (RS.bind Rs Re p fun x st1 v H1 g1 Rs Re K m p => ?_)
  cases e : asgT t x ρ with
  | none => rw [e] at p; exact p.elim
  | some ρ' =>
    rw [e] at p
    exact ⟨g1, ρ, st1, x, ρ', Rs, Re, m, e, fun σ' E _ => p σ' H1 g1 Rs (Keeps.refl _ _ _) E⟩
theorem name_read {i : Nat} {te : TE} {D : Ends} {σ : L2.St} {H : Hp} (hm : ∀ σ H Q Q', (∀ v H, Q v H → Q' v H) → te σ H Q → te σ H Q') (h : tAsg te (RGT c (.one i)) D σ H) : tAsg te (gName i) D σ H :=
  hm _ _ _ _ (fun v H1 ⟨g, ρ, st, s, ρ', Rs, Re, r, e, k⟩ => by
    simp only [asgT] at e
    split at e
    · cases e
      exact k _ (Re.set r) fun is h => wipe_set (h i (by simp [Tg.ixs]))
    · cases e) h
theorem s_asg {tg e : Expr} {pos : Pos} {t : Tg} {fa : Env → Store → Res S} (hs : swapsWithSole [tg] e pos.line X.env = pure false) (hw : swappedStores [tg] e X.env = pure none) (h1 : nstar tg = true) (hg : PG X tg (RGT c t)) (ha : PE X e (RD c W fa)) :
    PS X (.Assign [tg] e pos) (RS c W fun ρ st => (fa ρ st).bind fun x st1 => need ((asgT t x ρ).map fun ρ' => (ρ', Fl.nx)) st1) :=
  PS_imp (ps_asg ha hg hs hw (by rw [asg_cons h1]; rfl)) fun D σ H h => asg_read (fun _ _ _ z => z) h
end
end Sw

set_option linter.all false
set_option maxRecDepth 100000
set_option maxHeartbeats 4000000
namespace Sw
open PySem L2 PySem.Spec PyProof.Rows
def isFnK (sc : Scope) : Bool := match sc.kind with
  | .function => true
  | _ => false
theorem blockFn {env : PySem.Env} (h : isFnK env.scope = true) : env.blockKind = .function ∧ env.scope.kind = .function := by
  unfold isFnK at h
  split at h
  · rename_i e
    refine ⟨?_, e⟩
    unfold PySem.Env.blockKind
    rw [e]
    rfl
  · cases h
def isLoc (sc : Scope) (x : Str) : Bool := sc.names.lookup x == some .local
theorem isLoc_ok {sc : Scope} {x : Str} (h : isLoc sc x = true) : sc.names.lookup x = some .local := eq_of_beq h
def swB (sc : Scope) (y : Str) (py : Pos) : Expr → Bool
  | .ListComp _ _ scope p | .SetComp _ _ scope p | .DictComp _ _ _ scope p => isLoc sc y && py.line == p.line && !(scope.names.any fun (n, k) => n == y && (k == .local || k == .cell))
  | _ => false
theorem swB_ok {env : PySem.Env} {y : Str} {py : Pos} {e : Expr} {l : Nat} (h : isFnK env.scope = true) : swapsWith e (some (.Name y py)) l env = pure (swB env.scope y py e) := by
  obtain ⟨h1, h2⟩ := blockFn h
  cases e <;> first
    | rfl
    | (unfold swapsWith swB isLoc
       simp only [h1, Expr.pos]
       rfl)
theorem sw_other {env : PySem.Env} {tg e : Expr} {l : Nat} (h : (match tg with | .Name _ _ => false | _ => true) = true) : swapsWithSole [tg] e l env = pure false := by
  unfold swapsWithSole swapsWith
  cases e <;> first
    | rfl
    | (cases tg <;> first | rfl | exact Bool.noConfusion h)
def isComp : Expr → Bool
  | .ListComp _ _ _ _ | .SetComp _ _ _ _ | .DictComp _ _ _ _ _ => true
  | _ => false
theorem sw_none {env : PySem.Env} {e : Expr} {l : Nat} {t : Option Expr} (h : isComp e = false) : swapsWith e t l env = pure false := by
  cases e <;> first | rfl | exact Bool.noConfusion h
def parNames (sc : Scope) (ts : List Expr) : List Str := ts.filterMap fun
  | .Name id pos => if sc.names.lookup id == some .local && pos.line == (ts.head?.map (·.pos.line)).getD 0 then some id else none
  | _ => none
def swS (sc : Scope) (ts vs : List Expr) : Option (Option (List Str)) :=
  if !(ts.length == 2 || ts.length == 3) || vs.length != ts.length then some none
  else if vs.any fun | .Starred .. => true | _ => false then some none
  else if (parNames sc ts).length != ts.length || (parNames sc ts).eraseDups.length != (parNames sc ts).length then some none
  else if vs.all (foldedForSure 8) then some none
  else if vs.all (constantsAlone 8) then none
  else some (some (parNames sc ts))
theorem swS_ok {env : PySem.Env} {ts vs : List Expr} {k k2 : Nat} {p p2 : Pos} {r : Option (List Str)} (h : isFnK env.scope = true) (e : swS env.scope ts vs = some r) : swappedStores [.Tuple ts k p] (.Tuple vs k2 p2) env = pure r := by
  obtain ⟨h1, h2⟩ := blockFn h
  unfold swS at e
  unfold swappedStores
  simp only [h1]
  have e0 : (ScopeKind.function != ScopeKind.function) = false := rfl
  rw [e0, Bool.or_false]
  split at e
  · rename_i c1
    cases e
    exact if_pos c1
  · rename_i c1
    refine (if_neg c1).trans ?_
    split at e
    · rename_i c2
      cases e
      exact if_pos c2
    · rename_i c2
      refine (if_neg c2).trans ?_
      split at e
      · rename_i c3
        cases e
        exact if_pos c3
      · rename_i c3
        refine (if_neg c3).trans ?_
        split at e
        · rename_i c4
          cases e
          exact if_pos c4
        · rename_i c4
          refine (if_neg c4).trans ?_
          split at e
          · cases e
          · rename_i c5
            cases e
            exact (if_neg c5).trans rfl
theorem swS_not {env : PySem.Env} {tg e : Expr} (h : (match tg, e with | .Tuple _ _ _, .Tuple _ _ _ => false | .List _ _, .Tuple _ _ _ => false | _, _ => true) = true) : swappedStores [tg] e env = pure none := by
  unfold swappedStores
  cases tg <;> first
    | rfl
    | (cases e <;> first | rfl | exact Bool.noConfusion h)
def parIx (N : List Str) : List Nat → List Expr → Bool
  | [], [] => true
  | i :: is, .Name x _ :: ts => decide (N[i]? = some x) && parIx N is ts
  | _, _ => false
section
variable (G : Gt) (N : List Str) (lm : Bool)
mutual
def mtS : St → Scope → Stmt → Bool
  | .asg t e, sc, X => (match X with
    | .Assign [tg] x _ => (match tg with
      | .Name y py => (match t with
        | .one i => decide (N[i]? = some y) && isL sc y && (if swB sc y py x then (match e with
          | .fr (.comp el tg vs it oc) => mtF G N (.comp el tg vs it oc) sc (owF lm sc) x && isLoc sc y
          | .al (.comp el tg vs it oc) => mtF G N (.comp el tg vs it oc) sc (owF lm sc) x && isLoc sc y
          | _ => false) else mtE G N e sc (owF lm sc) x)
        | _ => false)
      | .Tuple ts k p => mtT N (owF lm sc) t (.Tuple ts k p) && mtE G N e sc (owF lm sc) x && (match x with
        | .Tuple vs _ _ => (match swS sc ts vs with
          | some none => true
          | _ => false)
        | _ => true)
      | _ => false)
    | _ => false)
  | .par is es, sc, X => (match X with
    | .Assign [.Tuple ts _ _] (.Tuple vs _ _) _ => parIx N is ts && decide (swS sc ts vs = some (some (parNames sc ts))) && decide is.Nodup && mtEs G N es sc (owF lm sc) vs && vs.all nstar && (parNames sc ts).all (isLoc sc) && decide (parNames sc ts = is.map fun i => N.getD i "")
    | _ => false)
  | .setix o i e, sc, X => (match X with
    | .Assign [.Subscript ob ix _] x _ => isIx ix && mtE G N o sc (owF lm sc) ob && mtE G N i sc (owF lm sc) ix && mtE G N e sc (owF lm sc) x
    | _ => false)
  | .expr e, sc, X => (match X with
    | .Expr x _ => !isComp x && mtE G N e sc (owF lm sc) x
    | _ => false)
  | .ret e, sc, X => (match X with
    | .Return (some x) _ => mtE G N e sc (owF lm sc) x
    | _ => false)
  | .retN, _, X => (match X with
    | .Return none _ => true
    | _ => false)
  | .ite c a b, sc, X => (match X with
    | .If t x y _ => mtC G N c sc (owF lm sc) t && mtSs a sc x && mtSs b sc y
    | _ => false)
  | .for_ t it b, sc, X => (match X with
    | .For tg iter body [] _ => mtIt G N it sc (owF lm sc) iter tg && mtT N (owF lm sc) t tg && notSet iter && mtSs b sc body
    | _ => false)
  | .whl c b, sc, X => (match X with
    | .While t body [] _ => mtC G N c sc (owF lm sc) t && mtSs b sc body
    | _ => false)
  | .pass, _, X => (match X with
    | .Pass _ => true
    | _ => false)
  | .brk, _, X => (match X with
    | .Break _ => true
    | _ => false)
  | .cont, _, X => (match X with
    | .Continue _ => true
    | _ => false)
  | .rais, _, _ => true
  | .thr ci f es, sc, X => (match f with
    | none => (match X with
      | .Raise (some (.Call (.Name z _) [y] [] _)) none _ => decide (ci ∈ G.rz) && decide (G.ks[ci]? = some z) && isG sc z && nodb z && nstar y && mtEs G N es sc (owF lm sc) [y]
      | _ => false)
    | some _ => false)
def mtSs : Ss → Scope → List Stmt → Bool
  | .nil, _, X => (match X with
    | [] => true
    | _ => false)
  | .cons s r, sc, X => (match X with
    | x :: l => mtS s sc x && mtSs r sc l
    | _ => false)
end
end
section
variable {X : Cx} {c : Ct} {W : XK} {G : Gt} {C : Nat → List S → Store → Res S} {N : List Str} {sc : Scope}
theorem set_read {i : Nat} {te : TE} {fa : Env → Store → Res S} (hi : ∀ σ H Q, RD c W fa σ H Q → te σ H Q) {D : Ends} {σ : L2.St} {H : Hp} (h : RS c W (fun ρ st => (fa ρ st).bind fun x st1 => need ((asgT (.one i) x ρ).map fun ρ' => (ρ', Fl.nx)) st1) D σ H) :
    tAsg te (gName i) D σ H := by
  obtain ⟨g, ρ, st, Rs, Re, p⟩ := h
  refine hi _ _ _ (RS.bind Rs Re p fun x st1 v H1 g1 Rs Re K m p => ?_)
  cases e : asgT (.one i) x ρ with
  | none => rw [e] at p; exact p.elim
  | some ρ' =>
    rw [e] at p
    simp only [asgT] at e
    split at e
    · cases e
      exact p _ H1 g1 Rs (Keeps.refl _ _ _) (Re.set m)
    · cases e
theorem fr_read {f : Env → Store → Res (List S)} {σ : L2.St} {H : Hp} {Q : VK} (h : RD c W (fun ρ st => (f ρ st).bind fun xs st1 => need ((allV xs).map fun ds => S.v (.lst ds)) st1) σ H Q) : RF c W f σ H Q := by
  obtain ⟨g, ρ, st, Rs, Re, p⟩ := h
  refine RG.bind Rs Re p fun xs st1 vs H1 g1 Rs Re K m p q hq => ?_
  cases e2 : allV xs with
  | none => rw [e2] at p; exact p.elim
  | some ds =>
    rw [e2] at p
    exact PostG.new (o := .lst vs) Rs hq p (Rp.newLst Rs hq (RelLb.toV e2 m))
theorem al_read {f : Env → Store → Res (List S)} {σ : L2.St} {H : Hp} {Q : VK} (h : RD c W (fun ρ st => (f ρ st).bind fun xs st1 => .ok (.r st1.length) (st1 ++ [some (.lst xs)])) σ H Q) : RF c W f σ H Q := by
  obtain ⟨g, ρ, st, Rs, Re, p⟩ := h
  refine RG.bind Rs Re p fun xs st' vs H' g' R' Re K' m p q hq => ?_
  obtain ⟨R2, K2⟩ := R'.alloc (o := .lst xs) (h := .lst vs) hq ⟨vs, rfl, m⟩
  refine p (.ref q) _ _ R2 K2 ⟨?_, by simp⟩
  show V.ref q = V.ref (if st'.length = st'.length then q else _)
  rw [if_pos rfl]
theorem sub_assign {o i : Expr} {pos : Pos} {env : PySem.Env} (h : isIx i = true) (v : Value) : assign (.Subscript o i pos) env v = (do
      let ov ← holding [v] (eval o env)
      let iv ← holding [v, ov] (eval i env)
      standAt pos
      holding [v, ov, iv] (setItem ov iv v)
      release [v, ov, iv] []) := by
  cases i <;> first | rfl | exact Bool.noConfusion h
theorem s_setix {o i e : Expr} {tpos pos : Pos} {fo fi fe : Env → Store → Res S} (hu : X.A.units + 1 < cLine) (hx : isIx i = true) (ho : PE X o (RD c W fo)) (hi : PE X i (RD c W fi)) (he : PE X e (RD c W fe)) :
    PS X (.Assign [.Subscript o i tpos] e pos) (RS c W fun ρ st => (fe ρ st).bind fun x st1 => (fo ρ st1).bind fun y st2 => (fi ρ st2).bind fun z st3 => (setSem y z x st3).bind fun _ st4 => .ok (ρ, .nx) st4) := by
  refine PS_imp (ps_asg he (pg_sub ho hi (o_set (W := W) (c := c) hu) (sub_assign hx)) (sw_other rfl) (swS_not (by cases e <;> rfl)) rfl) fun D σ H ⟨g, ρ, st, Rs, Re, p⟩ => ?_
  refine RS.bind Rs Re p fun x st1 v H1 g1 Rs1 Re1 K1 m1 p => ?_
  refine RS.bind Rs1 Re1 p fun y st2 u H2 g2 Rs2 Re2 K2 m2 p => ?_
  refine RS.bind Rs2 Re2 p fun z st3 w H3 g3 Rs3 Re3 K3 m3 p => ?_
  refine ⟨g3, st3, y, z, x, Rs3, m2.move K3, m3, (m1.move K2).move K3, ?_⟩
  cases e1 : setSem y z x st3 with
  | bad => rw [e1] at p; exact p.elim
  | ex a b d e => rw [e1] at p; exact p
  | ok q st4 =>
    rw [e1, Res.bind_ok] at p
    intro b H4 g4 R4 K4 _
    exact p σ H4 g4 R4 K4 (Re3.move K4)
theorem PS.ext {s : Stmt} {f f' : Env → Store → Res (Env × Fl)} (h : PS X s (RS c W f)) (e : f' = f) : PS X s (RS c W f') := e ▸ h
theorem setAll2 {i j : Nat} {x y : S} {ρ ρ' : Env} (h : setAll [i, j] [x, y] ρ = some ρ') : ρ' = (ρ.set i (some x)).set j (some y) := by
  simp only [setAll] at h
  split at h
  · split at h
    · cases h; rfl
    · cases h
  · cases h
theorem setAll3 {i j k : Nat} {x y z : S} {ρ ρ' : Env} (h : setAll [i, j, k] [x, y, z] ρ = some ρ') : ρ' = ((ρ.set i (some x)).set j (some y)).set k (some z) := by
  simp only [setAll] at h
  split at h
  · split at h
    · split at h
      · cases h; rfl
      · cases h
    · cases h
  · cases h
theorem s_par2 {i j : Nat} {x y : Str} {a b : Expr} {px py pt p2 pos : Pos} {kt k2 : Nat} {fs : Env → Store → Res (List S)} (D : Gd c G C W N sc ow X) (hk : isFnK X.env.scope = true) (hi : X.N[i]? = some x) (hj : X.N[j]? = some y) (hij : i ≠ j)
    (hx : isLoc sc x = true) (hy : isLoc sc y = true) (hn : parNames sc [.Name x px, .Name y py] = [x, y]) (hw : swS sc [.Name x px, .Name y py] [a, b] = some (some (parNames sc [.Name x px, .Name y py]))) (hl : ∀ ρ st xs st', fs ρ st = .ok xs st' → xs.length = 2) (ha : PA X [a, b] (RA c W fs)) :
    PS X (.Assign [.Tuple [.Name x px, .Name y py] kt pt] (.Tuple [a, b] k2 p2) pos) (RS c W fun ρ st => (fs ρ st).bind fun xs st1 => need ((setAll [i, j] xs ρ).map fun ρ' => (ρ', Fl.nx)) st1) := by
  rw [hn] at hw
  refine PS_imp (ps_par D.calm D.nd hi hj hij (by rw [D.sc]; exact isLoc_ok hx) (by rw [D.sc]; exact isLoc_ok hy) ha (swS_ok hk (by rw [D.sc]; exact hw)) (sw_other rfl)) fun E σ H ⟨g, ρ, st, Rs, Re, p⟩ => ?_
  refine RS.bind Rs Re p fun xs st1 vs H1 g1 Rs1 Re1 K1 m p => ?_
  cases e : setAll [i, j] xs ρ with
  | none => rw [e] at p; exact p.elim
  | some ρ' =>
    rw [e] at p
    match xs, vs, m with
    | [s, t], [v, w], m =>
      have e := setAll2 e
      subst e
      exact ⟨v, w, rfl, p _ H1 g1 Rs1 (Keeps.refl _ _ _) ((Re1.set m.1).set m.2.1)⟩
    | [], _, _ => simp [setAll] at e
    | [_], _, _ => simp only [setAll] at e; split at e <;> cases e
    | _ :: _ :: _ :: _, _, _ =>
      simp only [setAll] at e
      split at e
      · split at e <;> cases e
      · cases e
theorem s_par3 {i j l : Nat} {x y z : Str} {a b d : Expr} {px py pz pt p2 pos : Pos} {kt k2 : Nat} {fs : Env → Store → Res (List S)} (D : Gd c G C W N sc ow X) (hk : isFnK X.env.scope = true) (hi : X.N[i]? = some x) (hj : X.N[j]? = some y) (hl : X.N[l]? = some z) (hij : i ≠ j) (hil : i ≠ l) (hjl : j ≠ l)
    (hx : isLoc sc x = true) (hy : isLoc sc y = true) (hz : isLoc sc z = true) (hn : parNames sc [.Name x px, .Name y py, .Name z pz] = [x, y, z]) (hw : swS sc [.Name x px, .Name y py, .Name z pz] [a, b, d] = some (some (parNames sc [.Name x px, .Name y py, .Name z pz]))) (ha : PA X [a, b, d] (RA c W fs)) :
    PS X (.Assign [.Tuple [.Name x px, .Name y py, .Name z pz] kt pt] (.Tuple [a, b, d] k2 p2) pos) (RS c W fun ρ st => (fs ρ st).bind fun xs st1 => need ((setAll [i, j, l] xs ρ).map fun ρ' => (ρ', Fl.nx)) st1) := by
  rw [hn] at hw
  refine PS_imp (ps_par3 D.calm D.nd hi hj hl hij hil hjl (by rw [D.sc]; exact isLoc_ok hx) (by rw [D.sc]; exact isLoc_ok hy) (by rw [D.sc]; exact isLoc_ok hz) ha (swS_ok hk (by rw [D.sc]; exact hw)) (sw_other rfl)) fun E σ H ⟨g, ρ, st, Rs, Re, p⟩ => ?_
  refine RS.bind Rs Re p fun xs st1 vs H1 g1 Rs1 Re1 K1 m p => ?_
  cases e : setAll [i, j, l] xs ρ with
  | none => rw [e] at p; exact p.elim
  | some ρ' =>
    rw [e] at p
    match xs, vs, m with
    | [s, t, r], [v, w, u], m =>
      have e := setAll3 e
      subst e
      exact ⟨v, w, u, rfl, p _ H1 g1 Rs1 (Keeps.refl _ _ _) (((Re1.set m.1).set m.2.1).set m.2.2.1)⟩
    | [], _, _ => simp [setAll] at e
    | [_], _, _ => simp only [setAll] at e; split at e <;> cases e
    | [_, _], _, _ =>
      simp only [setAll] at e
      split at e
      · split at e <;> cases e
      · cases e
    | _ :: _ :: _ :: _ :: _, _, _ =>
      simp only [setAll] at e
      split at e
      · split at e
        · split at e <;> cases e
        · cases e
      · cases e
theorem par_shape {is : List Nat} {ts : List Expr} (h : parIx N is ts = true) : is.length = ts.length := by
  induction is generalizing ts with
  | nil => cases ts with
    | nil => rfl
    | cons t ts => simp [parIx] at h
  | cons i is ih => cases ts with
    | nil => simp [parIx] at h
    | cons t ts =>
      cases t with
      | Name x q =>
        simp only [parIx, Bool.and_eq_true] at h
        exact congrArg (· + 1) (ih h.2)
      | _ => simp [parIx] at h
theorem swS_len {ts vs : List Expr} {ns : List Str} (h : swS sc ts vs = some (some ns)) : (ts.length = 2 ∨ ts.length = 3) ∧ vs.length = ts.length := by
  unfold swS at h
  split at h
  · cases h
  · rename_i c1
    by_cases h2 : ts.length = 2
    · refine ⟨.inl h2, ?_⟩
      by_cases h3 : vs.length = ts.length
      · exact h3
      · exfalso
        apply c1
        simp [h3]
    · by_cases h4 : ts.length = 3
      · refine ⟨.inr h4, ?_⟩
        by_cases h3 : vs.length = ts.length
        · exact h3
        · exfalso
          apply c1
          simp [h3]
      · exfalso
        apply c1
        simp [h2, h4]
end
end Sw

set_option linter.all false
set_option maxRecDepth 100000
set_option maxHeartbeats 4000000
namespace Sw
open PySem L2 PySem.Spec PyProof.Rows
section
variable {c : Ct} {W : XK} {G : Gt} {C : Nat → List S → Store → Res S} {N : List Str} {lm : Bool}
structure Gs (c : Ct) (G : Gt) (C : Nat → List S → Store → Res S) (W : XK) (N : List Str) (lm : Bool) (sc : Scope) (X : Cx) : Prop extends Gd c G C W N sc (owF lm sc) X where
  own : PassesOwn (model X.prog X.w) X.A X.env X.xe
  fnk : isFnK X.env.scope = true
theorem parIx_cons {is : List Nat} {t : Expr} {ts : List Expr} (h : parIx N is (t :: ts) = true) : ∃ i is' x q, is = i :: is' ∧ t = .Name x q ∧ N[i]? = some x ∧ parIx N is' ts = true := by
  cases is with
  | nil => simp [parIx] at h
  | cons i is =>
    cases t with
    | Name x q =>
      simp only [parIx, Bool.and_eq_true, decide_eq_true_eq] at h
      exact ⟨i, is, x, q, rfl, rfl, h.1, h.2⟩
    | _ => simp [parIx] at h
theorem parIx_nil {is : List Nat} (h : parIx N is [] = true) : is = [] := by
  cases is with
  | nil => rfl
  | cons _ _ => simp [parIx] at h
theorem getD_of {i : Nat} {x : Str} (h : N[i]? = some x) : N.getD i "" = x := by rw [List.getD_eq_getElem?_getD, h]; rfl
theorem s_par {X : Cx} {sc : Scope} {is : List Nat} {es : Es} {ts vs : List Expr} {kt k2 : Nat} {pt p2 pos : Pos} (D : Gs c G C W N lm sc X) (h1 : parIx N is ts = true) (h2 : swS sc ts vs = some (some (parNames sc ts))) (h3 : is.Nodup) (h4 : mtEs G N es sc (owF lm sc) vs = true) (h5 : vs.all nstar = true) (h6 : (parNames sc ts).all (isLoc sc) = true) (h7 : parNames sc ts = is.map fun i => N.getD i "") :
    PS X (.Assign [.Tuple ts kt pt] (.Tuple vs k2 p2) pos) (RS c W (exS G C (.par is es))) := by
  have hk : isFnK X.env.scope = true := D.fnk
  have hex : exS G C (.par is es) = fun ρ st => (evEs G C es ρ st).bind fun xs st1 => need ((setAll is xs ρ).map fun ρ' => (ρ', Fl.nx)) st1 := by funext ρ st; simp only [exS]
  rw [hex]
  obtain ⟨l1, l2⟩ := swS_len h2
  have hpa : PA X vs (RA c W (evEs G C es)) := (sEs es D.toGd h4).pa h5
  have hlen : ∀ ρ st xs st', evEs G C es ρ st = .ok xs st' → xs.length = vs.length := fun ρ st xs st' e => (evEs_len e).trans (mtEs_len h4).symm
  rcases l1 with l1 | l1
  · obtain ⟨t1, ts1, rfl⟩ := List.exists_cons_of_ne_nil (l := ts) (by rintro rfl; simp at l1)
    obtain ⟨i, is1, x, px, rfl, rfl, e1, h1⟩ := parIx_cons h1
    obtain ⟨t2, ts2, rfl⟩ := List.exists_cons_of_ne_nil (l := ts1) (by rintro rfl; simp at l1)
    obtain ⟨j, is2, y, py, rfl, rfl, e2, h1⟩ := parIx_cons h1
    have z : ts2 = [] := by cases ts2 with
      | nil => rfl
      | cons _ _ => simp at l1
    subst z
    have z := parIx_nil h1
    subst z
    match vs, l2, hpa, hlen, h2 with
    | [a, b], _, hpa, hlen, h2 =>
      simp only [List.map_cons, List.map_nil, getD_of e1, getD_of e2] at h7
      rw [h7] at h6
      simp only [List.all_cons, List.all_nil, Bool.and_true, Bool.and_eq_true] at h6
      exact s_par2 D.toGd hk (by rw [D.N]; exact e1) (by rw [D.N]; exact e2) (by intro z; subst z; simp at h3) h6.1 h6.2 h7 h2 hlen hpa
  · obtain ⟨t1, ts1, rfl⟩ := List.exists_cons_of_ne_nil (l := ts) (by rintro rfl; simp at l1)
    obtain ⟨i, is1, x, px, rfl, rfl, e1, h1⟩ := parIx_cons h1
    obtain ⟨t2, ts2, rfl⟩ := List.exists_cons_of_ne_nil (l := ts1) (by rintro rfl; simp at l1)
    obtain ⟨j, is2, y, py, rfl, rfl, e2, h1⟩ := parIx_cons h1
    obtain ⟨t3, ts3, rfl⟩ := List.exists_cons_of_ne_nil (l := ts2) (by rintro rfl; simp at l1)
    obtain ⟨k, is3, z, pz, rfl, rfl, e3, h1⟩ := parIx_cons h1
    have q : ts3 = [] := by cases ts3 with
      | nil => rfl
      | cons _ _ => simp at l1
    subst q
    have q := parIx_nil h1
    subst q
    match vs, l2, hpa, hlen, h2 with
    | [a, b, d], _, hpa, hlen, h2 =>
      simp only [List.map_cons, List.map_nil, getD_of e1, getD_of e2, getD_of e3] at h7
      rw [h7] at h6
      simp only [List.all_cons, List.all_nil, Bool.and_true, Bool.and_eq_true] at h6
      simp only [List.nodup_cons, List.mem_cons, List.not_mem_nil, or_false, not_or] at h3
      exact s_par3 D.toGd hk (by rw [D.N]; exact e1) (by rw [D.N]; exact e2) (by rw [D.N]; exact e3) h3.1.1 h3.1.2 h3.2.1 h6.1 h6.2.1 h6.2.2 h7 h2 hpa
theorem s_name {X : Cx} {sc : Scope} {i : Nat} {y : Str} {py pos : Pos} {e : E} {x : Expr} (D : Gs c G C W N lm sc X) (h1 : N[i]? = some y) (h2 : isL sc y = true)
    (h3 : (if swB sc y py x then (match e with
          | .fr (.comp el tg vs it oc) => mtF G N (.comp el tg vs it oc) sc (owF lm sc) x && isLoc sc y
          | .al (.comp el tg vs it oc) => mtF G N (.comp el tg vs it oc) sc (owF lm sc) x && isLoc sc y
          | _ => false) else mtE G N e sc (owF lm sc) x) = true) : PS X (.Assign [.Name y py] x pos) (RS c W (exS G C (.asg (.one i) e))) := by
  have hk : isFnK X.env.scope = true := D.fnk
  have hex : exS G C (.asg (.one i) e) = fun ρ st => (evE G C e ρ st).bind fun x st1 => need ((asgT (.one i) x ρ).map fun ρ' => (ρ', Fl.nx)) st1 := by funext ρ st; simp only [exS]
  rw [hex]
  obtain ⟨s1, s2⟩ := D.sto y h2
  have hi : X.N[i]? = some y := by rw [D.N]; exact h1
  have sw := swB_ok (y := y) (py := py) (e := x) (l := pos.line) hk
  rw [D.sc] at sw
  split at h3
  · rename_i hsw
    rw [hsw] at sw
    split at h3
    · rename_i el tg vs it oc
      simp only [Bool.and_eq_true] at h3
      obtain ⟨elt, t, iter, ifs, scope, lpos, wi, g, tt, te, rfl, q1, q2, q3, q4, q5, q6, q7⟩ := (sLc el tg vs it oc D.toGd h3.1).ex
      refine PS_imp (ps_setLc D.calm D.nd hi (by rw [D.sc]; exact isLoc_ok h3.2) sw q1 q2 q3 q4 q5 q6) fun E σ H h => ?_
      refine set_read (fun σ H Q z => q7 σ H Q (fr_read ?_)) h
      have e2 : evE G C (.fr (.comp el tg vs it oc)) = fun ρ st => (evFr G C (.comp el tg vs it oc) ρ st).bind fun xs st1 => need ((allV xs).map fun ds => S.v (.lst ds)) st1 := by funext ρ st; simp only [evE]
      rw [← e2]
      exact z
    · rename_i el tg vs it oc
      simp only [Bool.and_eq_true] at h3
      obtain ⟨elt, t, iter, ifs, scope, lpos, wi, g, tt, te, rfl, q1, q2, q3, q4, q5, q6, q7⟩ := (sLc el tg vs it oc D.toGd h3.1).ex
      refine PS_imp (ps_setLc D.calm D.nd hi (by rw [D.sc]; exact isLoc_ok h3.2) sw q1 q2 q3 q4 q5 q6) fun E σ H h => ?_
      refine set_read (fun σ H Q z => q7 σ H Q (al_read ?_)) h
      have e2 : evE G C (.al (.comp el tg vs it oc)) = fun ρ st => (evFr G C (.comp el tg vs it oc) ρ st).bind fun xs st1 => .ok (.r st1.length) (st1 ++ [some (.lst xs)]) := by funext ρ st; simp only [evE]
      rw [← e2]
      exact z
    · cases h3
  · rename_i hsw
    rw [Bool.eq_false_iff.mpr hsw] at sw
    exact PS_imp (ps_set D.nd hi s1 (sE e D.toGd h3) sw s2) fun E σ H h => set_read (fun _ _ _ z => z) h
theorem s_thr {X : Cx} {sc : Scope} {ci : Nat} {es : Es} {z : Str} {y : Expr} {q p1 p2 : Pos} (D : Gs c G C W N lm sc X) (h1 : ci ∈ G.rz) (h2 : G.ks[ci]? = some z) (h3 : isG sc z = true) (h4 : nodb z = true) (h5 : nstar y = true) (A : AllE c G C W X es [y]) :
    PS X (.Raise (some (.Call (.Name z q) [y] [] p1)) none p2) (RS c W (exS G C (.thr ci none es))) := by
  match es, A with
  | .nil, A => exact A.elim
  | .cons _ (.cons _ _), A => exact A.2.elim
  | .cons e .nil, A =>
    obtain ⟨r1, r2, r3, r4⟩ := D.exm.rs ci h1
    obtain ⟨m1, _⟩ := D.exm.is_ ci z h2
    have e1 : exS G C (.thr ci none (.cons e .nil)) = fun ρ st => (evE G C e ρ st).bind fun x st1 => match x with
      | .v _ => .ex ci [] [] st1
      | _ => .bad := by
      funext ρ st
      simp only [exS, evEs]
      cases evE G C e ρ st with
      | ok x st1 => cases x <;> rfl
      | ex _ _ _ _ => rfl
      | bad => rfl
    rw [e1]
    refine PS_imp (ps_raise (W := fun cls d _ H => W cls d H) D.calm D.tk (SkE.pmk_own1 PySem.F.excBase_ValueError r1 m1 r2 (raises_own r3 r4) (D.gl h3) A.1 (star_cons h5) (nodb_ok h4).1)) fun E σ H ⟨g, ρ, st, Rs, Re, p⟩ => ?_
    refine RS.bind Rs Re p fun x st1 v H1 g1 Rs1 Re1 K1 m p => ?_
    cases x with
    | v d => exact p none H1 g1 Rs1 (Keeps.refl _ _ _) rfl
    | r n => exact p.elim
mutual
theorem sS : ∀ (s : St) {sc : Scope} {X : Cx} {x : Stmt}, Gs c G C W N lm sc X → mtS G N lm s sc x = true → PS X x (RS c W (exS G C s))
  | .asg t e, sc, X, x, D, h => by
    simp only [mtS] at h
    split at h
    · split at h
      · split at h
        · simp only [Bool.and_eq_true, decide_eq_true_eq] at h
          exact s_name D h.1.1 h.1.2 h.2
        · cases h
      · simp only [Bool.and_eq_true] at h
        obtain ⟨⟨h1, h2⟩, h3⟩ := h
        have hex : exS G C (.asg t e) = fun ρ st => (evE G C e ρ st).bind fun x st1 => need ((asgT t x ρ).map fun ρ' => (ρ', Fl.nx)) st1 := by funext ρ st; simp only [exS]
        rw [hex]
        refine s_asg (sw_other rfl) ?_ rfl (g_T D.toGd h1) (sE e D.toGd h2)
        split at h3
        · split at h3
          · rename_i e1
            exact swS_ok D.fnk (by rw [D.sc]; exact e1)
          · cases h3
        · rename_i hnt
          refine swS_not ?_
          rename_i x' _ _ _ _ _
          split
          · rename_i q _ _ _ _; cases q; exact absurd rfl (hnt _ _ _)
          · rename_i q; cases q
          · rfl
      · cases h
    · cases h
  | .par is es, sc, X, x, D, h => by
    simp only [mtS] at h
    split at h
    · simp only [Bool.and_eq_true, decide_eq_true_eq] at h
      obtain ⟨⟨⟨⟨⟨⟨h1, h2⟩, h3⟩, h4⟩, h5⟩, h6⟩, h7⟩ := h
      exact s_par D h1 h2 h3 h4 h5 h6 h7
    · cases h
  | .setix o i e, sc, X, x, D, h => by
    simp only [mtS] at h
    split at h
    · simp only [Bool.and_eq_true] at h
      obtain ⟨⟨⟨h1, h2⟩, h3⟩, h4⟩ := h
      exact PS.ext (s_setix (by have := D.units; omega) h1 (sE o D.toGd h2) (sE i D.toGd h3) (sE e D.toGd h4)) (by funext ρ st; simp only [exS])
    · cases h
  | .expr e, sc, X, x, D, h => by
    simp only [mtS] at h
    split at h
    · simp only [Bool.and_eq_true, Bool.not_eq_true'] at h
      exact PS.ext (s_expr (sw_none h.1) (sE e D.toGd h.2)) (by funext ρ st; simp only [exS])
    · cases h
  | .ret e, sc, X, x, D, h => by
    simp only [mtS] at h
    split at h
    · exact PS.ext (s_ret (sE e D.toGd h)) (by funext ρ st; simp only [exS])
    · cases h
  | .retN, sc, X, x, D, h => by
    simp only [mtS] at h
    split at h
    · exact PS.ext s_retN (by funext ρ st; simp only [exS])
    · cases h
  | .ite cc a b, sc, X, x, D, h => by
    simp only [mtS] at h
    split at h
    · simp only [Bool.and_eq_true] at h
      obtain ⟨⟨h1, h2⟩, h3⟩ := h
      exact PS.ext (s_if (sC cc D.toGd h1) (sSs a D h2) (sSs b D h3)) (by funext ρ st; simp only [exS])
    · cases h
  | .for_ t it b, sc, X, x, D, h => by
    simp only [mtS] at h
    split at h
    · simp only [Bool.and_eq_true] at h
      obtain ⟨⟨⟨h1, h2⟩, h3⟩, h4⟩ := h
      exact PS.ext (s_for D.own D.calm (fun _ => notSet_ok h3) (sIt it D.toGd h1) (g_W D.toGd h2) (sSs b D h4)) (by funext ρ st; simp only [exS])
    · cases h
  | .whl cc b, sc, X, x, D, h => by
    simp only [mtS] at h
    split at h
    · simp only [Bool.and_eq_true] at h
      exact PS.ext (s_while D.own (sC cc D.toGd h.1) (sSs b D h.2)) (by funext ρ st; simp only [exS])
    · cases h
  | .pass, sc, X, x, D, h => by
    simp only [mtS] at h
    split at h
    · exact PS.ext s_pass (by funext ρ st; simp only [exS])
    · cases h
  | .brk, sc, X, x, D, h => by
    simp only [mtS] at h
    split at h
    · exact PS.ext s_brk (by funext ρ st; simp only [exS])
    · cases h
  | .cont, sc, X, x, D, h => by
    simp only [mtS] at h
    split at h
    · exact PS.ext s_cont (by funext ρ st; simp only [exS])
    · cases h
  | .rais, sc, X, x, D, h => by
    have : exS G C .rais = fun _ _ => .bad := by funext ρ st; simp only [exS]
    rw [this]
    exact ⟨fun pins s σ H E I ⟨g, ρ, st, _, _, p⟩ => p.elim⟩
  | .thr ci (some _) es, sc, X, x, D, h => by simp [mtS] at h
  | .thr ci none es, sc, X, x, D, h => by
    simp only [mtS] at h
    split at h
    · rename_i z q y p1 p2
      simp only [Bool.and_eq_true, decide_eq_true_eq] at h
      obtain ⟨⟨⟨⟨⟨h1, h2⟩, h3⟩, h4⟩, h5⟩, h6⟩ := h
      exact s_thr D h1 h2 h3 h4 h5 (sEs es D.toGd h6)
    · cases h
theorem sSs : ∀ (s : Ss) {sc : Scope} {X : Cx} {x : List Stmt}, Gs c G C W N lm sc X → mtSs G N lm s sc x = true → PSs X x (RS c W (exSs G C s))
  | .nil, sc, X, x, D, h => by
    simp only [mtSs] at h
    split at h
    · have : exSs G C .nil = fun ρ st => .ok (ρ, .nx) st := by funext ρ st; simp only [exSs]
      rw [this]
      exact ss_nil
    · cases h
  | .cons s r, sc, X, x, D, h => by
    simp only [mtSs] at h
    split at h
    · simp only [Bool.and_eq_true] at h
      have : exSs G C (.cons s r) = fun ρ st => (exS G C s ρ st).bind fun p st1 => match p.2 with
        | .nx => exSs G C r p.1 st1
        | _ => .ok p st1 := by funext ρ st; simp only [exSs] <;> rfl
      rw [this]
      exact ss_cons (sS s D h.1) (sSs r D h.2)
    · cases h
end
end
end Sw

set_option linter.all false
set_option maxRecDepth 100000
set_option maxHeartbeats 4000000
namespace Sw
open PySem L2 PySem.Spec PyProof.Rows
structure Df (c : Ct) (G : Gt) (cs : List (Addr × Addr)) (fds : Nat → Option Fd) (K : PySem.W.Frag) (f : Nat) (fd : FuncData) : Prop where
  ex : ∃ x qual params body scope kws N d lm, FunD K x qual params body scope [] kws (c.fad f) fd ∧ fds f = some d ∧ FnScope N (G.ps f) scope ∧ isFnK scope = true ∧ mtSs G N lm d.body scope body = true ∧ d.np = (G.ps f).length ∧ d.nn = N.length ∧ (lm = true → ∃ cA P, fd.code = .ref cA ∧ (cA, P) ∈ cs ∧ (P, qual ++ ".<locals>." ++ "<lambda>") ∈ c.T ∧ ∀ p ∈ c.T, p.1 = P → p.2 = qual ++ ".<locals>." ++ "<lambda>")
  binds : Binds K fd (G.ps f) []
  bA : ∀ (s : Shared) (us : List Value), us.length = (G.ps f).length → BindsTo s fd ⟨us, []⟩ ((G.ps f).zip us)
  kb : ∀ n ks, (f, n, ks) ∈ G.kw → KBn K fd (G.ps f) n ks (kwL (G.ps f) n ks) (kwL (G.ps f) n ks)
structure Md (c : Ct) (G : Gt) (cs : List (Addr × Addr)) (fds : Nat → Option Fd) (K : PySem.W.Frag) (mg : Str → Option Value) : Prop where
  hK : K = c.K
  cst : ∀ (i : Nat) (x : Str) (d : D), G.cs[i]? = some (x, d) → ∃ u v, mg x = some u ∧ RelV v u ∧ ∀ Y H, Rp c Y H d v
  none_ : ∀ x ∈ bnames, mg x = none
  gcd : mg "gcd" = some (.builtin "math.gcd")
  fn : ∀ (f : Nat) (x : Str), G.cl[f]? = some x → mg x = some (.ref (c.fad f)) ∧ PySem.W.keepIn K (.ref (c.fad f)) = true ∧ ∃ fd, Df c G cs fds K f fd
  exm : ExcM c G K mg
  cat : ∀ x, G.ct = some x → CatM c G K mg x
section
variable {c : Ct} {G : Gt} {cs : List (Addr × Addr)} {fds : Nat → Option Fd} {K : PySem.W.Frag} {mg : Str → Option Value} {P : Program} {w : World} {base : Heap}
theorem callK_len {k f : Nat} {xs : List S} {st : Store} {d : Fd} (h : fds f = some d) (hb : callK G fds k f xs st ≠ .bad) : xs.length = d.np := by
  cases k with
  | zero => exact absurd (by simp only [callK]) hb
  | succ k =>
    simp only [callK, h] at hb
    split at hb
    · assumption
    · exact absurd rfl hb
theorem spC_len {k f : Nat} {fd : FuncData} (d : Df c G cs fds K f fd) : ∀ vs H Q E, spC c (callK G fds k) f vs H Q E → vs.length = (G.ps f).length := by
  rintro vs H Q E ⟨g, st, as, Rs, r, p⟩
  obtain ⟨x, qual, params, body, scope, kws, N, dd, lm, F, h1, Sp, h2, h3, h4, h5, h6⟩ := d.ex
  rw [← RelLb.length r, ← h4]
  exact callK_len h1 fun z => by rw [z] at p; exact p
theorem RelE.start {g : Gh} {st : Store} {H : Hp} {as : List S} {vs : List V} {N : List Str} {nn : Nat} (r : RelL c g st H as vs) (hn : nn = N.length) (hl : as.length ≤ N.length) : RelE c g st H (as.map some ++ List.replicate (nn - as.length) none) (start N vs) := by
  have hv := RelLb.length r
  refine ⟨?_, fun i s e => ?_⟩
  · unfold L2.start
    simp only [List.length_append, List.length_map, List.length_replicate]
    omega
  · by_cases hi : i < as.length
    · rw [List.getElem?_append_left (by simpa using hi), List.getElem?_map, Option.map_eq_some_iff] at e
      obtain ⟨s', e1, e2⟩ := e
      cases e2
      obtain ⟨v, e3, r'⟩ := r.get e1
      refine ⟨v, ?_, r'⟩
      unfold L2.start
      rw [List.getElem?_append_left (by simp; omega), List.getElem?_map, e3]
      rfl
    · rw [List.getElem?_append_right (by simpa using hi), List.getElem?_replicate] at e
      split at e <;> cases e
theorem ExR.mvX {g g' : Gh} {st st' : Store} {H : Hp} (hs : ∀ a o, ¬ Bar g st a → H a = some o → (∀ ps, o ≠ .tbl ps) → ¬ Bar g' st' a ∧ H a = some o) : ∀ {fs : List Str} {xs : List D} {d : Option Addr}, ExR c g st H fs xs d → ExR c g' st' H fs xs d
  | [], [], _, h => h
  | [_], [x], _, ⟨dd, v, z1, z2, z3, z4⟩ => ⟨dd, v, z1, z2, (hs dd _ z3 z2 fun _ q => nomatch q).1, Rp.move hs x v z4⟩
  | [], _ :: _, _, h => h.elim
  | [_], [], _, h => h.elim
  | [_], _ :: _ :: _, _, h => h.elim
  | _ :: _ :: _, _, _, h => h.elim
theorem isL_loc {sc : Scope} {y : Str} (hy : isL sc y = true) : Loc sc y := by
  unfold isL at hy
  split at hy
  · exact .inl (by assumption)
  · exact .inr (by assumption)
  · cases hy
theorem fn_all (M : Md c G cs fds K mg) (hTB : ∀ p ∈ cs, LamX.TabB base mg p.1 p.2) : ∀ (k f : Nat) (x : Str) (fd : FuncData), G.cl[f]? = some x → Df c G cs fds K f fd → FnOk P w K mg base (L2.CX P w) (3 * k) (c.fad f) fd (G.ps f) (spC c (callK G fds k) f) := by
  intro k
  induction k with
  | zero =>
    intro f x fd hx d
    exact ⟨spC_len d, fun A outer s H args us vs Q E _ _ _ _ ⟨g, st, as, _, _, p⟩ => by
    have z : callK G fds 0 f as st = .bad := by simp only [callK]
    rw [z] at p
    exact p.elim⟩
  | succ k ih =>
    intro f x fd hx d
    obtain ⟨x', qual, params, body, scope, kws, N, dd, lm, F, h1, Sp, h2, h3, h4, h5, h6⟩ := d.ex
    have hlen0 := spC_len (k := k + 1) d
    obtain ⟨oc, od, dV, kV, doc, pm, an, cdv, ct, osl, efd, lk, hcd, _, _⟩ := F.ex
    subst efd
    refine fn_of (k := 3 * k + 2) lk hcd Sp hlen0 fun A outer s H vs Q E hr h => ?_
    obtain ⟨g, st, as, Rs, r, p⟩ := h
    have GS : Gs c G (callK G fds k) E N lm scope (cxOf (L2.CX P w) P w K mg base N qual scope (c.fad f) cdv A outer s H E) := {
      K := M.hK
      calm := rfl
      N := rfl
      nd := Sp.nd
      sc := rfl
      sto := fun y hy => ⟨isL_loc hy, .inl rfl⟩
      units := by
        have := hr.un
        show (A.deeper (envOfC qual scope s.heap.objs.size (c.fad f) cdv)).units + 65 < _
        omega
      cst := M.cst
      none_ := M.none_
      gcd := M.gcd
      fn := fun f' y e => by
        obtain ⟨m1, m2, fd', d'⟩ := M.fn f' y e
        exact ⟨m1, m2, 3 * k, fd', hr.mono (by omega), ih f' y fd' e d', d'.binds, d'.kb⟩
      exm := M.exm
      cat := M.cat
      lam := fun z => by
        have hl : lm = true := by
          cases lm with
          | true => rfl
          | false => exact Bool.noConfusion z
        obtain ⟨cA, P, e1, e2, e3, e4⟩ := h6 hl
        refine ⟨3 * k, cA, P, ?_, ?_, ?_, ?_, ?_, ?_⟩
        · exact hr
        · exact hTB _ e2
        · exact e1
        · exact e3
        · exact e4
        · intro f' y e
          obtain ⟨m1, m2, fd', d'⟩ := M.fn f' y e
          exact ⟨fd', ih f' y fd' e d', d'.binds, d'.kb⟩
      tk := takes_of rfl rfl rfl rfl
      own := passes_of rfl
      fnk := h2 }
    refine ⟨_, sSs dd.body GS h3, g, as.map some ++ List.replicate (dd.nn - as.length) none, st, Rs, ?_, ?_⟩
    · refine RelE.start r h5 ?_
      have hl := callK_len h1 (fun z => by rw [z] at p; exact p)
      have := congrArg List.length Sp.pre
      rw [List.length_take] at this
      omega
    · have hlen := callK_len h1 (fun z => by rw [z] at p; exact p)
      simp only [callK, h1] at p
      rw [if_pos hlen, ← hlen] at p
      cases e : exSs G (callK G fds k) dd.body (as.map some ++ List.replicate (dd.nn - as.length) none) st with
      | bad => rw [e] at p; exact p.elim
      | ex a b dl st' =>
        rw [e] at p
        intro d' H' g' R' K' z
        obtain ⟨R2, K2, mv⟩ := RelSt.cut rfl R' K'
        have hs : ∀ a o, ¬ Bar g' st' a → H' a = some o → (∀ ps, o ≠ .tbl ps) → ¬ Bar g' (st'.take st.length) a ∧ H' a = some o := fun a o nb e _ => by
          refine ⟨?_, e⟩
          rintro (⟨n, o', h, e'⟩ | b)
          · refine nb (.inl ⟨n, o', ?_, e'⟩)
            rw [List.getElem?_take] at h
            split at h
            · exact h
            · cases h
          · exact nb (.inr b)
        exact p d' H' g' R2 K2 (ExR.mvX hs z)
      | ok q st' =>
        rw [e, Res.bind_ok] at p
        obtain ⟨ρ', fl⟩ := q
        intro σ' H' g' R' K' E'
        obtain ⟨R2, K2, mv⟩ := RelSt.cut rfl R' K'
        have fin : ∀ (s : S) (v : V), PostG c E g st H (MS c) (trunc st.length (G.keep.contains f) (.ok s st')) Q → RelS c g' st' H' s v → Q v H' := fun s v p r => by
          unfold trunc at p
          split at p
          · rename_i d' st'' e1
            cases e1
            split at p
            · exact p v H' g' R' K' r
            · exact p v H' g' R2 K2 (mv d' v r)
          · rename_i m st'' e1
            cases e1
            split at p
            · exact p v H' g' R' K' r
            · split at p
              · rename_i hm
                refine p v H' g' R2 K2 ⟨r.1, ?_⟩
                have := K'.len
                rw [List.length_take]
                omega
              · exact p.elim
          · rename_i e1; cases e1
          · rename_i e1; cases e1
        cases fl with
        | nx => exact fin _ _ p (by simp only [RelS, RelSb, Rp])
        | rt s => exact fun v r => fin s v p r
        | bk => exact p.elim
        | ct => exact p.elim
end
end Sw

set_option linter.all false
set_option maxRecDepth 100000
set_option maxHeartbeats 2000000
namespace Sw
open PySem L2 PySem.Spec PyProof.Rows
theorem forIn_app {σ : Type} {mk : List (Str × Value) → σ} {f : Str × Value → σ → Sem (ForInStep σ)} : ∀ (l : List (Str × Value)) (sl : List (Str × Value)),
    (∀ kv sl, kv ∈ l → sl.lookup kv.1 = none → f kv (mk sl) = pure (.yield (mk (sl ++ [kv])))) → (l.map (·.1)).Nodup → (∀ kv ∈ l, sl.lookup kv.1 = none) → forIn l (mk sl) f = pure (mk (sl ++ l))
  | [], sl, _, _, _ => by simp
  | kv :: l, sl, hf, nd, h => by
    rw [List.forIn_cons, hf kv sl List.mem_cons_self (h kv List.mem_cons_self), pure_bind]
    simp only [List.map_cons, List.nodup_cons] at nd
    show forIn l (mk (sl ++ [kv])) f = _
    rw [forIn_app l (sl ++ [kv]) (fun kv' sl' hm e => hf kv' sl' (List.mem_cons_of_mem _ hm) e) nd.2 fun kv' hm => ?_]
    · rw [List.append_assoc]; rfl
    · rw [List.lookup_append, h kv' (List.mem_cons_of_mem _ hm)]
      have hne : kv'.1 ≠ kv.1 := fun z => nd.1 (z ▸ List.mem_map_of_mem hm)
      have h2 : (kv'.1 == kv.1) = false := beq_eq_false_iff_ne.mpr hne
      show (Option.or none (List.lookup kv'.1 [(kv.1, kv.2)])) = none
      rw [List.lookup_cons, h2]
      rfl
theorem fm_congr {α β : Type} {f g : α → Option β} : ∀ {l : List α}, (∀ a ∈ l, f a = g a) → l.filterMap f = l.filterMap g
  | [], _ => rfl
  | a :: l, h => by
    rw [List.filterMap_cons, List.filterMap_cons, h a List.mem_cons_self, fm_congr (l := l) fun b hb => h b (List.mem_cons_of_mem _ hb)]
theorem fm_zip {α : Type} : ∀ {ps : List Str} {us : List α} {r : List (Str × α)}, ps.Nodup → us.length = ps.length → ps.filterMap (fun n => ((ps.zip us ++ r).lookup n).map fun x => (n, x)) = ps.zip us
  | [], [], _, _, _ => rfl
  | [], _ :: _, _, _, h => by simp at h
  | _ :: _, [], _, _, h => by simp at h
  | p :: ps, u :: us, r, nd, h => by
    have nd := List.nodup_cons.mp nd
    have hp : (((p :: ps).zip (u :: us) ++ r).lookup p).map (fun x => (p, x)) = some (p, u) := by simp
    rw [List.filterMap_cons, hp]
    show _ :: _ = (p, u) :: ps.zip us
    congr 1
    rw [← fm_zip (r := r) nd.2 (Nat.succ.inj h)]
    refine fm_congr fun n hn => ?_
    have hne : n ≠ p := fun z => nd.1 (z ▸ hn)
    have h2 : (n == p) = false := beq_eq_false_iff_ne.mpr hne
    show ((((p, u) :: ps.zip us) ++ r).lookup n).map _ = _
    rw [List.cons_append, List.lookup_cons, h2]
theorem fm_mapM {α : Type} {f : Str → Option α} : ∀ {ps : List Str} {l : List α}, ps.mapM f = some l → ps.filterMap (fun n => (f n).map fun x => (n, x)) = ps.zip l ∧ ps.length = l.length
  | [], l, h => by
    simp only [List.mapM_nil] at h
    cases h
    exact ⟨rfl, rfl⟩
  | p :: ps, l, h => by
    rw [List.mapM_cons] at h
    simp only [Option.bind_eq_bind, Option.bind_eq_some_iff] at h
    obtain ⟨v, e1, l', e2, e3⟩ := h
    cases e3
    obtain ⟨a, b⟩ := fm_mapM e2
    refine ⟨?_, congrArg (· + 1) b⟩
    have hp : (f p).map (fun x => (p, x)) = some (p, v) := by rw [e1]; rfl
    rw [List.filterMap_cons, hp, a]
    rfl
theorem lookup_zip_none {α : Type} {n : Str} : ∀ {ps : List Str} {us : List α}, n ∉ ps → (ps.zip us).lookup n = none
  | [], _, _ => rfl
  | _ :: _, [], _ => rfl
  | p :: ps, u :: us, h => by
    simp only [List.mem_cons, not_or] at h
    show ((p, u) :: ps.zip us).lookup n = none
    have h2 : (n == p) = false := beq_eq_false_iff_ne.mpr h.1
    rw [List.lookup_cons, h2]
    exact lookup_zip_none h.2
theorem binds_all {α : Type} {ps ks : List Str} {us ws l : List α} (ndp : ps.Nodup) (hle : us.length ≤ ps.length) (hl : kwG ps us.length ks ws = some l) :
    ps.filterMap (fun n => ((ps.zip us ++ ks.zip ws).lookup n).map fun x => (n, x)) = ps.zip (us ++ l) := by
  obtain ⟨a, b⟩ := fm_mapM hl
  have e : ps = ps.take us.length ++ ps.drop us.length := (List.take_append_drop _ _).symm
  have lt : (ps.take us.length).length = us.length := by rw [List.length_take]; omega
  have ez : ps.zip us = (ps.take us.length).zip us := by
    conv => lhs; rw [e]
    rw [show us = us ++ [] by simp, List.zip_append (by simpa using lt)]
    simp
  have nd2 := ndp
  rw [e, List.nodup_append] at nd2
  have h1 : (ps.take us.length).filterMap (fun n => ((ps.zip us ++ ks.zip ws).lookup n).map fun x => (n, x)) = (ps.take us.length).zip us := by
    rw [ez]
    exact fm_zip nd2.1 lt.symm
  have h2 : (ps.drop us.length).filterMap (fun n => ((ps.zip us ++ ks.zip ws).lookup n).map fun x => (n, x)) = (ps.drop us.length).zip l := by
    rw [← a]
    refine fm_congr fun n hn => ?_
    have hno : n ∉ ps.take us.length := fun z => nd2.2.2 n z n hn rfl
    rw [ez, List.lookup_append, lookup_zip_none hno]
    rfl
  have h3 : ps.filterMap (fun n => ((ps.zip us ++ ks.zip ws).lookup n).map fun x => (n, x)) = (ps.take us.length ++ ps.drop us.length).filterMap (fun n => ((ps.zip us ++ ks.zip ws).lookup n).map fun x => (n, x)) := by rw [← e]
  rw [h3, List.filterMap_append, h1, h2, ← List.zip_append lt, ← e]
theorem lookups_all {α : Type} {ps : List Str} {l : List (Str × α)} {r : List α} (h : ps.filterMap (fun n => (l.lookup n).map fun x => (n, x)) = ps.zip r) (hl : r.length = ps.length) : ps.filter (fun n => (l.lookup n).isNone) = [] := by
  rw [List.filter_eq_nil_iff]
  intro n hn z
  have hlt : (ps.filterMap fun n => (l.lookup n).map fun x => (n, x)).length = ps.length := by rw [h, List.length_zip]; omega
  rw [List.length_filterMap_eq_countP] at hlt
  have := List.countP_eq_length.mp hlt n hn
  have z2 : l.lookup n = none := by simpa using z
  rw [z2] at this
  cases this
theorem bind_simple {x qual : Str} {args : List Arg} {body : List Stmt} {scope : Scope} {kV doc pm : Value} {an : Option Addr} {cdv ct : Value} {ps ks : List Str} {us ws l : List Value} (hps : args.map (·.arg) = ps) (hle : us.length ≤ ps.length)
    (nd : ks.Nodup) (hin : ∀ k ∈ ks, k ∈ ps) (hout : ∀ k ∈ ks, k ∉ ps.take us.length) (hk : ws.length = ks.length) (ndp : ps.Nodup) (hl : kwG ps us.length ks ws = some l) :
  bindArgs (PySem.W.fnOf x qual ⟨[], args, none, [], [], none, []⟩ body scope .none kV doc pm an cdv ct) ⟨us, ks.zip ws⟩ = pure (ps.zip (us ++ l)) := by
  have e1 : seqItems? Value.none = pure none := rfl
  have hal : args.length = ps.length := by rw [← hps, List.length_map]
  have hb := binds_all ndp hle hl
  have hll := (fm_mapM hl).2
  rw [List.length_drop] at hll
  have hf := lookups_all hb (by rw [List.length_append]; omega)
  unfold bindArgs
  simp [PySem.W.fnOf, e1, hps]
  rw [forIn_app (mk := fun s => (s, [])) (ks.zip ws) (ps.zip us) ?_ ?_ ?_]
  · rw [pure_bind, if_neg (by omega)]
    simp only [hb, hf]
    have e2 : List.map (fun x => x.arg) ([] : List Arg) ++ List.map (fun x => x.arg) args = ps := by rw [hps]; rfl
    rw [e2]
    have e3 : List.take (ps.length - (List.drop ((#[] : Array Value).size - ps.length) ([] : List Value)).length) ps = ps := by simp
    rw [e3, hf]
    rfl
  · intro kv sl hm e
    have hkp : kv.1 ∈ ps := hin _ (List.of_mem_zip (a := kv.1) (b := kv.2) hm).1
    simp only [if_pos hkp, e]
    rfl
  · rw [List.map_fst_zip (by omega)]
    exact nd
  · intro kv hm
    have h1 := hout _ (List.of_mem_zip (a := kv.1) (b := kv.2) hm).1
    have e : ps = ps.take us.length ++ ps.drop us.length := (List.take_append_drop _ _).symm
    have lt : (ps.take us.length).length = us.length := by rw [List.length_take]; omega
    have ez : ps.zip us = (ps.take us.length).zip us := by
      conv => lhs; rw [e]
      rw [show us = us ++ [] by simp, List.zip_append (by simpa using lt)]
      simp
    rw [ez]
    exact lookup_zip_none h1
structure Ft where
  fd : Fd
  N : List Str
  ps : List Str
  lm : Bool := false
def scopeB (N ps : List Str) (sc : Scope) : Bool := isFnK sc && !sc.isCoroutine && !sc.isGenerator && decide N.Nodup && decide (N.take ps.length = ps) && ps.all (fun x => isL sc x) && sc.names.all (fun y => match y.2 with | .free => false | _ => true)
theorem scopeB_ok {N ps : List Str} {sc : Scope} (h : scopeB N ps sc = true) : FnScope N ps sc ∧ isFnK sc = true := by
  unfold scopeB at h
  simp only [Bool.and_eq_true, Bool.not_eq_true', decide_eq_true_eq] at h
  obtain ⟨⟨⟨⟨⟨⟨h1, h2⟩, h3⟩, h4⟩, h5⟩, h6⟩, h7⟩ := h
  refine ⟨⟨?_, h2, h3, h4, h5, fun x hx => isL_loc (List.all_eq_true.mp h6 x hx), fun y hy e => ?_⟩, h1⟩
  · unfold isFnK at h1
    split at h1
    · assumption
    · cases h1
  · have := List.all_eq_true.mp h7 y hy
    rw [e] at this
    cases this
def plainArgs (a : Arguments) (ps : List Str) : Bool := match a with
  | ⟨[], as, none, [], [], none, []⟩ => decide (as.map (·.arg) = ps)
  | _ => false
def kwFit (ps : List Str) (n : Nat) (ks : List Str) : Bool := decide (n + ks.length = ps.length) && decide ks.Nodup && (ps.drop n).all (fun p => decide (p ∈ ks)) && ks.all (fun k => decide (k ∈ ps) && decide (k ∉ ps.take n))
theorem kwG_some {α : Type} {ps ks : List Str} {n : Nat} {ws : List α} (h : kwFit ps n ks = true) (hl : ws.length = ks.length) : ∃ l, kwG ps n ks ws = some l ∧ n + l.length = ps.length := by
  unfold kwFit at h
  simp only [Bool.and_eq_true, decide_eq_true_eq] at h
  obtain ⟨⟨⟨h1, h2⟩, h3⟩, h4⟩ := h
  have look : ∀ (ks : List Str) (ws : List α) (p : Str), p ∈ ks → ws.length = ks.length → ∃ v, (ks.zip ws).lookup p = some v := by
    intro ks
    induction ks with
    | nil => intro ws p h; cases h
    | cons k ks ih =>
      intro ws p h hl
      cases ws with
      | nil => cases hl
      | cons w ws =>
        show ∃ v, ((k, w) :: ks.zip ws).lookup p = some v
        rw [List.lookup_cons]
        by_cases e : p = k
        · subst e
          exact ⟨w, by simp⟩
        · have h2 : (p == k) = false := beq_eq_false_iff_ne.mpr e
          rw [h2]
          exact ih ws p ((List.mem_cons.mp h).resolve_left e) (Nat.succ.inj hl)
  have all : ∀ l : List Str, (∀ p ∈ l, p ∈ ks) → ∃ r, l.mapM (fun p => (ks.zip ws).lookup p) = some r ∧ l.length = r.length := by
    intro l
    induction l with
    | nil => intro _; exact ⟨[], rfl, rfl⟩
    | cons p l ih =>
      intro h
      obtain ⟨v, e⟩ := look ks ws p (h p List.mem_cons_self) hl
      obtain ⟨r, e2, e3⟩ := ih fun q hq => h q (List.mem_cons_of_mem _ hq)
      refine ⟨v :: r, ?_, congrArg (· + 1) e3⟩
      rw [List.mapM_cons, e, e2]
      rfl
  obtain ⟨r, e1, e2⟩ := all (ps.drop n) fun p hp => of_decide_eq_true (List.all_eq_true.mp h3 p hp)
  refine ⟨r, e1, ?_⟩
  rw [List.length_drop] at e2
  omega
section
variable {K : PySem.W.Frag} {x qual : Str} {params : Arguments} {body : List Stmt} {scope : Scope} {kws : List (Str × V)} {f : Addr} {fd : FuncData} {ps : List Str}
theorem binds_of (F : FunD K x qual params body scope [] kws f fd) (h : plainArgs params ps = true) (nd : ps.Nodup) : Binds K fd ps [] := by
  refine F.bindsN fun kV doc pm an cdv ct us hl => ?_
  unfold plainArgs at h
  split at h
  · rename_i as
    have h := of_decide_eq_true h
    have := bind_simple (x := x) (qual := qual) (body := body) (scope := scope) (kV := kV) (doc := doc) (pm := pm) (an := an) (cdv := cdv) (ct := ct) (ks := []) (ws := []) (l := []) (us := us) h (by omega) List.nodup_nil (fun _ h => nomatch h) (fun _ h => nomatch h) rfl nd (by
      unfold kwG
      rw [hl, List.drop_length]
      rfl)
    rw [List.append_nil] at this
    exact this
  · cases h
theorem bA_of (F : FunD K x qual params body scope [] kws f fd) (h : plainArgs params ps = true) (nd : ps.Nodup) (s : Shared) (us : List Value) (hl : us.length = ps.length) : BindsTo s fd ⟨us, []⟩ (ps.zip us) := by
  refine F.bindsA (fun kV doc pm an cdv ct us hl => ?_) s us hl
  unfold plainArgs at h
  split at h
  · rename_i as
    have h := of_decide_eq_true h
    have := bind_simple (x := x) (qual := qual) (body := body) (scope := scope) (kV := kV) (doc := doc) (pm := pm) (an := an) (cdv := cdv) (ct := ct) (ks := []) (ws := []) (l := []) (us := us) h (by omega) List.nodup_nil (fun _ h => nomatch h) (fun _ h => nomatch h) rfl nd (by
      unfold kwG
      rw [hl, List.drop_length]
      rfl)
    rw [List.append_nil] at this
    exact this
  · cases h
theorem kb_of (F : FunD K x qual params body scope [] kws f fd) (h : plainArgs params ps = true) (nd : ps.Nodup) {n : Nat} {ks : List Str} (hk : kwFit ps n ks = true) : KBn K fd ps n ks (kwL ps n ks) (kwL ps n ks) := by
  have hk0 := hk
  unfold kwFit at hk
  simp only [Bool.and_eq_true, decide_eq_true_eq] at hk
  obtain ⟨⟨⟨h1, h2⟩, h3⟩, h4⟩ := hk
  refine ⟨fun s us ws X l1 l2 => ?_, fun {vs us zs ws} r1 r2 => ?_⟩
  · obtain ⟨oc, od, dV, kV, doc, pm, an, cdv, ct, osl, rfl, lk, hcd, hD, hK⟩ := F.ex
    rcases hD with ⟨_, rfl⟩ | ⟨e, _⟩
    · unfold plainArgs at h
      split at h
      · rename_i as
        have h := of_decide_eq_true h
        obtain ⟨l, e1, e2⟩ := kwG_some hk0 l2
        unfold kwL
        rw [e1]
        rw [← l1] at e1
        refine .of_eq (bind_simple h (by omega) h2 (fun k hk => ?_) (fun k hk => ?_) l2 nd e1)
        · have := List.all_eq_true.mp h4 k hk
          simp only [Bool.and_eq_true, decide_eq_true_eq] at this
          exact this.1
        · have := List.all_eq_true.mp h4 k hk
          simp only [Bool.and_eq_true, decide_eq_true_eq] at this
          rw [l1]
          exact this.2
      · cases h
    · exact absurd rfl e
  · have look : ∀ (ks : List Str) (zs : List V) (ws : List Value) (k : Str), Vals zs ws → (match (ks.zip zs).lookup k, (ks.zip ws).lookup k with | some v, some u => RelV v u | none, none => True | _, _ => False) := by
      intro ks
      induction ks with
      | nil => intro zs ws k _; trivial
      | cons q ks ih =>
        intro zs ws k r
        cases r with
        | nil => trivial
        | cons r rr =>
          simp only [List.zip_cons_cons, List.lookup_cons]
          cases k == q with
          | true => exact r
          | false => exact ih _ _ k rr
    have all : ∀ l : List Str, (match l.mapM (fun p => (ks.zip zs).lookup p), l.mapM (fun p => (ks.zip ws).lookup p) with | some a, some b => Vals a b | none, none => True | _, _ => False) := by
      intro l
      induction l with
      | nil => exact .nil
      | cons p l ih =>
        have h1 := look ks zs ws p r2
        rw [List.mapM_cons, List.mapM_cons]
        cases e1 : (ks.zip zs).lookup p with
        | none =>
          rw [e1] at h1
          cases e2 : (ks.zip ws).lookup p with
          | none => trivial
          | some u => rw [e2] at h1; exact h1.elim
        | some v =>
          rw [e1] at h1
          cases e2 : (ks.zip ws).lookup p with
          | none => rw [e2] at h1; exact h1.elim
          | some u =>
            rw [e2] at h1
            cases e3 : l.mapM (fun p => (ks.zip zs).lookup p) with
            | none =>
              rw [e3] at ih
              cases e4 : l.mapM (fun p => (ks.zip ws).lookup p) with
              | none => trivial
              | some b => rw [e4] at ih; exact ih.elim
            | some a =>
              rw [e3] at ih
              cases e4 : l.mapM (fun p => (ks.zip ws).lookup p) with
              | none => rw [e4] at ih; exact ih.elim
              | some b => rw [e4] at ih; exact .cons h1 ih
    have h5 := all (ps.drop n)
    unfold kwL kwG
    cases e3 : (ps.drop n).mapM (fun p => (ks.zip zs).lookup p) with
    | none =>
      rw [e3] at h5
      cases e4 : (ps.drop n).mapM (fun p => (ks.zip ws).lookup p) with
      | none => exact r1
      | some b => rw [e4] at h5; exact h5.elim
    | some a =>
      rw [e3] at h5
      cases e4 : (ps.drop n).mapM (fun p => (ks.zip ws).lookup p) with
      | none => rw [e4] at h5; exact h5.elim
      | some b => rw [e4] at h5; exact r1.append h5
end
def cstB (K : PySem.W.Frag) : D → Value → Bool
  | .non, .none => true
  | .bl b, .bool e => b == e
  | .int i, .int j _ => decide (i = j)
  | .str z, .str y _ => decide (z = y) && decide (z.length ≤ 1000) && PyData.strOk z
  | .tup ds, .ref a => (match K.lookup a with
    | some ⟨.type t, _, .seq its _, _⟩ => decide (t = "tuple") && decide (its.size ≤ 1000) && cstBs K ds its.toList
    | _ => false)
  | _, _ => false
where cstBs (K : PySem.W.Frag) : List D → List Value → Bool
  | [], [] => true
  | d :: ds, v :: vs => cstB K d v && cstBs K ds vs
  | _, _ => false
def vOf : Value → V
  | .none => .non
  | .bool b => .bl b
  | .int i _ => .int i
  | .str z _ => .str z
  | .ref a => .ref a
  | _ => .non
mutual
theorem cstB_ok {c : Ct} {K : PySem.W.Frag} (hK : K = c.K) : ∀ {d : D} {u : Value}, cstB K d u = true → RelV (vOf u) u ∧ ∀ Y H, Rp c Y H d (vOf u)
  | .non, u, h => by
    cases u <;> simp only [cstB] at h <;> first | (exact Bool.noConfusion h) | exact ⟨rfl, fun _ _ => by simp only [Rp, vOf]⟩
  | .bl b, u, h => by
    cases u <;> simp only [cstB] at h <;> first
      | (have h := eq_of_beq h; subst h; exact ⟨rfl, fun _ _ => by simp only [Rp, vOf]⟩)
      | cases h
  | .int i, u, h => by
    cases u <;> simp only [cstB] at h <;> first
      | (have h := of_decide_eq_true h; subst h; exact ⟨⟨_, rfl⟩, fun _ _ => by simp only [Rp, vOf]⟩)
      | cases h
  | .str z, u, h => by
    cases u <;> simp only [cstB] at h <;> first
      | (simp only [Bool.and_eq_true, decide_eq_true_eq] at h
         obtain ⟨⟨h1, h2⟩, h3⟩ := h
         subst h1
         exact ⟨⟨_, rfl⟩, fun _ _ => by simp only [Rp, vOf]; exact ⟨trivial, by rw [sizeLine_eq]; omega, h3⟩⟩)
      | cases h
  | .tup ds, u, h => by
    cases u <;> simp only [cstB] at h <;> first
      | (split at h
         · rename_i a t od its n sl e
           simp only [Bool.and_eq_true, decide_eq_true_eq] at h
           obtain ⟨⟨h1, h2⟩, h3⟩ := h
           subst h1
           obtain ⟨r1, r2⟩ := cstBs_ok hK h3
           refine ⟨rfl, fun Y H => ?_⟩
           simp only [Rp, vOf]
           exact ⟨_, its.toList.map vOf, rfl, .inr ⟨_, its, n, by rw [← hK]; exact e, rfl, rfl, by rw [sizeLine_eq]; omega, r1⟩, r2 Y H⟩
         · cases h)
      | cases h
  | .lst _, u, h => by cases u <;> simp [cstB] at h
  | .dic _ _, u, h => by cases u <;> simp [cstB] at h
  | .scr _, u, h => by cases u <;> simp [cstB] at h
  | .fn _, u, h => by cases u <;> simp [cstB] at h
  | .exc _ _ _, u, h => by cases u <;> simp [cstB] at h
theorem cstBs_ok {c : Ct} {K : PySem.W.Frag} (hK : K = c.K) : ∀ {ds : List D} {us : List Value}, cstB.cstBs K ds us = true → Vals (us.map vOf) us ∧ ∀ Y H, RpL c Y H ds (us.map vOf)
  | [], [], _ => ⟨.nil, fun _ _ => by simp only [List.map_nil, RpL]⟩
  | d :: ds, u :: us, h => by
    simp only [cstB.cstBs, Bool.and_eq_true] at h
    obtain ⟨a, b⟩ := cstB_ok hK h.1
    obtain ⟨e, f⟩ := cstBs_ok hK h.2
    exact ⟨.cons a e, fun Y H => by simp only [List.map_cons, RpL]; exact ⟨b Y H, f Y H⟩⟩
  | [], _ :: _, h => by simp [cstB.cstBs] at h
  | _ :: _, [], h => by simp [cstB.cstBs] at h
end
def gcdB (K : PySem.W.Frag) : Bool := He.eqO (PySem.W.nsIn K mainGlobals "gcd") (some (some (.builtin "math.gcd")))
def sayB (G : Gt) (K : PySem.W.Frag) : Bool := (G.cl.all fun x => (He.Fa.glo x).ok K) && (bnames.all fun x => (He.Fa.free x).ok K) && gcdB K && G.cs.all fun p => match PySem.W.nsIn K mainGlobals p.1 with
  | some (some u) => cstB K p.2 u
  | _ => false
def catE (d : He.DefD) : Str := match d.body with
  | [_, .Try _ [.ExceptHandler (some (.Name e _)) _ _ _] _ _ _, _] => e
  | _ => ""
def catB (G : Gt) (d : He.DefD) : Bool := match d.body with
  | [.Assign [.Name fnd _] (.Constant .none _ _) _, .Try [.Expr (.Call (.Name a _) [] [] _) _] [.ExceptHandler (some (.Name e _)) (some er) [.Assign [.Name fnd' _] (.Name er' _) _] _] [] [] _, .Return (some (.Name fnd'' _)) _] =>
    decide (fnd' = fnd) && decide (fnd'' = fnd) && decide (er' = er) && decide (d.at_ = (d.name, none)) && decide (d.qual = d.name) && d.dfl.isEmpty && d.kwd.isEmpty && plainArgs d.params [a] && scopeB [a, fnd, er] [a] d.scope && isG d.scope e && decide (d.scope.names.lookup fnd = some .local) &&
      decide (d.scope.names.lookup er = some .local) && isV d.scope a && nodb fnd && nodb er && nodb a && nodb e && decide (G.ct = some d.name)
  | _ => false
def excCB (K : PySem.W.Frag) (D : Addr) : Bool := decide (PySem.W.findIn K (.ref D) "__getattribute__" = some (some (.builtin "BaseException.__getattribute__"))) && decide (PySem.W.findIn K (.ref D) "__getattr__" = some none) && decide (PySem.W.subIn K (.ref D) (.type "BaseException") = some true) && PySem.W.hasDictIn K D &&
  decide (PySem.W.findIn K (.ref D) "__class__" = some (some (.builtin "object.__class__"))) && decide (PySem.W.specialIn K (.builtin "object.__class__") "__get__" = some (some (.builtin "getset_descriptor.__get__"))) && decide (PySem.W.takesIn K (.builtin "object.__class__") = some true) && decide (PySem.W.mroIn K D (.type "object") = some true)
theorem excCB_ok {K : PySem.W.Frag} {D : Addr} (h : excCB K D = true) : ExcC K D := by
  unfold excCB at h
  simp only [Bool.and_eq_true, decide_eq_true_eq] at h
  obtain ⟨⟨⟨⟨⟨⟨⟨h1, h2⟩, h3⟩, h4⟩, h5⟩, h6⟩, h7⟩, h8⟩ := h
  exact ⟨h1, h2, h3, h4, h5, h6, h7, h8⟩
def ksAd (G : Gt) (K : PySem.W.Frag) (i : Nat) : Addr := He.ga K (G.ks.getD i "")
def excB (G : Gt) (K : PySem.W.Frag) : Bool := ((List.range G.ks.length).all fun i => (He.Fa.glo (G.ks.getD i "")).ok K && excCB K (ksAd G K i) && decide (PySem.W.kitOne K (.type "NoneType") (.ref (ksAd G K i)) = some false) &&
  (List.range G.ks.length).all fun j => decide (PySem.W.kitOne K (.ref (ksAd G K j)) (.ref (ksAd G K i)) = some (G.sub j i))) && G.rz.all fun i => (He.Fa.exc (G.ks.getD i "")).ok K
def catK (G : Gt) (e : Str) (K : PySem.W.Frag) : Bool := (He.Fa.glo e).ok K && G.ks.all fun y => decide (PySem.W.exmOne K (.ref (He.ga K y)) (.ref (He.ga K e)) = some true)
def tfT (T : List (He.Defn × Str)) (K : PySem.W.Frag) : List (Addr × Str) := T.map fun p => (He.tabOf K (He.codeOf K p.1), p.2)
def sayX (G : Gt) (ca : Option He.DefD) (tl : List (He.Defn × Str)) (K : PySem.W.Frag) : Bool := sayB G K && excB G K && (match ca with
  | some d => catK G (catE d) K && (He.Fa.glo d.name).ok K
  | none => true) && decide ((tl.map fun p => He.tabOf K (He.codeOf K p.1)).Nodup)
abbrev SaysH (G : Gt) (fn : List He.DefD) (ca : Option He.DefD) (tl : List (He.Defn × Str)) (w : World) (h : Heap) (K : PySem.W.Frag) : Prop := He.SaysX [] (fn ++ ca.toList) [] (tl.map (·.1)) (sayX G ca tl) w h K
def defB (G : Gt) (T : List Ft) (tl : List (He.Defn × Str)) (f : Nat) (d : He.DefD) : Bool := match T[f]?, G.cl[f]? with
  | some t, some x => decide (d.at_ = (x, none)) && d.dfl.isEmpty && d.kwd.isEmpty && plainArgs d.params t.ps && scopeB t.N t.ps d.scope && decide (G.ps f = t.ps) && decide (t.fd.np = t.ps.length) && decide (t.fd.nn = t.N.length) && mtSs G t.N t.lm t.fd.body d.scope d.body && decide t.ps.Nodup && (!t.lm || decide (((x, none), d.qual ++ ".<locals>." ++ "<lambda>") ∈ tl))
  | _, _ => false
def kwB (G : Gt) : Bool := G.kw.all fun k => kwFit (G.ps k.1) k.2.1 k.2.2
def fdsOf (T : List Ft) : Nat → Option Fd := fun f => T[f]?.map (·.fd)
theorem nodup_map_inj {α β : Type} {f : α → β} : ∀ {l : List α}, (l.map f).Nodup → ∀ a ∈ l, ∀ b ∈ l, f a = f b → a = b
  | [], _, a, ha, _, _, _ => by cases ha
  | x :: l, h, a, ha, b, hb, e => by
    simp only [List.map_cons, List.nodup_cons] at h
    rcases List.mem_cons.mp ha with e1 | ha'
    · rcases List.mem_cons.mp hb with e2 | hb'
      · rw [e1, e2]
      · exact absurd (by rw [← e1, e]; exact List.mem_map_of_mem hb') h.1
    · rcases List.mem_cons.mp hb with e2 | hb'
      · exact absurd (by rw [← e2, ← e]; exact List.mem_map_of_mem ha') h.1
      · exact nodup_map_inj h.2 a ha' b hb' e
section
variable {G : Gt} {T : List Ft} {fn : List He.DefD} {ca : Option He.DefD} {tl : List (He.Defn × Str)} {w : World} {K : PySem.W.Frag} {h : Heap} {mg : Str → Option Value}
def ctOf (G : Gt) (tl : List (He.Defn × Str)) (K : PySem.W.Frag) : Ct := ⟨K, fun f => He.ga K (G.cl.getD f ""), fun f => He.ga K (G.ks.getD f ""), tfT tl K⟩
def csOf (tl : List (He.Defn × Str)) (K : PySem.W.Frag) : List (Addr × Addr) := tl.map fun p => He.cT K p.1
theorem getD_at {α : Type} {l : List α} {i : Nat} {x d : α} (e : l[i]? = some x) : l.getD i d = x := by rw [List.getD_eq_getElem?_getD, e]; rfl
theorem says_funD (s : SaysH G fn ca tl w h K) {d : He.DefD} (hd : d ∈ fn ++ ca.toList) : ∃ fd, FunD K d.name d.qual d.params d.body d.scope (d.dvs K) (d.kws K) (He.fAd K d.at_) fd := by
  have e : He.obsD [] (fn ++ ca.toList) K = He.valD (fn ++ ca.toList) := congrArg (fun z : He.AlT => z.1) s.t
  have e1 : (([] : List He.Fa).all (fun f => f.ok K) && (fn ++ ca.toList).all fun d => d.ok K) = true := congrArg (fun z : He.AlD => z.1) e
  have e2 : (fn ++ ca.toList).map (fun d => He.fnW K d.at_) = (fn ++ ca.toList).map He.DefD.val := congrArg (fun z : He.AlD => z.2) e
  exact He.DefD.funD (List.map_inj_left.mp e2 d hd) (List.all_eq_true.mp (He.ba e1).2 d hd)
theorem exm_of (X : K.In h) (N : h.Ns mainGlobals mg) (hx : excB G K = true) : ExcM (ctOf G tl K) G K mg := by
  obtain ⟨c1, c2⟩ := He.ba hx
  have at_ : ∀ i, i < G.ks.length → _ := fun i hi => List.all_eq_true.mp c1 i (List.mem_range.mpr hi)
  refine ⟨fun i x e => ?_, fun i hi => ?_⟩
  · have hi := (List.getElem?_eq_some_iff.mp e).1
    have q := at_ i hi
    simp only [Bool.and_eq_true, decide_eq_true_eq] at q
    obtain ⟨⟨⟨q1, q2⟩, q3⟩, q4⟩ := q
    have ex : G.ks.getD i "" = x := getD_at e
    refine ⟨?_, excCB_ok q2, q3, fun j hj => of_decide_eq_true (List.all_eq_true.mp q4 j (List.mem_range.mpr hj))⟩
    have := He.glo_ok X N q1
    rw [ex] at this
    rw [this]
    show _ = some (Value.ref (He.ga K (G.ks.getD i "")))
    rw [ex]
  · exact He.exc_ok (List.all_eq_true.mp c2 i hi)
theorem cat_of (X : K.In h) (N : h.Ns mainGlobals mg) (s : SaysH G fn ca tl w h K) (hca : ∀ d, ca = some d → catB G d = true) (hno : ca = none → G.ct = none) : ∀ x, G.ct = some x → CatM (ctOf G tl K) G K mg x := by
  intro x ex
  cases ec : ca with
  | none => rw [hno ec] at ex; cases ex
  | some d =>
    have hb := hca d ec
    obtain ⟨fd, F⟩ := says_funD s (d := d) (by rw [ec]; simp)
    have m := s.more
    unfold sayX at m
    rw [ec] at m
    simp only [Bool.and_eq_true, decide_eq_true_eq] at m
    obtain ⟨⟨_, m1, m2⟩, _⟩ := m
    unfold catK at m1
    simp only [Bool.and_eq_true] at m1
    obtain ⟨m3, m4⟩ := m1
    have gd := He.glo_ok X N m2
    have ge := He.glo_ok X N m3
    obtain ⟨at_, name, qual, params, body, scope, dfl, kwd⟩ := d
    unfold catB at hb
    dsimp only at hb
    split at hb
    · rename_i fnd p1 j p2 p3 a p4 p5 p6 e p7 er fnd' p8 er' p9 q1 q2 q3 fnd'' q4 q5
      simp only [Bool.and_eq_true, decide_eq_true_eq] at hb
      obtain ⟨⟨⟨⟨⟨⟨⟨⟨⟨⟨⟨⟨⟨⟨⟨⟨⟨b1, b2⟩, b3⟩, b4⟩, b5⟩, b6⟩, b7⟩, b8⟩, b9⟩, b10⟩, b11⟩, b12⟩, b13⟩, b14⟩, b15⟩, b16⟩, b17⟩, b18⟩ := hb
      subst b1 b2 b3
      have b6 := List.isEmpty_iff.mp b6
      have b7 := List.isEmpty_iff.mp b7
      dsimp only at b4 b5 b6 b7 F gd ge b18
      subst b4 b5 b6 b7
      rw [b18] at ex
      cases ex
      obtain ⟨s1, s2⟩ := scopeB_ok b9
      have kp := F.kp
      obtain ⟨oc, od, dV, kV, doc, pm, an, cdv, ct, osl, rfl, lk, hcd, hD, hK⟩ := F.ex
      refine ⟨He.ga K e, ⟨a, e, _, _, _, params, scope, dV, kV, doc, pm, cdv, ct, oc, an, od, osl, j, p1, p2, p3, p4, p5, p6, p7, p8, p9, q1, q2, q3, q4, q5, gd, kp, lk, hcd, binds_of F b8 (by simp), s1, s1.nd, ?_, ?_, b11, b12, ge, (nodb_ok b17).1, b14, b15, b16⟩, fun ci hci => ?_⟩
      · unfold isV at b13
        split at b13
        · exact .inl (by assumption)
        · exact .inr (.inl (by assumption))
        · exact .inr (.inr (by assumption))
        · cases b13
      · unfold isG at b10
        split at b10
        · assumption
        · cases b10
      · have := List.all_eq_true.mp m4 (G.ks.getD ci "") (by rw [List.getD_eq_getElem?_getD, List.getElem?_eq_getElem hci]; exact List.getElem_mem hci)
        exact of_decide_eq_true this
    · cases hb
theorem md_of (X : K.In h) (N : h.Ns mainGlobals mg) (s : SaysH G fn ca tl w h K) (hca : ∀ d, ca = some d → catB G d = true) (hno : ca = none → G.ct = none) (hkw : kwB G = true) (hl : G.cl.length = fn.length) (hd : ∀ f d, fn[f]? = some d → defB G T tl f d = true) : Md (ctOf G tl K) G (csOf tl K) (fdsOf T) K mg := by
  have m := s.more
  unfold sayX at m
  simp only [Bool.and_eq_true, decide_eq_true_eq] at m
  obtain ⟨⟨⟨c1, cx⟩, _⟩, cn⟩ := m
  obtain ⟨c1, c6⟩ := He.ba c1
  obtain ⟨c1, c5⟩ := He.ba c1
  obtain ⟨c3, c4⟩ := He.ba c1
  refine ⟨rfl, fun i x d e => ?_, fun x hx => ?_, ?_, fun f x e => ?_, exm_of X N cx, cat_of X N s hca hno⟩
  · have q := List.all_eq_true.mp c6 (x, d) (List.mem_of_getElem? e)
    dsimp only at q
    split at q
    · rename_i u eu
      obtain ⟨a, b⟩ := cstB_ok (c := ctOf G tl K) rfl q
      exact ⟨u, vOf u, PySem.W.mg_of X N eu, a, b⟩
    · cases q
  · exact He.free_ok X N (List.all_eq_true.mp c4 x hx)
  · exact PySem.W.mg_of X N (He.eqO_ok c5)
  · have hg := He.glo_ok X N (List.all_eq_true.mp c3 x (List.mem_of_getElem? e))
    have ef : (ctOf G tl K).fad f = He.ga K x := by
      show He.ga K (G.cl.getD f "") = _
      rw [getD_at e]
    have hlt : f < fn.length := by
      rw [← hl]
      exact (List.getElem?_eq_some_iff.mp e).1
    have ed : fn[f]? = some fn[f] := List.getElem?_eq_getElem hlt
    have hb := hd f fn[f] ed
    generalize fn[f] = d at ed hb
    obtain ⟨fd, F⟩ := says_funD s (d := d) (List.mem_append_left _ (List.mem_of_getElem? ed))
    unfold defB at hb
    rw [e] at hb
    cases et : T[f]? with
    | none => rw [et] at hb; cases hb
    | some t =>
      rw [et] at hb
      simp only [Bool.and_eq_true, decide_eq_true_eq] at hb
      obtain ⟨⟨⟨⟨⟨⟨⟨⟨⟨⟨b1, b2⟩, b3⟩, b4⟩, b5⟩, b6⟩, b7⟩, b8⟩, b9⟩, b10⟩, b11⟩ := hb
      have b2 : d.dfl = [] := List.isEmpty_iff.mp b2
      have b3 : d.kwd = [] := List.isEmpty_iff.mp b3
      have f1 : d.dvs K = [] := by unfold He.DefD.dvs; rw [b2]; rfl
      rw [f1, b1] at F
      have F : FunD K d.name d.qual d.params d.body d.scope [] (d.kws K) (He.ga K x) fd := F
      rw [ef]
      obtain ⟨s1, s2⟩ := scopeB_ok b5
      refine ⟨hg, F.kp, fd, ⟨⟨d.name, d.qual, d.params, d.body, d.scope, d.kws K, t.N, t.fd, t.lm, by rw [ef]; exact F, by unfold fdsOf; rw [et]; rfl, by rw [b6]; exact s1, s2, b9, by rw [b6]; exact b7, b8, fun hlm => ?_⟩, by rw [b6]; exact binds_of F b4 b10, by rw [b6]; exact bA_of F b4 b10, fun n ks hm => ?_⟩⟩
      · rw [hlm] at b11
        have hm : ((x, none), d.qual ++ ".<locals>." ++ "<lambda>") ∈ tl := by simpa using b11
        obtain ⟨oc, od, dV, kV, doc, pm, an, cdv, ct, osl, rfl, lk, hcd, _, _⟩ := F.ex
        obtain ⟨cA, rfl⟩ := He.codeIn_ref hcd
        have ec : He.codeOf K (x, none) = cA := He.codeOf_eq (p := (x, none)) lk rfl
        refine ⟨cA, He.tabOf K cA, rfl, ?_, ?_, ?_⟩
        · rw [← ec]
          exact List.mem_map.mpr ⟨_, hm, rfl⟩
        · rw [← ec]
          exact List.mem_map.mpr ⟨_, hm, rfl⟩
        · intro p hp e1
          obtain ⟨q, hq, rfl⟩ := List.mem_map.mp hp
          rw [← ec] at e1
          rw [nodup_map_inj cn q hq _ hm e1]
      · have := List.all_eq_true.mp hkw _ hm
        dsimp only at this
        rw [b6] at this ⊢
        exact kb_of F b4 b10 this
theorem law_binds (M : Md (ctOf G tl K) G (csOf tl K) (fdsOf T) K mg) {f : Nat} {x : Str} (e : G.cl[f]? = some x) (ep : G.ps f = [("script" : Str)]) :
    ∃ fd, Df (ctOf G tl K) G (csOf tl K) (fdsOf T) K f fd ∧ ∀ (s : Shared) (u : Value), BindsTo s fd ⟨[u], []⟩ [("script", u)] := by
  obtain ⟨_, _, fd, d⟩ := M.fn f x e
  refine ⟨fd, d, fun s u => ?_⟩
  have := d.bA s [u] (by rw [ep]; rfl)
  rw [ep] at this
  exact this
end
end Sw

set_option linter.all false
set_option maxRecDepth 100000
set_option maxHeartbeats 2000000
namespace Sw
open PySem L2 PySem.Spec PyProof.Rows
theorem walk_t {l : PySem.W.OpenLaw} {n k : Nat} {q : Program} {loose : List Str} {XP : (Str → Option Value) → Heap → Prop} {YP : World → Heap → Prop} {d : DefRec} {CX : World → CXT} {x : Str}
    (hn : l.most = some n) (hn2 : n ≤ sizeLine) (hdf : d.params.defaults = []) (hr : Room k callerA)
    (F : ∀ (w : World) (mg : Str → Option Value) (fa : Addr) (h : Heap), YP w h → h.Ns mainGlobals mg → mg d.name = some (.ref fa) →
      ∃ (K : PySem.W.Frag) (fd : FuncData) (cs : List (Addr × Addr)) (sp : Sp), K.In h ∧ (∀ p ∈ cs, h.get? p.2 = some { cls := .none, data := .fields #[] }) ∧ (∀ p ∈ cs, K.lookup p.2 = none) ∧ (∀ p ∈ cs, PySem.W.CodeHd h p.1 p.2) ∧ (∀ (s : Shared) (u : Value), BindsTo s fd ⟨[u], []⟩ [(x, u)]) ∧
        (∀ (H : Hp) (a : Addr) (ns : List Int), ns.length ≤ n → (∀ z ∈ ns, Builtin.Int.intBits z ≤ 1048576) → (∀ p ∈ cs, H p.2 = some (.tbl #[])) → SqL K H a (ns.map V.int) → sp [.ref a] H (fun v _ => v = .bl true) fun _ _ _ => False) ∧
        ∀ base : Heap, K.In base → base.Ns mainGlobals mg → (∀ p ∈ cs, LamX.TabB base mg p.1 p.2) → FnOk l.prog w K mg base (CX w) k fa fd [x] sp)
    (hCX : ∀ (w : World) (H : Hp) (s : Shared) (e : Value) (s' : Shared), CX w [] H s (fun _ _ _ => False) e s' → False) :
    PySem.W.WalkO q loose XP YP l.row.toRowW d [] (fun f vs => PySem.call f vs) := by
  refine Att.attach_callB hn hdf fun w s₀ s₁ mg mb fa o pm cd doc a vs ns G Y ho hd hcd hmg hobj hints hlen hbits hg => ?_
  obtain ⟨K, fd, cs, sp, KX, hT, nT, C, hb, hsp, hF⟩ := F w mg fa _ Y G.T.g hmg
  exact LamX.law_callTs KX G.T.g G.T.b G.T.builtins G.T.nolimit hg hT nT C G.T.bmain hobj hints (Nat.le_trans hlen hn2) hr hF hb (fun H hH hS => hsp H a ns hlen hbits hH hS) fun H e s' => hCX w H s₁ e s'
theorem cx_no {P : Program} {w : World} (H : Hp) (s : Shared) (e : Value) (s' : Shared) (h : L2.CX P w [] H s (fun _ _ _ => False) e s') : False := by
  obtain ⟨a, B, H', cls, d, h⟩ := h
  exact h.2.2.2.2.2.2.2
theorem relSt_nil {c : Ct} {g : Gh} {H : Hp} (hT : LamX.Tabs c.T H) (hB : ∀ a, ¬ g.B a) : RelSt c g [] H := ⟨fun n o e => by simp at e, fun n m o o' e => by simp at e, fun a b => absurd b (hB a), hT⟩
section
variable {G : Gt} {T : List Ft} {fn : List He.DefD} {tl : List (He.Defn × Str)} {K : PySem.W.Frag}
theorem tabs_start {H : Hp} (h : ∀ p ∈ csOf tl K, H p.2 = some (.tbl #[])) : LamX.Tabs (tfT tl K) H := fun p hp => by
  obtain ⟨q, hq, rfl⟩ := List.mem_map.mp hp
  exact LamX.TabS.nil (h (He.cT K q.1) (List.mem_map.mpr ⟨q, hq, rfl⟩))
theorem law_sp {k f : Nat} {ns : List Int} {H : Hp} {a : Addr} {st : Store} (hT : ∀ p ∈ csOf tl K, H p.2 = some (.tbl #[])) (hS : SqL K H a (ns.map V.int)) (h : callK G (fdsOf T) k f [.v (.scr ns)] [] = .ok (.v (.bl true)) st) :
    spC (ctOf G tl K) (callK G (fdsOf T) k) f [.ref a] H (fun v _ => v = .bl true) fun _ _ _ => False := by
  have hR : RelSt (ctOf G tl K) ⟨fun _ => 0, fun _ => False⟩ [] H := relSt_nil (tabs_start hT) fun _ => id
  have nb : ∀ x, ¬ Bar (⟨fun _ => 0, fun _ => False⟩ : Gh) [] x := fun x => by
    rintro (⟨n, o, e, _⟩ | b)
    · simp at e
    · exact b
  refine ⟨⟨fun _ => 0, fun _ => False⟩, [], [.v (.scr ns)], hR, ⟨?_, trivial⟩, ?_⟩
  · simp only [RelSb, Rp]
    refine ⟨a, rfl, ?_⟩
    rcases hS with h | h
    · exact .inl ⟨nb a, h⟩
    · exact .inr h
  · rw [h]
    intro b H' g' R K' m
    simp only [RelS, RelSb, Rp] at m
    exact m
end
end Sw

set_option linter.all false
set_option maxRecDepth 100000
set_option maxHeartbeats 2000000
namespace Sw
open PySem
@[irreducible] def Res.sat {α : Type} (x : Res α) (Q : α → Store → Prop) : Prop := match x with
  | .ok a st => Q a st
  | _ => False
section
variable {α β : Type} {x : Res α} {f : α → Store → Res β} {Q Q' : α → Store → Prop} {R : β → Store → Prop} {st : Store}
@[simp] theorem Res.sat_ok {a : α} : (Res.ok a st).sat Q = Q a st := by unfold Res.sat; rfl
@[simp] theorem Res.sat_bad : (Res.bad : Res α).sat Q = False := by unfold Res.sat; rfl
@[simp] theorem Res.sat_ex {c : Nat} {fs : List Str} {vs : List D} : (Res.ex c fs vs st : Res α).sat Q = False := by unfold Res.sat; rfl
theorem Res.sat_in {a : α} (h : Q a st) : (Res.ok a st).sat Q := by rw [Res.sat_ok]; exact h
theorem Res.sat_bind : (x.bind f).sat R = x.sat fun a st => (f a st).sat R := by cases x <;> simp
theorem Res.sat.mono (h : x.sat Q) (i : ∀ a st, Q a st → Q' a st) : x.sat Q' := by
  cases x with
  | ok a st => simp only [Res.sat_ok] at h ⊢; exact i a st h
  | _ => simp at h
theorem Res.sat.eq {v : α} (h : x.sat fun a st' => a = v ∧ st' = st) : x = .ok v st := by
  cases x with
  | ok a st' =>
    simp only [Res.sat_ok] at h
    obtain ⟨h1, h2⟩ := h
    rw [h1, h2]
  | _ => simp at h
theorem Res.sat.ex (h : x.sat Q) : ∃ a st, x = .ok a st ∧ Q a st := by
  cases x with
  | ok a st => simp only [Res.sat_ok] at h; exact ⟨a, st, rfl, h⟩
  | _ => simp at h
theorem Res.sat_nox : x.nox.sat Q = x.sat Q := by cases x <;> simp [Res.nox]
theorem Res.sat_ite {c : Prop} [Decidable c] {x y : Res α} : (if c then x else y).sat Q = if c then x.sat Q else y.sat Q := by split <;> rfl
end
section
variable {G : Gt} {F : Nat → Option Fd} {C : Nat → List S → Store → Res S}
def retOf (x : Res (Env × Fl)) : Res S := x.bind fun p st1 => match p.2 with
  | .rt s => .ok s st1
  | .nx => .ok (.v .non) st1
  | _ => .bad
@[simp] theorem retOf_rt {ρ : Env} {s : S} {st : Store} : retOf (.ok (ρ, .rt s) st) = .ok s st := rfl
@[simp] theorem retOf_nx {ρ : Env} {st : Store} : retOf (.ok (ρ, .nx) st) = .ok (.v .non) st := rfl
theorem callK_at {k f : Nat} {d : Fd} {xs : List S} {st : Store} (h : F f = some d) (hl : xs.length = d.np) : callK G F (k + 1) f xs st = trunc st.length (G.keep.contains f) (retOf (exSs G (callK G F k) d.body (xs.map some ++ List.replicate (d.nn - d.np) none) st)) := by
  simp only [callK, h, if_pos hl]
  rfl
theorem call_sat {k f : Nat} {d : Fd} {xs : List S} {st : Store} {Q : S → Store → Prop} (h : F f = some d) (hl : xs.length = d.np) (hk : G.keep.contains f = false)
    (hs : (exSs G (callK G F k) d.body (xs.map some ++ List.replicate (d.nn - d.np) none) st).sat fun p st1 => (∃ v, p.2 = .rt (.v v) ∧ Q (.v v) (st1.take st.length)) ∨ p.2 = .nx ∧ Q (.v .non) (st1.take st.length)) : (callK G F (k + 1) f xs st).sat Q := by
  rw [callK_at h hl, hk]
  obtain ⟨p, st1, e, q⟩ := hs.ex
  rw [e]
  obtain ⟨ρ, fl⟩ := p
  rcases q with ⟨v, e2, q⟩ | ⟨e2, q⟩
  · dsimp only at e2
    subst e2
    exact Res.sat_in q
  · dsimp only at e2
    subst e2
    exact Res.sat_in q
theorem call_eq {k f : Nat} {d : Fd} {xs : List S} {st : Store} {v : D} (h : F f = some d) (hl : xs.length = d.np) (hk : G.keep.contains f = false)
    (hs : (exSs G (callK G F k) d.body (xs.map some ++ List.replicate (d.nn - d.np) none) st).sat fun p st1 => (p.2 = .rt (.v v) ∨ p.2 = .nx ∧ v = .non) ∧ st1.take st.length = st) : callK G F (k + 1) f xs st = .ok (.v v) st := by
  refine Res.sat.eq (call_sat h hl hk (hs.mono fun p st1 q => ?_))
  obtain ⟨q1, q2⟩ := q
  rcases q1 with q1 | ⟨q1, rfl⟩
  · exact .inl ⟨v, q1, rfl, q2⟩
  · exact .inr ⟨q1, rfl, q2⟩
variable {ρ : Env} {st : Store} {Q : Env × Fl → Store → Prop}
theorem exS_asg {t : Tg} {e : E} : exS G C (.asg t e) ρ st = (evE G C e ρ st).bind fun x st1 => need ((asgT t x ρ).map fun ρ' => (ρ', Fl.nx)) st1 := by simp only [exS]
theorem exS_par {is : List Nat} {es : Es} : exS G C (.par is es) ρ st = (evEs G C es ρ st).bind fun xs st1 => need ((setAll is xs ρ).map fun ρ' => (ρ', Fl.nx)) st1 := by simp only [exS]
theorem exS_setix {o i e : E} : exS G C (.setix o i e) ρ st = (evE G C e ρ st).bind fun x st1 => (evE G C o ρ st1).bind fun y st2 => (evE G C i ρ st2).bind fun z st3 => (setSem y z x st3).bind fun _ st4 => .ok (ρ, .nx) st4 := by simp only [exS]
theorem exS_expr {e : E} : exS G C (.expr e) ρ st = (evE G C e ρ st).bind fun _ st1 => .ok (ρ, .nx) st1 := by simp only [exS]
theorem exS_ret {e : E} : exS G C (.ret e) ρ st = (evE G C e ρ st).bind fun x st1 => .ok (ρ, .rt x) st1 := by simp only [exS]
theorem exS_retN : exS G C .retN ρ st = .ok (ρ, .rt (.v .non)) st := by simp only [exS]
theorem exS_ite {c : Cd} {a b : Ss} : exS G C (.ite c a b) ρ st = (evC G C c ρ st).bind fun k st1 => if k then exSs G C a ρ st1 else exSs G C b ρ st1 := by simp only [exS]
theorem exS_pass : exS G C .pass ρ st = .ok (ρ, .nx) st := by simp only [exS]
theorem exS_brk : exS G C .brk ρ st = .ok (ρ, .bk) st := by simp only [exS]
theorem exS_cont : exS G C .cont ρ st = .ok (ρ, .ct) st := by simp only [exS]
theorem exS_thr {c : Nat} {f : Option Str} {es : Es} : exS G C (.thr c f es) ρ st = (evEs G C es ρ st).bind fun xs st1 => (match f, xs with
    | none, [.v _] => .ex c [] [] st1
    | some f, [.v d] => .ex c [f] [d] st1
    | _, _ => .bad) := by
  simp only [exS] <;> rfl
theorem evFr_disp {es : Es} : evFr G C (.disp es) ρ st = evEs G C es ρ st := by simp only [evFr]
theorem evFr_lof {e : E} : evFr G C (.lof e) ρ st = (evE G C e ρ st).bind fun x st1 => need (items x st1) st1 := by simp only [evFr]
theorem evFr_add {a b : E} : evFr G C (.add a b) ρ st = (evE G C a ρ st).bind fun x st1 => (evE G C b ρ st1).bind fun y st2 => (match lstI x st2, lstI y st2 with
    | some xs, some ys => if xs.length + ys.length ≤ sizeLine then .ok (xs ++ ys) st2 else .bad
    | _, _ => .bad) := by
  simp only [evFr] <;> rfl
theorem evFr_lzip {a b : E} : evFr G C (.lzip a b) ρ st = (evE G C a ρ st).bind fun x st1 => (evE G C b ρ st1).bind fun y st2 => need (lzSem x y st2) st2 := by simp only [evFr]
def after (G : Gt) (C : Nat → List S → Store → Res S) (r : Ss) (Q : Env × Fl → Store → Prop) (p : Env × Fl) (st : Store) : Prop := match p.2 with
  | .nx => (exSs G C r p.1 st).sat Q
  | _ => Q p st
theorem after_nx {r : Ss} : after G C r Q (ρ, .nx) st = (exSs G C r ρ st).sat Q := rfl
theorem after_rt {r : Ss} {s : S} : after G C r Q (ρ, .rt s) st = Q (ρ, .rt s) st := rfl
theorem after_bk {r : Ss} : after G C r Q (ρ, .bk) st = Q (ρ, .bk) st := rfl
theorem after_ct {r : Ss} : after G C r Q (ρ, .ct) st = Q (ρ, .ct) st := rfl
theorem sat_nil : (exSs G C .nil ρ st).sat Q = Q (ρ, .nx) st := by simp only [exSs, Res.sat_ok]
theorem sat_cons {s : St} {r : Ss} : (exSs G C (.cons s r) ρ st).sat Q = (exS G C s ρ st).sat (after G C r Q) := by
  simp only [exSs, Res.sat_bind]
  congr 1
  funext p st1
  obtain ⟨ρ1, fl⟩ := p
  cases fl with
  | nx => rfl
  | rt s => exact Res.sat_ok
  | bk => exact Res.sat_ok
  | ct => exact Res.sat_ok
def brn (G : Gt) (C : Nat → List S → Store → Res S) (a b : Ss) (ρ : Env) (Q : Env × Fl → Store → Prop) (k : Bool) (st : Store) : Prop := (if k then exSs G C a ρ st else exSs G C b ρ st).sat Q
theorem brn_true {a b : Ss} : brn G C a b ρ Q true st = (exSs G C a ρ st).sat Q := rfl
theorem brn_false {a b : Ss} : brn G C a b ρ Q false st = (exSs G C b ρ st).sat Q := rfl
theorem sat_ifs {c : Cd} {a b : Ss} : (exS G C (.ite c a b) ρ st).sat Q = (evC G C c ρ st).sat (brn G C a b ρ Q) := by
  simp only [exS, Res.sat_bind]
  rfl
theorem compR_sat {w : Wk} {one : List S → Store → Res (Option S)} {α : Type} {mk : α → List S} {P : List S → List α → Store → Prop} {Q : List S → Store → Prop} (hs : ∀ acc r st', P acc r st' → w.stands st')
    (step : ∀ acc a r st', P acc (a :: r) st' → (one (mk a) st').sat fun o st2 => (match o with
      | some s => P (acc ++ [s]) r st2
      | none => P acc r st2)) (hQ : ∀ acc st', P acc [] st' → Q acc st') : ∀ (l : List α) (acc : List S) (st : Store), P acc l st → (compR w one (l.map mk) acc st).sat Q
  | [], acc, st, h => by
    simp only [List.map_nil, compR, if_pos (hs _ _ _ h)]
    exact Res.sat_in (hQ _ _ h)
  | a :: r, acc, st, h => by
    simp only [List.map_cons, compR, if_pos (hs _ _ _ h)]
    rw [Res.sat_bind]
    refine (step _ _ _ _ h).mono fun o st2 q => ?_
    cases o with
    | some s => exact compR_sat hs step hQ r _ _ q
    | none => exact compR_sat hs step hQ r _ _ q
noncomputable def oneR (G : Gt) (C : Nat → List S → Store → Res S) (w : Wk) (el : E) (tg : Tg) (vs : List Nat) (c : Oc) (ρ : Env) (row : List S) (st2 : Store) : Res (Option S) := match w.asg tg row (wipe ρ vs) with
  | none => .bad
  | some ρ2 => (evOc G C c ρ2 st2).bind fun b st3 => if b then (evE G C el ρ2 st3).bind fun x st4 => .ok (some x) st4 else .ok none st3
theorem comp_run {α : Type} (l : List α) (mk : α → List S) (P : List S → List α → Store → Prop) {el : E} {tg : Tg} {vs : List Nat} {it : It} {c : Oc} {w : Wk} {st1 : Store} {Q : List S → Store → Prop} (hw : evIt G C it ρ st = .ok w st1) (hr : w.rows = l.map mk) (h0 : P [] l st1)
    (hs : ∀ acc r st', P acc r st' → w.stands st') (step : ∀ acc a r st', P acc (a :: r) st' → (oneR G C w el tg vs c ρ (mk a) st').sat fun o st2 => (match o with
      | some s => P (acc ++ [s]) r st2
      | none => P acc r st2)) (hQ : ∀ acc st', P acc [] st' → Q acc st') : (evFr G C (.comp el tg vs it c) ρ st).sat Q := by
  simp only [evFr, hw, Res.bind_ok, hr]
  refine compR_sat hs (fun acc a r st' h => ?_) hQ l [] st1 h0
  rw [Res.sat_nox]
  exact step acc a r st' h
theorem comp_pure {α : Type} (l : List α) (mk : α → List S) (g : α → Option S) {el : E} {tg : Tg} {vs : List Nat} {it : It} {c : Oc} {w : Wk} {st1 : Store} {Q : List S → Store → Prop} (hw : evIt G C it ρ st = .ok w st1) (hr : w.rows = l.map mk) (hs : w.stands st1)
    (hb : ∀ a ∈ l, oneR G C w el tg vs c ρ (mk a) st1 = .ok (g a) st1) (hQ : Q (l.filterMap g) st1) : (evFr G C (.comp el tg vs it c) ρ st).sat Q := by
  refine comp_run l mk (fun acc r st' => st' = st1 ∧ ∃ l0, l0 ++ r = l ∧ acc = l0.filterMap g) hw hr ⟨rfl, [], rfl, rfl⟩ (fun acc r st' h => by rw [h.1]; exact hs) (fun acc a r st' h => ?_) fun acc st' h => ?_
  · obtain ⟨rfl, l0, e, rfl⟩ := h
    rw [hb a (by rw [← e]; simp)]
    refine Res.sat_in ?_
    cases ga : g a with
    | some s => exact ⟨rfl, l0 ++ [a], by simpa using e, by simp [ga]⟩
    | none => exact ⟨rfl, l0 ++ [a], by simpa using e, by simp [ga]⟩
  · obtain ⟨rfl, l0, e, rfl⟩ := h
    rw [List.append_nil] at e
    subst e
    exact hQ
theorem forR_sat {w : Wk} {t : Tg} {body : Env → Store → Res (Env × Fl)} {α : Type} {mk : α → List S} {Inv : List α → Env → Store → Prop} (hs : ∀ r ρ' st', Inv r ρ' st' → w.stands st')
    (step : ∀ a r ρ' st', Inv (a :: r) ρ' st' → ∃ ρ1, w.asg t (mk a) ρ' = some ρ1 ∧ (body ρ1 st').sat fun p st2 => ((p.2 = .nx ∨ p.2 = .ct) ∧ Inv r p.1 st2) ∨ (∃ s, p.2 = .rt s ∧ Q (p.1, .rt s) st2) ∨ p.2 = .bk ∧ Q (p.1, .nx) st2) (hQ : ∀ ρ' st', Inv [] ρ' st' → Q (ρ', .nx) st') :
    ∀ (l : List α) (ρ : Env) (st : Store), Inv l ρ st → (forR w t body (l.map mk) ρ st).sat Q
  | [], ρ, st, h => by
    simp only [List.map_nil, forR, if_pos (hs _ _ _ h)]
    exact Res.sat_in (hQ _ _ h)
  | a :: r, ρ, st, h => by
    simp only [List.map_cons, forR, if_pos (hs _ _ _ h)]
    obtain ⟨ρ1, e, z⟩ := step a r ρ st h
    rw [e]
    dsimp only
    rw [Res.sat_bind]
    refine z.mono fun p st2 q => ?_
    obtain ⟨ρ2, fl⟩ := p
    dsimp only at q ⊢
    rcases q with ⟨q1 | q1, q2⟩ | ⟨s, q1, q2⟩ | ⟨q1, q2⟩ <;> subst q1
    · exact forR_sat hs step hQ r _ _ q2
    · exact forR_sat hs step hQ r _ _ q2
    · exact Res.sat_in q2
    · exact Res.sat_in q2
theorem for_run {α : Type} (l : List α) (mk : α → List S) (Inv : List α → Env → Store → Prop) {t : Tg} {it : It} {b : Ss} {w : Wk} {st1 : Store} (hw : evIt G C it ρ st = .ok w st1) (hr : w.rows = l.map mk) (h0 : Inv l ρ st1) (hs : ∀ r ρ' st', Inv r ρ' st' → w.stands st')
    (step : ∀ a r ρ' st', Inv (a :: r) ρ' st' → ∃ ρ1, w.asg t (mk a) ρ' = some ρ1 ∧ (exSs G C b ρ1 st').sat fun p st2 => ((p.2 = .nx ∨ p.2 = .ct) ∧ Inv r p.1 st2) ∨ (∃ s, p.2 = .rt s ∧ Q (p.1, .rt s) st2) ∨ p.2 = .bk ∧ Q (p.1, .nx) st2) (hQ : ∀ ρ' st', Inv [] ρ' st' → Q (ρ', .nx) st') :
    (exS G C (.for_ t it b) ρ st).sat Q := by
  simp only [exS, hw, Res.bind_ok, hr]
  exact forR_sat hs step hQ l ρ st1 h0
theorem whileN_det {c : Env → Store → Res Bool} {body : Env → Store → Res (Env × Fl)} : ∀ {n m : Nat} {ρ : Env} {st : Store} {r r' : Res (Env × Fl)}, whileN c body n ρ st = some r → whileN c body m ρ st = some r' → r = r'
  | 0, _, _, _, _, _, h, _ => by simp [whileN] at h
  | _ + 1, 0, _, _, _, _, _, h => by simp [whileN] at h
  | n + 1, m + 1, ρ, st, r, r', h, h' => by
    simp only [whileN] at h h'
    cases ec : c ρ st with
    | ok k st1 =>
      rw [ec] at h h'
      cases k with
      | false => simp only [Option.some.injEq] at h h'; rw [← h, ← h']
      | true =>
        cases eb : body ρ st1 with
        | ok p st2 =>
          obtain ⟨ρ2, fl⟩ := p
          simp only [eb] at h h'
          cases fl with
          | rt s => simp only [Option.some.injEq] at h h'; rw [← h, ← h']
          | bk => simp only [Option.some.injEq] at h h'; rw [← h, ← h']
          | nx => exact whileN_det h h'
          | ct => exact whileN_det h h'
        | ex a b d e => simp only [eb, Option.some.injEq] at h h'; rw [← h, ← h']
        | bad => simp only [eb, Option.some.injEq] at h h'; rw [← h, ← h']
    | ex a b d e => rw [ec] at h h'; simp only [Option.some.injEq] at h h'; rw [← h, ← h']
    | bad => rw [ec] at h h'; simp only [Option.some.injEq] at h h'; rw [← h, ← h']
theorem whileR_of {c : Env → Store → Res Bool} {body : Env → Store → Res (Env × Fl)} {n : Nat} {r : Res (Env × Fl)} (h : whileN c body n ρ st = some r) : whileR c body ρ st = r := by
  have hx : ∃ n r, whileN c body n ρ st = some r := ⟨n, r, h⟩
  unfold whileR
  rw [dif_pos hx]
  exact whileN_det hx.choose_spec.choose_spec h
theorem whl_run (Inv : Nat → Env → Store → Prop) {c : Cd} {b : Ss} {n0 : Nat} (h0 : Inv n0 ρ st)
    (step : ∀ n ρ' st', Inv n ρ' st' → (evC G C c ρ' st').sat fun k st1 => (k = true ∧ (exSs G C b ρ' st1).sat fun p st2 => ((p.2 = .nx ∨ p.2 = .ct) ∧ ∃ m, m < n ∧ Inv m p.1 st2) ∨ (∃ s, p.2 = .rt s ∧ Q (p.1, .rt s) st2) ∨ p.2 = .bk ∧ Q (p.1, .nx) st2) ∨ k = false ∧ Q (ρ', .nx) st1) :
    (exS G C (.whl c b) ρ st).sat Q := by
  have key : ∀ n ρ' st', Inv n ρ' st' → ∃ m r, whileN (fun ρ2 st2 => evC G C c ρ2 st2) (fun ρ2 st2 => exSs G C b ρ2 st2) m ρ' st' = some r ∧ r.sat Q := by
    intro n
    induction n using Nat.strongRecOn with
    | _ n ih =>
      intro ρ' st' h
      obtain ⟨k, st1, ec, q⟩ := (step n ρ' st' h).ex
      rcases q with ⟨rfl, q⟩ | ⟨rfl, q⟩
      · obtain ⟨p, st2, eb, q⟩ := q.ex
        obtain ⟨ρ2, fl⟩ := p
        dsimp only at q
        rcases q with ⟨q1 | q1, m, hm, q2⟩ | ⟨s, q1, q2⟩ | ⟨q1, q2⟩ <;> subst q1
        · obtain ⟨m2, r, e, z⟩ := ih m hm ρ2 st2 q2
          exact ⟨m2 + 1, r, by simp only [whileN, ec, eb]; exact e, z⟩
        · obtain ⟨m2, r, e, z⟩ := ih m hm ρ2 st2 q2
          exact ⟨m2 + 1, r, by simp only [whileN, ec, eb]; exact e, z⟩
        · exact ⟨1, .ok (ρ2, .rt s) st2, by simp only [whileN, ec, eb], Res.sat_in q2⟩
        · exact ⟨1, .ok (ρ2, .nx) st2, by simp only [whileN, ec, eb], Res.sat_in q2⟩
      · exact ⟨1, .ok (ρ', .nx) st1, by simp only [whileN, ec], Res.sat_in q⟩
  obtain ⟨m, r, e, z⟩ := key n0 ρ st h0
  simp only [exS]
  rw [whileR_of e]
  exact z
theorem evIt_sq {α : Type} (l : List α) (mk : α → D) {e : E} {x : D} {st1 : Store} (he : evE G C e ρ st = .ok (.v x) st1) (hx : x = .lst (l.map mk) ∨ x = .tup (l.map mk)) :
    evIt G C (.sq e) ρ st = .ok ⟨l.map fun a => [S.v (mk a)], false, []⟩ st1 := by
  simp only [evIt, he, Res.bind_ok]
  rcases hx with rfl | rfl <;> simp [walkSq, items, srcOf, need, List.map_map] <;> rfl
theorem evIt_zip {α β : Type} (l : List α) (l2 : List β) (mk : α → D) (mk2 : β → D) {e e2 : E} {x y : D} {st1 st2 : Store} (he : evE G C e ρ st = .ok (.v x) st1) (he2 : evE G C e2 ρ st1 = .ok (.v y) st2) (hx : x = .lst (l.map mk) ∨ x = .tup (l.map mk)) (hy : y = .lst (l2.map mk2) ∨ y = .tup (l2.map mk2)) :
    evIt G C (.zip e e2) ρ st = .ok ⟨(l.zip l2).map fun p => [S.v (mk p.1), S.v (mk2 p.2)], true, []⟩ st2 := by
  simp only [evIt, he, he2, Res.bind_ok]
  have key : (((l.map mk).map S.v).zip ((l2.map mk2).map S.v)).map (fun p => [p.1, p.2]) = (l.zip l2).map fun p => [S.v (mk p.1), S.v (mk2 p.2)] := by
    rw [List.map_map, List.map_map, List.zip_map, List.map_map]
    rfl
  rcases hx with rfl | rfl <;> rcases hy with rfl | rfl <;> simp only [walkZip, items, Option.bind_some, Option.map_some, need_some, srcOf, List.nil_append, key]
theorem evIt_rngE {e : E} : evIt G C (.rng e) ρ st = (evE G C e ρ st).bind fun x st1 => match x with
    | .v (.int n) => need (walkRng 0 n) st1
    | _ => .bad := by
  simp only [evIt] <;> rfl
theorem evIt_rng0 (n : Int) {e : E} {st1 : Store} (r : Option Wk) (hr : walkRng 0 n = r) (he : evE G C e ρ st = .ok (.v (.int n)) st1) : evIt G C (.rng e) ρ st = need r st1 := by
  rw [evIt_rngE, he, ← hr]
  rfl
theorem evIt_rng (n : Nat) {e : E} {st1 : Store} (he : evE G C e ρ st = .ok (.v (.int n)) st1) (hn : n ≤ 1000) : evIt G C (.rng e) ρ st = .ok ⟨(List.range n).map fun i => [S.v (.int (i : Nat))], false, []⟩ st1 := by
  have hz : ((n : Int) - 0).toNat ≤ sizeLine := by
    rw [Int.sub_zero, Int.toNat_natCast, sizeLine_eq]
    omega
  have hc : -(2 ^ 62) ≤ (0 : Int) ∧ (0 : Int) < 2 ^ 62 ∧ -(2 ^ 62) ≤ (n : Int) ∧ (n : Int) < 2 ^ 62 ∧ ((n : Int) - 0).toNat ≤ sizeLine := ⟨by decide, by decide, by omega, by omega, hz⟩
  have hw : walkRng 0 n = some ⟨rngRows 0 n, false, []⟩ := if_pos hc
  have hr : rngRows 0 n = (List.range n).map fun i => [S.v (.int (i : Nat))] := by
    unfold rngRows
    rw [Int.sub_zero, Int.toNat_natCast]
    refine List.map_congr_left fun i _ => ?_
    rw [Int.zero_add]
  rw [hr] at hw
  exact evIt_rng0 (n : Int) _ hw he
theorem for_sq {α : Type} (l : List α) (mk : α → D) (Inv : List α → Env → Store → Prop) {t : Tg} {e : E} {b : Ss} {x : D} {st1 : Store} (he : evE G C e ρ st = .ok (.v x) st1) (hx : x = .lst (l.map mk) ∨ x = .tup (l.map mk)) (h0 : Inv l ρ st1)
    (step : ∀ a r ρ' st', Inv (a :: r) ρ' st' → ∃ ρ1, asgT t (.v (mk a)) ρ' = some ρ1 ∧ (exSs G C b ρ1 st').sat fun p st2 => ((p.2 = .nx ∨ p.2 = .ct) ∧ Inv r p.1 st2) ∨ (∃ s, p.2 = .rt s ∧ Q (p.1, .rt s) st2) ∨ p.2 = .bk ∧ Q (p.1, .nx) st2) (hQ : ∀ ρ' st', Inv [] ρ' st' → Q (ρ', .nx) st') :
    (exS G C (.for_ t (.sq e) b) ρ st).sat Q :=
  for_run l (fun a => [S.v (mk a)]) Inv (evIt_sq l mk he hx) rfl h0 (fun _ _ _ _ p hp => nomatch hp) step hQ
theorem for_rng (n : Nat) (Inv : List Nat → Env → Store → Prop) {t : Tg} {e : E} {b : Ss} {st1 : Store} (he : evE G C e ρ st = .ok (.v (.int n)) st1) (hn : n ≤ 1000) (h0 : Inv (List.range n) ρ st1)
    (step : ∀ a r ρ' st', Inv (a :: r) ρ' st' → ∃ ρ1, asgT t (.v (.int (a : Nat))) ρ' = some ρ1 ∧ (exSs G C b ρ1 st').sat fun p st2 => ((p.2 = .nx ∨ p.2 = .ct) ∧ Inv r p.1 st2) ∨ (∃ s, p.2 = .rt s ∧ Q (p.1, .rt s) st2) ∨ p.2 = .bk ∧ Q (p.1, .nx) st2) (hQ : ∀ ρ' st', Inv [] ρ' st' → Q (ρ', .nx) st') :
    (exS G C (.for_ t (.rng e) b) ρ st).sat Q :=
  for_run (List.range n) (fun i => [S.v (.int (i : Nat))]) Inv (evIt_rng n he hn) rfl h0 (fun _ _ _ _ p hp => nomatch hp) step hQ
theorem comp_sq {α : Type} (l : List α) (mk : α → D) (g : α → Option S) {e el : E} {tg : Tg} {vs : List Nat} {c : Oc} {x : D} {st1 : Store} {Q : List S → Store → Prop} (he : evE G C e ρ st = .ok (.v x) st1) (hx : x = .lst (l.map mk) ∨ x = .tup (l.map mk))
    (hb : ∀ a ∈ l, ((match asgT tg (.v (mk a)) (wipe ρ vs) with
      | none => .bad
      | some ρ2 => (evOc G C c ρ2 st1).bind fun b st3 => if b then (evE G C el ρ2 st3).bind fun x st4 => .ok (some x) st4 else .ok none st3) : Res (Option S)) = .ok (g a) st1) (hQ : Q (l.filterMap g) st1) : (evFr G C (.comp el tg vs (.sq e) c) ρ st).sat Q :=
  comp_pure l (fun a => [S.v (mk a)]) g (evIt_sq l mk he hx) rfl (fun p hp => nomatch hp) hb hQ
theorem comp_zip {α β : Type} (l : List α) (l2 : List β) (mk : α → D) (mk2 : β → D) (g : α × β → Option S) {e e2 el : E} {tg : Tg} {vs : List Nat} {c : Oc} {x y : D} {st1 st2 : Store} {Q : List S → Store → Prop} (he : evE G C e ρ st = .ok (.v x) st1) (he2 : evE G C e2 ρ st1 = .ok (.v y) st2)
    (hx : x = .lst (l.map mk) ∨ x = .tup (l.map mk)) (hy : y = .lst (l2.map mk2) ∨ y = .tup (l2.map mk2))
    (hb : ∀ p ∈ l.zip l2, ((match asgL tg [.v (mk p.1), .v (mk2 p.2)] (wipe ρ vs) with
      | none => .bad
      | some ρ2 => (evOc G C c ρ2 st2).bind fun b st3 => if b then (evE G C el ρ2 st3).bind fun x st4 => .ok (some x) st4 else .ok none st3) : Res (Option S)) = .ok (g p) st2) (hQ : Q ((l.zip l2).filterMap g) st2) : (evFr G C (.comp el tg vs (.zip e e2) c) ρ st).sat Q :=
  comp_pure (l.zip l2) (fun p => [S.v (mk p.1), S.v (mk2 p.2)]) g (evIt_zip l l2 mk mk2 he he2 hx hy) rfl (fun p hp => nomatch hp) hb hQ
theorem comp_rng (n : Nat) (g : Nat → Option S) {e el : E} {tg : Tg} {vs : List Nat} {c : Oc} {st1 : Store} {Q : List S → Store → Prop} (he : evE G C e ρ st = .ok (.v (.int n)) st1) (hn : n ≤ 1000)
    (hb : ∀ a ∈ List.range n, ((match asgT tg (.v (.int (a : Nat))) (wipe ρ vs) with
      | none => .bad
      | some ρ2 => (evOc G C c ρ2 st1).bind fun b st3 => if b then (evE G C el ρ2 st3).bind fun x st4 => .ok (some x) st4 else .ok none st3) : Res (Option S)) = .ok (g a) st1) (hQ : Q ((List.range n).filterMap g) st1) : (evFr G C (.comp el tg vs (.rng e) c) ρ st).sat Q :=
  comp_pure (List.range n) (fun i => [S.v (.int (i : Nat))]) g (evIt_rng n he hn) rfl (fun p hp => nomatch hp) hb hQ
theorem comp_sqP {α : Type} (l : List α) (mk : α → D) (P : List S → List α → Store → Prop) {e el : E} {tg : Tg} {vs : List Nat} {c : Oc} {x : D} {st1 : Store} {Q : List S → Store → Prop} (he : evE G C e ρ st = .ok (.v x) st1) (hx : x = .lst (l.map mk) ∨ x = .tup (l.map mk)) (h0 : P [] l st1)
    (step : ∀ acc a r st', P acc (a :: r) st' → ((match asgT tg (.v (mk a)) (wipe ρ vs) with
      | none => .bad
      | some ρ2 => (evOc G C c ρ2 st').bind fun b st3 => if b then (evE G C el ρ2 st3).bind fun x st4 => .ok (some x) st4 else .ok none st3) : Res (Option S)).sat fun o st2 => (match o with
      | some s => P (acc ++ [s]) r st2
      | none => P acc r st2)) (hQ : ∀ acc st', P acc [] st' → Q acc st') : (evFr G C (.comp el tg vs (.sq e) c) ρ st).sat Q :=
  comp_run l (fun a => [S.v (mk a)]) P (evIt_sq l mk he hx) rfl h0 (fun _ _ _ _ p hp => nomatch hp) step hQ
theorem comp_rngP (n : Nat) (P : List S → List Nat → Store → Prop) {e el : E} {tg : Tg} {vs : List Nat} {c : Oc} {st1 : Store} {Q : List S → Store → Prop} (he : evE G C e ρ st = .ok (.v (.int n)) st1) (hn : n ≤ 1000) (h0 : P [] (List.range n) st1)
    (step : ∀ acc a r st', P acc (a :: r) st' → ((match asgT tg (.v (.int (a : Nat))) (wipe ρ vs) with
      | none => .bad
      | some ρ2 => (evOc G C c ρ2 st').bind fun b st3 => if b then (evE G C el ρ2 st3).bind fun x st4 => .ok (some x) st4 else .ok none st3) : Res (Option S)).sat fun o st2 => (match o with
      | some s => P (acc ++ [s]) r st2
      | none => P acc r st2)) (hQ : ∀ acc st', P acc [] st' → Q acc st') : (evFr G C (.comp el tg vs (.rng e) c) ρ st).sat Q :=
  comp_run (List.range n) (fun i => [S.v (.int (i : Nat))]) P (evIt_rng n he hn) rfl h0 (fun _ _ _ _ p hp => nomatch hp) step hQ
theorem depAll_nil : D.depAll [] = 0 := rfl
theorem get_app {α : Type} {l r : List α} {a : α} : (l ++ a :: r)[l.length]? = some a := by simp
theorem set_app {α : Type} {l r : List α} {a b : α} : (l ++ a :: r).set l.length b = l ++ b :: r := by
  rw [List.set_append_right _ _ (Nat.le_refl _)]
  simp
theorem get_app1 {α : Type} {l r : List α} {a b : α} : (l ++ a :: b :: r)[l.length + 1]? = some b := by
  rw [List.getElem?_append_right (by omega)]
  simp
theorem get_map_last {α β : Type} {f : α → β} {l : List α} {a : β} : (List.map f l ++ [a])[l.length]? = some a := by
  rw [List.getElem?_append_right (by simp)]
  simp
theorem allV_map : ∀ ds : List D, allV (ds.map S.v) = some ds
  | [] => rfl
  | d :: ds => by simp only [List.map_cons, allV, allV_map ds, Option.map_some]
theorem allV_mapF {α : Type} (mk : α → D) (l : List α) : allV (l.map fun a => S.v (mk a)) = some (l.map mk) := by
  have := allV_map (l.map mk)
  rw [List.map_map] at this
  exact this
theorem filterMap_someF {α β : Type} (mk : α → β) (l : List α) : (l.filterMap fun a => some (mk a)) = l.map mk := by
  induction l with
  | nil => rfl
  | cons a l ih => simp [ih]
theorem filterMap_ite {α β : Type} (p : α → Bool) (mk : α → β) (l : List α) : (l.filterMap fun a => if p a then some (mk a) else none) = (l.filter p).map mk := by
  induction l with
  | nil => rfl
  | cons a l ih =>
    rw [List.filterMap_cons, List.filter_cons]
    cases p a <;> simp [ih]
end
end Sw

set_option linter.all false
set_option maxRecDepth 100000
set_option maxHeartbeats 2000000
namespace Sw
open PySem
def B_is_whole : Fd := ⟨1, 1, (.cons (.ret (.andv (.cons (.isi (.var 0) [.int] false) (.cons (.not (.isi (.var 0) [.bool] false)) .nil)))) .nil)⟩
def B_is_ratio (c_is_whole : Nat) : Fd := ⟨1, 2, (.cons (.ite (.or (.cons (.not (.val (.isi (.var 0) [.tuple] false))) (.cons (.cmp .ne (.bl .len (.cons (.var 0) .nil)) (.cint (2))) (.cons (.not (.val (.bl .all (.cons (.fr (.comp (.call c_is_whole (.cons (.var 1) .nil)) (.one 1) [1] (.sq (.var 0)) .no)) .nil)))) .nil)))) (.cons (.ret (.cbl false)) .nil) .nil) (.cons (.ret (.andv (.cons (.cmp .gt (.ix (.var 0) (.cint (1))) (.cint (0))) (.cons (.cmp .eq (.bl .gcd (.cons (.ix (.var 0) (.cint (0))) (.cons (.ix (.var 0) (.cint (1))) .nil))) (.cint (1))) .nil)))) .nil))⟩
def B_lowest : Fd := ⟨2, 3, (.cons (.asg (.one 2) (.ife (.cmp .gt (.var 1) (.cint (0))) (.bl .gcd (.cons (.var 0) (.cons (.var 1) .nil))) (.neg (.bl .gcd (.cons (.var 0) (.cons (.var 1) .nil)))))) (.cons (.ret (.tup (.cons (.bop .fdiv (.var 0) (.var 2)) (.cons (.bop .fdiv (.var 1) (.var 2)) .nil)))) .nil))⟩
def B_plus (c_lowest : Nat) : Fd := ⟨2, 2, (.cons (.ret (.call c_lowest (.cons (.bop .add (.bop .mul (.ix (.var 0) (.cint (0))) (.ix (.var 1) (.cint (1)))) (.bop .mul (.ix (.var 1) (.cint (0))) (.ix (.var 0) (.cint (1))))) (.cons (.bop .mul (.ix (.var 0) (.cint (1))) (.ix (.var 1) (.cint (1)))) .nil)))) .nil)⟩
def B_minus (c_lowest : Nat) : Fd := ⟨2, 2, (.cons (.ret (.call c_lowest (.cons (.bop .sub (.bop .mul (.ix (.var 0) (.cint (0))) (.ix (.var 1) (.cint (1)))) (.bop .mul (.ix (.var 1) (.cint (0))) (.ix (.var 0) (.cint (1))))) (.cons (.bop .mul (.ix (.var 0) (.cint (1))) (.ix (.var 1) (.cint (1)))) .nil)))) .nil)⟩
def B_times (c_lowest : Nat) : Fd := ⟨2, 2, (.cons (.ret (.call c_lowest (.cons (.bop .mul (.ix (.var 0) (.cint (0))) (.ix (.var 1) (.cint (0)))) (.cons (.bop .mul (.ix (.var 0) (.cint (1))) (.ix (.var 1) (.cint (1)))) .nil)))) .nil)⟩
def B_is_less : Fd := ⟨2, 2, (.cons (.ret (.cmp .lt (.bop .mul (.ix (.var 0) (.cint (0))) (.ix (.var 1) (.cint (1)))) (.bop .mul (.ix (.var 1) (.cint (0))) (.ix (.var 0) (.cint (1)))))) .nil)⟩
def B_total (c_plus : Nat) (g_ZERO : Nat) : Fd := ⟨1, 3, (.cons (.asg (.one 1) (.glob g_ZERO)) (.cons (.for_ (.one 2) (.sq (.var 0)) (.cons (.asg (.one 1) (.call c_plus (.cons (.var 1) (.cons (.var 2) .nil)))) .nil)) (.cons (.ret (.var 1)) .nil)))⟩
def B_greatest_of (c_is_less : Nat) : Fd := ⟨1, 3, (.cons (.asg (.one 1) (.ix (.var 0) (.cint (0)))) (.cons (.for_ (.one 2) (.sq (.slc (.var 0) (.yes (.cint (1))) .no)) (.cons (.asg (.one 1) (.ife (.val (.call c_is_less (.cons (.var 1) (.cons (.var 2) .nil)))) (.var 2) (.var 1))) .nil)) (.cons (.ret (.var 1)) .nil)))⟩
def B_is_above (c_is_ratio : Nat) : Fd := ⟨1, 1, (.cons (.ret (.andv (.cons (.call c_is_ratio (.cons (.var 0) .nil)) (.cons (.cmp .gt (.ix (.var 0) (.cint (0))) (.cint (0))) .nil)))) .nil)⟩
def B_law_q : Fd := ⟨2, 4, (.cons (.par [2, 3] (.cons (.bl .abs (.cons (.var 0) .nil)) (.cons (.bl .abs (.cons (.var 1) .nil)) .nil))) (.cons (.whl (.cmp .gt (.var 3) (.cint (0))) (.cons (.par [2, 3] (.cons (.var 3) (.cons (.bop .mod (.bl .int (.cons (.var 2) .nil)) (.var 3)) .nil))) .nil)) (.cons (.ret (.ife (.cmp .gt (.var 1) (.cint (0))) (.tup (.cons (.bop .fdiv (.var 0) (.var 2)) (.cons (.bop .fdiv (.var 1) (.var 2)) .nil))) (.tup (.cons (.bop .fdiv (.neg (.var 0)) (.var 2)) (.cons (.bop .fdiv (.neg (.var 1)) (.var 2)) .nil))))) .nil)))⟩
def B_law_plus (c_law_q : Nat) : Fd := ⟨2, 2, (.cons (.ret (.call c_law_q (.cons (.bop .add (.bop .mul (.ix (.var 0) (.cint (0))) (.ix (.var 1) (.cint (1)))) (.bop .mul (.ix (.var 1) (.cint (0))) (.ix (.var 0) (.cint (1))))) (.cons (.bop .mul (.ix (.var 0) (.cint (1))) (.ix (.var 1) (.cint (1)))) .nil)))) .nil)⟩
def B_law_minus (c_law_q : Nat) : Fd := ⟨2, 2, (.cons (.ret (.call c_law_q (.cons (.bop .sub (.bop .mul (.ix (.var 0) (.cint (0))) (.ix (.var 1) (.cint (1)))) (.bop .mul (.ix (.var 1) (.cint (0))) (.ix (.var 0) (.cint (1))))) (.cons (.bop .mul (.ix (.var 0) (.cint (1))) (.ix (.var 1) (.cint (1)))) .nil)))) .nil)⟩
def B_law_times (c_law_q : Nat) : Fd := ⟨2, 2, (.cons (.ret (.call c_law_q (.cons (.bop .mul (.ix (.var 0) (.cint (0))) (.ix (.var 1) (.cint (0)))) (.cons (.bop .mul (.ix (.var 0) (.cint (1))) (.ix (.var 1) (.cint (1)))) .nil)))) .nil)⟩
def B_law_over (c_law_q : Nat) : Fd := ⟨2, 2, (.cons (.ret (.call c_law_q (.cons (.bop .mul (.ix (.var 0) (.cint (0))) (.ix (.var 1) (.cint (1)))) (.cons (.bop .mul (.ix (.var 0) (.cint (1))) (.ix (.var 1) (.cint (0)))) .nil)))) .nil)⟩
def B_law_less : Fd := ⟨2, 2, (.cons (.ret (.cmp .lt (.bop .mul (.ix (.var 0) (.cint (0))) (.ix (.var 1) (.cint (1)))) (.bop .mul (.ix (.var 1) (.cint (0))) (.ix (.var 0) (.cint (1)))))) .nil)⟩
def B_law_sum (c_law_plus : Nat) : Fd := ⟨1, 3, (.cons (.asg (.one 1) (.tup (.cons (.cint (0)) (.cons (.cint (1)) .nil)))) (.cons (.for_ (.one 2) (.sq (.var 0)) (.cons (.asg (.one 1) (.call c_law_plus (.cons (.var 1) (.cons (.var 2) .nil)))) .nil)) (.cons (.ret (.var 1)) .nil)))⟩
def B_over (c_lowest : Nat) : Fd := ⟨2, 2, (.cons (.ret (.call c_lowest (.cons (.bop .mul (.ix (.var 0) (.cint (0))) (.ix (.var 1) (.cint (1)))) (.cons (.bop .mul (.ix (.var 0) (.cint (1))) (.ix (.var 1) (.cint (0)))) .nil)))) .nil)⟩

def rt (q : Rat) : D := .tup [.int q.num, .int q.den]
theorem rt_inj {q r : Rat} (h : rt q = rt r) : q = r := by
  unfold rt at h
  simp only [D.tup.injEq, List.cons.injEq, D.int.injEq, and_true] at h
  exact Rat.ext h.1 (by omega)
def Big (i : Int) : Prop := i.natAbs < 2 ^ 8000
def Rb (b : Nat) (q : Rat) : Prop := q.num.natAbs < 2 ^ b ∧ q.den < 2 ^ b
theorem Rb.mono {a b : Nat} {q : Rat} (h : Rb a q) (l : a ≤ b) : Rb b q := by
  have := Nat.pow_le_pow_right (n := 2) (by decide) l
  exact ⟨Nat.lt_of_lt_of_le h.1 this, Nat.lt_of_lt_of_le h.2 this⟩
theorem divInt_num_le (n d : Int) : (Rat.divInt n d).num.natAbs ≤ n.natAbs := by
  rw [Rat.num_divInt]
  refine Nat.le_trans (Int.natAbs_ediv_le_natAbs _ _) ?_
  rw [Int.natAbs_mul]
  rcases Int.lt_trichotomy d 0 with h | h | h
  · rw [Int.sign_eq_neg_one_of_neg h]; simp
  · subst h; simp
  · rw [Int.sign_eq_one_of_pos h]; simp
theorem divInt_den_le (n d : Int) (h : d ≠ 0) : (Rat.divInt n d).den ≤ d.natAbs := by
  rw [Rat.den_divInt, if_neg h]
  exact Nat.div_le_self _ _
theorem Rb.ofDiv {b : Nat} {n d : Int} (h : d ≠ 0) (hn : n.natAbs < 2 ^ b) (hd : d.natAbs < 2 ^ b) : Rb b (Rat.divInt n d) :=
  ⟨Nat.lt_of_le_of_lt (divInt_num_le n d) hn, Nat.lt_of_le_of_lt (divInt_den_le n d h) hd⟩
theorem den_ne (q : Rat) : (q.den : Int) ≠ 0 := by
  have := q.den_nz
  omega
theorem add_divInt (q r : Rat) : q + r = Rat.divInt (q.num * r.den + r.num * q.den) (q.den * r.den) := by
  have h := Rat.divInt_add_divInt q.num r.num (den_ne q) (den_ne r)
  rw [Rat.num_divInt_den, Rat.num_divInt_den] at h
  exact h
theorem sub_divInt (q r : Rat) : q - r = Rat.divInt (q.num * r.den - r.num * q.den) (q.den * r.den) := by
  have h := Rat.divInt_sub_divInt q.num r.num (den_ne q) (den_ne r)
  rw [Rat.num_divInt_den, Rat.num_divInt_den] at h
  exact h
theorem mul_divInt (q r : Rat) : q * r = Rat.divInt (q.num * r.num) (q.den * r.den) := by
  have h := Rat.divInt_mul_divInt q.num r.num (d₁ := q.den) (d₂ := r.den)
  rw [Rat.num_divInt_den, Rat.num_divInt_den] at h
  exact h
theorem div_divInt (q r : Rat) : q / r = Rat.divInt (q.num * r.den) (q.den * r.num) := by
  have h := Rat.divInt_mul_divInt q.num r.den (d₁ := q.den) (d₂ := r.num)
  rw [Rat.num_divInt_den] at h
  rw [Rat.div_def, Rat.inv_def, h]
theorem mulLt {a b x y : Nat} (h : x < 2 ^ a) (h' : y < 2 ^ b) : x * y < 2 ^ (a + b) := by
  rw [Nat.pow_add]
  exact Nat.mul_lt_mul'' h h'
theorem addLt {a x y : Nat} (h : x < 2 ^ a) (h' : y < 2 ^ a) : x + y < 2 ^ (a + 1) := by
  rw [Nat.pow_succ]
  omega
theorem crossLt {a b : Nat} {q r : Rat} (h : Rb a q) (h' : Rb b r) : (q.num * r.den).natAbs < 2 ^ (a + b) := by
  rw [Int.natAbs_mul, Int.natAbs_natCast]
  exact mulLt h.1 h'.2
theorem denLt {a b : Nat} {q r : Rat} (h : Rb a q) (h' : Rb b r) : ((q.den : Int) * r.den).natAbs < 2 ^ (a + b) := by
  rw [Int.natAbs_mul, Int.natAbs_natCast, Int.natAbs_natCast]
  exact mulLt h.2 h'.2
theorem sumLt {a b : Nat} {q r : Rat} (h : Rb a q) (h' : Rb b r) : (q.num * r.den + r.num * q.den).natAbs < 2 ^ (a + b + 1) := by
  refine Nat.lt_of_le_of_lt (Int.natAbs_add_le _ _) (addLt (crossLt h h') ?_)
  rw [Nat.add_comm a b]
  exact crossLt h' h
theorem difLt {a b : Nat} {q r : Rat} (h : Rb a q) (h' : Rb b r) : (q.num * r.den - r.num * q.den).natAbs < 2 ^ (a + b + 1) := by
  refine Nat.lt_of_le_of_lt (Int.natAbs_sub_le _ _) (addLt (crossLt h h') ?_)
  rw [Nat.add_comm a b]
  exact crossLt h' h
theorem Rb.add {a b : Nat} {q r : Rat} (h : Rb a q) (h' : Rb b r) : Rb (a + b + 1) (q + r) := by
  rw [add_divInt]
  exact .ofDiv (Int.mul_ne_zero (den_ne q) (den_ne r)) (sumLt h h') (Nat.lt_of_lt_of_le (denLt h h') (Nat.pow_le_pow_right (by decide) (by omega)))
theorem Rb.sub {a b : Nat} {q r : Rat} (h : Rb a q) (h' : Rb b r) : Rb (a + b + 1) (q - r) := by
  rw [sub_divInt]
  exact .ofDiv (Int.mul_ne_zero (den_ne q) (den_ne r)) (difLt h h') (Nat.lt_of_lt_of_le (denLt h h') (Nat.pow_le_pow_right (by decide) (by omega)))
theorem numLt {a b : Nat} {q r : Rat} (h : Rb a q) (h' : Rb b r) : (q.num * r.num).natAbs < 2 ^ (a + b) := by
  rw [Int.natAbs_mul]
  exact mulLt h.1 h'.1
theorem Rb.mul {a b : Nat} {q r : Rat} (h : Rb a q) (h' : Rb b r) : Rb (a + b) (q * r) := by
  rw [mul_divInt]
  exact .ofDiv (Int.mul_ne_zero (den_ne q) (den_ne r)) (numLt h h') (denLt h h')
theorem overLt {a b : Nat} {q r : Rat} (h : Rb a q) (h' : Rb b r) : ((q.den : Int) * r.num).natAbs < 2 ^ (a + b) := by
  rw [Int.natAbs_mul, Int.natAbs_natCast]
  exact mulLt h.2 h'.1
theorem num_ne {r : Rat} (h : r ≠ 0) : r.num ≠ 0 := fun e => h (Rat.num_eq_zero.mp e)
theorem Rb.div {a b : Nat} {q r : Rat} (hr : r ≠ 0) (h : Rb a q) (h' : Rb b r) : Rb (a + b) (q / r) := by
  rw [div_divInt]
  exact .ofDiv (Int.mul_ne_zero (den_ne q) (num_ne hr)) (crossLt h h') (overLt h h')
theorem Big.of {b : Nat} {i : Int} (h : i.natAbs < 2 ^ b) (l : b ≤ 8000) : Big i := Nat.lt_of_lt_of_le h (Nat.pow_le_pow_right (by decide) l)
theorem log2_lt_of {n b : Nat} (h : n < 2 ^ b) (hb : 0 < b) : n.log2 < b := by
  by_cases e : n = 0
  · subst e; simpa using hb
  · exact (Nat.log2_lt e).mpr h
theorem mulOk_of {i j : Int} (h : Big i) (h' : Big j) : mulOk i j = true := by
  have h1 := log2_lt_of h (by decide)
  have h2 := log2_lt_of h' (by decide)
  unfold mulOk
  simp only [Bool.or_eq_true, decide_eq_true_eq]
  exact .inr (by omega)
theorem divOk_of {i j : Int} (h : Big j) (hj : j ≠ 0) : divOk i j = true := by
  have h1 := log2_lt_of h (by decide)
  unfold divOk Builtin.divisionGoesByPylong
  simp only [Bool.and_eq_true, decide_eq_true_eq, Bool.not_eq_true', Bool.and_eq_false_iff, decide_eq_false_iff_not]
  refine ⟨hj, .inl ?_⟩
  split <;> omega
theorem Rb.big_num {b : Nat} {q : Rat} (h : Rb b q) (l : b ≤ 8000) : Big q.num := .of h.1 l
theorem Rb.big_den {b : Nat} {q : Rat} (h : Rb b q) (l : b ≤ 8000) : Big (q.den : Int) := .of (b := b) (by rw [Int.natAbs_natCast]; exact h.2) l
section
variable (C : Nat → List S → Store → Res S) (f : Nat)
def SLow : Prop := ∀ (st : Store) (n d : Int), d ≠ 0 → Big n → Big d → C f [.v (.int n), .v (.int d)] st = .ok (.v (rt (Rat.divInt n d))) st
def S2 (op : Rat → Rat → Rat) : Prop := ∀ (st : Store) (q r : Rat), Rb 3000 q → Rb 3000 r → C f [.v (rt q), .v (rt r)] st = .ok (.v (rt (op q r))) st
def SOver : Prop := ∀ (st : Store) (q r : Rat), r ≠ 0 → Rb 3000 q → Rb 3000 r → C f [.v (rt q), .v (rt r)] st = .ok (.v (rt (q / r))) st
def SLess : Prop := ∀ (st : Store) (q r : Rat), Rb 3000 q → Rb 3000 r → C f [.v (rt q), .v (rt r)] st = .ok (.v (.bl (decide (q < r)))) st
def rsum (xs : List Rat) : Rat := xs.foldl (· + ·) 0
def Rbs (xs : List Rat) : Prop := (∀ x ∈ xs, Rb 3000 x) ∧ ∀ n, Rb 3000 (rsum (xs.take n))
def STot : Prop := ∀ (st : Store) (xs : List Rat), Rbs xs → C f [.v (.lst (xs.map rt))] st = .ok (.v (rt (rsum xs))) st
end
section
variable {G : Gt} {F : Nat → Option Fd} {k f : Nat}
theorem gcd_pos_of {n d : Int} (h : d ≠ 0) : 0 < Nat.gcd n.natAbs d.natAbs := Nat.gcd_pos_of_pos_right _ (by omega)
theorem low_pos {n d : Int} (h : 0 < d) : D.tup [.int (n.fdiv (Nat.gcd n.natAbs d.natAbs : Nat)), .int (d.fdiv (Nat.gcd n.natAbs d.natAbs : Nat))] = rt (Rat.divInt n d) := by
  unfold rt
  rw [Rat.num_divInt, Rat.den_divInt, if_neg (by omega), Int.sign_eq_one_of_pos h, Int.one_mul, Int.fdiv_eq_ediv_of_nonneg _ (by omega), Int.fdiv_eq_ediv_of_nonneg _ (by omega)]
  have e : Int.gcd d n = Nat.gcd n.natAbs d.natAbs := Nat.gcd_comm _ _
  rw [e]
  congr 3
  rw [Int.natCast_ediv]
  congr 2
  omega
theorem low_neg {n d : Int} (h : d < 0) : D.tup [.int (n.fdiv (-(Nat.gcd n.natAbs d.natAbs : Nat))), .int (d.fdiv (-(Nat.gcd n.natAbs d.natAbs : Nat)))] = rt (Rat.divInt n d) := by
  have e : Int.gcd d n = Nat.gcd n.natAbs d.natAbs := Nat.gcd_comm _ _
  have hn : ((Nat.gcd n.natAbs d.natAbs : Nat) : Int) ∣ n := by rw [← e]; exact Int.gcd_dvd_right _ _
  have hd : ((Nat.gcd n.natAbs d.natAbs : Nat) : Int) ∣ d := by rw [← e]; exact Int.gcd_dvd_left _ _
  unfold rt
  rw [Rat.num_divInt, Rat.den_divInt, if_neg (by omega), Int.sign_eq_neg_one_of_neg h, Int.fdiv_eq_ediv_of_dvd (Int.neg_dvd.mpr hn), Int.fdiv_eq_ediv_of_dvd (Int.neg_dvd.mpr hd), e, Int.ediv_neg, Int.ediv_neg]
  obtain ⟨a, ha⟩ := hn
  obtain ⟨b, hb⟩ := hd
  have g0 : ((Nat.gcd n.natAbs d.natAbs : Nat) : Int) ≠ 0 := by
    have := gcd_pos_of (n := n) (d := d) (by omega)
    omega
  generalize hg : ((Nat.gcd n.natAbs d.natAbs : Nat) : Int) = g at *
  have e1 : n / g = a := by rw [ha]; exact Int.mul_ediv_cancel_left _ g0
  have e2 : d / g = b := by rw [hb]; exact Int.mul_ediv_cancel_left _ g0
  have e3 : (-1 * n) / g = -a := by
    rw [ha, ← Int.mul_assoc, Int.mul_comm (-1) g, Int.mul_assoc]
    rw [Int.mul_ediv_cancel_left _ g0]
    omega
  have e4 : (((d.natAbs / Nat.gcd n.natAbs d.natAbs : Nat)) : Int) = -b := by
    rw [Int.natCast_ediv, hg]
    have : ((d.natAbs : Nat) : Int) = g * (-b) := by rw [Int.mul_neg, ← hb]; omega
    rw [this]
    exact Int.mul_ediv_cancel_left _ g0
  rw [e1, e2, e3, e4]
theorem sp_lowest (hf : F f = some B_lowest) (hk : G.keep.contains f = false) : SLow (callK G F (k + 1)) f := by
  intro st n d hd bn bd
  have hg := gcd_pos_of (n := n) hd
  have hgl : Nat.gcd n.natAbs d.natAbs ≤ d.natAbs := Nat.gcd_le_right _ (by omega)
  have bg : Big ((Nat.gcd n.natAbs d.natAbs : Nat) : Int) := Nat.lt_of_le_of_lt hgl bd
  have bg2 : Big (-((Nat.gcd n.natAbs d.natAbs : Nat) : Int)) := by unfold Big at *; omega
  refine call_eq hf rfl hk ?_
  by_cases h : 0 < d
  · have h1 := divOk_of (i := n) bg (by omega)
    have h2 := divOk_of (i := d) bg (by omega)
    simp [B_lowest, evE, evEs, evO, evOc, evC, evAll, evAny, evAnd, evOr, depAll_nil, get_app, set_app, get_app1, get_map_last, sat_nil, sat_cons, after_nx, after_rt, after_bk, after_ct, brn_true, brn_false, sat_ifs, evFr_disp, evFr_lof, evFr_add, evFr_lzip, exS_asg, exS_par, exS_setix, exS_expr, exS_ret, exS_retN, exS_pass, exS_brk, exS_cont, exS_thr, need, bopSem, cmpSem, blSem, ixSem, setAll, asgT, asgL, trunc, rdD, allV, isiSem, isTy, tyOf, tyFits, nexc, items, lstI, L2.atI, L2.ixN, Res.sat_bind, Res.sat_ite, oneR, Wk.asg, wipe, List.replicate, h, h1, h2, low_pos h]
  · have h1 := divOk_of (i := n) bg2 (by omega)
    have h2 := divOk_of (i := d) bg2 (by omega)
    simp [B_lowest, evE, evEs, evO, evOc, evC, evAll, evAny, evAnd, evOr, depAll_nil, get_app, set_app, get_app1, get_map_last, sat_nil, sat_cons, after_nx, after_rt, after_bk, after_ct, brn_true, brn_false, sat_ifs, evFr_disp, evFr_lof, evFr_add, evFr_lzip, exS_asg, exS_par, exS_setix, exS_expr, exS_ret, exS_retN, exS_pass, exS_brk, exS_cont, exS_thr, need, bopSem, cmpSem, blSem, ixSem, setAll, asgT, asgL, trunc, rdD, allV, isiSem, isTy, tyOf, tyFits, nexc, items, lstI, L2.atI, L2.ixN, Res.sat_bind, Res.sat_ite, oneR, Wk.asg, wipe, List.replicate, h, h1, h2, low_neg (show d < 0 by omega)]
theorem sp_plus {fl : Nat} (hf : F f = some (B_plus fl)) (hk : G.keep.contains f = false) (hl : SLow (callK G F k) fl) : S2 (callK G F (k + 1)) f (· + ·) := by
  intro st q r hq hr
  have e := hl st _ _ (Int.mul_ne_zero (den_ne q) (den_ne r)) (.of (sumLt hq hr) (by decide)) (.of (denLt hq hr) (by decide))
  rw [← add_divInt] at e
  have m1 := mulOk_of (hq.big_num (by decide)) (hr.big_den (by decide))
  have m2 := mulOk_of (hr.big_num (by decide)) (hq.big_den (by decide))
  have m3 := mulOk_of (hq.big_den (by decide)) (hr.big_den (by decide))
  refine call_eq hf rfl hk ?_
  have e1 : rt q = .tup [.int q.num, .int q.den] := rfl
  have e2 : rt r = .tup [.int r.num, .int r.den] := rfl
  simp [B_plus, evE, evEs, evO, evOc, evC, evAll, evAny, evAnd, evOr, depAll_nil, get_app, set_app, get_app1, get_map_last, sat_nil, sat_cons, after_nx, after_rt, after_bk, after_ct, brn_true, brn_false, sat_ifs, evFr_disp, evFr_lof, evFr_add, evFr_lzip, exS_asg, exS_par, exS_setix, exS_expr, exS_ret, exS_retN, exS_pass, exS_brk, exS_cont, exS_thr, need, bopSem, cmpSem, blSem, ixSem, setAll, asgT, asgL, trunc, rdD, allV, isiSem, isTy, tyOf, tyFits, nexc, items, lstI, L2.atI, L2.ixN, Res.sat_bind, Res.sat_ite, oneR, Wk.asg, wipe, List.replicate, e1, e2, m1, m2, m3, e]
theorem sp_minus {fl : Nat} (hf : F f = some (B_minus fl)) (hk : G.keep.contains f = false) (hl : SLow (callK G F k) fl) : S2 (callK G F (k + 1)) f (· - ·) := by
  intro st q r hq hr
  have e := hl st _ _ (Int.mul_ne_zero (den_ne q) (den_ne r)) (.of (difLt hq hr) (by decide)) (.of (denLt hq hr) (by decide))
  rw [← sub_divInt] at e
  have m1 := mulOk_of (hq.big_num (by decide)) (hr.big_den (by decide))
  have m2 := mulOk_of (hr.big_num (by decide)) (hq.big_den (by decide))
  have m3 := mulOk_of (hq.big_den (by decide)) (hr.big_den (by decide))
  refine call_eq hf rfl hk ?_
  have e1 : rt q = .tup [.int q.num, .int q.den] := rfl
  have e2 : rt r = .tup [.int r.num, .int r.den] := rfl
  simp [B_minus, evE, evEs, evO, evOc, evC, evAll, evAny, evAnd, evOr, depAll_nil, get_app, set_app, get_app1, get_map_last, sat_nil, sat_cons, after_nx, after_rt, after_bk, after_ct, brn_true, brn_false, sat_ifs, evFr_disp, evFr_lof, evFr_add, evFr_lzip, exS_asg, exS_par, exS_setix, exS_expr, exS_ret, exS_retN, exS_pass, exS_brk, exS_cont, exS_thr, need, bopSem, cmpSem, blSem, ixSem, setAll, asgT, asgL, trunc, rdD, allV, isiSem, isTy, tyOf, tyFits, nexc, items, lstI, L2.atI, L2.ixN, Res.sat_bind, Res.sat_ite, oneR, Wk.asg, wipe, List.replicate, e1, e2, m1, m2, m3, e]
theorem sp_times {fl : Nat} (hf : F f = some (B_times fl)) (hk : G.keep.contains f = false) (hl : SLow (callK G F k) fl) : S2 (callK G F (k + 1)) f (· * ·) := by
  intro st q r hq hr
  have e := hl st _ _ (Int.mul_ne_zero (den_ne q) (den_ne r)) (.of (numLt hq hr) (by decide)) (.of (denLt hq hr) (by decide))
  rw [← mul_divInt] at e
  have m1 := mulOk_of (hq.big_num (by decide)) (hr.big_num (by decide))
  have m3 := mulOk_of (hq.big_den (by decide)) (hr.big_den (by decide))
  refine call_eq hf rfl hk ?_
  have e1 : rt q = .tup [.int q.num, .int q.den] := rfl
  have e2 : rt r = .tup [.int r.num, .int r.den] := rfl
  simp [B_times, evE, evEs, evO, evOc, evC, evAll, evAny, evAnd, evOr, depAll_nil, get_app, set_app, get_app1, get_map_last, sat_nil, sat_cons, after_nx, after_rt, after_bk, after_ct, brn_true, brn_false, sat_ifs, evFr_disp, evFr_lof, evFr_add, evFr_lzip, exS_asg, exS_par, exS_setix, exS_expr, exS_ret, exS_retN, exS_pass, exS_brk, exS_cont, exS_thr, need, bopSem, cmpSem, blSem, ixSem, setAll, asgT, asgL, trunc, rdD, allV, isiSem, isTy, tyOf, tyFits, nexc, items, lstI, L2.atI, L2.ixN, Res.sat_bind, Res.sat_ite, oneR, Wk.asg, wipe, List.replicate, e1, e2, m1, m3, e]
theorem sp_over {fl : Nat} (hf : F f = some (B_over fl)) (hk : G.keep.contains f = false) (hl : SLow (callK G F k) fl) : SOver (callK G F (k + 1)) f := by
  intro st q r h0 hq hr
  have e := hl st _ _ (Int.mul_ne_zero (den_ne q) (num_ne h0)) (.of (crossLt hq hr) (by decide)) (.of (overLt hq hr) (by decide))
  rw [← div_divInt] at e
  have m1 := mulOk_of (hq.big_num (by decide)) (hr.big_den (by decide))
  have m3 := mulOk_of (hq.big_den (by decide)) (hr.big_num (by decide))
  refine call_eq hf rfl hk ?_
  have e1 : rt q = .tup [.int q.num, .int q.den] := rfl
  have e2 : rt r = .tup [.int r.num, .int r.den] := rfl
  simp [B_over, evE, evEs, evO, evOc, evC, evAll, evAny, evAnd, evOr, depAll_nil, get_app, set_app, get_app1, get_map_last, sat_nil, sat_cons, after_nx, after_rt, after_bk, after_ct, brn_true, brn_false, sat_ifs, evFr_disp, evFr_lof, evFr_add, evFr_lzip, exS_asg, exS_par, exS_setix, exS_expr, exS_ret, exS_retN, exS_pass, exS_brk, exS_cont, exS_thr, need, bopSem, cmpSem, blSem, ixSem, setAll, asgT, asgL, trunc, rdD, allV, isiSem, isTy, tyOf, tyFits, nexc, items, lstI, L2.atI, L2.ixN, Res.sat_bind, Res.sat_ite, oneR, Wk.asg, wipe, List.replicate, e1, e2, m1, m3, e]
theorem sp_less (hf : F f = some B_is_less) (hk : G.keep.contains f = false) : SLess (callK G F (k + 1)) f := by
  intro st q r hq hr
  have m1 := mulOk_of (hq.big_num (by decide)) (hr.big_den (by decide))
  have m2 := mulOk_of (hr.big_num (by decide)) (hq.big_den (by decide))
  refine call_eq hf rfl hk ?_
  have e1 : rt q = .tup [.int q.num, .int q.den] := rfl
  have e2 : rt r = .tup [.int r.num, .int r.den] := rfl
  simp [B_is_less, evE, evEs, evO, evOc, evC, evAll, evAny, evAnd, evOr, depAll_nil, get_app, set_app, get_app1, get_map_last, sat_nil, sat_cons, after_nx, after_rt, after_bk, after_ct, brn_true, brn_false, sat_ifs, evFr_disp, evFr_lof, evFr_add, evFr_lzip, exS_asg, exS_par, exS_setix, exS_expr, exS_ret, exS_retN, exS_pass, exS_brk, exS_cont, exS_thr, need, bopSem, cmpSem, blSem, ixSem, setAll, asgT, asgL, trunc, rdD, allV, isiSem, isTy, tyOf, tyFits, nexc, items, lstI, L2.atI, L2.ixN, Res.sat_bind, Res.sat_ite, oneR, Wk.asg, wipe, List.replicate, e1, e2, m1, m2, Rat.lt_iff]
end
end Sw

set_option linter.all false
set_option maxRecDepth 100000
set_option maxHeartbeats 2000000
namespace Sw
open PySem
section
variable {G : Gt} {F : Nat → Option Fd} {k f : Nat}
theorem rt0 : (D.tup [.int 0, .int 1]) = rt 0 := rfl
theorem rsum_app (xs : List Rat) (x : Rat) : rsum (xs ++ [x]) = rsum xs + x := by
  unfold rsum
  rw [List.foldl_append]
  rfl
theorem take_app {α : Type} {l r xs : List α} (h : l ++ r = xs) : xs.take l.length = l := by
  rw [← h]
  simp
theorem sp_total {fp gz : Nat} (hf : F f = some (B_total fp gz)) (hk : G.keep.contains f = false) (hg : (G.cs[gz]?).map (·.2) = some (rt 0)) (hp : S2 (callK G F k) fp (· + ·)) : STot (callK G F (k + 1)) f := by
  intro st xs hb
  refine call_eq hf rfl hk ?_
  obtain ⟨p, hg1, hg2⟩ := Option.map_eq_some_iff.mp hg
  simp [B_total, evE, evEs, evO, evOc, evC, evAll, evAny, evAnd, evOr, depAll_nil, get_app, set_app, get_app1, get_map_last, sat_nil, sat_cons, after_nx, after_rt, after_bk, after_ct, brn_true, brn_false, sat_ifs, evFr_disp, evFr_lof, evFr_add, evFr_lzip, exS_asg, exS_par, exS_setix, exS_expr, exS_ret, exS_retN, exS_pass, exS_brk, exS_cont, exS_thr, need, bopSem, cmpSem, blSem, ixSem, setAll, asgT, asgL, trunc, rdD, allV, isiSem, isTy, tyOf, tyFits, nexc, items, lstI, L2.atI, L2.ixN, Res.sat_bind, Res.sat_ite, oneR, Wk.asg, wipe, List.replicate, hg1, hg2]
  refine for_sq xs rt (fun r ρ' st' => st' = st ∧ ∃ l0 each, l0 ++ r = xs ∧ ρ' = [some (.v (.lst (xs.map rt))), some (.v (rt (rsum l0))), each]) (x := .lst (xs.map rt)) (st1 := st) (by simp [evE, evEs, evO, evOc, evC, evAll, evAny, evAnd, evOr, depAll_nil, get_app, set_app, get_app1, get_map_last, sat_nil, sat_cons, after_nx, after_rt, after_bk, after_ct, brn_true, brn_false, sat_ifs, evFr_disp, evFr_lof, evFr_add, evFr_lzip, exS_asg, exS_par, exS_setix, exS_expr, exS_ret, exS_retN, exS_pass, exS_brk, exS_cont, exS_thr, need, bopSem, cmpSem, blSem, ixSem, setAll, asgT, asgL, trunc, rdD, allV, isiSem, isTy, tyOf, tyFits, nexc, items, lstI, L2.atI, L2.ixN, Res.sat_bind, Res.sat_ite, oneR, Wk.asg, wipe, List.replicate]) (.inl rfl) ⟨rfl, [], none, rfl, rfl⟩ (fun a r ρ' st' h => ?_) fun ρ' st' h => ?_
  · obtain ⟨rfl, l0, each, e, rfl⟩ := h
    refine ⟨_, rfl, ?_⟩
    have e1 := hp st' (rsum l0) a (by rw [← take_app e]; exact hb.2 _) (hb.1 a (by rw [← e]; simp))
    simp [evE, evEs, evO, evOc, evC, evAll, evAny, evAnd, evOr, depAll_nil, get_app, set_app, get_app1, get_map_last, sat_nil, sat_cons, after_nx, after_rt, after_bk, after_ct, brn_true, brn_false, sat_ifs, evFr_disp, evFr_lof, evFr_add, evFr_lzip, exS_asg, exS_par, exS_setix, exS_expr, exS_ret, exS_retN, exS_pass, exS_brk, exS_cont, exS_thr, need, bopSem, cmpSem, blSem, ixSem, setAll, asgT, asgL, trunc, rdD, allV, isiSem, isTy, tyOf, tyFits, nexc, items, lstI, L2.atI, L2.ixN, Res.sat_bind, Res.sat_ite, oneR, Wk.asg, wipe, List.replicate, e1]
    exact ⟨l0 ++ [a], by simpa using e, by rw [rsum_app]⟩
  · obtain ⟨rfl, l0, each, e, rfl⟩ := h
    rw [List.append_nil] at e
    subst e
    simp [evE, evEs, evO, evOc, evC, evAll, evAny, evAnd, evOr, depAll_nil, get_app, set_app, get_app1, get_map_last, sat_nil, sat_cons, after_nx, after_rt, after_bk, after_ct, brn_true, brn_false, sat_ifs, evFr_disp, evFr_lof, evFr_add, evFr_lzip, exS_asg, exS_par, exS_setix, exS_expr, exS_ret, exS_retN, exS_pass, exS_brk, exS_cont, exS_thr, need, bopSem, cmpSem, blSem, ixSem, setAll, asgT, asgL, trunc, rdD, allV, isiSem, isTy, tyOf, tyFits, nexc, items, lstI, L2.atI, L2.ixN, Res.sat_bind, Res.sat_ite, oneR, Wk.asg, wipe, List.replicate]
theorem sp_law_sum {fp : Nat} (hf : F f = some (B_law_sum fp)) (hk : G.keep.contains f = false) (hp : S2 (callK G F k) fp (· + ·)) : STot (callK G F (k + 1)) f := by
  intro st xs hb
  refine call_eq hf rfl hk ?_
  simp [B_law_sum, evE, evEs, evO, evOc, evC, evAll, evAny, evAnd, evOr, depAll_nil, get_app, set_app, get_app1, get_map_last, sat_nil, sat_cons, after_nx, after_rt, after_bk, after_ct, brn_true, brn_false, sat_ifs, evFr_disp, evFr_lof, evFr_add, evFr_lzip, exS_asg, exS_par, exS_setix, exS_expr, exS_ret, exS_retN, exS_pass, exS_brk, exS_cont, exS_thr, need, bopSem, cmpSem, blSem, ixSem, setAll, asgT, asgL, trunc, rdD, allV, isiSem, isTy, tyOf, tyFits, nexc, items, lstI, L2.atI, L2.ixN, Res.sat_bind, Res.sat_ite, oneR, Wk.asg, wipe, List.replicate, rt0]
  refine for_sq xs rt (fun r ρ' st' => st' = st ∧ ∃ l0 each, l0 ++ r = xs ∧ ρ' = [some (.v (.lst (xs.map rt))), some (.v (rt (rsum l0))), each]) (x := .lst (xs.map rt)) (st1 := st) (by simp [evE, evEs, evO, evOc, evC, evAll, evAny, evAnd, evOr, depAll_nil, get_app, set_app, get_app1, get_map_last, sat_nil, sat_cons, after_nx, after_rt, after_bk, after_ct, brn_true, brn_false, sat_ifs, evFr_disp, evFr_lof, evFr_add, evFr_lzip, exS_asg, exS_par, exS_setix, exS_expr, exS_ret, exS_retN, exS_pass, exS_brk, exS_cont, exS_thr, need, bopSem, cmpSem, blSem, ixSem, setAll, asgT, asgL, trunc, rdD, allV, isiSem, isTy, tyOf, tyFits, nexc, items, lstI, L2.atI, L2.ixN, Res.sat_bind, Res.sat_ite, oneR, Wk.asg, wipe, List.replicate]) (.inl rfl) ⟨rfl, [], none, rfl, rfl⟩ (fun a r ρ' st' h => ?_) fun ρ' st' h => ?_
  · obtain ⟨rfl, l0, each, e, rfl⟩ := h
    refine ⟨_, rfl, ?_⟩
    have e1 := hp st' (rsum l0) a (by rw [← take_app e]; exact hb.2 _) (hb.1 a (by rw [← e]; simp))
    simp [evE, evEs, evO, evOc, evC, evAll, evAny, evAnd, evOr, depAll_nil, get_app, set_app, get_app1, get_map_last, sat_nil, sat_cons, after_nx, after_rt, after_bk, after_ct, brn_true, brn_false, sat_ifs, evFr_disp, evFr_lof, evFr_add, evFr_lzip, exS_asg, exS_par, exS_setix, exS_expr, exS_ret, exS_retN, exS_pass, exS_brk, exS_cont, exS_thr, need, bopSem, cmpSem, blSem, ixSem, setAll, asgT, asgL, trunc, rdD, allV, isiSem, isTy, tyOf, tyFits, nexc, items, lstI, L2.atI, L2.ixN, Res.sat_bind, Res.sat_ite, oneR, Wk.asg, wipe, List.replicate, e1]
    exact ⟨l0 ++ [a], by simpa using e, by rw [rsum_app]⟩
  · obtain ⟨rfl, l0, each, e, rfl⟩ := h
    rw [List.append_nil] at e
    subst e
    simp [evE, evEs, evO, evOc, evC, evAll, evAny, evAnd, evOr, depAll_nil, get_app, set_app, get_app1, get_map_last, sat_nil, sat_cons, after_nx, after_rt, after_bk, after_ct, brn_true, brn_false, sat_ifs, evFr_disp, evFr_lof, evFr_add, evFr_lzip, exS_asg, exS_par, exS_setix, exS_expr, exS_ret, exS_retN, exS_pass, exS_brk, exS_cont, exS_thr, need, bopSem, cmpSem, blSem, ixSem, setAll, asgT, asgL, trunc, rdD, allV, isiSem, isTy, tyOf, tyFits, nexc, items, lstI, L2.atI, L2.ixN, Res.sat_bind, Res.sat_ite, oneR, Wk.asg, wipe, List.replicate]
theorem sp_law_q (hf : F f = some B_law_q) (hk : G.keep.contains f = false) : SLow (callK G F (k + 1)) f := by
  intro st n d hd bn bd
  refine call_eq hf rfl hk ?_
  have ha : ∀ i : Int, (if i < 0 then -i else i) = ((i.natAbs : Nat) : Int) := fun i => by split <;> omega
  simp [B_law_q, evE, evEs, evO, evOc, evC, evAll, evAny, evAnd, evOr, depAll_nil, get_app, set_app, get_app1, get_map_last, sat_nil, sat_cons, after_nx, after_rt, after_bk, after_ct, brn_true, brn_false, sat_ifs, evFr_disp, evFr_lof, evFr_add, evFr_lzip, exS_asg, exS_par, exS_setix, exS_expr, exS_ret, exS_retN, exS_pass, exS_brk, exS_cont, exS_thr, need, bopSem, cmpSem, blSem, ixSem, setAll, asgT, asgL, trunc, rdD, allV, isiSem, isTy, tyOf, tyFits, nexc, items, lstI, L2.atI, L2.ixN, Res.sat_bind, Res.sat_ite, oneR, Wk.asg, wipe, List.replicate, ha]
  refine whl_run (fun m ρ' st' => st' = st ∧ ∃ a : Nat, Nat.gcd a m = Nat.gcd n.natAbs d.natAbs ∧ ρ' = [some (.v (.int n)), some (.v (.int d)), some (.v (.int (a : Nat))), some (.v (.int (m : Nat)))]) (n0 := d.natAbs) ⟨rfl, n.natAbs, rfl, rfl⟩ fun m ρ' st' h => ?_
  obtain ⟨rfl, a, e, rfl⟩ := h
  by_cases hm : 0 < m
  · have hm0 : m ≠ 0 := by omega
    simp [evE, evEs, evO, evOc, evC, evAll, evAny, evAnd, evOr, depAll_nil, get_app, set_app, get_app1, get_map_last, sat_nil, sat_cons, after_nx, after_rt, after_bk, after_ct, brn_true, brn_false, sat_ifs, evFr_disp, evFr_lof, evFr_add, evFr_lzip, exS_asg, exS_par, exS_setix, exS_expr, exS_ret, exS_retN, exS_pass, exS_brk, exS_cont, exS_thr, need, bopSem, cmpSem, blSem, ixSem, setAll, asgT, asgL, trunc, rdD, allV, isiSem, isTy, tyOf, tyFits, nexc, items, lstI, L2.atI, L2.ixN, Res.sat_bind, Res.sat_ite, oneR, Wk.asg, wipe, List.replicate, hm, hm0]
    refine ⟨a % m, Nat.mod_lt _ hm, m, ?_, ?_⟩
    · rw [Nat.gcd_comm, ← Nat.gcd_rec, Nat.gcd_comm]
      exact e
    · rw [Int.ofNat_fmod]
      exact ⟨rfl, rfl⟩
  · have hm0 : m = 0 := by omega
    subst hm0
    rw [Nat.gcd_zero_right] at e
    subst e
    have hg := gcd_pos_of (n := n) hd
    have hgl : Nat.gcd n.natAbs d.natAbs ≤ d.natAbs := Nat.gcd_le_right _ (by omega)
    have bg : Big ((Nat.gcd n.natAbs d.natAbs : Nat) : Int) := Nat.lt_of_le_of_lt hgl bd
    have h1 : ∀ i, divOk i ((Nat.gcd n.natAbs d.natAbs : Nat) : Int) = true := fun i => divOk_of (i := i) bg (by omega)
    by_cases h : 0 < d
    · simp [evE, evEs, evO, evOc, evC, evAll, evAny, evAnd, evOr, depAll_nil, get_app, set_app, get_app1, get_map_last, sat_nil, sat_cons, after_nx, after_rt, after_bk, after_ct, brn_true, brn_false, sat_ifs, evFr_disp, evFr_lof, evFr_add, evFr_lzip, exS_asg, exS_par, exS_setix, exS_expr, exS_ret, exS_retN, exS_pass, exS_brk, exS_cont, exS_thr, need, bopSem, cmpSem, blSem, ixSem, setAll, asgT, asgL, trunc, rdD, allV, isiSem, isTy, tyOf, tyFits, nexc, items, lstI, L2.atI, L2.ixN, Res.sat_bind, Res.sat_ite, oneR, Wk.asg, wipe, List.replicate, h, h1, low_pos h]
    · have e3 : ∀ i : Int, ((Nat.gcd n.natAbs d.natAbs : Nat) : Int) ∣ i → (-i).fdiv ((Nat.gcd n.natAbs d.natAbs : Nat) : Int) = i.fdiv (-((Nat.gcd n.natAbs d.natAbs : Nat) : Int)) := fun i hi => by
        rw [Int.fdiv_eq_ediv_of_dvd (Int.dvd_neg.mpr hi), Int.fdiv_eq_ediv_of_dvd (Int.neg_dvd.mpr hi), Int.ediv_neg, Int.neg_ediv_of_dvd hi]
      have q1 := e3 n (Int.gcd_dvd_left n d)
      have q2 := e3 d (Int.gcd_dvd_right n d)
      have := low_neg (n := n) (show d < 0 by omega)
      rw [← q1, ← q2] at this
      simp [evE, evEs, evO, evOc, evC, evAll, evAny, evAnd, evOr, depAll_nil, get_app, set_app, get_app1, get_map_last, sat_nil, sat_cons, after_nx, after_rt, after_bk, after_ct, brn_true, brn_false, sat_ifs, evFr_disp, evFr_lof, evFr_add, evFr_lzip, exS_asg, exS_par, exS_setix, exS_expr, exS_ret, exS_retN, exS_pass, exS_brk, exS_cont, exS_thr, need, bopSem, cmpSem, blSem, ixSem, setAll, asgT, asgL, trunc, rdD, allV, isiSem, isTy, tyOf, tyFits, nexc, items, lstI, L2.atI, L2.ixN, Res.sat_bind, Res.sat_ite, oneR, Wk.asg, wipe, List.replicate, h, h1, this]
end
end Sw

set_option linter.all false
set_option maxRecDepth 100000
set_option maxHeartbeats 2000000
namespace Sw
open PySem
def B_law_begun : Fd := ⟨1, 3, (.cons (.asg (.one 1) (.al (.comp (.bop .sub (.bl .abs (.cons (.var 2) .nil)) (.bop .pow (.cint (10)) (.cint (18)))) (.one 2) [2] (.sq (.var 0)) (.yes (.cmp .ge (.bl .abs (.cons (.var 2) .nil)) (.bop .pow (.cint (10)) (.cint (18)))))))) (.cons (.ret (.dnew ["great", "cells", "rest", "turn"] (.cons (.var 1) (.cons (.fr (.comp (.bl .abs (.cons (.var 2) .nil)) (.one 2) [2] (.sq (.var 0)) .no)) (.cons (.cint (0)) (.cons (.cint (0)) .nil)))))) .nil))⟩
def B_law_blended : Fd := ⟨1, 6, (.cons (.par [2, 3] (.cons (.bop .add (.ix (.var 0) (.cstr "turn")) (.cint (1))) (.cons (.cint (0)) .nil))) (.cons (.setix (.var 0) (.cstr "turn") (.var 2)) (.cons (.for_ (.one 1) (.sq (.fr (.disp (.cons (.cint (2147483579)) (.cons (.cint (2147483629)) (.cons (.cint (2147483563)) .nil)))))) (.cons (.asg (.one 4) (.bop .add (.bop .mul (.cint (48271)) (.var 2)) (.bop .fdiv (.var 1) (.cint (53))))) (.cons (.for_ (.one 5) (.sq (.ix (.var 0) (.cstr "cells"))) (.cons (.asg (.one 4) (.bop .mod (.bl .int (.cons (.bop .add (.bop .add (.bop .mul (.var 4) (.cint (69621))) (.var 5)) (.var 2)) .nil)) (.var 1))) .nil)) (.cons (.asg (.one 3) (.bop .add (.bop .mul (.var 3) (.cint (2147483647))) (.bop .mod (.bl .int (.cons (.bop .pow (.var 4) (.cint (5))) .nil)) (.var 1)))) .nil)))) (.cons (.ret (.var 3)) .nil))))⟩
def B_law_draw (c_law_blended : Nat) : Fd := ⟨2, 3, (.cons (.ite (.cmp .eq (.ix (.var 0) (.cstr "rest")) (.cint (0))) (.cons (.setix (.var 0) (.cstr "rest") (.ife (.cmp .ne (.ix (.var 0) (.cstr "great")) (.fr (.disp .nil))) (.mth .pop (.ix (.var 0) (.cstr "great")) (.cons (.cint (0)) .nil)) (.call c_law_blended (.cons (.var 0) .nil)))) .nil) .nil) (.cons (.asg (.one 2) (.bop .mod (.bl .int (.cons (.ix (.var 0) (.cstr "rest")) .nil)) (.var 1))) (.cons (.setix (.var 0) (.cstr "rest") (.bop .fdiv (.ix (.var 0) (.cstr "rest")) (.var 1))) (.cons (.ret (.var 2)) .nil))))⟩
def B_law_pick (c_law_draw : Nat) : Fd := ⟨2, 2, (.cons (.ret (.ix (.var 1) (.call c_law_draw (.cons (.var 0) (.cons (.bl .len (.cons (.var 1) .nil)) .nil))))) .nil)⟩
def B_law_is_truth : Fd := ⟨2, 2, (.cons (.ret (.ife (.val (.var 1)) (.cmp .isv (.var 0) (.cbl true)) (.cmp .isv (.var 0) (.cbl false)))) .nil)⟩
def B_law_same (c_law_is_truth : Nat) : Fd := ⟨2, 9, (.cons (.asg (.one 2) (.al (.disp (.cons (.tup (.cons (.var 0) (.cons (.var 1) .nil))) .nil)))) (.cons (.whl (.cmp .ne (.var 2) (.fr (.disp .nil))) (.cons (.asg (.cons (.one 3) (.cons (.one 4) .nil)) (.mth .pop (.var 2) .nil)) (.cons (.ite (.or (.cons (.cmp .isv (.var 4) .cnon) (.cons (.val (.isi (.var 4) [.bool] false)) .nil))) (.cons (.ite (.ife (.cmp .isv (.var 4) .cnon) (.cmp .isnt (.var 3) .cnon) (.not (.val (.call c_law_is_truth (.cons (.var 3) (.cons (.var 4) .nil)))))) (.cons (.ret (.cbl false)) .nil) .nil) .nil) (.cons (.ite (.val (.isi (.var 4) [.int, .str] true)) (.cons (.ite (.or (.cons (.val (.isi (.var 3) [.bool] false)) (.cons (.cmp .ne (.isi (.var 3) [.int] false) (.isi (.var 4) [.int] false)) (.cons (.cmp .ne (.var 3) (.var 4)) .nil)))) (.cons (.ret (.cbl false)) .nil) .nil) .nil) (.cons (.ite (.val (.isi (.var 4) [.dict] false)) (.cons (.ite (.or (.cons (.not (.val (.isi (.var 3) [.dict] false))) (.cons (.cmp .ne (.fr (.lof (.var 3))) (.fr (.lof (.var 4)))) .nil))) (.cons (.ret (.cbl false)) .nil) .nil) (.cons (.expr (.mth .extend (.var 2) (.cons (.fr (.lzip (.fr (.lof (.var 3))) (.fr (.lof (.var 4))))) .nil))) (.cons (.expr (.mth .extend (.var 2) (.cons (.fr (.comp (.tup (.cons (.ix (.var 3) (.var 6)) (.cons (.ix (.var 4) (.var 6)) .nil))) (.one 6) [6] (.sq (.var 4)) .no)) .nil))) .nil))) (.cons (.asg (.one 5) (.fr (.disp (.cons (.andv (.cons (.isi (.var 3) [.tuple] false) (.cons (.isi (.var 4) [.tuple] false) .nil))) (.cons (.andv (.cons (.isi (.var 3) [.list] false) (.cons (.isi (.var 4) [.list] false) .nil))) .nil))))) (.cons (.ite (.or (.cons (.cmp .nin (.cbl true) (.var 5)) (.cons (.cmp .ne (.bl .len (.cons (.var 3) .nil)) (.bl .len (.cons (.var 4) .nil))) .nil))) (.cons (.ret (.cbl false)) .nil) .nil) (.cons (.expr (.mth .extend (.var 2) (.cons (.fr (.comp (.tup (.cons (.var 7) (.cons (.var 8) .nil))) (.cons (.one 7) (.cons (.one 8) .nil)) [7, 8] (.zip (.var 3) (.var 4)) .no)) .nil))) .nil)))) .nil)) .nil)) .nil))) (.cons (.ret (.cbl true)) .nil)))⟩

def dKs : List D := [.str "great", .str "cells", .str "rest", .str "turn"]
def dSt (gs cs : List Int) (r t : Int) : Store := [some (.lst (gs.map fun i => .v (.int i))), some (.dic dKs [.r 0, .v (.lst (cs.map D.int)), .v (.int r), .v (.int t)])]
theorem key_great : keyAt (.str "great") dKs = some 0 := by decide +kernel
theorem key_cells : keyAt (.str "cells") dKs = some 1 := by decide +kernel
theorem key_rest : keyAt (.str "rest") dKs = some 2 := by decide +kernel
theorem key_turn : keyAt (.str "turn") dKs = some 3 := by decide +kernel
theorem dKs_len : dKs.length = 4 := rfl
def Dok (b : Nat) (ex : Store) (st : Store) : Prop := ∃ gs cs r t, st = dSt gs cs r t ++ ex ∧ (∀ i ∈ gs, 0 ≤ i) ∧ (∀ i ∈ cs, 0 ≤ i) ∧ 0 ≤ r ∧ 0 ≤ t ∧ t + b ≤ 2 ^ 40 ∧ gs.length ≤ 100
theorem Dok.mono {a b : Nat} {ex st : Store} (h : Dok b ex st) (l : a ≤ b) : Dok a ex st := by
  obtain ⟨gs, cs, r, t, h1, h2, h3, h4, h5, h6, h7⟩ := h
  exact ⟨gs, cs, r, t, h1, h2, h3, h4, h5, by omega, h7⟩
theorem Dok.len {b : Nat} {ex st : Store} (h : Dok b ex st) : st.length = 2 + ex.length := by
  obtain ⟨gs, cs, r, t, h1, _⟩ := h
  rw [h1]
  simp [dSt]
  omega
theorem mulOk_r {i j : Int} (h : j.natAbs < 2 ^ 64) : mulOk i j = true := by
  unfold mulOk
  simp only [Bool.or_eq_true, decide_eq_true_eq]
  exact .inl (.inr h)
theorem mulOk_l {i j : Int} (h : i.natAbs < 2 ^ 64) : mulOk i j = true := by
  unfold mulOk
  simp only [Bool.or_eq_true, decide_eq_true_eq]
  exact .inl (.inl h)
theorem big64 {i : Int} (h : i.natAbs < 2 ^ 64) : Big i := .of h (by decide)
section
variable {G : Gt} {F : Nat → Option Fd} {k f : Nat}
def SBlend (C : Nat → List S → Store → Res S) (f : Nat) : Prop := ∀ (ex : Store) (gs cs : List Int) (r t : Int), (∀ i ∈ cs, 0 ≤ i) → 0 ≤ t → t + 1 ≤ 2 ^ 40 → (C f [.r 1] (dSt gs cs r t ++ ex)).sat fun v st' => ∃ n : Int, 0 ≤ n ∧ v = .v (.int n) ∧ st' = dSt gs cs r (t + 1) ++ ex
theorem sp_blended (hf : F f = some B_law_blended) (hk : G.keep.contains f = false) : SBlend (callK G F (k + 1)) f := by
  intro ex gs cs r t hcs ht ht2
  refine call_sat hf rfl hk ?_
  have ky : (keyD (.str "turn")).isSome = true := rfl
  simp [B_law_blended, evE, evEs, evO, evOc, evC, evAll, evAny, evAnd, evOr, depAll_nil, get_app, set_app, get_app1, get_map_last, sat_nil, sat_cons, after_nx, after_rt, after_bk, after_ct, brn_true, brn_false, sat_ifs, evFr_disp, evFr_lof, evFr_add, evFr_lzip, exS_asg, exS_par, exS_setix, exS_expr, exS_ret, exS_retN, exS_pass, exS_brk, exS_cont, exS_thr, need, bopSem, cmpSem, blSem, ixSem, setAll, asgT, asgL, trunc, rdD, allV, isiSem, isTy, tyOf, tyFits, nexc, items, lstI, L2.atI, L2.ixN, Res.sat_bind, Res.sat_ite, oneR, Wk.asg, wipe, List.replicate, dSt, key_turn, setSem, ky, dKs_len, sizeLine_eq]
  refine for_sq [2147483579, 2147483629, 2147483563] D.int (fun rr ρ' st' => st' = dSt gs cs r (t + 1) ++ ex ∧ (∀ p ∈ rr, 0 < p ∧ p < 2 ^ 31) ∧ ∃ e1 fn e4 e5, 0 ≤ fn ∧ ρ' = [some (.r 1), e1, some (.v (.int (t + 1))), some (.v (.int fn)), e4, e5]) (x := .lst ([2147483579, 2147483629, 2147483563].map D.int)) (st1 := dSt gs cs r (t + 1) ++ ex) (by simp [evE, evEs, evO, evOc, evC, evAll, evAny, evAnd, evOr, depAll_nil, get_app, set_app, get_app1, get_map_last, sat_nil, sat_cons, after_nx, after_rt, after_bk, after_ct, brn_true, brn_false, sat_ifs, evFr_disp, evFr_lof, evFr_add, evFr_lzip, exS_asg, exS_par, exS_setix, exS_expr, exS_ret, exS_retN, exS_pass, exS_brk, exS_cont, exS_thr, need, bopSem, cmpSem, blSem, ixSem, setAll, asgT, asgL, trunc, rdD, allV, isiSem, isTy, tyOf, tyFits, nexc, items, lstI, L2.atI, L2.ixN, Res.sat_bind, Res.sat_ite, oneR, Wk.asg, wipe, List.replicate, dSt]) (.inl rfl) ⟨rfl, by simp, none, 0, none, none, by omega, rfl⟩ (fun p rr ρ' st' h => ?_) fun ρ' st' h => ?_
  · obtain ⟨rfl, hp, e1, fn, e4, e5, hfn, rfl⟩ := h
    obtain ⟨p0, p1⟩ := hp p List.mem_cons_self
    refine ⟨_, rfl, ?_⟩
    have m1 : mulOk 48271 (t + 1) = true := mulOk_l (by decide)
    have d1 : divOk p 53 = true := divOk_of (big64 (by decide)) (by decide)
    simp [evE, evEs, evO, evOc, evC, evAll, evAny, evAnd, evOr, depAll_nil, get_app, set_app, get_app1, get_map_last, sat_nil, sat_cons, after_nx, after_rt, after_bk, after_ct, brn_true, brn_false, sat_ifs, evFr_disp, evFr_lof, evFr_add, evFr_lzip, exS_asg, exS_par, exS_setix, exS_expr, exS_ret, exS_retN, exS_pass, exS_brk, exS_cont, exS_thr, need, bopSem, cmpSem, blSem, ixSem, setAll, asgT, asgL, trunc, rdD, allV, isiSem, isTy, tyOf, tyFits, nexc, items, lstI, L2.atI, L2.ixN, Res.sat_bind, Res.sat_ite, oneR, Wk.asg, wipe, List.replicate, m1, d1]
    have hpd : 0 ≤ p.fdiv 53 ∧ p.fdiv 53 < 2 ^ 31 := by
      rw [Int.fdiv_eq_ediv_of_nonneg _ (by decide)]
      omega
    refine for_sq cs D.int (fun r2 ρ' st' => st' = dSt gs cs r (t + 1) ++ ex ∧ (∀ i ∈ r2, 0 ≤ i) ∧ ∃ bl e5, 0 ≤ bl ∧ bl < 2 ^ 63 ∧ ρ' = [some (.r 1), some (.v (.int p)), some (.v (.int (t + 1))), some (.v (.int fn)), some (.v (.int bl)), e5]) (x := .lst (cs.map D.int)) (st1 := dSt gs cs r (t + 1) ++ ex) (by simp [evE, evEs, evO, evOc, evC, evAll, evAny, evAnd, evOr, depAll_nil, get_app, set_app, get_app1, get_map_last, sat_nil, sat_cons, after_nx, after_rt, after_bk, after_ct, brn_true, brn_false, sat_ifs, evFr_disp, evFr_lof, evFr_add, evFr_lzip, exS_asg, exS_par, exS_setix, exS_expr, exS_ret, exS_retN, exS_pass, exS_brk, exS_cont, exS_thr, need, bopSem, cmpSem, blSem, ixSem, setAll, asgT, asgL, trunc, rdD, allV, isiSem, isTy, tyOf, tyFits, nexc, items, lstI, L2.atI, L2.ixN, Res.sat_bind, Res.sat_ite, oneR, Wk.asg, wipe, List.replicate, dSt, key_cells]) (.inl rfl) ⟨rfl, hcs, 48271 * (t + 1) + p.fdiv 53, e5, by omega, by omega, rfl⟩ (fun i r2 ρ' st' h => ?_) fun ρ' st' h => ?_
    · obtain ⟨rfl, hi, bl, e5, b0, b1, rfl⟩ := h
      refine ⟨_, rfl, ?_⟩
      have m2 : mulOk bl 69621 = true := mulOk_r (by decide)
      have pn : p ≠ 0 := by omega
      simp [evE, evEs, evO, evOc, evC, evAll, evAny, evAnd, evOr, depAll_nil, get_app, set_app, get_app1, get_map_last, sat_nil, sat_cons, after_nx, after_rt, after_bk, after_ct, brn_true, brn_false, sat_ifs, evFr_disp, evFr_lof, evFr_add, evFr_lzip, exS_asg, exS_par, exS_setix, exS_expr, exS_ret, exS_retN, exS_pass, exS_brk, exS_cont, exS_thr, need, bopSem, cmpSem, blSem, ixSem, setAll, asgT, asgL, trunc, rdD, allV, isiSem, isTy, tyOf, tyFits, nexc, items, lstI, L2.atI, L2.ixN, Res.sat_bind, Res.sat_ite, oneR, Wk.asg, wipe, List.replicate, m2, pn]
      refine ⟨fun j hj => hi j (List.mem_cons_of_mem _ hj), Int.fmod_nonneg_of_pos _ p0, ?_⟩
      have := Int.fmod_lt_of_pos (bl * 69621 + i + (t + 1)) p0
      omega
    · obtain ⟨rfl, hi, bl, e5, b0, b1, rfl⟩ := h
      have m3 : mulOk fn 2147483647 = true := mulOk_r (by decide)
      have pn : p ≠ 0 := by omega
      have p5 : powOk bl 5 = true := by
        unfold powOk
        simp only [Bool.and_eq_true, decide_eq_true_eq]
        omega
      simp [evE, evEs, evO, evOc, evC, evAll, evAny, evAnd, evOr, depAll_nil, get_app, set_app, get_app1, get_map_last, sat_nil, sat_cons, after_nx, after_rt, after_bk, after_ct, brn_true, brn_false, sat_ifs, evFr_disp, evFr_lof, evFr_add, evFr_lzip, exS_asg, exS_par, exS_setix, exS_expr, exS_ret, exS_retN, exS_pass, exS_brk, exS_cont, exS_thr, need, bopSem, cmpSem, blSem, ixSem, setAll, asgT, asgL, trunc, rdD, allV, isiSem, isTy, tyOf, tyFits, nexc, items, lstI, L2.atI, L2.ixN, Res.sat_bind, Res.sat_ite, oneR, Wk.asg, wipe, List.replicate, m3, pn, p5]
      refine ⟨fun q hq => hp q (List.mem_cons_of_mem _ hq), ?_⟩
      have := Int.fmod_nonneg_of_pos (bl ^ 5) p0
      omega
  · obtain ⟨rfl, _, e1, fn, e4, e5, hfn, rfl⟩ := h
    simp [evE, evEs, evO, evOc, evC, evAll, evAny, evAnd, evOr, depAll_nil, get_app, set_app, get_app1, get_map_last, sat_nil, sat_cons, after_nx, after_rt, after_bk, after_ct, brn_true, brn_false, sat_ifs, evFr_disp, evFr_lof, evFr_add, evFr_lzip, exS_asg, exS_par, exS_setix, exS_expr, exS_ret, exS_retN, exS_pass, exS_brk, exS_cont, exS_thr, need, bopSem, cmpSem, blSem, ixSem, setAll, asgT, asgL, trunc, rdD, allV, isiSem, isTy, tyOf, tyFits, nexc, items, lstI, L2.atI, L2.ixN, Res.sat_bind, Res.sat_ite, oneR, Wk.asg, wipe, List.replicate]
    exact ⟨fn, hfn, rfl, by simp [dSt]⟩
theorem eqv_int (a b : Int) : D.eqv (.int a) (.int b) = decide (a = b) := by
  simp only [D.eqv, D.pd, PyData.eqv]
  by_cases h : a = b <;> simp [h]
theorem eqv_nilc (d : D) (ds : List D) : D.eqv (.lst (d :: ds)) (.lst []) = false := by
  simp only [D.eqv, D.pd, D.pdAll, PyData.eqv, PyData.eqvAll]
theorem eqv_nil : D.eqv (.lst []) (.lst []) = true := by
  simp only [D.eqv, D.pd, D.pdAll, PyData.eqv, PyData.eqvAll]
theorem eqv_rt (q r : Rat) : D.eqv (rt q) (rt r) = decide (q = r) := by
  unfold rt
  simp only [D.eqv, D.pd, D.pdAll, PyData.eqv, PyData.eqvAll]
  by_cases h : q = r
  · subst h; simp
  · rw [decide_eq_false h]
    by_cases h1 : q.num = r.num
    · have h2 : (q.den : Int) ≠ r.den := fun e => h (Rat.ext h1 (by omega))
      simp [h2]
    · simp [h1]
theorem dep_ints : ∀ cs : List Int, D.depAll (cs.map D.int) = 0
  | [] => rfl
  | c :: cs => by
    simp only [List.map_cons, D.depAll, D.dep, dep_ints cs]
    rfl
theorem dep_rt (q : Rat) : (rt q).dep = 1 := rfl
def SDraw (C : Nat → List S → Store → Res S) (f : Nat) : Prop := ∀ (b : Nat) (ex st : Store) (room : Int), 0 < room → Big room → Dok (b + 1) ex st → (C f [.r 1, .v (.int room)] st).sat fun v st' => ∃ n : Nat, (n : Int) < room ∧ v = .v (.int n) ∧ Dok b ex st'
theorem draw_end {gs cs : List Int} {r t room : Int} {b : Nat} {ex : Store} (h0 : 0 < room) (h2 : ∀ i ∈ gs, 0 ≤ i) (h3 : ∀ i ∈ cs, 0 ≤ i) (h4 : 0 ≤ r) (h5 : 0 ≤ t) (h6 : t + b ≤ 2 ^ 40) (h7 : gs.length ≤ 100) {st' : Store} (e : st' = dSt gs cs (r.fdiv room) t ++ ex) :
    ∃ n : Nat, (n : Int) < room ∧ S.v (.int (r.fmod room)) = .v (.int n) ∧ Dok b ex st' := by
  have n0 := Int.fmod_nonneg_of_pos r h0
  have n1 := Int.fmod_lt_of_pos r h0
  refine ⟨(r.fmod room).toNat, by omega, by rw [Int.toNat_of_nonneg n0], gs, cs, r.fdiv room, t, e, h2, h3, ?_, h5, h6, h7⟩
  rw [Int.fdiv_eq_ediv_of_nonneg _ (by omega)]
  exact Int.ediv_nonneg h4 (by omega)
theorem sp_draw {fb : Nat} (hf : F f = some (B_law_draw fb)) (hk : G.keep.contains f = false) (hb : SBlend (callK G F k) fb) : SDraw (callK G F (k + 1)) f := by
  intro b ex st room h0 hr hd
  obtain ⟨gs, cs, r, t, rfl, h2, h3, h4, h5, h6, h7⟩ := hd
  refine call_sat hf rfl hk ?_
  have ky : (keyD (.str "rest")).isSome = true := rfl
  have rn : room ≠ 0 := by omega
  have dv : ∀ i, divOk i room = true := fun i => divOk_of hr rn
  by_cases hr0 : r = 0
  · subst hr0
    cases gs with
    | nil =>
      simp [B_law_draw, evE, evEs, evO, evOc, evC, evAll, evAny, evAnd, evOr, depAll_nil, get_app, set_app, get_app1, get_map_last, sat_nil, sat_cons, after_nx, after_rt, after_bk, after_ct, brn_true, brn_false, sat_ifs, evFr_disp, evFr_lof, evFr_add, evFr_lzip, exS_asg, exS_par, exS_setix, exS_expr, exS_ret, exS_retN, exS_pass, exS_brk, exS_cont, exS_thr, need, bopSem, cmpSem, blSem, ixSem, setAll, asgT, asgL, trunc, rdD, allV, isiSem, isTy, tyOf, tyFits, nexc, items, lstI, L2.atI, L2.ixN, Res.sat_bind, Res.sat_ite, oneR, Wk.asg, wipe, List.replicate, dSt, key_rest, key_great, key_cells, setSem, ky, dKs_len, sizeLine_eq, eqv_int, eqv_nil, D.dep, D.depAll]
      refine (hb ex [] cs 0 t h3 h5 (by omega)).mono fun v st' hv => ?_
      obtain ⟨n, n0, rfl, rfl⟩ := hv
      simp [evE, evEs, evO, evOc, evC, evAll, evAny, evAnd, evOr, depAll_nil, get_app, set_app, get_app1, get_map_last, sat_nil, sat_cons, after_nx, after_rt, after_bk, after_ct, brn_true, brn_false, sat_ifs, evFr_disp, evFr_lof, evFr_add, evFr_lzip, exS_asg, exS_par, exS_setix, exS_expr, exS_ret, exS_retN, exS_pass, exS_brk, exS_cont, exS_thr, need, bopSem, cmpSem, blSem, ixSem, setAll, asgT, asgL, trunc, rdD, allV, isiSem, isTy, tyOf, tyFits, nexc, items, lstI, L2.atI, L2.ixN, Res.sat_bind, Res.sat_ite, oneR, Wk.asg, wipe, List.replicate, dSt, key_rest, key_great, setSem, ky, dKs_len, sizeLine_eq, rn, dv]
      obtain ⟨m, m1, m2, m3⟩ := draw_end (gs := []) (cs := cs) (r := n) (t := t + 1) (b := b) (ex := ex) h0 (by simp) h3 n0 (by omega) (by omega) (by simp) rfl
      simp only [S.v.injEq, D.int.injEq] at m2
      exact ⟨m, m1, m2, by simpa [dSt] using m3⟩
    | cons g gs =>
      have dp : D.depAll (List.map D.int gs) = 0 := dep_ints gs
      have av : allV (List.map (fun i => S.v (D.int i)) gs) = some (gs.map D.int) := allV_mapF D.int gs
      simp [B_law_draw, evE, evEs, evO, evOc, evC, evAll, evAny, evAnd, evOr, depAll_nil, get_app, set_app, get_app1, get_map_last, sat_nil, sat_cons, after_nx, after_rt, after_bk, after_ct, brn_true, brn_false, sat_ifs, evFr_disp, evFr_lof, evFr_add, evFr_lzip, exS_asg, exS_par, exS_setix, exS_expr, exS_ret, exS_retN, exS_pass, exS_brk, exS_cont, exS_thr, need, bopSem, cmpSem, blSem, ixSem, setAll, asgT, asgL, trunc, rdD, allV, isiSem, isTy, tyOf, tyFits, nexc, items, lstI, L2.atI, L2.ixN, Res.sat_bind, Res.sat_ite, oneR, Wk.asg, wipe, List.replicate, dSt, key_rest, key_great, key_cells, setSem, ky, dKs_len, sizeLine_eq, eqv_int, eqv_nilc, D.dep, D.depAll, dp, av, mthTy, mthSem, rn, dv]
      obtain ⟨m, m1, m2, m3⟩ := draw_end (gs := gs) (cs := cs) (r := g) (t := t) (b := b) (ex := ex) h0 (fun i hi => h2 i (List.mem_cons_of_mem _ hi)) h3 (h2 g List.mem_cons_self) h5 (by omega) (by simp at h7; omega) rfl
      simp only [S.v.injEq, D.int.injEq] at m2
      exact ⟨m, m1, m2, by simpa [dSt] using m3⟩
  · simp [B_law_draw, evE, evEs, evO, evOc, evC, evAll, evAny, evAnd, evOr, depAll_nil, get_app, set_app, get_app1, get_map_last, sat_nil, sat_cons, after_nx, after_rt, after_bk, after_ct, brn_true, brn_false, sat_ifs, evFr_disp, evFr_lof, evFr_add, evFr_lzip, exS_asg, exS_par, exS_setix, exS_expr, exS_ret, exS_retN, exS_pass, exS_brk, exS_cont, exS_thr, need, bopSem, cmpSem, blSem, ixSem, setAll, asgT, asgL, trunc, rdD, allV, isiSem, isTy, tyOf, tyFits, nexc, items, lstI, L2.atI, L2.ixN, Res.sat_bind, Res.sat_ite, oneR, Wk.asg, wipe, List.replicate, dSt, key_rest, key_great, key_cells, setSem, ky, dKs_len, sizeLine_eq, eqv_int, hr0, D.dep, rn, dv]
    obtain ⟨m, m1, m2, m3⟩ := draw_end (gs := gs) (cs := cs) (r := r) (t := t) (b := b) (ex := ex) h0 h2 h3 h4 h5 (by omega) h7 rfl
    simp only [S.v.injEq, D.int.injEq] at m2
    exact ⟨m, m1, m2, by simpa [dSt] using m3⟩
def SPick (C : Nat → List S → Store → Res S) (f : Nat) : Prop := ∀ (b : Nat) (ex st : Store) (ds : List D), ds ≠ [] → ds.length < 2 ^ 64 → Dok (b + 1) ex st → (C f [.r 1, .v (.lst ds)] st).sat fun v st' => ∃ d, d ∈ ds ∧ v = .v d ∧ Dok b ex st'
theorem Dok.take {b : Nat} {ex st st' : Store} {b' : Nat} (h : Dok b ex st) (h' : Dok b' ex st') : st'.take st.length = st' := by
  rw [h.len, ← h'.len, List.take_length]
theorem sp_pick {fd : Nat} (hf : F f = some (B_law_pick fd)) (hk : G.keep.contains f = false) (hd : SDraw (callK G F k) fd) : SPick (callK G F (k + 1)) f := by
  intro b ex st ds hne hl hD
  refine call_sat hf rfl hk ?_
  have hpos : 0 < ds.length := List.length_pos_iff.mpr hne
  simp [B_law_pick, evE, evEs, evO, evOc, evC, evAll, evAny, evAnd, evOr, depAll_nil, get_app, set_app, get_app1, get_map_last, sat_nil, sat_cons, after_nx, after_rt, after_bk, after_ct, brn_true, brn_false, sat_ifs, evFr_disp, evFr_lof, evFr_add, evFr_lzip, exS_asg, exS_par, exS_setix, exS_expr, exS_ret, exS_retN, exS_pass, exS_brk, exS_cont, exS_thr, need, bopSem, cmpSem, blSem, ixSem, setAll, asgT, asgL, trunc, rdD, allV, isiSem, isTy, tyOf, tyFits, nexc, items, lstI, L2.atI, L2.ixN, Res.sat_bind, Res.sat_ite, oneR, Wk.asg, wipe, List.replicate]
  refine (hd b ex st ds.length (by omega) (big64 (by omega)) hD).mono fun v st' hv => ?_
  obtain ⟨n, h1, rfl, h2⟩ := hv
  have hn : n < ds.length := by omega
  simp [evE, evEs, evO, evOc, evC, evAll, evAny, evAnd, evOr, depAll_nil, get_app, set_app, get_app1, get_map_last, sat_nil, sat_cons, after_nx, after_rt, after_bk, after_ct, brn_true, brn_false, sat_ifs, evFr_disp, evFr_lof, evFr_add, evFr_lzip, exS_asg, exS_par, exS_setix, exS_expr, exS_ret, exS_retN, exS_pass, exS_brk, exS_cont, exS_thr, need, bopSem, cmpSem, blSem, ixSem, setAll, asgT, asgL, trunc, rdD, allV, isiSem, isTy, tyOf, tyFits, nexc, items, lstI, L2.atI, L2.ixN, Res.sat_bind, Res.sat_ite, oneR, Wk.asg, wipe, List.replicate, hn]
  refine ⟨_, List.getElem_mem hn, rfl, ?_⟩
  rw [hD.take h2]
  exact h2
end
end Sw

set_option linter.all false
set_option maxRecDepth 100000
set_option maxHeartbeats 2000000
namespace Sw
open PySem
section
variable {G : Gt} {F : Nat → Option Fd} {C : Nat → List S → Store → Res S} {k f : Nat}
theorem evIt_scr {ρ : Env} {st st1 : Store} {e : E} {ns : List Int} (he : evE G C e ρ st = .ok (.v (.scr ns)) st1) : evIt G C (.sq e) ρ st = .ok ⟨ns.map fun n => [S.v (.int n)], false, []⟩ st1 := by
  simp only [evIt, he, Res.bind_ok]
  rfl
theorem comp_scr {ρ : Env} {st : Store} (l : List Int) (g : Int → Option S) {e el : E} {tg : Tg} {vs : List Nat} {c : Oc} {st1 : Store} {Q : List S → Store → Prop} (he : evE G C e ρ st = .ok (.v (.scr l)) st1)
    (hb : ∀ a ∈ l, ((match asgT tg (.v (.int a)) (wipe ρ vs) with
      | none => .bad
      | some ρ2 => (evOc G C c ρ2 st1).bind fun b st3 => if b then (evE G C el ρ2 st3).bind fun x st4 => .ok (some x) st4 else .ok none st3) : Res (Option S)) = .ok (g a) st1) (hQ : Q (l.filterMap g) st1) : (evFr G C (.comp el tg vs (.sq e) c) ρ st).sat Q :=
  comp_pure l (fun a => [S.v (.int a)]) g (evIt_scr he) rfl (fun p hp => nomatch hp) hb hQ
def absI (i : Int) : Int := if i < 0 then -i else i
theorem absI_nn (i : Int) : 0 ≤ absI i := by unfold absI; split <;> omega
theorem sp_begun (hf : F f = some B_law_begun) (hk : G.keep.contains f = true) (ns : List Int) (hn : ns.length ≤ 63) : ∃ st, callK G F (k + 1) f [.v (.scr ns)] [] = .ok (.r 1) st ∧ ∀ b, b ≤ 2 ^ 40 → Dok b [] st := by
  rw [callK_at hf rfl, hk]
  have key : (exSs G (callK G F k) B_law_begun.body ([S.v (.scr ns)].map some ++ List.replicate (B_law_begun.nn - B_law_begun.np) none) []).sat fun p st => p.2 = .rt (.r 1) ∧ ∀ b, b ≤ 2 ^ 40 → Dok b [] st := by
    have p18 : powOk 10 18 = true := by decide
    have hab : ∀ i : Int, (if i < 0 then -i else i) = absI i := fun _ => rfl
    simp [B_law_begun, evE, evEs, evO, evOc, evC, evAll, evAny, evAnd, evOr, depAll_nil, get_app, set_app, get_app1, get_map_last, sat_nil, sat_cons, after_nx, after_rt, after_bk, after_ct, brn_true, brn_false, sat_ifs, evFr_disp, evFr_lof, evFr_add, evFr_lzip, exS_asg, exS_par, exS_setix, exS_expr, exS_ret, exS_retN, exS_pass, exS_brk, exS_cont, exS_thr, need, bopSem, cmpSem, blSem, ixSem, setAll, asgT, asgL, trunc, rdD, allV, isiSem, isTy, tyOf, tyFits, nexc, items, lstI, L2.atI, L2.ixN, Res.sat_bind, Res.sat_ite, oneR, Wk.asg, wipe, List.replicate]
    refine comp_scr ns (fun i => if (decide (1000000000000000000 ≤ absI i)) = true then some (.v (.int (absI i - 1000000000000000000))) else none) (st1 := []) (by simp [evE, evEs, evO, evOc, evC, evAll, evAny, evAnd, evOr, depAll_nil, get_app, set_app, get_app1, get_map_last, sat_nil, sat_cons, after_nx, after_rt, after_bk, after_ct, brn_true, brn_false, sat_ifs, evFr_disp, evFr_lof, evFr_add, evFr_lzip, exS_asg, exS_par, exS_setix, exS_expr, exS_ret, exS_retN, exS_pass, exS_brk, exS_cont, exS_thr, need, bopSem, cmpSem, blSem, ixSem, setAll, asgT, asgL, trunc, rdD, allV, isiSem, isTy, tyOf, tyFits, nexc, items, lstI, L2.atI, L2.ixN, Res.sat_bind, Res.sat_ite, oneR, Wk.asg, wipe, List.replicate]) (fun a ha => ?_) ?_
    · by_cases h : 1000000000000000000 ≤ absI a <;> simp [evE, evEs, evO, evOc, evC, evAll, evAny, evAnd, evOr, depAll_nil, get_app, set_app, get_app1, get_map_last, sat_nil, sat_cons, after_nx, after_rt, after_bk, after_ct, brn_true, brn_false, sat_ifs, evFr_disp, evFr_lof, evFr_add, evFr_lzip, exS_asg, exS_par, exS_setix, exS_expr, exS_ret, exS_retN, exS_pass, exS_brk, exS_cont, exS_thr, need, bopSem, cmpSem, blSem, ixSem, setAll, asgT, asgL, trunc, rdD, allV, isiSem, isTy, tyOf, tyFits, nexc, items, lstI, L2.atI, L2.ixN, Res.sat_bind, Res.sat_ite, oneR, Wk.asg, wipe, List.replicate, p18, hab, h]
    · simp [evE, evEs, evO, evOc, evC, evAll, evAny, evAnd, evOr, depAll_nil, get_app, set_app, get_app1, get_map_last, sat_nil, sat_cons, after_nx, after_rt, after_bk, after_ct, brn_true, brn_false, sat_ifs, evFr_disp, evFr_lof, evFr_add, evFr_lzip, exS_asg, exS_par, exS_setix, exS_expr, exS_ret, exS_retN, exS_pass, exS_brk, exS_cont, exS_thr, need, bopSem, cmpSem, blSem, ixSem, setAll, asgT, asgL, trunc, rdD, allV, isiSem, isTy, tyOf, tyFits, nexc, items, lstI, L2.atI, L2.ixN, Res.sat_bind, Res.sat_ite, oneR, Wk.asg, wipe, List.replicate]
      refine comp_scr ns (fun i => some (.v (.int (absI i)))) (st1 := _) (by simp [evE, evEs, evO, evOc, evC, evAll, evAny, evAnd, evOr, depAll_nil, get_app, set_app, get_app1, get_map_last, sat_nil, sat_cons, after_nx, after_rt, after_bk, after_ct, brn_true, brn_false, sat_ifs, evFr_disp, evFr_lof, evFr_add, evFr_lzip, exS_asg, exS_par, exS_setix, exS_expr, exS_ret, exS_retN, exS_pass, exS_brk, exS_cont, exS_thr, need, bopSem, cmpSem, blSem, ixSem, setAll, asgT, asgL, trunc, rdD, allV, isiSem, isTy, tyOf, tyFits, nexc, items, lstI, L2.atI, L2.ixN, Res.sat_bind, Res.sat_ite, oneR, Wk.asg, wipe, List.replicate]; rfl) (fun a ha => ?_) ?_
      · simp [evE, evEs, evO, evOc, evC, evAll, evAny, evAnd, evOr, depAll_nil, get_app, set_app, get_app1, get_map_last, sat_nil, sat_cons, after_nx, after_rt, after_bk, after_ct, brn_true, brn_false, sat_ifs, evFr_disp, evFr_lof, evFr_add, evFr_lzip, exS_asg, exS_par, exS_setix, exS_expr, exS_ret, exS_retN, exS_pass, exS_brk, exS_cont, exS_thr, need, bopSem, cmpSem, blSem, ixSem, setAll, asgT, asgL, trunc, rdD, allV, isiSem, isTy, tyOf, tyFits, nexc, items, lstI, L2.atI, L2.ixN, Res.sat_bind, Res.sat_ite, oneR, Wk.asg, wipe, List.replicate, hab]
      · have av := allV_mapF (fun i => D.int (absI i)) ns
        have fm : (ns.filterMap fun i => some (S.v (.int (absI i)))) = ns.map fun i => S.v (.int (absI i)) := filterMap_someF (fun i => S.v (.int (absI i))) ns
        have fm2 := filterMap_ite (fun i => decide (1000000000000000000 ≤ absI i)) (fun i => S.v (.int (absI i - 1000000000000000000))) ns
        rw [fm]
        simp [evE, evEs, evO, evOc, evC, evAll, evAny, evAnd, evOr, depAll_nil, get_app, set_app, get_app1, get_map_last, sat_nil, sat_cons, after_nx, after_rt, after_bk, after_ct, brn_true, brn_false, sat_ifs, evFr_disp, evFr_lof, evFr_add, evFr_lzip, exS_asg, exS_par, exS_setix, exS_expr, exS_ret, exS_retN, exS_pass, exS_brk, exS_cont, exS_thr, need, bopSem, cmpSem, blSem, ixSem, setAll, asgT, asgL, trunc, rdD, allV, isiSem, isTy, tyOf, tyFits, nexc, items, lstI, L2.atI, L2.ixN, Res.sat_bind, Res.sat_ite, oneR, Wk.asg, wipe, List.replicate, av]
        refine ⟨by decide +kernel, fun b hb => ⟨((ns.filter fun i => decide (1000000000000000000 ≤ absI i)).map fun i => absI i - 1000000000000000000), ns.map absI, 0, 0, ?_, ?_, ?_, by omega, by omega, by omega, ?_⟩⟩
        · simp [dSt, dKs, List.map_map]
          simp only [decide_eq_true_eq] at fm2
          exact fm2
        · intro i hi
          obtain ⟨j, hj, rfl⟩ := List.mem_map.mp hi
          have := of_decide_eq_true (List.mem_filter.mp hj).2
          omega
        · intro i hi
          obtain ⟨j, hj, rfl⟩ := List.mem_map.mp hi
          exact absI_nn j
        · rw [List.length_map]
          have := List.length_filter_le (fun i => decide (1000000000000000000 ≤ absI i)) ns
          omega
  obtain ⟨p, st, e, h1, h2⟩ := key.ex
  obtain ⟨ρ, fl⟩ := p
  dsimp only at h1
  subst h1
  rw [e]
  exact ⟨st, rfl, h2⟩
def STruth (C : Nat → List S → Store → Res S) (f : Nat) : Prop := ∀ (st : Store) (a b : Bool), C f [.v (.bl a), .v (.bl b)] st = .ok (.v (.bl (a == b))) st
theorem sp_truth (hf : F f = some B_law_is_truth) (hk : G.keep.contains f = false) : STruth (callK G F (k + 1)) f := by
  intro st a b
  refine call_eq hf rfl hk ?_
  cases a <;> cases b <;> simp [B_law_is_truth, evE, evEs, evO, evOc, evC, evAll, evAny, evAnd, evOr, depAll_nil, get_app, set_app, get_app1, get_map_last, sat_nil, sat_cons, after_nx, after_rt, after_bk, after_ct, brn_true, brn_false, sat_ifs, evFr_disp, evFr_lof, evFr_add, evFr_lzip, exS_asg, exS_par, exS_setix, exS_expr, exS_ret, exS_retN, exS_pass, exS_brk, exS_cont, exS_thr, need, bopSem, cmpSem, blSem, ixSem, setAll, asgT, asgL, trunc, rdD, allV, isiSem, isTy, tyOf, tyFits, nexc, items, lstI, L2.atI, L2.ixN, Res.sat_bind, Res.sat_ite, oneR, Wk.asg, wipe, List.replicate]
mutual
def D.pl : D → Bool
  | .non | .bl _ | .int _ | .str _ => true
  | .tup xs | .lst xs => D.plAll xs
  | _ => false
def D.plAll : List D → Bool
  | [] => true
  | x :: xs => x.pl && D.plAll xs
end
mutual
def D.sz : D → Nat
  | .tup xs | .lst xs => D.szAll xs + 1
  | _ => 1
def D.szAll : List D → Nat
  | [] => 0
  | x :: xs => x.sz + D.szAll xs
end
theorem plAll_mem : ∀ {xs : List D}, D.plAll xs = true → ∀ x ∈ xs, x.pl = true
  | [], _, x, h => nomatch h
  | y :: ys, h, x, hx => by
    simp only [D.plAll, Bool.and_eq_true] at h
    rcases List.mem_cons.mp hx with rfl | hx
    · exact h.1
    · exact plAll_mem h.2 x hx
theorem depAll_mem : ∀ {xs : List D} {x : D}, x ∈ xs → x.dep ≤ D.depAll xs
  | y :: ys, x, hx => by
    simp only [D.depAll]
    rcases List.mem_cons.mp hx with rfl | hx
    · exact Nat.le_max_left _ _
    · exact Nat.le_trans (depAll_mem hx) (Nat.le_max_right _ _)
theorem depAll_le {m : Nat} : ∀ {xs : List D}, (∀ x ∈ xs, x.dep ≤ m) → D.depAll xs ≤ m
  | [], _ => Nat.zero_le _
  | y :: ys, h => by
    simp only [D.depAll]
    exact Nat.max_le.mpr ⟨h y List.mem_cons_self, depAll_le fun x hx => h x (List.mem_cons_of_mem _ hx)⟩
theorem D.sz_pos (x : D) : 0 < x.sz := by cases x <;> simp [D.sz]
theorem szAll_app (xs ys : List D) : D.szAll (xs ++ ys) = D.szAll xs + D.szAll ys := by
  induction xs with
  | nil => simp [D.szAll]
  | cons x xs ih => simp only [List.cons_append, D.szAll, ih]; omega
theorem szAll_len (xs : List D) : xs.length ≤ D.szAll xs := by
  induction xs with
  | nil => simp
  | cons x xs ih =>
    have := x.sz_pos
    simp only [List.length_cons, D.szAll]
    omega
def pr (x : D) : D := .tup [x, x]
def SSame (C : Nat → List S → Store → Res S) (f : Nat) : Prop := ∀ (st : Store) (d : D), d.pl = true → d.dep ≤ 40 → d.sz ≤ 1000000 → C f [.v d, .v d] st = .ok (.v (.bl true)) st
theorem eqv_bl (a b : Bool) : D.eqv (.bl a) (.bl b) = (a == b) := by cases a <;> cases b <;> rfl
theorem eqv_str (a : Str) : D.eqv (.str a) (.str a) = true := by simp [D.eqv, D.pd, PyData.eqv]
theorem zip_self {α : Type} : ∀ l : List α, l.zip l = l.map fun x => (x, x)
  | [] => rfl
  | a :: l => by simp [zip_self l]
theorem sp_same {ft : Nat} (hf : F f = some (B_law_same ft)) (hk : G.keep.contains f = false) (ht : STruth (callK G F k) ft) : SSame (callK G F (k + 1)) f := by
  intro st d hp hd hs
  refine call_eq hf rfl hk ?_
  simp [B_law_same, evE, evEs, evO, evOc, evC, evAll, evAny, evAnd, evOr, depAll_nil, get_app, set_app, get_app1, get_map_last, sat_nil, sat_cons, after_nx, after_rt, after_bk, after_ct, brn_true, brn_false, sat_ifs, evFr_disp, evFr_lof, evFr_add, evFr_lzip, exS_asg, exS_par, exS_setix, exS_expr, exS_ret, exS_retN, exS_pass, exS_brk, exS_cont, exS_thr, need, bopSem, cmpSem, blSem, ixSem, setAll, asgT, asgL, trunc, rdD, allV, isiSem, isTy, tyOf, tyFits, nexc, items, lstI, L2.atI, L2.ixN, Res.sat_bind, Res.sat_ite, oneR, Wk.asg, wipe, List.replicate]
  refine whl_run (fun m ρ' st' => ∃ ws e3 e4 e5 e6 e7 e8, m = D.szAll ws ∧ m ≤ 1000000 ∧ (∀ x ∈ ws, x.pl = true ∧ x.dep ≤ 40) ∧ st' = st ++ [some (.lst (ws.map fun x => .v (pr x)))] ∧ ρ' = [some (.v d), some (.v d), some (.r st.length), e3, e4, e5, e6, e7, e8]) (n0 := D.szAll [d]) ⟨[d], none, none, none, none, none, none, rfl, by simp only [D.szAll]; omega, by simp [hp, hd], rfl, rfl⟩ fun m ρ' st' h => ?_
  obtain ⟨ws, e3, e4, e5, e6, e7, e8, rfl, hm, hw, rfl, rfl⟩ := h
  have av : allV (ws.map fun x => S.v (pr x)) = some (ws.map pr) := allV_mapF pr ws
  have dp : D.depAll (ws.map pr) ≤ 41 := depAll_le fun x hx => by
    obtain ⟨y, hy, rfl⟩ := List.mem_map.mp hx
    have := (hw y hy).2
    simp only [pr, D.dep, D.depAll]
    omega
  have dp2 : D.dep (.lst (ws.map pr)) ≤ 60 := by simp only [D.dep]; omega
  rcases List.eq_nil_or_concat ws with rfl | ⟨w0, x, hwx⟩
  · simp [evE, evEs, evO, evOc, evC, evAll, evAny, evAnd, evOr, depAll_nil, get_app, set_app, get_app1, get_map_last, sat_nil, sat_cons, after_nx, after_rt, after_bk, after_ct, brn_true, brn_false, sat_ifs, evFr_disp, evFr_lof, evFr_add, evFr_lzip, exS_asg, exS_par, exS_setix, exS_expr, exS_ret, exS_retN, exS_pass, exS_brk, exS_cont, exS_thr, need, bopSem, cmpSem, blSem, ixSem, setAll, asgT, asgL, trunc, rdD, allV, isiSem, isTy, tyOf, tyFits, nexc, items, lstI, L2.atI, L2.ixN, Res.sat_bind, Res.sat_ite, oneR, Wk.asg, wipe, List.replicate, D.dep, D.depAll, eqv_nil]
  · rw [List.concat_eq_append] at hwx
    subst hwx
    have ne : D.eqv (.lst ((w0 ++ [x]).map pr)) (.lst []) = false := by
      cases w0 with
      | nil => exact eqv_nilc _ _
      | cons a w0 => exact eqv_nilc _ _
    obtain ⟨px, dx⟩ := hw x (by simp)
    have hw0 : ∀ y ∈ w0, y.pl = true ∧ y.dep ≤ 40 := fun y hy => hw y (by simp [hy])
    rw [szAll_app] at hm
    have hsx : D.szAll [x] = x.sz := by simp [D.szAll]
    simp [evE, evEs, evO, evOc, evC, evAll, evAny, evAnd, evOr, depAll_nil, get_app, set_app, get_app1, get_map_last, sat_nil, sat_cons, after_nx, after_rt, after_bk, after_ct, brn_true, brn_false, sat_ifs, evFr_disp, evFr_lof, evFr_add, evFr_lzip, exS_asg, exS_par, exS_setix, exS_expr, exS_ret, exS_retN, exS_pass, exS_brk, exS_cont, exS_thr, need, bopSem, cmpSem, blSem, ixSem, setAll, asgT, asgL, trunc, rdD, allV, isiSem, isTy, tyOf, tyFits, nexc, items, lstI, L2.atI, L2.ixN, Res.sat_bind, Res.sat_ite, oneR, Wk.asg, wipe, List.replicate, D.dep] at av dp2 ne
    have next : ∀ ys : List D, D.szAll ys < x.sz → (∀ y ∈ ys, y.pl = true ∧ y.dep ≤ 40) → D.szAll (w0 ++ ys) < D.szAll (w0 ++ [x]) ∧ D.szAll (w0 ++ ys) ≤ 1000000 ∧ ∀ y ∈ w0 ++ ys, y.pl = true ∧ y.dep ≤ 40 := fun ys h1 h2 => by
      rw [szAll_app, szAll_app, hsx]
      rw [hsx] at hm
      refine ⟨by omega, by omega, fun y hy => ?_⟩
      rcases List.mem_append.mp hy with h | h
      · exact hw0 y h
      · exact h2 y h
    have n0 := next [] x.sz_pos (by simp)
    simp only [List.append_nil] at n0
    simp [evE, evEs, evO, evOc, evC, evAll, evAny, evAnd, evOr, depAll_nil, get_app, set_app, get_app1, get_map_last, sat_nil, sat_cons, after_nx, after_rt, after_bk, after_ct, brn_true, brn_false, sat_ifs, evFr_disp, evFr_lof, evFr_add, evFr_lzip, exS_asg, exS_par, exS_setix, exS_expr, exS_ret, exS_retN, exS_pass, exS_brk, exS_cont, exS_thr, need, bopSem, cmpSem, blSem, ixSem, setAll, asgT, asgL, trunc, rdD, allV, isiSem, isTy, tyOf, tyFits, nexc, items, lstI, L2.atI, L2.ixN, Res.sat_bind, Res.sat_ite, oneR, Wk.asg, wipe, List.replicate, av, ne, dp2, mthTy, mthSem, D.dep]
    simp only [show pr x = D.tup [x, x] from rfl]
    cases x with
    | non =>
      simp [evE, evEs, evO, evOc, evC, evAll, evAny, evAnd, evOr, depAll_nil, get_app, set_app, get_app1, get_map_last, sat_nil, sat_cons, after_nx, after_rt, after_bk, after_ct, brn_true, brn_false, sat_ifs, evFr_disp, evFr_lof, evFr_add, evFr_lzip, exS_asg, exS_par, exS_setix, exS_expr, exS_ret, exS_retN, exS_pass, exS_brk, exS_cont, exS_thr, need, bopSem, cmpSem, blSem, ixSem, setAll, asgT, asgL, trunc, rdD, allV, isiSem, isTy, tyOf, tyFits, nexc, items, lstI, L2.atI, L2.ixN, Res.sat_bind, Res.sat_ite, oneR, Wk.asg, wipe, List.replicate]
      exact ⟨_, n0.1, w0, rfl, n0.2.1, n0.2.2, rfl⟩
    | bl b =>
      have e := ht (st ++ [some (Ob.lst (List.map (fun x => S.v (pr x)) w0))]) b b
      simp [evE, evEs, evO, evOc, evC, evAll, evAny, evAnd, evOr, depAll_nil, get_app, set_app, get_app1, get_map_last, sat_nil, sat_cons, after_nx, after_rt, after_bk, after_ct, brn_true, brn_false, sat_ifs, evFr_disp, evFr_lof, evFr_add, evFr_lzip, exS_asg, exS_par, exS_setix, exS_expr, exS_ret, exS_retN, exS_pass, exS_brk, exS_cont, exS_thr, need, bopSem, cmpSem, blSem, ixSem, setAll, asgT, asgL, trunc, rdD, allV, isiSem, isTy, tyOf, tyFits, nexc, items, lstI, L2.atI, L2.ixN, Res.sat_bind, Res.sat_ite, oneR, Wk.asg, wipe, List.replicate, e]
      exact ⟨_, n0.1, w0, rfl, n0.2.1, n0.2.2, rfl⟩
    | int i =>
      simp [evE, evEs, evO, evOc, evC, evAll, evAny, evAnd, evOr, depAll_nil, get_app, set_app, get_app1, get_map_last, sat_nil, sat_cons, after_nx, after_rt, after_bk, after_ct, brn_true, brn_false, sat_ifs, evFr_disp, evFr_lof, evFr_add, evFr_lzip, exS_asg, exS_par, exS_setix, exS_expr, exS_ret, exS_retN, exS_pass, exS_brk, exS_cont, exS_thr, need, bopSem, cmpSem, blSem, ixSem, setAll, asgT, asgL, trunc, rdD, allV, isiSem, isTy, tyOf, tyFits, nexc, items, lstI, L2.atI, L2.ixN, Res.sat_bind, Res.sat_ite, oneR, Wk.asg, wipe, List.replicate, eqv_int, eqv_bl, D.dep]
      exact ⟨_, n0.1, w0, rfl, n0.2.1, n0.2.2, rfl⟩
    | str z =>
      simp [evE, evEs, evO, evOc, evC, evAll, evAny, evAnd, evOr, depAll_nil, get_app, set_app, get_app1, get_map_last, sat_nil, sat_cons, after_nx, after_rt, after_bk, after_ct, brn_true, brn_false, sat_ifs, evFr_disp, evFr_lof, evFr_add, evFr_lzip, exS_asg, exS_par, exS_setix, exS_expr, exS_ret, exS_retN, exS_pass, exS_brk, exS_cont, exS_thr, need, bopSem, cmpSem, blSem, ixSem, setAll, asgT, asgL, trunc, rdD, allV, isiSem, isTy, tyOf, tyFits, nexc, items, lstI, L2.atI, L2.ixN, Res.sat_bind, Res.sat_ite, oneR, Wk.asg, wipe, List.replicate, eqv_str, eqv_bl, D.dep]
      exact ⟨_, n0.1, w0, rfl, n0.2.1, n0.2.2, rfl⟩
    | tup ds =>
      have pd : D.plAll ds = true := px
      have zs : D.szAll ds < (D.tup ds).sz := by simp only [D.sz]; omega
      have nx := next ds zs fun y hy => ⟨plAll_mem pd y hy, by
        have := depAll_mem hy
        simp only [D.dep] at dx
        omega⟩
      simp [evE, evEs, evO, evOc, evC, evAll, evAny, evAnd, evOr, depAll_nil, get_app, set_app, get_app1, get_map_last, sat_nil, sat_cons, after_nx, after_rt, after_bk, after_ct, brn_true, brn_false, sat_ifs, evFr_disp, evFr_lof, evFr_add, evFr_lzip, exS_asg, exS_par, exS_setix, exS_expr, exS_ret, exS_retN, exS_pass, exS_brk, exS_cont, exS_thr, need, bopSem, cmpSem, blSem, ixSem, setAll, asgT, asgL, trunc, rdD, allV, isiSem, isTy, tyOf, tyFits, nexc, items, lstI, L2.atI, L2.ixN, Res.sat_bind, Res.sat_ite, oneR, Wk.asg, wipe, List.replicate, eqv_int, eqv_bl, D.dep, D.depAll]
      refine ⟨by simp [evE, evEs, evO, evOc, evC, evAll, evAny, evAnd, evOr, depAll_nil, get_app, set_app, get_app1, get_map_last, sat_nil, sat_cons, after_nx, after_rt, after_bk, after_ct, brn_true, brn_false, sat_ifs, evFr_disp, evFr_lof, evFr_add, evFr_lzip, exS_asg, exS_par, exS_setix, exS_expr, exS_ret, exS_retN, exS_pass, exS_brk, exS_cont, exS_thr, need, bopSem, cmpSem, blSem, ixSem, setAll, asgT, asgL, trunc, rdD, allV, isiSem, isTy, tyOf, tyFits, nexc, items, lstI, L2.atI, L2.ixN, Res.sat_bind, Res.sat_ite, oneR, Wk.asg, wipe, List.replicate, mthTy], ?_⟩
      refine comp_zip ds ds id id (fun p => some (.v (.tup [p.1, p.2]))) (x := .tup ds) (y := .tup ds) (by simp [evE, evEs, evO, evOc, evC, evAll, evAny, evAnd, evOr, depAll_nil, get_app, set_app, get_app1, get_map_last, sat_nil, sat_cons, after_nx, after_rt, after_bk, after_ct, brn_true, brn_false, sat_ifs, evFr_disp, evFr_lof, evFr_add, evFr_lzip, exS_asg, exS_par, exS_setix, exS_expr, exS_ret, exS_retN, exS_pass, exS_brk, exS_cont, exS_thr, need, bopSem, cmpSem, blSem, ixSem, setAll, asgT, asgL, trunc, rdD, allV, isiSem, isTy, tyOf, tyFits, nexc, items, lstI, L2.atI, L2.ixN, Res.sat_bind, Res.sat_ite, oneR, Wk.asg, wipe, List.replicate]; rfl) (by simp [evE, evEs, evO, evOc, evC, evAll, evAny, evAnd, evOr, depAll_nil, get_app, set_app, get_app1, get_map_last, sat_nil, sat_cons, after_nx, after_rt, after_bk, after_ct, brn_true, brn_false, sat_ifs, evFr_disp, evFr_lof, evFr_add, evFr_lzip, exS_asg, exS_par, exS_setix, exS_expr, exS_ret, exS_retN, exS_pass, exS_brk, exS_cont, exS_thr, need, bopSem, cmpSem, blSem, ixSem, setAll, asgT, asgL, trunc, rdD, allV, isiSem, isTy, tyOf, tyFits, nexc, items, lstI, L2.atI, L2.ixN, Res.sat_bind, Res.sat_ite, oneR, Wk.asg, wipe, List.replicate]; rfl) (.inr (by simp)) (.inr (by simp)) (fun p hp => ?_) ?_
      · simp [evE, evEs, evO, evOc, evC, evAll, evAny, evAnd, evOr, depAll_nil, get_app, set_app, get_app1, get_map_last, sat_nil, sat_cons, after_nx, after_rt, after_bk, after_ct, brn_true, brn_false, sat_ifs, evFr_disp, evFr_lof, evFr_add, evFr_lzip, exS_asg, exS_par, exS_setix, exS_expr, exS_ret, exS_retN, exS_pass, exS_brk, exS_cont, exS_thr, need, bopSem, cmpSem, blSem, ixSem, setAll, asgT, asgL, trunc, rdD, allV, isiSem, isTy, tyOf, tyFits, nexc, items, lstI, L2.atI, L2.ixN, Res.sat_bind, Res.sat_ite, oneR, Wk.asg, wipe, List.replicate]
      · have fm : ((ds.zip ds).filterMap fun p => some (S.v (.tup [p.1, p.2]))) = ds.map fun x => S.v (pr x) := by
          rw [filterMap_someF (fun p : D × D => S.v (.tup [p.1, p.2])), zip_self, List.map_map]
          rfl
        rw [fm]
        have l1 := szAll_len w0
        have l2 := szAll_len ds
        have hz : w0.length + ds.length ≤ 16777216 := by
          have := nx.2.1
          rw [szAll_app] at this
          omega
        simp [evE, evEs, evO, evOc, evC, evAll, evAny, evAnd, evOr, depAll_nil, get_app, set_app, get_app1, get_map_last, sat_nil, sat_cons, after_nx, after_rt, after_bk, after_ct, brn_true, brn_false, sat_ifs, evFr_disp, evFr_lof, evFr_add, evFr_lzip, exS_asg, exS_par, exS_setix, exS_expr, exS_ret, exS_retN, exS_pass, exS_brk, exS_cont, exS_thr, need, bopSem, cmpSem, blSem, ixSem, setAll, asgT, asgL, trunc, rdD, allV, isiSem, isTy, tyOf, tyFits, nexc, items, lstI, L2.atI, L2.ixN, Res.sat_bind, Res.sat_ite, oneR, Wk.asg, wipe, List.replicate, allV_mapF pr ds, mthSem, sizeLine_eq, hz]
        exact ⟨_, nx.1, w0 ++ ds, rfl, nx.2.1, fun y hy => nx.2.2 y (by simpa using hy), by simp⟩
    | lst ds =>
      have pd : D.plAll ds = true := px
      have zs : D.szAll ds < (D.lst ds).sz := by simp only [D.sz]; omega
      have nx := next ds zs fun y hy => ⟨plAll_mem pd y hy, by
        have := depAll_mem hy
        simp only [D.dep] at dx
        omega⟩
      simp [evE, evEs, evO, evOc, evC, evAll, evAny, evAnd, evOr, depAll_nil, get_app, set_app, get_app1, get_map_last, sat_nil, sat_cons, after_nx, after_rt, after_bk, after_ct, brn_true, brn_false, sat_ifs, evFr_disp, evFr_lof, evFr_add, evFr_lzip, exS_asg, exS_par, exS_setix, exS_expr, exS_ret, exS_retN, exS_pass, exS_brk, exS_cont, exS_thr, need, bopSem, cmpSem, blSem, ixSem, setAll, asgT, asgL, trunc, rdD, allV, isiSem, isTy, tyOf, tyFits, nexc, items, lstI, L2.atI, L2.ixN, Res.sat_bind, Res.sat_ite, oneR, Wk.asg, wipe, List.replicate, eqv_int, eqv_bl, D.dep, D.depAll]
      refine ⟨by simp [evE, evEs, evO, evOc, evC, evAll, evAny, evAnd, evOr, depAll_nil, get_app, set_app, get_app1, get_map_last, sat_nil, sat_cons, after_nx, after_rt, after_bk, after_ct, brn_true, brn_false, sat_ifs, evFr_disp, evFr_lof, evFr_add, evFr_lzip, exS_asg, exS_par, exS_setix, exS_expr, exS_ret, exS_retN, exS_pass, exS_brk, exS_cont, exS_thr, need, bopSem, cmpSem, blSem, ixSem, setAll, asgT, asgL, trunc, rdD, allV, isiSem, isTy, tyOf, tyFits, nexc, items, lstI, L2.atI, L2.ixN, Res.sat_bind, Res.sat_ite, oneR, Wk.asg, wipe, List.replicate, mthTy], ?_⟩
      refine comp_zip ds ds id id (fun p => some (.v (.tup [p.1, p.2]))) (x := .lst ds) (y := .lst ds) (by simp [evE, evEs, evO, evOc, evC, evAll, evAny, evAnd, evOr, depAll_nil, get_app, set_app, get_app1, get_map_last, sat_nil, sat_cons, after_nx, after_rt, after_bk, after_ct, brn_true, brn_false, sat_ifs, evFr_disp, evFr_lof, evFr_add, evFr_lzip, exS_asg, exS_par, exS_setix, exS_expr, exS_ret, exS_retN, exS_pass, exS_brk, exS_cont, exS_thr, need, bopSem, cmpSem, blSem, ixSem, setAll, asgT, asgL, trunc, rdD, allV, isiSem, isTy, tyOf, tyFits, nexc, items, lstI, L2.atI, L2.ixN, Res.sat_bind, Res.sat_ite, oneR, Wk.asg, wipe, List.replicate]; rfl) (by simp [evE, evEs, evO, evOc, evC, evAll, evAny, evAnd, evOr, depAll_nil, get_app, set_app, get_app1, get_map_last, sat_nil, sat_cons, after_nx, after_rt, after_bk, after_ct, brn_true, brn_false, sat_ifs, evFr_disp, evFr_lof, evFr_add, evFr_lzip, exS_asg, exS_par, exS_setix, exS_expr, exS_ret, exS_retN, exS_pass, exS_brk, exS_cont, exS_thr, need, bopSem, cmpSem, blSem, ixSem, setAll, asgT, asgL, trunc, rdD, allV, isiSem, isTy, tyOf, tyFits, nexc, items, lstI, L2.atI, L2.ixN, Res.sat_bind, Res.sat_ite, oneR, Wk.asg, wipe, List.replicate]; rfl) (.inl (by simp)) (.inl (by simp)) (fun p hp => ?_) ?_
      · simp [evE, evEs, evO, evOc, evC, evAll, evAny, evAnd, evOr, depAll_nil, get_app, set_app, get_app1, get_map_last, sat_nil, sat_cons, after_nx, after_rt, after_bk, after_ct, brn_true, brn_false, sat_ifs, evFr_disp, evFr_lof, evFr_add, evFr_lzip, exS_asg, exS_par, exS_setix, exS_expr, exS_ret, exS_retN, exS_pass, exS_brk, exS_cont, exS_thr, need, bopSem, cmpSem, blSem, ixSem, setAll, asgT, asgL, trunc, rdD, allV, isiSem, isTy, tyOf, tyFits, nexc, items, lstI, L2.atI, L2.ixN, Res.sat_bind, Res.sat_ite, oneR, Wk.asg, wipe, List.replicate]
      · have fm : ((ds.zip ds).filterMap fun p => some (S.v (.tup [p.1, p.2]))) = ds.map fun x => S.v (pr x) := by
          rw [filterMap_someF (fun p : D × D => S.v (.tup [p.1, p.2])), zip_self, List.map_map]
          rfl
        rw [fm]
        have l1 := szAll_len w0
        have l2 := szAll_len ds
        have hz : w0.length + ds.length ≤ 16777216 := by
          have := nx.2.1
          rw [szAll_app] at this
          omega
        simp [evE, evEs, evO, evOc, evC, evAll, evAny, evAnd, evOr, depAll_nil, get_app, set_app, get_app1, get_map_last, sat_nil, sat_cons, after_nx, after_rt, after_bk, after_ct, brn_true, brn_false, sat_ifs, evFr_disp, evFr_lof, evFr_add, evFr_lzip, exS_asg, exS_par, exS_setix, exS_expr, exS_ret, exS_retN, exS_pass, exS_brk, exS_cont, exS_thr, need, bopSem, cmpSem, blSem, ixSem, setAll, asgT, asgL, trunc, rdD, allV, isiSem, isTy, tyOf, tyFits, nexc, items, lstI, L2.atI, L2.ixN, Res.sat_bind, Res.sat_ite, oneR, Wk.asg, wipe, List.replicate, allV_mapF pr ds, mthSem, sizeLine_eq, hz]
        exact ⟨_, nx.1, w0 ++ ds, rfl, nx.2.1, fun y hy => nx.2.2 y (by simpa using hy), by simp⟩
    | dic _ _ => cases px
    | scr _ => cases px
    | fn _ => cases px
    | exc _ _ _ => cases px
end
end Sw

set_option linter.all false
set_option maxRecDepth 100000
set_option maxHeartbeats 4000000
namespace Sw
open PySem
def B_are_values (c_is_above : Nat) (c_is_less : Nat) (g_MOST_VALUES : Nat) : Fd := ⟨1, 3, (.cons (.ite (.or (.cons (.not (.val (.isi (.var 0) [.tuple] false))) (.cons (.not (.chain .le .le (.cint (1)) (.bl .len (.cons (.var 0) .nil)) (.glob g_MOST_VALUES))) (.cons (.not (.val (.bl .all (.cons (.fr (.comp (.call c_is_above (.cons (.var 1) .nil)) (.one 1) [1] (.sq (.var 0)) .no)) .nil)))) .nil)))) (.cons (.ret (.cbl false)) .nil) .nil) (.cons (.ret (.bl .all (.cons (.fr (.comp (.call c_is_less (.cons (.var 1) (.cons (.var 2) .nil))) (.cons (.one 1) (.cons (.one 2) .nil)) [1, 2] (.zip (.var 0) (.slc (.var 0) (.yes (.cint (1))) .no)) .no)) .nil))) .nil))⟩
def B_is_market (c_are_values : Nat) (c_is_above : Nat) : Fd := ⟨1, 2, (.cons (.ite (.or (.cons (.not (.val (.isi (.var 0) [.tuple] false))) (.cons (.cmp .ne (.bl .len (.cons (.var 0) .nil)) (.cint (2))) (.cons (.not (.val (.isi (.ix (.var 0) (.cint (0))) [.str] false))) (.cons (.cmp .ne (.ix (.var 0) (.cint (0))) (.cstr "market")) .nil))))) (.cons (.ret (.cbl false)) .nil) .nil) (.cons (.ite (.or (.cons (.not (.val (.isi (.ix (.var 0) (.cint (1))) [.tuple] false))) (.cons (.not (.val (.bl .all (.cons (.fr (.comp (.andv (.cons (.isi (.var 1) [.tuple] false) (.cons (.cmp .eq (.bl .len (.cons (.var 1) .nil)) (.cint (2))) .nil))) (.one 1) [1] (.sq (.ix (.var 0) (.cint (1)))) .no)) .nil)))) .nil))) (.cons (.ret (.cbl false)) .nil) .nil) (.cons (.ret (.andv (.cons (.call c_are_values (.cons (.bl .tuple (.cons (.fr (.comp (.ix (.var 1) (.cint (0))) (.one 1) [1] (.sq (.ix (.var 0) (.cint (1)))) .no)) .nil)) .nil)) (.cons (.bl .all (.cons (.fr (.comp (.call c_is_above (.cons (.ix (.var 1) (.cint (1))) .nil)) (.one 1) [1] (.sq (.ix (.var 0) (.cint (1)))) .no)) .nil)) .nil)))) .nil)))⟩
def B_need_market (c_is_market : Nat) (k_BadMarket : Nat) : Fd := ⟨1, 1, (.cons (.ite (.not (.val (.call c_is_market (.cons (.var 0) .nil)))) (.cons (.thr k_BadMarket none (.cons (.cstr "a market is needed") .nil)) .nil) .nil) .nil)⟩
def B_need_price (c_is_above : Nat) (k_BadPrice : Nat) : Fd := ⟨1, 1, (.cons (.ite (.not (.val (.call c_is_above (.cons (.var 0) .nil)))) (.cons (.thr k_BadPrice none (.cons (.cstr "a ratio above 0 is needed") .nil)) .nil) .nil) .nil)⟩
def B_law_is_ratio (c_law_q : Nat) : Fd := ⟨1, 2, (.cons (.ite (.or (.cons (.not (.val (.isi (.var 0) [.tuple] false))) (.cons (.cmp .ne (.bl .len (.cons (.var 0) .nil)) (.cint (2))) (.cons (.cmp .ne (.fr (.comp (.cint (1)) (.one 1) [1] (.sq (.var 0)) (.yes (.or (.cons (.not (.val (.isi (.var 1) [.int] false))) (.cons (.val (.isi (.var 1) [.bool] false)) .nil)))))) (.fr (.disp .nil))) .nil)))) (.cons (.ret (.cbl false)) .nil) .nil) (.cons (.ret (.andv (.cons (.cmp .gt (.ix (.var 0) (.cint (1))) (.cint (0))) (.cons (.cmp .eq (.call c_law_q (.cons (.ix (.var 0) (.cint (0))) (.cons (.ix (.var 0) (.cint (1))) .nil))) (.var 0)) .nil)))) .nil))⟩
def B_law_mk_are_values (c_law_is_ratio : Nat) (c_law_less : Nat) : Fd := ⟨1, 3, (.cons (.ite (.or (.cons (.not (.val (.isi (.var 0) [.tuple] false))) (.cons (.not (.chain .le .le (.cint (1)) (.bl .len (.cons (.var 0) .nil)) (.cint (6)))) (.cons (.cmp .ne (.fr (.comp (.cint (1)) (.one 1) [1] (.sq (.var 0)) (.yes (.or (.cons (.not (.val (.call c_law_is_ratio (.cons (.var 1) .nil)))) (.cons (.cmp .le (.ix (.var 1) (.cint (0))) (.cint (0))) .nil)))))) (.fr (.disp .nil))) .nil)))) (.cons (.ret (.cbl false)) .nil) .nil) (.cons (.ret (.cmp .eq (.fr (.comp (.cint (1)) (.cons (.one 1) (.cons (.one 2) .nil)) [1, 2] (.zip (.var 0) (.slc (.var 0) (.yes (.cint (1))) .no)) (.yes (.not (.val (.call c_law_less (.cons (.var 1) (.cons (.var 2) .nil)))))))) (.fr (.disp .nil)))) .nil))⟩
def B_law_mk_is_market (c_law_mk_are_values : Nat) (c_law_is_ratio : Nat) : Fd := ⟨1, 2, (.cons (.ite (.or (.cons (.not (.val (.isi (.var 0) [.tuple] false))) (.cons (.cmp .ne (.bl .len (.cons (.var 0) .nil)) (.cint (2))) (.cons (.not (.val (.isi (.ix (.var 0) (.cint (0))) [.str] false))) (.cons (.cmp .ne (.ix (.var 0) (.cint (0))) (.cstr "market")) (.cons (.not (.val (.isi (.ix (.var 0) (.cint (1))) [.tuple] false))) .nil)))))) (.cons (.ret (.cbl false)) .nil) .nil) (.cons (.ite (.or (.cons (.cmp .ne (.fr (.comp (.cint (1)) (.one 1) [1] (.sq (.ix (.var 0) (.cint (1)))) (.yes (.or (.cons (.not (.val (.isi (.var 1) [.tuple] false))) (.cons (.cmp .ne (.bl .len (.cons (.var 1) .nil)) (.cint (2))) .nil)))))) (.fr (.disp .nil))) (.cons (.not (.val (.call c_law_mk_are_values (.cons (.bl .tuple (.cons (.fr (.comp (.ix (.var 1) (.cint (0))) (.one 1) [1] (.sq (.ix (.var 0) (.cint (1)))) .no)) .nil)) .nil)))) .nil))) (.cons (.ret (.cbl false)) .nil) .nil) (.cons (.ret (.cmp .eq (.fr (.comp (.cint (1)) (.one 1) [1] (.sq (.ix (.var 0) (.cint (1)))) (.yes (.or (.cons (.not (.val (.call c_law_is_ratio (.cons (.ix (.var 1) (.cint (1))) .nil)))) (.cons (.cmp .le (.ix (.ix (.var 1) (.cint (1))) (.cint (0))) (.cint (0))) .nil)))))) (.fr (.disp .nil)))) .nil)))⟩

mutual
def D.ok : D → Prop
  | .non | .bl _ | .str _ => True
  | .int i => i.natAbs < 2 ^ 2000
  | .tup xs | .lst xs => D.okAll xs
  | .dic ks vs => ks = [] ∧ vs = []
  | _ => False
def D.okAll : List D → Prop
  | [] => True
  | x :: xs => x.ok ∧ D.okAll xs
end
theorem okAll_mem : ∀ {xs : List D}, D.okAll xs → ∀ x ∈ xs, x.ok
  | [], _, x, h => nomatch h
  | y :: ys, h, x, hx => by
    simp only [D.okAll] at h
    rcases List.mem_cons.mp hx with rfl | hx
    · exact h.1
    · exact okAll_mem h.2 x hx
theorem okAll_of : ∀ {xs : List D}, (∀ x ∈ xs, x.ok) → D.okAll xs
  | [], _ => by simp only [D.okAll]
  | y :: ys, h => by
    simp only [D.okAll]
    exact ⟨h y List.mem_cons_self, okAll_of fun x hx => h x (List.mem_cons_of_mem _ hx)⟩
def isWh : D → Bool
  | .int _ => true
  | _ => false
def asQ : D → Option Rat
  | .tup [.int n, .int d] => if 0 < d ∧ Nat.gcd n.natAbs d.natAbs = 1 then some (Rat.divInt n d) else none
  | _ => none
theorem divInt_red {n d : Int} (h : 0 < d) (g : Nat.gcd n.natAbs d.natAbs = 1) : (Rat.divInt n d).num = n ∧ ((Rat.divInt n d).den : Int) = d := by
  have e : Int.gcd d n = Nat.gcd n.natAbs d.natAbs := Nat.gcd_comm _ _
  rw [Rat.num_divInt, Rat.den_divInt, if_neg (by omega), Int.sign_eq_one_of_pos h, e, g]
  simp
  omega
theorem asQ_rt (q : Rat) : asQ (rt q) = some q := by
  have h : 0 < (q.den : Int) := by have := q.den_nz; omega
  have g : Nat.gcd q.num.natAbs (q.den : Int).natAbs = 1 := q.reduced
  show (if 0 < (q.den : Int) ∧ Nat.gcd q.num.natAbs (q.den : Int).natAbs = 1 then some (Rat.divInt q.num q.den) else none) = some q
  rw [if_pos ⟨h, g⟩, Rat.num_divInt_den]
theorem asQ_some {v : D} {q : Rat} (h : asQ v = some q) : v = rt q := by
  unfold asQ at h
  split at h
  · split at h
    · rename_i hh
      cases h
      obtain ⟨h1, h2⟩ := divInt_red hh.1 hh.2
      unfold rt
      rw [h1, h2]
    · cases h
  · cases h
theorem ok_rb {q : Rat} (h : (rt q).ok) : Rb 2000 q := by
  simp only [rt, D.ok, D.okAll] at h
  exact ⟨h.1, by have := h.2.1; rw [Int.natAbs_natCast] at this; exact this⟩
theorem rb_ok {q : Rat} (h : Rb 2000 q) : (rt q).ok := by
  simp only [rt, D.ok, D.okAll, Int.natAbs_natCast]
  exact ⟨h.1, h.2, trivial⟩
def aboveV (v : D) : Bool := match asQ v with
  | some q => decide (0 < q)
  | none => false
def lessV (a b : D) : Bool := match asQ a, asQ b with
  | some q, some r => decide (q < r)
  | _, _ => false
def valsV : D → Bool
  | .tup ds => decide (1 ≤ ds.length ∧ ds.length ≤ 6) && ds.all aboveV && (ds.zip (ds.drop 1)).all fun p => lessV p.1 p.2
  | _ => false
def isRow : D → Bool
  | .tup [_, _] => true
  | _ => false
def fstV : D → D
  | .tup [a, _] => a
  | _ => .non
def sndV : D → D
  | .tup [_, b] => b
  | _ => .non
def marketV : D → Bool
  | .tup [.str s, .tup rows] => decide (s = "market") && rows.all isRow && valsV (.tup (rows.map fstV)) && rows.all fun r => aboveV (sndV r)
  | _ => false
theorem aboveV_some {v : D} (h : aboveV v = true) : ∃ q, v = rt q ∧ 0 < q := by
  unfold aboveV at h
  split at h
  · rename_i q e
    exact ⟨q, asQ_some e, of_decide_eq_true h⟩
  · cases h
theorem num_pos_iff (q : Rat) : (0 < q.num) ↔ 0 < q := by
  rw [Rat.lt_iff]
  simp
section
variable {G : Gt} {F : Nat → Option Fd} {C : Nat → List S → Store → Res S} {k f : Nat}
def SWh (C : Nat → List S → Store → Res S) (f : Nat) : Prop := ∀ (st : Store) (v : D), v.ok → C f [.v v] st = .ok (.v (.bl (isWh v))) st
theorem sp_whole (hf : F f = some B_is_whole) (hk : G.keep.contains f = false) : SWh (callK G F (k + 1)) f := by
  intro st v hv
  refine call_eq hf rfl hk ?_
  cases v <;> first | (simp [B_is_whole, evE, evEs, evO, evOc, evC, evAll, evAny, evAnd, evOr, depAll_nil, get_app, set_app, get_app1, get_map_last, sat_nil, sat_cons, after_nx, after_rt, after_bk, after_ct, brn_true, brn_false, sat_ifs, evFr_disp, evFr_lof, evFr_add, evFr_lzip, exS_asg, exS_par, exS_setix, exS_expr, exS_ret, exS_retN, exS_pass, exS_brk, exS_cont, exS_thr, need, bopSem, cmpSem, blSem, ixSem, setAll, asgT, asgL, trunc, rdD, allV, isiSem, isTy, tyOf, tyFits, nexc, items, lstI, L2.atI, L2.ixN, Res.sat_bind, Res.sat_ite, oneR, Wk.asg, wipe, List.replicate, isWh]; done) | (simp [D.ok] at hv; done)
def STst (C : Nat → List S → Store → Res S) (f : Nat) (p : D → Bool) : Prop := ∀ (st : Store) (v : D), v.ok → C f [.v v] st = .ok (.v (.bl (p v))) st
theorem sp_ratio {fw : Nat} (hf : F f = some (B_is_ratio fw)) (hk : G.keep.contains f = false) (hw : SWh (callK G F k) fw) : STst (callK G F (k + 1)) f fun v => (asQ v).isSome := by
  intro st v hv
  refine call_eq hf rfl hk ?_
  cases v with
  | tup ds =>
    by_cases hl : ds.length = 2
    · obtain ⟨a, b, rfl⟩ : ∃ a b, ds = [a, b] := by
        match ds, hl with
        | [a, b], _ => exact ⟨a, b, rfl⟩
      simp only [D.ok, D.okAll] at hv
      have ea := hw st a hv.1
      have eb := hw st b hv.2.1
      simp [B_is_ratio, evE, evEs, evO, evOc, evC, evAll, evAny, evAnd, evOr, depAll_nil, get_app, set_app, get_app1, get_map_last, sat_nil, sat_cons, after_nx, after_rt, after_bk, after_ct, brn_true, brn_false, sat_ifs, evFr_disp, evFr_lof, evFr_add, evFr_lzip, exS_asg, exS_par, exS_setix, exS_expr, exS_ret, exS_retN, exS_pass, exS_brk, exS_cont, exS_thr, need, bopSem, cmpSem, blSem, ixSem, setAll, asgT, asgL, trunc, rdD, allV, isiSem, isTy, tyOf, tyFits, nexc, items, lstI, L2.atI, L2.ixN, Res.sat_bind, Res.sat_ite, oneR, Wk.asg, wipe, List.replicate, eqv_int, D.dep]
      refine comp_sq [a, b] id (fun x => some (.v (.bl (isWh x)))) (x := .tup [a, b]) (st1 := st) (by simp [evE, evEs, evO, evOc, evC, evAll, evAny, evAnd, evOr, depAll_nil, get_app, set_app, get_app1, get_map_last, sat_nil, sat_cons, after_nx, after_rt, after_bk, after_ct, brn_true, brn_false, sat_ifs, evFr_disp, evFr_lof, evFr_add, evFr_lzip, exS_asg, exS_par, exS_setix, exS_expr, exS_ret, exS_retN, exS_pass, exS_brk, exS_cont, exS_thr, need, bopSem, cmpSem, blSem, ixSem, setAll, asgT, asgL, trunc, rdD, allV, isiSem, isTy, tyOf, tyFits, nexc, items, lstI, L2.atI, L2.ixN, Res.sat_bind, Res.sat_ite, oneR, Wk.asg, wipe, List.replicate]) (.inr (by simp)) (fun x hx => ?_) ?_
      · have ex : x.ok := by
          simp at hx
          rcases hx with rfl | rfl
          · exact hv.1
          · exact hv.2.1
        simp [evE, evEs, evO, evOc, evC, evAll, evAny, evAnd, evOr, depAll_nil, get_app, set_app, get_app1, get_map_last, sat_nil, sat_cons, after_nx, after_rt, after_bk, after_ct, brn_true, brn_false, sat_ifs, evFr_disp, evFr_lof, evFr_add, evFr_lzip, exS_asg, exS_par, exS_setix, exS_expr, exS_ret, exS_retN, exS_pass, exS_brk, exS_cont, exS_thr, need, bopSem, cmpSem, blSem, ixSem, setAll, asgT, asgL, trunc, rdD, allV, isiSem, isTy, tyOf, tyFits, nexc, items, lstI, L2.atI, L2.ixN, Res.sat_bind, Res.sat_ite, oneR, Wk.asg, wipe, List.replicate, hw st x ex]
      · simp only [filterMap_someF]
        simp [evE, evEs, evO, evOc, evC, evAll, evAny, evAnd, evOr, depAll_nil, get_app, set_app, get_app1, get_map_last, sat_nil, sat_cons, after_nx, after_rt, after_bk, after_ct, brn_true, brn_false, sat_ifs, evFr_disp, evFr_lof, evFr_add, evFr_lzip, exS_asg, exS_par, exS_setix, exS_expr, exS_ret, exS_retN, exS_pass, exS_brk, exS_cont, exS_thr, need, bopSem, cmpSem, blSem, ixSem, setAll, asgT, asgL, trunc, rdD, allV, isiSem, isTy, tyOf, tyFits, nexc, items, lstI, L2.atI, L2.ixN, Res.sat_bind, Res.sat_ite, oneR, Wk.asg, wipe, List.replicate, allBl]
        cases a <;> cases b <;> simp [evE, evEs, evO, evOc, evC, evAll, evAny, evAnd, evOr, depAll_nil, get_app, set_app, get_app1, get_map_last, sat_nil, sat_cons, after_nx, after_rt, after_bk, after_ct, brn_true, brn_false, sat_ifs, evFr_disp, evFr_lof, evFr_add, evFr_lzip, exS_asg, exS_par, exS_setix, exS_expr, exS_ret, exS_retN, exS_pass, exS_brk, exS_cont, exS_thr, need, bopSem, cmpSem, blSem, ixSem, setAll, asgT, asgL, trunc, rdD, allV, isiSem, isTy, tyOf, tyFits, nexc, items, lstI, L2.atI, L2.ixN, Res.sat_bind, Res.sat_ite, oneR, Wk.asg, wipe, List.replicate, isWh, asQ, eqv_int, D.dep]
        rename_i n d
        by_cases h : 0 < d
        · simp [evE, evEs, evO, evOc, evC, evAll, evAny, evAnd, evOr, depAll_nil, get_app, set_app, get_app1, get_map_last, sat_nil, sat_cons, after_nx, after_rt, after_bk, after_ct, brn_true, brn_false, sat_ifs, evFr_disp, evFr_lof, evFr_add, evFr_lzip, exS_asg, exS_par, exS_setix, exS_expr, exS_ret, exS_retN, exS_pass, exS_brk, exS_cont, exS_thr, need, bopSem, cmpSem, blSem, ixSem, setAll, asgT, asgL, trunc, rdD, allV, isiSem, isTy, tyOf, tyFits, nexc, items, lstI, L2.atI, L2.ixN, Res.sat_bind, Res.sat_ite, oneR, Wk.asg, wipe, List.replicate, h, eqv_int, D.dep, Int.gcd]
          by_cases g : Nat.gcd n.natAbs d.natAbs = 1
          · simp [g]
          · simp [g]
            omega
        · simp [evE, evEs, evO, evOc, evC, evAll, evAny, evAnd, evOr, depAll_nil, get_app, set_app, get_app1, get_map_last, sat_nil, sat_cons, after_nx, after_rt, after_bk, after_ct, brn_true, brn_false, sat_ifs, evFr_disp, evFr_lof, evFr_add, evFr_lzip, exS_asg, exS_par, exS_setix, exS_expr, exS_ret, exS_retN, exS_pass, exS_brk, exS_cont, exS_thr, need, bopSem, cmpSem, blSem, ixSem, setAll, asgT, asgL, trunc, rdD, allV, isiSem, isTy, tyOf, tyFits, nexc, items, lstI, L2.atI, L2.ixN, Res.sat_bind, Res.sat_ite, oneR, Wk.asg, wipe, List.replicate, h]
    · have hl2 : ¬ ((ds.length : Int) = 2) := by omega
      have e : asQ (.tup ds) = none := by
        unfold asQ
        split
        · rename_i h
          cases h
          simp at hl
        · rfl
      simp [B_is_ratio, evE, evEs, evO, evOc, evC, evAll, evAny, evAnd, evOr, depAll_nil, get_app, set_app, get_app1, get_map_last, sat_nil, sat_cons, after_nx, after_rt, after_bk, after_ct, brn_true, brn_false, sat_ifs, evFr_disp, evFr_lof, evFr_add, evFr_lzip, exS_asg, exS_par, exS_setix, exS_expr, exS_ret, exS_retN, exS_pass, exS_brk, exS_cont, exS_thr, need, bopSem, cmpSem, blSem, ixSem, setAll, asgT, asgL, trunc, rdD, allV, isiSem, isTy, tyOf, tyFits, nexc, items, lstI, L2.atI, L2.ixN, Res.sat_bind, Res.sat_ite, oneR, Wk.asg, wipe, List.replicate, eqv_int, hl2, D.dep, e]
  | _ => first | (simp [B_is_ratio, evE, evEs, evO, evOc, evC, evAll, evAny, evAnd, evOr, depAll_nil, get_app, set_app, get_app1, get_map_last, sat_nil, sat_cons, after_nx, after_rt, after_bk, after_ct, brn_true, brn_false, sat_ifs, evFr_disp, evFr_lof, evFr_add, evFr_lzip, exS_asg, exS_par, exS_setix, exS_expr, exS_ret, exS_retN, exS_pass, exS_brk, exS_cont, exS_thr, need, bopSem, cmpSem, blSem, ixSem, setAll, asgT, asgL, trunc, rdD, allV, isiSem, isTy, tyOf, tyFits, nexc, items, lstI, L2.atI, L2.ixN, Res.sat_bind, Res.sat_ite, oneR, Wk.asg, wipe, List.replicate, asQ]; done) | (simp [D.ok] at hv; done)
theorem asQ_len {ds : List D} (hl : ds.length ≠ 2) : asQ (.tup ds) = none := by
  unfold asQ
  split
  · rename_i h
    cases h
    simp at hl
  · rfl
theorem sp_above {fr : Nat} (hf : F f = some (B_is_above fr)) (hk : G.keep.contains f = false) (hr : STst (callK G F k) fr fun v => (asQ v).isSome) : STst (callK G F (k + 1)) f aboveV := by
  intro st v hv
  refine call_eq hf rfl hk ?_
  have e : callK G F k fr [.v v] st = .ok (.v (.bl (asQ v).isSome)) st := hr st v hv
  cases h : asQ v with
  | none =>
    rw [h] at e
    simp [B_is_above, evE, evEs, evO, evOc, evC, evAll, evAny, evAnd, evOr, depAll_nil, get_app, set_app, get_app1, get_map_last, sat_nil, sat_cons, after_nx, after_rt, after_bk, after_ct, brn_true, brn_false, sat_ifs, evFr_disp, evFr_lof, evFr_add, evFr_lzip, exS_asg, exS_par, exS_setix, exS_expr, exS_ret, exS_retN, exS_pass, exS_brk, exS_cont, exS_thr, need, bopSem, cmpSem, blSem, ixSem, setAll, asgT, asgL, trunc, rdD, allV, isiSem, isTy, tyOf, tyFits, nexc, items, lstI, L2.atI, L2.ixN, Res.sat_bind, Res.sat_ite, oneR, Wk.asg, wipe, List.replicate, e, aboveV, h]
  | some q =>
    rw [h] at e
    have := asQ_some h
    subst this
    have e1 : rt q = .tup [.int q.num, .int q.den] := rfl
    have e2 : aboveV (.tup [.int q.num, .int q.den]) = decide (0 < q) := by
      rw [← e1]
      unfold aboveV
      rw [h]
    rw [e1] at e
    simp [B_is_above, evE, evEs, evO, evOc, evC, evAll, evAny, evAnd, evOr, depAll_nil, get_app, set_app, get_app1, get_map_last, sat_nil, sat_cons, after_nx, after_rt, after_bk, after_ct, brn_true, brn_false, sat_ifs, evFr_disp, evFr_lof, evFr_add, evFr_lzip, exS_asg, exS_par, exS_setix, exS_expr, exS_ret, exS_retN, exS_pass, exS_brk, exS_cont, exS_thr, need, bopSem, cmpSem, blSem, ixSem, setAll, asgT, asgL, trunc, rdD, allV, isiSem, isTy, tyOf, tyFits, nexc, items, lstI, L2.atI, L2.ixN, Res.sat_bind, Res.sat_ite, oneR, Wk.asg, wipe, List.replicate, e, e1, e2, num_pos_iff]
theorem divInt_iff {n d : Int} (h : 0 < d) : D.eqv (rt (Rat.divInt n d)) (.tup [.int n, .int d]) = decide (Nat.gcd n.natAbs d.natAbs = 1) := by
  unfold rt
  simp only [D.eqv, D.pd, D.pdAll, PyData.eqv, PyData.eqvAll]
  by_cases g : Nat.gcd n.natAbs d.natAbs = 1
  · obtain ⟨h1, h2⟩ := divInt_red h g
    rw [h1, h2]
    simp [g]
  · rw [decide_eq_false g]
    have hd : ((Rat.divInt n d).den : Int) ≠ d := fun e => g (by
      have gp := gcd_pos_of (n := n) (d := d) (by omega)
      have e3 : Int.gcd d n = Nat.gcd n.natAbs d.natAbs := Nat.gcd_comm _ _
      rw [Rat.den_divInt, if_neg (by omega), e3] at e
      have e4 : d.natAbs / Nat.gcd n.natAbs d.natAbs = d.natAbs := by omega
      exact (Nat.div_eq_self.mp e4).resolve_left (by omega))
    simp [hd]
theorem eqv_ones (l : List D) : D.eqv (.lst l) (.lst []) = l.isEmpty := by
  cases l with
  | nil => exact eqv_nil
  | cons a l => exact eqv_nilc a l
theorem dep_ones {α : Type} (l : List α) : D.depAll (l.map fun _ => D.int 1) = 0 := by
  induction l with
  | nil => rfl
  | cons a l ih => simp only [List.map_cons, D.depAll, D.dep, ih] <;> rfl
theorem ones_map {α : Type} (p : α → Bool) (l : List α) : (l.filterMap fun a => if p a then some (S.v (.int 1)) else none) = ((l.filter p).map fun _ => D.int 1).map S.v := by
  rw [filterMap_ite p (fun _ => S.v (.int 1)), List.map_map]
  rfl
theorem ones_empty {α : Type} (p : α → Bool) (l : List α) : ((l.filter p).map fun _ => D.int 1).isEmpty = l.all fun a => !p a := by
  induction l with
  | nil => rfl
  | cons a l ih =>
    rw [List.filter_cons, List.all_cons]
    cases h : p a
    · simpa using ih
    · simp
theorem cmp_ones {α : Type} (p : α → Bool) (l : List α) (st : Store) : cmpSem .ne (.v (.lst ((l.filter p).map fun _ => D.int 1))) (.v (.lst [])) st = some (l.any p) := by
  have dp := dep_ones (l.filter p)
  have em := ones_empty p l
  simp only [cmpSem, rdD, Option.bind_some, D.dep, dp, depAll_nil, eqv_ones, em, List.all_eq_not_any_not]
  simp
theorem cmp_ones_eq {α : Type} (p : α → Bool) (l : List α) (st : Store) : cmpSem .eq (.v (.lst ((l.filter p).map fun _ => D.int 1))) (.v (.lst [])) st = some (!l.any p) := by
  have dp := dep_ones (l.filter p)
  have em := ones_empty p l
  simp only [cmpSem, rdD, Option.bind_some, D.dep, dp, depAll_nil, eqv_ones, em, List.all_eq_not_any_not]
  simp
theorem cmp_eq_int (a b : Int) (st : Store) : cmpSem .eq (.v (.int a)) (.v (.int b)) st = some (decide (a = b)) := by simp [cmpSem, rdD, D.dep, eqv_int]
theorem cmp_ne_int (a b : Int) (st : Store) : cmpSem .ne (.v (.int a)) (.v (.int b)) st = some (!decide (a = b)) := by simp [cmpSem, rdD, D.dep, eqv_int]
theorem cmp_lt_int (a b : Int) (st : Store) : cmpSem .lt (.v (.int a)) (.v (.int b)) st = some (decide (a < b)) := rfl
theorem cmp_le_int (a b : Int) (st : Store) : cmpSem .le (.v (.int a)) (.v (.int b)) st = some (decide (a ≤ b)) := rfl
theorem cmp_gt_int (a b : Int) (st : Store) : cmpSem .gt (.v (.int a)) (.v (.int b)) st = some (decide (b < a)) := rfl
theorem cmp_ge_int (a b : Int) (st : Store) : cmpSem .ge (.v (.int a)) (.v (.int b)) st = some (decide (b ≤ a)) := rfl
theorem cmp_eq_rt (q r : Rat) (st : Store) : cmpSem .eq (.v (rt q)) (.v (rt r)) st = some (decide (q = r)) := by simp [cmpSem, rdD, dep_rt, eqv_rt]
theorem cmp_ne_rt (q r : Rat) (st : Store) : cmpSem .ne (.v (rt q)) (.v (rt r)) st = some (!decide (q = r)) := by simp [cmpSem, rdD, dep_rt, eqv_rt]
theorem eqv_strs (a b : Str) : D.eqv (.str a) (.str b) = decide (a = b) := by
  simp only [D.eqv, D.pd, PyData.eqv]
  by_cases h : a = b <;> simp [h]
theorem cmp_ne_str (a b : Str) (st : Store) : cmpSem .ne (.v (.str a)) (.v (.str b)) st = some (!decide (a = b)) := by simp [cmpSem, rdD, D.dep, eqv_strs]
theorem cmp_ne_bl (a b : Bool) (st : Store) : cmpSem .ne (.v (.bl a)) (.v (.bl b)) st = some (!(a == b)) := by simp [cmpSem, rdD, D.dep, eqv_bl]
theorem ones_allV {α : Type} (p : α → Bool) (l : List α) : allV (l.filterMap fun a => if p a then some (S.v (.int 1)) else none) = some ((l.filter p).map fun _ => D.int 1) := by
  rw [ones_map]
  exact allV_map _
theorem sp_law_ratio {fq : Nat} (hf : F f = some (B_law_is_ratio fq)) (hk : G.keep.contains f = false) (hq : SLow (callK G F k) fq) : STst (callK G F (k + 1)) f fun v => (asQ v).isSome := by
  intro st v hv
  refine call_eq hf rfl hk ?_
  cases v with
  | tup ds =>
    by_cases hl : ds.length = 2
    · obtain ⟨a, b, rfl⟩ : ∃ a b, ds = [a, b] := by
        match ds, hl with
        | [a, b], _ => exact ⟨a, b, rfl⟩
      simp only [D.ok, D.okAll] at hv
      simp [B_law_is_ratio, evE, evEs, evO, evOc, evC, evAll, evAny, evAnd, evOr, depAll_nil, get_app, set_app, get_app1, get_map_last, sat_nil, sat_cons, after_nx, after_rt, after_bk, after_ct, brn_true, brn_false, sat_ifs, evFr_disp, evFr_lof, evFr_add, evFr_lzip, exS_asg, exS_par, exS_setix, exS_expr, exS_ret, exS_retN, exS_pass, exS_brk, exS_cont, exS_thr, need, bopSem, blSem, ixSem, setAll, asgT, asgL, trunc, rdD, allV, isiSem, isTy, tyOf, tyFits, nexc, items, lstI, L2.atI, L2.ixN, Res.sat_bind, Res.sat_ite, oneR, Wk.asg, wipe, List.replicate, cmp_ones, cmp_eq_int, cmp_ne_int, cmp_lt_int, cmp_le_int, cmp_gt_int, cmp_ge_int, cmp_eq_rt, cmp_ne_rt, cmp_ne_str, cmp_ne_bl]
      refine comp_sq [a, b] id (fun x => if !isWh x then some (.v (.int 1)) else none) (x := .tup [a, b]) (st1 := st) (by simp [evE, evEs, evO, evOc, evC, evAll, evAny, evAnd, evOr, depAll_nil, get_app, set_app, get_app1, get_map_last, sat_nil, sat_cons, after_nx, after_rt, after_bk, after_ct, brn_true, brn_false, sat_ifs, evFr_disp, evFr_lof, evFr_add, evFr_lzip, exS_asg, exS_par, exS_setix, exS_expr, exS_ret, exS_retN, exS_pass, exS_brk, exS_cont, exS_thr, need, bopSem, cmpSem, blSem, ixSem, setAll, asgT, asgL, trunc, rdD, allV, isiSem, isTy, tyOf, tyFits, nexc, items, lstI, L2.atI, L2.ixN, Res.sat_bind, Res.sat_ite, oneR, Wk.asg, wipe, List.replicate]) (.inr (by simp)) (fun x hx => ?_) ?_
      · have ex : x.ok := by
          simp at hx
          rcases hx with rfl | rfl
          · exact hv.1
          · exact hv.2.1
        cases x <;> first | (simp [evE, evEs, evO, evOc, evC, evAll, evAny, evAnd, evOr, depAll_nil, get_app, set_app, get_app1, get_map_last, sat_nil, sat_cons, after_nx, after_rt, after_bk, after_ct, brn_true, brn_false, sat_ifs, evFr_disp, evFr_lof, evFr_add, evFr_lzip, exS_asg, exS_par, exS_setix, exS_expr, exS_ret, exS_retN, exS_pass, exS_brk, exS_cont, exS_thr, need, bopSem, cmpSem, blSem, ixSem, setAll, asgT, asgL, trunc, rdD, allV, isiSem, isTy, tyOf, tyFits, nexc, items, lstI, L2.atI, L2.ixN, Res.sat_bind, Res.sat_ite, oneR, Wk.asg, wipe, List.replicate, isWh]; done) | (simp [D.ok] at ex; done)
      · simp only [ones_allV, Option.map_some, Res.sat_ok, cmp_ones]
        by_cases hh : isWh a = true ∧ isWh b = true
        · obtain ⟨n, rfl⟩ : ∃ n, a = .int n := by
            cases a <;> first | exact ⟨_, rfl⟩ | (simp [isWh] at hh; done)
          obtain ⟨d, rfl⟩ : ∃ n, b = .int n := by
            cases b <;> first | exact ⟨_, rfl⟩ | (simp [isWh] at hh; done)
          by_cases h : 0 < d
          · have hn : Big n := .of (b := 2000) (by simpa [D.ok] using hv.1) (by decide)
            have hd : Big d := .of (b := 2000) (by simpa [D.ok] using hv.2.1) (by decide)
            have e := hq st n d (by omega) hn hd
            simp [evE, evEs, evO, evOc, evC, evAll, evAny, evAnd, evOr, depAll_nil, get_app, set_app, get_app1, get_map_last, sat_nil, sat_cons, after_nx, after_rt, after_bk, after_ct, brn_true, brn_false, sat_ifs, evFr_disp, evFr_lof, evFr_add, evFr_lzip, exS_asg, exS_par, exS_setix, exS_expr, exS_ret, exS_retN, exS_pass, exS_brk, exS_cont, exS_thr, need, bopSem, cmpSem, blSem, ixSem, setAll, asgT, asgL, trunc, rdD, allV, isiSem, isTy, tyOf, tyFits, nexc, items, lstI, L2.atI, L2.ixN, Res.sat_bind, Res.sat_ite, oneR, Wk.asg, wipe, List.replicate, isWh, asQ, h, D.dep, e, dep_rt, divInt_iff h, D.depAll]
            by_cases g : Nat.gcd n.natAbs d.natAbs = 1 <;> simp [g]
          · simp [evE, evEs, evO, evOc, evC, evAll, evAny, evAnd, evOr, depAll_nil, get_app, set_app, get_app1, get_map_last, sat_nil, sat_cons, after_nx, after_rt, after_bk, after_ct, brn_true, brn_false, sat_ifs, evFr_disp, evFr_lof, evFr_add, evFr_lzip, exS_asg, exS_par, exS_setix, exS_expr, exS_ret, exS_retN, exS_pass, exS_brk, exS_cont, exS_thr, need, bopSem, blSem, ixSem, setAll, asgT, asgL, trunc, rdD, allV, isiSem, isTy, tyOf, tyFits, nexc, items, lstI, L2.atI, L2.ixN, Res.sat_bind, Res.sat_ite, oneR, Wk.asg, wipe, List.replicate, cmp_ones, cmp_eq_int, cmp_ne_int, cmp_lt_int, cmp_le_int, cmp_gt_int, cmp_ge_int, cmp_eq_rt, cmp_ne_rt, cmp_ne_str, cmp_ne_bl, isWh, asQ, h]
        · have h1 : ([a, b].any fun x => !isWh x) = true := by
            simp
            by_cases h2 : isWh a = true
            · right
              simpa [h2] using hh
            · left
              simpa using h2
          have h2 : asQ (.tup [a, b]) = none := by
            unfold asQ
            split
            · rename_i h
              cases h
              simp [isWh] at hh
            · rfl
          simp only [h1]
          simp [evE, evEs, evO, evOc, evC, evAll, evAny, evAnd, evOr, depAll_nil, get_app, set_app, get_app1, get_map_last, sat_nil, sat_cons, after_nx, after_rt, after_bk, after_ct, brn_true, brn_false, sat_ifs, evFr_disp, evFr_lof, evFr_add, evFr_lzip, exS_asg, exS_par, exS_setix, exS_expr, exS_ret, exS_retN, exS_pass, exS_brk, exS_cont, exS_thr, need, bopSem, cmpSem, blSem, ixSem, setAll, asgT, asgL, trunc, rdD, allV, isiSem, isTy, tyOf, tyFits, nexc, items, lstI, L2.atI, L2.ixN, Res.sat_bind, Res.sat_ite, oneR, Wk.asg, wipe, List.replicate, h2]
    · have hl2 : ¬ ((ds.length : Int) = 2) := by omega
      simp [B_law_is_ratio, evE, evEs, evO, evOc, evC, evAll, evAny, evAnd, evOr, depAll_nil, get_app, set_app, get_app1, get_map_last, sat_nil, sat_cons, after_nx, after_rt, after_bk, after_ct, brn_true, brn_false, sat_ifs, evFr_disp, evFr_lof, evFr_add, evFr_lzip, exS_asg, exS_par, exS_setix, exS_expr, exS_ret, exS_retN, exS_pass, exS_brk, exS_cont, exS_thr, need, bopSem, cmpSem, blSem, ixSem, setAll, asgT, asgL, trunc, rdD, allV, isiSem, isTy, tyOf, tyFits, nexc, items, lstI, L2.atI, L2.ixN, Res.sat_bind, Res.sat_ite, oneR, Wk.asg, wipe, List.replicate, eqv_int, hl2, D.dep, asQ_len hl]
  | _ => first | (simp [B_law_is_ratio, evE, evEs, evO, evOc, evC, evAll, evAny, evAnd, evOr, depAll_nil, get_app, set_app, get_app1, get_map_last, sat_nil, sat_cons, after_nx, after_rt, after_bk, after_ct, brn_true, brn_false, sat_ifs, evFr_disp, evFr_lof, evFr_add, evFr_lzip, exS_asg, exS_par, exS_setix, exS_expr, exS_ret, exS_retN, exS_pass, exS_brk, exS_cont, exS_thr, need, bopSem, cmpSem, blSem, ixSem, setAll, asgT, asgL, trunc, rdD, allV, isiSem, isTy, tyOf, tyFits, nexc, items, lstI, L2.atI, L2.ixN, Res.sat_bind, Res.sat_ite, oneR, Wk.asg, wipe, List.replicate, asQ]; done) | (simp [D.ok] at hv; done)
theorem allBl_map {α : Type} (p : α → Bool) (l : List α) : allBl (l.map fun a => D.bl (p a)) = some (l.map p) := by
  induction l with
  | nil => rfl
  | cons a l ih => simp only [List.map_cons, allBl, ih, Option.map_some]
theorem all_id_map {α : Type} (p : α → Bool) (l : List α) : (l.map p).all id = l.all p := by
  rw [List.all_map]
  rfl
theorem bl_all {α : Type} (p : α → Bool) (l : List α) (st : Store) : blSem .all [.v (.lst (l.map fun a => D.bl (p a)))] st = some (.v (.bl (l.all p))) := by
  simp only [blSem, rdD, Option.bind_some, allBl_map, Option.map_some, all_id_map]
theorem cut1 (ds : List D) : cutD ds (some 1) none = ds.drop 1 := by
  unfold cutD HT.sIx
  cases ds with
  | nil => simp
  | cons d ds => simp
theorem blMap {α : Type} (p : α → Bool) (l : List α) : allV (l.filterMap fun a => some (S.v (.bl (p a)))) = some (l.map fun a => D.bl (p a)) := by
  rw [filterMap_someF (fun a => S.v (.bl (p a)))]
  exact allV_mapF (fun a => D.bl (p a)) l
theorem ok_above {v : D} (hv : v.ok) (h : aboveV v = true) : ∃ q, v = rt q ∧ 0 < q ∧ Rb 2000 q := by
  obtain ⟨q, rfl, h2⟩ := aboveV_some h
  exact ⟨q, rfl, h2, ok_rb hv⟩
theorem lessV_rt (q r : Rat) : lessV (rt q) (rt r) = decide (q < r) := by
  unfold lessV
  rw [asQ_rt, asQ_rt]
theorem mem_zip_drop {α : Type} {l : List α} {p : α × α} (h : p ∈ l.zip (l.drop 1)) : p.1 ∈ l ∧ p.2 ∈ l := by
  have := List.of_mem_zip h
  exact ⟨this.1, List.mem_of_mem_drop this.2⟩
theorem sp_values {fa fl gm : Nat} (hf : F f = some (B_are_values fa fl gm)) (hk : G.keep.contains f = false) (hg : (G.cs[gm]?).map (·.2) = some (.int 6)) (ha : STst (callK G F k) fa aboveV) (hl : SLess (callK G F k) fl) : STst (callK G F (k + 1)) f valsV := by
  intro st v hv
  obtain ⟨p, hg1, hg2⟩ := Option.map_eq_some_iff.mp hg
  refine call_eq hf rfl hk ?_
  cases v with
  | tup ds =>
    simp only [D.ok] at hv
    by_cases h1 : 1 ≤ ds.length
    · by_cases h6 : ds.length ≤ 6
      · have e1 : (1 : Int) ≤ (ds.length : Int) := by omega
        have e6 : (ds.length : Int) ≤ 6 := by omega
        simp [B_are_values, evE, evEs, evO, evOc, evC, evAll, evAny, evAnd, evOr, depAll_nil, get_app, set_app, get_app1, get_map_last, sat_nil, sat_cons, after_nx, after_rt, after_bk, after_ct, brn_true, brn_false, sat_ifs, evFr_disp, evFr_lof, evFr_add, evFr_lzip, exS_asg, exS_par, exS_setix, exS_expr, exS_ret, exS_retN, exS_pass, exS_brk, exS_cont, exS_thr, need, bopSem, blSem, ixSem, setAll, asgT, asgL, trunc, rdD, allV, isiSem, isTy, tyOf, tyFits, nexc, items, lstI, L2.atI, L2.ixN, Res.sat_bind, Res.sat_ite, oneR, Wk.asg, wipe, List.replicate, cmp_ones, cmp_eq_int, cmp_ne_int, cmp_lt_int, cmp_le_int, cmp_gt_int, cmp_ge_int, cmp_eq_rt, cmp_ne_rt, cmp_ne_str, cmp_ne_bl, hg1, hg2, e1, e6]
        refine comp_sq ds id (fun x => some (.v (.bl (aboveV x)))) (x := .tup ds) (st1 := st) (by simp [evE, evEs, evO, evOc, evC, evAll, evAny, evAnd, evOr, depAll_nil, get_app, set_app, get_app1, get_map_last, sat_nil, sat_cons, after_nx, after_rt, after_bk, after_ct, brn_true, brn_false, sat_ifs, evFr_disp, evFr_lof, evFr_add, evFr_lzip, exS_asg, exS_par, exS_setix, exS_expr, exS_ret, exS_retN, exS_pass, exS_brk, exS_cont, exS_thr, need, bopSem, cmpSem, blSem, ixSem, setAll, asgT, asgL, trunc, rdD, allV, isiSem, isTy, tyOf, tyFits, nexc, items, lstI, L2.atI, L2.ixN, Res.sat_bind, Res.sat_ite, oneR, Wk.asg, wipe, List.replicate]) (.inr (by simp)) (fun x hx => ?_) ?_
        · simp [evE, evEs, evO, evOc, evC, evAll, evAny, evAnd, evOr, depAll_nil, get_app, set_app, get_app1, get_map_last, sat_nil, sat_cons, after_nx, after_rt, after_bk, after_ct, brn_true, brn_false, sat_ifs, evFr_disp, evFr_lof, evFr_add, evFr_lzip, exS_asg, exS_par, exS_setix, exS_expr, exS_ret, exS_retN, exS_pass, exS_brk, exS_cont, exS_thr, need, bopSem, cmpSem, blSem, ixSem, setAll, asgT, asgL, trunc, rdD, allV, isiSem, isTy, tyOf, tyFits, nexc, items, lstI, L2.atI, L2.ixN, Res.sat_bind, Res.sat_ite, oneR, Wk.asg, wipe, List.replicate, ha st x (okAll_mem hv x hx)]
        · have e := blMap aboveV ds
          simp only [e, Option.map_some, Res.sat_ok, Option.bind_some, allBl_map, all_id_map]
          by_cases hall : ds.all aboveV = true
          · have el := blMap (fun p : D × D => lessV p.1 p.2) (ds.zip (ds.drop 1))
            simp only [hall]
            simp [evE, evEs, evO, evOc, evC, evAll, evAny, evAnd, evOr, depAll_nil, get_app, set_app, get_app1, get_map_last, sat_nil, sat_cons, after_nx, after_rt, after_bk, after_ct, brn_true, brn_false, sat_ifs, evFr_disp, evFr_lof, evFr_add, evFr_lzip, exS_asg, exS_par, exS_setix, exS_expr, exS_ret, exS_retN, exS_pass, exS_brk, exS_cont, exS_thr, need, bopSem, blSem, ixSem, setAll, asgT, asgL, trunc, rdD, allV, isiSem, isTy, tyOf, tyFits, nexc, items, lstI, L2.atI, L2.ixN, Res.sat_bind, Res.sat_ite, oneR, Wk.asg, wipe, List.replicate, cmp_ones, cmp_eq_int, cmp_ne_int, cmp_lt_int, cmp_le_int, cmp_gt_int, cmp_ge_int, cmp_eq_rt, cmp_ne_rt, cmp_ne_str, cmp_ne_bl]
            refine comp_zip ds (ds.drop 1) id id (fun p => some (.v (.bl (lessV p.1 p.2)))) (x := .tup ds) (y := .tup (ds.drop 1)) (st1 := st) (st2 := st) (by simp [evE, evEs, evO, evOc, evC, evAll, evAny, evAnd, evOr, depAll_nil, get_app, set_app, get_app1, get_map_last, sat_nil, sat_cons, after_nx, after_rt, after_bk, after_ct, brn_true, brn_false, sat_ifs, evFr_disp, evFr_lof, evFr_add, evFr_lzip, exS_asg, exS_par, exS_setix, exS_expr, exS_ret, exS_retN, exS_pass, exS_brk, exS_cont, exS_thr, need, bopSem, cmpSem, blSem, ixSem, setAll, asgT, asgL, trunc, rdD, allV, isiSem, isTy, tyOf, tyFits, nexc, items, lstI, L2.atI, L2.ixN, Res.sat_bind, Res.sat_ite, oneR, Wk.asg, wipe, List.replicate]) (by simp [evE, evEs, evO, evOc, evC, evAll, evAny, evAnd, evOr, depAll_nil, get_app, set_app, get_app1, get_map_last, sat_nil, sat_cons, after_nx, after_rt, after_bk, after_ct, brn_true, brn_false, sat_ifs, evFr_disp, evFr_lof, evFr_add, evFr_lzip, exS_asg, exS_par, exS_setix, exS_expr, exS_ret, exS_retN, exS_pass, exS_brk, exS_cont, exS_thr, need, bopSem, cmpSem, blSem, ixSem, setAll, asgT, asgL, trunc, rdD, allV, isiSem, isTy, tyOf, tyFits, nexc, items, lstI, L2.atI, L2.ixN, Res.sat_bind, Res.sat_ite, oneR, Wk.asg, wipe, List.replicate, slcSem, cut1]) (.inr (by simp)) (.inr (by simp)) (fun p hp => ?_) ?_
            · obtain ⟨m1, m2⟩ := mem_zip_drop hp
              obtain ⟨q, e1, _, b1⟩ := ok_above (okAll_mem hv _ m1) (List.all_eq_true.mp hall _ m1)
              obtain ⟨r, e2, _, b2⟩ := ok_above (okAll_mem hv _ m2) (List.all_eq_true.mp hall _ m2)
              have e3 := hl st q r (b1.mono (by decide)) (b2.mono (by decide))
              simp only [id, e1, e2]
              simp [evE, evEs, evO, evOc, evC, evAll, evAny, evAnd, evOr, depAll_nil, get_app, set_app, get_app1, get_map_last, sat_nil, sat_cons, after_nx, after_rt, after_bk, after_ct, brn_true, brn_false, sat_ifs, evFr_disp, evFr_lof, evFr_add, evFr_lzip, exS_asg, exS_par, exS_setix, exS_expr, exS_ret, exS_retN, exS_pass, exS_brk, exS_cont, exS_thr, need, bopSem, cmpSem, blSem, ixSem, setAll, asgT, asgL, trunc, rdD, allV, isiSem, isTy, tyOf, tyFits, nexc, items, lstI, L2.atI, L2.ixN, Res.sat_bind, Res.sat_ite, oneR, Wk.asg, wipe, List.replicate, e3, lessV_rt]
            · simp only [el, Option.map_some, Res.sat_ok, Option.bind_some, allBl_map, all_id_map]
              have ev : valsV (.tup ds) = (ds.zip (ds.drop 1)).all fun p => lessV p.1 p.2 := by simp [valsV, h1, h6, hall]
              rw [ev]
              simp
          · have ev : valsV (.tup ds) = false := by simp [valsV, hall]
            have hall' : ds.all aboveV = false := by simpa using hall
            simp only [hall', ev]
            simp [evE, evEs, evO, evOc, evC, evAll, evAny, evAnd, evOr, depAll_nil, get_app, set_app, get_app1, get_map_last, sat_nil, sat_cons, after_nx, after_rt, after_bk, after_ct, brn_true, brn_false, sat_ifs, evFr_disp, evFr_lof, evFr_add, evFr_lzip, exS_asg, exS_par, exS_setix, exS_expr, exS_ret, exS_retN, exS_pass, exS_brk, exS_cont, exS_thr, need, bopSem, blSem, ixSem, setAll, asgT, asgL, trunc, rdD, allV, isiSem, isTy, tyOf, tyFits, nexc, items, lstI, L2.atI, L2.ixN, Res.sat_bind, Res.sat_ite, oneR, Wk.asg, wipe, List.replicate, cmp_ones, cmp_eq_int, cmp_ne_int, cmp_lt_int, cmp_le_int, cmp_gt_int, cmp_ge_int, cmp_eq_rt, cmp_ne_rt, cmp_ne_str, cmp_ne_bl]
      · have ev : valsV (.tup ds) = false := by simp [valsV, h6]
        have e1 : (1 : Int) ≤ (ds.length : Int) := by omega
        have e6 : ¬ (ds.length : Int) ≤ 6 := by omega
        simp [B_are_values, evE, evEs, evO, evOc, evC, evAll, evAny, evAnd, evOr, depAll_nil, get_app, set_app, get_app1, get_map_last, sat_nil, sat_cons, after_nx, after_rt, after_bk, after_ct, brn_true, brn_false, sat_ifs, evFr_disp, evFr_lof, evFr_add, evFr_lzip, exS_asg, exS_par, exS_setix, exS_expr, exS_ret, exS_retN, exS_pass, exS_brk, exS_cont, exS_thr, need, bopSem, blSem, ixSem, setAll, asgT, asgL, trunc, rdD, allV, isiSem, isTy, tyOf, tyFits, nexc, items, lstI, L2.atI, L2.ixN, Res.sat_bind, Res.sat_ite, oneR, Wk.asg, wipe, List.replicate, cmp_ones, cmp_eq_int, cmp_ne_int, cmp_lt_int, cmp_le_int, cmp_gt_int, cmp_ge_int, cmp_eq_rt, cmp_ne_rt, cmp_ne_str, cmp_ne_bl, hg1, hg2, e1, e6, ev]
    · have ev : valsV (.tup ds) = false := by simp [valsV, h1]
      have e1 : ¬ (1 : Int) ≤ (ds.length : Int) := by omega
      simp [B_are_values, evE, evEs, evO, evOc, evC, evAll, evAny, evAnd, evOr, depAll_nil, get_app, set_app, get_app1, get_map_last, sat_nil, sat_cons, after_nx, after_rt, after_bk, after_ct, brn_true, brn_false, sat_ifs, evFr_disp, evFr_lof, evFr_add, evFr_lzip, exS_asg, exS_par, exS_setix, exS_expr, exS_ret, exS_retN, exS_pass, exS_brk, exS_cont, exS_thr, need, bopSem, blSem, ixSem, setAll, asgT, asgL, trunc, rdD, allV, isiSem, isTy, tyOf, tyFits, nexc, items, lstI, L2.atI, L2.ixN, Res.sat_bind, Res.sat_ite, oneR, Wk.asg, wipe, List.replicate, cmp_ones, cmp_eq_int, cmp_ne_int, cmp_lt_int, cmp_le_int, cmp_gt_int, cmp_ge_int, cmp_eq_rt, cmp_ne_rt, cmp_ne_str, cmp_ne_bl, hg1, hg2, e1, ev]
  | _ => first | (simp [B_are_values, evE, evEs, evO, evOc, evC, evAll, evAny, evAnd, evOr, depAll_nil, get_app, set_app, get_app1, get_map_last, sat_nil, sat_cons, after_nx, after_rt, after_bk, after_ct, brn_true, brn_false, sat_ifs, evFr_disp, evFr_lof, evFr_add, evFr_lzip, exS_asg, exS_par, exS_setix, exS_expr, exS_ret, exS_retN, exS_pass, exS_brk, exS_cont, exS_thr, need, bopSem, cmpSem, blSem, ixSem, setAll, asgT, asgL, trunc, rdD, allV, isiSem, isTy, tyOf, tyFits, nexc, items, lstI, L2.atI, L2.ixN, Res.sat_bind, Res.sat_ite, oneR, Wk.asg, wipe, List.replicate, valsV]; done) | (simp [D.ok] at hv; done)
theorem onesV {α : Type} (p : α → Bool) (l : List α) : (allV (l.filterMap fun a => if p a then some (S.v (.int 1)) else none)).map (fun ds => S.v (.lst ds)) = some (.v (.lst ((l.filter p).map fun _ => D.int 1))) := by
  rw [ones_allV]
  rfl
theorem sp_law_values {fr fl : Nat} (hf : F f = some (B_law_mk_are_values fr fl)) (hk : G.keep.contains f = false) (hr : STst (callK G F k) fr fun v => (asQ v).isSome) (hl : SLess (callK G F k) fl) : STst (callK G F (k + 1)) f valsV := by
  intro st v hv
  refine call_eq hf rfl hk ?_
  cases v with
  | tup ds =>
    simp only [D.ok] at hv
    by_cases h1 : 1 ≤ ds.length
    · by_cases h6 : ds.length ≤ 6
      · have e1 : (1 : Int) ≤ (ds.length : Int) := by omega
        have e6 : (ds.length : Int) ≤ 6 := by omega
        simp [B_law_mk_are_values, evE, evEs, evO, evOc, evC, evAll, evAny, evAnd, evOr, depAll_nil, get_app, set_app, get_app1, get_map_last, sat_nil, sat_cons, after_nx, after_rt, after_bk, after_ct, brn_true, brn_false, sat_ifs, evFr_disp, evFr_lof, evFr_add, evFr_lzip, exS_asg, exS_par, exS_setix, exS_expr, exS_ret, exS_retN, exS_pass, exS_brk, exS_cont, exS_thr, need, bopSem, blSem, ixSem, setAll, asgT, asgL, trunc, rdD, allV, isiSem, isTy, tyOf, tyFits, nexc, items, lstI, L2.atI, L2.ixN, Res.sat_bind, Res.sat_ite, oneR, Wk.asg, wipe, List.replicate, cmp_ones, cmp_eq_int, cmp_ne_int, cmp_lt_int, cmp_le_int, cmp_gt_int, cmp_ge_int, cmp_eq_rt, cmp_ne_rt, cmp_ne_str, cmp_ne_bl, e1, e6]
        refine comp_sq ds id (fun x => if !aboveV x then some (.v (.int 1)) else none) (x := .tup ds) (st1 := st) (by simp [evE, evEs, evO, evOc, evC, evAll, evAny, evAnd, evOr, depAll_nil, get_app, set_app, get_app1, get_map_last, sat_nil, sat_cons, after_nx, after_rt, after_bk, after_ct, brn_true, brn_false, sat_ifs, evFr_disp, evFr_lof, evFr_add, evFr_lzip, exS_asg, exS_par, exS_setix, exS_expr, exS_ret, exS_retN, exS_pass, exS_brk, exS_cont, exS_thr, need, bopSem, cmpSem, blSem, ixSem, setAll, asgT, asgL, trunc, rdD, allV, isiSem, isTy, tyOf, tyFits, nexc, items, lstI, L2.atI, L2.ixN, Res.sat_bind, Res.sat_ite, oneR, Wk.asg, wipe, List.replicate]) (.inr (by simp)) (fun x hx => ?_) ?_
        · have e : callK G F k fr [.v x] st = .ok (.v (.bl (asQ x).isSome)) st := hr st x (okAll_mem hv x hx)
          cases h : asQ x with
          | none =>
            rw [h] at e
            simp [evE, evEs, evO, evOc, evC, evAll, evAny, evAnd, evOr, depAll_nil, get_app, set_app, get_app1, get_map_last, sat_nil, sat_cons, after_nx, after_rt, after_bk, after_ct, brn_true, brn_false, sat_ifs, evFr_disp, evFr_lof, evFr_add, evFr_lzip, exS_asg, exS_par, exS_setix, exS_expr, exS_ret, exS_retN, exS_pass, exS_brk, exS_cont, exS_thr, need, bopSem, cmpSem, blSem, ixSem, setAll, asgT, asgL, trunc, rdD, allV, isiSem, isTy, tyOf, tyFits, nexc, items, lstI, L2.atI, L2.ixN, Res.sat_bind, Res.sat_ite, oneR, Wk.asg, wipe, List.replicate, e, aboveV, h]
          | some q =>
            rw [h] at e
            have := asQ_some h
            subst this
            have e1 : rt q = .tup [.int q.num, .int q.den] := rfl
            have e2 : aboveV (rt q) = decide (0 < q.num) := by
              unfold aboveV
              rw [h]
              simp [num_pos_iff]
            by_cases hq : 0 < q.num
            · have hq' : ¬ q.num ≤ 0 := by omega
              simp only [id, e2, hq]
              rw [e1] at e ⊢
              simp [evE, evEs, evO, evOc, evC, evAll, evAny, evAnd, evOr, depAll_nil, get_app, set_app, get_app1, get_map_last, sat_nil, sat_cons, after_nx, after_rt, after_bk, after_ct, brn_true, brn_false, sat_ifs, evFr_disp, evFr_lof, evFr_add, evFr_lzip, exS_asg, exS_par, exS_setix, exS_expr, exS_ret, exS_retN, exS_pass, exS_brk, exS_cont, exS_thr, need, bopSem, cmpSem, blSem, ixSem, setAll, asgT, asgL, trunc, rdD, allV, isiSem, isTy, tyOf, tyFits, nexc, items, lstI, L2.atI, L2.ixN, Res.sat_bind, Res.sat_ite, oneR, Wk.asg, wipe, List.replicate, e, hq']
            · have hq' : q.num ≤ 0 := by omega
              simp only [id, e2, hq]
              rw [e1] at e ⊢
              simp [evE, evEs, evO, evOc, evC, evAll, evAny, evAnd, evOr, depAll_nil, get_app, set_app, get_app1, get_map_last, sat_nil, sat_cons, after_nx, after_rt, after_bk, after_ct, brn_true, brn_false, sat_ifs, evFr_disp, evFr_lof, evFr_add, evFr_lzip, exS_asg, exS_par, exS_setix, exS_expr, exS_ret, exS_retN, exS_pass, exS_brk, exS_cont, exS_thr, need, bopSem, cmpSem, blSem, ixSem, setAll, asgT, asgL, trunc, rdD, allV, isiSem, isTy, tyOf, tyFits, nexc, items, lstI, L2.atI, L2.ixN, Res.sat_bind, Res.sat_ite, oneR, Wk.asg, wipe, List.replicate, e, hq']
        · simp only [onesV, Res.sat_ok, cmp_ones]
          by_cases hall : ds.all aboveV = true
          · have ha : (ds.any fun x => !aboveV x) = false := by
              rw [List.all_eq_not_any_not] at hall
              simpa using hall
            simp only [ha]
            simp [evE, evEs, evO, evOc, evC, evAll, evAny, evAnd, evOr, depAll_nil, get_app, set_app, get_app1, get_map_last, sat_nil, sat_cons, after_nx, after_rt, after_bk, after_ct, brn_true, brn_false, sat_ifs, evFr_disp, evFr_lof, evFr_add, evFr_lzip, exS_asg, exS_par, exS_setix, exS_expr, exS_ret, exS_retN, exS_pass, exS_brk, exS_cont, exS_thr, need, bopSem, blSem, ixSem, setAll, asgT, asgL, trunc, rdD, allV, isiSem, isTy, tyOf, tyFits, nexc, items, lstI, L2.atI, L2.ixN, Res.sat_bind, Res.sat_ite, oneR, Wk.asg, wipe, List.replicate, cmp_ones, cmp_eq_int, cmp_ne_int, cmp_lt_int, cmp_le_int, cmp_gt_int, cmp_ge_int, cmp_eq_rt, cmp_ne_rt, cmp_ne_str, cmp_ne_bl]
            refine comp_zip ds (ds.drop 1) id id (fun p => if !lessV p.1 p.2 then some (.v (.int 1)) else none) (x := .tup ds) (y := .tup (ds.drop 1)) (st1 := st) (st2 := st) (by simp [evE, evEs, evO, evOc, evC, evAll, evAny, evAnd, evOr, depAll_nil, get_app, set_app, get_app1, get_map_last, sat_nil, sat_cons, after_nx, after_rt, after_bk, after_ct, brn_true, brn_false, sat_ifs, evFr_disp, evFr_lof, evFr_add, evFr_lzip, exS_asg, exS_par, exS_setix, exS_expr, exS_ret, exS_retN, exS_pass, exS_brk, exS_cont, exS_thr, need, bopSem, cmpSem, blSem, ixSem, setAll, asgT, asgL, trunc, rdD, allV, isiSem, isTy, tyOf, tyFits, nexc, items, lstI, L2.atI, L2.ixN, Res.sat_bind, Res.sat_ite, oneR, Wk.asg, wipe, List.replicate]) (by simp [evE, evEs, evO, evOc, evC, evAll, evAny, evAnd, evOr, depAll_nil, get_app, set_app, get_app1, get_map_last, sat_nil, sat_cons, after_nx, after_rt, after_bk, after_ct, brn_true, brn_false, sat_ifs, evFr_disp, evFr_lof, evFr_add, evFr_lzip, exS_asg, exS_par, exS_setix, exS_expr, exS_ret, exS_retN, exS_pass, exS_brk, exS_cont, exS_thr, need, bopSem, cmpSem, blSem, ixSem, setAll, asgT, asgL, trunc, rdD, allV, isiSem, isTy, tyOf, tyFits, nexc, items, lstI, L2.atI, L2.ixN, Res.sat_bind, Res.sat_ite, oneR, Wk.asg, wipe, List.replicate, slcSem, cut1]) (.inr (by simp)) (.inr (by simp)) (fun p hp => ?_) ?_
            · obtain ⟨m1, m2⟩ := mem_zip_drop hp
              obtain ⟨q, e1, _, b1⟩ := ok_above (okAll_mem hv _ m1) (List.all_eq_true.mp hall _ m1)
              obtain ⟨r, e2, _, b2⟩ := ok_above (okAll_mem hv _ m2) (List.all_eq_true.mp hall _ m2)
              have e3 := hl st q r (b1.mono (by decide)) (b2.mono (by decide))
              simp only [id, e1, e2, lessV_rt]
              by_cases hqr : q < r <;> simp [evE, evEs, evO, evOc, evC, evAll, evAny, evAnd, evOr, depAll_nil, get_app, set_app, get_app1, get_map_last, sat_nil, sat_cons, after_nx, after_rt, after_bk, after_ct, brn_true, brn_false, sat_ifs, evFr_disp, evFr_lof, evFr_add, evFr_lzip, exS_asg, exS_par, exS_setix, exS_expr, exS_ret, exS_retN, exS_pass, exS_brk, exS_cont, exS_thr, need, bopSem, cmpSem, blSem, ixSem, setAll, asgT, asgL, trunc, rdD, allV, isiSem, isTy, tyOf, tyFits, nexc, items, lstI, L2.atI, L2.ixN, Res.sat_bind, Res.sat_ite, oneR, Wk.asg, wipe, List.replicate, e3, hqr]
            · simp only [onesV, Res.sat_ok, cmp_ones_eq]
              have ev : valsV (.tup ds) = !((ds.zip (ds.drop 1)).any fun p => !lessV p.1 p.2) := by
                rw [← List.all_eq_not_any_not]
                simp [valsV, h1, h6, hall]
              rw [ev]
              simp
          · have ev : valsV (.tup ds) = false := by simp [valsV, hall]
            have ha : (ds.any fun x => !aboveV x) = true := by
              rw [List.all_eq_not_any_not] at hall
              simpa using hall
            simp only [ha, ev]
            simp [evE, evEs, evO, evOc, evC, evAll, evAny, evAnd, evOr, depAll_nil, get_app, set_app, get_app1, get_map_last, sat_nil, sat_cons, after_nx, after_rt, after_bk, after_ct, brn_true, brn_false, sat_ifs, evFr_disp, evFr_lof, evFr_add, evFr_lzip, exS_asg, exS_par, exS_setix, exS_expr, exS_ret, exS_retN, exS_pass, exS_brk, exS_cont, exS_thr, need, bopSem, blSem, ixSem, setAll, asgT, asgL, trunc, rdD, allV, isiSem, isTy, tyOf, tyFits, nexc, items, lstI, L2.atI, L2.ixN, Res.sat_bind, Res.sat_ite, oneR, Wk.asg, wipe, List.replicate, cmp_ones, cmp_eq_int, cmp_ne_int, cmp_lt_int, cmp_le_int, cmp_gt_int, cmp_ge_int, cmp_eq_rt, cmp_ne_rt, cmp_ne_str, cmp_ne_bl]
      · have ev : valsV (.tup ds) = false := by simp [valsV, h6]
        have e1 : (1 : Int) ≤ (ds.length : Int) := by omega
        have e6 : ¬ (ds.length : Int) ≤ 6 := by omega
        simp [B_law_mk_are_values, evE, evEs, evO, evOc, evC, evAll, evAny, evAnd, evOr, depAll_nil, get_app, set_app, get_app1, get_map_last, sat_nil, sat_cons, after_nx, after_rt, after_bk, after_ct, brn_true, brn_false, sat_ifs, evFr_disp, evFr_lof, evFr_add, evFr_lzip, exS_asg, exS_par, exS_setix, exS_expr, exS_ret, exS_retN, exS_pass, exS_brk, exS_cont, exS_thr, need, bopSem, blSem, ixSem, setAll, asgT, asgL, trunc, rdD, allV, isiSem, isTy, tyOf, tyFits, nexc, items, lstI, L2.atI, L2.ixN, Res.sat_bind, Res.sat_ite, oneR, Wk.asg, wipe, List.replicate, cmp_ones, cmp_eq_int, cmp_ne_int, cmp_lt_int, cmp_le_int, cmp_gt_int, cmp_ge_int, cmp_eq_rt, cmp_ne_rt, cmp_ne_str, cmp_ne_bl, e1, e6, ev]
    · have ev : valsV (.tup ds) = false := by simp [valsV, h1]
      have e1 : ¬ (1 : Int) ≤ (ds.length : Int) := by omega
      simp [B_law_mk_are_values, evE, evEs, evO, evOc, evC, evAll, evAny, evAnd, evOr, depAll_nil, get_app, set_app, get_app1, get_map_last, sat_nil, sat_cons, after_nx, after_rt, after_bk, after_ct, brn_true, brn_false, sat_ifs, evFr_disp, evFr_lof, evFr_add, evFr_lzip, exS_asg, exS_par, exS_setix, exS_expr, exS_ret, exS_retN, exS_pass, exS_brk, exS_cont, exS_thr, need, bopSem, blSem, ixSem, setAll, asgT, asgL, trunc, rdD, allV, isiSem, isTy, tyOf, tyFits, nexc, items, lstI, L2.atI, L2.ixN, Res.sat_bind, Res.sat_ite, oneR, Wk.asg, wipe, List.replicate, cmp_ones, cmp_eq_int, cmp_ne_int, cmp_lt_int, cmp_le_int, cmp_gt_int, cmp_ge_int, cmp_eq_rt, cmp_ne_rt, cmp_ne_str, cmp_ne_bl, e1, ev]
  | _ => first | (simp [B_law_mk_are_values, evE, evEs, evO, evOc, evC, evAll, evAny, evAnd, evOr, depAll_nil, get_app, set_app, get_app1, get_map_last, sat_nil, sat_cons, after_nx, after_rt, after_bk, after_ct, brn_true, brn_false, sat_ifs, evFr_disp, evFr_lof, evFr_add, evFr_lzip, exS_asg, exS_par, exS_setix, exS_expr, exS_ret, exS_retN, exS_pass, exS_brk, exS_cont, exS_thr, need, bopSem, cmpSem, blSem, ixSem, setAll, asgT, asgL, trunc, rdD, allV, isiSem, isTy, tyOf, tyFits, nexc, items, lstI, L2.atI, L2.ixN, Res.sat_bind, Res.sat_ite, oneR, Wk.asg, wipe, List.replicate, valsV]; done) | (simp [D.ok] at hv; done)
end
end Sw

set_option linter.all false
set_option maxRecDepth 100000
set_option maxHeartbeats 4000000
namespace Sw
open PySem
section
variable {G : Gt} {F : Nat → Option Fd} {C : Nat → List S → Store → Res S} {k f : Nat}
theorem isRow_iff {v : D} (h : isRow v = true) : ∃ a b, v = .tup [a, b] := by
  unfold isRow at h
  split at h
  · exact ⟨_, _, rfl⟩
  · cases h
theorem row_ok {v : D} (hv : v.ok) (h : isRow v = true) : v = .tup [fstV v, sndV v] ∧ (fstV v).ok ∧ (sndV v).ok := by
  obtain ⟨a, b, rfl⟩ := isRow_iff h
  simp only [D.ok, D.okAll] at hv
  exact ⟨rfl, hv.1, hv.2.1⟩
theorem isRow_len {ds : List D} : isRow (.tup ds) = decide (ds.length = 2) := by
  match ds with
  | [] => rfl
  | [_] => rfl
  | [_, _] => rfl
  | _ :: _ :: _ :: _ => simp [isRow]
theorem len2 (n : Nat) : decide ((n : Int) = 2) = decide (n = 2) := by
  by_cases h : n = 2
  · simp [h]
  · have : ¬ (n : Int) = 2 := by omega
    simp [h, this]
theorem marketV_len {ds : List D} (h : ds.length ≠ 2) : marketV (.tup ds) = false := by
  unfold marketV
  split
  · rename_i e
    cases e
    simp at h
  · rfl
theorem sp_market {fv fa : Nat} (hf : F f = some (B_is_market fv fa)) (hk : G.keep.contains f = false) (hvs : STst (callK G F k) fv valsV) (ha : STst (callK G F k) fa aboveV) : STst (callK G F (k + 1)) f marketV := by
  intro st v hv
  refine call_eq hf rfl hk ?_
  cases v with
  | tup ds =>
    by_cases hl : ds.length = 2
    · obtain ⟨a, b, rfl⟩ : ∃ a b, ds = [a, b] := by
        match ds, hl with
        | [a, b], _ => exact ⟨a, b, rfl⟩
      simp only [D.ok, D.okAll] at hv
      obtain ⟨va, vb, _⟩ := hv
      cases a with
      | str s =>
        by_cases hs : s = "market"
        · cases b with
          | tup rows =>
            simp only [D.ok] at vb
            simp [B_is_market, evE, evEs, evO, evOc, evC, evAll, evAny, evAnd, evOr, depAll_nil, get_app, set_app, get_app1, get_map_last, sat_nil, sat_cons, after_nx, after_rt, after_bk, after_ct, brn_true, brn_false, sat_ifs, evFr_disp, evFr_lof, evFr_add, evFr_lzip, exS_asg, exS_par, exS_setix, exS_expr, exS_ret, exS_retN, exS_pass, exS_brk, exS_cont, exS_thr, need, bopSem, blSem, ixSem, setAll, asgT, asgL, trunc, rdD, allV, isiSem, isTy, tyOf, tyFits, nexc, items, lstI, L2.atI, L2.ixN, Res.sat_bind, Res.sat_ite, oneR, Wk.asg, wipe, List.replicate, cmp_ones, cmp_eq_int, cmp_ne_int, cmp_lt_int, cmp_le_int, cmp_gt_int, cmp_ge_int, cmp_eq_rt, cmp_ne_rt, cmp_ne_str, cmp_ne_bl, hs]
            refine comp_sq rows id (fun x => some (.v (.bl (isRow x)))) (x := .tup rows) (st1 := st) (by simp [evE, evEs, evO, evOc, evC, evAll, evAny, evAnd, evOr, depAll_nil, get_app, set_app, get_app1, get_map_last, sat_nil, sat_cons, after_nx, after_rt, after_bk, after_ct, brn_true, brn_false, sat_ifs, evFr_disp, evFr_lof, evFr_add, evFr_lzip, exS_asg, exS_par, exS_setix, exS_expr, exS_ret, exS_retN, exS_pass, exS_brk, exS_cont, exS_thr, need, bopSem, cmpSem, blSem, ixSem, setAll, asgT, asgL, trunc, rdD, allV, isiSem, isTy, tyOf, tyFits, nexc, items, lstI, L2.atI, L2.ixN, Res.sat_bind, Res.sat_ite, oneR, Wk.asg, wipe, List.replicate]) (.inr (by simp)) (fun x hx => ?_) ?_
            · have hx2 := okAll_mem vb x hx
              cases x with
              | tup ds2 => simp [evE, evEs, evO, evOc, evC, evAll, evAny, evAnd, evOr, depAll_nil, get_app, set_app, get_app1, get_map_last, sat_nil, sat_cons, after_nx, after_rt, after_bk, after_ct, brn_true, brn_false, sat_ifs, evFr_disp, evFr_lof, evFr_add, evFr_lzip, exS_asg, exS_par, exS_setix, exS_expr, exS_ret, exS_retN, exS_pass, exS_brk, exS_cont, exS_thr, need, bopSem, blSem, ixSem, setAll, asgT, asgL, trunc, rdD, allV, isiSem, isTy, tyOf, tyFits, nexc, items, lstI, L2.atI, L2.ixN, Res.sat_bind, Res.sat_ite, oneR, Wk.asg, wipe, List.replicate, cmp_ones, cmp_eq_int, cmp_ne_int, cmp_lt_int, cmp_le_int, cmp_gt_int, cmp_ge_int, cmp_eq_rt, cmp_ne_rt, cmp_ne_str, cmp_ne_bl, isRow_len, len2]
              | _ => first | (simp [evE, evEs, evO, evOc, evC, evAll, evAny, evAnd, evOr, depAll_nil, get_app, set_app, get_app1, get_map_last, sat_nil, sat_cons, after_nx, after_rt, after_bk, after_ct, brn_true, brn_false, sat_ifs, evFr_disp, evFr_lof, evFr_add, evFr_lzip, exS_asg, exS_par, exS_setix, exS_expr, exS_ret, exS_retN, exS_pass, exS_brk, exS_cont, exS_thr, need, bopSem, blSem, ixSem, setAll, asgT, asgL, trunc, rdD, allV, isiSem, isTy, tyOf, tyFits, nexc, items, lstI, L2.atI, L2.ixN, Res.sat_bind, Res.sat_ite, oneR, Wk.asg, wipe, List.replicate, cmp_ones, cmp_eq_int, cmp_ne_int, cmp_lt_int, cmp_le_int, cmp_gt_int, cmp_ge_int, cmp_eq_rt, cmp_ne_rt, cmp_ne_str, cmp_ne_bl, isRow]; done) | (simp [D.ok] at hx2; done)
            · have e := blMap isRow rows
              simp only [e, Option.map_some, Res.sat_ok, Option.bind_some, allBl_map, all_id_map]
              by_cases hr : rows.all isRow = true
              · have hrow : ∀ r ∈ rows, r = .tup [fstV r, sndV r] ∧ (fstV r).ok ∧ (sndV r).ok := fun r h => row_ok (okAll_mem vb r h) (List.all_eq_true.mp hr r h)
                simp only [hr]
                simp [evE, evEs, evO, evOc, evC, evAll, evAny, evAnd, evOr, depAll_nil, get_app, set_app, get_app1, get_map_last, sat_nil, sat_cons, after_nx, after_rt, after_bk, after_ct, brn_true, brn_false, sat_ifs, evFr_disp, evFr_lof, evFr_add, evFr_lzip, exS_asg, exS_par, exS_setix, exS_expr, exS_ret, exS_retN, exS_pass, exS_brk, exS_cont, exS_thr, need, bopSem, blSem, ixSem, setAll, asgT, asgL, trunc, rdD, allV, isiSem, isTy, tyOf, tyFits, nexc, items, lstI, L2.atI, L2.ixN, Res.sat_bind, Res.sat_ite, oneR, Wk.asg, wipe, List.replicate, cmp_ones, cmp_eq_int, cmp_ne_int, cmp_lt_int, cmp_le_int, cmp_gt_int, cmp_ge_int, cmp_eq_rt, cmp_ne_rt, cmp_ne_str, cmp_ne_bl]
                refine comp_sq rows id (fun r => some (.v (fstV r))) (x := .tup rows) (st1 := st) (by simp [evE, evEs, evO, evOc, evC, evAll, evAny, evAnd, evOr, depAll_nil, get_app, set_app, get_app1, get_map_last, sat_nil, sat_cons, after_nx, after_rt, after_bk, after_ct, brn_true, brn_false, sat_ifs, evFr_disp, evFr_lof, evFr_add, evFr_lzip, exS_asg, exS_par, exS_setix, exS_expr, exS_ret, exS_retN, exS_pass, exS_brk, exS_cont, exS_thr, need, bopSem, cmpSem, blSem, ixSem, setAll, asgT, asgL, trunc, rdD, allV, isiSem, isTy, tyOf, tyFits, nexc, items, lstI, L2.atI, L2.ixN, Res.sat_bind, Res.sat_ite, oneR, Wk.asg, wipe, List.replicate]) (.inr (by simp)) (fun x hx => ?_) ?_
                · have e2 := (hrow x hx).1
                  generalize fstV x = a at e2 ⊢
                  generalize sndV x = c at e2
                  subst e2
                  simp [evE, evEs, evO, evOc, evC, evAll, evAny, evAnd, evOr, depAll_nil, get_app, set_app, get_app1, get_map_last, sat_nil, sat_cons, after_nx, after_rt, after_bk, after_ct, brn_true, brn_false, sat_ifs, evFr_disp, evFr_lof, evFr_add, evFr_lzip, exS_asg, exS_par, exS_setix, exS_expr, exS_ret, exS_retN, exS_pass, exS_brk, exS_cont, exS_thr, need, bopSem, cmpSem, blSem, ixSem, setAll, asgT, asgL, trunc, rdD, allV, isiSem, isTy, tyOf, tyFits, nexc, items, lstI, L2.atI, L2.ixN, Res.sat_bind, Res.sat_ite, oneR, Wk.asg, wipe, List.replicate]
                · have okf : (D.tup (rows.map fstV)).ok := by
                    simp only [D.ok]
                    refine okAll_of fun y hy => ?_
                    obtain ⟨r, h1, rfl⟩ := List.mem_map.mp hy
                    exact (hrow r h1).2.1
                  have e3 := hvs st (.tup (rows.map fstV)) okf
                  have e4 : allV (rows.filterMap fun r => some (S.v (fstV r))) = some (rows.map fstV) := by
                    rw [filterMap_someF (fun r => S.v (fstV r))]
                    exact allV_mapF fstV rows
                  simp only [e4, Option.map_some, Res.sat_ok, Option.bind_some, e3]
                  by_cases hv2 : valsV (.tup (rows.map fstV)) = true
                  · simp only [hv2]
                    simp [evE, evEs, evO, evOc, evC, evAll, evAny, evAnd, evOr, depAll_nil, get_app, set_app, get_app1, get_map_last, sat_nil, sat_cons, after_nx, after_rt, after_bk, after_ct, brn_true, brn_false, sat_ifs, evFr_disp, evFr_lof, evFr_add, evFr_lzip, exS_asg, exS_par, exS_setix, exS_expr, exS_ret, exS_retN, exS_pass, exS_brk, exS_cont, exS_thr, need, bopSem, blSem, ixSem, setAll, asgT, asgL, trunc, rdD, allV, isiSem, isTy, tyOf, tyFits, nexc, items, lstI, L2.atI, L2.ixN, Res.sat_bind, Res.sat_ite, oneR, Wk.asg, wipe, List.replicate, cmp_ones, cmp_eq_int, cmp_ne_int, cmp_lt_int, cmp_le_int, cmp_gt_int, cmp_ge_int, cmp_eq_rt, cmp_ne_rt, cmp_ne_str, cmp_ne_bl]
                    refine comp_sq rows id (fun r => some (.v (.bl (aboveV (sndV r))))) (x := .tup rows) (st1 := st) (by simp [evE, evEs, evO, evOc, evC, evAll, evAny, evAnd, evOr, depAll_nil, get_app, set_app, get_app1, get_map_last, sat_nil, sat_cons, after_nx, after_rt, after_bk, after_ct, brn_true, brn_false, sat_ifs, evFr_disp, evFr_lof, evFr_add, evFr_lzip, exS_asg, exS_par, exS_setix, exS_expr, exS_ret, exS_retN, exS_pass, exS_brk, exS_cont, exS_thr, need, bopSem, cmpSem, blSem, ixSem, setAll, asgT, asgL, trunc, rdD, allV, isiSem, isTy, tyOf, tyFits, nexc, items, lstI, L2.atI, L2.ixN, Res.sat_bind, Res.sat_ite, oneR, Wk.asg, wipe, List.replicate]) (.inr (by simp)) (fun x hx => ?_) ?_
                    · obtain ⟨e2, _, ok2⟩ := hrow x hx
                      have e5 := ha st _ ok2
                      generalize sndV x = c at e2 e5 ⊢
                      generalize fstV x = a at e2
                      subst e2
                      simp [evE, evEs, evO, evOc, evC, evAll, evAny, evAnd, evOr, depAll_nil, get_app, set_app, get_app1, get_map_last, sat_nil, sat_cons, after_nx, after_rt, after_bk, after_ct, brn_true, brn_false, sat_ifs, evFr_disp, evFr_lof, evFr_add, evFr_lzip, exS_asg, exS_par, exS_setix, exS_expr, exS_ret, exS_retN, exS_pass, exS_brk, exS_cont, exS_thr, need, bopSem, cmpSem, blSem, ixSem, setAll, asgT, asgL, trunc, rdD, allV, isiSem, isTy, tyOf, tyFits, nexc, items, lstI, L2.atI, L2.ixN, Res.sat_bind, Res.sat_ite, oneR, Wk.asg, wipe, List.replicate, e5]
                    · have e6 := blMap (fun r => aboveV (sndV r)) rows
                      simp only [e6, Option.map_some, Res.sat_ok, Option.bind_some, allBl_map, all_id_map]
                      have ev : marketV (.tup [.str (Str.ofString "market"), .tup rows]) = rows.all fun r => aboveV (sndV r) := by simp [marketV, hr, hv2]
                      simp [ev]
                  · have ev : marketV (.tup [.str (Str.ofString "market"), .tup rows]) = false := by simp [marketV, hv2]
                    have hv2' : valsV (.tup (rows.map fstV)) = false := by simpa using hv2
                    simp only [hv2']
                    simp [ev]
              · have ev : marketV (.tup [.str (Str.ofString "market"), .tup rows]) = false := by simp [marketV, hr]
                have hr' : rows.all isRow = false := by simpa using hr
                simp only [hr']
                simp [evE, evEs, evO, evOc, evC, evAll, evAny, evAnd, evOr, depAll_nil, get_app, set_app, get_app1, get_map_last, sat_nil, sat_cons, after_nx, after_rt, after_bk, after_ct, brn_true, brn_false, sat_ifs, evFr_disp, evFr_lof, evFr_add, evFr_lzip, exS_asg, exS_par, exS_setix, exS_expr, exS_ret, exS_retN, exS_pass, exS_brk, exS_cont, exS_thr, need, bopSem, blSem, ixSem, setAll, asgT, asgL, trunc, rdD, allV, isiSem, isTy, tyOf, tyFits, nexc, items, lstI, L2.atI, L2.ixN, Res.sat_bind, Res.sat_ite, oneR, Wk.asg, wipe, List.replicate, cmp_ones, cmp_eq_int, cmp_ne_int, cmp_lt_int, cmp_le_int, cmp_gt_int, cmp_ge_int, cmp_eq_rt, cmp_ne_rt, cmp_ne_str, cmp_ne_bl, ev]
          | _ => first | (simp [B_is_market, evE, evEs, evO, evOc, evC, evAll, evAny, evAnd, evOr, depAll_nil, get_app, set_app, get_app1, get_map_last, sat_nil, sat_cons, after_nx, after_rt, after_bk, after_ct, brn_true, brn_false, sat_ifs, evFr_disp, evFr_lof, evFr_add, evFr_lzip, exS_asg, exS_par, exS_setix, exS_expr, exS_ret, exS_retN, exS_pass, exS_brk, exS_cont, exS_thr, need, bopSem, blSem, ixSem, setAll, asgT, asgL, trunc, rdD, allV, isiSem, isTy, tyOf, tyFits, nexc, items, lstI, L2.atI, L2.ixN, Res.sat_bind, Res.sat_ite, oneR, Wk.asg, wipe, List.replicate, cmp_ones, cmp_eq_int, cmp_ne_int, cmp_lt_int, cmp_le_int, cmp_gt_int, cmp_ge_int, cmp_eq_rt, cmp_ne_rt, cmp_ne_str, cmp_ne_bl, marketV, hs]; done) | (simp [D.ok] at vb; done)
        · have ev : marketV (.tup [.str s, b]) = false := by
            unfold marketV
            split
            · rename_i e
              cases e
              have : decide (s = Str.ofString "market") = false := decide_eq_false hs
              simp [this]
            · rfl
          simp [B_is_market, evE, evEs, evO, evOc, evC, evAll, evAny, evAnd, evOr, depAll_nil, get_app, set_app, get_app1, get_map_last, sat_nil, sat_cons, after_nx, after_rt, after_bk, after_ct, brn_true, brn_false, sat_ifs, evFr_disp, evFr_lof, evFr_add, evFr_lzip, exS_asg, exS_par, exS_setix, exS_expr, exS_ret, exS_retN, exS_pass, exS_brk, exS_cont, exS_thr, need, bopSem, blSem, ixSem, setAll, asgT, asgL, trunc, rdD, allV, isiSem, isTy, tyOf, tyFits, nexc, items, lstI, L2.atI, L2.ixN, Res.sat_bind, Res.sat_ite, oneR, Wk.asg, wipe, List.replicate, cmp_ones, cmp_eq_int, cmp_ne_int, cmp_lt_int, cmp_le_int, cmp_gt_int, cmp_ge_int, cmp_eq_rt, cmp_ne_rt, cmp_ne_str, cmp_ne_bl, hs, ev]
      | _ => first | (simp [B_is_market, evE, evEs, evO, evOc, evC, evAll, evAny, evAnd, evOr, depAll_nil, get_app, set_app, get_app1, get_map_last, sat_nil, sat_cons, after_nx, after_rt, after_bk, after_ct, brn_true, brn_false, sat_ifs, evFr_disp, evFr_lof, evFr_add, evFr_lzip, exS_asg, exS_par, exS_setix, exS_expr, exS_ret, exS_retN, exS_pass, exS_brk, exS_cont, exS_thr, need, bopSem, blSem, ixSem, setAll, asgT, asgL, trunc, rdD, allV, isiSem, isTy, tyOf, tyFits, nexc, items, lstI, L2.atI, L2.ixN, Res.sat_bind, Res.sat_ite, oneR, Wk.asg, wipe, List.replicate, cmp_ones, cmp_eq_int, cmp_ne_int, cmp_lt_int, cmp_le_int, cmp_gt_int, cmp_ge_int, cmp_eq_rt, cmp_ne_rt, cmp_ne_str, cmp_ne_bl, marketV]; done) | (simp [D.ok] at va; done)
    · have hl2 : ¬ ((ds.length : Int) = 2) := by omega
      simp [B_is_market, evE, evEs, evO, evOc, evC, evAll, evAny, evAnd, evOr, depAll_nil, get_app, set_app, get_app1, get_map_last, sat_nil, sat_cons, after_nx, after_rt, after_bk, after_ct, brn_true, brn_false, sat_ifs, evFr_disp, evFr_lof, evFr_add, evFr_lzip, exS_asg, exS_par, exS_setix, exS_expr, exS_ret, exS_retN, exS_pass, exS_brk, exS_cont, exS_thr, need, bopSem, blSem, ixSem, setAll, asgT, asgL, trunc, rdD, allV, isiSem, isTy, tyOf, tyFits, nexc, items, lstI, L2.atI, L2.ixN, Res.sat_bind, Res.sat_ite, oneR, Wk.asg, wipe, List.replicate, cmp_ones, cmp_eq_int, cmp_ne_int, cmp_lt_int, cmp_le_int, cmp_gt_int, cmp_ge_int, cmp_eq_rt, cmp_ne_rt, cmp_ne_str, cmp_ne_bl, hl2, marketV_len hl]
  | _ => first | (simp [B_is_market, evE, evEs, evO, evOc, evC, evAll, evAny, evAnd, evOr, depAll_nil, get_app, set_app, get_app1, get_map_last, sat_nil, sat_cons, after_nx, after_rt, after_bk, after_ct, brn_true, brn_false, sat_ifs, evFr_disp, evFr_lof, evFr_add, evFr_lzip, exS_asg, exS_par, exS_setix, exS_expr, exS_ret, exS_retN, exS_pass, exS_brk, exS_cont, exS_thr, need, bopSem, blSem, ixSem, setAll, asgT, asgL, trunc, rdD, allV, isiSem, isTy, tyOf, tyFits, nexc, items, lstI, L2.atI, L2.ixN, Res.sat_bind, Res.sat_ite, oneR, Wk.asg, wipe, List.replicate, cmp_ones, cmp_eq_int, cmp_ne_int, cmp_lt_int, cmp_le_int, cmp_gt_int, cmp_ge_int, cmp_eq_rt, cmp_ne_rt, cmp_ne_str, cmp_ne_bl, marketV]; done) | (simp [D.ok] at hv; done)
theorem sp_law_market {fv fr : Nat} (hf : F f = some (B_law_mk_is_market fv fr)) (hk : G.keep.contains f = false) (hvs : STst (callK G F k) fv valsV) (hrt : STst (callK G F k) fr fun v => (asQ v).isSome) : STst (callK G F (k + 1)) f marketV := by
  intro st v hv
  refine call_eq hf rfl hk ?_
  cases v with
  | tup ds =>
    by_cases hl : ds.length = 2
    · obtain ⟨a, b, rfl⟩ : ∃ a b, ds = [a, b] := by
        match ds, hl with
        | [a, b], _ => exact ⟨a, b, rfl⟩
      simp only [D.ok, D.okAll] at hv
      obtain ⟨va, vb, _⟩ := hv
      cases a with
      | str s =>
        by_cases hs : s = "market"
        · cases b with
          | tup rows =>
            simp only [D.ok] at vb
            simp [B_law_mk_is_market, evE, evEs, evO, evOc, evC, evAll, evAny, evAnd, evOr, depAll_nil, get_app, set_app, get_app1, get_map_last, sat_nil, sat_cons, after_nx, after_rt, after_bk, after_ct, brn_true, brn_false, sat_ifs, evFr_disp, evFr_lof, evFr_add, evFr_lzip, exS_asg, exS_par, exS_setix, exS_expr, exS_ret, exS_retN, exS_pass, exS_brk, exS_cont, exS_thr, need, bopSem, blSem, ixSem, setAll, asgT, asgL, trunc, rdD, allV, isiSem, isTy, tyOf, tyFits, nexc, items, lstI, L2.atI, L2.ixN, Res.sat_bind, Res.sat_ite, oneR, Wk.asg, wipe, List.replicate, cmp_ones, cmp_eq_int, cmp_ne_int, cmp_lt_int, cmp_le_int, cmp_gt_int, cmp_ge_int, cmp_eq_rt, cmp_ne_rt, cmp_ne_str, cmp_ne_bl, hs]
            refine comp_sq rows id (fun x => if !isRow x then some (.v (.int 1)) else none) (x := .tup rows) (st1 := st) (by simp [evE, evEs, evO, evOc, evC, evAll, evAny, evAnd, evOr, depAll_nil, get_app, set_app, get_app1, get_map_last, sat_nil, sat_cons, after_nx, after_rt, after_bk, after_ct, brn_true, brn_false, sat_ifs, evFr_disp, evFr_lof, evFr_add, evFr_lzip, exS_asg, exS_par, exS_setix, exS_expr, exS_ret, exS_retN, exS_pass, exS_brk, exS_cont, exS_thr, need, bopSem, cmpSem, blSem, ixSem, setAll, asgT, asgL, trunc, rdD, allV, isiSem, isTy, tyOf, tyFits, nexc, items, lstI, L2.atI, L2.ixN, Res.sat_bind, Res.sat_ite, oneR, Wk.asg, wipe, List.replicate]) (.inr (by simp)) (fun x hx => ?_) ?_
            · have hx2 := okAll_mem vb x hx
              cases x with
              | tup ds2 => by_cases h2 : ds2.length = 2 <;> simp [evE, evEs, evO, evOc, evC, evAll, evAny, evAnd, evOr, depAll_nil, get_app, set_app, get_app1, get_map_last, sat_nil, sat_cons, after_nx, after_rt, after_bk, after_ct, brn_true, brn_false, sat_ifs, evFr_disp, evFr_lof, evFr_add, evFr_lzip, exS_asg, exS_par, exS_setix, exS_expr, exS_ret, exS_retN, exS_pass, exS_brk, exS_cont, exS_thr, need, bopSem, blSem, ixSem, setAll, asgT, asgL, trunc, rdD, allV, isiSem, isTy, tyOf, tyFits, nexc, items, lstI, L2.atI, L2.ixN, Res.sat_bind, Res.sat_ite, oneR, Wk.asg, wipe, List.replicate, cmp_ones, cmp_eq_int, cmp_ne_int, cmp_lt_int, cmp_le_int, cmp_gt_int, cmp_ge_int, cmp_eq_rt, cmp_ne_rt, cmp_ne_str, cmp_ne_bl, isRow_len, len2, h2]
              | _ => first | (simp [evE, evEs, evO, evOc, evC, evAll, evAny, evAnd, evOr, depAll_nil, get_app, set_app, get_app1, get_map_last, sat_nil, sat_cons, after_nx, after_rt, after_bk, after_ct, brn_true, brn_false, sat_ifs, evFr_disp, evFr_lof, evFr_add, evFr_lzip, exS_asg, exS_par, exS_setix, exS_expr, exS_ret, exS_retN, exS_pass, exS_brk, exS_cont, exS_thr, need, bopSem, blSem, ixSem, setAll, asgT, asgL, trunc, rdD, allV, isiSem, isTy, tyOf, tyFits, nexc, items, lstI, L2.atI, L2.ixN, Res.sat_bind, Res.sat_ite, oneR, Wk.asg, wipe, List.replicate, cmp_ones, cmp_eq_int, cmp_ne_int, cmp_lt_int, cmp_le_int, cmp_gt_int, cmp_ge_int, cmp_eq_rt, cmp_ne_rt, cmp_ne_str, cmp_ne_bl, isRow]; done) | (simp [D.ok] at hx2; done)
            · simp only [onesV, Res.sat_ok, cmp_ones]
              by_cases hr : rows.all isRow = true
              · have hrow : ∀ r ∈ rows, r = .tup [fstV r, sndV r] ∧ (fstV r).ok ∧ (sndV r).ok := fun r h => row_ok (okAll_mem vb r h) (List.all_eq_true.mp hr r h)
                have ha : (rows.any fun x => !isRow x) = false := by
                  rw [List.all_eq_not_any_not] at hr
                  simpa using hr
                simp only [ha]
                simp [evE, evEs, evO, evOc, evC, evAll, evAny, evAnd, evOr, depAll_nil, get_app, set_app, get_app1, get_map_last, sat_nil, sat_cons, after_nx, after_rt, after_bk, after_ct, brn_true, brn_false, sat_ifs, evFr_disp, evFr_lof, evFr_add, evFr_lzip, exS_asg, exS_par, exS_setix, exS_expr, exS_ret, exS_retN, exS_pass, exS_brk, exS_cont, exS_thr, need, bopSem, blSem, ixSem, setAll, asgT, asgL, trunc, rdD, allV, isiSem, isTy, tyOf, tyFits, nexc, items, lstI, L2.atI, L2.ixN, Res.sat_bind, Res.sat_ite, oneR, Wk.asg, wipe, List.replicate, cmp_ones, cmp_eq_int, cmp_ne_int, cmp_lt_int, cmp_le_int, cmp_gt_int, cmp_ge_int, cmp_eq_rt, cmp_ne_rt, cmp_ne_str, cmp_ne_bl]
                refine comp_sq rows id (fun r => some (.v (fstV r))) (x := .tup rows) (st1 := st) (by simp [evE, evEs, evO, evOc, evC, evAll, evAny, evAnd, evOr, depAll_nil, get_app, set_app, get_app1, get_map_last, sat_nil, sat_cons, after_nx, after_rt, after_bk, after_ct, brn_true, brn_false, sat_ifs, evFr_disp, evFr_lof, evFr_add, evFr_lzip, exS_asg, exS_par, exS_setix, exS_expr, exS_ret, exS_retN, exS_pass, exS_brk, exS_cont, exS_thr, need, bopSem, cmpSem, blSem, ixSem, setAll, asgT, asgL, trunc, rdD, allV, isiSem, isTy, tyOf, tyFits, nexc, items, lstI, L2.atI, L2.ixN, Res.sat_bind, Res.sat_ite, oneR, Wk.asg, wipe, List.replicate]) (.inr (by simp)) (fun x hx => ?_) ?_
                · have e2 := (hrow x hx).1
                  generalize fstV x = a at e2 ⊢
                  generalize sndV x = c at e2
                  subst e2
                  simp [evE, evEs, evO, evOc, evC, evAll, evAny, evAnd, evOr, depAll_nil, get_app, set_app, get_app1, get_map_last, sat_nil, sat_cons, after_nx, after_rt, after_bk, after_ct, brn_true, brn_false, sat_ifs, evFr_disp, evFr_lof, evFr_add, evFr_lzip, exS_asg, exS_par, exS_setix, exS_expr, exS_ret, exS_retN, exS_pass, exS_brk, exS_cont, exS_thr, need, bopSem, cmpSem, blSem, ixSem, setAll, asgT, asgL, trunc, rdD, allV, isiSem, isTy, tyOf, tyFits, nexc, items, lstI, L2.atI, L2.ixN, Res.sat_bind, Res.sat_ite, oneR, Wk.asg, wipe, List.replicate]
                · have okf : (D.tup (rows.map fstV)).ok := by
                    simp only [D.ok]
                    refine okAll_of fun y hy => ?_
                    obtain ⟨r, h1, rfl⟩ := List.mem_map.mp hy
                    exact (hrow r h1).2.1
                  have e3 := hvs st (.tup (rows.map fstV)) okf
                  have e4 : allV (rows.filterMap fun r => some (S.v (fstV r))) = some (rows.map fstV) := by
                    rw [filterMap_someF (fun r => S.v (fstV r))]
                    exact allV_mapF fstV rows
                  simp only [e4, Option.map_some, Res.sat_ok, Option.bind_some, e3]
                  by_cases hv2 : valsV (.tup (rows.map fstV)) = true
                  · simp only [hv2]
                    simp [evE, evEs, evO, evOc, evC, evAll, evAny, evAnd, evOr, depAll_nil, get_app, set_app, get_app1, get_map_last, sat_nil, sat_cons, after_nx, after_rt, after_bk, after_ct, brn_true, brn_false, sat_ifs, evFr_disp, evFr_lof, evFr_add, evFr_lzip, exS_asg, exS_par, exS_setix, exS_expr, exS_ret, exS_retN, exS_pass, exS_brk, exS_cont, exS_thr, need, bopSem, blSem, ixSem, setAll, asgT, asgL, trunc, rdD, allV, isiSem, isTy, tyOf, tyFits, nexc, items, lstI, L2.atI, L2.ixN, Res.sat_bind, Res.sat_ite, oneR, Wk.asg, wipe, List.replicate, cmp_ones, cmp_eq_int, cmp_ne_int, cmp_lt_int, cmp_le_int, cmp_gt_int, cmp_ge_int, cmp_eq_rt, cmp_ne_rt, cmp_ne_str, cmp_ne_bl]
                    refine comp_sq rows id (fun r => if !aboveV (sndV r) then some (.v (.int 1)) else none) (x := .tup rows) (st1 := st) (by simp [evE, evEs, evO, evOc, evC, evAll, evAny, evAnd, evOr, depAll_nil, get_app, set_app, get_app1, get_map_last, sat_nil, sat_cons, after_nx, after_rt, after_bk, after_ct, brn_true, brn_false, sat_ifs, evFr_disp, evFr_lof, evFr_add, evFr_lzip, exS_asg, exS_par, exS_setix, exS_expr, exS_ret, exS_retN, exS_pass, exS_brk, exS_cont, exS_thr, need, bopSem, cmpSem, blSem, ixSem, setAll, asgT, asgL, trunc, rdD, allV, isiSem, isTy, tyOf, tyFits, nexc, items, lstI, L2.atI, L2.ixN, Res.sat_bind, Res.sat_ite, oneR, Wk.asg, wipe, List.replicate]) (.inr (by simp)) (fun x hx => ?_) ?_
                    · obtain ⟨e2, _, ok2⟩ := hrow x hx
                      have e5 : callK G F k fr [.v (sndV x)] st = .ok (.v (.bl (asQ (sndV x)).isSome)) st := hrt st _ ok2
                      generalize sndV x = c at e2 e5 ⊢
                      generalize fstV x = a at e2
                      subst e2
                      cases h : asQ c with
                      | none =>
                        rw [h] at e5
                        simp [evE, evEs, evO, evOc, evC, evAll, evAny, evAnd, evOr, depAll_nil, get_app, set_app, get_app1, get_map_last, sat_nil, sat_cons, after_nx, after_rt, after_bk, after_ct, brn_true, brn_false, sat_ifs, evFr_disp, evFr_lof, evFr_add, evFr_lzip, exS_asg, exS_par, exS_setix, exS_expr, exS_ret, exS_retN, exS_pass, exS_brk, exS_cont, exS_thr, need, bopSem, cmpSem, blSem, ixSem, setAll, asgT, asgL, trunc, rdD, allV, isiSem, isTy, tyOf, tyFits, nexc, items, lstI, L2.atI, L2.ixN, Res.sat_bind, Res.sat_ite, oneR, Wk.asg, wipe, List.replicate, e5, aboveV, h]
                      | some q =>
                        rw [h] at e5
                        have := asQ_some h
                        subst this
                        have e1 : rt q = .tup [.int q.num, .int q.den] := rfl
                        have e2 : aboveV (rt q) = decide (0 < q.num) := by
                          unfold aboveV
                          rw [h]
                          simp [num_pos_iff]
                        by_cases hq : 0 < q.num
                        · have hq' : ¬ q.num ≤ 0 := by omega
                          simp only [id, e2, hq]
                          rw [e1] at e5 ⊢
                          simp [evE, evEs, evO, evOc, evC, evAll, evAny, evAnd, evOr, depAll_nil, get_app, set_app, get_app1, get_map_last, sat_nil, sat_cons, after_nx, after_rt, after_bk, after_ct, brn_true, brn_false, sat_ifs, evFr_disp, evFr_lof, evFr_add, evFr_lzip, exS_asg, exS_par, exS_setix, exS_expr, exS_ret, exS_retN, exS_pass, exS_brk, exS_cont, exS_thr, need, bopSem, cmpSem, blSem, ixSem, setAll, asgT, asgL, trunc, rdD, allV, isiSem, isTy, tyOf, tyFits, nexc, items, lstI, L2.atI, L2.ixN, Res.sat_bind, Res.sat_ite, oneR, Wk.asg, wipe, List.replicate, e5, hq']
                        · have hq' : q.num ≤ 0 := by omega
                          simp only [id, e2, hq]
                          rw [e1] at e5 ⊢
                          simp [evE, evEs, evO, evOc, evC, evAll, evAny, evAnd, evOr, depAll_nil, get_app, set_app, get_app1, get_map_last, sat_nil, sat_cons, after_nx, after_rt, after_bk, after_ct, brn_true, brn_false, sat_ifs, evFr_disp, evFr_lof, evFr_add, evFr_lzip, exS_asg, exS_par, exS_setix, exS_expr, exS_ret, exS_retN, exS_pass, exS_brk, exS_cont, exS_thr, need, bopSem, cmpSem, blSem, ixSem, setAll, asgT, asgL, trunc, rdD, allV, isiSem, isTy, tyOf, tyFits, nexc, items, lstI, L2.atI, L2.ixN, Res.sat_bind, Res.sat_ite, oneR, Wk.asg, wipe, List.replicate, e5, hq']
                    · simp only [onesV, Res.sat_ok, cmp_ones_eq]
                      have ev : marketV (.tup [.str (Str.ofString "market"), .tup rows]) = !(rows.any fun r => !aboveV (sndV r)) := by
                        rw [← List.all_eq_not_any_not]
                        simp [marketV, hr, hv2]
                      rw [ev]
                      simp
                  · have ev : marketV (.tup [.str (Str.ofString "market"), .tup rows]) = false := by simp [marketV, hv2]
                    have hv2' : valsV (.tup (rows.map fstV)) = false := by simpa using hv2
                    simp only [hv2']
                    simp [evE, evEs, evO, evOc, evC, evAll, evAny, evAnd, evOr, depAll_nil, get_app, set_app, get_app1, get_map_last, sat_nil, sat_cons, after_nx, after_rt, after_bk, after_ct, brn_true, brn_false, sat_ifs, evFr_disp, evFr_lof, evFr_add, evFr_lzip, exS_asg, exS_par, exS_setix, exS_expr, exS_ret, exS_retN, exS_pass, exS_brk, exS_cont, exS_thr, need, bopSem, blSem, ixSem, setAll, asgT, asgL, trunc, rdD, allV, isiSem, isTy, tyOf, tyFits, nexc, items, lstI, L2.atI, L2.ixN, Res.sat_bind, Res.sat_ite, oneR, Wk.asg, wipe, List.replicate, cmp_ones, cmp_eq_int, cmp_ne_int, cmp_lt_int, cmp_le_int, cmp_gt_int, cmp_ge_int, cmp_eq_rt, cmp_ne_rt, cmp_ne_str, cmp_ne_bl, ev]
              · have ev : marketV (.tup [.str (Str.ofString "market"), .tup rows]) = false := by simp [marketV, hr]
                have ha : (rows.any fun x => !isRow x) = true := by
                  rw [List.all_eq_not_any_not] at hr
                  simpa using hr
                simp only [ha]
                simp [evE, evEs, evO, evOc, evC, evAll, evAny, evAnd, evOr, depAll_nil, get_app, set_app, get_app1, get_map_last, sat_nil, sat_cons, after_nx, after_rt, after_bk, after_ct, brn_true, brn_false, sat_ifs, evFr_disp, evFr_lof, evFr_add, evFr_lzip, exS_asg, exS_par, exS_setix, exS_expr, exS_ret, exS_retN, exS_pass, exS_brk, exS_cont, exS_thr, need, bopSem, blSem, ixSem, setAll, asgT, asgL, trunc, rdD, allV, isiSem, isTy, tyOf, tyFits, nexc, items, lstI, L2.atI, L2.ixN, Res.sat_bind, Res.sat_ite, oneR, Wk.asg, wipe, List.replicate, cmp_ones, cmp_eq_int, cmp_ne_int, cmp_lt_int, cmp_le_int, cmp_gt_int, cmp_ge_int, cmp_eq_rt, cmp_ne_rt, cmp_ne_str, cmp_ne_bl, ev]
          | _ => first | (simp [B_law_mk_is_market, evE, evEs, evO, evOc, evC, evAll, evAny, evAnd, evOr, depAll_nil, get_app, set_app, get_app1, get_map_last, sat_nil, sat_cons, after_nx, after_rt, after_bk, after_ct, brn_true, brn_false, sat_ifs, evFr_disp, evFr_lof, evFr_add, evFr_lzip, exS_asg, exS_par, exS_setix, exS_expr, exS_ret, exS_retN, exS_pass, exS_brk, exS_cont, exS_thr, need, bopSem, blSem, ixSem, setAll, asgT, asgL, trunc, rdD, allV, isiSem, isTy, tyOf, tyFits, nexc, items, lstI, L2.atI, L2.ixN, Res.sat_bind, Res.sat_ite, oneR, Wk.asg, wipe, List.replicate, cmp_ones, cmp_eq_int, cmp_ne_int, cmp_lt_int, cmp_le_int, cmp_gt_int, cmp_ge_int, cmp_eq_rt, cmp_ne_rt, cmp_ne_str, cmp_ne_bl, marketV, hs]; done) | (simp [D.ok] at vb; done)
        · have ev : marketV (.tup [.str s, b]) = false := by
            unfold marketV
            split
            · rename_i e
              cases e
              have : decide (s = Str.ofString "market") = false := decide_eq_false hs
              simp [this]
            · rfl
          simp [B_law_mk_is_market, evE, evEs, evO, evOc, evC, evAll, evAny, evAnd, evOr, depAll_nil, get_app, set_app, get_app1, get_map_last, sat_nil, sat_cons, after_nx, after_rt, after_bk, after_ct, brn_true, brn_false, sat_ifs, evFr_disp, evFr_lof, evFr_add, evFr_lzip, exS_asg, exS_par, exS_setix, exS_expr, exS_ret, exS_retN, exS_pass, exS_brk, exS_cont, exS_thr, need, bopSem, blSem, ixSem, setAll, asgT, asgL, trunc, rdD, allV, isiSem, isTy, tyOf, tyFits, nexc, items, lstI, L2.atI, L2.ixN, Res.sat_bind, Res.sat_ite, oneR, Wk.asg, wipe, List.replicate, cmp_ones, cmp_eq_int, cmp_ne_int, cmp_lt_int, cmp_le_int, cmp_gt_int, cmp_ge_int, cmp_eq_rt, cmp_ne_rt, cmp_ne_str, cmp_ne_bl, hs, ev]
      | _ => first | (simp [B_law_mk_is_market, evE, evEs, evO, evOc, evC, evAll, evAny, evAnd, evOr, depAll_nil, get_app, set_app, get_app1, get_map_last, sat_nil, sat_cons, after_nx, after_rt, after_bk, after_ct, brn_true, brn_false, sat_ifs, evFr_disp, evFr_lof, evFr_add, evFr_lzip, exS_asg, exS_par, exS_setix, exS_expr, exS_ret, exS_retN, exS_pass, exS_brk, exS_cont, exS_thr, need, bopSem, blSem, ixSem, setAll, asgT, asgL, trunc, rdD, allV, isiSem, isTy, tyOf, tyFits, nexc, items, lstI, L2.atI, L2.ixN, Res.sat_bind, Res.sat_ite, oneR, Wk.asg, wipe, List.replicate, cmp_ones, cmp_eq_int, cmp_ne_int, cmp_lt_int, cmp_le_int, cmp_gt_int, cmp_ge_int, cmp_eq_rt, cmp_ne_rt, cmp_ne_str, cmp_ne_bl, marketV]; done) | (simp [D.ok] at va; done)
    · have hl2 : ¬ ((ds.length : Int) = 2) := by omega
      simp [B_law_mk_is_market, evE, evEs, evO, evOc, evC, evAll, evAny, evAnd, evOr, depAll_nil, get_app, set_app, get_app1, get_map_last, sat_nil, sat_cons, after_nx, after_rt, after_bk, after_ct, brn_true, brn_false, sat_ifs, evFr_disp, evFr_lof, evFr_add, evFr_lzip, exS_asg, exS_par, exS_setix, exS_expr, exS_ret, exS_retN, exS_pass, exS_brk, exS_cont, exS_thr, need, bopSem, blSem, ixSem, setAll, asgT, asgL, trunc, rdD, allV, isiSem, isTy, tyOf, tyFits, nexc, items, lstI, L2.atI, L2.ixN, Res.sat_bind, Res.sat_ite, oneR, Wk.asg, wipe, List.replicate, cmp_ones, cmp_eq_int, cmp_ne_int, cmp_lt_int, cmp_le_int, cmp_gt_int, cmp_ge_int, cmp_eq_rt, cmp_ne_rt, cmp_ne_str, cmp_ne_bl, hl2, marketV_len hl]
  | _ => first | (simp [B_law_mk_is_market, evE, evEs, evO, evOc, evC, evAll, evAny, evAnd, evOr, depAll_nil, get_app, set_app, get_app1, get_map_last, sat_nil, sat_cons, after_nx, after_rt, after_bk, after_ct, brn_true, brn_false, sat_ifs, evFr_disp, evFr_lof, evFr_add, evFr_lzip, exS_asg, exS_par, exS_setix, exS_expr, exS_ret, exS_retN, exS_pass, exS_brk, exS_cont, exS_thr, need, bopSem, blSem, ixSem, setAll, asgT, asgL, trunc, rdD, allV, isiSem, isTy, tyOf, tyFits, nexc, items, lstI, L2.atI, L2.ixN, Res.sat_bind, Res.sat_ite, oneR, Wk.asg, wipe, List.replicate, cmp_ones, cmp_eq_int, cmp_ne_int, cmp_lt_int, cmp_le_int, cmp_gt_int, cmp_ge_int, cmp_eq_rt, cmp_ne_rt, cmp_ne_str, cmp_ne_bl, marketV]; done) | (simp [D.ok] at hv; done)
def SNeed (C : Nat → List S → Store → Res S) (f : Nat) (p : D → Bool) (ci : Nat) : Prop := ∀ (st : Store) (v : D), v.ok → C f [.v v] st = if p v then .ok (.v .non) st else .ex ci [] [] st
theorem call_ex {d : Fd} {xs : List S} {st : Store} {ci : Nat} {fs : List Str} {vs : List D} (h : F f = some d) (hl : xs.length = d.np) (hs : exSs G (callK G F k) d.body (xs.map some ++ List.replicate (d.nn - d.np) none) st = .ex ci fs vs st) : callK G F (k + 1) f xs st = .ex ci fs vs st := by
  rw [callK_at h hl, hs]
  simp [retOf, trunc]
theorem sp_need {fm ci : Nat} {w : Str} {p : D → Bool} {nn : Nat} (hf : F f = some ⟨1, 1, (.cons (.ite (.not (.val (.call fm (.cons (.var 0) .nil)))) (.cons (.thr ci none (.cons (.cstr w) .nil)) .nil) .nil) .nil)⟩) (hk : G.keep.contains f = false) (hm : STst (callK G F k) fm p) : SNeed (callK G F (k + 1)) f p ci := by
  intro st v hv
  have e := hm st v hv
  cases h : p v with
  | true =>
    rw [if_pos rfl]
    refine call_eq hf rfl hk ?_
    rw [h] at e
    simp [evE, evEs, evO, evOc, evC, evAll, evAny, evAnd, evOr, depAll_nil, get_app, set_app, get_app1, get_map_last, sat_nil, sat_cons, after_nx, after_rt, after_bk, after_ct, brn_true, brn_false, sat_ifs, evFr_disp, evFr_lof, evFr_add, evFr_lzip, exS_asg, exS_par, exS_setix, exS_expr, exS_ret, exS_retN, exS_pass, exS_brk, exS_cont, exS_thr, need, bopSem, blSem, ixSem, setAll, asgT, asgL, trunc, rdD, allV, isiSem, isTy, tyOf, tyFits, nexc, items, lstI, L2.atI, L2.ixN, Res.sat_bind, Res.sat_ite, oneR, Wk.asg, wipe, List.replicate, cmp_ones, cmp_eq_int, cmp_ne_int, cmp_lt_int, cmp_le_int, cmp_gt_int, cmp_ge_int, cmp_eq_rt, cmp_ne_rt, cmp_ne_str, cmp_ne_bl, e]
  | false =>
    rw [if_neg Bool.false_ne_true]
    rw [h] at e
    refine call_ex hf rfl ?_
    simp [exSs, exS, evC, evE, evEs, e]
end
end Sw

set_option linter.all false
set_option maxRecDepth 100000
set_option maxHeartbeats 2000000
namespace Sw
open PySem
abbrev Row := Rat × Rat
def atLeast (p : Rat) (r : Row) : Bool := !decide (r.1 < p)
def dem (rs : List Row) (p : Rat) : Rat := rsum ((rs.filter (atLeast p)).map (·.2))
def rev (rs : List Row) (p : Rat) : Rat := p * dem rs p
def buy (rs : List Row) (p : Rat) : Rat := rsum ((rs.filter (atLeast p)).map fun r => r.2 * (r.1 - p))
def whl (rs : List Row) : Rat := rsum (rs.map fun r => r.2 * r.1)
def mass (rs : List Row) : Rat := rsum (rs.map (·.2))
def gr (a x : Rat) : Rat := if a < x then x else a
def gmax (a : Rat) (xs : List Rat) : Rat := xs.foldl gr a
theorem gmax_ge : ∀ (xs : List Rat) (a : Rat), a ≤ gmax a xs ∧ ∀ x ∈ xs, x ≤ gmax a xs
  | [], a => ⟨Rat.le_refl, fun x h => nomatch h⟩
  | y :: ys, a => by
    obtain ⟨h1, h2⟩ := gmax_ge ys (gr a y)
    have e : gmax a (y :: ys) = gmax (gr a y) ys := rfl
    rw [e]
    have ha : a ≤ gr a y := by unfold gr; split <;> grind
    have hy : y ≤ gr a y := by unfold gr; split <;> grind
    refine ⟨Rat.le_trans ha h1, fun x hx => ?_⟩
    rcases List.mem_cons.mp hx with rfl | hx
    · exact Rat.le_trans hy h1
    · exact h2 x hx
theorem gmax_mem : ∀ (xs : List Rat) (a : Rat), gmax a xs = a ∨ gmax a xs ∈ xs
  | [], a => .inl rfl
  | y :: ys, a => by
    have e : gmax a (y :: ys) = gmax (gr a y) ys := rfl
    rw [e]
    rcases gmax_mem ys (gr a y) with h | h
    · rw [h]
      unfold gr
      split
      · exact .inr List.mem_cons_self
      · exact .inl rfl
    · exact .inr (List.mem_cons_of_mem _ h)
structure Mk (rs : List Row) : Prop where
  ne : 1 ≤ rs.length
  le : rs.length ≤ 6
  up : rs.Pairwise fun a b => a.1 < b.1
  v0 : ∀ r ∈ rs, 0 < r.1
  m0 : ∀ r ∈ rs, 0 < r.2
  vb : ∀ r ∈ rs, Rb 20 r.1
  mb : ∀ r ∈ rs, Rb 100 r.2
theorem rsum_nil : rsum [] = 0 := rfl
theorem foldl_add (xs : List Rat) : ∀ a : Rat, xs.foldl (· + ·) a = a + rsum xs := by
  induction xs with
  | nil => intro a; unfold rsum; simp only [List.foldl_nil]; grind
  | cons x xs ih =>
    intro a
    unfold rsum
    simp only [List.foldl_cons]
    rw [ih, ih (0 + x)]
    grind
theorem rsum_cons (x : Rat) (xs : List Rat) : rsum (x :: xs) = x + rsum xs := by
  unfold rsum
  simp only [List.foldl_cons]
  rw [foldl_add]
  unfold rsum
  grind
theorem rsum_nn : ∀ xs : List Rat, (∀ x ∈ xs, 0 < x) → 0 ≤ rsum xs
  | [], _ => Rat.le_refl
  | x :: xs, h => by
    rw [rsum_cons]
    have := rsum_nn xs fun y hy => h y (List.mem_cons_of_mem _ hy)
    have := h x List.mem_cons_self
    grind
theorem rsum_pos {xs : List Rat} (h : ∀ x ∈ xs, 0 < x) (ne : xs ≠ []) : 0 < rsum xs := by
  cases xs with
  | nil => exact absurd rfl ne
  | cons x xs =>
    rw [rsum_cons]
    have := rsum_nn xs fun y hy => h y (List.mem_cons_of_mem _ hy)
    have := h x List.mem_cons_self
    grind
theorem rb0 : Rb 1 0 := ⟨by decide, by decide⟩
theorem fold_rb {b : Nat} : ∀ (xs : List Rat) (m : Nat) (a : Rat), Rb m a → (∀ x ∈ xs, Rb b x) → Rb (m + (b + 1) * xs.length) (xs.foldl (· + ·) a)
  | [], m, a, ha, _ => by simpa using ha
  | x :: xs, m, a, ha, h => by
    have h1 := fold_rb xs (m + b + 1) (a + x) (ha.add (h x List.mem_cons_self)) fun y hy => h y (List.mem_cons_of_mem _ hy)
    refine h1.mono ?_
    rw [List.length_cons, Nat.mul_add]
    omega
theorem rsum_rb {b : Nat} (xs : List Rat) (h : ∀ x ∈ xs, Rb b x) : Rb ((b + 1) * xs.length + 1) (rsum xs) := (fold_rb xs 1 0 rb0 h).mono (by omega)
theorem Rbs.of {b : Nat} {xs : List Rat} (h : ∀ x ∈ xs, Rb b x) (hl : xs.length ≤ 6) (hb : (b + 1) * 6 + 1 ≤ 3000) : Rbs xs := by
  refine ⟨fun x hx => (h x hx).mono (by omega), fun n => ?_⟩
  refine (rsum_rb (xs.take n) fun x hx => h x (List.mem_of_mem_take hx)).mono ?_
  have h1 : (xs.take n).length ≤ 6 := by rw [List.length_take]; omega
  have := Nat.mul_le_mul_left (b + 1) h1
  omega
section
variable {rs : List Row}
theorem dem_rb {p : Rat} (M : Mk rs) : Rb 607 (dem rs p) := by
  refine (rsum_rb (b := 100) _ fun x hx => ?_).mono ?_
  · obtain ⟨r, hr, rfl⟩ := List.mem_map.mp hx
    exact M.mb r (List.mem_filter.mp hr).1
  · have h1 : (rs.filter (atLeast p)).length ≤ 6 := Nat.le_trans (List.length_filter_le _ _) M.le
    rw [List.length_map]
    have := Nat.mul_le_mul_left (100 + 1) h1
    omega
theorem rev_rb {p : Rat} (M : Mk rs) (hp : Rb 60 p) : Rb 667 (rev rs p) := (hp.mul (dem_rb M)).mono (by decide)
theorem dem_pos {p : Rat} (M : Mk rs) (h : rs.filter (atLeast p) ≠ []) : 0 < dem rs p := by
  refine rsum_pos (fun x hx => ?_) fun e => h (List.map_eq_nil_iff.mp e)
  obtain ⟨r, hr, rfl⟩ := List.mem_map.mp hx
  exact M.m0 r (List.mem_filter.mp hr).1
theorem mem_atLeast {r : Row} (hr : r ∈ rs) : rs.filter (atLeast r.1) ≠ [] := fun e => by
  have : r ∈ rs.filter (atLeast r.1) := List.mem_filter.mpr ⟨hr, by unfold atLeast; simp [Rat.lt_irrefl]⟩
  rw [e] at this
  cases this
theorem rev_pos (M : Mk rs) {r : Row} (hr : r ∈ rs) : 0 < rev rs r.1 := Rat.mul_pos (M.v0 r hr) (dem_pos M (mem_atLeast hr))
def revs (rs : List Row) : List Rat := rs.map fun r => rev rs r.1
def hi (rs : List Row) : Rat := gmax 0 (revs rs)
theorem hi_ge {r : Row} (hr : r ∈ rs) : rev rs r.1 ≤ hi rs := (gmax_ge (revs rs) 0).2 _ (List.mem_map.mpr ⟨r, hr, rfl⟩)
theorem hi_pos (M : Mk rs) : 0 < hi rs := by
  cases rs with
  | nil => exact absurd M.ne (by simp)
  | cons r rs =>
    have h1 := rev_pos M (r := r) List.mem_cons_self
    have h2 := hi_ge (rs := r :: rs) (r := r) List.mem_cons_self
    grind
theorem hi_mem (M : Mk rs) : ∃ r ∈ rs, rev rs r.1 = hi rs := by
  rcases gmax_mem (revs rs) 0 with h | h
  · have := hi_pos M
    unfold hi at this
    rw [h] at this
    exact absurd this (Rat.lt_irrefl)
  · obtain ⟨r, hr, e⟩ := List.mem_map.mp h
    exact ⟨r, hr, e⟩
theorem hi_tail (M : Mk rs) {x : Rat} {xs : List Rat} (e : revs rs = x :: xs) : gmax x xs = hi rs := by
  have : 0 < x := by
    have hx : x ∈ revs rs := by rw [e]; exact List.mem_cons_self
    obtain ⟨r, hr, rfl⟩ := List.mem_map.mp hx
    exact rev_pos M hr
  unfold hi
  rw [e]
  show gmax x xs = gmax (gr 0 x) xs
  unfold gr
  rw [if_pos this]
theorem dem_step {p : Rat} {r : Row} {A : List Row} (M : Mk rs) (e : rs.filter (atLeast p) = r :: A) : dem rs p = dem rs r.1 ∧ r ∈ rs ∧ p ≤ r.1 := by
  have hr : r ∈ rs ∧ atLeast p r = true := List.mem_filter.mp (by rw [e]; exact List.mem_cons_self)
  have hp : p ≤ r.1 := by
    have := hr.2
    unfold atLeast at this
    simp at this
    exact Rat.not_lt.mp this
  refine ⟨?_, hr.1, hp⟩
  have hs : (rs.filter (atLeast p)).Pairwise fun a b => a.1 < b.1 := List.Pairwise.filter _ M.up
  rw [e, List.pairwise_cons] at hs
  have : rs.filter (atLeast p) = rs.filter (atLeast r.1) := by
    refine List.filter_congr fun x hx => ?_
    unfold atLeast
    by_cases h : x.1 < p
    · have : x.1 < r.1 := by grind
      simp [h, this]
    · have : ¬ x.1 < r.1 := fun h2 => by
        have hm : x ∈ rs.filter (atLeast p) := List.mem_filter.mpr ⟨hx, by unfold atLeast; simp [h]⟩
        rw [e] at hm
        rcases List.mem_cons.mp hm with q | q
        · rw [q] at h2; exact Rat.lt_irrefl h2
        · have := hs.1 x q
          grind
      simp [h, this]
  unfold dem
  rw [this]
theorem heart (M : Mk rs) {p : Rat} (hp : 0 < p) : rev rs p ≤ hi rs ∧ (rev rs p = hi rs → ∃ r ∈ rs, rev rs r.1 = hi rs ∧ p = r.1) := by
  cases e : rs.filter (atLeast p) with
  | nil =>
    have h0 : rev rs p = 0 := by
      unfold rev dem
      rw [e]
      show p * rsum [] = 0
      rw [rsum_nil]
      grind
    have := hi_pos M
    rw [h0]
    refine ⟨by grind, fun h => ?_⟩
    rw [← h] at this
    exact absurd this Rat.lt_irrefl
  | cons r A =>
    obtain ⟨h1, h2, h3⟩ := dem_step M e
    have hd : 0 < dem rs r.1 := dem_pos M (mem_atLeast h2)
    have hge := hi_ge h2
    by_cases hpr : p = r.1
    · rw [hpr]
      exact ⟨hge, fun h => ⟨r, h2, h, rfl⟩⟩
    · have hlt : p < r.1 := by
        rcases Classical.em (p < r.1) with h | h
        · exact h
        · exact absurd (Rat.le_antisymm h3 (Rat.not_lt.mp h)) hpr
      have : p * dem rs r.1 < r.1 * dem rs r.1 := Rat.mul_lt_mul_of_pos_right hlt hd
      have e2 : rev rs p = p * dem rs r.1 := by unfold rev; rw [h1]
      have e3 : rev rs r.1 = r.1 * dem rs r.1 := rfl
      rw [e2]
      refine ⟨by grind, fun h => ?_⟩
      rw [h] at this
      grind
end
end Sw

set_option linter.all false
set_option maxRecDepth 100000
set_option maxHeartbeats 4000000
namespace Sw
open PySem
def B_mass_in (c_total : Nat) : Fd := ⟨1, 3, (.cons (.ret (.call c_total (.cons (.fr (.comp (.var 2) (.cons (.one 1) (.cons (.one 2) .nil)) [1, 2] (.sq (.var 0)) .no)) .nil))) .nil)⟩
def B_demand_in (c_total : Nat) (c_is_less : Nat) : Fd := ⟨2, 4, (.cons (.ret (.call c_total (.cons (.fr (.comp (.var 3) (.cons (.one 2) (.cons (.one 3) .nil)) [2, 3] (.sq (.var 0)) (.yes (.not (.val (.call c_is_less (.cons (.var 2) (.cons (.var 1) .nil)))))))) .nil))) .nil)⟩
def B_revenue_in (c_times : Nat) (c_demand_in : Nat) : Fd := ⟨2, 2, (.cons (.ret (.call c_times (.cons (.var 1) (.cons (.call c_demand_in (.cons (.var 0) (.cons (.var 1) .nil))) .nil)))) .nil)⟩
def B_buyers_in (c_total : Nat) (c_times : Nat) (c_minus : Nat) (c_is_less : Nat) : Fd := ⟨2, 4, (.cons (.ret (.call c_total (.cons (.fr (.comp (.call c_times (.cons (.var 3) (.cons (.call c_minus (.cons (.var 2) (.cons (.var 1) .nil))) .nil))) (.cons (.one 2) (.cons (.one 3) .nil)) [2, 3] (.sq (.var 0)) (.yes (.not (.val (.call c_is_less (.cons (.var 2) (.cons (.var 1) .nil)))))))) .nil))) .nil)⟩
def B_whole_in (c_total : Nat) (c_times : Nat) : Fd := ⟨1, 3, (.cons (.ret (.call c_total (.cons (.fr (.comp (.call c_times (.cons (.var 2) (.cons (.var 1) .nil))) (.cons (.one 1) (.cons (.one 2) .nil)) [1, 2] (.sq (.var 0)) .no)) .nil))) .nil)⟩
def B_best_in (c_revenue_in : Nat) (c_greatest_of : Nat) : Fd := ⟨1, 7, (.cons (.asg (.one 1) (.fr (.comp (.call c_revenue_in (.cons (.var 0) (.cons (.var 3) .nil))) (.cons (.one 3) (.cons (.one 4) .nil)) [3, 4] (.sq (.var 0)) .no))) (.cons (.asg (.one 2) (.call c_greatest_of (.cons (.var 1) .nil))) (.cons (.ret (.bl .tuple (.cons (.fr (.comp (.ix (.var 5) (.cint (0))) (.cons (.one 5) (.cons (.one 6) .nil)) [5, 6] (.zip (.var 0) (.var 1)) (.yes (.cmp .eq (.var 6) (.var 2))))) .nil))) .nil)))⟩
def B_mass_of (c_need_market : Nat) (c_mass_in : Nat) : Fd := ⟨1, 1, (.cons (.expr (.call c_need_market (.cons (.var 0) .nil))) (.cons (.ret (.call c_mass_in (.cons (.ix (.var 0) (.cint (1))) .nil))) .nil))⟩
def B_demand (c_need_market : Nat) (c_need_price : Nat) (c_demand_in : Nat) : Fd := ⟨2, 2, (.cons (.expr (.call c_need_market (.cons (.var 0) .nil))) (.cons (.expr (.call c_need_price (.cons (.var 1) .nil))) (.cons (.ret (.call c_demand_in (.cons (.ix (.var 0) (.cint (1))) (.cons (.var 1) .nil)))) .nil)))⟩
def B_revenue (c_need_market : Nat) (c_need_price : Nat) (c_revenue_in : Nat) : Fd := ⟨2, 2, (.cons (.expr (.call c_need_market (.cons (.var 0) .nil))) (.cons (.expr (.call c_need_price (.cons (.var 1) .nil))) (.cons (.ret (.call c_revenue_in (.cons (.ix (.var 0) (.cint (1))) (.cons (.var 1) .nil)))) .nil)))⟩
def B_buyers_gain (c_need_market : Nat) (c_need_price : Nat) (c_buyers_in : Nat) : Fd := ⟨2, 2, (.cons (.expr (.call c_need_market (.cons (.var 0) .nil))) (.cons (.expr (.call c_need_price (.cons (.var 1) .nil))) (.cons (.ret (.call c_buyers_in (.cons (.ix (.var 0) (.cint (1))) (.cons (.var 1) .nil)))) .nil)))⟩
def B_whole (c_need_market : Nat) (c_whole_in : Nat) : Fd := ⟨1, 1, (.cons (.expr (.call c_need_market (.cons (.var 0) .nil))) (.cons (.ret (.call c_whole_in (.cons (.ix (.var 0) (.cint (1))) .nil))) .nil))⟩
def B_best_prices (c_need_market : Nat) (c_best_in : Nat) : Fd := ⟨1, 1, (.cons (.expr (.call c_need_market (.cons (.var 0) .nil))) (.cons (.ret (.call c_best_in (.cons (.ix (.var 0) (.cint (1))) .nil))) .nil))⟩
def B_one_revenue (c_revenue_in : Nat) (c_best_in : Nat) : Fd := ⟨1, 1, (.cons (.ret (.call c_revenue_in (.cons (.var 0) (.cons (.ix (.call c_best_in (.cons (.var 0) .nil)) (.cint (0))) .nil)))) .nil)⟩
def B_one_price (c_need_market : Nat) (c_one_revenue : Nat) : Fd := ⟨1, 1, (.cons (.expr (.call c_need_market (.cons (.var 0) .nil))) (.cons (.ret (.call c_one_revenue (.cons (.ix (.var 0) (.cint (1))) .nil))) .nil))⟩
def B_law_mk_demand (c_law_sum : Nat) (c_law_less : Nat) : Fd := ⟨2, 4, (.cons (.ret (.call c_law_sum (.cons (.fr (.comp (.var 3) (.cons (.one 2) (.cons (.one 3) .nil)) [2, 3] (.sq (.var 0)) (.yes (.not (.val (.call c_law_less (.cons (.var 2) (.cons (.var 1) .nil)))))))) .nil))) .nil)⟩
def B_law_mk_revenue (c_law_times : Nat) (c_law_mk_demand : Nat) : Fd := ⟨2, 2, (.cons (.ret (.call c_law_times (.cons (.var 1) (.cons (.call c_law_mk_demand (.cons (.var 0) (.cons (.var 1) .nil))) .nil)))) .nil)⟩
def B_law_mk_buyers (c_law_sum : Nat) (c_law_times : Nat) (c_law_minus : Nat) (c_law_less : Nat) : Fd := ⟨2, 4, (.cons (.ret (.call c_law_sum (.cons (.fr (.comp (.call c_law_times (.cons (.var 3) (.cons (.call c_law_minus (.cons (.var 2) (.cons (.var 1) .nil))) .nil))) (.cons (.one 2) (.cons (.one 3) .nil)) [2, 3] (.sq (.var 0)) (.yes (.not (.val (.call c_law_less (.cons (.var 2) (.cons (.var 1) .nil)))))))) .nil))) .nil)⟩
def B_law_mk_whole (c_law_sum : Nat) (c_law_times : Nat) : Fd := ⟨1, 3, (.cons (.ret (.call c_law_sum (.cons (.fr (.comp (.call c_law_times (.cons (.var 2) (.cons (.var 1) .nil))) (.cons (.one 1) (.cons (.one 2) .nil)) [1, 2] (.sq (.var 0)) .no)) .nil))) .nil)⟩
def B_law_mk_best (c_law_mk_revenue : Nat) (c_law_less : Nat) : Fd := ⟨1, 5, (.cons (.asg (.one 1) (.tup (.cons (.cint (0)) (.cons (.cint (1)) .nil)))) (.cons (.for_ (.cons (.one 2) (.cons (.one 3) .nil)) (.sq (.var 0)) (.cons (.asg (.one 4) (.call c_law_mk_revenue (.cons (.var 0) (.cons (.var 2) .nil)))) (.cons (.asg (.one 1) (.ife (.val (.call c_law_less (.cons (.var 1) (.cons (.var 4) .nil)))) (.var 4) (.var 1))) .nil))) (.cons (.ret (.tup (.cons (.bl .tuple (.cons (.fr (.comp (.var 2) (.cons (.one 2) (.cons (.one 3) .nil)) [2, 3] (.sq (.var 0)) (.yes (.cmp .eq (.call c_law_mk_revenue (.cons (.var 0) (.cons (.var 2) .nil))) (.var 1))))) .nil)) (.cons (.var 1) .nil)))) .nil)))⟩
def B_law_mk_rising (c_law_less : Nat) : Fd := ⟨1, 5, (.cons (.par [1, 2] (.cons (.fr (.lof (.var 0))) (.cons (.fr (.disp .nil)) .nil))) (.cons (.whl (.cmp .ne (.var 1) (.fr (.disp .nil))) (.cons (.asg (.one 3) (.ix (.var 1) (.cint (0)))) (.cons (.for_ (.one 4) (.sq (.var 1)) (.cons (.asg (.one 3) (.ife (.val (.call c_law_less (.cons (.var 4) (.cons (.var 3) .nil)))) (.var 4) (.var 3))) .nil)) (.cons (.par [2, 1] (.cons (.bop .add (.var 2) (.fr (.disp (.cons (.var 3) .nil)))) (.cons (.fr (.comp (.var 4) (.one 4) [4] (.sq (.var 1)) (.yes (.cmp .ne (.var 4) (.var 3))))) .nil))) .nil)))) (.cons (.ret (.var 2)) .nil)))⟩
def B_law_mk_even (c_law_over : Nat) (c_law_times : Nat) (c_law_minus : Nat) : Fd := ⟨2, 6, (.cons (.asg (.one 2) (.al (.disp .nil))) (.cons (.for_ (.one 3) (.rng (.bl .len (.cons (.var 0) .nil))) (.cons (.asg (.one 4) (.call c_law_over (.cons (.ix (.var 0) (.cint (0))) (.cons (.ix (.var 0) (.var 3)) .nil)))) (.cons (.asg (.one 5) (.ife (.cmp .lt (.bop .add (.var 3) (.cint (1))) (.bl .len (.cons (.var 0) .nil))) (.call c_law_over (.cons (.ix (.var 0) (.cint (0))) (.cons (.ix (.var 0) (.bop .add (.var 3) (.cint (1)))) .nil))) (.tup (.cons (.cint (0)) (.cons (.cint (1)) .nil))))) (.cons (.expr (.mth .append (.var 2) (.cons (.tup (.cons (.ix (.var 0) (.var 3)) (.cons (.call c_law_times (.cons (.var 1) (.cons (.call c_law_minus (.cons (.var 4) (.cons (.var 5) .nil))) .nil))) .nil))) .nil))) .nil)))) (.cons (.ret (.bl .tuple (.cons (.var 2) .nil))) .nil)))⟩
def B_law_mk_market (c_law_pick : Nat) (c_law_draw : Nat) (c_law_q : Nat) (c_law_mk_rising : Nat) (c_law_mk_even : Nat) (c_law_plus : Nat) : Fd := ⟨2, 10, (.cons (.par [5, 6] (.cons (.call c_law_pick (.cons (.var 0) (.cons (.fr (.disp (.cons (.cint (3)) (.cons (.cint (9)) (.cons (.cint (40)) (.cons (.bop .pow (.cint (10)) (.cint (6))) .nil)))))) .nil))) (.cons (.call c_law_draw (.cons (.var 0) (.cons (.cint (4)) .nil))) .nil))) (.cons (.asg (.one 2) (.fr (.disp .nil))) (.cons (.for_ (.one 3) (.rng (.bop .add (.cint (1)) (.call c_law_draw (.cons (.var 0) (.cons (.var 1) .nil))))) (.cons (.asg (.one 7) (.call c_law_q (.cons (.bop .add (.cint (1)) (.call c_law_draw (.cons (.var 0) (.cons (.var 5) .nil)))) (.cons (.bop .add (.cint (1)) (.call c_law_draw (.cons (.var 0) (.cons (.call c_law_pick (.cons (.var 0) (.cons (.fr (.disp (.cons (.cint (1)) (.cons (.cint (1)) (.cons (.cint (3)) .nil))))) .nil))) .nil)))) .nil)))) (.cons (.asg (.one 2) (.bop .add (.var 2) (.ife (.cmp .nin (.var 7) (.var 2)) (.fr (.disp (.cons (.var 7) .nil))) (.fr (.disp .nil))))) .nil))) (.cons (.asg (.one 2) (.call c_law_mk_rising (.cons (.var 2) .nil))) (.cons (.asg (.one 4) (.fr (.comp (.call c_law_q (.cons (.bop .add (.cint (1)) (.call c_law_draw (.cons (.var 0) (.cons (.cint (9)) .nil)))) (.cons (.bop .add (.cint (1)) (.call c_law_draw (.cons (.var 0) (.cons (.call c_law_pick (.cons (.var 0) (.cons (.fr (.disp (.cons (.cint (1)) (.cons (.cint (4)) .nil)))) .nil))) .nil)))) .nil))) (.one 7) [7] (.sq (.var 2)) .no))) (.cons (.ite (.cmp .eq (.var 6) (.cint (0))) (.cons (.asg (.one 4) (.fr (.comp (.ix (.var 8) (.cint (1))) (.one 8) [8] (.sq (.call c_law_mk_even (.cons (.var 2) (.cons (.ix (.var 4) (.cint (0))) .nil)))) .no))) .nil) .nil) (.cons (.ite (.cmp .eq (.var 6) (.cint (1))) (.cons (.asg (.one 4) (.fr (.comp (.call c_law_plus (.cons (.var 9) (.cons (.ix (.var 8) (.cint (1))) .nil))) (.cons (.one 9) (.cons (.one 8) .nil)) [9, 8] (.zip (.var 4) (.call c_law_mk_even (.cons (.var 2) (.cons (.tup (.cons (.cint (3)) (.cons (.cint (1)) .nil))) .nil)))) .no))) .nil) .nil) (.cons (.ret (.tup (.cons (.cstr "market") (.cons (.bl .tuple (.cons (.fr (.lzip (.var 2) (.var 4))) .nil)) .nil)))) .nil))))))))⟩

def rowD (r : Row) : D := .tup [rt r.1, rt r.2]
def rowsD (rs : List Row) : D := .tup (rs.map rowD)
def mkt (rs : List Row) : D := .tup [.str "market", rowsD rs]
def isBest (rs : List Row) (r : Row) : Bool := decide (rev rs r.1 = hi rs)
def bestD (rs : List Row) : D := .tup ((rs.filter (isBest rs)).map fun r => rt r.1)
section
variable {G : Gt} {F : Nat → Option Fd} {C : Nat → List S → Store → Res S} {k f : Nat}
def SRow (C : Nat → List S → Store → Res S) (f : Nat) (g : List Row → Rat) : Prop := ∀ (st : Store) (rs : List Row), Mk rs → C f [.v (rowsD rs)] st = .ok (.v (rt (g rs))) st
def SRowP (C : Nat → List S → Store → Res S) (f : Nat) (g : List Row → Rat → Rat) : Prop := ∀ (st : Store) (rs : List Row) (p : Rat), Mk rs → Rb 60 p → C f [.v (rowsD rs), .v (rt p)] st = .ok (.v (rt (g rs p))) st
def SBest (C : Nat → List S → Store → Res S) (f : Nat) : Prop := ∀ (st : Store) (rs : List Row), Mk rs → C f [.v (rowsD rs)] st = .ok (.v (bestD rs)) st
theorem rtsV {α : Type} (g : α → Rat) (l : List α) : (allV (l.filterMap fun a => some (S.v (rt (g a))))).map (fun ds => S.v (.lst ds)) = some (.v (.lst ((l.map g).map rt))) := by
  rw [filterMap_someF (fun a => S.v (rt (g a))), allV_mapF (fun a => rt (g a)), List.map_map]
  rfl
theorem rtsF {α : Type} (p : α → Bool) (g : α → Rat) (l : List α) : (allV (l.filterMap fun a => if p a then some (S.v (rt (g a))) else none)).map (fun ds => S.v (.lst ds)) = some (.v (.lst (((l.filter p).map g).map rt))) := by
  rw [filterMap_ite p (fun a => S.v (rt (g a))), allV_mapF (fun a => rt (g a)), List.map_map]
  rfl
theorem len_filter {α : Type} {l : List α} (p : α → Bool) (h : l.length ≤ 6) : (l.filter p).length ≤ 6 := Nat.le_trans (List.length_filter_le _ _) h
theorem sp_mass {ft : Nat} (hf : F f = some (B_mass_in ft)) (hk : G.keep.contains f = false) (ht : STot (callK G F k) ft) : SRow (callK G F (k + 1)) f mass := by
  intro st rs M
  refine call_eq hf rfl hk ?_
  simp [B_mass_in, evE, evEs, evO, evOc, evC, evAll, evAny, evAnd, evOr, depAll_nil, get_app, set_app, get_app1, get_map_last, sat_nil, sat_cons, after_nx, after_rt, after_bk, after_ct, brn_true, brn_false, sat_ifs, evFr_disp, evFr_lof, evFr_add, evFr_lzip, exS_asg, exS_par, exS_setix, exS_expr, exS_ret, exS_retN, exS_pass, exS_brk, exS_cont, exS_thr, need, bopSem, blSem, ixSem, setAll, asgT, asgL, trunc, rdD, allV, isiSem, isTy, tyOf, tyFits, nexc, items, lstI, L2.atI, L2.ixN, Res.sat_bind, Res.sat_ite, oneR, Wk.asg, wipe, List.replicate, cmp_ones, cmp_eq_int, cmp_ne_int, cmp_lt_int, cmp_le_int, cmp_gt_int, cmp_ge_int, cmp_eq_rt, cmp_ne_rt, cmp_ne_str, cmp_ne_bl]
  refine comp_sq rs rowD (fun r => some (.v (rt r.2))) (x := rowsD rs) (st1 := st) (by simp [evE, evEs, evO, evOc, evC, evAll, evAny, evAnd, evOr, depAll_nil, get_app, set_app, get_app1, get_map_last, sat_nil, sat_cons, after_nx, after_rt, after_bk, after_ct, brn_true, brn_false, sat_ifs, evFr_disp, evFr_lof, evFr_add, evFr_lzip, exS_asg, exS_par, exS_setix, exS_expr, exS_ret, exS_retN, exS_pass, exS_brk, exS_cont, exS_thr, need, bopSem, cmpSem, blSem, ixSem, setAll, asgT, asgL, trunc, rdD, allV, isiSem, isTy, tyOf, tyFits, nexc, items, lstI, L2.atI, L2.ixN, Res.sat_bind, Res.sat_ite, oneR, Wk.asg, wipe, List.replicate]) (.inr rfl) (fun r hr => ?_) ?_
  · simp [evE, evEs, evO, evOc, evC, evAll, evAny, evAnd, evOr, depAll_nil, get_app, set_app, get_app1, get_map_last, sat_nil, sat_cons, after_nx, after_rt, after_bk, after_ct, brn_true, brn_false, sat_ifs, evFr_disp, evFr_lof, evFr_add, evFr_lzip, exS_asg, exS_par, exS_setix, exS_expr, exS_ret, exS_retN, exS_pass, exS_brk, exS_cont, exS_thr, need, bopSem, cmpSem, blSem, ixSem, setAll, asgT, asgL, trunc, rdD, allV, isiSem, isTy, tyOf, tyFits, nexc, items, lstI, L2.atI, L2.ixN, Res.sat_bind, Res.sat_ite, oneR, Wk.asg, wipe, List.replicate, rowD]
  · have e := ht st (rs.map (·.2)) (.of (b := 100) (fun x hx => by obtain ⟨r, hr, rfl⟩ := List.mem_map.mp hx; exact M.mb r hr) (by rw [List.length_map]; exact M.le) (by decide))
    simp only [rtsV (fun r : Row => r.2), Res.sat_ok, e]
    simp [mass]
theorem sp_demand {ft fl : Nat} (hf : F f = some (B_demand_in ft fl)) (hk : G.keep.contains f = false) (ht : STot (callK G F k) ft) (hl : SLess (callK G F k) fl) : SRowP (callK G F (k + 1)) f dem := by
  intro st rs p M hp
  refine call_eq hf rfl hk ?_
  simp [B_demand_in, evE, evEs, evO, evOc, evC, evAll, evAny, evAnd, evOr, depAll_nil, get_app, set_app, get_app1, get_map_last, sat_nil, sat_cons, after_nx, after_rt, after_bk, after_ct, brn_true, brn_false, sat_ifs, evFr_disp, evFr_lof, evFr_add, evFr_lzip, exS_asg, exS_par, exS_setix, exS_expr, exS_ret, exS_retN, exS_pass, exS_brk, exS_cont, exS_thr, need, bopSem, blSem, ixSem, setAll, asgT, asgL, trunc, rdD, allV, isiSem, isTy, tyOf, tyFits, nexc, items, lstI, L2.atI, L2.ixN, Res.sat_bind, Res.sat_ite, oneR, Wk.asg, wipe, List.replicate, cmp_ones, cmp_eq_int, cmp_ne_int, cmp_lt_int, cmp_le_int, cmp_gt_int, cmp_ge_int, cmp_eq_rt, cmp_ne_rt, cmp_ne_str, cmp_ne_bl]
  refine comp_sq rs rowD (fun r => if atLeast p r then some (.v (rt r.2)) else none) (x := rowsD rs) (st1 := st) (by simp [evE, evEs, evO, evOc, evC, evAll, evAny, evAnd, evOr, depAll_nil, get_app, set_app, get_app1, get_map_last, sat_nil, sat_cons, after_nx, after_rt, after_bk, after_ct, brn_true, brn_false, sat_ifs, evFr_disp, evFr_lof, evFr_add, evFr_lzip, exS_asg, exS_par, exS_setix, exS_expr, exS_ret, exS_retN, exS_pass, exS_brk, exS_cont, exS_thr, need, bopSem, cmpSem, blSem, ixSem, setAll, asgT, asgL, trunc, rdD, allV, isiSem, isTy, tyOf, tyFits, nexc, items, lstI, L2.atI, L2.ixN, Res.sat_bind, Res.sat_ite, oneR, Wk.asg, wipe, List.replicate]) (.inr rfl) (fun r hr => ?_) ?_
  · have e := hl st r.1 p ((M.vb r hr).mono (by decide)) (hp.mono (by decide))
    by_cases h : r.1 < p <;> simp [evE, evEs, evO, evOc, evC, evAll, evAny, evAnd, evOr, depAll_nil, get_app, set_app, get_app1, get_map_last, sat_nil, sat_cons, after_nx, after_rt, after_bk, after_ct, brn_true, brn_false, sat_ifs, evFr_disp, evFr_lof, evFr_add, evFr_lzip, exS_asg, exS_par, exS_setix, exS_expr, exS_ret, exS_retN, exS_pass, exS_brk, exS_cont, exS_thr, need, bopSem, cmpSem, blSem, ixSem, setAll, asgT, asgL, trunc, rdD, allV, isiSem, isTy, tyOf, tyFits, nexc, items, lstI, L2.atI, L2.ixN, Res.sat_bind, Res.sat_ite, oneR, Wk.asg, wipe, List.replicate, rowD, e, atLeast, h]
  · have e := ht st ((rs.filter (atLeast p)).map (·.2)) (.of (b := 100) (fun x hx => by obtain ⟨r, hr, rfl⟩ := List.mem_map.mp hx; exact M.mb r (List.mem_filter.mp hr).1) (by rw [List.length_map]; exact len_filter _ M.le) (by decide))
    simp only [rtsF (atLeast p) (fun r : Row => r.2), Res.sat_ok, e]
    simp [dem]
theorem sp_revenue {ft fd : Nat} (hf : F f = some (B_revenue_in ft fd)) (hk : G.keep.contains f = false) (ht : S2 (callK G F k) ft (· * ·)) (hd : SRowP (callK G F k) fd dem) : SRowP (callK G F (k + 1)) f rev := by
  intro st rs p M hp
  refine call_eq hf rfl hk ?_
  have e1 := hd st rs p M hp
  have e2 := ht st p (dem rs p) (hp.mono (by decide)) ((dem_rb M).mono (by decide))
  simp [B_revenue_in, evE, evEs, evO, evOc, evC, evAll, evAny, evAnd, evOr, depAll_nil, get_app, set_app, get_app1, get_map_last, sat_nil, sat_cons, after_nx, after_rt, after_bk, after_ct, brn_true, brn_false, sat_ifs, evFr_disp, evFr_lof, evFr_add, evFr_lzip, exS_asg, exS_par, exS_setix, exS_expr, exS_ret, exS_retN, exS_pass, exS_brk, exS_cont, exS_thr, need, bopSem, blSem, ixSem, setAll, asgT, asgL, trunc, rdD, allV, isiSem, isTy, tyOf, tyFits, nexc, items, lstI, L2.atI, L2.ixN, Res.sat_bind, Res.sat_ite, oneR, Wk.asg, wipe, List.replicate, cmp_ones, cmp_eq_int, cmp_ne_int, cmp_lt_int, cmp_le_int, cmp_gt_int, cmp_ge_int, cmp_eq_rt, cmp_ne_rt, cmp_ne_str, cmp_ne_bl, e1, e2, rev]
theorem sp_buyers {ft fm fn fl : Nat} (hf : F f = some (B_buyers_in ft fm fn fl)) (hk : G.keep.contains f = false) (ht : STot (callK G F k) ft) (hm : S2 (callK G F k) fm (· * ·)) (hn : S2 (callK G F k) fn (· - ·)) (hl : SLess (callK G F k) fl) : SRowP (callK G F (k + 1)) f buy := by
  intro st rs p M hp
  refine call_eq hf rfl hk ?_
  simp [B_buyers_in, evE, evEs, evO, evOc, evC, evAll, evAny, evAnd, evOr, depAll_nil, get_app, set_app, get_app1, get_map_last, sat_nil, sat_cons, after_nx, after_rt, after_bk, after_ct, brn_true, brn_false, sat_ifs, evFr_disp, evFr_lof, evFr_add, evFr_lzip, exS_asg, exS_par, exS_setix, exS_expr, exS_ret, exS_retN, exS_pass, exS_brk, exS_cont, exS_thr, need, bopSem, blSem, ixSem, setAll, asgT, asgL, trunc, rdD, allV, isiSem, isTy, tyOf, tyFits, nexc, items, lstI, L2.atI, L2.ixN, Res.sat_bind, Res.sat_ite, oneR, Wk.asg, wipe, List.replicate, cmp_ones, cmp_eq_int, cmp_ne_int, cmp_lt_int, cmp_le_int, cmp_gt_int, cmp_ge_int, cmp_eq_rt, cmp_ne_rt, cmp_ne_str, cmp_ne_bl]
  have bnd : ∀ r ∈ rs, Rb 81 (r.1 - p) := fun r hr => ((M.vb r hr).sub hp).mono (by decide)
  refine comp_sq rs rowD (fun r => if atLeast p r then some (.v (rt (r.2 * (r.1 - p)))) else none) (x := rowsD rs) (st1 := st) (by simp [evE, evEs, evO, evOc, evC, evAll, evAny, evAnd, evOr, depAll_nil, get_app, set_app, get_app1, get_map_last, sat_nil, sat_cons, after_nx, after_rt, after_bk, after_ct, brn_true, brn_false, sat_ifs, evFr_disp, evFr_lof, evFr_add, evFr_lzip, exS_asg, exS_par, exS_setix, exS_expr, exS_ret, exS_retN, exS_pass, exS_brk, exS_cont, exS_thr, need, bopSem, cmpSem, blSem, ixSem, setAll, asgT, asgL, trunc, rdD, allV, isiSem, isTy, tyOf, tyFits, nexc, items, lstI, L2.atI, L2.ixN, Res.sat_bind, Res.sat_ite, oneR, Wk.asg, wipe, List.replicate]) (.inr rfl) (fun r hr => ?_) ?_
  · have e := hl st r.1 p ((M.vb r hr).mono (by decide)) (hp.mono (by decide))
    have e2 := hn st r.1 p ((M.vb r hr).mono (by decide)) (hp.mono (by decide))
    have e3 := hm st r.2 (r.1 - p) ((M.mb r hr).mono (by decide)) ((bnd r hr).mono (by decide))
    by_cases h : r.1 < p <;> simp [evE, evEs, evO, evOc, evC, evAll, evAny, evAnd, evOr, depAll_nil, get_app, set_app, get_app1, get_map_last, sat_nil, sat_cons, after_nx, after_rt, after_bk, after_ct, brn_true, brn_false, sat_ifs, evFr_disp, evFr_lof, evFr_add, evFr_lzip, exS_asg, exS_par, exS_setix, exS_expr, exS_ret, exS_retN, exS_pass, exS_brk, exS_cont, exS_thr, need, bopSem, cmpSem, blSem, ixSem, setAll, asgT, asgL, trunc, rdD, allV, isiSem, isTy, tyOf, tyFits, nexc, items, lstI, L2.atI, L2.ixN, Res.sat_bind, Res.sat_ite, oneR, Wk.asg, wipe, List.replicate, rowD, e, e2, e3, atLeast, h]
  · have e := ht st ((rs.filter (atLeast p)).map fun r => r.2 * (r.1 - p)) (.of (b := 181) (fun x hx => by
      obtain ⟨r, hr, rfl⟩ := List.mem_map.mp hx
      have := (List.mem_filter.mp hr).1
      exact (M.mb r this).mul (bnd r this)) (by rw [List.length_map]; exact len_filter _ M.le) (by decide))
    simp only [rtsF (atLeast p) (fun r : Row => r.2 * (r.1 - p)), Res.sat_ok, e]
    simp [buy]
theorem sp_wholein {ft fm : Nat} (hf : F f = some (B_whole_in ft fm)) (hk : G.keep.contains f = false) (ht : STot (callK G F k) ft) (hm : S2 (callK G F k) fm (· * ·)) : SRow (callK G F (k + 1)) f whl := by
  intro st rs M
  refine call_eq hf rfl hk ?_
  simp [B_whole_in, evE, evEs, evO, evOc, evC, evAll, evAny, evAnd, evOr, depAll_nil, get_app, set_app, get_app1, get_map_last, sat_nil, sat_cons, after_nx, after_rt, after_bk, after_ct, brn_true, brn_false, sat_ifs, evFr_disp, evFr_lof, evFr_add, evFr_lzip, exS_asg, exS_par, exS_setix, exS_expr, exS_ret, exS_retN, exS_pass, exS_brk, exS_cont, exS_thr, need, bopSem, blSem, ixSem, setAll, asgT, asgL, trunc, rdD, allV, isiSem, isTy, tyOf, tyFits, nexc, items, lstI, L2.atI, L2.ixN, Res.sat_bind, Res.sat_ite, oneR, Wk.asg, wipe, List.replicate, cmp_ones, cmp_eq_int, cmp_ne_int, cmp_lt_int, cmp_le_int, cmp_gt_int, cmp_ge_int, cmp_eq_rt, cmp_ne_rt, cmp_ne_str, cmp_ne_bl]
  refine comp_sq rs rowD (fun r => some (.v (rt (r.2 * r.1)))) (x := rowsD rs) (st1 := st) (by simp [evE, evEs, evO, evOc, evC, evAll, evAny, evAnd, evOr, depAll_nil, get_app, set_app, get_app1, get_map_last, sat_nil, sat_cons, after_nx, after_rt, after_bk, after_ct, brn_true, brn_false, sat_ifs, evFr_disp, evFr_lof, evFr_add, evFr_lzip, exS_asg, exS_par, exS_setix, exS_expr, exS_ret, exS_retN, exS_pass, exS_brk, exS_cont, exS_thr, need, bopSem, cmpSem, blSem, ixSem, setAll, asgT, asgL, trunc, rdD, allV, isiSem, isTy, tyOf, tyFits, nexc, items, lstI, L2.atI, L2.ixN, Res.sat_bind, Res.sat_ite, oneR, Wk.asg, wipe, List.replicate]) (.inr rfl) (fun r hr => ?_) ?_
  · have e3 := hm st r.2 r.1 ((M.mb r hr).mono (by decide)) ((M.vb r hr).mono (by decide))
    simp [evE, evEs, evO, evOc, evC, evAll, evAny, evAnd, evOr, depAll_nil, get_app, set_app, get_app1, get_map_last, sat_nil, sat_cons, after_nx, after_rt, after_bk, after_ct, brn_true, brn_false, sat_ifs, evFr_disp, evFr_lof, evFr_add, evFr_lzip, exS_asg, exS_par, exS_setix, exS_expr, exS_ret, exS_retN, exS_pass, exS_brk, exS_cont, exS_thr, need, bopSem, cmpSem, blSem, ixSem, setAll, asgT, asgL, trunc, rdD, allV, isiSem, isTy, tyOf, tyFits, nexc, items, lstI, L2.atI, L2.ixN, Res.sat_bind, Res.sat_ite, oneR, Wk.asg, wipe, List.replicate, rowD, e3]
  · have e := ht st (rs.map fun r => r.2 * r.1) (.of (b := 120) (fun x hx => by
      obtain ⟨r, hr, rfl⟩ := List.mem_map.mp hx
      exact (M.mb r hr).mul (M.vb r hr)) (by rw [List.length_map]; exact M.le) (by decide))
    simp only [rtsV (fun r : Row => r.2 * r.1), Res.sat_ok, e]
    simp [whl]
def SGreat (C : Nat → List S → Store → Res S) (f : Nat) : Prop := ∀ (st : Store) (x : Rat) (xs : List Rat), (∀ y ∈ x :: xs, Rb 3000 y) → C f [.v (.lst ((x :: xs).map rt))] st = .ok (.v (rt (gmax x xs))) st
theorem cutL (d : D) (ds : List D) : cutD (d :: ds) (some 1) none = ds := by rw [cut1]; rfl
theorem gr_rb {b : Nat} {x y : Rat} (h : Rb b x) (h' : Rb b y) : Rb b (gr x y) := by unfold gr; split <;> assumption
theorem sp_great {fl : Nat} (hf : F f = some (B_greatest_of fl)) (hk : G.keep.contains f = false) (hl : SLess (callK G F k) fl) : SGreat (callK G F (k + 1)) f := by
  intro st x xs hb
  refine call_eq hf rfl hk ?_
  simp [B_greatest_of, evE, evEs, evO, evOc, evC, evAll, evAny, evAnd, evOr, depAll_nil, get_app, set_app, get_app1, get_map_last, sat_nil, sat_cons, after_nx, after_rt, after_bk, after_ct, brn_true, brn_false, sat_ifs, evFr_disp, evFr_lof, evFr_add, evFr_lzip, exS_asg, exS_par, exS_setix, exS_expr, exS_ret, exS_retN, exS_pass, exS_brk, exS_cont, exS_thr, need, bopSem, blSem, ixSem, setAll, asgT, asgL, trunc, rdD, allV, isiSem, isTy, tyOf, tyFits, nexc, items, lstI, L2.atI, L2.ixN, Res.sat_bind, Res.sat_ite, oneR, Wk.asg, wipe, List.replicate, cmp_ones, cmp_eq_int, cmp_ne_int, cmp_lt_int, cmp_le_int, cmp_gt_int, cmp_ge_int, cmp_eq_rt, cmp_ne_rt, cmp_ne_str, cmp_ne_bl]
  refine for_sq xs rt (fun r ρ' st' => st' = st ∧ (∀ y ∈ r, Rb 3000 y) ∧ ∃ a each, Rb 3000 a ∧ gmax a r = gmax x xs ∧ ρ' = [some (.v (.lst ((x :: xs).map rt))), some (.v (rt a)), each]) (x := .lst (xs.map rt)) (st1 := st) (by simp [evE, evEs, evO, evOc, evC, evAll, evAny, evAnd, evOr, depAll_nil, get_app, set_app, get_app1, get_map_last, sat_nil, sat_cons, after_nx, after_rt, after_bk, after_ct, brn_true, brn_false, sat_ifs, evFr_disp, evFr_lof, evFr_add, evFr_lzip, exS_asg, exS_par, exS_setix, exS_expr, exS_ret, exS_retN, exS_pass, exS_brk, exS_cont, exS_thr, need, bopSem, cmpSem, blSem, ixSem, setAll, asgT, asgL, trunc, rdD, allV, isiSem, isTy, tyOf, tyFits, nexc, items, lstI, L2.atI, L2.ixN, Res.sat_bind, Res.sat_ite, oneR, Wk.asg, wipe, List.replicate, slcSem, cutL]) (.inl rfl) ⟨rfl, fun y hy => hb y (List.mem_cons_of_mem _ hy), x, none, hb x List.mem_cons_self, rfl, rfl⟩ (fun y r ρ' st' h => ?_) fun ρ' st' h => ?_
  · obtain ⟨rfl, hr, a, each, ha, e, rfl⟩ := h
    refine ⟨_, rfl, ?_⟩
    have hy := hr y List.mem_cons_self
    have e1 := hl st' a y ha hy
    have e2 : gmax (gr a y) r = gmax x xs := e
    by_cases h : a < y
    · have e3 : gr a y = y := by unfold gr; rw [if_pos h]
      rw [e3] at e2
      simp [evE, evEs, evO, evOc, evC, evAll, evAny, evAnd, evOr, depAll_nil, get_app, set_app, get_app1, get_map_last, sat_nil, sat_cons, after_nx, after_rt, after_bk, after_ct, brn_true, brn_false, sat_ifs, evFr_disp, evFr_lof, evFr_add, evFr_lzip, exS_asg, exS_par, exS_setix, exS_expr, exS_ret, exS_retN, exS_pass, exS_brk, exS_cont, exS_thr, need, bopSem, blSem, ixSem, setAll, asgT, asgL, trunc, rdD, allV, isiSem, isTy, tyOf, tyFits, nexc, items, lstI, L2.atI, L2.ixN, Res.sat_bind, Res.sat_ite, oneR, Wk.asg, wipe, List.replicate, cmp_ones, cmp_eq_int, cmp_ne_int, cmp_lt_int, cmp_le_int, cmp_gt_int, cmp_ge_int, cmp_eq_rt, cmp_ne_rt, cmp_ne_str, cmp_ne_bl, e1, h]
      exact ⟨fun z hz => hr z (List.mem_cons_of_mem _ hz), y, hy, e2, rfl⟩
    · have e3 : gr a y = a := by unfold gr; rw [if_neg h]
      rw [e3] at e2
      simp [evE, evEs, evO, evOc, evC, evAll, evAny, evAnd, evOr, depAll_nil, get_app, set_app, get_app1, get_map_last, sat_nil, sat_cons, after_nx, after_rt, after_bk, after_ct, brn_true, brn_false, sat_ifs, evFr_disp, evFr_lof, evFr_add, evFr_lzip, exS_asg, exS_par, exS_setix, exS_expr, exS_ret, exS_retN, exS_pass, exS_brk, exS_cont, exS_thr, need, bopSem, blSem, ixSem, setAll, asgT, asgL, trunc, rdD, allV, isiSem, isTy, tyOf, tyFits, nexc, items, lstI, L2.atI, L2.ixN, Res.sat_bind, Res.sat_ite, oneR, Wk.asg, wipe, List.replicate, cmp_ones, cmp_eq_int, cmp_ne_int, cmp_lt_int, cmp_le_int, cmp_gt_int, cmp_ge_int, cmp_eq_rt, cmp_ne_rt, cmp_ne_str, cmp_ne_bl, e1, h]
      exact ⟨fun z hz => hr z (List.mem_cons_of_mem _ hz), a, ha, e2, rfl⟩
  · obtain ⟨rfl, _, a, each, ha, e, rfl⟩ := h
    have e2 : a = gmax x xs := e
    simp [evE, evEs, evO, evOc, evC, evAll, evAny, evAnd, evOr, depAll_nil, get_app, set_app, get_app1, get_map_last, sat_nil, sat_cons, after_nx, after_rt, after_bk, after_ct, brn_true, brn_false, sat_ifs, evFr_disp, evFr_lof, evFr_add, evFr_lzip, exS_asg, exS_par, exS_setix, exS_expr, exS_ret, exS_retN, exS_pass, exS_brk, exS_cont, exS_thr, need, bopSem, blSem, ixSem, setAll, asgT, asgL, trunc, rdD, allV, isiSem, isTy, tyOf, tyFits, nexc, items, lstI, L2.atI, L2.ixN, Res.sat_bind, Res.sat_ite, oneR, Wk.asg, wipe, List.replicate, cmp_ones, cmp_eq_int, cmp_ne_int, cmp_lt_int, cmp_le_int, cmp_gt_int, cmp_ge_int, cmp_eq_rt, cmp_ne_rt, cmp_ne_str, cmp_ne_bl, e2]
theorem bestV (rs : List Row) : (allV (rs.filterMap fun r => if isBest rs r then some (S.v (rt r.1)) else none)).map (fun ds => S.v (.lst ds)) = some (.v (.lst ((rs.filter (isBest rs)).map fun r => rt r.1))) := by
  rw [filterMap_ite (isBest rs) (fun r => S.v (rt r.1)), allV_mapF (fun r : Row => rt r.1)]
  rfl
theorem zip_revs (rs : List Row) : ∀ l : List Row, (l.zip (l.map fun r => rev rs r.1)) = l.map fun r => (r, rev rs r.1)
  | [] => rfl
  | r :: l => by simp [zip_revs rs l]
theorem sp_best {fr fg : Nat} (hf : F f = some (B_best_in fr fg)) (hk : G.keep.contains f = false) (hr : SRowP (callK G F k) fr rev) (hg : SGreat (callK G F k) fg) : SBest (callK G F (k + 1)) f := by
  intro st rs M
  refine call_eq hf rfl hk ?_
  simp [B_best_in, evE, evEs, evO, evOc, evC, evAll, evAny, evAnd, evOr, depAll_nil, get_app, set_app, get_app1, get_map_last, sat_nil, sat_cons, after_nx, after_rt, after_bk, after_ct, brn_true, brn_false, sat_ifs, evFr_disp, evFr_lof, evFr_add, evFr_lzip, exS_asg, exS_par, exS_setix, exS_expr, exS_ret, exS_retN, exS_pass, exS_brk, exS_cont, exS_thr, need, bopSem, blSem, ixSem, setAll, asgT, asgL, trunc, rdD, allV, isiSem, isTy, tyOf, tyFits, nexc, items, lstI, L2.atI, L2.ixN, Res.sat_bind, Res.sat_ite, oneR, Wk.asg, wipe, List.replicate, cmp_ones, cmp_eq_int, cmp_ne_int, cmp_lt_int, cmp_le_int, cmp_gt_int, cmp_ge_int, cmp_eq_rt, cmp_ne_rt, cmp_ne_str, cmp_ne_bl]
  refine comp_sq rs rowD (fun r => some (.v (rt (rev rs r.1)))) (x := rowsD rs) (st1 := st) (by simp [evE, evEs, evO, evOc, evC, evAll, evAny, evAnd, evOr, depAll_nil, get_app, set_app, get_app1, get_map_last, sat_nil, sat_cons, after_nx, after_rt, after_bk, after_ct, brn_true, brn_false, sat_ifs, evFr_disp, evFr_lof, evFr_add, evFr_lzip, exS_asg, exS_par, exS_setix, exS_expr, exS_ret, exS_retN, exS_pass, exS_brk, exS_cont, exS_thr, need, bopSem, cmpSem, blSem, ixSem, setAll, asgT, asgL, trunc, rdD, allV, isiSem, isTy, tyOf, tyFits, nexc, items, lstI, L2.atI, L2.ixN, Res.sat_bind, Res.sat_ite, oneR, Wk.asg, wipe, List.replicate]) (.inr rfl) (fun r h => ?_) ?_
  · have e := hr st rs r.1 M ((M.vb r h).mono (by decide))
    simp [evE, evEs, evO, evOc, evC, evAll, evAny, evAnd, evOr, depAll_nil, get_app, set_app, get_app1, get_map_last, sat_nil, sat_cons, after_nx, after_rt, after_bk, after_ct, brn_true, brn_false, sat_ifs, evFr_disp, evFr_lof, evFr_add, evFr_lzip, exS_asg, exS_par, exS_setix, exS_expr, exS_ret, exS_retN, exS_pass, exS_brk, exS_cont, exS_thr, need, bopSem, cmpSem, blSem, ixSem, setAll, asgT, asgL, trunc, rdD, allV, isiSem, isTy, tyOf, tyFits, nexc, items, lstI, L2.atI, L2.ixN, Res.sat_bind, Res.sat_ite, oneR, Wk.asg, wipe, List.replicate, rowD, e]
  · obtain ⟨x, xs, ex⟩ : ∃ x xs, revs rs = x :: xs := by
      cases e : revs rs with
      | nil =>
        have := M.ne
        have h2 : (revs rs).length = rs.length := List.length_map _
        rw [e] at h2
        simp at h2
        omega
      | cons x xs => exact ⟨x, xs, rfl⟩
    have e := hg st x xs (fun y hy => by
      rw [← ex] at hy
      obtain ⟨r, h, rfl⟩ := List.mem_map.mp hy
      exact (rev_rb M ((M.vb r h).mono (by decide))).mono (by decide))
    rw [hi_tail M ex, ← ex] at e
    simp only [rtsV (fun r : Row => rev rs r.1), Res.sat_ok, Option.map_some]
    have er : rs.map (fun r => rev rs r.1) = revs rs := rfl
    simp only [er]
    simp [evE, evEs, evO, evOc, evC, evAll, evAny, evAnd, evOr, depAll_nil, get_app, set_app, get_app1, get_map_last, sat_nil, sat_cons, after_nx, after_rt, after_bk, after_ct, brn_true, brn_false, sat_ifs, evFr_disp, evFr_lof, evFr_add, evFr_lzip, exS_asg, exS_par, exS_setix, exS_expr, exS_ret, exS_retN, exS_pass, exS_brk, exS_cont, exS_thr, need, bopSem, blSem, ixSem, setAll, asgT, asgL, trunc, rdD, allV, isiSem, isTy, tyOf, tyFits, nexc, items, lstI, L2.atI, L2.ixN, Res.sat_bind, Res.sat_ite, oneR, Wk.asg, wipe, List.replicate, cmp_ones, cmp_eq_int, cmp_ne_int, cmp_lt_int, cmp_le_int, cmp_gt_int, cmp_ge_int, cmp_eq_rt, cmp_ne_rt, cmp_ne_str, cmp_ne_bl, e]
    refine comp_zip rs (revs rs) rowD rt (fun p => if decide (p.2 = hi rs) then some (.v (rt p.1.1)) else none) (x := rowsD rs) (y := .lst ((revs rs).map rt)) (st1 := st) (st2 := st) (by simp [evE, evEs, evO, evOc, evC, evAll, evAny, evAnd, evOr, depAll_nil, get_app, set_app, get_app1, get_map_last, sat_nil, sat_cons, after_nx, after_rt, after_bk, after_ct, brn_true, brn_false, sat_ifs, evFr_disp, evFr_lof, evFr_add, evFr_lzip, exS_asg, exS_par, exS_setix, exS_expr, exS_ret, exS_retN, exS_pass, exS_brk, exS_cont, exS_thr, need, bopSem, cmpSem, blSem, ixSem, setAll, asgT, asgL, trunc, rdD, allV, isiSem, isTy, tyOf, tyFits, nexc, items, lstI, L2.atI, L2.ixN, Res.sat_bind, Res.sat_ite, oneR, Wk.asg, wipe, List.replicate]) (by simp [evE, evEs, evO, evOc, evC, evAll, evAny, evAnd, evOr, depAll_nil, get_app, set_app, get_app1, get_map_last, sat_nil, sat_cons, after_nx, after_rt, after_bk, after_ct, brn_true, brn_false, sat_ifs, evFr_disp, evFr_lof, evFr_add, evFr_lzip, exS_asg, exS_par, exS_setix, exS_expr, exS_ret, exS_retN, exS_pass, exS_brk, exS_cont, exS_thr, need, bopSem, cmpSem, blSem, ixSem, setAll, asgT, asgL, trunc, rdD, allV, isiSem, isTy, tyOf, tyFits, nexc, items, lstI, L2.atI, L2.ixN, Res.sat_bind, Res.sat_ite, oneR, Wk.asg, wipe, List.replicate]) (.inr rfl) (.inl rfl) (fun p hp => ?_) ?_
    · by_cases h : p.2 = hi rs
      · simp [evE, evEs, evO, evOc, evC, evAll, evAny, evAnd, evOr, depAll_nil, get_app, set_app, get_app1, get_map_last, sat_nil, sat_cons, after_nx, after_rt, after_bk, after_ct, brn_true, brn_false, sat_ifs, evFr_disp, evFr_lof, evFr_add, evFr_lzip, exS_asg, exS_par, exS_setix, exS_expr, exS_ret, exS_retN, exS_pass, exS_brk, exS_cont, exS_thr, need, bopSem, blSem, ixSem, setAll, asgT, asgL, trunc, rdD, allV, isiSem, isTy, tyOf, tyFits, nexc, items, lstI, L2.atI, L2.ixN, Res.sat_bind, Res.sat_ite, oneR, Wk.asg, wipe, List.replicate, cmp_ones, cmp_eq_int, cmp_ne_int, cmp_lt_int, cmp_le_int, cmp_gt_int, cmp_ge_int, cmp_eq_rt, cmp_ne_rt, cmp_ne_str, cmp_ne_bl, rowD, h]
      · simp [evE, evEs, evO, evOc, evC, evAll, evAny, evAnd, evOr, depAll_nil, get_app, set_app, get_app1, get_map_last, sat_nil, sat_cons, after_nx, after_rt, after_bk, after_ct, brn_true, brn_false, sat_ifs, evFr_disp, evFr_lof, evFr_add, evFr_lzip, exS_asg, exS_par, exS_setix, exS_expr, exS_ret, exS_retN, exS_pass, exS_brk, exS_cont, exS_thr, need, bopSem, blSem, ixSem, setAll, asgT, asgL, trunc, rdD, allV, isiSem, isTy, tyOf, tyFits, nexc, items, lstI, L2.atI, L2.ixN, Res.sat_bind, Res.sat_ite, oneR, Wk.asg, wipe, List.replicate, cmp_ones, cmp_eq_int, cmp_ne_int, cmp_lt_int, cmp_le_int, cmp_gt_int, cmp_ge_int, cmp_eq_rt, cmp_ne_rt, cmp_ne_str, cmp_ne_bl, rowD, h]
    · have ez : (rs.zip (revs rs)).filterMap (fun p => if decide (p.2 = hi rs) then some (S.v (rt p.1.1)) else none) = rs.filterMap fun r => if isBest rs r then some (S.v (rt r.1)) else none := by
        unfold revs
        rw [zip_revs, List.filterMap_map]
        rfl
      rw [ez]
      simp only [bestV, Res.sat_ok]
      simp [evE, evEs, evO, evOc, evC, evAll, evAny, evAnd, evOr, depAll_nil, get_app, set_app, get_app1, get_map_last, sat_nil, sat_cons, after_nx, after_rt, after_bk, after_ct, brn_true, brn_false, sat_ifs, evFr_disp, evFr_lof, evFr_add, evFr_lzip, exS_asg, exS_par, exS_setix, exS_expr, exS_ret, exS_retN, exS_pass, exS_brk, exS_cont, exS_thr, need, bopSem, blSem, ixSem, setAll, asgT, asgL, trunc, rdD, allV, isiSem, isTy, tyOf, tyFits, nexc, items, lstI, L2.atI, L2.ixN, Res.sat_bind, Res.sat_ite, oneR, Wk.asg, wipe, List.replicate, cmp_ones, cmp_eq_int, cmp_ne_int, cmp_lt_int, cmp_le_int, cmp_gt_int, cmp_ge_int, cmp_eq_rt, cmp_ne_rt, cmp_ne_str, cmp_ne_bl, bestD]
def SMkBest (C : Nat → List S → Store → Res S) (f : Nat) : Prop := ∀ (st : Store) (rs : List Row), Mk rs → C f [.v (rowsD rs)] st = .ok (.v (.tup [bestD rs, rt (hi rs)])) st
theorem hi_rb {rs : List Row} (M : Mk rs) : Rb 667 (hi rs) := by
  obtain ⟨r, hr, e⟩ := hi_mem M
  rw [← e]
  exact rev_rb M ((M.vb r hr).mono (by decide))
theorem sp_mkbest {fr fl : Nat} (hf : F f = some (B_law_mk_best fr fl)) (hk : G.keep.contains f = false) (hr : SRowP (callK G F k) fr rev) (hl : SLess (callK G F k) fl) : SMkBest (callK G F (k + 1)) f := by
  intro st rs M
  refine call_eq hf rfl hk ?_
  simp [B_law_mk_best, evE, evEs, evO, evOc, evC, evAll, evAny, evAnd, evOr, depAll_nil, get_app, set_app, get_app1, get_map_last, sat_nil, sat_cons, after_nx, after_rt, after_bk, after_ct, brn_true, brn_false, sat_ifs, evFr_disp, evFr_lof, evFr_add, evFr_lzip, exS_asg, exS_par, exS_setix, exS_expr, exS_ret, exS_retN, exS_pass, exS_brk, exS_cont, exS_thr, need, bopSem, blSem, ixSem, setAll, asgT, asgL, trunc, rdD, allV, isiSem, isTy, tyOf, tyFits, nexc, items, lstI, L2.atI, L2.ixN, Res.sat_bind, Res.sat_ite, oneR, Wk.asg, wipe, List.replicate, cmp_ones, cmp_eq_int, cmp_ne_int, cmp_lt_int, cmp_le_int, cmp_gt_int, cmp_ge_int, cmp_eq_rt, cmp_ne_rt, cmp_ne_str, cmp_ne_bl, rt0]
  refine for_sq rs rowD (fun r ρ' st' => st' = st ∧ (∀ y ∈ r, y ∈ rs) ∧ ∃ a e1 e2 e3, Rb 667 a ∧ gmax a (r.map fun y => rev rs y.1) = hi rs ∧ ρ' = [some (.v (rowsD rs)), some (.v (rt a)), e1, e2, e3]) (x := rowsD rs) (st1 := st) (by simp [evE, evEs, evO, evOc, evC, evAll, evAny, evAnd, evOr, depAll_nil, get_app, set_app, get_app1, get_map_last, sat_nil, sat_cons, after_nx, after_rt, after_bk, after_ct, brn_true, brn_false, sat_ifs, evFr_disp, evFr_lof, evFr_add, evFr_lzip, exS_asg, exS_par, exS_setix, exS_expr, exS_ret, exS_retN, exS_pass, exS_brk, exS_cont, exS_thr, need, bopSem, cmpSem, blSem, ixSem, setAll, asgT, asgL, trunc, rdD, allV, isiSem, isTy, tyOf, tyFits, nexc, items, lstI, L2.atI, L2.ixN, Res.sat_bind, Res.sat_ite, oneR, Wk.asg, wipe, List.replicate]) (.inr rfl) ⟨rfl, fun y hy => hy, 0, none, none, none, rb0.mono (by decide), rfl, rfl⟩ (fun y r ρ' st' h => ?_) fun ρ' st' h => ?_
  · obtain ⟨rfl, hm, a, e1, e2, e3, ha, e, rfl⟩ := h
    refine ⟨_, rfl, ?_⟩
    have hy := hm y List.mem_cons_self
    have hv := (M.vb y hy).mono (b := 60) (by decide)
    have q1 := hr st' rs y.1 M hv
    have q2 := hl st' a (rev rs y.1) (ha.mono (by decide)) ((rev_rb M hv).mono (by decide))
    have q3 : gmax (gr a (rev rs y.1)) (r.map fun y => rev rs y.1) = hi rs := e
    by_cases h : a < rev rs y.1
    · have e3 : gr a (rev rs y.1) = rev rs y.1 := by unfold gr; rw [if_pos h]
      rw [e3] at q3
      simp [evE, evEs, evO, evOc, evC, evAll, evAny, evAnd, evOr, depAll_nil, get_app, set_app, get_app1, get_map_last, sat_nil, sat_cons, after_nx, after_rt, after_bk, after_ct, brn_true, brn_false, sat_ifs, evFr_disp, evFr_lof, evFr_add, evFr_lzip, exS_asg, exS_par, exS_setix, exS_expr, exS_ret, exS_retN, exS_pass, exS_brk, exS_cont, exS_thr, need, bopSem, blSem, ixSem, setAll, asgT, asgL, trunc, rdD, allV, isiSem, isTy, tyOf, tyFits, nexc, items, lstI, L2.atI, L2.ixN, Res.sat_bind, Res.sat_ite, oneR, Wk.asg, wipe, List.replicate, cmp_ones, cmp_eq_int, cmp_ne_int, cmp_lt_int, cmp_le_int, cmp_gt_int, cmp_ge_int, cmp_eq_rt, cmp_ne_rt, cmp_ne_str, cmp_ne_bl, q1, q2, h]
      exact ⟨fun a' b' hz => hm (a', b') (List.mem_cons_of_mem _ hz), rev rs y.1, rev_rb M hv, q3, rfl⟩
    · have e3 : gr a (rev rs y.1) = a := by unfold gr; rw [if_neg h]
      rw [e3] at q3
      simp [evE, evEs, evO, evOc, evC, evAll, evAny, evAnd, evOr, depAll_nil, get_app, set_app, get_app1, get_map_last, sat_nil, sat_cons, after_nx, after_rt, after_bk, after_ct, brn_true, brn_false, sat_ifs, evFr_disp, evFr_lof, evFr_add, evFr_lzip, exS_asg, exS_par, exS_setix, exS_expr, exS_ret, exS_retN, exS_pass, exS_brk, exS_cont, exS_thr, need, bopSem, blSem, ixSem, setAll, asgT, asgL, trunc, rdD, allV, isiSem, isTy, tyOf, tyFits, nexc, items, lstI, L2.atI, L2.ixN, Res.sat_bind, Res.sat_ite, oneR, Wk.asg, wipe, List.replicate, cmp_ones, cmp_eq_int, cmp_ne_int, cmp_lt_int, cmp_le_int, cmp_gt_int, cmp_ge_int, cmp_eq_rt, cmp_ne_rt, cmp_ne_str, cmp_ne_bl, q1, q2, h]
      exact ⟨fun a' b' hz => hm (a', b') (List.mem_cons_of_mem _ hz), a, ha, q3, rfl⟩
  · obtain ⟨rfl, _, a, e1, e2, e3, ha, e, rfl⟩ := h
    have e4 : a = hi rs := e
    subst e4
    simp [evE, evEs, evO, evOc, evC, evAll, evAny, evAnd, evOr, depAll_nil, get_app, set_app, get_app1, get_map_last, sat_nil, sat_cons, after_nx, after_rt, after_bk, after_ct, brn_true, brn_false, sat_ifs, evFr_disp, evFr_lof, evFr_add, evFr_lzip, exS_asg, exS_par, exS_setix, exS_expr, exS_ret, exS_retN, exS_pass, exS_brk, exS_cont, exS_thr, need, bopSem, blSem, ixSem, setAll, asgT, asgL, trunc, rdD, allV, isiSem, isTy, tyOf, tyFits, nexc, items, lstI, L2.atI, L2.ixN, Res.sat_bind, Res.sat_ite, oneR, Wk.asg, wipe, List.replicate, cmp_ones, cmp_eq_int, cmp_ne_int, cmp_lt_int, cmp_le_int, cmp_gt_int, cmp_ge_int, cmp_eq_rt, cmp_ne_rt, cmp_ne_str, cmp_ne_bl]
    refine comp_sq rs rowD (fun r => if isBest rs r then some (.v (rt r.1)) else none) (x := rowsD rs) (st1 := st') (by simp [evE, evEs, evO, evOc, evC, evAll, evAny, evAnd, evOr, depAll_nil, get_app, set_app, get_app1, get_map_last, sat_nil, sat_cons, after_nx, after_rt, after_bk, after_ct, brn_true, brn_false, sat_ifs, evFr_disp, evFr_lof, evFr_add, evFr_lzip, exS_asg, exS_par, exS_setix, exS_expr, exS_ret, exS_retN, exS_pass, exS_brk, exS_cont, exS_thr, need, bopSem, cmpSem, blSem, ixSem, setAll, asgT, asgL, trunc, rdD, allV, isiSem, isTy, tyOf, tyFits, nexc, items, lstI, L2.atI, L2.ixN, Res.sat_bind, Res.sat_ite, oneR, Wk.asg, wipe, List.replicate]) (.inr rfl) (fun r h => ?_) ?_
    · have q := hr st' rs r.1 M ((M.vb r h).mono (by decide))
      by_cases hb : rev rs r.1 = hi rs
      · rw [hb] at q
        simp [evE, evEs, evO, evOc, evC, evAll, evAny, evAnd, evOr, depAll_nil, get_app, set_app, get_app1, get_map_last, sat_nil, sat_cons, after_nx, after_rt, after_bk, after_ct, brn_true, brn_false, sat_ifs, evFr_disp, evFr_lof, evFr_add, evFr_lzip, exS_asg, exS_par, exS_setix, exS_expr, exS_ret, exS_retN, exS_pass, exS_brk, exS_cont, exS_thr, need, bopSem, blSem, ixSem, setAll, asgT, asgL, trunc, rdD, allV, isiSem, isTy, tyOf, tyFits, nexc, items, lstI, L2.atI, L2.ixN, Res.sat_bind, Res.sat_ite, oneR, Wk.asg, wipe, List.replicate, cmp_ones, cmp_eq_int, cmp_ne_int, cmp_lt_int, cmp_le_int, cmp_gt_int, cmp_ge_int, cmp_eq_rt, cmp_ne_rt, cmp_ne_str, cmp_ne_bl, rowD, q, isBest, hb]
      · simp [evE, evEs, evO, evOc, evC, evAll, evAny, evAnd, evOr, depAll_nil, get_app, set_app, get_app1, get_map_last, sat_nil, sat_cons, after_nx, after_rt, after_bk, after_ct, brn_true, brn_false, sat_ifs, evFr_disp, evFr_lof, evFr_add, evFr_lzip, exS_asg, exS_par, exS_setix, exS_expr, exS_ret, exS_retN, exS_pass, exS_brk, exS_cont, exS_thr, need, bopSem, blSem, ixSem, setAll, asgT, asgL, trunc, rdD, allV, isiSem, isTy, tyOf, tyFits, nexc, items, lstI, L2.atI, L2.ixN, Res.sat_bind, Res.sat_ite, oneR, Wk.asg, wipe, List.replicate, cmp_ones, cmp_eq_int, cmp_ne_int, cmp_lt_int, cmp_le_int, cmp_gt_int, cmp_ge_int, cmp_eq_rt, cmp_ne_rt, cmp_ne_str, cmp_ne_bl, rowD, q, isBest, hb]
    · simp only [bestV, Res.sat_ok]
      simp [evE, evEs, evO, evOc, evC, evAll, evAny, evAnd, evOr, depAll_nil, get_app, set_app, get_app1, get_map_last, sat_nil, sat_cons, after_nx, after_rt, after_bk, after_ct, brn_true, brn_false, sat_ifs, evFr_disp, evFr_lof, evFr_add, evFr_lzip, exS_asg, exS_par, exS_setix, exS_expr, exS_ret, exS_retN, exS_pass, exS_brk, exS_cont, exS_thr, need, bopSem, blSem, ixSem, setAll, asgT, asgL, trunc, rdD, allV, isiSem, isTy, tyOf, tyFits, nexc, items, lstI, L2.atI, L2.ixN, Res.sat_bind, Res.sat_ite, oneR, Wk.asg, wipe, List.replicate, cmp_ones, cmp_eq_int, cmp_ne_int, cmp_lt_int, cmp_le_int, cmp_gt_int, cmp_ge_int, cmp_eq_rt, cmp_ne_rt, cmp_ne_str, cmp_ne_bl, bestD]
theorem best_head {rs : List Row} (M : Mk rs) : ∃ r A, bestD rs = .tup (rt r.1 :: A) ∧ r ∈ rs ∧ rev rs r.1 = hi rs := by
  obtain ⟨r0, h0, e0⟩ := hi_mem M
  cases e : rs.filter (isBest rs) with
  | nil =>
    have : r0 ∈ rs.filter (isBest rs) := List.mem_filter.mpr ⟨h0, decide_eq_true e0⟩
    rw [e] at this
    cases this
  | cons r A =>
    have hr : r ∈ rs ∧ isBest rs r = true := List.mem_filter.mp (by rw [e]; exact List.mem_cons_self)
    exact ⟨r, A.map fun r => rt r.1, by unfold bestD; rw [e]; rfl, hr.1, of_decide_eq_true hr.2⟩
theorem sp_onerev {fr fb : Nat} (hf : F f = some (B_one_revenue fr fb)) (hk : G.keep.contains f = false) (hr : SRowP (callK G F k) fr rev) (hb : SBest (callK G F k) fb) : SRow (callK G F (k + 1)) f hi := by
  intro st rs M
  refine call_eq hf rfl hk ?_
  obtain ⟨r, A, e, h1, h2⟩ := best_head M
  have q1 := hb st rs M
  have q2 := hr st rs r.1 M ((M.vb r h1).mono (by decide))
  rw [e] at q1
  rw [h2] at q2
  simp [B_one_revenue, evE, evEs, evO, evOc, evC, evAll, evAny, evAnd, evOr, depAll_nil, get_app, set_app, get_app1, get_map_last, sat_nil, sat_cons, after_nx, after_rt, after_bk, after_ct, brn_true, brn_false, sat_ifs, evFr_disp, evFr_lof, evFr_add, evFr_lzip, exS_asg, exS_par, exS_setix, exS_expr, exS_ret, exS_retN, exS_pass, exS_brk, exS_cont, exS_thr, need, bopSem, blSem, ixSem, setAll, asgT, asgL, trunc, rdD, allV, isiSem, isTy, tyOf, tyFits, nexc, items, lstI, L2.atI, L2.ixN, Res.sat_bind, Res.sat_ite, oneR, Wk.asg, wipe, List.replicate, cmp_ones, cmp_eq_int, cmp_ne_int, cmp_lt_int, cmp_le_int, cmp_gt_int, cmp_ge_int, cmp_eq_rt, cmp_ne_rt, cmp_ne_str, cmp_ne_bl, q1, q2]
theorem rising_zip : ∀ {l : List Rat}, l.Pairwise (· < ·) → (l.zip (l.drop 1)).all fun p => decide (p.1 < p.2)
  | [], _ => rfl
  | [_], _ => rfl
  | a :: b :: l, h => by
    rw [List.pairwise_cons] at h
    have h1 := h.1 b List.mem_cons_self
    have h2 := rising_zip (l := b :: l) h.2
    simp only [List.drop_succ_cons, List.drop_zero, List.zip_cons_cons, List.all_cons] at h2 ⊢
    simp only [h1, decide_true, Bool.true_and]
    exact h2
theorem vals_true {l : List Rat} (h : l.Pairwise (· < ·)) (h1 : 1 ≤ l.length) (h6 : l.length ≤ 6) (h0 : ∀ x ∈ l, 0 < x) : valsV (.tup (l.map rt)) = true := by
  unfold valsV
  simp only [List.length_map, h1, h6, and_self, decide_true, Bool.true_and, Bool.and_eq_true]
  refine ⟨?_, ?_⟩
  · rw [List.all_map, List.all_eq_true]
    intro x hx
    show aboveV (rt x) = true
    unfold aboveV
    rw [asQ_rt]
    exact decide_eq_true (h0 x hx)
  · rw [← List.map_drop, List.zip_map, List.all_map]
    have := rising_zip h
    rw [List.all_eq_true] at this ⊢
    intro p hp
    show lessV (rt p.1) (rt p.2) = true
    rw [lessV_rt]
    exact this p hp
theorem mkt_V {rs : List Row} (M : Mk rs) : marketV (mkt rs) = true := by
  have h1 : (rs.map rowD).all isRow = true := by
    rw [List.all_map, List.all_eq_true]
    intro r _
    rfl
  have h2 : (rs.map rowD).map fstV = (rs.map (·.1)).map rt := by
    rw [List.map_map, List.map_map]
    rfl
  have h3 : valsV (.tup ((rs.map rowD).map fstV)) = true := by
    rw [h2]
    refine vals_true (List.pairwise_map.mpr M.up) (by rw [List.length_map]; exact M.ne) (by rw [List.length_map]; exact M.le) fun x hx => ?_
    obtain ⟨r, hr, rfl⟩ := List.mem_map.mp hx
    exact M.v0 r hr
  have h4 : ((rs.map rowD).all fun r => aboveV (sndV r)) = true := by
    rw [List.all_map, List.all_eq_true]
    intro r hr
    show aboveV (rt r.2) = true
    unfold aboveV
    rw [asQ_rt]
    exact decide_eq_true (M.m0 r hr)
  unfold mkt rowsD marketV
  simp only [h1, h3, h4, decide_true, Bool.and_self]
theorem mkt_ok {rs : List Row} (M : Mk rs) : (mkt rs).ok := by
  simp only [mkt, rowsD, D.ok, D.okAll, true_and, and_true]
  refine okAll_of fun x hx => ?_
  obtain ⟨r, hr, rfl⟩ := List.mem_map.mp hx
  simp only [rowD, D.ok, D.okAll, and_true]
  exact ⟨rb_ok ((M.vb r hr).mono (by decide)), rb_ok ((M.mb r hr).mono (by decide))⟩
structure SPub (C : Nat → List S → Store → Res S) (f ci : Nat) (g : List Row → D) : Prop where
  good : ∀ (st : Store) (rs : List Row), Mk rs → C f [.v (mkt rs)] st = .ok (.v (g rs)) st
  bad : ∀ (st : Store) (v : D), v.ok → marketV v = false → C f [.v v] st = .ex ci [] [] st
structure SPubP (C : Nat → List S → Store → Res S) (f ci cp : Nat) (g : List Row → Rat → D) : Prop where
  good : ∀ (st : Store) (rs : List Row) (p : Rat), Mk rs → 0 < p → Rb 60 p → C f [.v (mkt rs), .v (rt p)] st = .ok (.v (g rs p)) st
  bad : ∀ (st : Store) (v w : D), v.ok → marketV v = false → C f [.v v, .v w] st = .ex ci [] [] st
  badP : ∀ (st : Store) (v w : D), v.ok → marketV v = true → w.ok → aboveV w = false → C f [.v v, .v w] st = .ex cp [] [] st
theorem sp_pub {fn fg ci : Nat} {g : List Row → D} (hf : F f = some ⟨1, 1, (.cons (.expr (.call fn (.cons (.var 0) .nil))) (.cons (.ret (.call fg (.cons (.ix (.var 0) (.cint (1))) .nil))) .nil))⟩) (hk : G.keep.contains f = false) (hn : SNeed (callK G F k) fn marketV ci)
    (hg : ∀ (st : Store) (rs : List Row), Mk rs → callK G F k fg [.v (rowsD rs)] st = .ok (.v (g rs)) st) : SPub (callK G F (k + 1)) f ci g where
  good := fun st rs M => by
    refine call_eq hf rfl hk ?_
    have e1 := hn st (mkt rs) (mkt_ok M)
    rw [mkt_V M, if_pos rfl] at e1
    have e2 := hg st rs M
    unfold mkt at e1 ⊢
    simp [evE, evEs, evO, evOc, evC, evAll, evAny, evAnd, evOr, depAll_nil, get_app, set_app, get_app1, get_map_last, sat_nil, sat_cons, after_nx, after_rt, after_bk, after_ct, brn_true, brn_false, sat_ifs, evFr_disp, evFr_lof, evFr_add, evFr_lzip, exS_asg, exS_par, exS_setix, exS_expr, exS_ret, exS_retN, exS_pass, exS_brk, exS_cont, exS_thr, need, bopSem, blSem, ixSem, setAll, asgT, asgL, trunc, rdD, allV, isiSem, isTy, tyOf, tyFits, nexc, items, lstI, L2.atI, L2.ixN, Res.sat_bind, Res.sat_ite, oneR, Wk.asg, wipe, List.replicate, cmp_ones, cmp_eq_int, cmp_ne_int, cmp_lt_int, cmp_le_int, cmp_gt_int, cmp_ge_int, cmp_eq_rt, cmp_ne_rt, cmp_ne_str, cmp_ne_bl, e1, e2]
  bad := fun st v hv h => by
    refine call_ex hf rfl ?_
    have e1 := hn st v hv
    rw [h, if_neg Bool.false_ne_true] at e1
    simp [exSs, exS, evE, evEs, e1]
theorem sp_pubP {fn fp fg ci cp : Nat} {g : List Row → Rat → D} (hf : F f = some ⟨2, 2, (.cons (.expr (.call fn (.cons (.var 0) .nil))) (.cons (.expr (.call fp (.cons (.var 1) .nil))) (.cons (.ret (.call fg (.cons (.ix (.var 0) (.cint (1))) (.cons (.var 1) .nil)))) .nil)))⟩) (hk : G.keep.contains f = false)
    (hn : SNeed (callK G F k) fn marketV ci) (hp : SNeed (callK G F k) fp aboveV cp) (hg : ∀ (st : Store) (rs : List Row) (p : Rat), Mk rs → Rb 60 p → callK G F k fg [.v (rowsD rs), .v (rt p)] st = .ok (.v (g rs p)) st) : SPubP (callK G F (k + 1)) f ci cp g where
  good := fun st rs p M h0 hb => by
    refine call_eq hf rfl hk ?_
    have e1 := hn st (mkt rs) (mkt_ok M)
    rw [mkt_V M, if_pos rfl] at e1
    have e3 := hp st (rt p) (rb_ok (hb.mono (by decide)))
    have e4 : aboveV (rt p) = true := by
      unfold aboveV
      rw [asQ_rt]
      exact decide_eq_true h0
    rw [e4, if_pos rfl] at e3
    have e2 := hg st rs p M hb
    unfold mkt at e1 ⊢
    simp [evE, evEs, evO, evOc, evC, evAll, evAny, evAnd, evOr, depAll_nil, get_app, set_app, get_app1, get_map_last, sat_nil, sat_cons, after_nx, after_rt, after_bk, after_ct, brn_true, brn_false, sat_ifs, evFr_disp, evFr_lof, evFr_add, evFr_lzip, exS_asg, exS_par, exS_setix, exS_expr, exS_ret, exS_retN, exS_pass, exS_brk, exS_cont, exS_thr, need, bopSem, blSem, ixSem, setAll, asgT, asgL, trunc, rdD, allV, isiSem, isTy, tyOf, tyFits, nexc, items, lstI, L2.atI, L2.ixN, Res.sat_bind, Res.sat_ite, oneR, Wk.asg, wipe, List.replicate, cmp_ones, cmp_eq_int, cmp_ne_int, cmp_lt_int, cmp_le_int, cmp_gt_int, cmp_ge_int, cmp_eq_rt, cmp_ne_rt, cmp_ne_str, cmp_ne_bl, e1, e2, e3]
  bad := fun st v w hv h => by
    refine call_ex hf rfl ?_
    have e1 := hn st v hv
    rw [h, if_neg Bool.false_ne_true] at e1
    simp [exSs, exS, evE, evEs, e1]
  badP := fun st v w hv h hw h2 => by
    refine call_ex hf rfl ?_
    have e1 := hn st v hv
    rw [h, if_pos rfl] at e1
    have e2 := hp st w hw
    rw [h2, if_neg Bool.false_ne_true] at e2
    simp [exSs, exS, evE, evEs, e1, e2]
end
end Sw

set_option linter.all false
set_option maxRecDepth 100000
set_option maxHeartbeats 4000000
namespace Sw
open PySem
section
variable {G : Gt} {F : Nat → Option Fd} {C : Nat → List S → Store → Res S} {k f : Nat}
theorem dep_rts : ∀ l : List Rat, D.depAll (l.map rt) ≤ 1
  | [] => Nat.zero_le _
  | q :: l => by
    simp only [List.map_cons, D.depAll, dep_rt]
    exact Nat.max_le.mpr ⟨Nat.le_refl _, dep_rts l⟩
theorem cmp_ne_rts (l : List Rat) (st : Store) : cmpSem .ne (.v (.lst (l.map rt))) (.v (.lst [])) st = some (!l.isEmpty) := by
  have h := dep_rts l
  have h2 : D.depAll (l.map rt) + 1 ≤ 60 := by omega
  simp only [cmpSem, rdD, Option.bind_some, D.dep, depAll_nil, eqv_ones, h2, List.isEmpty_map]
  simp
theorem cmp_nin_rts (q : Rat) (l : List Rat) (st : Store) : cmpSem .nin (.v (rt q)) (.v (.lst (l.map rt))) st = some (!decide (q ∈ l)) := by
  have h := dep_rts l
  have h2 : D.depAll (l.map rt) + 1 ≤ 60 := by omega
  have h3 : ((l.map rt).any fun z => z.eqv (rt q)) = decide (q ∈ l) := by
    rw [List.any_map]
    by_cases hm : q ∈ l
    · rw [decide_eq_true hm, List.any_eq_true]
      exact ⟨q, hm, by show D.eqv (rt q) (rt q) = true; rw [eqv_rt]; simp⟩
    · rw [decide_eq_false hm, List.any_eq_false]
      intro x hx
      show ¬ D.eqv (rt x) (rt q) = true
      rw [eqv_rt]
      simp only [decide_eq_true_eq]
      exact fun e => hm (e ▸ hx)
  have e : rt q = .tup [.int q.num, .int q.den] := rfl
  rw [e] at h3 ⊢
  simp only [cmpSem, rdD, Option.bind_some, D.dep, D.depAll, h2, h3]
  simp
theorem bop_add_lst {a b : List D} {st : Store} (h : a.length + b.length ≤ 1000) : bopSem .add (.v (.lst a)) (.v (.lst b)) st = some (.v (.lst (a ++ b))) := by
  have h2 : a.length + b.length ≤ sizeLine := by rw [sizeLine_eq]; omega
  simp only [bopSem, rdD, Option.bind_some, h2, if_true]
def RiseIn (l left found : List Rat) (st0 : Store) (r : List Rat) (ρ : Env) (st : Store) : Prop := st = st0 ∧ (∀ x ∈ r, x ∈ left) ∧ ∃ low e4, low ∈ left ∧ (∀ x ∈ left, x ∈ r ∨ low ≤ x) ∧ ρ = [some (.v (.lst (l.map rt))), some (.v (.lst (left.map rt))), some (.v (.lst (found.map rt))), some (.v (rt low)), e4]
def SRise (C : Nat → List S → Store → Res S) (f : Nat) : Prop := ∀ (st : Store) (l : List Rat), l.length ≤ 100 → (∀ x ∈ l, Rb 3000 x) → ∃ l' : List Rat, C f [.v (.lst (l.map rt))] st = .ok (.v (.lst (l'.map rt))) st ∧ l'.Pairwise (· < ·) ∧ l'.length ≤ l.length ∧ ∀ x, x ∈ l' ↔ x ∈ l
theorem sp_rising {fl : Nat} (hf : F f = some (B_law_mk_rising fl)) (hk : G.keep.contains f = false) (hl : SLess (callK G F k) fl) : SRise (callK G F (k + 1)) f := by
  intro st l hlen hb
  have key : (callK G F (k + 1) f [.v (.lst (l.map rt))] st).sat fun v st' => ∃ l' : List Rat, v = .v (.lst (l'.map rt)) ∧ st' = st ∧ l'.Pairwise (· < ·) ∧ l'.length ≤ l.length ∧ ∀ x, x ∈ l' ↔ x ∈ l := by
    refine call_sat hf rfl hk ?_
    simp [B_law_mk_rising, evE, evEs, evO, evOc, evC, evAll, evAny, evAnd, evOr, depAll_nil, get_app, set_app, get_app1, get_map_last, sat_nil, sat_cons, after_nx, after_rt, after_bk, after_ct, brn_true, brn_false, sat_ifs, evFr_disp, evFr_lof, evFr_add, evFr_lzip, exS_asg, exS_par, exS_setix, exS_expr, exS_ret, exS_retN, exS_pass, exS_brk, exS_cont, exS_thr, need, bopSem, blSem, ixSem, setAll, asgT, asgL, trunc, rdD, allV, isiSem, isTy, tyOf, tyFits, nexc, items, lstI, L2.atI, L2.ixN, Res.sat_bind, Res.sat_ite, oneR, Wk.asg, wipe, List.replicate, cmp_ones, cmp_eq_int, cmp_ne_int, cmp_lt_int, cmp_le_int, cmp_gt_int, cmp_ge_int, cmp_eq_rt, cmp_ne_rt, cmp_ne_str, cmp_ne_bl, allV_map]
    have av : allV (List.map (S.v ∘ rt) l) = some (l.map rt) := allV_mapF rt l
    simp [av]
    refine whl_run (fun m ρ' st' => st' = st ∧ ∃ left found e3 e4, m = List.length left ∧ found.Pairwise (· < ·) ∧ (∀ a ∈ found, ∀ b ∈ left, a < b) ∧ (∀ x, x ∈ l ↔ x ∈ found ∨ x ∈ left) ∧ found.length + left.length ≤ l.length ∧
      ρ' = [some (.v (.lst (l.map rt))), some (.v (.lst (left.map rt))), some (.v (.lst (found.map rt))), e3, e4]) (n0 := l.length) ⟨rfl, l, [], none, none, rfl, List.Pairwise.nil, (fun a h => nomatch h), (fun x => by simp), by simp, rfl⟩ fun m ρ' st' h => ?_
    obtain ⟨rfl, left, found, e3, e4, rfl, h1, h2, h3, h4, rfl⟩ := h
    cases left with
    | nil =>
      have := cmp_ne_rts [] st'
      simp only [List.map_nil] at this
      simp [evE, evEs, evO, evOc, evC, evAll, evAny, evAnd, evOr, depAll_nil, get_app, set_app, get_app1, get_map_last, sat_nil, sat_cons, after_nx, after_rt, after_bk, after_ct, brn_true, brn_false, sat_ifs, evFr_disp, evFr_lof, evFr_add, evFr_lzip, exS_asg, exS_par, exS_setix, exS_expr, exS_ret, exS_retN, exS_pass, exS_brk, exS_cont, exS_thr, need, bopSem, blSem, ixSem, setAll, asgT, asgL, trunc, rdD, allV, isiSem, isTy, tyOf, tyFits, nexc, items, lstI, L2.atI, L2.ixN, Res.sat_bind, Res.sat_ite, oneR, Wk.asg, wipe, List.replicate, cmp_ones, cmp_eq_int, cmp_ne_int, cmp_lt_int, cmp_le_int, cmp_gt_int, cmp_ge_int, cmp_eq_rt, cmp_ne_rt, cmp_ne_str, cmp_ne_bl, this]
      exact ⟨found, rfl, h1, by simpa using h4, fun x => by rw [h3 x]; simp⟩
    | cons y ys =>
      have := cmp_ne_rts (y :: ys) st'
      simp only [List.map_cons] at this
      simp [evE, evEs, evO, evOc, evC, evAll, evAny, evAnd, evOr, depAll_nil, get_app, set_app, get_app1, get_map_last, sat_nil, sat_cons, after_nx, after_rt, after_bk, after_ct, brn_true, brn_false, sat_ifs, evFr_disp, evFr_lof, evFr_add, evFr_lzip, exS_asg, exS_par, exS_setix, exS_expr, exS_ret, exS_retN, exS_pass, exS_brk, exS_cont, exS_thr, need, bopSem, blSem, ixSem, setAll, asgT, asgL, trunc, rdD, allV, isiSem, isTy, tyOf, tyFits, nexc, items, lstI, L2.atI, L2.ixN, Res.sat_bind, Res.sat_ite, oneR, Wk.asg, wipe, List.replicate, cmp_ones, cmp_eq_int, cmp_ne_int, cmp_lt_int, cmp_le_int, cmp_gt_int, cmp_ge_int, cmp_eq_rt, cmp_ne_rt, cmp_ne_str, cmp_ne_bl, this]
      refine for_sq (y :: ys) rt (RiseIn l (y :: ys) found st') (x := .lst ((y :: ys).map rt)) (st1 := st') (by simp [evE, evEs, evO, evOc, evC, evAll, evAny, evAnd, evOr, depAll_nil, get_app, set_app, get_app1, get_map_last, sat_nil, sat_cons, after_nx, after_rt, after_bk, after_ct, brn_true, brn_false, sat_ifs, evFr_disp, evFr_lof, evFr_add, evFr_lzip, exS_asg, exS_par, exS_setix, exS_expr, exS_ret, exS_retN, exS_pass, exS_brk, exS_cont, exS_thr, need, bopSem, cmpSem, blSem, ixSem, setAll, asgT, asgL, trunc, rdD, allV, isiSem, isTy, tyOf, tyFits, nexc, items, lstI, L2.atI, L2.ixN, Res.sat_bind, Res.sat_ite, oneR, Wk.asg, wipe, List.replicate]) (.inl rfl) ⟨rfl, fun x hx => hx, y, e4, List.mem_cons_self, fun x hx => .inl hx, rfl⟩ (fun z r ρ' st'' h => ?_) fun ρ' st'' h => ?_
      · obtain ⟨rfl, hr, low, e4, hlow, hle, rfl⟩ := h
        refine ⟨_, rfl, ?_⟩
        have mem : ∀ x ∈ y :: ys, Rb 3000 x := fun x hx => hb x ((h3 x).mpr (.inr hx))
        have hz := hr z List.mem_cons_self
        have q := hl st'' z low (mem z hz) (mem low hlow)
        by_cases hzl : z < low
        · simp [evE, evEs, evO, evOc, evC, evAll, evAny, evAnd, evOr, depAll_nil, get_app, set_app, get_app1, get_map_last, sat_nil, sat_cons, after_nx, after_rt, after_bk, after_ct, brn_true, brn_false, sat_ifs, evFr_disp, evFr_lof, evFr_add, evFr_lzip, exS_asg, exS_par, exS_setix, exS_expr, exS_ret, exS_retN, exS_pass, exS_brk, exS_cont, exS_thr, need, bopSem, blSem, ixSem, setAll, asgT, asgL, trunc, rdD, allV, isiSem, isTy, tyOf, tyFits, nexc, items, lstI, L2.atI, L2.ixN, Res.sat_bind, Res.sat_ite, oneR, Wk.asg, wipe, List.replicate, cmp_ones, cmp_eq_int, cmp_ne_int, cmp_lt_int, cmp_le_int, cmp_gt_int, cmp_ge_int, cmp_eq_rt, cmp_ne_rt, cmp_ne_str, cmp_ne_bl, q, hzl]
          refine ⟨rfl, fun x hx => hr x (List.mem_cons_of_mem _ hx), z, _, hz, fun x hx => ?_, rfl⟩
          rcases hle x hx with h | h
          · rcases List.mem_cons.mp h with rfl | h
            · exact .inr Rat.le_refl
            · exact .inl h
          · exact .inr (by grind)
        · simp [evE, evEs, evO, evOc, evC, evAll, evAny, evAnd, evOr, depAll_nil, get_app, set_app, get_app1, get_map_last, sat_nil, sat_cons, after_nx, after_rt, after_bk, after_ct, brn_true, brn_false, sat_ifs, evFr_disp, evFr_lof, evFr_add, evFr_lzip, exS_asg, exS_par, exS_setix, exS_expr, exS_ret, exS_retN, exS_pass, exS_brk, exS_cont, exS_thr, need, bopSem, blSem, ixSem, setAll, asgT, asgL, trunc, rdD, allV, isiSem, isTy, tyOf, tyFits, nexc, items, lstI, L2.atI, L2.ixN, Res.sat_bind, Res.sat_ite, oneR, Wk.asg, wipe, List.replicate, cmp_ones, cmp_eq_int, cmp_ne_int, cmp_lt_int, cmp_le_int, cmp_gt_int, cmp_ge_int, cmp_eq_rt, cmp_ne_rt, cmp_ne_str, cmp_ne_bl, q, hzl]
          refine ⟨rfl, fun x hx => hr x (List.mem_cons_of_mem _ hx), low, _, hlow, fun x hx => ?_, rfl⟩
          rcases hle x hx with h | h
          · rcases List.mem_cons.mp h with rfl | h
            · exact .inr (Rat.not_lt.mp hzl)
            · exact .inl h
          · exact .inr h
      · obtain ⟨rfl, _, low, e4, hlow, hle, rfl⟩ := h
        have hle2 : ∀ x ∈ y :: ys, low ≤ x := fun x hx => (hle x hx).resolve_left (by simp)
        have hsz : found.length + 1 ≤ sizeLine := by rw [sizeLine_eq]; simp at h4; omega
        simp [evE, evEs, evO, evOc, evC, evAll, evAny, evAnd, evOr, depAll_nil, get_app, set_app, get_app1, get_map_last, sat_nil, sat_cons, after_nx, after_rt, after_bk, after_ct, brn_true, brn_false, sat_ifs, evFr_disp, evFr_lof, evFr_add, evFr_lzip, exS_asg, exS_par, exS_setix, exS_expr, exS_ret, exS_retN, exS_pass, exS_brk, exS_cont, exS_thr, need, bopSem, blSem, ixSem, setAll, asgT, asgL, trunc, rdD, allV, isiSem, isTy, tyOf, tyFits, nexc, items, lstI, L2.atI, L2.ixN, Res.sat_bind, Res.sat_ite, oneR, Wk.asg, wipe, List.replicate, cmp_ones, cmp_eq_int, cmp_ne_int, cmp_lt_int, cmp_le_int, cmp_gt_int, cmp_ge_int, cmp_eq_rt, cmp_ne_rt, cmp_ne_str, cmp_ne_bl, hsz]
        refine comp_sq (y :: ys) rt (fun x => if !decide (x = low) then some (.v (rt x)) else none) (x := .lst ((y :: ys).map rt)) (st1 := st'') (by simp [evE, evEs, evO, evOc, evC, evAll, evAny, evAnd, evOr, depAll_nil, get_app, set_app, get_app1, get_map_last, sat_nil, sat_cons, after_nx, after_rt, after_bk, after_ct, brn_true, brn_false, sat_ifs, evFr_disp, evFr_lof, evFr_add, evFr_lzip, exS_asg, exS_par, exS_setix, exS_expr, exS_ret, exS_retN, exS_pass, exS_brk, exS_cont, exS_thr, need, bopSem, cmpSem, blSem, ixSem, setAll, asgT, asgL, trunc, rdD, allV, isiSem, isTy, tyOf, tyFits, nexc, items, lstI, L2.atI, L2.ixN, Res.sat_bind, Res.sat_ite, oneR, Wk.asg, wipe, List.replicate]) (.inl rfl) (fun x hx => ?_) ?_
        · by_cases h : x = low <;> simp [evE, evEs, evO, evOc, evC, evAll, evAny, evAnd, evOr, depAll_nil, get_app, set_app, get_app1, get_map_last, sat_nil, sat_cons, after_nx, after_rt, after_bk, after_ct, brn_true, brn_false, sat_ifs, evFr_disp, evFr_lof, evFr_add, evFr_lzip, exS_asg, exS_par, exS_setix, exS_expr, exS_ret, exS_retN, exS_pass, exS_brk, exS_cont, exS_thr, need, bopSem, blSem, ixSem, setAll, asgT, asgL, trunc, rdD, allV, isiSem, isTy, tyOf, tyFits, nexc, items, lstI, L2.atI, L2.ixN, Res.sat_bind, Res.sat_ite, oneR, Wk.asg, wipe, List.replicate, cmp_ones, cmp_eq_int, cmp_ne_int, cmp_lt_int, cmp_le_int, cmp_gt_int, cmp_ge_int, cmp_eq_rt, cmp_ne_rt, cmp_ne_str, cmp_ne_bl, h]
        · simp only [rtsF (fun x => !decide (x = low)) (fun x : Rat => x), Res.sat_ok, List.map_id']
          refine ⟨_, ?_, trivial, (y :: ys).filter (fun x => !decide (x = low)), rfl, found ++ [low], ?_, ?_, ?_, ?_, rfl, by simp⟩
          · have : ((y :: ys).filter fun x => !decide (x = low)).length < (y :: ys).length := by
              refine List.length_filter_lt_length_iff_exists.mpr ⟨low, hlow, by simp⟩
            simpa using this
          · rw [List.pairwise_append]
            exact ⟨h1, by simp, fun a ha b hb => by
              have : b = low := by simpa using hb
              rw [this]
              exact h2 a ha low hlow⟩
          · intro a ha b hb
            obtain ⟨hb1, hb2⟩ := List.mem_filter.mp hb
            rcases List.mem_append.mp ha with h | h
            · exact h2 a h b hb1
            · have e : a = low := by simpa using h
              have ne : b ≠ low := by simpa using hb2
              have := hle2 b hb1
              rw [e]
              rcases Classical.em (low < b) with q | q
              · exact q
              · exact absurd (Rat.le_antisymm (Rat.not_lt.mp q) this) ne
          · intro x
            rw [h3 x, List.mem_append, List.mem_filter]
            simp only [List.mem_singleton, Bool.not_eq_true', decide_eq_false_iff_not]
            by_cases e : x = low
            · subst e
              simp [hlow]
            · simp [e]
          · have h5 : ((y :: ys).filter fun x => !decide (x = low)).length < (y :: ys).length := by
              refine List.length_filter_lt_length_iff_exists.mpr ⟨low, hlow, by simp⟩
            rw [List.length_append, List.length_singleton]
            omega
  obtain ⟨v, st', e, l', rfl, rfl, r1, r2, r3⟩ := key.ex
  exact ⟨l', e, r1, r2, r3⟩
theorem drop_range {n i a : Nat} {r : List Nat} (h : (List.range n).drop i = a :: r) : a = i ∧ i < n ∧ r = (List.range n).drop (i + 1) := by
  by_cases hi : i < n
  · rw [List.drop_eq_getElem_cons (by simpa using hi)] at h
    cases h
    exact ⟨by simp, hi, rfl⟩
  · rw [List.drop_eq_nil_of_le (by simp; omega)] at h
    cases h
theorem ixN_nat {n i : Nat} (h : i < n) : L2.ixN n (i : Int) = some i := by
  unfold L2.ixN
  simp
  omega
theorem div_lt {a x y : Rat} (ha : 0 < a) (hx : 0 < x) (h : x < y) : a / y < a / x := by
  have hy : 0 < y := by grind
  have e1 : a / y * y = a := Rat.div_mul_cancel (by grind)
  have e2 : a / x * x = a := Rat.div_mul_cancel (by grind)
  have p1 : 0 < a / x := by
    rcases Classical.em (0 < a / x) with q | q
    · exact q
    · have q' := Rat.not_lt.mp q
      have := Rat.mul_le_mul_of_nonneg_right q' (Rat.le_of_lt hx)
      grind
  rcases Classical.em (a / y < a / x) with q | q
  · exact q
  · have q' := Rat.not_lt.mp q
    have h1 := Rat.mul_le_mul_of_nonneg_right q' (Rat.le_of_lt hy)
    have h2 := Rat.mul_lt_mul_of_pos_left h p1
    grind
theorem div_pos {a x : Rat} (ha : 0 < a) (hx : 0 < x) : 0 < a / x := by
  have e2 : a / x * x = a := Rat.div_mul_cancel (by grind)
  rcases Classical.em (0 < a / x) with q | q
  · exact q
  · have q' := Rat.not_lt.mp q
    have := Rat.mul_le_mul_of_nonneg_right q' (Rat.le_of_lt hx)
    grind
def SEven (C : Nat → List S → Store → Res S) (f : Nat) : Prop := ∀ (st : Store) (vs : List Rat) (m : Rat), vs.Pairwise (· < ·) → vs ≠ [] → vs.length ≤ 6 → (∀ x ∈ vs, 0 < x ∧ Rb 20 x) → 0 < m → Rb 10 m →
  ∃ ms : List Rat, C f [.v (.lst (vs.map rt)), .v (rt m)] st = .ok (.v (.tup ((vs.zip ms).map rowD))) st ∧ ms.length = vs.length ∧ ∀ x ∈ ms, 0 < x ∧ Rb 91 x
def EvenIn (vs : List Rat) (m : Rat) (st0 : Store) (r : List Nat) (ρ : Env) (st : Store) : Prop := ∃ i ms e3 e4 e5, r = (List.range vs.length).drop i ∧ i ≤ vs.length ∧ ms.length = i ∧ (∀ x ∈ ms, 0 < x ∧ Rb 91 x) ∧ st = st0 ++ [some (.lst ((vs.zip ms).map (S.v ∘ rowD)))] ∧ ρ = [some (.v (.lst (vs.map rt))), some (.v (rt m)), some (.r st0.length), e3, e4, e5]
theorem zip_snoc {vs ms : List Rat} {x : Rat} (h : ms.length < vs.length) : vs.zip (ms ++ [x]) = vs.zip ms ++ [(vs[ms.length], x)] := by
  induction vs generalizing ms with
  | nil => simp at h
  | cons v vs ih =>
    cases ms with
    | nil => simp
    | cons a ms =>
      simp only [List.length_cons] at h
      simp [ih (ms := ms) (by omega)]
theorem sp_even {fo ft fm : Nat} (hf : F f = some (B_law_mk_even fo ft fm)) (hk : G.keep.contains f = false) (ho : SOver (callK G F k) fo) (ht : S2 (callK G F k) ft (· * ·)) (hm : S2 (callK G F k) fm (· - ·)) : SEven (callK G F (k + 1)) f := by
  intro st vs m hup hne hlen hv hm0 hmb
  have key : (callK G F (k + 1) f [.v (.lst (vs.map rt)), .v (rt m)] st).sat fun v st' => ∃ ms : List Rat, v = .v (.tup ((vs.zip ms).map rowD)) ∧ st' = st ∧ ms.length = vs.length ∧ ∀ x ∈ ms, 0 < x ∧ Rb 91 x := by
    refine call_sat hf rfl hk ?_
    simp [B_law_mk_even, evE, evEs, evO, evOc, evC, evAll, evAny, evAnd, evOr, depAll_nil, get_app, set_app, get_app1, get_map_last, sat_nil, sat_cons, after_nx, after_rt, after_bk, after_ct, brn_true, brn_false, sat_ifs, evFr_disp, evFr_lof, evFr_add, evFr_lzip, exS_asg, exS_par, exS_setix, exS_expr, exS_ret, exS_retN, exS_pass, exS_brk, exS_cont, exS_thr, need, bopSem, blSem, ixSem, setAll, asgT, asgL, trunc, rdD, allV, isiSem, isTy, tyOf, tyFits, nexc, items, lstI, L2.atI, L2.ixN, Res.sat_bind, Res.sat_ite, oneR, Wk.asg, wipe, List.replicate, cmp_ones, cmp_eq_int, cmp_ne_int, cmp_lt_int, cmp_le_int, cmp_gt_int, cmp_ge_int, cmp_eq_rt, cmp_ne_rt, cmp_ne_str, cmp_ne_bl]
    have hI : EvenIn vs m st (List.range vs.length) [some (.v (.lst (vs.map rt))), some (.v (rt m)), some (.r st.length), none, none, none] (st ++ [some (.lst [])]) := ⟨0, [], none, none, none, by simp, Nat.zero_le _, rfl, (fun x hx => nomatch hx), by simp, rfl⟩
    have hn : vs.length ≤ 1000 := by omega
    refine for_rng vs.length (EvenIn vs m st) (st1 := st ++ [some (.lst [])]) (by simp [evE, evEs, evO, evOc, evC, evAll, evAny, evAnd, evOr, depAll_nil, get_app, set_app, get_app1, get_map_last, sat_nil, sat_cons, after_nx, after_rt, after_bk, after_ct, brn_true, brn_false, sat_ifs, evFr_disp, evFr_lof, evFr_add, evFr_lzip, exS_asg, exS_par, exS_setix, exS_expr, exS_ret, exS_retN, exS_pass, exS_brk, exS_cont, exS_thr, need, bopSem, cmpSem, blSem, ixSem, setAll, asgT, asgL, trunc, rdD, allV, isiSem, isTy, tyOf, tyFits, nexc, items, lstI, L2.atI, L2.ixN, Res.sat_bind, Res.sat_ite, oneR, Wk.asg, wipe, List.replicate]) hn hI (fun a r ρ' st' h => ?_) fun ρ' st' h => ?_
    · obtain ⟨i, ms, e3, e4, e5, hr, hi, hms, hb, rfl, rfl⟩ := h
      obtain ⟨rfl, hlt, hr2⟩ := drop_range hr.symm
      refine ⟨_, rfl, ?_⟩
      have h0 : 0 < vs.length := by omega
      have v0 := hv vs[0] (List.getElem_mem _)
      have vi := hv vs[a] (List.getElem_mem _)
      have hrange : a ≤ vs.length := hi
      have q1 := fun s => ho s vs[0] vs[a] (by have := vi.1; grind) (v0.2.mono (by decide)) (vi.2.mono (by decide))
      have own : Rb 40 (vs[0] / vs[a]) := Rb.div (by have := vi.1; grind) v0.2 vi.2
      have hsz : min vs.length ms.length < sizeLine := by rw [sizeLine_eq]; omega
      have ixa := ixN_nat hlt
      have next : ∀ (x : Rat) (e5 : Option S), 0 < x → Rb 91 x → EvenIn vs m st r [some (.v (.lst (vs.map rt))), some (.v (rt m)), some (.r st.length), some (.v (.int (a : Nat))), some (.v (rt (vs[0] / vs[a]))), e5] (st ++ [some (.lst ((vs.zip ms).map (S.v ∘ rowD) ++ [.v (rowD (vs[a], x))]))]) := fun x e5 hx hbx => by
        refine ⟨a + 1, ms ++ [x], _, _, _, hr2, by omega, by simp [hms], fun y hy => ?_, ?_, rfl⟩
        · rcases List.mem_append.mp hy with h | h
          · exact hb y h
          · have : y = x := by simpa using h
            rw [this]
            exact ⟨hx, hbx⟩
        · rw [zip_snoc (by omega)]
          simp [hms]
      have i0 : (0 : Int) < (vs.length : Int) := by omega
      have ia : ((a : Nat) : Int) < (vs.length : Int) := by omega
      by_cases hlast : a + 1 < vs.length
      · have vj := hv vs[a + 1] (List.getElem_mem _)
        have q2 := fun s => ho s vs[0] vs[a + 1] (by have := vj.1; grind) (v0.2.mono (by decide)) (vj.2.mono (by decide))
        have rst : Rb 40 (vs[0] / vs[a + 1]) := Rb.div (by have := vj.1; grind) v0.2 vj.2
        have q3 := fun s => hm s (vs[0] / vs[a]) (vs[0] / vs[a + 1]) (own.mono (by decide)) (rst.mono (by decide))
        have q4 := fun s => ht s m (vs[0] / vs[a] - vs[0] / vs[a + 1]) (hmb.mono (by decide)) ((own.sub rst).mono (by decide))
        have il : ((a : Nat) : Int) + 1 < (vs.length : Int) := by omega
        have it : (((a : Nat) : Int) + 1).toNat = a + 1 := by omega
        have ip : (0 : Int) ≤ ((a : Nat) : Int) + 1 := by omega
        simp [evE, evEs, evO, evOc, evC, evAll, evAny, evAnd, evOr, depAll_nil, get_app, set_app, get_app1, get_map_last, sat_nil, sat_cons, after_nx, after_rt, after_bk, after_ct, brn_true, brn_false, sat_ifs, evFr_disp, evFr_lof, evFr_add, evFr_lzip, exS_asg, exS_par, exS_setix, exS_expr, exS_ret, exS_retN, exS_pass, exS_brk, exS_cont, exS_thr, need, bopSem, blSem, ixSem, setAll, asgT, asgL, trunc, rdD, allV, isiSem, isTy, tyOf, tyFits, nexc, items, lstI, L2.atI, L2.ixN, Res.sat_bind, Res.sat_ite, oneR, Wk.asg, wipe, List.replicate, cmp_ones, cmp_eq_int, cmp_ne_int, cmp_lt_int, cmp_le_int, cmp_gt_int, cmp_ge_int, cmp_eq_rt, cmp_ne_rt, cmp_ne_str, cmp_ne_bl, i0, ia, h0, hlt, il, it, ip, hlast, q1, q2, q3, q4, mthTy, mthSem, hsz]
        refine next (m * (vs[0] / vs[a] - vs[0] / vs[a + 1])) _ (Rat.mul_pos hm0 ?_) ((hmb.mul (own.sub rst)).mono (by decide))
        have := div_lt (a := vs[0]) v0.1 vi.1 (List.pairwise_iff_getElem.mp hup a (a + 1) hlt hlast (by omega))
        grind
      · have q3 := fun s => hm s (vs[0] / vs[a]) 0 (own.mono (by decide)) (rb0.mono (by decide))
        have z0 : vs[0] / vs[a] - (0 : Rat) = vs[0] / vs[a] := by grind
        have q4 := fun s => ht s m (vs[0] / vs[a] - 0) (hmb.mono (by decide)) (by rw [z0]; exact own.mono (by decide))
        have il : ¬ ((a : Nat) : Int) + 1 < (vs.length : Int) := by omega
        simp [evE, evEs, evO, evOc, evC, evAll, evAny, evAnd, evOr, depAll_nil, get_app, set_app, get_app1, get_map_last, sat_nil, sat_cons, after_nx, after_rt, after_bk, after_ct, brn_true, brn_false, sat_ifs, evFr_disp, evFr_lof, evFr_add, evFr_lzip, exS_asg, exS_par, exS_setix, exS_expr, exS_ret, exS_retN, exS_pass, exS_brk, exS_cont, exS_thr, need, bopSem, blSem, ixSem, setAll, asgT, asgL, trunc, rdD, allV, isiSem, isTy, tyOf, tyFits, nexc, items, lstI, L2.atI, L2.ixN, Res.sat_bind, Res.sat_ite, oneR, Wk.asg, wipe, List.replicate, cmp_ones, cmp_eq_int, cmp_ne_int, cmp_lt_int, cmp_le_int, cmp_gt_int, cmp_ge_int, cmp_eq_rt, cmp_ne_rt, cmp_ne_str, cmp_ne_bl, i0, ia, h0, hlt, il, q1, rt0, q3, q4, mthTy, mthSem, hsz]
        exact next (m * (vs[0] / vs[a] - 0)) _ (by rw [z0]; exact Rat.mul_pos hm0 (div_pos v0.1 vi.1)) (by rw [z0]; exact (hmb.mul own).mono (by decide))
    · obtain ⟨i, ms, e3, e4, e5, hr, hi, hms, hb, rfl, rfl⟩ := h
      have hi2 : i = vs.length := by
        have := congrArg List.length hr
        simp at this
        omega
      have av : allV (List.map (S.v ∘ rowD) (vs.zip ms)) = some ((vs.zip ms).map rowD) := allV_mapF rowD _
      simp [evE, evEs, evO, evOc, evC, evAll, evAny, evAnd, evOr, depAll_nil, get_app, set_app, get_app1, get_map_last, sat_nil, sat_cons, after_nx, after_rt, after_bk, after_ct, brn_true, brn_false, sat_ifs, evFr_disp, evFr_lof, evFr_add, evFr_lzip, exS_asg, exS_par, exS_setix, exS_expr, exS_ret, exS_retN, exS_pass, exS_brk, exS_cont, exS_thr, need, bopSem, blSem, ixSem, setAll, asgT, asgL, trunc, rdD, allV, isiSem, isTy, tyOf, tyFits, nexc, items, lstI, L2.atI, L2.ixN, Res.sat_bind, Res.sat_ite, oneR, Wk.asg, wipe, List.replicate, cmp_ones, cmp_eq_int, cmp_ne_int, cmp_lt_int, cmp_le_int, cmp_gt_int, cmp_ge_int, cmp_eq_rt, cmp_ne_rt, cmp_ne_str, cmp_ne_bl, av]
      exact ⟨ms, rfl, by omega, hb⟩
  obtain ⟨v, st', e, ms, rfl, rfl, r1, r2⟩ := key.ex
  exact ⟨ms, e, r1, r2⟩
end
end Sw

set_option linter.all false
set_option maxRecDepth 100000
set_option maxHeartbeats 4000000
namespace Sw
open PySem
section
variable {G : Gt} {F : Nat → Option Fd} {C : Nat → List S → Store → Res S} {k f : Nat}
theorem divInt_pos {n d : Int} (hn : 0 < n) (hd : 0 < d) : 0 < Rat.divInt n d := by
  rw [← num_pos_iff, Rat.num_divInt, Int.sign_eq_one_of_pos hd, Int.one_mul]
  exact Int.ediv_pos_of_pos_of_dvd hn (by omega) (Int.gcd_dvd_right _ _)
def SMkt (C : Nat → List S → Store → Res S) (f : Nat) : Prop := ∀ (b : Nat) (ex st : Store), Dok (b + 40) ex st → (C f [.r 1, .v (.int 6)] st).sat fun v st' => ∃ rs, Mk rs ∧ v = .v (mkt rs) ∧ Dok b ex st'
theorem mk_of {vs ms : List Rat} (hup : vs.Pairwise (· < ·)) (hne : vs ≠ []) (hl : vs.length ≤ 6) (hv : ∀ x ∈ vs, 0 < x ∧ Rb 20 x) (hlen : ms.length = vs.length) (hm : ∀ x ∈ ms, 0 < x ∧ Rb 100 x) : Mk (vs.zip ms) := by
  have h1 : (vs.zip ms).map (·.1) = vs := List.map_fst_zip (by omega)
  refine ⟨?_, ?_, ?_, fun r hr => ?_, fun r hr => ?_, fun r hr => ?_, fun r hr => ?_⟩
  · rw [List.length_zip]
    have := List.length_pos_iff.mpr hne
    omega
  · rw [List.length_zip]; omega
  · rw [← h1] at hup
    exact List.pairwise_map.mp hup
  · exact (hv _ (List.of_mem_zip hr).1).1
  · exact (hm _ (List.of_mem_zip hr).2).1
  · exact (hv _ (List.of_mem_zip hr).1).2
  · exact (hm _ (List.of_mem_zip hr).2).2
def MkIn (b : Nat) (ex : Store) (s w : Int) (r : List Nat) (ρ : Env) (st : Store) : Prop := ∃ (vals : List Rat) (e3 e7 : Option S), (∀ x ∈ vals, 0 < x ∧ Rb 20 x) ∧ vals.length + r.length ≤ 6 ∧ (vals = [] → r ≠ []) ∧ Dok (b + 3 * r.length) ex st ∧
  ρ = [some (.r 1), some (.v (.int 6)), some (.v (.lst (vals.map rt))), e3, none, some (.v (.int s)), some (.v (.int w)), e7, none, none]
def MsIn (b : Nat) (ex : Store) (n : Nat) (acc : List S) (r : List Rat) (st : Store) : Prop := ∃ ms : List Rat, acc = ms.map (S.v ∘ rt) ∧ ms.length + r.length = n ∧ (∀ x ∈ ms, 0 < x ∧ Rb 4 x) ∧ Dok (b + 3 * r.length) ex st
theorem sp_mkmarket {fp fd fq fr fe fa : Nat} (hf : F f = some (B_law_mk_market fp fd fq fr fe fa)) (hk : G.keep.contains f = false) (hp : SPick (callK G F k) fp) (hd : SDraw (callK G F k) fd) (hq : SLow (callK G F k) fq) (hr : SRise (callK G F k) fr)
    (he : SEven (callK G F k) fe) (ha : S2 (callK G F k) fa (· + ·)) : SMkt (callK G F (k + 1)) f := by
  intro b ex st hD
  refine call_sat hf rfl hk ?_
  obtain ⟨_, st1, e1, d1, m1, rfl, D1⟩ := (hp (b + 39) ex st [.int 3, .int 9, .int 40, .int 1000000] (by simp) (by simp) hD).ex
  obtain ⟨s, rfl, s1, s2⟩ : ∃ s : Int, d1 = .int s ∧ 3 ≤ s ∧ s ≤ 1000000 := by
    simp at m1
    rcases m1 with rfl | rfl | rfl | rfl
    · exact ⟨3, rfl, by omega, by omega⟩
    · exact ⟨9, rfl, by omega, by omega⟩
    · exact ⟨40, rfl, by omega, by omega⟩
    · exact ⟨1000000, rfl, by omega, by omega⟩
  obtain ⟨_, st2, e2, w, w1, rfl, D2⟩ := (hd (b + 38) ex st1 4 (by omega) (big64 (by decide)) D1).ex
  obtain ⟨_, st3, e3, n, n1, rfl, D3⟩ := (hd (b + 37) ex st2 6 (by omega) (big64 (by decide)) D2).ex
  have p6 : powOk 10 6 = true := by decide
  simp [B_law_mk_market, evE, evEs, evO, evOc, evC, evAll, evAny, evAnd, evOr, depAll_nil, get_app, set_app, get_app1, get_map_last, sat_nil, sat_cons, after_nx, after_rt, after_bk, after_ct, brn_true, brn_false, sat_ifs, evFr_disp, evFr_lof, evFr_add, evFr_lzip, exS_asg, exS_par, exS_setix, exS_expr, exS_ret, exS_retN, exS_pass, exS_brk, exS_cont, exS_thr, need, bopSem, blSem, ixSem, setAll, asgT, asgL, trunc, rdD, allV, isiSem, isTy, tyOf, tyFits, nexc, items, lstI, L2.atI, L2.ixN, Res.sat_bind, Res.sat_ite, oneR, Wk.asg, wipe, List.replicate, cmp_ones, cmp_eq_int, cmp_ne_int, cmp_lt_int, cmp_le_int, cmp_gt_int, cmp_ge_int, cmp_eq_rt, cmp_ne_rt, cmp_ne_str, cmp_ne_bl, p6, e1, e2]
  refine for_rng (n + 1) (MkIn (b + 19) ex s w) (st1 := st3) (by simp [evE, evEs, evO, evOc, evC, evAll, evAny, evAnd, evOr, depAll_nil, get_app, set_app, get_app1, get_map_last, sat_nil, sat_cons, after_nx, after_rt, after_bk, after_ct, brn_true, brn_false, sat_ifs, evFr_disp, evFr_lof, evFr_add, evFr_lzip, exS_asg, exS_par, exS_setix, exS_expr, exS_ret, exS_retN, exS_pass, exS_brk, exS_cont, exS_thr, need, bopSem, blSem, ixSem, setAll, asgT, asgL, trunc, rdD, allV, isiSem, isTy, tyOf, tyFits, nexc, items, lstI, L2.atI, L2.ixN, Res.sat_bind, Res.sat_ite, oneR, Wk.asg, wipe, List.replicate, cmp_ones, cmp_eq_int, cmp_ne_int, cmp_lt_int, cmp_le_int, cmp_gt_int, cmp_ge_int, cmp_eq_rt, cmp_ne_rt, cmp_ne_str, cmp_ne_bl, e3]; omega) (by omega) ⟨[], none, none, by simp, by simp; omega, by simp, D3.mono (by simp; omega), rfl⟩ (fun a r ρ' st' h => ?_) fun ρ' st' h => ?_
  · obtain ⟨vals, e3', e7, hv, hl, hn, hD', rfl⟩ := h
    refine ⟨_, rfl, ?_⟩
    simp only [List.length_cons] at hl hD'
    obtain ⟨_, t1, g1, n1, x1, rfl, T1⟩ := (hd (b + 19 + 3 * r.length + 2) ex st' s (by omega) (big64 (by omega)) (hD'.mono (by omega))).ex
    obtain ⟨_, t2, g2, d2, x2, rfl, T2⟩ := (hp (b + 19 + 3 * r.length + 1) ex t1 [.int 1, .int 1, .int 3] (by simp) (by simp) T1).ex
    obtain ⟨p, rfl, p1, p2⟩ : ∃ p : Int, d2 = .int p ∧ 1 ≤ p ∧ p ≤ 3 := by
      simp at x2
      rcases x2 with rfl | rfl
      · exact ⟨1, rfl, by omega, by omega⟩
      · exact ⟨3, rfl, by omega, by omega⟩
    obtain ⟨_, t3, g3, n3, x3, rfl, T3⟩ := (hd (b + 19 + 3 * r.length) ex t2 p (by omega) (big64 (by omega)) T2).ex
    have g4 := hq t3 (1 + n1) (1 + n3) (by omega) (big64 (by omega)) (big64 (by omega))
    have q0 := divInt_pos (n := 1 + n1) (d := 1 + n3) (by omega) (by omega)
    have qb : Rb 20 (Rat.divInt (1 + n1) (1 + n3)) := .ofDiv (by omega) (by omega) (by omega)
    generalize Rat.divInt (1 + n1) (1 + n3) = q at g4 q0 qb
    have hsz : vals.length + 1 ≤ sizeLine := by rw [sizeLine_eq]; omega
    have hsz0 : vals.length ≤ sizeLine := by omega
    by_cases hin : q ∈ vals
    · simp [evE, evEs, evO, evOc, evC, evAll, evAny, evAnd, evOr, depAll_nil, get_app, set_app, get_app1, get_map_last, sat_nil, sat_cons, after_nx, after_rt, after_bk, after_ct, brn_true, brn_false, sat_ifs, evFr_disp, evFr_lof, evFr_add, evFr_lzip, exS_asg, exS_par, exS_setix, exS_expr, exS_ret, exS_retN, exS_pass, exS_brk, exS_cont, exS_thr, need, bopSem, blSem, ixSem, setAll, asgT, asgL, trunc, rdD, allV, isiSem, isTy, tyOf, tyFits, nexc, items, lstI, L2.atI, L2.ixN, Res.sat_bind, Res.sat_ite, oneR, Wk.asg, wipe, List.replicate, cmp_ones, cmp_eq_int, cmp_ne_int, cmp_lt_int, cmp_le_int, cmp_gt_int, cmp_ge_int, cmp_eq_rt, cmp_ne_rt, cmp_ne_str, cmp_ne_bl, g1, g2, g3, g4, cmp_nin_rts, hin, hsz0]
      refine ⟨vals, _, _, hv, by omega, fun e => by rw [e] at hin; exact absurd hin (by simp), T3, rfl⟩
    · simp [evE, evEs, evO, evOc, evC, evAll, evAny, evAnd, evOr, depAll_nil, get_app, set_app, get_app1, get_map_last, sat_nil, sat_cons, after_nx, after_rt, after_bk, after_ct, brn_true, brn_false, sat_ifs, evFr_disp, evFr_lof, evFr_add, evFr_lzip, exS_asg, exS_par, exS_setix, exS_expr, exS_ret, exS_retN, exS_pass, exS_brk, exS_cont, exS_thr, need, bopSem, blSem, ixSem, setAll, asgT, asgL, trunc, rdD, allV, isiSem, isTy, tyOf, tyFits, nexc, items, lstI, L2.atI, L2.ixN, Res.sat_bind, Res.sat_ite, oneR, Wk.asg, wipe, List.replicate, cmp_ones, cmp_eq_int, cmp_ne_int, cmp_lt_int, cmp_le_int, cmp_gt_int, cmp_ge_int, cmp_eq_rt, cmp_ne_rt, cmp_ne_str, cmp_ne_bl, g1, g2, g3, g4, cmp_nin_rts, hin, hsz]
      refine ⟨vals ++ [q], some (.v (.int (a : Nat))), some (.v (rt q)), fun x hx => ?_, by simp; omega, by simp, T3, by simp⟩
      rcases List.mem_append.mp hx with h | h
      · exact hv x h
      · have : x = q := by simpa using h
        rw [this]
        exact ⟨q0, qb⟩
  · obtain ⟨vals, e3', e7, hv, hl, hn, hD', rfl⟩ := h
    simp only [List.length_nil, Nat.mul_zero, Nat.add_zero] at hl hD' hn
    have hne : vals ≠ [] := fun e => hn e rfl
    obtain ⟨vs, g1, hup, hvl, hmem⟩ := hr st' vals (by omega) fun x hx => (hv x hx).2.mono (by decide)
    have hvs : ∀ x ∈ vs, 0 < x ∧ Rb 20 x := fun x hx => hv x ((hmem x).mp hx)
    have hvne : vs ≠ [] := fun e => by
      cases vals with
      | nil => exact hne rfl
      | cons v vals =>
        have := (hmem v).mpr List.mem_cons_self
        rw [e] at this
        cases this
    have hvl6 : vs.length ≤ 6 := by omega
    simp [evE, evEs, evO, evOc, evC, evAll, evAny, evAnd, evOr, depAll_nil, get_app, set_app, get_app1, get_map_last, sat_nil, sat_cons, after_nx, after_rt, after_bk, after_ct, brn_true, brn_false, sat_ifs, evFr_disp, evFr_lof, evFr_add, evFr_lzip, exS_asg, exS_par, exS_setix, exS_expr, exS_ret, exS_retN, exS_pass, exS_brk, exS_cont, exS_thr, need, bopSem, blSem, ixSem, setAll, asgT, asgL, trunc, rdD, allV, isiSem, isTy, tyOf, tyFits, nexc, items, lstI, L2.atI, L2.ixN, Res.sat_bind, Res.sat_ite, oneR, Wk.asg, wipe, List.replicate, cmp_ones, cmp_eq_int, cmp_ne_int, cmp_lt_int, cmp_le_int, cmp_gt_int, cmp_ge_int, cmp_eq_rt, cmp_ne_rt, cmp_ne_str, cmp_ne_bl, g1]
    refine comp_sqP vs rt (MsIn b ex vs.length) (x := .lst (vs.map rt)) (st1 := st') (by simp [evE, evEs, evO, evOc, evC, evAll, evAny, evAnd, evOr, depAll_nil, get_app, set_app, get_app1, get_map_last, sat_nil, sat_cons, after_nx, after_rt, after_bk, after_ct, brn_true, brn_false, sat_ifs, evFr_disp, evFr_lof, evFr_add, evFr_lzip, exS_asg, exS_par, exS_setix, exS_expr, exS_ret, exS_retN, exS_pass, exS_brk, exS_cont, exS_thr, need, bopSem, cmpSem, blSem, ixSem, setAll, asgT, asgL, trunc, rdD, allV, isiSem, isTy, tyOf, tyFits, nexc, items, lstI, L2.atI, L2.ixN, Res.sat_bind, Res.sat_ite, oneR, Wk.asg, wipe, List.replicate]) (.inl rfl) ⟨[], rfl, by simp, by simp, hD'.mono (by omega)⟩ (fun acc a r st'' h => ?_) fun acc st'' h => ?_
    · obtain ⟨ms, rfl, hml, hmv, hD''⟩ := h
      simp only [List.length_cons] at hml hD''
      obtain ⟨_, t1, h1, n1, x1, rfl, T1⟩ := (hd (b + 3 * r.length + 2) ex st'' 9 (by omega) (big64 (by decide)) (hD''.mono (by omega))).ex
      obtain ⟨_, t2, h2, d2, x2, rfl, T2⟩ := (hp (b + 3 * r.length + 1) ex t1 [.int 1, .int 4] (by simp) (by simp) T1).ex
      obtain ⟨p, rfl, p1, p2⟩ : ∃ p : Int, d2 = .int p ∧ 1 ≤ p ∧ p ≤ 4 := by
        simp at x2
        rcases x2 with rfl | rfl
        · exact ⟨1, rfl, by omega, by omega⟩
        · exact ⟨4, rfl, by omega, by omega⟩
      obtain ⟨_, t3, h3, n3, x3, rfl, T3⟩ := (hd (b + 3 * r.length) ex t2 p (by omega) (big64 (by omega)) T2).ex
      have h4 := hq t3 (1 + n1) (1 + n3) (by omega) (big64 (by omega)) (big64 (by omega))
      have q0 := divInt_pos (n := 1 + n1) (d := 1 + n3) (by omega) (by omega)
      have qb : Rb 4 (Rat.divInt (1 + n1) (1 + n3)) := .ofDiv (by omega) (by omega) (by omega)
      generalize Rat.divInt (1 + n1) (1 + n3) = q at h4 q0 qb
      simp [evE, evEs, evO, evOc, evC, evAll, evAny, evAnd, evOr, depAll_nil, get_app, set_app, get_app1, get_map_last, sat_nil, sat_cons, after_nx, after_rt, after_bk, after_ct, brn_true, brn_false, sat_ifs, evFr_disp, evFr_lof, evFr_add, evFr_lzip, exS_asg, exS_par, exS_setix, exS_expr, exS_ret, exS_retN, exS_pass, exS_brk, exS_cont, exS_thr, need, bopSem, blSem, ixSem, setAll, asgT, asgL, trunc, rdD, allV, isiSem, isTy, tyOf, tyFits, nexc, items, lstI, L2.atI, L2.ixN, Res.sat_bind, Res.sat_ite, oneR, Wk.asg, wipe, List.replicate, cmp_ones, cmp_eq_int, cmp_ne_int, cmp_lt_int, cmp_le_int, cmp_gt_int, cmp_ge_int, cmp_eq_rt, cmp_ne_rt, cmp_ne_str, cmp_ne_bl, h1, h2, h3, h4]
      refine ⟨ms ++ [q], by simp, by simp; omega, fun x hx => ?_, T3⟩
      rcases List.mem_append.mp hx with h | h
      · exact hmv x h
      · have : x = q := by simpa using h
        rw [this]
        exact ⟨q0, qb⟩
    · obtain ⟨ms, rfl, hml, hmv, hD''⟩ := h
      simp only [List.length_nil, Nat.mul_zero, Nat.add_zero] at hml hD''
      have av : ∀ l : List Rat, allV (l.map (S.v ∘ rt)) = some (l.map rt) := fun l => allV_mapF rt l
      have av2 : ∀ l : List Row, allV (l.map (S.v ∘ rowD)) = some (l.map rowD) := fun l => allV_mapF rowD l
      have fin : ∀ M : List Rat, M.length = vs.length → (∀ x ∈ M, 0 < x ∧ Rb 100 x) → ∃ rs, Mk rs ∧ D.tup [.str (Str.ofString "market"), .tup ((vs.zip M).map rowD)] = mkt rs ∧ Dok b ex st'' := fun M h1 h2 => ⟨vs.zip M, mk_of hup hvne hvl6 hvs h1 h2, rfl, hD''⟩
      have tk : st''.take st.length = st'' := hD.take hD''
      have lz : ∀ M : List Rat, ((vs.map rt).zip (M.map rt)).map (fun p => S.v (D.tup [p.1, p.2])) = (vs.zip M).map (S.v ∘ rowD) := fun M => by
        rw [List.zip_map, List.map_map]
        rfl
      simp only [av, Option.map_some, Res.sat_ok]
      have w1' : w < 4 := by omega
      obtain ⟨m0, ms', hms0⟩ : ∃ m0 ms', ms = m0 :: ms' := by
        cases ms with
        | nil =>
          have := List.length_pos_iff.mpr hvne
          simp at hml
          omega
        | cons m0 ms' => exact ⟨m0, ms', rfl⟩
      by_cases h0 : w = 0
      · subst h0
        have hm0 := hmv m0 (by rw [hms0]; exact List.mem_cons_self)
        obtain ⟨es, ge, el, eb⟩ := he st'' vs m0 hup hvne hvl6 hvs hm0.1 (hm0.2.mono (by decide))
        simp only [hms0] at ge ⊢
        simp [evE, evEs, evO, evOc, evC, evAll, evAny, evAnd, evOr, depAll_nil, get_app, set_app, get_app1, get_map_last, sat_nil, sat_cons, after_nx, after_rt, after_bk, after_ct, brn_true, brn_false, sat_ifs, evFr_disp, evFr_lof, evFr_add, evFr_lzip, exS_asg, exS_par, exS_setix, exS_expr, exS_ret, exS_retN, exS_pass, exS_brk, exS_cont, exS_thr, need, bopSem, blSem, ixSem, setAll, asgT, asgL, trunc, rdD, allV, isiSem, isTy, tyOf, tyFits, nexc, items, lstI, L2.atI, L2.ixN, Res.sat_bind, Res.sat_ite, oneR, Wk.asg, wipe, List.replicate, cmp_ones, cmp_eq_int, cmp_ne_int, cmp_lt_int, cmp_le_int, cmp_gt_int, cmp_ge_int, cmp_eq_rt, cmp_ne_rt, cmp_ne_str, cmp_ne_bl, ge]
        refine comp_sq (vs.zip es) rowD (fun r => some (.v (rt r.2))) (x := .tup ((vs.zip es).map rowD)) (st1 := st'') (by simp [evE, evEs, evO, evOc, evC, evAll, evAny, evAnd, evOr, depAll_nil, get_app, set_app, get_app1, get_map_last, sat_nil, sat_cons, after_nx, after_rt, after_bk, after_ct, brn_true, brn_false, sat_ifs, evFr_disp, evFr_lof, evFr_add, evFr_lzip, exS_asg, exS_par, exS_setix, exS_expr, exS_ret, exS_retN, exS_pass, exS_brk, exS_cont, exS_thr, need, bopSem, blSem, ixSem, setAll, asgT, asgL, trunc, rdD, allV, isiSem, isTy, tyOf, tyFits, nexc, items, lstI, L2.atI, L2.ixN, Res.sat_bind, Res.sat_ite, oneR, Wk.asg, wipe, List.replicate, cmp_ones, cmp_eq_int, cmp_ne_int, cmp_lt_int, cmp_le_int, cmp_gt_int, cmp_ge_int, cmp_eq_rt, cmp_ne_rt, cmp_ne_str, cmp_ne_bl, ge]) (.inr rfl) (fun r hr => ?_) ?_
        · simp [evE, evEs, evO, evOc, evC, evAll, evAny, evAnd, evOr, depAll_nil, get_app, set_app, get_app1, get_map_last, sat_nil, sat_cons, after_nx, after_rt, after_bk, after_ct, brn_true, brn_false, sat_ifs, evFr_disp, evFr_lof, evFr_add, evFr_lzip, exS_asg, exS_par, exS_setix, exS_expr, exS_ret, exS_retN, exS_pass, exS_brk, exS_cont, exS_thr, need, bopSem, blSem, ixSem, setAll, asgT, asgL, trunc, rdD, allV, isiSem, isTy, tyOf, tyFits, nexc, items, lstI, L2.atI, L2.ixN, Res.sat_bind, Res.sat_ite, oneR, Wk.asg, wipe, List.replicate, cmp_ones, cmp_eq_int, cmp_ne_int, cmp_lt_int, cmp_le_int, cmp_gt_int, cmp_ge_int, cmp_eq_rt, cmp_ne_rt, cmp_ne_str, cmp_ne_bl, rowD]
        · have e5 : (vs.zip es).map (·.2) = es := List.map_snd_zip (by omega)
          simp only [rtsV (fun r : Row => r.2), e5, Res.sat_ok]
          simp [evE, evEs, evO, evOc, evC, evAll, evAny, evAnd, evOr, depAll_nil, get_app, set_app, get_app1, get_map_last, sat_nil, sat_cons, after_nx, after_rt, after_bk, after_ct, brn_true, brn_false, sat_ifs, evFr_disp, evFr_lof, evFr_add, evFr_lzip, exS_asg, exS_par, exS_setix, exS_expr, exS_ret, exS_retN, exS_pass, exS_brk, exS_cont, exS_thr, need, bopSem, blSem, ixSem, setAll, asgT, asgL, trunc, rdD, allV, isiSem, isTy, tyOf, tyFits, nexc, items, lstI, L2.atI, L2.ixN, Res.sat_bind, Res.sat_ite, oneR, Wk.asg, wipe, List.replicate, cmp_ones, cmp_eq_int, cmp_ne_int, cmp_lt_int, cmp_le_int, cmp_gt_int, cmp_ge_int, cmp_eq_rt, cmp_ne_rt, cmp_ne_str, cmp_ne_bl, lzSem, av, lz, av2, tk]
          exact fin es el fun x hx => ⟨(eb x hx).1, (eb x hx).2.mono (by decide)⟩
      · by_cases h1 : w = 1
        · subst h1
          obtain ⟨es, ge, el, eb⟩ := he st'' vs 3 hup hvne hvl6 hvs (by decide) ⟨by decide, by decide⟩
          have r3 : D.tup [.int 3, .int 1] = rt 3 := rfl
          simp [evE, evEs, evO, evOc, evC, evAll, evAny, evAnd, evOr, depAll_nil, get_app, set_app, get_app1, get_map_last, sat_nil, sat_cons, after_nx, after_rt, after_bk, after_ct, brn_true, brn_false, sat_ifs, evFr_disp, evFr_lof, evFr_add, evFr_lzip, exS_asg, exS_par, exS_setix, exS_expr, exS_ret, exS_retN, exS_pass, exS_brk, exS_cont, exS_thr, need, bopSem, blSem, ixSem, setAll, asgT, asgL, trunc, rdD, allV, isiSem, isTy, tyOf, tyFits, nexc, items, lstI, L2.atI, L2.ixN, Res.sat_bind, Res.sat_ite, oneR, Wk.asg, wipe, List.replicate, cmp_ones, cmp_eq_int, cmp_ne_int, cmp_lt_int, cmp_le_int, cmp_gt_int, cmp_ge_int, cmp_eq_rt, cmp_ne_rt, cmp_ne_str, cmp_ne_bl]
          refine comp_zip ms (vs.zip es) rt rowD (fun p => some (.v (rt (p.1 + p.2.2)))) (x := .lst (ms.map rt)) (y := .tup ((vs.zip es).map rowD)) (st1 := st'') (st2 := st'') (by simp [evE, evEs, evO, evOc, evC, evAll, evAny, evAnd, evOr, depAll_nil, get_app, set_app, get_app1, get_map_last, sat_nil, sat_cons, after_nx, after_rt, after_bk, after_ct, brn_true, brn_false, sat_ifs, evFr_disp, evFr_lof, evFr_add, evFr_lzip, exS_asg, exS_par, exS_setix, exS_expr, exS_ret, exS_retN, exS_pass, exS_brk, exS_cont, exS_thr, need, bopSem, blSem, ixSem, setAll, asgT, asgL, trunc, rdD, allV, isiSem, isTy, tyOf, tyFits, nexc, items, lstI, L2.atI, L2.ixN, Res.sat_bind, Res.sat_ite, oneR, Wk.asg, wipe, List.replicate, cmp_ones, cmp_eq_int, cmp_ne_int, cmp_lt_int, cmp_le_int, cmp_gt_int, cmp_ge_int, cmp_eq_rt, cmp_ne_rt, cmp_ne_str, cmp_ne_bl]) (by simp [evE, evEs, evO, evOc, evC, evAll, evAny, evAnd, evOr, depAll_nil, get_app, set_app, get_app1, get_map_last, sat_nil, sat_cons, after_nx, after_rt, after_bk, after_ct, brn_true, brn_false, sat_ifs, evFr_disp, evFr_lof, evFr_add, evFr_lzip, exS_asg, exS_par, exS_setix, exS_expr, exS_ret, exS_retN, exS_pass, exS_brk, exS_cont, exS_thr, need, bopSem, blSem, ixSem, setAll, asgT, asgL, trunc, rdD, allV, isiSem, isTy, tyOf, tyFits, nexc, items, lstI, L2.atI, L2.ixN, Res.sat_bind, Res.sat_ite, oneR, Wk.asg, wipe, List.replicate, cmp_ones, cmp_eq_int, cmp_ne_int, cmp_lt_int, cmp_le_int, cmp_gt_int, cmp_ge_int, cmp_eq_rt, cmp_ne_rt, cmp_ne_str, cmp_ne_bl, r3, ge]) (.inl rfl) (.inr rfl) (fun p hp => ?_) ?_
          · have h1 := hmv _ (List.of_mem_zip hp).1
            have h2 := eb _ (List.of_mem_zip (List.of_mem_zip hp).2).2
            have q := fun s => ha s p.1 p.2.2 (h1.2.mono (by decide)) (h2.2.mono (by decide))
            simp [evE, evEs, evO, evOc, evC, evAll, evAny, evAnd, evOr, depAll_nil, get_app, set_app, get_app1, get_map_last, sat_nil, sat_cons, after_nx, after_rt, after_bk, after_ct, brn_true, brn_false, sat_ifs, evFr_disp, evFr_lof, evFr_add, evFr_lzip, exS_asg, exS_par, exS_setix, exS_expr, exS_ret, exS_retN, exS_pass, exS_brk, exS_cont, exS_thr, need, bopSem, blSem, ixSem, setAll, asgT, asgL, trunc, rdD, allV, isiSem, isTy, tyOf, tyFits, nexc, items, lstI, L2.atI, L2.ixN, Res.sat_bind, Res.sat_ite, oneR, Wk.asg, wipe, List.replicate, cmp_ones, cmp_eq_int, cmp_ne_int, cmp_lt_int, cmp_le_int, cmp_gt_int, cmp_ge_int, cmp_eq_rt, cmp_ne_rt, cmp_ne_str, cmp_ne_bl, rowD, q]
          · have e5 : ((ms.zip (vs.zip es)).map fun p => p.1 + p.2.2).length = vs.length := by
              rw [List.length_map, List.length_zip, List.length_zip]
              omega
            simp only [rtsV (fun p : Rat × Row => p.1 + p.2.2), Res.sat_ok]
            generalize hM : ((ms.zip (vs.zip es)).map fun p => p.1 + p.2.2) = M at e5
            have hMp : ∀ x ∈ M, 0 < x ∧ Rb 100 x := fun x hx => by
              rw [← hM] at hx
              obtain ⟨p, hp, rfl⟩ := List.mem_map.mp hx
              have h1 := hmv _ (List.of_mem_zip hp).1
              have h2 := eb _ (List.of_mem_zip (List.of_mem_zip hp).2).2
              exact ⟨by have := h1.1; have := h2.1; grind, (h1.2.add h2.2).mono (by decide)⟩
            simp [evE, evEs, evO, evOc, evC, evAll, evAny, evAnd, evOr, depAll_nil, get_app, set_app, get_app1, get_map_last, sat_nil, sat_cons, after_nx, after_rt, after_bk, after_ct, brn_true, brn_false, sat_ifs, evFr_disp, evFr_lof, evFr_add, evFr_lzip, exS_asg, exS_par, exS_setix, exS_expr, exS_ret, exS_retN, exS_pass, exS_brk, exS_cont, exS_thr, need, bopSem, blSem, ixSem, setAll, asgT, asgL, trunc, rdD, allV, isiSem, isTy, tyOf, tyFits, nexc, items, lstI, L2.atI, L2.ixN, Res.sat_bind, Res.sat_ite, oneR, Wk.asg, wipe, List.replicate, cmp_ones, cmp_eq_int, cmp_ne_int, cmp_lt_int, cmp_le_int, cmp_gt_int, cmp_ge_int, cmp_eq_rt, cmp_ne_rt, cmp_ne_str, cmp_ne_bl, lzSem, av, lz, av2, tk]
            exact fin M e5 hMp
        · have h1i : ¬ ((w : Nat) : Int) = 1 := by omega
          simp [evE, evEs, evO, evOc, evC, evAll, evAny, evAnd, evOr, depAll_nil, get_app, set_app, get_app1, get_map_last, sat_nil, sat_cons, after_nx, after_rt, after_bk, after_ct, brn_true, brn_false, sat_ifs, evFr_disp, evFr_lof, evFr_add, evFr_lzip, exS_asg, exS_par, exS_setix, exS_expr, exS_ret, exS_retN, exS_pass, exS_brk, exS_cont, exS_thr, need, bopSem, blSem, ixSem, setAll, asgT, asgL, trunc, rdD, allV, isiSem, isTy, tyOf, tyFits, nexc, items, lstI, L2.atI, L2.ixN, Res.sat_bind, Res.sat_ite, oneR, Wk.asg, wipe, List.replicate, cmp_ones, cmp_eq_int, cmp_ne_int, cmp_lt_int, cmp_le_int, cmp_gt_int, cmp_ge_int, cmp_eq_rt, cmp_ne_rt, cmp_ne_str, cmp_ne_bl, h0, h1i, lzSem, av, lz, av2, tk]
          exact fin ms (by omega) fun x hx => ⟨(hmv x hx).1, (hmv x hx).2.mono (by decide)⟩
end
end Sw

set_option linter.all false
set_option maxRecDepth 100000
set_option maxHeartbeats 4000000
namespace Sw
open PySem
def B_law_odd (c_law_pick : Nat) : Fd := ⟨1, 2, (.cons (.asg (.one 1) (.fr (.disp (.cons .cnon (.cons (.cbl true) (.cons (.cint (0)) (.cons (.cint (5)) (.cons (.cstr "") (.cons (.cstr "telling") (.cons (.tup .nil) (.cons (.fr (.disp .nil)) (.cons (.frz (.dnew [] .nil)) (.cons (.tup (.cons (.tup (.cons (.cint (0)) (.cons (.cint (1)) .nil))) (.cons (.tup (.cons (.cint (1)) (.cons (.cint (1)) .nil))) (.cons (.tup (.cons (.cint (1)) (.cons (.cint (1)) .nil))) .nil)))) (.cons (.tup (.cons (.cstr "telling") .nil)) (.cons (.tup (.cons (.cstr "telling") (.cons (.tup .nil) .nil))) (.cons (.tup (.cons (.cstr "deeds") (.cons (.tup .nil) .nil))) (.cons (.tup (.cons (.cstr "deeds") .nil)) .nil))))))))))))))))) (.cons (.ret (.call c_law_pick (.cons (.var 0) (.cons (.bop .add (.var 1) (.fr (.disp (.cons (.tup (.cons (.tup (.cons (.cint (1)) (.cons (.cint (2)) .nil))) (.cons (.tup (.cons (.cint (1)) (.cons (.cint (3)) .nil))) .nil))) (.cons (.tup (.cons (.tup (.cons (.cint (3)) (.cons (.cint (2)) .nil))) (.cons (.tup (.cons (.neg (.cint (1))) (.cons (.cint (2)) .nil))) .nil))) (.cons (.tup (.cons (.cstr "telling") (.cons (.tup (.cons (.tup (.cons (.cstr "a") (.cons (.tup (.cons (.tup (.cons (.cint (1)) (.cons (.cint (1)) .nil))) .nil)) .nil))) .nil)) .nil))) (.cons (.tup (.cons (.tup (.cons (.cint (1)) (.cons (.cint (1)) .nil))) .nil)) .nil))))))) .nil)))) .nil))⟩
def B_law_mk_no_market (c_law_pick : Nat) : Fd := ⟨1, 2, (.cons (.asg (.one 1) (.fr (.disp (.cons .cnon (.cons (.tup (.cons (.cstr "market") (.cons (.tup .nil) .nil))) (.cons (.tup (.cons (.cstr "market") (.cons (.tup (.cons (.tup (.cons (.tup (.cons (.cint (1)) (.cons (.cint (1)) .nil))) .nil)) .nil)) .nil))) (.cons (.tup (.cons (.cstr "market") (.cons (.fr (.disp (.cons (.tup (.cons (.tup (.cons (.cint (1)) (.cons (.cint (1)) .nil))) (.cons (.tup (.cons (.cint (1)) (.cons (.cint (1)) .nil))) .nil))) .nil))) .nil))) (.cons (.tup (.cons (.cstr "market") (.cons (.tup (.cons (.tup (.cons (.tup (.cons (.cint (0)) (.cons (.cint (1)) .nil))) (.cons (.tup (.cons (.cint (1)) (.cons (.cint (1)) .nil))) .nil))) .nil)) .nil))) (.cons (.cint (5)) .nil))))))))) (.cons (.ret (.call c_law_pick (.cons (.var 0) (.cons (.bop .add (.var 1) (.fr (.disp (.cons (.tup (.cons (.cstr "market") (.cons (.tup (.cons (.tup (.cons (.tup (.cons (.cint (2)) (.cons (.cint (1)) .nil))) (.cons (.tup (.cons (.cint (1)) (.cons (.cint (1)) .nil))) .nil))) (.cons (.tup (.cons (.tup (.cons (.cint (1)) (.cons (.cint (1)) .nil))) (.cons (.tup (.cons (.cint (1)) (.cons (.cint (1)) .nil))) .nil))) .nil))) .nil))) (.cons (.tup (.cons (.cstr "market") (.cons (.tup (.cons (.tup (.cons (.tup (.cons (.cint (1)) (.cons (.cint (1)) .nil))) (.cons (.tup (.cons (.cint (0)) (.cons (.cint (1)) .nil))) .nil))) .nil)) .nil))) (.cons (.tup (.cons (.cstr "wants") (.cons (.tup (.cons (.tup (.cons (.tup (.cons (.cint (1)) (.cons (.cint (1)) .nil))) (.cons (.tup (.cons (.cint (1)) (.cons (.cint (1)) .nil))) .nil))) .nil)) .nil))) .nil)))))) .nil)))) .nil))⟩
def B_law_mk_bent (c_law_draw : Nat) (c_law_mk_bent : Nat) (c_law_pick : Nat) : Fd := ⟨2, 5, (.cons (.ite (.and (.cons (.val (.isi (.var 1) [.tuple, .list] true)) (.cons (.cmp .gt (.bl .len (.cons (.var 1) .nil)) (.cint (0))) (.cons (.cmp .gt (.call c_law_draw (.cons (.var 0) (.cons (.cint (6)) .nil))) (.cint (0))) .nil)))) (.cons (.par [3, 4] (.cons (.call c_law_draw (.cons (.var 0) (.cons (.bl .len (.cons (.var 1) .nil)) .nil))) (.cons (.call c_law_draw (.cons (.var 0) (.cons (.cint (9)) .nil))) .nil))) (.cons (.asg (.one 2) (.al (.lof (.var 1)))) (.cons (.ite (.cmp .eq (.var 4) (.cint (0))) (.cons (.expr (.mth .pop (.var 2) (.cons (.var 3) .nil))) .nil) (.cons (.ite (.cmp .eq (.var 4) (.cint (1))) (.cons (.expr (.mth .insert (.var 2) (.cons (.var 3) (.cons (.ix (.var 2) (.var 3)) .nil)))) .nil) (.cons (.ite (.and (.cons (.cmp .eq (.var 4) (.cint (2))) (.cons (.cmp .gt (.var 3) (.cint (0))) .nil))) (.cons (.asg (.one 2) (.al (.add (.bop .add (.slc (.var 2) .no (.yes (.bop .sub (.var 3) (.cint (1))))) (.fr (.disp (.cons (.ix (.var 2) (.var 3)) (.cons (.ix (.var 2) (.bop .sub (.var 3) (.cint (1)))) .nil))))) (.slc (.var 2) (.yes (.bop .add (.var 3) (.cint (1)))) .no)))) .nil) (.cons (.setix (.var 2) (.var 3) (.call c_law_mk_bent (.cons (.var 0) (.cons (.ix (.var 2) (.var 3)) .nil)))) .nil)) .nil)) .nil)) (.cons (.ret (.ife (.val (.isi (.var 1) [.tuple] false)) (.bl .tuple (.cons (.var 2) .nil)) (.frz (.var 2)))) .nil)))) .nil) (.cons (.ite (.and (.cons (.val (.isi (.var 1) [.int] false)) (.cons (.not (.val (.isi (.var 1) [.bool] false))) .nil))) (.cons (.ret (.call c_law_pick (.cons (.var 0) (.cons (.fr (.disp (.cons (.bop .add (.var 1) (.cint (1))) (.cons (.bop .sub (.var 1) (.cint (1))) (.cons .cnon (.cons (.cmp .eq (.var 1) (.cint (1))) (.cons (.cint (0)) (.cons (.cint (2)) (.cons (.cstr "1") .nil))))))))) .nil)))) .nil) .nil) (.cons (.ret (.call c_law_pick (.cons (.var 0) (.cons (.fr (.disp (.cons .cnon (.cons (.tup .nil) (.cons (.cint (5)) (.cons (.cint (0)) (.cons (.cbl true) (.cons (.cstr "x") (.cons (.cstr "") (.cons (.frz (.dnew [] .nil)) (.cons (.tup (.cons (.cint (0)) (.cons (.cint (1)) .nil))) (.cons (.tup (.cons (.cint (1)) (.cons (.cint (1)) .nil))) (.cons (.tup (.cons (.cint (1)) (.cons (.cint (2)) .nil))) .nil))))))))))))) .nil)))) .nil)))⟩
def B_law_near (c_law_draw : Nat) (c_law_pick : Nat) (c_law_mk_no_market : Nat) (c_law_odd : Nat) (c_law_mk_bent : Nat) : Fd := ⟨2, 5, (.cons (.asg (.one 2) (.bop .add (.cint (6)) (.call c_law_draw (.cons (.var 0) (.cons (.cint (2)) .nil))))) (.cons (.asg (.one 3) (.tup (.cons (.cstr "market") (.cons (.bl .tuple (.cons (.fr (.comp (.tup (.cons (.tup (.cons (.bop .add (.var 4) (.cint (1))) (.cons (.cint (1)) .nil))) (.cons (.tup (.cons (.cint (1)) (.cons (.cint (1)) .nil))) .nil))) (.one 4) [4] (.rng (.var 2)) .no)) .nil)) .nil)))) (.cons (.ret (.call c_law_pick (.cons (.var 0) (.cons (.bop .add (.fr (.disp (.cons (.var 3) (.cons (.var 3) (.cons (.call c_law_mk_no_market (.cons (.var 0) .nil)) (.cons (.call c_law_odd (.cons (.var 0) .nil)) (.cons (.fr (.lof (.var 1))) (.cons (.tup (.cons (.cstr "markets") (.cons (.ix (.var 1) (.cint (1))) .nil))) .nil)))))))) (.bop .mul (.fr (.disp (.cons (.call c_law_mk_bent (.cons (.var 0) (.cons (.var 1) .nil))) .nil))) (.cint (12)))) .nil)))) .nil)))⟩
def B_law_price (c_law_pick : Nat) (c_law_times : Nat) (c_law_plus : Nat) : Fd := ⟨2, 5, (.cons (.par [3, 4] (.cons (.ix (.call c_law_pick (.cons (.var 0) (.cons (.fr (.lof (.ix (.var 1) (.cint (1))))) .nil))) (.cint (0))) (.cons (.ix (.call c_law_pick (.cons (.var 0) (.cons (.fr (.lof (.ix (.var 1) (.cint (1))))) .nil))) (.cint (0))) .nil))) (.cons (.asg (.one 2) (.fr (.disp (.cons (.var 3) (.cons (.call c_law_times (.cons (.tup (.cons (.cint (1)) (.cons (.cint (2)) .nil))) (.cons (.call c_law_plus (.cons (.var 3) (.cons (.var 4) .nil))) .nil))) (.cons (.call c_law_plus (.cons (.var 3) (.cons (.tup (.cons (.cint (1)) (.cons (.bop .pow (.cint (10)) (.cint (9))) .nil))) .nil))) (.cons (.call c_law_times (.cons (.var 3) (.cons (.tup (.cons (.cint (9)) (.cons (.cint (10)) .nil))) .nil))) (.cons (.call c_law_times (.cons (.var 3) (.cons (.tup (.cons (.cint (7)) (.cons (.cint (1)) .nil))) .nil))) .nil)))))))) (.cons (.ret (.call c_law_pick (.cons (.var 0) (.cons (.var 2) .nil)))) .nil)))⟩
def B_law_told_right (c_whole : Nat) (c_one_price : Nat) (c_demand : Nat) (c_buyers_gain : Nat) (c_law_mk_best : Nat) (c_law_same : Nat) (c_mass_of : Nat) (c_law_sum : Nat) (c_law_mk_whole : Nat) (c_best_prices : Nat) (c_law_price : Nat) (c_law_mk_demand : Nat) (c_law_mk_revenue : Nat) (c_law_mk_buyers : Nat) (c_revenue : Nat) (c_law_less : Nat) : Fd := ⟨2, 9, (.cons (.asg (.one 2) (.ix (.var 1) (.cint (1)))) (.cons (.asg (.cons (.one 4) (.cons (.one 5) .nil)) (.call c_law_mk_best (.cons (.var 2) .nil))) (.cons (.ite (.not (.val (.call c_law_same (.cons (.fr (.disp (.cons (.call c_mass_of (.cons (.var 1) .nil)) (.cons (.callk c_whole .nil ["market"] (.cons (.var 1) .nil)) .nil)))) (.cons (.fr (.disp (.cons (.call c_law_sum (.cons (.fr (.comp (.ix (.var 8) (.cint (1))) (.one 8) [8] (.sq (.var 2)) .no)) .nil)) (.cons (.call c_law_mk_whole (.cons (.var 2) .nil)) .nil)))) .nil))))) (.cons (.ret (.cbl false)) .nil) .nil) (.cons (.ite (.not (.val (.call c_law_same (.cons (.fr (.disp (.cons (.call c_best_prices (.cons (.var 1) .nil)) (.cons (.callk c_one_price .nil ["market"] (.cons (.var 1) .nil)) .nil)))) (.cons (.fr (.disp (.cons (.var 4) (.cons (.var 5) .nil)))) .nil))))) (.cons (.ret (.cbl false)) .nil) .nil) (.cons (.for_ (.one 3) (.rng (.cint (5))) (.cons (.asg (.one 6) (.call c_law_price (.cons (.var 0) (.cons (.var 1) .nil)))) (.cons (.asg (.one 7) (.fr (.disp (.cons (.call c_law_mk_demand (.cons (.var 2) (.cons (.var 6) .nil))) (.cons (.call c_law_mk_revenue (.cons (.var 2) (.cons (.var 6) .nil))) (.cons (.call c_law_mk_buyers (.cons (.var 2) (.cons (.var 6) .nil))) .nil)))))) (.cons (.ite (.not (.val (.call c_law_same (.cons (.fr (.disp (.cons (.callk c_demand (.cons (.var 1) .nil) ["price"] (.cons (.var 6) .nil)) (.cons (.call c_revenue (.cons (.var 1) (.cons (.var 6) .nil))) (.cons (.callk c_buyers_gain .nil ["price", "market"] (.cons (.var 6) (.cons (.var 1) .nil))) .nil))))) (.cons (.var 7) .nil))))) (.cons (.ret (.cbl false)) .nil) .nil) (.cons (.ite (.or (.cons (.val (.call c_law_less (.cons (.var 5) (.cons (.ix (.var 7) (.cint (1))) .nil)))) (.cons (.and (.cons (.cmp .eq (.ix (.var 7) (.cint (1))) (.var 5)) (.cons (.cmp .nin (.var 6) (.var 4)) .nil))) .nil))) (.cons (.ret (.cbl false)) .nil) .nil) .nil))))) (.cons (.ret (.cbl true)) .nil))))))⟩
def B_law_refused (c_law_pick : Nat) (c_law_mk_is_market : Nat) (c_law_is_bad : Nat) (c_demand : Nat) (c_revenue : Nat) (c_buyers_gain : Nat) (c_mass_of : Nat) (c_whole : Nat) (c_best_prices : Nat) (c_one_price : Nat) (k_BadPrice : Nat) (k_BadMarket : Nat) : Fd := ⟨3, 5, (.cons (.asg (.one 3) (.call c_law_pick (.cons (.var 0) (.cons (.fr (.disp (.cons .cnon (.cons (.tup (.cons (.cint (0)) (.cons (.cint (1)) .nil))) (.cons (.tup (.cons (.neg (.cint (1))) (.cons (.cint (2)) .nil))) (.cons (.cint (1)) (.cons (.tup (.cons (.cint (2)) (.cons (.cint (4)) .nil))) (.cons (.tup (.cons (.cbl true) (.cons (.cint (1)) .nil))) (.cons (.cstr "1") (.cons (.fr (.disp (.cons (.cint (1)) (.cons (.cint (2)) .nil)))) .nil)))))))))) .nil)))) (.cons (.for_ (.one 4) (.sq (.fr (.disp (.cons (.fnv c_demand) (.cons (.fnv c_revenue) (.cons (.fnv c_buyers_gain) .nil)))))) (.cons (.ite (.not (.val (.isx (.caught (.callv 4 (.cons (.var 1) (.cons (.var 3) .nil)))) (.own k_BadPrice)))) (.cons (.ret (.cbl false)) .nil) .nil) (.cons (.ite (.and (.cons (.not (.val (.call c_law_mk_is_market (.cons (.var 2) .nil)))) (.cons (.not (.val (.isx (.caught (.callv 4 (.cons (.var 2) (.cons (.var 3) .nil)))) (.own k_BadMarket)))) .nil))) (.cons (.ret (.cbl false)) .nil) .nil) .nil))) (.cons (.ite (.val (.call c_law_mk_is_market (.cons (.var 2) .nil))) (.cons (.ret (.cbl true)) .nil) .nil) (.cons (.ret (.cmp .eq (.fr (.comp (.var 4) (.one 4) [4] (.sq (.fr (.disp (.cons (.fnv c_mass_of) (.cons (.fnv c_whole) (.cons (.fnv c_best_prices) (.cons (.fnv c_one_price) .nil))))))) (.yes (.not (.val (.call c_law_is_bad (.cons (.var 4) (.cons (.var 2) .nil)))))))) (.fr (.disp .nil)))) .nil))))⟩
def B_law_is_bad (k_BadMarket : Nat) : Fd := ⟨2, 2, (.cons (.ret (.isx (.caught (.callv 0 (.cons (.var 1) .nil))) (.own k_BadMarket))) .nil)⟩
def B_law (c_is_market : Nat) (c_law_begun : Nat) (c_law_mk_market : Nat) (c_law_near : Nat) (c_law_is_truth : Nat) (c_law_mk_is_market : Nat) (c_law_told_right : Nat) (c_law_refused : Nat) : Fd := ⟨1, 5, (.cons (.asg (.one 1) (.call c_law_begun (.cons (.var 0) .nil))) (.cons (.for_ (.one 2) (.rng (.bop .add (.cint (8)) (.bl .min (.cons (.bl .len (.cons (.var 0) .nil)) (.cons (.cint (10)) .nil))))) (.cons (.asg (.one 3) (.call c_law_mk_market (.cons (.var 1) (.cons (.cint (6)) .nil)))) (.cons (.asg (.one 4) (.call c_law_near (.cons (.var 1) (.cons (.var 3) .nil)))) (.cons (.ite (.or (.cons (.not (.val (.call c_law_is_truth (.cons (.call c_is_market (.cons (.var 3) .nil)) (.cons (.cbl true) .nil))))) (.cons (.not (.val (.call c_law_is_truth (.cons (.callk c_is_market .nil ["value"] (.cons (.var 4) .nil)) (.cons (.call c_law_mk_is_market (.cons (.var 4) .nil)) .nil))))) .nil))) (.cons (.ret (.cbl false)) .nil) .nil) (.cons (.ite (.or (.cons (.not (.val (.call c_law_told_right (.cons (.var 1) (.cons (.var 3) .nil))))) (.cons (.not (.val (.call c_law_refused (.cons (.var 1) (.cons (.var 3) (.cons (.var 4) .nil)))))) .nil))) (.cons (.ret (.cbl false)) .nil) .nil) .nil))))) (.cons (.ret (.cbl true)) .nil)))⟩

theorem Dok.push {b : Nat} {ex st : Store} (h : Dok b ex st) (l : Store) : Dok b (ex ++ l) (st ++ l) := by
  obtain ⟨gs, cs, r, t, h1, h2⟩ := h
  exact ⟨gs, cs, r, t, by rw [h1, List.append_assoc], h2⟩
theorem Dok.split {b : Nat} {ex l st' : Store} (h : Dok b (ex ++ l) st') : ∃ st5, st' = st5 ++ l ∧ Dok b ex st5 := by
  obtain ⟨gs, cs, r, t, h1, h2⟩ := h
  exact ⟨dSt gs cs r t ++ ex, by rw [h1, List.append_assoc], gs, cs, r, t, rfl, h2⟩
theorem Dok.pop {b b' : Nat} {ex l st st' : Store} (h : Dok b' ex st) (h' : Dok b (ex ++ l) st') : Dok b ex (st'.take st.length) := by
  obtain ⟨st5, rfl, h5⟩ := h'.split
  have : st.length = st5.length := by rw [h.len, h5.len]
  rw [this, List.take_left]
  exact h5
theorem lt2000 {n : Nat} (h : n < 2 ^ 64) : n < 2 ^ 2000 := Nat.lt_of_lt_of_le h (Nat.pow_le_pow_right (by decide) (by decide))
theorem ok_small {i : Int} (h : i.natAbs < 2 ^ 64) : (D.int i).ok := by
  simp only [D.ok]
  exact lt2000 h
mutual
def D.sm : D → Prop
  | .non | .bl _ | .str _ => True
  | .int i => i.natAbs < 2 ^ 1000
  | .tup xs | .lst xs => xs.length ≤ 100 ∧ D.smAll xs
  | _ => False
def D.smAll : List D → Prop
  | [] => True
  | x :: xs => x.sm ∧ D.smAll xs
end
theorem smAll_mem : ∀ {xs : List D}, D.smAll xs → ∀ x ∈ xs, x.sm
  | [], _, x, h => nomatch h
  | y :: ys, h, x, hx => by
    simp only [D.smAll] at h
    rcases List.mem_cons.mp hx with rfl | hx
    · exact h.1
    · exact smAll_mem h.2 x hx
theorem smAll_of : ∀ {xs : List D}, (∀ x ∈ xs, x.sm) → D.smAll xs
  | [], _ => by simp only [D.smAll]
  | y :: ys, h => by
    simp only [D.smAll]
    exact ⟨h y List.mem_cons_self, smAll_of fun x hx => h x (List.mem_cons_of_mem _ hx)⟩
mutual
theorem sm_ok : ∀ d : D, d.sm → d.ok
  | .non, _ | .bl _, _ | .str _, _ => by simp only [D.ok]
  | .int i, h => by
    simp only [D.ok, D.sm] at h ⊢
    exact Nat.lt_of_lt_of_le h (Nat.pow_le_pow_right (by decide) (by decide))
  | .tup xs, h => by
    simp only [D.ok, D.sm] at h ⊢
    exact smAll_ok xs h.2
  | .lst xs, h => by
    simp only [D.ok, D.sm] at h ⊢
    exact smAll_ok xs h.2
  | .dic _ _, h | .scr _, h | .fn _, h | .exc _ _ _, h => by simp only [D.sm] at h
theorem smAll_ok : ∀ xs : List D, D.smAll xs → D.okAll xs
  | [], _ => by simp only [D.okAll]
  | x :: xs, h => by
    simp only [D.okAll, D.smAll] at h ⊢
    exact ⟨sm_ok x h.1, smAll_ok xs h.2⟩
end
section
variable {G : Gt} {F : Nat → Option Fd} {C : Nat → List S → Store → Res S} {k f : Nat}
def SVal (C : Nat → List S → Store → Res S) (f : Nat) : Prop := ∀ (b : Nat) (ex st : Store), Dok (b + 1) ex st → (C f [.r 1] st).sat fun v st' => ∃ d, v = .v d ∧ d.ok ∧ Dok b ex st'
theorem keyD_none : (keyD D.non).isSome = false := rfl
theorem sp_odd {fp : Nat} (hf : F f = some (B_law_odd fp)) (hk : G.keep.contains f = false) (hp : SPick (callK G F k) fp) : SVal (callK G F (k + 1)) f := by
  intro b ex st hD
  refine call_sat hf rfl hk ?_
  simp [B_law_odd, evE, evEs, evO, evOc, evC, evAll, evAny, evAnd, evOr, depAll_nil, get_app, set_app, get_app1, get_map_last, sat_nil, sat_cons, after_nx, after_rt, after_bk, after_ct, brn_true, brn_false, sat_ifs, evFr_disp, evFr_lof, evFr_add, evFr_lzip, exS_asg, exS_par, exS_setix, exS_expr, exS_ret, exS_retN, exS_pass, exS_brk, exS_cont, exS_thr, need, bopSem, blSem, ixSem, setAll, asgT, asgL, trunc, rdD, allV, isiSem, isTy, tyOf, tyFits, nexc, items, lstI, L2.atI, L2.ixN, Res.sat_bind, Res.sat_ite, oneR, Wk.asg, wipe, List.replicate, cmp_ones, cmp_eq_int, cmp_ne_int, cmp_lt_int, cmp_le_int, cmp_gt_int, cmp_ge_int, cmp_eq_rt, cmp_ne_rt, cmp_ne_str, cmp_ne_bl, frzSem, sizeLine_eq]
  refine (hp b (ex ++ [none]) _ _ (by simp) (by simp) (hD.push [none])).mono fun v st' hv => ?_
  obtain ⟨d, hm, rfl, h2⟩ := hv
  refine ⟨d, rfl, okAll_mem ?_ d hm, hD.pop h2⟩
  simp [D.okAll, D.ok, lt2000]
theorem sp_nomarket {fp : Nat} (hf : F f = some (B_law_mk_no_market fp)) (hk : G.keep.contains f = false) (hp : SPick (callK G F k) fp) : SVal (callK G F (k + 1)) f := by
  intro b ex st hD
  refine call_sat hf rfl hk ?_
  simp [B_law_mk_no_market, evE, evEs, evO, evOc, evC, evAll, evAny, evAnd, evOr, depAll_nil, get_app, set_app, get_app1, get_map_last, sat_nil, sat_cons, after_nx, after_rt, after_bk, after_ct, brn_true, brn_false, sat_ifs, evFr_disp, evFr_lof, evFr_add, evFr_lzip, exS_asg, exS_par, exS_setix, exS_expr, exS_ret, exS_retN, exS_pass, exS_brk, exS_cont, exS_thr, need, bopSem, blSem, ixSem, setAll, asgT, asgL, trunc, rdD, allV, isiSem, isTy, tyOf, tyFits, nexc, items, lstI, L2.atI, L2.ixN, Res.sat_bind, Res.sat_ite, oneR, Wk.asg, wipe, List.replicate, cmp_ones, cmp_eq_int, cmp_ne_int, cmp_lt_int, cmp_le_int, cmp_gt_int, cmp_ge_int, cmp_eq_rt, cmp_ne_rt, cmp_ne_str, cmp_ne_bl, sizeLine_eq]
  refine (hp b ex _ _ (by simp) (by simp) hD).mono fun v st' hv => ?_
  obtain ⟨d, hm, rfl, h2⟩ := hv
  refine ⟨d, rfl, okAll_mem ?_ d hm, by rw [hD.take h2]; exact h2⟩
  simp [D.okAll, D.ok, lt2000]
theorem eraseIdx_mapV (ds : List D) (i : Nat) : (ds.map S.v).eraseIdx i = (ds.eraseIdx i).map S.v := by
  induction ds generalizing i with
  | nil => rfl
  | cons d ds ih =>
    cases i with
    | zero => rfl
    | succ i => simp [ih]
theorem ok_sub {xs ys : List D} (h : D.okAll xs) (hs : ∀ y ∈ ys, y ∈ xs) : D.okAll ys := okAll_of fun y hy => okAll_mem h y (hs y hy)
theorem cutD_mem {ds : List D} {lo hi : Option Int} {x : D} (h : x ∈ cutD ds lo hi) : x ∈ ds := List.mem_of_mem_drop (List.mem_of_mem_take h)
theorem cutD_len (ds : List D) (lo hi : Option Int) : (cutD ds lo hi).length ≤ ds.length := by
  unfold cutD
  rw [List.length_take, List.length_drop]
  omega
theorem leaf_pick {fp : Nat} (hp : SPick (callK G F k) fp) {b b' : Nat} {ex st st1 : Store} (hD : Dok b' ex st) (D1 : Dok (b + 1) ex st1) : (callK G F k fp [.r 1, .v (.lst [.non, .tup [], .int 5, .int 0, .bl true, .str "x", .str "", .dic [] [], .tup [.int 0, .int 1], .tup [.int 1, .int 1], .tup [.int 1, .int 2]])] (st1 ++ [none])).sat fun v st' => ∃ d, v = .v d ∧ d.ok ∧ Dok b ex (st'.take st.length) := by
  refine (hp b (ex ++ [none]) _ _ (by simp) (by simp) (D1.push [none])).mono fun v st' hv => ?_
  obtain ⟨d, hm, rfl, h2⟩ := hv
  refine ⟨d, rfl, okAll_mem ?_ d hm, hD.pop h2⟩
  simp [D.okAll, D.ok, lt2000]
def SBent (C : Nat → List S → Store → Res S) (f n : Nat) : Prop := ∀ (b : Nat) (ex st : Store) (d : D), d.sm → d.dep ≤ n → Dok (b + 3 * n + 3) ex st → (C f [.r 1, .v d] st).sat fun v st' => ∃ d', v = .v d' ∧ d'.ok ∧ Dok b ex st'
theorem sp_bent {fd fp n : Nat} (hf : F f = some (B_law_mk_bent fd f fp)) (hk : G.keep.contains f = false) (hd : SDraw (callK G F k) fd) (hp : SPick (callK G F k) fp) (hb : ∀ m, m + 1 = n → SBent (callK G F k) f m) : SBent (callK G F (k + 1)) f n := by
  intro b ex st d hs hn hD
  refine call_sat hf rfl hk ?_
  cases d with
  | non =>
    simp [B_law_mk_bent, evE, evEs, evO, evOc, evC, evAll, evAny, evAnd, evOr, depAll_nil, get_app, set_app, get_app1, get_map_last, sat_nil, sat_cons, after_nx, after_rt, after_bk, after_ct, brn_true, brn_false, sat_ifs, evFr_disp, evFr_lof, evFr_add, evFr_lzip, exS_asg, exS_par, exS_setix, exS_expr, exS_ret, exS_retN, exS_pass, exS_brk, exS_cont, exS_thr, need, bopSem, blSem, ixSem, setAll, asgT, asgL, trunc, rdD, allV, isiSem, isTy, tyOf, tyFits, nexc, items, lstI, L2.atI, L2.ixN, Res.sat_bind, Res.sat_ite, oneR, Wk.asg, wipe, List.replicate, cmp_ones, cmp_eq_int, cmp_ne_int, cmp_lt_int, cmp_le_int, cmp_gt_int, cmp_ge_int, cmp_eq_rt, cmp_ne_rt, cmp_ne_str, cmp_ne_bl, frzSem, sizeLine_eq]
    refine (leaf_pick hp hD (hD.mono (by omega) : Dok (b + 1) ex st)).mono fun v st' hv => ?_
    obtain ⟨d, rfl, h1, h2⟩ := hv
    exact ⟨d, rfl, h1, h2⟩
  | bl x =>
    simp [B_law_mk_bent, evE, evEs, evO, evOc, evC, evAll, evAny, evAnd, evOr, depAll_nil, get_app, set_app, get_app1, get_map_last, sat_nil, sat_cons, after_nx, after_rt, after_bk, after_ct, brn_true, brn_false, sat_ifs, evFr_disp, evFr_lof, evFr_add, evFr_lzip, exS_asg, exS_par, exS_setix, exS_expr, exS_ret, exS_retN, exS_pass, exS_brk, exS_cont, exS_thr, need, bopSem, blSem, ixSem, setAll, asgT, asgL, trunc, rdD, allV, isiSem, isTy, tyOf, tyFits, nexc, items, lstI, L2.atI, L2.ixN, Res.sat_bind, Res.sat_ite, oneR, Wk.asg, wipe, List.replicate, cmp_ones, cmp_eq_int, cmp_ne_int, cmp_lt_int, cmp_le_int, cmp_gt_int, cmp_ge_int, cmp_eq_rt, cmp_ne_rt, cmp_ne_str, cmp_ne_bl, frzSem, sizeLine_eq]
    refine (leaf_pick hp hD (hD.mono (by omega) : Dok (b + 1) ex st)).mono fun v st' hv => ?_
    obtain ⟨d, rfl, h1, h2⟩ := hv
    exact ⟨d, rfl, h1, h2⟩
  | str x =>
    simp [B_law_mk_bent, evE, evEs, evO, evOc, evC, evAll, evAny, evAnd, evOr, depAll_nil, get_app, set_app, get_app1, get_map_last, sat_nil, sat_cons, after_nx, after_rt, after_bk, after_ct, brn_true, brn_false, sat_ifs, evFr_disp, evFr_lof, evFr_add, evFr_lzip, exS_asg, exS_par, exS_setix, exS_expr, exS_ret, exS_retN, exS_pass, exS_brk, exS_cont, exS_thr, need, bopSem, blSem, ixSem, setAll, asgT, asgL, trunc, rdD, allV, isiSem, isTy, tyOf, tyFits, nexc, items, lstI, L2.atI, L2.ixN, Res.sat_bind, Res.sat_ite, oneR, Wk.asg, wipe, List.replicate, cmp_ones, cmp_eq_int, cmp_ne_int, cmp_lt_int, cmp_le_int, cmp_gt_int, cmp_ge_int, cmp_eq_rt, cmp_ne_rt, cmp_ne_str, cmp_ne_bl, frzSem, sizeLine_eq]
    refine (leaf_pick hp hD (hD.mono (by omega) : Dok (b + 1) ex st)).mono fun v st' hv => ?_
    obtain ⟨d, rfl, h1, h2⟩ := hv
    exact ⟨d, rfl, h1, h2⟩
  | int i =>
    simp [B_law_mk_bent, evE, evEs, evO, evOc, evC, evAll, evAny, evAnd, evOr, depAll_nil, get_app, set_app, get_app1, get_map_last, sat_nil, sat_cons, after_nx, after_rt, after_bk, after_ct, brn_true, brn_false, sat_ifs, evFr_disp, evFr_lof, evFr_add, evFr_lzip, exS_asg, exS_par, exS_setix, exS_expr, exS_ret, exS_retN, exS_pass, exS_brk, exS_cont, exS_thr, need, bopSem, blSem, ixSem, setAll, asgT, asgL, trunc, rdD, allV, isiSem, isTy, tyOf, tyFits, nexc, items, lstI, L2.atI, L2.ixN, Res.sat_bind, Res.sat_ite, oneR, Wk.asg, wipe, List.replicate, cmp_ones, cmp_eq_int, cmp_ne_int, cmp_lt_int, cmp_le_int, cmp_gt_int, cmp_ge_int, cmp_eq_rt, cmp_ne_rt, cmp_ne_str, cmp_ne_bl, sizeLine_eq]
    refine (hp b ex _ _ (by simp) (by simp) (hD.mono (by omega))).mono fun v st' hv => ?_
    obtain ⟨d, hm, rfl, h2⟩ := hv
    refine ⟨d, rfl, okAll_mem ?_ d hm, by rw [hD.take h2]; exact h2⟩
    simp only [D.sm] at hs
    have h3 : i.natAbs + 1 < 2 ^ 2000 := Nat.lt_of_le_of_lt hs (Nat.pow_lt_pow_right (by decide) (by decide))
    have h4 : (i + 1).natAbs < 2 ^ 2000 := by omega
    have h5 : (i - 1).natAbs < 2 ^ 2000 := by omega
    simp only [D.okAll, D.ok, h4, h5, true_and, and_true]
    exact ⟨lt2000 (by decide), lt2000 (by decide)⟩
  | dic _ _ => simp only [D.sm] at hs
  | scr _ => simp only [D.sm] at hs
  | fn _ => simp only [D.sm] at hs
  | exc _ _ _ => simp only [D.sm] at hs
  | tup ds =>
    simp only [D.sm] at hs
    obtain ⟨hl, hs⟩ := hs
    have hok := smAll_ok ds hs
    cases ds with
    | nil =>
      simp [B_law_mk_bent, evE, evEs, evO, evOc, evC, evAll, evAny, evAnd, evOr, depAll_nil, get_app, set_app, get_app1, get_map_last, sat_nil, sat_cons, after_nx, after_rt, after_bk, after_ct, brn_true, brn_false, sat_ifs, evFr_disp, evFr_lof, evFr_add, evFr_lzip, exS_asg, exS_par, exS_setix, exS_expr, exS_ret, exS_retN, exS_pass, exS_brk, exS_cont, exS_thr, need, bopSem, blSem, ixSem, setAll, asgT, asgL, trunc, rdD, allV, isiSem, isTy, tyOf, tyFits, nexc, items, lstI, L2.atI, L2.ixN, Res.sat_bind, Res.sat_ite, oneR, Wk.asg, wipe, List.replicate, cmp_ones, cmp_eq_int, cmp_ne_int, cmp_lt_int, cmp_le_int, cmp_gt_int, cmp_ge_int, cmp_eq_rt, cmp_ne_rt, cmp_ne_str, cmp_ne_bl, frzSem, sizeLine_eq]
      refine (leaf_pick hp hD (hD.mono (by omega) : Dok (b + 1) ex st)).mono fun v st' hv => ?_
      obtain ⟨d, rfl, h1, h2⟩ := hv
      exact ⟨d, rfl, h1, h2⟩
    | cons y ys =>
      generalize hds : y :: ys = ds at hl hs hok hn
      have hpos : 0 < ds.length := by rw [← hds]; simp
      have hposi : (0 : Int) < (ds.length : Int) := by omega
      obtain ⟨_, st1, e1, n1, x1, rfl, D1⟩ := (hd (b + 3 * n + 2) ex st 6 (by omega) (big64 (by decide)) hD).ex
      by_cases h1 : n1 = 0
      · subst h1
        simp [B_law_mk_bent, evE, evEs, evO, evOc, evC, evAll, evAny, evAnd, evOr, depAll_nil, get_app, set_app, get_app1, get_map_last, sat_nil, sat_cons, after_nx, after_rt, after_bk, after_ct, brn_true, brn_false, sat_ifs, evFr_disp, evFr_lof, evFr_add, evFr_lzip, exS_asg, exS_par, exS_setix, exS_expr, exS_ret, exS_retN, exS_pass, exS_brk, exS_cont, exS_thr, need, bopSem, blSem, ixSem, setAll, asgT, asgL, trunc, rdD, allV, isiSem, isTy, tyOf, tyFits, nexc, items, lstI, L2.atI, L2.ixN, Res.sat_bind, Res.sat_ite, oneR, Wk.asg, wipe, List.replicate, cmp_ones, cmp_eq_int, cmp_ne_int, cmp_lt_int, cmp_le_int, cmp_gt_int, cmp_ge_int, cmp_eq_rt, cmp_ne_rt, cmp_ne_str, cmp_ne_bl, frzSem, sizeLine_eq, hposi, hpos, e1]
        refine (leaf_pick hp hD (D1.mono (by omega) : Dok (b + 1) ex st1)).mono fun v st' hv => ?_
        obtain ⟨d, rfl, h1, h2⟩ := hv
        exact ⟨d, rfl, h1, h2⟩
      · have h1i : (0 : Int) < ((n1 : Nat) : Int) := by omega
        have h1p : 0 < n1 := by omega
        obtain ⟨_, st2, e2, at_, x2, rfl, D2⟩ := (hd (b + 3 * n + 1) ex st1 ds.length (by omega) (big64 (by omega)) D1).ex
        obtain ⟨_, st3, e3, way, x3, rfl, D3⟩ := (hd (b + 3 * n) ex st2 9 (by omega) (big64 (by decide)) D2).ex
        have hat : at_ < ds.length := by omega
        have hati : ((at_ : Nat) : Int) < (ds.length : Int) := by omega
        have tk : ∀ l : Store, (st3 ++ l).take st.length = st3 := fun l => by
          have : st.length = st3.length := by rw [hD.len, D3.len]
          rw [this, List.take_left]
        have D3' : Dok b ex st3 := D3.mono (by omega)
        by_cases w0 : way = 0
        · subst w0
          simp [B_law_mk_bent, evE, evEs, evO, evOc, evC, evAll, evAny, evAnd, evOr, depAll_nil, get_app, set_app, get_app1, get_map_last, sat_nil, sat_cons, after_nx, after_rt, after_bk, after_ct, brn_true, brn_false, sat_ifs, evFr_disp, evFr_lof, evFr_add, evFr_lzip, exS_asg, exS_par, exS_setix, exS_expr, exS_ret, exS_retN, exS_pass, exS_brk, exS_cont, exS_thr, need, bopSem, blSem, ixSem, setAll, asgT, asgL, trunc, rdD, allV, isiSem, isTy, tyOf, tyFits, nexc, items, lstI, L2.atI, L2.ixN, Res.sat_bind, Res.sat_ite, oneR, Wk.asg, wipe, List.replicate, cmp_ones, cmp_eq_int, cmp_ne_int, cmp_lt_int, cmp_le_int, cmp_gt_int, cmp_ge_int, cmp_eq_rt, cmp_ne_rt, cmp_ne_str, cmp_ne_bl, hposi, hpos, h1i, h1p, e1, e2, e3, mthTy, mthSem, hati, hat, eraseIdx_mapV, allV_map, tk, frzSem]
          exact ⟨by simp only [D.ok]; exact ok_sub hok fun y hy => List.mem_of_mem_eraseIdx hy, D3'⟩
        · by_cases w1 : way = 1
          · subst w1
            have hsz : ds.length < sizeLine := by rw [sizeLine_eq]; omega
            have h63 : ((at_ : Nat) : Int) < 9223372036854775808 := by omega
            have av : allV (List.take at_ (ds.map S.v) ++ S.v ds[at_] :: List.drop at_ (ds.map S.v)) = some (ds.take at_ ++ ds[at_] :: ds.drop at_) := by
              have := allV_map (ds.take at_ ++ ds[at_] :: ds.drop at_)
              simpa [List.map_take, List.map_drop] using this
            simp [B_law_mk_bent, evE, evEs, evO, evOc, evC, evAll, evAny, evAnd, evOr, depAll_nil, get_app, set_app, get_app1, get_map_last, sat_nil, sat_cons, after_nx, after_rt, after_bk, after_ct, brn_true, brn_false, sat_ifs, evFr_disp, evFr_lof, evFr_add, evFr_lzip, exS_asg, exS_par, exS_setix, exS_expr, exS_ret, exS_retN, exS_pass, exS_brk, exS_cont, exS_thr, need, bopSem, blSem, ixSem, setAll, asgT, asgL, trunc, rdD, allV, isiSem, isTy, tyOf, tyFits, nexc, items, lstI, L2.atI, L2.ixN, Res.sat_bind, Res.sat_ite, oneR, Wk.asg, wipe, List.replicate, cmp_ones, cmp_eq_int, cmp_ne_int, cmp_lt_int, cmp_le_int, cmp_gt_int, cmp_ge_int, cmp_eq_rt, cmp_ne_rt, cmp_ne_str, cmp_ne_bl, hposi, hpos, h1i, h1p, e1, e2, e3, mthTy, mthSem, hati, hat, hsz, h63, av, tk, frzSem]
            refine ⟨?_, D3'⟩
            simp only [D.ok]
            refine ok_sub hok fun y hy => ?_
            rcases List.mem_append.mp hy with h | h
            · exact List.mem_of_mem_take h
            · rcases List.mem_cons.mp h with rfl | h
              · exact List.getElem_mem _
              · exact List.mem_of_mem_drop h
          · have w0i : ¬ ((way : Nat) : Int) = 0 := by omega
            have w1i : ¬ ((way : Nat) : Int) = 1 := by omega
            by_cases w2 : way = 2 ∧ 0 < at_
            · obtain ⟨rfl, ha⟩ := w2
              obtain ⟨a, rfl⟩ : ∃ a, at_ = a + 1 := ⟨at_ - 1, by omega⟩
              have hai : (0 : Int) < ((a : Nat) : Int) + 1 := by omega
              have hal : ((a : Nat) : Int) + 1 < (ds.length : Int) := by omega
              have hal0 : ((a : Nat) : Int) < (ds.length : Int) := by omega
              have ha0 : a < ds.length := by omega
              have hap : (0 : Int) ≤ ((a : Nat) : Int) + 1 := by omega
              have hto : (((a : Nat) : Int) + 1).toNat = a + 1 := by omega
              have l1 := cutD_len ds none (some ((a : Nat) : Int))
              have l2 := cutD_len ds (some (((a : Nat) : Int) + 1 + 1)) none
              have z1 : (cutD ds none (some ((a : Nat) : Int))).length + 2 ≤ sizeLine := by rw [sizeLine_eq]; omega
              have z2 : (cutD ds none (some ((a : Nat) : Int))).length + 2 + (cutD ds (some (((a : Nat) : Int) + 1 + 1)) none).length ≤ sizeLine := by rw [sizeLine_eq]; omega
              simp [B_law_mk_bent, evE, evEs, evO, evOc, evC, evAll, evAny, evAnd, evOr, depAll_nil, get_app, set_app, get_app1, get_map_last, sat_nil, sat_cons, after_nx, after_rt, after_bk, after_ct, brn_true, brn_false, sat_ifs, evFr_disp, evFr_lof, evFr_add, evFr_lzip, exS_asg, exS_par, exS_setix, exS_expr, exS_ret, exS_retN, exS_pass, exS_brk, exS_cont, exS_thr, need, bopSem, blSem, ixSem, setAll, asgT, asgL, trunc, rdD, allV, isiSem, isTy, tyOf, tyFits, nexc, items, lstI, L2.atI, L2.ixN, Res.sat_bind, Res.sat_ite, oneR, Wk.asg, wipe, List.replicate, cmp_ones, cmp_eq_int, cmp_ne_int, cmp_lt_int, cmp_le_int, cmp_gt_int, cmp_ge_int, cmp_eq_rt, cmp_ne_rt, cmp_ne_str, cmp_ne_bl, hposi, hpos, h1i, h1p, e1, e2, e3, mthTy, mthSem, hati, hat, hai, hal, hal0, ha0, hap, hto, allV_map, slcSem, tk, frzSem, z1, z2]
              have av : allV (List.map S.v (cutD ds none (some ((a : Nat) : Int))) ++ S.v ds[a + 1] :: S.v ds[a] :: List.map S.v (cutD ds (some (((a : Nat) : Int) + 1 + 1)) none)) = some (cutD ds none (some ((a : Nat) : Int)) ++ ds[a + 1] :: ds[a] :: cutD ds (some (((a : Nat) : Int) + 1 + 1)) none) := by
                have := allV_map (cutD ds none (some ((a : Nat) : Int)) ++ ds[a + 1] :: ds[a] :: cutD ds (some (((a : Nat) : Int) + 1 + 1)) none)
                simpa using this
              simp [evE, evEs, evO, evOc, evC, evAll, evAny, evAnd, evOr, depAll_nil, get_app, set_app, get_app1, get_map_last, sat_nil, sat_cons, after_nx, after_rt, after_bk, after_ct, brn_true, brn_false, sat_ifs, evFr_disp, evFr_lof, evFr_add, evFr_lzip, exS_asg, exS_par, exS_setix, exS_expr, exS_ret, exS_retN, exS_pass, exS_brk, exS_cont, exS_thr, need, bopSem, blSem, ixSem, setAll, asgT, asgL, trunc, rdD, allV, isiSem, isTy, tyOf, tyFits, nexc, items, lstI, L2.atI, L2.ixN, Res.sat_bind, Res.sat_ite, oneR, Wk.asg, wipe, List.replicate, cmp_ones, cmp_eq_int, cmp_ne_int, cmp_lt_int, cmp_le_int, cmp_gt_int, cmp_ge_int, cmp_eq_rt, cmp_ne_rt, cmp_ne_str, cmp_ne_bl, av, tk, frzSem]
              refine ⟨?_, D3'⟩
              simp only [D.ok]
              refine ok_sub hok fun y hy => ?_
              rcases List.mem_append.mp hy with h | h
              · exact cutD_mem h
              · rcases List.mem_cons.mp h with rfl | h
                · exact List.getElem_mem _
                · rcases List.mem_cons.mp h with rfl | h
                  · exact List.getElem_mem _
                  · exact cutD_mem h
            · obtain ⟨m, rfl⟩ : ∃ m, n = m + 1 := ⟨n - 1, by
                have : 1 ≤ n := by
                  simp only [D.dep] at hn
                  omega
                omega⟩
              have hsm := smAll_mem hs ds[at_] (List.getElem_mem _)
              have hdep : (ds[at_]).dep ≤ m := by
                have := depAll_mem (List.getElem_mem (l := ds) hat)
                simp only [D.dep] at hn
                omega
              obtain ⟨_, st4, e4, d4, rfl, ok4, D4⟩ := (hb m rfl b (ex ++ [some (.lst (ds.map S.v))]) (st3 ++ [some (.lst (ds.map S.v))]) ds[at_] hsm hdep ((D3.mono (by omega)).push _)).ex
              obtain ⟨st5, rfl, D5⟩ := D4.split
              have hlen : st3.length = st5.length := by rw [D3.len, D5.len]
              have tk5 : ∀ l : Store, (st5 ++ l).take st.length = st5 := fun l => by
                have : st.length = st5.length := by rw [hD.len, D5.len]
                rw [this, List.take_left]
              have hset : allV ((ds.map S.v).set at_ (S.v d4)) = some (ds.set at_ d4) := by rw [← List.map_set]; exact allV_map _
              have okS : D.okAll (ds.set at_ d4) := okAll_of fun y hy => by
                rcases List.mem_or_eq_of_mem_set hy with h | h
                · exact okAll_mem hok y h
                · rw [h]; exact ok4
              have cond : way = 2 → at_ = 0 := fun h => by
                rcases Nat.eq_zero_or_pos at_ with z | z
                · exact z
                · exact absurd ⟨h, z⟩ w2
              by_cases w3 : way = 2
              · have at0 := cond w3
                subst at0
                subst w3
                simp [B_law_mk_bent, evE, evEs, evO, evOc, evC, evAll, evAny, evAnd, evOr, depAll_nil, get_app, set_app, get_app1, get_map_last, sat_nil, sat_cons, after_nx, after_rt, after_bk, after_ct, brn_true, brn_false, sat_ifs, evFr_disp, evFr_lof, evFr_add, evFr_lzip, exS_asg, exS_par, exS_setix, exS_expr, exS_ret, exS_retN, exS_pass, exS_brk, exS_cont, exS_thr, need, bopSem, blSem, ixSem, setAll, asgT, asgL, trunc, rdD, allV, isiSem, isTy, tyOf, tyFits, nexc, items, lstI, L2.atI, L2.ixN, Res.sat_bind, Res.sat_ite, oneR, Wk.asg, wipe, List.replicate, cmp_ones, cmp_eq_int, cmp_ne_int, cmp_lt_int, cmp_le_int, cmp_gt_int, cmp_ge_int, cmp_eq_rt, cmp_ne_rt, cmp_ne_str, cmp_ne_bl, hposi, hpos, h1i, h1p, e1, e2, e3, mthTy, mthSem, hati, hat, e4, setSem]
                rw [hlen]
                simp [evE, evEs, evO, evOc, evC, evAll, evAny, evAnd, evOr, depAll_nil, get_app, set_app, get_app1, get_map_last, sat_nil, sat_cons, after_nx, after_rt, after_bk, after_ct, brn_true, brn_false, sat_ifs, evFr_disp, evFr_lof, evFr_add, evFr_lzip, exS_asg, exS_par, exS_setix, exS_expr, exS_ret, exS_retN, exS_pass, exS_brk, exS_cont, exS_thr, need, bopSem, blSem, ixSem, setAll, asgT, asgL, trunc, rdD, allV, isiSem, isTy, tyOf, tyFits, nexc, items, lstI, L2.atI, L2.ixN, Res.sat_bind, Res.sat_ite, oneR, Wk.asg, wipe, List.replicate, cmp_ones, cmp_eq_int, cmp_ne_int, cmp_lt_int, cmp_le_int, cmp_gt_int, cmp_ge_int, cmp_eq_rt, cmp_ne_rt, cmp_ne_str, cmp_ne_bl, hpos, hset, tk5, frzSem]
                exact ⟨by simp only [D.ok]; exact okS, D5⟩
              · have w3i : ¬ ((way : Nat) : Int) = 2 := by omega
                simp [B_law_mk_bent, evE, evEs, evO, evOc, evC, evAll, evAny, evAnd, evOr, depAll_nil, get_app, set_app, get_app1, get_map_last, sat_nil, sat_cons, after_nx, after_rt, after_bk, after_ct, brn_true, brn_false, sat_ifs, evFr_disp, evFr_lof, evFr_add, evFr_lzip, exS_asg, exS_par, exS_setix, exS_expr, exS_ret, exS_retN, exS_pass, exS_brk, exS_cont, exS_thr, need, bopSem, blSem, ixSem, setAll, asgT, asgL, trunc, rdD, allV, isiSem, isTy, tyOf, tyFits, nexc, items, lstI, L2.atI, L2.ixN, Res.sat_bind, Res.sat_ite, oneR, Wk.asg, wipe, List.replicate, cmp_ones, cmp_eq_int, cmp_ne_int, cmp_lt_int, cmp_le_int, cmp_gt_int, cmp_ge_int, cmp_eq_rt, cmp_ne_rt, cmp_ne_str, cmp_ne_bl, hposi, hpos, h1i, h1p, e1, e2, e3, mthTy, mthSem, w0, w1i, w3i, hati, hat, e4, setSem]
                rw [hlen]
                simp [evE, evEs, evO, evOc, evC, evAll, evAny, evAnd, evOr, depAll_nil, get_app, set_app, get_app1, get_map_last, sat_nil, sat_cons, after_nx, after_rt, after_bk, after_ct, brn_true, brn_false, sat_ifs, evFr_disp, evFr_lof, evFr_add, evFr_lzip, exS_asg, exS_par, exS_setix, exS_expr, exS_ret, exS_retN, exS_pass, exS_brk, exS_cont, exS_thr, need, bopSem, blSem, ixSem, setAll, asgT, asgL, trunc, rdD, allV, isiSem, isTy, tyOf, tyFits, nexc, items, lstI, L2.atI, L2.ixN, Res.sat_bind, Res.sat_ite, oneR, Wk.asg, wipe, List.replicate, cmp_ones, cmp_eq_int, cmp_ne_int, cmp_lt_int, cmp_le_int, cmp_gt_int, cmp_ge_int, cmp_eq_rt, cmp_ne_rt, cmp_ne_str, cmp_ne_bl, hati, hat, hset, tk5, frzSem]
                exact ⟨by simp only [D.ok]; exact okS, D5⟩
  | lst ds =>
    simp only [D.sm] at hs
    obtain ⟨hl, hs⟩ := hs
    have hok := smAll_ok ds hs
    cases ds with
    | nil =>
      simp [B_law_mk_bent, evE, evEs, evO, evOc, evC, evAll, evAny, evAnd, evOr, depAll_nil, get_app, set_app, get_app1, get_map_last, sat_nil, sat_cons, after_nx, after_rt, after_bk, after_ct, brn_true, brn_false, sat_ifs, evFr_disp, evFr_lof, evFr_add, evFr_lzip, exS_asg, exS_par, exS_setix, exS_expr, exS_ret, exS_retN, exS_pass, exS_brk, exS_cont, exS_thr, need, bopSem, blSem, ixSem, setAll, asgT, asgL, trunc, rdD, allV, isiSem, isTy, tyOf, tyFits, nexc, items, lstI, L2.atI, L2.ixN, Res.sat_bind, Res.sat_ite, oneR, Wk.asg, wipe, List.replicate, cmp_ones, cmp_eq_int, cmp_ne_int, cmp_lt_int, cmp_le_int, cmp_gt_int, cmp_ge_int, cmp_eq_rt, cmp_ne_rt, cmp_ne_str, cmp_ne_bl, frzSem, sizeLine_eq]
      refine (leaf_pick hp hD (hD.mono (by omega) : Dok (b + 1) ex st)).mono fun v st' hv => ?_
      obtain ⟨d, rfl, h1, h2⟩ := hv
      exact ⟨d, rfl, h1, h2⟩
    | cons y ys =>
      generalize hds : y :: ys = ds at hl hs hok hn
      have hpos : 0 < ds.length := by rw [← hds]; simp
      have hposi : (0 : Int) < (ds.length : Int) := by omega
      obtain ⟨_, st1, e1, n1, x1, rfl, D1⟩ := (hd (b + 3 * n + 2) ex st 6 (by omega) (big64 (by decide)) hD).ex
      by_cases h1 : n1 = 0
      · subst h1
        simp [B_law_mk_bent, evE, evEs, evO, evOc, evC, evAll, evAny, evAnd, evOr, depAll_nil, get_app, set_app, get_app1, get_map_last, sat_nil, sat_cons, after_nx, after_rt, after_bk, after_ct, brn_true, brn_false, sat_ifs, evFr_disp, evFr_lof, evFr_add, evFr_lzip, exS_asg, exS_par, exS_setix, exS_expr, exS_ret, exS_retN, exS_pass, exS_brk, exS_cont, exS_thr, need, bopSem, blSem, ixSem, setAll, asgT, asgL, trunc, rdD, allV, isiSem, isTy, tyOf, tyFits, nexc, items, lstI, L2.atI, L2.ixN, Res.sat_bind, Res.sat_ite, oneR, Wk.asg, wipe, List.replicate, cmp_ones, cmp_eq_int, cmp_ne_int, cmp_lt_int, cmp_le_int, cmp_gt_int, cmp_ge_int, cmp_eq_rt, cmp_ne_rt, cmp_ne_str, cmp_ne_bl, frzSem, sizeLine_eq, hposi, hpos, e1]
        refine (leaf_pick hp hD (D1.mono (by omega) : Dok (b + 1) ex st1)).mono fun v st' hv => ?_
        obtain ⟨d, rfl, h1, h2⟩ := hv
        exact ⟨d, rfl, h1, h2⟩
      · have h1i : (0 : Int) < ((n1 : Nat) : Int) := by omega
        have h1p : 0 < n1 := by omega
        obtain ⟨_, st2, e2, at_, x2, rfl, D2⟩ := (hd (b + 3 * n + 1) ex st1 ds.length (by omega) (big64 (by omega)) D1).ex
        obtain ⟨_, st3, e3, way, x3, rfl, D3⟩ := (hd (b + 3 * n) ex st2 9 (by omega) (big64 (by decide)) D2).ex
        have hat : at_ < ds.length := by omega
        have hati : ((at_ : Nat) : Int) < (ds.length : Int) := by omega
        have tk : ∀ l : Store, (st3 ++ l).take st.length = st3 := fun l => by
          have : st.length = st3.length := by rw [hD.len, D3.len]
          rw [this, List.take_left]
        have D3' : Dok b ex st3 := D3.mono (by omega)
        by_cases w0 : way = 0
        · subst w0
          simp [B_law_mk_bent, evE, evEs, evO, evOc, evC, evAll, evAny, evAnd, evOr, depAll_nil, get_app, set_app, get_app1, get_map_last, sat_nil, sat_cons, after_nx, after_rt, after_bk, after_ct, brn_true, brn_false, sat_ifs, evFr_disp, evFr_lof, evFr_add, evFr_lzip, exS_asg, exS_par, exS_setix, exS_expr, exS_ret, exS_retN, exS_pass, exS_brk, exS_cont, exS_thr, need, bopSem, blSem, ixSem, setAll, asgT, asgL, trunc, rdD, allV, isiSem, isTy, tyOf, tyFits, nexc, items, lstI, L2.atI, L2.ixN, Res.sat_bind, Res.sat_ite, oneR, Wk.asg, wipe, List.replicate, cmp_ones, cmp_eq_int, cmp_ne_int, cmp_lt_int, cmp_le_int, cmp_gt_int, cmp_ge_int, cmp_eq_rt, cmp_ne_rt, cmp_ne_str, cmp_ne_bl, hposi, hpos, h1i, h1p, e1, e2, e3, mthTy, mthSem, hati, hat, eraseIdx_mapV, allV_map, tk, frzSem]
          exact ⟨by simp only [D.ok]; exact ok_sub hok fun y hy => List.mem_of_mem_eraseIdx hy, D3'⟩
        · by_cases w1 : way = 1
          · subst w1
            have hsz : ds.length < sizeLine := by rw [sizeLine_eq]; omega
            have h63 : ((at_ : Nat) : Int) < 9223372036854775808 := by omega
            have av : allV (List.take at_ (ds.map S.v) ++ S.v ds[at_] :: List.drop at_ (ds.map S.v)) = some (ds.take at_ ++ ds[at_] :: ds.drop at_) := by
              have := allV_map (ds.take at_ ++ ds[at_] :: ds.drop at_)
              simpa [List.map_take, List.map_drop] using this
            simp [B_law_mk_bent, evE, evEs, evO, evOc, evC, evAll, evAny, evAnd, evOr, depAll_nil, get_app, set_app, get_app1, get_map_last, sat_nil, sat_cons, after_nx, after_rt, after_bk, after_ct, brn_true, brn_false, sat_ifs, evFr_disp, evFr_lof, evFr_add, evFr_lzip, exS_asg, exS_par, exS_setix, exS_expr, exS_ret, exS_retN, exS_pass, exS_brk, exS_cont, exS_thr, need, bopSem, blSem, ixSem, setAll, asgT, asgL, trunc, rdD, allV, isiSem, isTy, tyOf, tyFits, nexc, items, lstI, L2.atI, L2.ixN, Res.sat_bind, Res.sat_ite, oneR, Wk.asg, wipe, List.replicate, cmp_ones, cmp_eq_int, cmp_ne_int, cmp_lt_int, cmp_le_int, cmp_gt_int, cmp_ge_int, cmp_eq_rt, cmp_ne_rt, cmp_ne_str, cmp_ne_bl, hposi, hpos, h1i, h1p, e1, e2, e3, mthTy, mthSem, hati, hat, hsz, h63, av, tk, frzSem]
            refine ⟨?_, D3'⟩
            simp only [D.ok]
            refine ok_sub hok fun y hy => ?_
            rcases List.mem_append.mp hy with h | h
            · exact List.mem_of_mem_take h
            · rcases List.mem_cons.mp h with rfl | h
              · exact List.getElem_mem _
              · exact List.mem_of_mem_drop h
          · have w0i : ¬ ((way : Nat) : Int) = 0 := by omega
            have w1i : ¬ ((way : Nat) : Int) = 1 := by omega
            by_cases w2 : way = 2 ∧ 0 < at_
            · obtain ⟨rfl, ha⟩ := w2
              obtain ⟨a, rfl⟩ : ∃ a, at_ = a + 1 := ⟨at_ - 1, by omega⟩
              have hai : (0 : Int) < ((a : Nat) : Int) + 1 := by omega
              have hal : ((a : Nat) : Int) + 1 < (ds.length : Int) := by omega
              have hal0 : ((a : Nat) : Int) < (ds.length : Int) := by omega
              have ha0 : a < ds.length := by omega
              have hap : (0 : Int) ≤ ((a : Nat) : Int) + 1 := by omega
              have hto : (((a : Nat) : Int) + 1).toNat = a + 1 := by omega
              have l1 := cutD_len ds none (some ((a : Nat) : Int))
              have l2 := cutD_len ds (some (((a : Nat) : Int) + 1 + 1)) none
              have z1 : (cutD ds none (some ((a : Nat) : Int))).length + 2 ≤ sizeLine := by rw [sizeLine_eq]; omega
              have z2 : (cutD ds none (some ((a : Nat) : Int))).length + 2 + (cutD ds (some (((a : Nat) : Int) + 1 + 1)) none).length ≤ sizeLine := by rw [sizeLine_eq]; omega
              simp [B_law_mk_bent, evE, evEs, evO, evOc, evC, evAll, evAny, evAnd, evOr, depAll_nil, get_app, set_app, get_app1, get_map_last, sat_nil, sat_cons, after_nx, after_rt, after_bk, after_ct, brn_true, brn_false, sat_ifs, evFr_disp, evFr_lof, evFr_add, evFr_lzip, exS_asg, exS_par, exS_setix, exS_expr, exS_ret, exS_retN, exS_pass, exS_brk, exS_cont, exS_thr, need, bopSem, blSem, ixSem, setAll, asgT, asgL, trunc, rdD, allV, isiSem, isTy, tyOf, tyFits, nexc, items, lstI, L2.atI, L2.ixN, Res.sat_bind, Res.sat_ite, oneR, Wk.asg, wipe, List.replicate, cmp_ones, cmp_eq_int, cmp_ne_int, cmp_lt_int, cmp_le_int, cmp_gt_int, cmp_ge_int, cmp_eq_rt, cmp_ne_rt, cmp_ne_str, cmp_ne_bl, hposi, hpos, h1i, h1p, e1, e2, e3, mthTy, mthSem, hati, hat, hai, hal, hal0, ha0, hap, hto, allV_map, slcSem, tk, frzSem, z1, z2]
              have av : allV (List.map S.v (cutD ds none (some ((a : Nat) : Int))) ++ S.v ds[a + 1] :: S.v ds[a] :: List.map S.v (cutD ds (some (((a : Nat) : Int) + 1 + 1)) none)) = some (cutD ds none (some ((a : Nat) : Int)) ++ ds[a + 1] :: ds[a] :: cutD ds (some (((a : Nat) : Int) + 1 + 1)) none) := by
                have := allV_map (cutD ds none (some ((a : Nat) : Int)) ++ ds[a + 1] :: ds[a] :: cutD ds (some (((a : Nat) : Int) + 1 + 1)) none)
                simpa using this
              simp [evE, evEs, evO, evOc, evC, evAll, evAny, evAnd, evOr, depAll_nil, get_app, set_app, get_app1, get_map_last, sat_nil, sat_cons, after_nx, after_rt, after_bk, after_ct, brn_true, brn_false, sat_ifs, evFr_disp, evFr_lof, evFr_add, evFr_lzip, exS_asg, exS_par, exS_setix, exS_expr, exS_ret, exS_retN, exS_pass, exS_brk, exS_cont, exS_thr, need, bopSem, blSem, ixSem, setAll, asgT, asgL, trunc, rdD, allV, isiSem, isTy, tyOf, tyFits, nexc, items, lstI, L2.atI, L2.ixN, Res.sat_bind, Res.sat_ite, oneR, Wk.asg, wipe, List.replicate, cmp_ones, cmp_eq_int, cmp_ne_int, cmp_lt_int, cmp_le_int, cmp_gt_int, cmp_ge_int, cmp_eq_rt, cmp_ne_rt, cmp_ne_str, cmp_ne_bl, av, tk, frzSem]
              refine ⟨?_, D3'⟩
              simp only [D.ok]
              refine ok_sub hok fun y hy => ?_
              rcases List.mem_append.mp hy with h | h
              · exact cutD_mem h
              · rcases List.mem_cons.mp h with rfl | h
                · exact List.getElem_mem _
                · rcases List.mem_cons.mp h with rfl | h
                  · exact List.getElem_mem _
                  · exact cutD_mem h
            · obtain ⟨m, rfl⟩ : ∃ m, n = m + 1 := ⟨n - 1, by
                have : 1 ≤ n := by
                  simp only [D.dep] at hn
                  omega
                omega⟩
              have hsm := smAll_mem hs ds[at_] (List.getElem_mem _)
              have hdep : (ds[at_]).dep ≤ m := by
                have := depAll_mem (List.getElem_mem (l := ds) hat)
                simp only [D.dep] at hn
                omega
              obtain ⟨_, st4, e4, d4, rfl, ok4, D4⟩ := (hb m rfl b (ex ++ [some (.lst (ds.map S.v))]) (st3 ++ [some (.lst (ds.map S.v))]) ds[at_] hsm hdep ((D3.mono (by omega)).push _)).ex
              obtain ⟨st5, rfl, D5⟩ := D4.split
              have hlen : st3.length = st5.length := by rw [D3.len, D5.len]
              have tk5 : ∀ l : Store, (st5 ++ l).take st.length = st5 := fun l => by
                have : st.length = st5.length := by rw [hD.len, D5.len]
                rw [this, List.take_left]
              have hset : allV ((ds.map S.v).set at_ (S.v d4)) = some (ds.set at_ d4) := by rw [← List.map_set]; exact allV_map _
              have okS : D.okAll (ds.set at_ d4) := okAll_of fun y hy => by
                rcases List.mem_or_eq_of_mem_set hy with h | h
                · exact okAll_mem hok y h
                · rw [h]; exact ok4
              have cond : way = 2 → at_ = 0 := fun h => by
                rcases Nat.eq_zero_or_pos at_ with z | z
                · exact z
                · exact absurd ⟨h, z⟩ w2
              by_cases w3 : way = 2
              · have at0 := cond w3
                subst at0
                subst w3
                simp [B_law_mk_bent, evE, evEs, evO, evOc, evC, evAll, evAny, evAnd, evOr, depAll_nil, get_app, set_app, get_app1, get_map_last, sat_nil, sat_cons, after_nx, after_rt, after_bk, after_ct, brn_true, brn_false, sat_ifs, evFr_disp, evFr_lof, evFr_add, evFr_lzip, exS_asg, exS_par, exS_setix, exS_expr, exS_ret, exS_retN, exS_pass, exS_brk, exS_cont, exS_thr, need, bopSem, blSem, ixSem, setAll, asgT, asgL, trunc, rdD, allV, isiSem, isTy, tyOf, tyFits, nexc, items, lstI, L2.atI, L2.ixN, Res.sat_bind, Res.sat_ite, oneR, Wk.asg, wipe, List.replicate, cmp_ones, cmp_eq_int, cmp_ne_int, cmp_lt_int, cmp_le_int, cmp_gt_int, cmp_ge_int, cmp_eq_rt, cmp_ne_rt, cmp_ne_str, cmp_ne_bl, hposi, hpos, h1i, h1p, e1, e2, e3, mthTy, mthSem, hati, hat, e4, setSem]
                rw [hlen]
                simp [evE, evEs, evO, evOc, evC, evAll, evAny, evAnd, evOr, depAll_nil, get_app, set_app, get_app1, get_map_last, sat_nil, sat_cons, after_nx, after_rt, after_bk, after_ct, brn_true, brn_false, sat_ifs, evFr_disp, evFr_lof, evFr_add, evFr_lzip, exS_asg, exS_par, exS_setix, exS_expr, exS_ret, exS_retN, exS_pass, exS_brk, exS_cont, exS_thr, need, bopSem, blSem, ixSem, setAll, asgT, asgL, trunc, rdD, allV, isiSem, isTy, tyOf, tyFits, nexc, items, lstI, L2.atI, L2.ixN, Res.sat_bind, Res.sat_ite, oneR, Wk.asg, wipe, List.replicate, cmp_ones, cmp_eq_int, cmp_ne_int, cmp_lt_int, cmp_le_int, cmp_gt_int, cmp_ge_int, cmp_eq_rt, cmp_ne_rt, cmp_ne_str, cmp_ne_bl, hpos, hset, tk5, frzSem]
                exact ⟨by simp only [D.ok]; exact okS, D5⟩
              · have w3i : ¬ ((way : Nat) : Int) = 2 := by omega
                simp [B_law_mk_bent, evE, evEs, evO, evOc, evC, evAll, evAny, evAnd, evOr, depAll_nil, get_app, set_app, get_app1, get_map_last, sat_nil, sat_cons, after_nx, after_rt, after_bk, after_ct, brn_true, brn_false, sat_ifs, evFr_disp, evFr_lof, evFr_add, evFr_lzip, exS_asg, exS_par, exS_setix, exS_expr, exS_ret, exS_retN, exS_pass, exS_brk, exS_cont, exS_thr, need, bopSem, blSem, ixSem, setAll, asgT, asgL, trunc, rdD, allV, isiSem, isTy, tyOf, tyFits, nexc, items, lstI, L2.atI, L2.ixN, Res.sat_bind, Res.sat_ite, oneR, Wk.asg, wipe, List.replicate, cmp_ones, cmp_eq_int, cmp_ne_int, cmp_lt_int, cmp_le_int, cmp_gt_int, cmp_ge_int, cmp_eq_rt, cmp_ne_rt, cmp_ne_str, cmp_ne_bl, hposi, hpos, h1i, h1p, e1, e2, e3, mthTy, mthSem, w0, w1i, w3i, hati, hat, e4, setSem]
                rw [hlen]
                simp [evE, evEs, evO, evOc, evC, evAll, evAny, evAnd, evOr, depAll_nil, get_app, set_app, get_app1, get_map_last, sat_nil, sat_cons, after_nx, after_rt, after_bk, after_ct, brn_true, brn_false, sat_ifs, evFr_disp, evFr_lof, evFr_add, evFr_lzip, exS_asg, exS_par, exS_setix, exS_expr, exS_ret, exS_retN, exS_pass, exS_brk, exS_cont, exS_thr, need, bopSem, blSem, ixSem, setAll, asgT, asgL, trunc, rdD, allV, isiSem, isTy, tyOf, tyFits, nexc, items, lstI, L2.atI, L2.ixN, Res.sat_bind, Res.sat_ite, oneR, Wk.asg, wipe, List.replicate, cmp_ones, cmp_eq_int, cmp_ne_int, cmp_lt_int, cmp_le_int, cmp_gt_int, cmp_ge_int, cmp_eq_rt, cmp_ne_rt, cmp_ne_str, cmp_ne_bl, hati, hat, hset, tk5, frzSem]
                exact ⟨by simp only [D.ok]; exact okS, D5⟩
end
end Sw

set_option linter.all false
set_option maxRecDepth 100000
set_option maxHeartbeats 4000000
namespace Sw
open PySem
section
variable {G : Gt} {F : Nat → Option Fd} {C : Nat → List S → Store → Res S} {k f : Nat}
theorem rb_sm {q : Rat} {b : Nat} (h : Rb b q) (hb : b ≤ 1000) : (rt q).sm := by
  have h := h.mono hb
  simp only [rt, D.sm, D.smAll, Int.natAbs_natCast]
  exact ⟨by simp, h.1, h.2, trivial⟩
theorem mkt_sm {rs : List Row} (M : Mk rs) : (mkt rs).sm := by
  have h : D.smAll (rs.map rowD) := smAll_of fun x hx => by
    obtain ⟨r, hr, rfl⟩ := List.mem_map.mp hx
    simp only [rowD, D.sm, D.smAll]
    exact ⟨by simp, rb_sm (M.vb r hr) (by decide), rb_sm (M.mb r hr) (by decide), trivial⟩
  simp only [mkt, rowsD, D.sm, D.smAll, List.length_map]
  have := M.le
  exact ⟨by simp, trivial, ⟨by omega, h⟩, trivial⟩
theorem rows_dep (rs : List Row) : D.depAll (rs.map rowD) ≤ 2 := depAll_le fun x hx => by
  obtain ⟨r, hr, rfl⟩ := List.mem_map.mp hx
  simp only [rowD, D.dep, D.depAll, dep_rt]
  decide
theorem mkt_dep (rs : List Row) : (mkt rs).dep ≤ 4 := by
  have := rows_dep rs
  simp only [mkt, rowsD, D.dep, D.depAll]
  omega
theorem rows_ok {rs : List Row} (M : Mk rs) : (rowsD rs).ok := by
  have := mkt_ok M
  simp only [mkt, D.ok, D.okAll] at this
  exact this.2.1
def SNear (C : Nat → List S → Store → Res S) (f : Nat) : Prop := ∀ (b : Nat) (ex st : Store) (rs : List Row), Mk rs → Dok (b + 20) ex st → (C f [.r 1, .v (mkt rs)] st).sat fun v st' => ∃ d, v = .v d ∧ d.ok ∧ Dok b ex st'
theorem sp_near {fd fp fn fo fb : Nat} (hf : F f = some (B_law_near fd fp fn fo fb)) (hk : G.keep.contains f = false) (hd : SDraw (callK G F k) fd) (hp : SPick (callK G F k) fp) (hn : SVal (callK G F k) fn) (ho : SVal (callK G F k) fo) (hb : SBent (callK G F k) fb 4) : SNear (callK G F (k + 1)) f := by
  intro b ex st rs M hD
  refine call_sat hf rfl hk ?_
  obtain ⟨_, st1, e1, n1, x1, rfl, D1⟩ := (hd (b + 19) ex st 2 (by omega) (big64 (by decide)) hD).ex
  obtain ⟨_, st2, e2, d2, rfl, ok2, D2⟩ := (hn (b + 18) ex st1 D1).ex
  obtain ⟨_, st3, e3, d3, rfl, ok3, D3⟩ := (ho (b + 17) ex st2 D2).ex
  obtain ⟨_, st4, e4, d4, rfl, ok4, D4⟩ := (hb (b + 1) ex st3 (mkt rs) (mkt_sm M) (mkt_dep rs) (D3.mono (by omega))).ex
  simp [B_law_near, evE, evEs, evO, evOc, evC, evAll, evAny, evAnd, evOr, depAll_nil, get_app, set_app, get_app1, get_map_last, sat_nil, sat_cons, after_nx, after_rt, after_bk, after_ct, brn_true, brn_false, sat_ifs, evFr_disp, evFr_lof, evFr_add, evFr_lzip, exS_asg, exS_par, exS_setix, exS_expr, exS_ret, exS_retN, exS_pass, exS_brk, exS_cont, exS_thr, need, bopSem, blSem, ixSem, setAll, asgT, asgL, trunc, rdD, allV, isiSem, isTy, tyOf, tyFits, nexc, items, lstI, L2.atI, L2.ixN, Res.sat_bind, Res.sat_ite, oneR, Wk.asg, wipe, List.replicate, cmp_ones, cmp_eq_int, cmp_ne_int, cmp_lt_int, cmp_le_int, cmp_gt_int, cmp_ge_int, cmp_eq_rt, cmp_ne_rt, cmp_ne_str, cmp_ne_bl, e1]
  refine comp_rng (6 + n1) (fun i => some (.v (.tup [.tup [.int ((i : Nat) + 1), .int 1], .tup [.int 1, .int 1]]))) (st1 := st1) (by simp [evE, evEs, evO, evOc, evC, evAll, evAny, evAnd, evOr, depAll_nil, get_app, set_app, get_app1, get_map_last, sat_nil, sat_cons, after_nx, after_rt, after_bk, after_ct, brn_true, brn_false, sat_ifs, evFr_disp, evFr_lof, evFr_add, evFr_lzip, exS_asg, exS_par, exS_setix, exS_expr, exS_ret, exS_retN, exS_pass, exS_brk, exS_cont, exS_thr, need, bopSem, blSem, ixSem, setAll, asgT, asgL, trunc, rdD, allV, isiSem, isTy, tyOf, tyFits, nexc, items, lstI, L2.atI, L2.ixN, Res.sat_bind, Res.sat_ite, oneR, Wk.asg, wipe, List.replicate, cmp_ones, cmp_eq_int, cmp_ne_int, cmp_lt_int, cmp_le_int, cmp_gt_int, cmp_ge_int, cmp_eq_rt, cmp_ne_rt, cmp_ne_str, cmp_ne_bl]) (by omega) (fun i hi => by simp [evE, evEs, evO, evOc, evC, evAll, evAny, evAnd, evOr, depAll_nil, get_app, set_app, get_app1, get_map_last, sat_nil, sat_cons, after_nx, after_rt, after_bk, after_ct, brn_true, brn_false, sat_ifs, evFr_disp, evFr_lof, evFr_add, evFr_lzip, exS_asg, exS_par, exS_setix, exS_expr, exS_ret, exS_retN, exS_pass, exS_brk, exS_cont, exS_thr, need, bopSem, blSem, ixSem, setAll, asgT, asgL, trunc, rdD, allV, isiSem, isTy, tyOf, tyFits, nexc, items, lstI, L2.atI, L2.ixN, Res.sat_bind, Res.sat_ite, oneR, Wk.asg, wipe, List.replicate, cmp_ones, cmp_eq_int, cmp_ne_int, cmp_lt_int, cmp_le_int, cmp_gt_int, cmp_ge_int, cmp_eq_rt, cmp_ne_rt, cmp_ne_str, cmp_ne_bl]) ?_
  rw [filterMap_someF (fun i : Nat => S.v (.tup [.tup [.int ((i : Nat) + 1), .int 1], .tup [.int 1, .int 1]])), allV_mapF (fun i : Nat => D.tup [.tup [.int ((i : Nat) + 1), .int 1], .tup [.int 1, .int 1]])]
  have fok : D.okAll ((List.range (6 + n1)).map fun i : Nat => D.tup [.tup [.int ((i : Nat) + 1), .int 1], .tup [.int 1, .int 1]]) := okAll_of fun x hx => by
    obtain ⟨i, hi, rfl⟩ := List.mem_map.mp hx
    have := List.mem_range.mp hi
    simp only [D.ok, D.okAll, true_and, and_true]
    exact ⟨⟨lt2000 (by omega), lt2000 (by decide)⟩, lt2000 (by decide), lt2000 (by decide)⟩
  generalize ((List.range (6 + n1)).map fun i : Nat => D.tup [.tup [.int ((i : Nat) + 1), .int 1], .tup [.int 1, .int 1]]) = far at fok
  have em : mkt rs = .tup [.str (Str.ofString "market"), rowsD rs] := rfl
  rw [em] at e4
  simp [evE, evEs, evO, evOc, evC, evAll, evAny, evAnd, evOr, depAll_nil, get_app, set_app, get_app1, get_map_last, sat_nil, sat_cons, after_nx, after_rt, after_bk, after_ct, brn_true, brn_false, sat_ifs, evFr_disp, evFr_lof, evFr_add, evFr_lzip, exS_asg, exS_par, exS_setix, exS_expr, exS_ret, exS_retN, exS_pass, exS_brk, exS_cont, exS_thr, need, bopSem, blSem, ixSem, setAll, asgT, asgL, trunc, rdD, allV, isiSem, isTy, tyOf, tyFits, nexc, items, lstI, L2.atI, L2.ixN, Res.sat_bind, Res.sat_ite, oneR, Wk.asg, wipe, List.replicate, cmp_ones, cmp_eq_int, cmp_ne_int, cmp_lt_int, cmp_le_int, cmp_gt_int, cmp_ge_int, cmp_eq_rt, cmp_ne_rt, cmp_ne_str, cmp_ne_bl, em, e2, e3, e4, repOk, sizeLine_eq]
  refine (hp b ex _ _ (by simp) (by simp) D4).mono fun v st' hv => ?_
  obtain ⟨d, hm, rfl, h2⟩ := hv
  refine ⟨d, rfl, okAll_mem ?_ d hm, by rw [hD.take h2]; exact h2⟩
  have := rows_ok M
  simp [D.okAll, D.ok, fok, ok2, ok3, ok4, this]
def SPrice (C : Nat → List S → Store → Res S) (f : Nat) : Prop := ∀ (b : Nat) (ex st : Store) (rs : List Row), Mk rs → Dok (b + 3) ex st → (C f [.r 1, .v (mkt rs)] st).sat fun v st' => ∃ p, v = .v (rt p) ∧ 0 < p ∧ Rb 60 p ∧ Dok b ex st'
theorem rt_half : D.tup [.int 1, .int 2] = rt (1 / 2) := by
  have h1 : ((1 : Rat) / 2).num = 1 := by decide +kernel
  have h2 : ((1 : Rat) / 2).den = 2 := by decide +kernel
  unfold rt
  rw [h1, h2]
  rfl
theorem rt_nano : D.tup [.int 1, .int 1000000000] = rt (1 / 1000000000) := by
  have h1 : ((1 : Rat) / 1000000000).num = 1 := by decide +kernel
  have h2 : ((1 : Rat) / 1000000000).den = 1000000000 := by decide +kernel
  unfold rt
  rw [h1, h2]
  rfl
theorem rt_nine : D.tup [.int 9, .int 10] = rt (9 / 10) := by
  have h1 : ((9 : Rat) / 10).num = 9 := by decide +kernel
  have h2 : ((9 : Rat) / 10).den = 10 := by decide +kernel
  unfold rt
  rw [h1, h2]
  rfl
theorem rt_seven : D.tup [.int 7, .int 1] = rt 7 := rfl
theorem sp_price {fp ft fa : Nat} (hf : F f = some (B_law_price fp ft fa)) (hk : G.keep.contains f = false) (hp : SPick (callK G F k) fp) (ht : S2 (callK G F k) ft (· * ·)) (ha : S2 (callK G F k) fa (· + ·)) : SPrice (callK G F (k + 1)) f := by
  intro b ex st rs M hD
  refine call_sat hf rfl hk ?_
  have hne : rs.map rowD ≠ [] := fun e => by
    have := M.ne
    have h2 := congrArg List.length e
    rw [List.length_map] at h2
    simp at h2
    simp [h2] at this
  have hlen : (rs.map rowD).length < 2 ^ 64 := by rw [List.length_map]; have := M.le; omega
  obtain ⟨_, st1, e1, d1, m1, rfl, D1⟩ := (hp (b + 2) ex st (rs.map rowD) hne hlen hD).ex
  obtain ⟨_, st2, e2, d2, m2, rfl, D2⟩ := (hp (b + 1) ex st1 (rs.map rowD) hne hlen D1).ex
  obtain ⟨r1, hr1, rfl⟩ := List.mem_map.mp m1
  obtain ⟨r2, hr2, rfl⟩ := List.mem_map.mp m2
  have b1 := M.vb r1 hr1
  have b2 := M.vb r2 hr2
  have p1 := M.v0 r1 hr1
  have p2 := M.v0 r2 hr2
  have bh : Rb 2 ((1 : Rat) / 2) := ⟨by decide +kernel, by decide +kernel⟩
  have bn : Rb 31 ((1 : Rat) / 1000000000) := ⟨by decide +kernel, by decide +kernel⟩
  have b9 : Rb 4 ((9 : Rat) / 10) := ⟨by decide +kernel, by decide +kernel⟩
  have b7 : Rb 4 (7 : Rat) := ⟨by decide +kernel, by decide +kernel⟩
  have q1 := fun s => ha s r1.1 r2.1 (b1.mono (by decide)) (b2.mono (by decide))
  have q2 := fun s => ht s (1 / 2) (r1.1 + r2.1) (bh.mono (by decide)) ((b1.add b2).mono (by decide))
  have q3 := fun s => ha s r1.1 (1 / 1000000000) (b1.mono (by decide)) (bn.mono (by decide))
  have q4 := fun s => ht s r1.1 (9 / 10) (b1.mono (by decide)) (b9.mono (by decide))
  have q5 := fun s => ht s r1.1 7 (b1.mono (by decide)) (b7.mono (by decide))
  have p9 : powOk 10 9 = true := by decide
  have em : mkt rs = .tup [.str (Str.ofString "market"), .tup (rs.map rowD)] := rfl
  have av : allV (List.map (S.v ∘ rowD) rs) = some (rs.map rowD) := allV_mapF rowD rs
  have eL : ∀ r : Row, rowD r = .tup [rt r.1, rt r.2] := fun _ => rfl
  rw [eL] at e1 e2
  simp [B_law_price, evE, evEs, evO, evOc, evC, evAll, evAny, evAnd, evOr, depAll_nil, get_app, set_app, get_app1, get_map_last, sat_nil, sat_cons, after_nx, after_rt, after_bk, after_ct, brn_true, brn_false, sat_ifs, evFr_disp, evFr_lof, evFr_add, evFr_lzip, exS_asg, exS_par, exS_setix, exS_expr, exS_ret, exS_retN, exS_pass, exS_brk, exS_cont, exS_thr, need, bopSem, blSem, ixSem, setAll, asgT, asgL, trunc, rdD, allV, isiSem, isTy, tyOf, tyFits, nexc, items, lstI, L2.atI, L2.ixN, Res.sat_bind, Res.sat_ite, oneR, Wk.asg, wipe, List.replicate, cmp_ones, cmp_eq_int, cmp_ne_int, cmp_lt_int, cmp_le_int, cmp_gt_int, cmp_ge_int, cmp_eq_rt, cmp_ne_rt, cmp_ne_str, cmp_ne_bl, em, av, e1, e2, p9, rt_half, rt_nano, rt_nine, rt_seven, q1, q2, q3, q4, q5]
  refine (hp b ex _ _ (by simp) (by simp) D2).mono fun v st' hv => ?_
  obtain ⟨d, hm, rfl, h2⟩ := hv
  have tk : st'.take st.length = st' := hD.take h2
  have half : (0 : Rat) < 1 / 2 := by decide +kernel
  have nano : (0 : Rat) < 1 / 1000000000 := by decide +kernel
  have nine : (0 : Rat) < 9 / 10 := by decide +kernel
  have seven : (0 : Rat) < 7 := by decide +kernel
  simp at hm
  rcases hm with rfl | rfl | rfl | rfl | rfl
  · exact ⟨_, rfl, _, rfl, p1, b1.mono (by decide), by rw [tk]; exact h2⟩
  · exact ⟨_, rfl, _, rfl, Rat.mul_pos half (by grind), (bh.mul (b1.add b2)).mono (by decide), by rw [tk]; exact h2⟩
  · exact ⟨_, rfl, _, rfl, by grind, (b1.add bn).mono (by decide), by rw [tk]; exact h2⟩
  · exact ⟨_, rfl, _, rfl, Rat.mul_pos p1 nine, (b1.mul b9).mono (by decide), by rw [tk]; exact h2⟩
  · exact ⟨_, rfl, _, rfl, Rat.mul_pos p1 seven, (b1.mul b7).mono (by decide), by rw [tk]; exact h2⟩
end
end Sw

set_option linter.all false
set_option maxRecDepth 100000
set_option maxHeartbeats 4000000
namespace Sw
open PySem
section
variable {G : Gt} {F : Nat → Option Fd} {C : Nat → List S → Store → Res S} {k f : Nat}
theorem kw1 {α : Type} (p : Str) (y : α) : kwG [p] 0 [p] [y] = some [y] := by simp [kwG]
theorem kw_mp {α : Type} (x : α) : kwG ["market", "price"] 1 ["price"] [x] = some [x] := by simp [kwG]
theorem kw_pm {α : Type} (x y : α) : kwG ["market", "price"] 0 ["price", "market"] [x, y] = some [y, x] := by
  have h : ((Str.ofString "market") == (Str.ofString "price")) = false := by decide +kernel
  simp [kwG, List.lookup, h]
theorem best_rt (rs : List Row) : bestD rs = .tup ((((rs.filter (isBest rs)).map (·.1))).map rt) := by
  unfold bestD
  rw [List.map_map]
  rfl
theorem cmp_nin_tup (q : Rat) (l : List Rat) (st : Store) : cmpSem .nin (.v (rt q)) (.v (.tup (l.map rt))) st = some (!decide (q ∈ l)) := by
  have h := dep_rts l
  have h2 : D.depAll (l.map rt) + 1 ≤ 60 := by omega
  have h3 : ((l.map rt).any fun z => z.eqv (rt q)) = decide (q ∈ l) := by
    rw [List.any_map]
    by_cases hm : q ∈ l
    · rw [decide_eq_true hm, List.any_eq_true]
      exact ⟨q, hm, by show D.eqv (rt q) (rt q) = true; rw [eqv_rt]; simp⟩
    · rw [decide_eq_false hm, List.any_eq_false]
      intro x hx
      show ¬ D.eqv (rt x) (rt q) = true
      rw [eqv_rt]
      simp only [decide_eq_true_eq]
      exact fun e => hm (e ▸ hx)
  have e : rt q = .tup [.int q.num, .int q.den] := rfl
  rw [e] at h3 ⊢
  simp only [cmpSem, rdD, Option.bind_some, D.dep, D.depAll, h2, h3]
  simp
theorem pl_rts : ∀ l : List Rat, D.plAll (l.map rt) = true
  | [] => rfl
  | q :: l => by
    simp only [List.map_cons, D.plAll, pl_rts l, Bool.and_true]
    rfl
theorem sz_rts : ∀ l : List Rat, D.szAll (l.map rt) = 3 * l.length
  | [] => rfl
  | q :: l => by
    simp only [List.map_cons, D.szAll, sz_rts l, List.length_cons]
    have : (rt q).sz = 3 := rfl
    omega
def STold (C : Nat → List S → Store → Res S) (f : Nat) : Prop := ∀ (b : Nat) (ex st : Store) (rs : List Row), Mk rs → Dok (b + 15) ex st → (C f [.r 1, .v (mkt rs)] st).sat fun v st' => v = .v (.bl true) ∧ Dok b ex st'
def TdIn (b : Nat) (ex : Store) (rs : List Row) (r : List Nat) (ρ : Env) (st : Store) : Prop := ∃ e3 e6 e7 : Option S, Dok (b + 3 * r.length) ex st ∧ ρ = [some (.r 1), some (.v (mkt rs)), some (.v (rowsD rs)), e3, some (.v (bestD rs)), some (.v (rt (hi rs))), e6, e7, none]
theorem sp_told {fw fo fde fbg fmb fs fma fsum fmw fbp fpr fmd fmr fmu fre fl ci cp : Nat} (hf : F f = some (B_law_told_right fw fo fde fbg fmb fs fma fsum fmw fbp fpr fmd fmr fmu fre fl)) (hk : G.keep.contains f = false)
    (gw : G.ps fw = [("market" : Str)]) (go : G.ps fo = [("market" : Str)]) (gd : G.ps fde = [("market" : Str), "price"]) (gb : G.ps fbg = [("market" : Str), "price"])
    (hw : SPub (callK G F k) fw ci fun rs => rt (whl rs)) (ho : SPub (callK G F k) fo ci fun rs => rt (hi rs)) (hde : SPubP (callK G F k) fde ci cp fun rs p => rt (dem rs p)) (hbg : SPubP (callK G F k) fbg ci cp fun rs p => rt (buy rs p)) (hmb : SMkBest (callK G F k) fmb) (hs : SSame (callK G F k) fs)
    (hma : SPub (callK G F k) fma ci fun rs => rt (mass rs)) (hsum : STot (callK G F k) fsum) (hmw : SRow (callK G F k) fmw whl) (hbp : SPub (callK G F k) fbp ci bestD) (hpr : SPrice (callK G F k) fpr) (hmd : SRowP (callK G F k) fmd dem) (hmr : SRowP (callK G F k) fmr rev) (hmu : SRowP (callK G F k) fmu buy)
    (hre : SPubP (callK G F k) fre ci cp fun rs p => rt (rev rs p)) (hl : SLess (callK G F k) fl) : STold (callK G F (k + 1)) f := by
  intro b ex st rs M hD
  refine call_sat hf rfl hk ?_
  have em : mkt rs = .tup [.str (Str.ofString "market"), rowsD rs] := rfl
  have q1 := fun s => hmb s rs M
  have q2 := fun s => hma.good s rs M
  have q3 := fun s => hw.good s rs M
  have q4 := fun s => hmw s rs M
  have q5 := fun s => hbp.good s rs M
  have q6 := fun s => ho.good s rs M
  have rbs : Rbs (rs.map (·.2)) := .of (b := 100) (fun x hx => by obtain ⟨r, hr, rfl⟩ := List.mem_map.mp hx; exact M.mb r hr) (by rw [List.length_map]; exact M.le) (by decide)
  have q7 : ∀ s, callK G F k fsum [.v (.lst ((rs.map (·.2)).map rt))] s = .ok (.v (rt (mass rs))) s := fun s => hsum s _ rbs
  have s1 := fun s => hs s (.lst [rt (mass rs), rt (whl rs)]) (by rfl) (by simp [D.dep, D.depAll, dep_rt]) (by simp [D.sz, D.szAll, rt])
  have bl : ((rs.filter (isBest rs)).map (·.1)).length ≤ 6 := by rw [List.length_map]; exact len_filter _ M.le
  have s2 := fun s => hs s (.lst [bestD rs, rt (hi rs)]) (by simp only [D.pl, D.plAll, best_rt, pl_rts] <;> rfl) (by have := dep_rts ((rs.filter (isBest rs)).map (·.1)); simp only [D.dep, D.depAll, best_rt, dep_rt]; omega) (by
    have e : (rt (hi rs)).sz = 3 := rfl
    simp only [D.sz, D.szAll, best_rt, sz_rts, e]
    omega)
  rw [em] at q2 q3 q5 q6
  simp [B_law_told_right, evE, evEs, evO, evOc, evC, evAll, evAny, evAnd, evOr, depAll_nil, get_app, set_app, get_app1, get_map_last, sat_nil, sat_cons, after_nx, after_rt, after_bk, after_ct, brn_true, brn_false, sat_ifs, evFr_disp, evFr_lof, evFr_add, evFr_lzip, exS_asg, exS_par, exS_setix, exS_expr, exS_ret, exS_retN, exS_pass, exS_brk, exS_cont, exS_thr, need, bopSem, blSem, ixSem, setAll, asgT, asgL, trunc, rdD, allV, isiSem, isTy, tyOf, tyFits, nexc, items, lstI, L2.atI, L2.ixN, Res.sat_bind, Res.sat_ite, oneR, Wk.asg, wipe, List.replicate, cmp_ones, cmp_eq_int, cmp_ne_int, cmp_lt_int, cmp_le_int, cmp_gt_int, cmp_ge_int, cmp_eq_rt, cmp_ne_rt, cmp_ne_str, cmp_ne_bl, em, q1, q2, q3, gw, kw1]
  refine comp_sq rs rowD (fun r => some (.v (rt r.2))) (x := rowsD rs) (st1 := st) (by simp [evE, evEs, evO, evOc, evC, evAll, evAny, evAnd, evOr, depAll_nil, get_app, set_app, get_app1, get_map_last, sat_nil, sat_cons, after_nx, after_rt, after_bk, after_ct, brn_true, brn_false, sat_ifs, evFr_disp, evFr_lof, evFr_add, evFr_lzip, exS_asg, exS_par, exS_setix, exS_expr, exS_ret, exS_retN, exS_pass, exS_brk, exS_cont, exS_thr, need, bopSem, cmpSem, blSem, ixSem, setAll, asgT, asgL, trunc, rdD, allV, isiSem, isTy, tyOf, tyFits, nexc, items, lstI, L2.atI, L2.ixN, Res.sat_bind, Res.sat_ite, oneR, Wk.asg, wipe, List.replicate]) (.inr rfl) (fun r hr => ?_) ?_
  · simp [evE, evEs, evO, evOc, evC, evAll, evAny, evAnd, evOr, depAll_nil, get_app, set_app, get_app1, get_map_last, sat_nil, sat_cons, after_nx, after_rt, after_bk, after_ct, brn_true, brn_false, sat_ifs, evFr_disp, evFr_lof, evFr_add, evFr_lzip, exS_asg, exS_par, exS_setix, exS_expr, exS_ret, exS_retN, exS_pass, exS_brk, exS_cont, exS_thr, need, bopSem, blSem, ixSem, setAll, asgT, asgL, trunc, rdD, allV, isiSem, isTy, tyOf, tyFits, nexc, items, lstI, L2.atI, L2.ixN, Res.sat_bind, Res.sat_ite, oneR, Wk.asg, wipe, List.replicate, cmp_ones, cmp_eq_int, cmp_ne_int, cmp_lt_int, cmp_le_int, cmp_gt_int, cmp_ge_int, cmp_eq_rt, cmp_ne_rt, cmp_ne_str, cmp_ne_bl, rowD]
  · simp only [rtsV (fun r : Row => r.2), Res.sat_ok, q7, q4]
    simp [evE, evEs, evO, evOc, evC, evAll, evAny, evAnd, evOr, depAll_nil, get_app, set_app, get_app1, get_map_last, sat_nil, sat_cons, after_nx, after_rt, after_bk, after_ct, brn_true, brn_false, sat_ifs, evFr_disp, evFr_lof, evFr_add, evFr_lzip, exS_asg, exS_par, exS_setix, exS_expr, exS_ret, exS_retN, exS_pass, exS_brk, exS_cont, exS_thr, need, bopSem, blSem, ixSem, setAll, asgT, asgL, trunc, rdD, allV, isiSem, isTy, tyOf, tyFits, nexc, items, lstI, L2.atI, L2.ixN, Res.sat_bind, Res.sat_ite, oneR, Wk.asg, wipe, List.replicate, cmp_ones, cmp_eq_int, cmp_ne_int, cmp_lt_int, cmp_le_int, cmp_gt_int, cmp_ge_int, cmp_eq_rt, cmp_ne_rt, cmp_ne_str, cmp_ne_bl, q4, s1, q5, q6, go, kw1, s2]
    refine for_rng 5 (TdIn b ex rs) (st1 := st) (by simp [evE, evEs, evO, evOc, evC, evAll, evAny, evAnd, evOr, depAll_nil, get_app, set_app, get_app1, get_map_last, sat_nil, sat_cons, after_nx, after_rt, after_bk, after_ct, brn_true, brn_false, sat_ifs, evFr_disp, evFr_lof, evFr_add, evFr_lzip, exS_asg, exS_par, exS_setix, exS_expr, exS_ret, exS_retN, exS_pass, exS_brk, exS_cont, exS_thr, need, bopSem, blSem, ixSem, setAll, asgT, asgL, trunc, rdD, allV, isiSem, isTy, tyOf, tyFits, nexc, items, lstI, L2.atI, L2.ixN, Res.sat_bind, Res.sat_ite, oneR, Wk.asg, wipe, List.replicate, cmp_ones, cmp_eq_int, cmp_ne_int, cmp_lt_int, cmp_le_int, cmp_gt_int, cmp_ge_int, cmp_eq_rt, cmp_ne_rt, cmp_ne_str, cmp_ne_bl]) (by omega) ⟨none, none, none, hD, by rw [em]⟩ (fun a r ρ' st' h => ?_) fun ρ' st' h => ?_
    · obtain ⟨e3, e6, e7, D1, rfl⟩ := h
      simp only [List.length_cons] at D1
      refine ⟨_, rfl, ?_⟩
      obtain ⟨_, st1, g1, p, rfl, p0, pb, D2⟩ := (hpr (b + 3 * r.length) ex st' rs M (D1.mono (by omega))).ex
      have u1 := fun s => hmd s rs p M pb
      have u2 := fun s => hmr s rs p M pb
      have u3 := fun s => hmu s rs p M pb
      have u4 := fun s => hde.good s rs p M p0 pb
      have u5 := fun s => hre.good s rs p M p0 pb
      have u6 := fun s => hbg.good s rs p M p0 pb
      have u7 := fun s => hs s (.lst [rt (dem rs p), rt (rev rs p), rt (buy rs p)]) (by rfl) (by simp [D.dep, D.depAll, dep_rt]) (by simp [D.sz, D.szAll, rt])
      have u8 := fun s => hl s (hi rs) (rev rs p) ((hi_rb M).mono (by decide)) ((rev_rb M pb).mono (by decide))
      obtain ⟨h1, h2⟩ := heart M p0
      have u9 : ¬ hi rs < rev rs p := Rat.not_lt.mpr h1
      rw [em] at g1 u4 u5 u6
      have fin : TdIn b ex rs r [some (.r 1), some (.v (mkt rs)), some (.v (rowsD rs)), some (.v (.int (a : Nat))), some (.v (bestD rs)), some (.v (rt (hi rs))), some (.v (rt p)), some (.v (.lst [rt (dem rs p), rt (rev rs p), rt (buy rs p)])), none] st1 := ⟨_, _, _, D2, rfl⟩
      by_cases hq : rev rs p = hi rs
      · obtain ⟨rr, m1, m2, m3⟩ := h2 hq
        have hm : p ∈ (rs.filter (isBest rs)).map (·.1) := List.mem_map.mpr ⟨rr, List.mem_filter.mpr ⟨m1, decide_eq_true m2⟩, m3.symm⟩
        have hn := fun s => cmp_nin_tup p ((rs.filter (isBest rs)).map (·.1)) s
        rw [← best_rt, decide_eq_true hm] at hn
        rw [hq] at u2 u5 u7 u8 fin
        have ir : ¬ hi rs < hi rs := Rat.lt_irrefl
        simp [evE, evEs, evO, evOc, evC, evAll, evAny, evAnd, evOr, depAll_nil, get_app, set_app, get_app1, get_map_last, sat_nil, sat_cons, after_nx, after_rt, after_bk, after_ct, brn_true, brn_false, sat_ifs, evFr_disp, evFr_lof, evFr_add, evFr_lzip, exS_asg, exS_par, exS_setix, exS_expr, exS_ret, exS_retN, exS_pass, exS_brk, exS_cont, exS_thr, need, bopSem, blSem, ixSem, setAll, asgT, asgL, trunc, rdD, allV, isiSem, isTy, tyOf, tyFits, nexc, items, lstI, L2.atI, L2.ixN, Res.sat_bind, Res.sat_ite, oneR, Wk.asg, wipe, List.replicate, cmp_ones, cmp_eq_int, cmp_ne_int, cmp_lt_int, cmp_le_int, cmp_gt_int, cmp_ge_int, cmp_eq_rt, cmp_ne_rt, cmp_ne_str, cmp_ne_bl, em, g1, u1, u2, u3, u4, u5, u6, u7, u8, gd, gb, kw_mp, kw_pm, hn, ir]
        exact fin
      · simp [evE, evEs, evO, evOc, evC, evAll, evAny, evAnd, evOr, depAll_nil, get_app, set_app, get_app1, get_map_last, sat_nil, sat_cons, after_nx, after_rt, after_bk, after_ct, brn_true, brn_false, sat_ifs, evFr_disp, evFr_lof, evFr_add, evFr_lzip, exS_asg, exS_par, exS_setix, exS_expr, exS_ret, exS_retN, exS_pass, exS_brk, exS_cont, exS_thr, need, bopSem, blSem, ixSem, setAll, asgT, asgL, trunc, rdD, allV, isiSem, isTy, tyOf, tyFits, nexc, items, lstI, L2.atI, L2.ixN, Res.sat_bind, Res.sat_ite, oneR, Wk.asg, wipe, List.replicate, cmp_ones, cmp_eq_int, cmp_ne_int, cmp_lt_int, cmp_le_int, cmp_gt_int, cmp_ge_int, cmp_eq_rt, cmp_ne_rt, cmp_ne_str, cmp_ne_bl, em, g1, u1, u2, u3, u4, u5, u6, u7, u8, gd, gb, kw_mp, kw_pm, u9, hq]
        exact fin
    · obtain ⟨e3, e6, e7, D1, rfl⟩ := h
      simp [evE, evEs, evO, evOc, evC, evAll, evAny, evAnd, evOr, depAll_nil, get_app, set_app, get_app1, get_map_last, sat_nil, sat_cons, after_nx, after_rt, after_bk, after_ct, brn_true, brn_false, sat_ifs, evFr_disp, evFr_lof, evFr_add, evFr_lzip, exS_asg, exS_par, exS_setix, exS_expr, exS_ret, exS_retN, exS_pass, exS_brk, exS_cont, exS_thr, need, bopSem, blSem, ixSem, setAll, asgT, asgL, trunc, rdD, allV, isiSem, isTy, tyOf, tyFits, nexc, items, lstI, L2.atI, L2.ixN, Res.sat_bind, Res.sat_ite, oneR, Wk.asg, wipe, List.replicate, cmp_ones, cmp_eq_int, cmp_ne_int, cmp_lt_int, cmp_le_int, cmp_gt_int, cmp_ge_int, cmp_eq_rt, cmp_ne_rt, cmp_ne_str, cmp_ne_bl]
      rw [hD.take D1]
      exact D1
def SBad (C : Nat → List S → Store → Res S) (f : Nat) (P : Nat → Prop) : Prop := ∀ (st : Store) (g : Nat) (v : D), P g → v.ok → marketV v = false → C f [.v (.fn g), .v v] st = .ok (.v (.bl true)) st
theorem sp_isbad {ci : Nat} {P : Nat → Prop} (hf : F f = some (B_law_is_bad ci)) (hk : G.keep.contains f = false) (hks : ci < G.ks.length) (hsub : G.sub ci ci = true) (hP : ∀ g, P g → g < G.cl.length ∧ ∀ (st : Store) (v : D), v.ok → marketV v = false → callK G F k g [.v v] st = .ex ci [] [] st) : SBad (callK G F (k + 1)) f P := by
  intro st g v hg hv hm
  obtain ⟨h1, h2⟩ := hP g hg
  have e := h2 st v hv hm
  refine call_eq hf rfl hk ?_
  simp [B_law_is_bad, evE, evEs, evO, evOc, evC, evAll, evAny, evAnd, evOr, depAll_nil, get_app, set_app, get_app1, get_map_last, sat_nil, sat_cons, after_nx, after_rt, after_bk, after_ct, brn_true, brn_false, sat_ifs, evFr_disp, evFr_lof, evFr_add, evFr_lzip, exS_asg, exS_par, exS_setix, exS_expr, exS_ret, exS_retN, exS_pass, exS_brk, exS_cont, exS_thr, need, bopSem, blSem, ixSem, setAll, asgT, asgL, trunc, rdD, allV, isiSem, isTy, tyOf, tyFits, nexc, items, lstI, L2.atI, L2.ixN, Res.sat_bind, Res.sat_ite, oneR, Wk.asg, wipe, List.replicate, cmp_ones, cmp_eq_int, cmp_ne_int, cmp_lt_int, cmp_le_int, cmp_gt_int, cmp_ge_int, cmp_eq_rt, cmp_ne_rt, cmp_ne_str, cmp_ne_bl, h1, e, hks, hsub]
def SRef (C : Nat → List S → Store → Res S) (f : Nat) : Prop := ∀ (b : Nat) (ex st : Store) (rs : List Row) (near : D), Mk rs → near.ok → Dok (b + 1) ex st → (C f [.r 1, .v (mkt rs), .v near] st).sat fun v st' => v = .v (.bl true) ∧ Dok b ex st'
def RfIn (rs : List Row) (near off : D) (all : List Nat) (st0 : Store) (r : List Nat) (ρ : Env) (st : Store) : Prop := st = st0 ∧ (∀ g ∈ r, g ∈ all) ∧ ∃ e4 : Option S, ρ = [some (.r 1), some (.v (mkt rs)), some (.v near), some (.v off), e4]
theorem sp_refused {fp fm fib fde fre fbg fma fwh fbp fop cp ci : Nat} (hf : F f = some (B_law_refused fp fm fib fde fre fbg fma fwh fbp fop cp ci)) (hk : G.keep.contains f = false) (hp : SPick (callK G F k) fp) (hm : STst (callK G F k) fm marketV) (hib : SBad (callK G F k) fib fun g => g ∈ [fma, fwh, fbp, fop])
    (hki : ci < G.ks.length) (hkp : cp < G.ks.length) (hsi : G.sub ci ci = true) (hsp : G.sub cp cp = true) {gd gr gb : List Row → Rat → D} (h1 : SPubP (callK G F k) fde ci cp gd) (h2 : SPubP (callK G F k) fre ci cp gr) (h3 : SPubP (callK G F k) fbg ci cp gb) (l1 : fde < G.cl.length) (l2 : fre < G.cl.length) (l3 : fbg < G.cl.length) : SRef (callK G F (k + 1)) f := by
  intro b ex st rs near M hn hD
  refine call_sat hf rfl hk ?_
  simp [B_law_refused, evE, evEs, evO, evOc, evC, evAll, evAny, evAnd, evOr, depAll_nil, get_app, set_app, get_app1, get_map_last, sat_nil, sat_cons, after_nx, after_rt, after_bk, after_ct, brn_true, brn_false, sat_ifs, evFr_disp, evFr_lof, evFr_add, evFr_lzip, exS_asg, exS_par, exS_setix, exS_expr, exS_ret, exS_retN, exS_pass, exS_brk, exS_cont, exS_thr, need, bopSem, blSem, ixSem, setAll, asgT, asgL, trunc, rdD, allV, isiSem, isTy, tyOf, tyFits, nexc, items, lstI, L2.atI, L2.ixN, Res.sat_bind, Res.sat_ite, oneR, Wk.asg, wipe, List.replicate, cmp_ones, cmp_eq_int, cmp_ne_int, cmp_lt_int, cmp_le_int, cmp_gt_int, cmp_ge_int, cmp_eq_rt, cmp_ne_rt, cmp_ne_str, cmp_ne_bl]
  refine (hp b ex _ _ (by simp) (by simp) hD).mono fun v st1 hv => ?_
  obtain ⟨off, hmem, rfl, D1⟩ := hv
  have offOk : off.ok := okAll_mem (by simp [D.okAll, D.ok, lt2000]) off hmem
  have offA : aboveV off = false := by
    simp at hmem
    rcases hmem with rfl | rfl | rfl | rfl | rfl | rfl | rfl | rfl <;> decide +kernel
  have mok := mkt_ok M
  have mV := mkt_V M
  have all : ∀ g ∈ [fde, fre, fbg], g < G.cl.length ∧ (∀ (st : Store) (v w : D), v.ok → marketV v = false → callK G F k g [.v v, .v w] st = .ex ci [] [] st) ∧ ∀ (st : Store) (v w : D), v.ok → marketV v = true → w.ok → aboveV w = false → callK G F k g [.v v, .v w] st = .ex cp [] [] st := fun g hg => by
    simp at hg
    rcases hg with rfl | rfl | rfl
    · exact ⟨l1, h1.bad, h1.badP⟩
    · exact ⟨l2, h2.bad, h2.badP⟩
    · exact ⟨l3, h3.bad, h3.badP⟩
  refine for_sq [fde, fre, fbg] D.fn (RfIn rs near off [fde, fre, fbg] st1) (x := .lst [.fn fde, .fn fre, .fn fbg]) (st1 := st1) (by simp [evE, evEs, evO, evOc, evC, evAll, evAny, evAnd, evOr, depAll_nil, get_app, set_app, get_app1, get_map_last, sat_nil, sat_cons, after_nx, after_rt, after_bk, after_ct, brn_true, brn_false, sat_ifs, evFr_disp, evFr_lof, evFr_add, evFr_lzip, exS_asg, exS_par, exS_setix, exS_expr, exS_ret, exS_retN, exS_pass, exS_brk, exS_cont, exS_thr, need, bopSem, blSem, ixSem, setAll, asgT, asgL, trunc, rdD, allV, isiSem, isTy, tyOf, tyFits, nexc, items, lstI, L2.atI, L2.ixN, Res.sat_bind, Res.sat_ite, oneR, Wk.asg, wipe, List.replicate, cmp_ones, cmp_eq_int, cmp_ne_int, cmp_lt_int, cmp_le_int, cmp_gt_int, cmp_ge_int, cmp_eq_rt, cmp_ne_rt, cmp_ne_str, cmp_ne_bl]) (.inl rfl) ⟨rfl, fun g hg => hg, none, rfl⟩ (fun g r ρ' st' h => ?_) fun ρ' st' h => ?_
  · obtain ⟨rfl, hr, e4, rfl⟩ := h
    refine ⟨_, rfl, ?_⟩
    obtain ⟨a1, a2, a3⟩ := all g (hr g List.mem_cons_self)
    have e1 := a3 st' (mkt rs) off mok mV offOk offA
    have e2 := hm st' near hn
    have fin : RfIn rs near off [fde, fre, fbg] st' r [some (.r 1), some (.v (mkt rs)), some (.v near), some (.v off), some (.v (.fn g))] st' := ⟨rfl, fun x hx => hr x (List.mem_cons_of_mem _ hx), _, rfl⟩
    by_cases hN : marketV near = true
    · rw [hN] at e2
      simp [evE, evEs, evO, evOc, evC, evAll, evAny, evAnd, evOr, depAll_nil, get_app, set_app, get_app1, get_map_last, sat_nil, sat_cons, after_nx, after_rt, after_bk, after_ct, brn_true, brn_false, sat_ifs, evFr_disp, evFr_lof, evFr_add, evFr_lzip, exS_asg, exS_par, exS_setix, exS_expr, exS_ret, exS_retN, exS_pass, exS_brk, exS_cont, exS_thr, need, bopSem, blSem, ixSem, setAll, asgT, asgL, trunc, rdD, allV, isiSem, isTy, tyOf, tyFits, nexc, items, lstI, L2.atI, L2.ixN, Res.sat_bind, Res.sat_ite, oneR, Wk.asg, wipe, List.replicate, cmp_ones, cmp_eq_int, cmp_ne_int, cmp_lt_int, cmp_le_int, cmp_gt_int, cmp_ge_int, cmp_eq_rt, cmp_ne_rt, cmp_ne_str, cmp_ne_bl, a1, e1, e2, hkp, hsp]
      exact fin
    · have hN' : marketV near = false := by simpa using hN
      have e3 := a2 st' near off hn hN'
      rw [hN'] at e2
      simp [evE, evEs, evO, evOc, evC, evAll, evAny, evAnd, evOr, depAll_nil, get_app, set_app, get_app1, get_map_last, sat_nil, sat_cons, after_nx, after_rt, after_bk, after_ct, brn_true, brn_false, sat_ifs, evFr_disp, evFr_lof, evFr_add, evFr_lzip, exS_asg, exS_par, exS_setix, exS_expr, exS_ret, exS_retN, exS_pass, exS_brk, exS_cont, exS_thr, need, bopSem, blSem, ixSem, setAll, asgT, asgL, trunc, rdD, allV, isiSem, isTy, tyOf, tyFits, nexc, items, lstI, L2.atI, L2.ixN, Res.sat_bind, Res.sat_ite, oneR, Wk.asg, wipe, List.replicate, cmp_ones, cmp_eq_int, cmp_ne_int, cmp_lt_int, cmp_le_int, cmp_gt_int, cmp_ge_int, cmp_eq_rt, cmp_ne_rt, cmp_ne_str, cmp_ne_bl, a1, e1, e2, e3, hkp, hsp, hki, hsi]
      exact fin
  · obtain ⟨rfl, _, e4, rfl⟩ := h
    have e2 := hm st' near hn
    have tk : st'.take st.length = st' := hD.take D1
    by_cases hN : marketV near = true
    · rw [hN] at e2
      simp [evE, evEs, evO, evOc, evC, evAll, evAny, evAnd, evOr, depAll_nil, get_app, set_app, get_app1, get_map_last, sat_nil, sat_cons, after_nx, after_rt, after_bk, after_ct, brn_true, brn_false, sat_ifs, evFr_disp, evFr_lof, evFr_add, evFr_lzip, exS_asg, exS_par, exS_setix, exS_expr, exS_ret, exS_retN, exS_pass, exS_brk, exS_cont, exS_thr, need, bopSem, blSem, ixSem, setAll, asgT, asgL, trunc, rdD, allV, isiSem, isTy, tyOf, tyFits, nexc, items, lstI, L2.atI, L2.ixN, Res.sat_bind, Res.sat_ite, oneR, Wk.asg, wipe, List.replicate, cmp_ones, cmp_eq_int, cmp_ne_int, cmp_lt_int, cmp_le_int, cmp_gt_int, cmp_ge_int, cmp_eq_rt, cmp_ne_rt, cmp_ne_str, cmp_ne_bl, e2, tk]
      exact D1
    · have hN' : marketV near = false := by simpa using hN
      rw [hN'] at e2
      simp [evE, evEs, evO, evOc, evC, evAll, evAny, evAnd, evOr, depAll_nil, get_app, set_app, get_app1, get_map_last, sat_nil, sat_cons, after_nx, after_rt, after_bk, after_ct, brn_true, brn_false, sat_ifs, evFr_disp, evFr_lof, evFr_add, evFr_lzip, exS_asg, exS_par, exS_setix, exS_expr, exS_ret, exS_retN, exS_pass, exS_brk, exS_cont, exS_thr, need, bopSem, blSem, ixSem, setAll, asgT, asgL, trunc, rdD, allV, isiSem, isTy, tyOf, tyFits, nexc, items, lstI, L2.atI, L2.ixN, Res.sat_bind, Res.sat_ite, oneR, Wk.asg, wipe, List.replicate, cmp_ones, cmp_eq_int, cmp_ne_int, cmp_lt_int, cmp_le_int, cmp_gt_int, cmp_ge_int, cmp_eq_rt, cmp_ne_rt, cmp_ne_str, cmp_ne_bl, e2]
      refine comp_sq [fma, fwh, fbp, fop] D.fn (fun _ => none) (x := .lst [.fn fma, .fn fwh, .fn fbp, .fn fop]) (st1 := st') (by simp [evE, evEs, evO, evOc, evC, evAll, evAny, evAnd, evOr, depAll_nil, get_app, set_app, get_app1, get_map_last, sat_nil, sat_cons, after_nx, after_rt, after_bk, after_ct, brn_true, brn_false, sat_ifs, evFr_disp, evFr_lof, evFr_add, evFr_lzip, exS_asg, exS_par, exS_setix, exS_expr, exS_ret, exS_retN, exS_pass, exS_brk, exS_cont, exS_thr, need, bopSem, blSem, ixSem, setAll, asgT, asgL, trunc, rdD, allV, isiSem, isTy, tyOf, tyFits, nexc, items, lstI, L2.atI, L2.ixN, Res.sat_bind, Res.sat_ite, oneR, Wk.asg, wipe, List.replicate, cmp_ones, cmp_eq_int, cmp_ne_int, cmp_lt_int, cmp_le_int, cmp_gt_int, cmp_ge_int, cmp_eq_rt, cmp_ne_rt, cmp_ne_str, cmp_ne_bl]) (.inl rfl) (fun g hg => ?_) ?_
      · have e3 := hib st' g near hg hn hN'
        simp [evE, evEs, evO, evOc, evC, evAll, evAny, evAnd, evOr, depAll_nil, get_app, set_app, get_app1, get_map_last, sat_nil, sat_cons, after_nx, after_rt, after_bk, after_ct, brn_true, brn_false, sat_ifs, evFr_disp, evFr_lof, evFr_add, evFr_lzip, exS_asg, exS_par, exS_setix, exS_expr, exS_ret, exS_retN, exS_pass, exS_brk, exS_cont, exS_thr, need, bopSem, blSem, ixSem, setAll, asgT, asgL, trunc, rdD, allV, isiSem, isTy, tyOf, tyFits, nexc, items, lstI, L2.atI, L2.ixN, Res.sat_bind, Res.sat_ite, oneR, Wk.asg, wipe, List.replicate, cmp_ones, cmp_eq_int, cmp_ne_int, cmp_lt_int, cmp_le_int, cmp_gt_int, cmp_ge_int, cmp_eq_rt, cmp_ne_rt, cmp_ne_str, cmp_ne_bl, e3]
      · have c0 : ∀ s, cmpSem .eq (.v (.lst [])) (.v (.lst [])) s = some true := fun s => by
          have := cmp_ones_eq (fun _ : Nat => false) [] s
          simpa using this
        simp [evE, evEs, evO, evOc, evC, evAll, evAny, evAnd, evOr, depAll_nil, get_app, set_app, get_app1, get_map_last, sat_nil, sat_cons, after_nx, after_rt, after_bk, after_ct, brn_true, brn_false, sat_ifs, evFr_disp, evFr_lof, evFr_add, evFr_lzip, exS_asg, exS_par, exS_setix, exS_expr, exS_ret, exS_retN, exS_pass, exS_brk, exS_cont, exS_thr, need, bopSem, blSem, ixSem, setAll, asgT, asgL, trunc, rdD, allV, isiSem, isTy, tyOf, tyFits, nexc, items, lstI, L2.atI, L2.ixN, Res.sat_bind, Res.sat_ite, oneR, Wk.asg, wipe, List.replicate, cmp_ones, cmp_eq_int, cmp_ne_int, cmp_lt_int, cmp_le_int, cmp_gt_int, cmp_ge_int, cmp_eq_rt, cmp_ne_rt, cmp_ne_str, cmp_ne_bl, c0, tk]
        exact D1
def LwIn (ns : List Int) (r : List Nat) (ρ : Env) (st : Store) : Prop := ∃ e2 e3 e4 : Option S, Dok (100 * r.length) [] st ∧ ρ = [some (.v (.scr ns)), some (.r 1), e2, e3, e4]
theorem sp_law {fm fb fk fn ft fmm fto frf : Nat} (hf : F f = some (B_law fm fb fk fn ft fmm fto frf)) (hk : G.keep.contains f = false) (gm : G.ps fm = [("value" : Str)]) (hm : STst (callK G F k) fm marketV) (hb : ∀ ns : List Int, ns.length ≤ 63 → ∃ st, callK G F k fb [.v (.scr ns)] [] = .ok (.r 1) st ∧ ∀ b, b ≤ 2 ^ 40 → Dok b [] st)
    (hmk : SMkt (callK G F k) fk) (hn : SNear (callK G F k) fn) (ht : STruth (callK G F k) ft) (hmm : STst (callK G F k) fmm marketV) (hto : STold (callK G F k) fto) (hrf : SRef (callK G F k) frf) (ns : List Int) (hns : ns.length ≤ 63) : ∃ st, callK G F (k + 1) f [.v (.scr ns)] [] = .ok (.v (.bl true)) st := by
  have key : (callK G F (k + 1) f [.v (.scr ns)] []).sat fun v st' => v = .v (.bl true) := by
    refine call_sat hf rfl hk ?_
    obtain ⟨st1, e1, D1⟩ := hb ns hns
    simp [B_law, evE, evEs, evO, evOc, evC, evAll, evAny, evAnd, evOr, depAll_nil, get_app, set_app, get_app1, get_map_last, sat_nil, sat_cons, after_nx, after_rt, after_bk, after_ct, brn_true, brn_false, sat_ifs, evFr_disp, evFr_lof, evFr_add, evFr_lzip, exS_asg, exS_par, exS_setix, exS_expr, exS_ret, exS_retN, exS_pass, exS_brk, exS_cont, exS_thr, need, bopSem, blSem, ixSem, setAll, asgT, asgL, trunc, rdD, allV, isiSem, isTy, tyOf, tyFits, nexc, items, lstI, L2.atI, L2.ixN, Res.sat_bind, Res.sat_ite, oneR, Wk.asg, wipe, List.replicate, cmp_ones, cmp_eq_int, cmp_ne_int, cmp_lt_int, cmp_le_int, cmp_gt_int, cmp_ge_int, cmp_eq_rt, cmp_ne_rt, cmp_ne_str, cmp_ne_bl, e1]
    have hit : ∃ n : Nat, n ≤ 18 ∧ evE G (callK G F k) (.bop .add (.cint 8) (.bl .min (.cons (.bl .len (.cons (.var 0) .nil)) (.cons (.cint 10) .nil)))) [some (.v (.scr ns)), some (.r 1), none, none, none] st1 = .ok (.v (.int (n : Nat))) st1 := by
      by_cases h : 10 < ns.length
      · refine ⟨18, by omega, ?_⟩
        have hi : (10 : Int) < (ns.length : Int) := by omega
        simp [evE, evEs, evO, evOc, evC, evAll, evAny, evAnd, evOr, depAll_nil, get_app, set_app, get_app1, get_map_last, sat_nil, sat_cons, after_nx, after_rt, after_bk, after_ct, brn_true, brn_false, sat_ifs, evFr_disp, evFr_lof, evFr_add, evFr_lzip, exS_asg, exS_par, exS_setix, exS_expr, exS_ret, exS_retN, exS_pass, exS_brk, exS_cont, exS_thr, need, bopSem, blSem, ixSem, setAll, asgT, asgL, trunc, rdD, allV, isiSem, isTy, tyOf, tyFits, nexc, items, lstI, L2.atI, L2.ixN, Res.sat_bind, Res.sat_ite, oneR, Wk.asg, wipe, List.replicate, cmp_ones, cmp_eq_int, cmp_ne_int, cmp_lt_int, cmp_le_int, cmp_gt_int, cmp_ge_int, cmp_eq_rt, cmp_ne_rt, cmp_ne_str, cmp_ne_bl, hi]
      · refine ⟨8 + ns.length, by omega, ?_⟩
        have hi : ¬ (10 : Int) < (ns.length : Int) := by omega
        simp [evE, evEs, evO, evOc, evC, evAll, evAny, evAnd, evOr, depAll_nil, get_app, set_app, get_app1, get_map_last, sat_nil, sat_cons, after_nx, after_rt, after_bk, after_ct, brn_true, brn_false, sat_ifs, evFr_disp, evFr_lof, evFr_add, evFr_lzip, exS_asg, exS_par, exS_setix, exS_expr, exS_ret, exS_retN, exS_pass, exS_brk, exS_cont, exS_thr, need, bopSem, blSem, ixSem, setAll, asgT, asgL, trunc, rdD, allV, isiSem, isTy, tyOf, tyFits, nexc, items, lstI, L2.atI, L2.ixN, Res.sat_bind, Res.sat_ite, oneR, Wk.asg, wipe, List.replicate, cmp_ones, cmp_eq_int, cmp_ne_int, cmp_lt_int, cmp_le_int, cmp_gt_int, cmp_ge_int, cmp_eq_rt, cmp_ne_rt, cmp_ne_str, cmp_ne_bl, hi]
    obtain ⟨n, hn18, he⟩ := hit
    refine for_rng n (LwIn ns) he (by omega) ⟨none, none, none, D1 _ (by simp; omega), rfl⟩ (fun a r ρ' st' h => ?_) fun ρ' st' h => ?_
    · obtain ⟨e2, e3, e4, D2, rfl⟩ := h
      simp only [List.length_cons] at D2
      refine ⟨_, rfl, ?_⟩
      obtain ⟨_, t1, g1, rs, M, rfl, T1⟩ := (hmk (100 * r.length + 60) [] st' (D2.mono (by omega))).ex
      obtain ⟨_, t2, g2, near, rfl, ok, T2⟩ := (hn (100 * r.length + 40) [] t1 rs M T1).ex
      obtain ⟨_, t3, g3, rfl, T3⟩ := (hto (100 * r.length + 25) [] t2 rs M T2).ex
      obtain ⟨_, t4, g4, rfl, T4⟩ := (hrf (100 * r.length) [] t3 rs near M ok (T3.mono (by omega))).ex
      have m1 := hm t2 (mkt rs) (mkt_ok M)
      rw [mkt_V M] at m1
      have m2 := hm t2 near ok
      have m3 := hmm t2 near ok
      have u1 := ht t2 true true
      have u2 := ht t2 (marketV near) (marketV near)
      have uu : (marketV near == marketV near) = true := by simp
      rw [uu] at u2
      have fin : LwIn ns r [some (.v (.scr ns)), some (.r 1), some (.v (.int (a : Nat))), some (.v (mkt rs)), some (.v near)] t4 := ⟨_, _, _, T4, rfl⟩
      simp [evE, evEs, evO, evOc, evC, evAll, evAny, evAnd, evOr, depAll_nil, get_app, set_app, get_app1, get_map_last, sat_nil, sat_cons, after_nx, after_rt, after_bk, after_ct, brn_true, brn_false, sat_ifs, evFr_disp, evFr_lof, evFr_add, evFr_lzip, exS_asg, exS_par, exS_setix, exS_expr, exS_ret, exS_retN, exS_pass, exS_brk, exS_cont, exS_thr, need, bopSem, blSem, ixSem, setAll, asgT, asgL, trunc, rdD, allV, isiSem, isTy, tyOf, tyFits, nexc, items, lstI, L2.atI, L2.ixN, Res.sat_bind, Res.sat_ite, oneR, Wk.asg, wipe, List.replicate, cmp_ones, cmp_eq_int, cmp_ne_int, cmp_lt_int, cmp_le_int, cmp_gt_int, cmp_ge_int, cmp_eq_rt, cmp_ne_rt, cmp_ne_str, cmp_ne_bl, g1, g2, m1, m2, m3, u1, u2, gm, kw1, g3, g4]
      exact fin
    · obtain ⟨e2, e3, e4, D2, rfl⟩ := h
      simp [evE, evEs, evO, evOc, evC, evAll, evAny, evAnd, evOr, depAll_nil, get_app, set_app, get_app1, get_map_last, sat_nil, sat_cons, after_nx, after_rt, after_bk, after_ct, brn_true, brn_false, sat_ifs, evFr_disp, evFr_lof, evFr_add, evFr_lzip, exS_asg, exS_par, exS_setix, exS_expr, exS_ret, exS_retN, exS_pass, exS_brk, exS_cont, exS_thr, need, bopSem, blSem, ixSem, setAll, asgT, asgL, trunc, rdD, allV, isiSem, isTy, tyOf, tyFits, nexc, items, lstI, L2.atI, L2.ixN, Res.sat_bind, Res.sat_ite, oneR, Wk.asg, wipe, List.replicate, cmp_ones, cmp_eq_int, cmp_ne_int, cmp_lt_int, cmp_le_int, cmp_gt_int, cmp_ge_int, cmp_eq_rt, cmp_ne_rt, cmp_ne_str, cmp_ne_bl]
  obtain ⟨v, st, e, rfl⟩ := key.ex
  exact ⟨st, e⟩
end
end Sw

set_option Elab.async false
set_option linter.all false
set_option maxRecDepth 100000
set_option maxHeartbeats 0
namespace HT
open PySem PySem.Spec PyProof.Rows L2 Sw
abbrev row : PySem.W.OpenLaw := PySem.Challenge.rw_swaytold_k52_markets_and_prices
def top (i : Nat) : Stmt := row.prog.main.body.getD i (.Pass ⟨0, 0, 0, 0⟩)
def mkD (x : Str) (st : Stmt) : He.DefD := match st with
  | .FunctionDef n a b _ _ _ sc _ _ _ => ⟨(x, none), n, n, a, b, sc, [], []⟩
  | _ => ⟨(x, none), x, x, ⟨[], [], none, [], [], none, []⟩, [], ⟨.function, [], false, false, []⟩, [], []⟩
def t0 : Ft := ⟨⟨1, 1, (.cons (.ret (.andv (.cons (.isi (.var 0) [.int] false) (.cons (.not (.isi (.var 0) [.bool] false)) .nil)))) .nil)⟩, ["value"], ["value"], false⟩
def t1 : Ft := ⟨⟨1, 2, (.cons (.ite (.or (.cons (.not (.val (.isi (.var 0) [.tuple] false))) (.cons (.cmp .ne (.bl .len (.cons (.var 0) .nil)) (.cint (2))) (.cons (.not (.val (.bl .all (.cons (.fr (.comp (.call 0 (.cons (.var 1) .nil)) (.one 1) [1] (.sq (.var 0)) .no)) .nil)))) .nil)))) (.cons (.ret (.cbl false)) .nil) .nil) (.cons (.ret (.andv (.cons (.cmp .gt (.ix (.var 0) (.cint (1))) (.cint (0))) (.cons (.cmp .eq (.bl .gcd (.cons (.ix (.var 0) (.cint (0))) (.cons (.ix (.var 0) (.cint (1))) .nil))) (.cint (1))) .nil)))) .nil))⟩, ["value", "part"], ["value"], false⟩
def t2 : Ft := ⟨⟨2, 3, (.cons (.asg (.one 2) (.ife (.cmp .gt (.var 1) (.cint (0))) (.bl .gcd (.cons (.var 0) (.cons (.var 1) .nil))) (.neg (.bl .gcd (.cons (.var 0) (.cons (.var 1) .nil)))))) (.cons (.ret (.tup (.cons (.bop .fdiv (.var 0) (.var 2)) (.cons (.bop .fdiv (.var 1) (.var 2)) .nil)))) .nil))⟩, ["n", "d", "common"], ["n", "d"], false⟩
def t3 : Ft := ⟨⟨2, 2, (.cons (.ret (.call 2 (.cons (.bop .add (.bop .mul (.ix (.var 0) (.cint (0))) (.ix (.var 1) (.cint (1)))) (.bop .mul (.ix (.var 1) (.cint (0))) (.ix (.var 0) (.cint (1))))) (.cons (.bop .mul (.ix (.var 0) (.cint (1))) (.ix (.var 1) (.cint (1)))) .nil)))) .nil)⟩, ["one", "other"], ["one", "other"], false⟩
def t4 : Ft := ⟨⟨2, 2, (.cons (.ret (.call 2 (.cons (.bop .sub (.bop .mul (.ix (.var 0) (.cint (0))) (.ix (.var 1) (.cint (1)))) (.bop .mul (.ix (.var 1) (.cint (0))) (.ix (.var 0) (.cint (1))))) (.cons (.bop .mul (.ix (.var 0) (.cint (1))) (.ix (.var 1) (.cint (1)))) .nil)))) .nil)⟩, ["one", "other"], ["one", "other"], false⟩
def t5 : Ft := ⟨⟨2, 2, (.cons (.ret (.call 2 (.cons (.bop .mul (.ix (.var 0) (.cint (0))) (.ix (.var 1) (.cint (0)))) (.cons (.bop .mul (.ix (.var 0) (.cint (1))) (.ix (.var 1) (.cint (1)))) .nil)))) .nil)⟩, ["one", "other"], ["one", "other"], false⟩
def t6 : Ft := ⟨⟨2, 2, (.cons (.ret (.cmp .lt (.bop .mul (.ix (.var 0) (.cint (0))) (.ix (.var 1) (.cint (1)))) (.bop .mul (.ix (.var 1) (.cint (0))) (.ix (.var 0) (.cint (1)))))) .nil)⟩, ["one", "other"], ["one", "other"], false⟩
def t7 : Ft := ⟨⟨1, 3, (.cons (.asg (.one 1) (.glob 0)) (.cons (.for_ (.one 2) (.sq (.var 0)) (.cons (.asg (.one 1) (.call 3 (.cons (.var 1) (.cons (.var 2) .nil)))) .nil)) (.cons (.ret (.var 1)) .nil)))⟩, ["ratios", "found", "each"], ["ratios"], false⟩
def t8 : Ft := ⟨⟨1, 3, (.cons (.asg (.one 1) (.ix (.var 0) (.cint (0)))) (.cons (.for_ (.one 2) (.sq (.slc (.var 0) (.yes (.cint (1))) .no)) (.cons (.asg (.one 1) (.ife (.val (.call 6 (.cons (.var 1) (.cons (.var 2) .nil)))) (.var 2) (.var 1))) .nil)) (.cons (.ret (.var 1)) .nil)))⟩, ["ratios", "found", "each"], ["ratios"], false⟩
def t9 : Ft := ⟨⟨1, 1, (.cons (.ret (.andv (.cons (.call 1 (.cons (.var 0) .nil)) (.cons (.cmp .gt (.ix (.var 0) (.cint (0))) (.cint (0))) .nil)))) .nil)⟩, ["value"], ["value"], false⟩
def t10 : Ft := ⟨⟨1, 3, (.cons (.ite (.or (.cons (.not (.val (.isi (.var 0) [.tuple] false))) (.cons (.not (.chain .le .le (.cint (1)) (.bl .len (.cons (.var 0) .nil)) (.glob 1))) (.cons (.not (.val (.bl .all (.cons (.fr (.comp (.call 9 (.cons (.var 1) .nil)) (.one 1) [1] (.sq (.var 0)) .no)) .nil)))) .nil)))) (.cons (.ret (.cbl false)) .nil) .nil) (.cons (.ret (.bl .all (.cons (.fr (.comp (.call 6 (.cons (.var 1) (.cons (.var 2) .nil))) (.cons (.one 1) (.cons (.one 2) .nil)) [1, 2] (.zip (.var 0) (.slc (.var 0) (.yes (.cint (1))) .no)) .no)) .nil))) .nil))⟩, ["value", "one", "other"], ["value"], false⟩
def t11 : Ft := ⟨⟨1, 2, (.cons (.ite (.or (.cons (.not (.val (.isi (.var 0) [.tuple] false))) (.cons (.cmp .ne (.bl .len (.cons (.var 0) .nil)) (.cint (2))) (.cons (.not (.val (.isi (.ix (.var 0) (.cint (0))) [.str] false))) (.cons (.cmp .ne (.ix (.var 0) (.cint (0))) (.cstr "market")) .nil))))) (.cons (.ret (.cbl false)) .nil) .nil) (.cons (.ite (.or (.cons (.not (.val (.isi (.ix (.var 0) (.cint (1))) [.tuple] false))) (.cons (.not (.val (.bl .all (.cons (.fr (.comp (.andv (.cons (.isi (.var 1) [.tuple] false) (.cons (.cmp .eq (.bl .len (.cons (.var 1) .nil)) (.cint (2))) .nil))) (.one 1) [1] (.sq (.ix (.var 0) (.cint (1)))) .no)) .nil)))) .nil))) (.cons (.ret (.cbl false)) .nil) .nil) (.cons (.ret (.andv (.cons (.call 10 (.cons (.bl .tuple (.cons (.fr (.comp (.ix (.var 1) (.cint (0))) (.one 1) [1] (.sq (.ix (.var 0) (.cint (1)))) .no)) .nil)) .nil)) (.cons (.bl .all (.cons (.fr (.comp (.call 9 (.cons (.ix (.var 1) (.cint (1))) .nil)) (.one 1) [1] (.sq (.ix (.var 0) (.cint (1)))) .no)) .nil)) .nil)))) .nil)))⟩, ["value", "row"], ["value"], false⟩
def t12 : Ft := ⟨⟨1, 1, (.cons (.ite (.not (.val (.call 11 (.cons (.var 0) .nil)))) (.cons (.thr 1 none (.cons (.cstr "a market is needed") .nil)) .nil) .nil) .nil)⟩, ["market"], ["market"], false⟩
def t13 : Ft := ⟨⟨1, 1, (.cons (.ite (.not (.val (.call 9 (.cons (.var 0) .nil)))) (.cons (.thr 2 none (.cons (.cstr "a ratio above 0 is needed") .nil)) .nil) .nil) .nil)⟩, ["price"], ["price"], false⟩
def t14 : Ft := ⟨⟨1, 3, (.cons (.ret (.call 7 (.cons (.fr (.comp (.var 2) (.cons (.one 1) (.cons (.one 2) .nil)) [1, 2] (.sq (.var 0)) .no)) .nil))) .nil)⟩, ["rows", "value", "mass"], ["rows"], false⟩
def t15 : Ft := ⟨⟨2, 4, (.cons (.ret (.call 7 (.cons (.fr (.comp (.var 3) (.cons (.one 2) (.cons (.one 3) .nil)) [2, 3] (.sq (.var 0)) (.yes (.not (.val (.call 6 (.cons (.var 2) (.cons (.var 1) .nil)))))))) .nil))) .nil)⟩, ["rows", "price", "value", "mass"], ["rows", "price"], false⟩
def t16 : Ft := ⟨⟨2, 2, (.cons (.ret (.call 5 (.cons (.var 1) (.cons (.call 15 (.cons (.var 0) (.cons (.var 1) .nil))) .nil)))) .nil)⟩, ["rows", "price"], ["rows", "price"], false⟩
def t17 : Ft := ⟨⟨2, 4, (.cons (.ret (.call 7 (.cons (.fr (.comp (.call 5 (.cons (.var 3) (.cons (.call 4 (.cons (.var 2) (.cons (.var 1) .nil))) .nil))) (.cons (.one 2) (.cons (.one 3) .nil)) [2, 3] (.sq (.var 0)) (.yes (.not (.val (.call 6 (.cons (.var 2) (.cons (.var 1) .nil)))))))) .nil))) .nil)⟩, ["rows", "price", "value", "mass"], ["rows", "price"], false⟩
def t18 : Ft := ⟨⟨1, 3, (.cons (.ret (.call 7 (.cons (.fr (.comp (.call 5 (.cons (.var 2) (.cons (.var 1) .nil))) (.cons (.one 1) (.cons (.one 2) .nil)) [1, 2] (.sq (.var 0)) .no)) .nil))) .nil)⟩, ["rows", "value", "mass"], ["rows"], false⟩
def t19 : Ft := ⟨⟨1, 7, (.cons (.asg (.one 1) (.fr (.comp (.call 16 (.cons (.var 0) (.cons (.var 3) .nil))) (.cons (.one 3) (.cons (.one 4) .nil)) [3, 4] (.sq (.var 0)) .no))) (.cons (.asg (.one 2) (.call 8 (.cons (.var 1) .nil))) (.cons (.ret (.bl .tuple (.cons (.fr (.comp (.ix (.var 5) (.cint (0))) (.cons (.one 5) (.cons (.one 6) .nil)) [5, 6] (.zip (.var 0) (.var 1)) (.yes (.cmp .eq (.var 6) (.var 2))))) .nil))) .nil)))⟩, ["rows", "brought", "high", "value", "mass", "row", "own"], ["rows"], false⟩
def t20 : Ft := ⟨⟨1, 1, (.cons (.expr (.call 12 (.cons (.var 0) .nil))) (.cons (.ret (.call 14 (.cons (.ix (.var 0) (.cint (1))) .nil))) .nil))⟩, ["market"], ["market"], false⟩
def t21 : Ft := ⟨⟨2, 2, (.cons (.expr (.call 12 (.cons (.var 0) .nil))) (.cons (.expr (.call 13 (.cons (.var 1) .nil))) (.cons (.ret (.call 15 (.cons (.ix (.var 0) (.cint (1))) (.cons (.var 1) .nil)))) .nil)))⟩, ["market", "price"], ["market", "price"], false⟩
def t22 : Ft := ⟨⟨2, 2, (.cons (.expr (.call 12 (.cons (.var 0) .nil))) (.cons (.expr (.call 13 (.cons (.var 1) .nil))) (.cons (.ret (.call 16 (.cons (.ix (.var 0) (.cint (1))) (.cons (.var 1) .nil)))) .nil)))⟩, ["market", "price"], ["market", "price"], false⟩
def t23 : Ft := ⟨⟨2, 2, (.cons (.expr (.call 12 (.cons (.var 0) .nil))) (.cons (.expr (.call 13 (.cons (.var 1) .nil))) (.cons (.ret (.call 17 (.cons (.ix (.var 0) (.cint (1))) (.cons (.var 1) .nil)))) .nil)))⟩, ["market", "price"], ["market", "price"], false⟩
def t24 : Ft := ⟨⟨1, 1, (.cons (.expr (.call 12 (.cons (.var 0) .nil))) (.cons (.ret (.call 18 (.cons (.ix (.var 0) (.cint (1))) .nil))) .nil))⟩, ["market"], ["market"], false⟩
def t25 : Ft := ⟨⟨1, 1, (.cons (.expr (.call 12 (.cons (.var 0) .nil))) (.cons (.ret (.call 19 (.cons (.ix (.var 0) (.cint (1))) .nil))) .nil))⟩, ["market"], ["market"], false⟩
def t26 : Ft := ⟨⟨1, 1, (.cons (.ret (.call 16 (.cons (.var 0) (.cons (.ix (.call 19 (.cons (.var 0) .nil)) (.cint (0))) .nil)))) .nil)⟩, ["rows"], ["rows"], false⟩
def t27 : Ft := ⟨⟨1, 1, (.cons (.expr (.call 12 (.cons (.var 0) .nil))) (.cons (.ret (.call 26 (.cons (.ix (.var 0) (.cint (1))) .nil))) .nil))⟩, ["market"], ["market"], false⟩
def t28 : Ft := ⟨⟨1, 3, (.cons (.asg (.one 1) (.al (.comp (.bop .sub (.bl .abs (.cons (.var 2) .nil)) (.bop .pow (.cint (10)) (.cint (18)))) (.one 2) [2] (.sq (.var 0)) (.yes (.cmp .ge (.bl .abs (.cons (.var 2) .nil)) (.bop .pow (.cint (10)) (.cint (18)))))))) (.cons (.ret (.dnew ["great", "cells", "rest", "turn"] (.cons (.var 1) (.cons (.fr (.comp (.bl .abs (.cons (.var 2) .nil)) (.one 2) [2] (.sq (.var 0)) .no)) (.cons (.cint (0)) (.cons (.cint (0)) .nil)))))) .nil))⟩, ["script", "great", "cell"], ["script"], false⟩
def t29 : Ft := ⟨⟨1, 6, (.cons (.par [2, 3] (.cons (.bop .add (.ix (.var 0) (.cstr "turn")) (.cint (1))) (.cons (.cint (0)) .nil))) (.cons (.setix (.var 0) (.cstr "turn") (.var 2)) (.cons (.for_ (.one 1) (.sq (.fr (.disp (.cons (.cint (2147483579)) (.cons (.cint (2147483629)) (.cons (.cint (2147483563)) .nil)))))) (.cons (.asg (.one 4) (.bop .add (.bop .mul (.cint (48271)) (.var 2)) (.bop .fdiv (.var 1) (.cint (53))))) (.cons (.for_ (.one 5) (.sq (.ix (.var 0) (.cstr "cells"))) (.cons (.asg (.one 4) (.bop .mod (.bl .int (.cons (.bop .add (.bop .add (.bop .mul (.var 4) (.cint (69621))) (.var 5)) (.var 2)) .nil)) (.var 1))) .nil)) (.cons (.asg (.one 3) (.bop .add (.bop .mul (.var 3) (.cint (2147483647))) (.bop .mod (.bl .int (.cons (.bop .pow (.var 4) (.cint (5))) .nil)) (.var 1)))) .nil)))) (.cons (.ret (.var 3)) .nil))))⟩, ["state", "prime", "turn", "found", "blend", "cell"], ["state"], false⟩
def t30 : Ft := ⟨⟨2, 3, (.cons (.ite (.cmp .eq (.ix (.var 0) (.cstr "rest")) (.cint (0))) (.cons (.setix (.var 0) (.cstr "rest") (.ife (.cmp .ne (.ix (.var 0) (.cstr "great")) (.fr (.disp .nil))) (.mth .pop (.ix (.var 0) (.cstr "great")) (.cons (.cint (0)) .nil)) (.call 29 (.cons (.var 0) .nil)))) .nil) .nil) (.cons (.asg (.one 2) (.bop .mod (.bl .int (.cons (.ix (.var 0) (.cstr "rest")) .nil)) (.var 1))) (.cons (.setix (.var 0) (.cstr "rest") (.bop .fdiv (.ix (.var 0) (.cstr "rest")) (.var 1))) (.cons (.ret (.var 2)) .nil))))⟩, ["state", "room", "found"], ["state", "room"], false⟩
def t31 : Ft := ⟨⟨2, 2, (.cons (.ret (.ix (.var 1) (.call 30 (.cons (.var 0) (.cons (.bl .len (.cons (.var 1) .nil)) .nil))))) .nil)⟩, ["state", "some"], ["state", "some"], false⟩
def t32 : Ft := ⟨⟨2, 2, (.cons (.ret (.ife (.val (.var 1)) (.cmp .isv (.var 0) (.cbl true)) (.cmp .isv (.var 0) (.cbl false)))) .nil)⟩, ["found", "due"], ["found", "due"], false⟩
def t33 : Ft := ⟨⟨2, 9, (.cons (.asg (.one 2) (.al (.disp (.cons (.tup (.cons (.var 0) (.cons (.var 1) .nil))) .nil)))) (.cons (.whl (.cmp .ne (.var 2) (.fr (.disp .nil))) (.cons (.asg (.cons (.one 3) (.cons (.one 4) .nil)) (.mth .pop (.var 2) .nil)) (.cons (.ite (.or (.cons (.cmp .isv (.var 4) .cnon) (.cons (.val (.isi (.var 4) [.bool] false)) .nil))) (.cons (.ite (.ife (.cmp .isv (.var 4) .cnon) (.cmp .isnt (.var 3) .cnon) (.not (.val (.call 32 (.cons (.var 3) (.cons (.var 4) .nil)))))) (.cons (.ret (.cbl false)) .nil) .nil) .nil) (.cons (.ite (.val (.isi (.var 4) [.int, .str] true)) (.cons (.ite (.or (.cons (.val (.isi (.var 3) [.bool] false)) (.cons (.cmp .ne (.isi (.var 3) [.int] false) (.isi (.var 4) [.int] false)) (.cons (.cmp .ne (.var 3) (.var 4)) .nil)))) (.cons (.ret (.cbl false)) .nil) .nil) .nil) (.cons (.ite (.val (.isi (.var 4) [.dict] false)) (.cons (.ite (.or (.cons (.not (.val (.isi (.var 3) [.dict] false))) (.cons (.cmp .ne (.fr (.lof (.var 3))) (.fr (.lof (.var 4)))) .nil))) (.cons (.ret (.cbl false)) .nil) .nil) (.cons (.expr (.mth .extend (.var 2) (.cons (.fr (.lzip (.fr (.lof (.var 3))) (.fr (.lof (.var 4))))) .nil))) (.cons (.expr (.mth .extend (.var 2) (.cons (.fr (.comp (.tup (.cons (.ix (.var 3) (.var 6)) (.cons (.ix (.var 4) (.var 6)) .nil))) (.one 6) [6] (.sq (.var 4)) .no)) .nil))) .nil))) (.cons (.asg (.one 5) (.fr (.disp (.cons (.andv (.cons (.isi (.var 3) [.tuple] false) (.cons (.isi (.var 4) [.tuple] false) .nil))) (.cons (.andv (.cons (.isi (.var 3) [.list] false) (.cons (.isi (.var 4) [.list] false) .nil))) .nil))))) (.cons (.ite (.or (.cons (.cmp .nin (.cbl true) (.var 5)) (.cons (.cmp .ne (.bl .len (.cons (.var 3) .nil)) (.bl .len (.cons (.var 4) .nil))) .nil))) (.cons (.ret (.cbl false)) .nil) .nil) (.cons (.expr (.mth .extend (.var 2) (.cons (.fr (.comp (.tup (.cons (.var 7) (.cons (.var 8) .nil))) (.cons (.one 7) (.cons (.one 8) .nil)) [7, 8] (.zip (.var 3) (.var 4)) .no)) .nil))) .nil)))) .nil)) .nil)) .nil))) (.cons (.ret (.cbl true)) .nil)))⟩, ["found", "due", "waiting", "one", "other", "alike", "key", "left", "right"], ["found", "due"], false⟩
def t34 : Ft := ⟨⟨2, 4, (.cons (.par [2, 3] (.cons (.bl .abs (.cons (.var 0) .nil)) (.cons (.bl .abs (.cons (.var 1) .nil)) .nil))) (.cons (.whl (.cmp .gt (.var 3) (.cint (0))) (.cons (.par [2, 3] (.cons (.var 3) (.cons (.bop .mod (.bl .int (.cons (.var 2) .nil)) (.var 3)) .nil))) .nil)) (.cons (.ret (.ife (.cmp .gt (.var 1) (.cint (0))) (.tup (.cons (.bop .fdiv (.var 0) (.var 2)) (.cons (.bop .fdiv (.var 1) (.var 2)) .nil))) (.tup (.cons (.bop .fdiv (.neg (.var 0)) (.var 2)) (.cons (.bop .fdiv (.neg (.var 1)) (.var 2)) .nil))))) .nil)))⟩, ["n", "d", "one", "other"], ["n", "d"], false⟩
def t35 : Ft := ⟨⟨2, 2, (.cons (.ret (.call 34 (.cons (.bop .add (.bop .mul (.ix (.var 0) (.cint (0))) (.ix (.var 1) (.cint (1)))) (.bop .mul (.ix (.var 1) (.cint (0))) (.ix (.var 0) (.cint (1))))) (.cons (.bop .mul (.ix (.var 0) (.cint (1))) (.ix (.var 1) (.cint (1)))) .nil)))) .nil)⟩, ["one", "other"], ["one", "other"], false⟩
def t36 : Ft := ⟨⟨2, 2, (.cons (.ret (.call 34 (.cons (.bop .sub (.bop .mul (.ix (.var 0) (.cint (0))) (.ix (.var 1) (.cint (1)))) (.bop .mul (.ix (.var 1) (.cint (0))) (.ix (.var 0) (.cint (1))))) (.cons (.bop .mul (.ix (.var 0) (.cint (1))) (.ix (.var 1) (.cint (1)))) .nil)))) .nil)⟩, ["one", "other"], ["one", "other"], false⟩
def t37 : Ft := ⟨⟨2, 2, (.cons (.ret (.call 34 (.cons (.bop .mul (.ix (.var 0) (.cint (0))) (.ix (.var 1) (.cint (0)))) (.cons (.bop .mul (.ix (.var 0) (.cint (1))) (.ix (.var 1) (.cint (1)))) .nil)))) .nil)⟩, ["one", "other"], ["one", "other"], false⟩
def t38 : Ft := ⟨⟨2, 2, (.cons (.ret (.call 34 (.cons (.bop .mul (.ix (.var 0) (.cint (0))) (.ix (.var 1) (.cint (1)))) (.cons (.bop .mul (.ix (.var 0) (.cint (1))) (.ix (.var 1) (.cint (0)))) .nil)))) .nil)⟩, ["one", "other"], ["one", "other"], false⟩
def t39 : Ft := ⟨⟨2, 2, (.cons (.ret (.cmp .lt (.bop .mul (.ix (.var 0) (.cint (0))) (.ix (.var 1) (.cint (1)))) (.bop .mul (.ix (.var 1) (.cint (0))) (.ix (.var 0) (.cint (1)))))) .nil)⟩, ["one", "other"], ["one", "other"], false⟩
def t40 : Ft := ⟨⟨1, 3, (.cons (.asg (.one 1) (.tup (.cons (.cint (0)) (.cons (.cint (1)) .nil)))) (.cons (.for_ (.one 2) (.sq (.var 0)) (.cons (.asg (.one 1) (.call 35 (.cons (.var 1) (.cons (.var 2) .nil)))) .nil)) (.cons (.ret (.var 1)) .nil)))⟩, ["some", "found", "each"], ["some"], false⟩
def t41 : Ft := ⟨⟨1, 2, (.cons (.ite (.or (.cons (.not (.val (.isi (.var 0) [.tuple] false))) (.cons (.cmp .ne (.bl .len (.cons (.var 0) .nil)) (.cint (2))) (.cons (.cmp .ne (.fr (.comp (.cint (1)) (.one 1) [1] (.sq (.var 0)) (.yes (.or (.cons (.not (.val (.isi (.var 1) [.int] false))) (.cons (.val (.isi (.var 1) [.bool] false)) .nil)))))) (.fr (.disp .nil))) .nil)))) (.cons (.ret (.cbl false)) .nil) .nil) (.cons (.ret (.andv (.cons (.cmp .gt (.ix (.var 0) (.cint (1))) (.cint (0))) (.cons (.cmp .eq (.call 34 (.cons (.ix (.var 0) (.cint (0))) (.cons (.ix (.var 0) (.cint (1))) .nil))) (.var 0)) .nil)))) .nil))⟩, ["value", "part"], ["value"], false⟩
def t42 : Ft := ⟨⟨1, 2, (.cons (.asg (.one 1) (.fr (.disp (.cons .cnon (.cons (.cbl true) (.cons (.cint (0)) (.cons (.cint (5)) (.cons (.cstr "") (.cons (.cstr "telling") (.cons (.tup .nil) (.cons (.fr (.disp .nil)) (.cons (.frz (.dnew [] .nil)) (.cons (.tup (.cons (.tup (.cons (.cint (0)) (.cons (.cint (1)) .nil))) (.cons (.tup (.cons (.cint (1)) (.cons (.cint (1)) .nil))) (.cons (.tup (.cons (.cint (1)) (.cons (.cint (1)) .nil))) .nil)))) (.cons (.tup (.cons (.cstr "telling") .nil)) (.cons (.tup (.cons (.cstr "telling") (.cons (.tup .nil) .nil))) (.cons (.tup (.cons (.cstr "deeds") (.cons (.tup .nil) .nil))) (.cons (.tup (.cons (.cstr "deeds") .nil)) .nil))))))))))))))))) (.cons (.ret (.call 31 (.cons (.var 0) (.cons (.bop .add (.var 1) (.fr (.disp (.cons (.tup (.cons (.tup (.cons (.cint (1)) (.cons (.cint (2)) .nil))) (.cons (.tup (.cons (.cint (1)) (.cons (.cint (3)) .nil))) .nil))) (.cons (.tup (.cons (.tup (.cons (.cint (3)) (.cons (.cint (2)) .nil))) (.cons (.tup (.cons (.neg (.cint (1))) (.cons (.cint (2)) .nil))) .nil))) (.cons (.tup (.cons (.cstr "telling") (.cons (.tup (.cons (.tup (.cons (.cstr "a") (.cons (.tup (.cons (.tup (.cons (.cint (1)) (.cons (.cint (1)) .nil))) .nil)) .nil))) .nil)) .nil))) (.cons (.tup (.cons (.tup (.cons (.cint (1)) (.cons (.cint (1)) .nil))) .nil)) .nil))))))) .nil)))) .nil))⟩, ["draws", "some"], ["draws"], false⟩
def t43 : Ft := ⟨⟨2, 10, (.cons (.par [5, 6] (.cons (.call 31 (.cons (.var 0) (.cons (.fr (.disp (.cons (.cint (3)) (.cons (.cint (9)) (.cons (.cint (40)) (.cons (.bop .pow (.cint (10)) (.cint (6))) .nil)))))) .nil))) (.cons (.call 30 (.cons (.var 0) (.cons (.cint (4)) .nil))) .nil))) (.cons (.asg (.one 2) (.fr (.disp .nil))) (.cons (.for_ (.one 3) (.rng (.bop .add (.cint (1)) (.call 30 (.cons (.var 0) (.cons (.var 1) .nil))))) (.cons (.asg (.one 7) (.call 34 (.cons (.bop .add (.cint (1)) (.call 30 (.cons (.var 0) (.cons (.var 5) .nil)))) (.cons (.bop .add (.cint (1)) (.call 30 (.cons (.var 0) (.cons (.call 31 (.cons (.var 0) (.cons (.fr (.disp (.cons (.cint (1)) (.cons (.cint (1)) (.cons (.cint (3)) .nil))))) .nil))) .nil)))) .nil)))) (.cons (.asg (.one 2) (.bop .add (.var 2) (.ife (.cmp .nin (.var 7) (.var 2)) (.fr (.disp (.cons (.var 7) .nil))) (.fr (.disp .nil))))) .nil))) (.cons (.asg (.one 2) (.call 44 (.cons (.var 2) .nil))) (.cons (.asg (.one 4) (.fr (.comp (.call 34 (.cons (.bop .add (.cint (1)) (.call 30 (.cons (.var 0) (.cons (.cint (9)) .nil)))) (.cons (.bop .add (.cint (1)) (.call 30 (.cons (.var 0) (.cons (.call 31 (.cons (.var 0) (.cons (.fr (.disp (.cons (.cint (1)) (.cons (.cint (4)) .nil)))) .nil))) .nil)))) .nil))) (.one 7) [7] (.sq (.var 2)) .no))) (.cons (.ite (.cmp .eq (.var 6) (.cint (0))) (.cons (.asg (.one 4) (.fr (.comp (.ix (.var 8) (.cint (1))) (.one 8) [8] (.sq (.call 45 (.cons (.var 2) (.cons (.ix (.var 4) (.cint (0))) .nil)))) .no))) .nil) .nil) (.cons (.ite (.cmp .eq (.var 6) (.cint (1))) (.cons (.asg (.one 4) (.fr (.comp (.call 35 (.cons (.var 9) (.cons (.ix (.var 8) (.cint (1))) .nil))) (.cons (.one 9) (.cons (.one 8) .nil)) [9, 8] (.zip (.var 4) (.call 45 (.cons (.var 2) (.cons (.tup (.cons (.cint (3)) (.cons (.cint (1)) .nil))) .nil)))) .no))) .nil) .nil) (.cons (.ret (.tup (.cons (.cstr "market") (.cons (.bl .tuple (.cons (.fr (.lzip (.var 2) (.var 4))) .nil)) .nil)))) .nil))))))))⟩, ["draws", "most", "values", "lap", "masses", "size", "way", "value", "row", "mass"], ["draws", "most"], false⟩
def t44 : Ft := ⟨⟨1, 5, (.cons (.par [1, 2] (.cons (.fr (.lof (.var 0))) (.cons (.fr (.disp .nil)) .nil))) (.cons (.whl (.cmp .ne (.var 1) (.fr (.disp .nil))) (.cons (.asg (.one 3) (.ix (.var 1) (.cint (0)))) (.cons (.for_ (.one 4) (.sq (.var 1)) (.cons (.asg (.one 3) (.ife (.val (.call 39 (.cons (.var 4) (.cons (.var 3) .nil)))) (.var 4) (.var 3))) .nil)) (.cons (.par [2, 1] (.cons (.bop .add (.var 2) (.fr (.disp (.cons (.var 3) .nil)))) (.cons (.fr (.comp (.var 4) (.one 4) [4] (.sq (.var 1)) (.yes (.cmp .ne (.var 4) (.var 3))))) .nil))) .nil)))) (.cons (.ret (.var 2)) .nil)))⟩, ["values", "left", "found", "low", "each"], ["values"], false⟩
def t45 : Ft := ⟨⟨2, 6, (.cons (.asg (.one 2) (.al (.disp .nil))) (.cons (.for_ (.one 3) (.rng (.bl .len (.cons (.var 0) .nil))) (.cons (.asg (.one 4) (.call 38 (.cons (.ix (.var 0) (.cint (0))) (.cons (.ix (.var 0) (.var 3)) .nil)))) (.cons (.asg (.one 5) (.ife (.cmp .lt (.bop .add (.var 3) (.cint (1))) (.bl .len (.cons (.var 0) .nil))) (.call 38 (.cons (.ix (.var 0) (.cint (0))) (.cons (.ix (.var 0) (.bop .add (.var 3) (.cint (1)))) .nil))) (.tup (.cons (.cint (0)) (.cons (.cint (1)) .nil))))) (.cons (.expr (.mth .append (.var 2) (.cons (.tup (.cons (.ix (.var 0) (.var 3)) (.cons (.call 37 (.cons (.var 1) (.cons (.call 36 (.cons (.var 4) (.cons (.var 5) .nil))) .nil))) .nil))) .nil))) .nil)))) (.cons (.ret (.bl .tuple (.cons (.var 2) .nil))) .nil)))⟩, ["values", "mass", "found", "at", "own", "rest"], ["values", "mass"], false⟩
def t46 : Ft := ⟨⟨2, 4, (.cons (.ret (.call 40 (.cons (.fr (.comp (.var 3) (.cons (.one 2) (.cons (.one 3) .nil)) [2, 3] (.sq (.var 0)) (.yes (.not (.val (.call 39 (.cons (.var 2) (.cons (.var 1) .nil)))))))) .nil))) .nil)⟩, ["rows", "price", "value", "mass"], ["rows", "price"], false⟩
def t47 : Ft := ⟨⟨2, 2, (.cons (.ret (.call 37 (.cons (.var 1) (.cons (.call 46 (.cons (.var 0) (.cons (.var 1) .nil))) .nil)))) .nil)⟩, ["rows", "price"], ["rows", "price"], false⟩
def t48 : Ft := ⟨⟨2, 4, (.cons (.ret (.call 40 (.cons (.fr (.comp (.call 37 (.cons (.var 3) (.cons (.call 36 (.cons (.var 2) (.cons (.var 1) .nil))) .nil))) (.cons (.one 2) (.cons (.one 3) .nil)) [2, 3] (.sq (.var 0)) (.yes (.not (.val (.call 39 (.cons (.var 2) (.cons (.var 1) .nil)))))))) .nil))) .nil)⟩, ["rows", "price", "value", "mass"], ["rows", "price"], false⟩
def t49 : Ft := ⟨⟨1, 3, (.cons (.ret (.call 40 (.cons (.fr (.comp (.call 37 (.cons (.var 2) (.cons (.var 1) .nil))) (.cons (.one 1) (.cons (.one 2) .nil)) [1, 2] (.sq (.var 0)) .no)) .nil))) .nil)⟩, ["rows", "value", "mass"], ["rows"], false⟩
def t50 : Ft := ⟨⟨1, 5, (.cons (.asg (.one 1) (.tup (.cons (.cint (0)) (.cons (.cint (1)) .nil)))) (.cons (.for_ (.cons (.one 2) (.cons (.one 3) .nil)) (.sq (.var 0)) (.cons (.asg (.one 4) (.call 47 (.cons (.var 0) (.cons (.var 2) .nil)))) (.cons (.asg (.one 1) (.ife (.val (.call 39 (.cons (.var 1) (.cons (.var 4) .nil)))) (.var 4) (.var 1))) .nil))) (.cons (.ret (.tup (.cons (.bl .tuple (.cons (.fr (.comp (.var 2) (.cons (.one 2) (.cons (.one 3) .nil)) [2, 3] (.sq (.var 0)) (.yes (.cmp .eq (.call 47 (.cons (.var 0) (.cons (.var 2) .nil))) (.var 1))))) .nil)) (.cons (.var 1) .nil)))) .nil)))⟩, ["rows", "top", "value", "mass", "here"], ["rows"], false⟩
def t51 : Ft := ⟨⟨1, 3, (.cons (.ite (.or (.cons (.not (.val (.isi (.var 0) [.tuple] false))) (.cons (.not (.chain .le .le (.cint (1)) (.bl .len (.cons (.var 0) .nil)) (.cint (6)))) (.cons (.cmp .ne (.fr (.comp (.cint (1)) (.one 1) [1] (.sq (.var 0)) (.yes (.or (.cons (.not (.val (.call 41 (.cons (.var 1) .nil)))) (.cons (.cmp .le (.ix (.var 1) (.cint (0))) (.cint (0))) .nil)))))) (.fr (.disp .nil))) .nil)))) (.cons (.ret (.cbl false)) .nil) .nil) (.cons (.ret (.cmp .eq (.fr (.comp (.cint (1)) (.cons (.one 1) (.cons (.one 2) .nil)) [1, 2] (.zip (.var 0) (.slc (.var 0) (.yes (.cint (1))) .no)) (.yes (.not (.val (.call 39 (.cons (.var 1) (.cons (.var 2) .nil)))))))) (.fr (.disp .nil)))) .nil))⟩, ["value", "one", "other"], ["value"], false⟩
def t52 : Ft := ⟨⟨1, 2, (.cons (.ite (.or (.cons (.not (.val (.isi (.var 0) [.tuple] false))) (.cons (.cmp .ne (.bl .len (.cons (.var 0) .nil)) (.cint (2))) (.cons (.not (.val (.isi (.ix (.var 0) (.cint (0))) [.str] false))) (.cons (.cmp .ne (.ix (.var 0) (.cint (0))) (.cstr "market")) (.cons (.not (.val (.isi (.ix (.var 0) (.cint (1))) [.tuple] false))) .nil)))))) (.cons (.ret (.cbl false)) .nil) .nil) (.cons (.ite (.or (.cons (.cmp .ne (.fr (.comp (.cint (1)) (.one 1) [1] (.sq (.ix (.var 0) (.cint (1)))) (.yes (.or (.cons (.not (.val (.isi (.var 1) [.tuple] false))) (.cons (.cmp .ne (.bl .len (.cons (.var 1) .nil)) (.cint (2))) .nil)))))) (.fr (.disp .nil))) (.cons (.not (.val (.call 51 (.cons (.bl .tuple (.cons (.fr (.comp (.ix (.var 1) (.cint (0))) (.one 1) [1] (.sq (.ix (.var 0) (.cint (1)))) .no)) .nil)) .nil)))) .nil))) (.cons (.ret (.cbl false)) .nil) .nil) (.cons (.ret (.cmp .eq (.fr (.comp (.cint (1)) (.one 1) [1] (.sq (.ix (.var 0) (.cint (1)))) (.yes (.or (.cons (.not (.val (.call 41 (.cons (.ix (.var 1) (.cint (1))) .nil)))) (.cons (.cmp .le (.ix (.ix (.var 1) (.cint (1))) (.cint (0))) (.cint (0))) .nil)))))) (.fr (.disp .nil)))) .nil)))⟩, ["value", "row"], ["value"], false⟩
def t53 : Ft := ⟨⟨1, 2, (.cons (.asg (.one 1) (.fr (.disp (.cons .cnon (.cons (.tup (.cons (.cstr "market") (.cons (.tup .nil) .nil))) (.cons (.tup (.cons (.cstr "market") (.cons (.tup (.cons (.tup (.cons (.tup (.cons (.cint (1)) (.cons (.cint (1)) .nil))) .nil)) .nil)) .nil))) (.cons (.tup (.cons (.cstr "market") (.cons (.fr (.disp (.cons (.tup (.cons (.tup (.cons (.cint (1)) (.cons (.cint (1)) .nil))) (.cons (.tup (.cons (.cint (1)) (.cons (.cint (1)) .nil))) .nil))) .nil))) .nil))) (.cons (.tup (.cons (.cstr "market") (.cons (.tup (.cons (.tup (.cons (.tup (.cons (.cint (0)) (.cons (.cint (1)) .nil))) (.cons (.tup (.cons (.cint (1)) (.cons (.cint (1)) .nil))) .nil))) .nil)) .nil))) (.cons (.cint (5)) .nil))))))))) (.cons (.ret (.call 31 (.cons (.var 0) (.cons (.bop .add (.var 1) (.fr (.disp (.cons (.tup (.cons (.cstr "market") (.cons (.tup (.cons (.tup (.cons (.tup (.cons (.cint (2)) (.cons (.cint (1)) .nil))) (.cons (.tup (.cons (.cint (1)) (.cons (.cint (1)) .nil))) .nil))) (.cons (.tup (.cons (.tup (.cons (.cint (1)) (.cons (.cint (1)) .nil))) (.cons (.tup (.cons (.cint (1)) (.cons (.cint (1)) .nil))) .nil))) .nil))) .nil))) (.cons (.tup (.cons (.cstr "market") (.cons (.tup (.cons (.tup (.cons (.tup (.cons (.cint (1)) (.cons (.cint (1)) .nil))) (.cons (.tup (.cons (.cint (0)) (.cons (.cint (1)) .nil))) .nil))) .nil)) .nil))) (.cons (.tup (.cons (.cstr "wants") (.cons (.tup (.cons (.tup (.cons (.tup (.cons (.cint (1)) (.cons (.cint (1)) .nil))) (.cons (.tup (.cons (.cint (1)) (.cons (.cint (1)) .nil))) .nil))) .nil)) .nil))) .nil)))))) .nil)))) .nil))⟩, ["draws", "some"], ["draws"], false⟩
def t54 : Ft := ⟨⟨2, 5, (.cons (.ite (.and (.cons (.val (.isi (.var 1) [.tuple, .list] true)) (.cons (.cmp .gt (.bl .len (.cons (.var 1) .nil)) (.cint (0))) (.cons (.cmp .gt (.call 30 (.cons (.var 0) (.cons (.cint (6)) .nil))) (.cint (0))) .nil)))) (.cons (.par [3, 4] (.cons (.call 30 (.cons (.var 0) (.cons (.bl .len (.cons (.var 1) .nil)) .nil))) (.cons (.call 30 (.cons (.var 0) (.cons (.cint (9)) .nil))) .nil))) (.cons (.asg (.one 2) (.al (.lof (.var 1)))) (.cons (.ite (.cmp .eq (.var 4) (.cint (0))) (.cons (.expr (.mth .pop (.var 2) (.cons (.var 3) .nil))) .nil) (.cons (.ite (.cmp .eq (.var 4) (.cint (1))) (.cons (.expr (.mth .insert (.var 2) (.cons (.var 3) (.cons (.ix (.var 2) (.var 3)) .nil)))) .nil) (.cons (.ite (.and (.cons (.cmp .eq (.var 4) (.cint (2))) (.cons (.cmp .gt (.var 3) (.cint (0))) .nil))) (.cons (.asg (.one 2) (.al (.add (.bop .add (.slc (.var 2) .no (.yes (.bop .sub (.var 3) (.cint (1))))) (.fr (.disp (.cons (.ix (.var 2) (.var 3)) (.cons (.ix (.var 2) (.bop .sub (.var 3) (.cint (1)))) .nil))))) (.slc (.var 2) (.yes (.bop .add (.var 3) (.cint (1)))) .no)))) .nil) (.cons (.setix (.var 2) (.var 3) (.call 54 (.cons (.var 0) (.cons (.ix (.var 2) (.var 3)) .nil)))) .nil)) .nil)) .nil)) (.cons (.ret (.ife (.val (.isi (.var 1) [.tuple] false)) (.bl .tuple (.cons (.var 2) .nil)) (.frz (.var 2)))) .nil)))) .nil) (.cons (.ite (.and (.cons (.val (.isi (.var 1) [.int] false)) (.cons (.not (.val (.isi (.var 1) [.bool] false))) .nil))) (.cons (.ret (.call 31 (.cons (.var 0) (.cons (.fr (.disp (.cons (.bop .add (.var 1) (.cint (1))) (.cons (.bop .sub (.var 1) (.cint (1))) (.cons .cnon (.cons (.cmp .eq (.var 1) (.cint (1))) (.cons (.cint (0)) (.cons (.cint (2)) (.cons (.cstr "1") .nil))))))))) .nil)))) .nil) .nil) (.cons (.ret (.call 31 (.cons (.var 0) (.cons (.fr (.disp (.cons .cnon (.cons (.tup .nil) (.cons (.cint (5)) (.cons (.cint (0)) (.cons (.cbl true) (.cons (.cstr "x") (.cons (.cstr "") (.cons (.frz (.dnew [] .nil)) (.cons (.tup (.cons (.cint (0)) (.cons (.cint (1)) .nil))) (.cons (.tup (.cons (.cint (1)) (.cons (.cint (1)) .nil))) (.cons (.tup (.cons (.cint (1)) (.cons (.cint (2)) .nil))) .nil))))))))))))) .nil)))) .nil)))⟩, ["draws", "value", "items", "at", "way"], ["draws", "value"], false⟩
def t55 : Ft := ⟨⟨2, 5, (.cons (.asg (.one 2) (.bop .add (.cint (6)) (.call 30 (.cons (.var 0) (.cons (.cint (2)) .nil))))) (.cons (.asg (.one 3) (.tup (.cons (.cstr "market") (.cons (.bl .tuple (.cons (.fr (.comp (.tup (.cons (.tup (.cons (.bop .add (.var 4) (.cint (1))) (.cons (.cint (1)) .nil))) (.cons (.tup (.cons (.cint (1)) (.cons (.cint (1)) .nil))) .nil))) (.one 4) [4] (.rng (.var 2)) .no)) .nil)) .nil)))) (.cons (.ret (.call 31 (.cons (.var 0) (.cons (.bop .add (.fr (.disp (.cons (.var 3) (.cons (.var 3) (.cons (.call 53 (.cons (.var 0) .nil)) (.cons (.call 42 (.cons (.var 0) .nil)) (.cons (.fr (.lof (.var 1))) (.cons (.tup (.cons (.cstr "markets") (.cons (.ix (.var 1) (.cint (1))) .nil))) .nil)))))))) (.bop .mul (.fr (.disp (.cons (.call 54 (.cons (.var 0) (.cons (.var 1) .nil))) .nil))) (.cint (12)))) .nil)))) .nil)))⟩, ["draws", "market", "wide", "far", "at"], ["draws", "market"], false⟩
def t56 : Ft := ⟨⟨2, 5, (.cons (.par [3, 4] (.cons (.ix (.call 31 (.cons (.var 0) (.cons (.fr (.lof (.ix (.var 1) (.cint (1))))) .nil))) (.cint (0))) (.cons (.ix (.call 31 (.cons (.var 0) (.cons (.fr (.lof (.ix (.var 1) (.cint (1))))) .nil))) (.cint (0))) .nil))) (.cons (.asg (.one 2) (.fr (.disp (.cons (.var 3) (.cons (.call 37 (.cons (.tup (.cons (.cint (1)) (.cons (.cint (2)) .nil))) (.cons (.call 35 (.cons (.var 3) (.cons (.var 4) .nil))) .nil))) (.cons (.call 35 (.cons (.var 3) (.cons (.tup (.cons (.cint (1)) (.cons (.bop .pow (.cint (10)) (.cint (9))) .nil))) .nil))) (.cons (.call 37 (.cons (.var 3) (.cons (.tup (.cons (.cint (9)) (.cons (.cint (10)) .nil))) .nil))) (.cons (.call 37 (.cons (.var 3) (.cons (.tup (.cons (.cint (7)) (.cons (.cint (1)) .nil))) .nil))) .nil)))))))) (.cons (.ret (.call 31 (.cons (.var 0) (.cons (.var 2) .nil)))) .nil)))⟩, ["draws", "market", "some", "value", "other"], ["draws", "market"], false⟩
def t57 : Ft := ⟨⟨2, 9, (.cons (.asg (.one 2) (.ix (.var 1) (.cint (1)))) (.cons (.asg (.cons (.one 4) (.cons (.one 5) .nil)) (.call 50 (.cons (.var 2) .nil))) (.cons (.ite (.not (.val (.call 33 (.cons (.fr (.disp (.cons (.call 20 (.cons (.var 1) .nil)) (.cons (.callk 24 .nil ["market"] (.cons (.var 1) .nil)) .nil)))) (.cons (.fr (.disp (.cons (.call 40 (.cons (.fr (.comp (.ix (.var 8) (.cint (1))) (.one 8) [8] (.sq (.var 2)) .no)) .nil)) (.cons (.call 49 (.cons (.var 2) .nil)) .nil)))) .nil))))) (.cons (.ret (.cbl false)) .nil) .nil) (.cons (.ite (.not (.val (.call 33 (.cons (.fr (.disp (.cons (.call 25 (.cons (.var 1) .nil)) (.cons (.callk 27 .nil ["market"] (.cons (.var 1) .nil)) .nil)))) (.cons (.fr (.disp (.cons (.var 4) (.cons (.var 5) .nil)))) .nil))))) (.cons (.ret (.cbl false)) .nil) .nil) (.cons (.for_ (.one 3) (.rng (.cint (5))) (.cons (.asg (.one 6) (.call 56 (.cons (.var 0) (.cons (.var 1) .nil)))) (.cons (.asg (.one 7) (.fr (.disp (.cons (.call 46 (.cons (.var 2) (.cons (.var 6) .nil))) (.cons (.call 47 (.cons (.var 2) (.cons (.var 6) .nil))) (.cons (.call 48 (.cons (.var 2) (.cons (.var 6) .nil))) .nil)))))) (.cons (.ite (.not (.val (.call 33 (.cons (.fr (.disp (.cons (.callk 21 (.cons (.var 1) .nil) ["price"] (.cons (.var 6) .nil)) (.cons (.call 22 (.cons (.var 1) (.cons (.var 6) .nil))) (.cons (.callk 23 .nil ["price", "market"] (.cons (.var 6) (.cons (.var 1) .nil))) .nil))))) (.cons (.var 7) .nil))))) (.cons (.ret (.cbl false)) .nil) .nil) (.cons (.ite (.or (.cons (.val (.call 39 (.cons (.var 5) (.cons (.ix (.var 7) (.cint (1))) .nil)))) (.cons (.and (.cons (.cmp .eq (.ix (.var 7) (.cint (1))) (.var 5)) (.cons (.cmp .nin (.var 6) (.var 4)) .nil))) .nil))) (.cons (.ret (.cbl false)) .nil) .nil) .nil))))) (.cons (.ret (.cbl true)) .nil))))))⟩, ["draws", "market", "rows", "lap", "best", "top", "price", "due", "row"], ["draws", "market"], false⟩
def t58 : Ft := ⟨⟨3, 5, (.cons (.asg (.one 3) (.call 31 (.cons (.var 0) (.cons (.fr (.disp (.cons .cnon (.cons (.tup (.cons (.cint (0)) (.cons (.cint (1)) .nil))) (.cons (.tup (.cons (.neg (.cint (1))) (.cons (.cint (2)) .nil))) (.cons (.cint (1)) (.cons (.tup (.cons (.cint (2)) (.cons (.cint (4)) .nil))) (.cons (.tup (.cons (.cbl true) (.cons (.cint (1)) .nil))) (.cons (.cstr "1") (.cons (.fr (.disp (.cons (.cint (1)) (.cons (.cint (2)) .nil)))) .nil)))))))))) .nil)))) (.cons (.for_ (.one 4) (.sq (.fr (.disp (.cons (.fnv 21) (.cons (.fnv 22) (.cons (.fnv 23) .nil)))))) (.cons (.ite (.not (.val (.isx (.caught (.callv 4 (.cons (.var 1) (.cons (.var 3) .nil)))) (.own 2)))) (.cons (.ret (.cbl false)) .nil) .nil) (.cons (.ite (.and (.cons (.not (.val (.call 52 (.cons (.var 2) .nil)))) (.cons (.not (.val (.isx (.caught (.callv 4 (.cons (.var 2) (.cons (.var 3) .nil)))) (.own 1)))) .nil))) (.cons (.ret (.cbl false)) .nil) .nil) .nil))) (.cons (.ite (.val (.call 52 (.cons (.var 2) .nil))) (.cons (.ret (.cbl true)) .nil) .nil) (.cons (.ret (.cmp .eq (.fr (.comp (.var 4) (.one 4) [4] (.sq (.fr (.disp (.cons (.fnv 20) (.cons (.fnv 24) (.cons (.fnv 25) (.cons (.fnv 27) .nil))))))) (.yes (.not (.val (.call 59 (.cons (.var 4) (.cons (.var 2) .nil)))))))) (.fr (.disp .nil)))) .nil))))⟩, ["draws", "market", "near", "off", "work"], ["draws", "market", "near"], true⟩
def t59 : Ft := ⟨⟨2, 2, (.cons (.ret (.isx (.caught (.callv 0 (.cons (.var 1) .nil))) (.own 1))) .nil)⟩, ["work", "near"], ["work", "near"], true⟩
def t60 : Ft := ⟨⟨1, 5, (.cons (.asg (.one 1) (.call 28 (.cons (.var 0) .nil))) (.cons (.for_ (.one 2) (.rng (.bop .add (.cint (8)) (.bl .min (.cons (.bl .len (.cons (.var 0) .nil)) (.cons (.cint (10)) .nil))))) (.cons (.asg (.one 3) (.call 43 (.cons (.var 1) (.cons (.cint (6)) .nil)))) (.cons (.asg (.one 4) (.call 55 (.cons (.var 1) (.cons (.var 3) .nil)))) (.cons (.ite (.or (.cons (.not (.val (.call 32 (.cons (.call 11 (.cons (.var 3) .nil)) (.cons (.cbl true) .nil))))) (.cons (.not (.val (.call 32 (.cons (.callk 11 .nil ["value"] (.cons (.var 4) .nil)) (.cons (.call 52 (.cons (.var 4) .nil)) .nil))))) .nil))) (.cons (.ret (.cbl false)) .nil) .nil) (.cons (.ite (.or (.cons (.not (.val (.call 57 (.cons (.var 1) (.cons (.var 3) .nil))))) (.cons (.not (.val (.call 58 (.cons (.var 1) (.cons (.var 3) (.cons (.var 4) .nil)))))) .nil))) (.cons (.ret (.cbl false)) .nil) .nil) .nil))))) (.cons (.ret (.cbl true)) .nil)))⟩, ["script", "draws", "turn", "market", "near"], ["script"], false⟩
def T : List (Ft) := ([t0, t1, t2, t3, t4, t5, t6, t7, t8, t9, t10, t11, t12, t13, t14, t15, t16, t17, t18, t19, t20, t21, t22, t23, t24, t25, t26, t27, t28, t29] : List (Ft)) ++ ([t30, t31, t32, t33, t34, t35, t36, t37, t38, t39, t40, t41, t42, t43, t44, t45, t46, t47, t48, t49, t50, t51, t52, t53, t54, t55, t56, t57, t58, t59] : List (Ft)) ++ ([t60] : List (Ft))
def clN : List (Str) := (["is_whole", "is_ratio", "lowest", "plus", "minus", "times", "is_less", "total", "greatest_of", "is_above", "are_values", "is_market", "need_market", "need_price", "mass_in", "demand_in", "revenue_in", "buyers_in", "whole_in", "best_in", "mass_of", "demand", "revenue", "buyers_gain", "whole", "best_prices", "one_revenue", "one_price", "_law_begun", "_law_blended"] : List (Str)) ++ (["_law_draw", "_law_pick", "_law_is_truth", "_law_same", "_law_q", "_law_plus", "_law_minus", "_law_times", "_law_over", "_law_less", "_law_sum", "_law_is_ratio", "_law_odd", "_law_mk_market", "_law_mk_rising", "_law_mk_even", "_law_mk_demand", "_law_mk_revenue", "_law_mk_buyers", "_law_mk_whole", "_law_mk_best", "_law_mk_are_values", "_law_mk_is_market", "_law_mk_no_market", "_law_mk_bent", "_law_near", "_law_price", "_law_told_right", "_law_refused", "_law_is_bad"] : List (Str)) ++ (["law"] : List (Str))
def csN : List (Str × D) := ([("ZERO", (.tup [(.int (0)), (.int (1))])), ("MOST_VALUES", (.int (6)))] : List (Str × D))
def ksN : List (Str) := (["SwayError", "BadMarket", "BadPrice"] : List (Str))
def kwN : List (Nat × Nat × List Str) := ([(24, 0, ["market"]), (27, 0, ["market"]), (21, 1, ["price"]), (23, 0, ["price", "market"]), (11, 0, ["value"])] : List (Nat × Nat × List Str))
def G : Gt := ⟨fun i j => ([(0, 0), (1, 1), (1, 0), (2, 2), (2, 0)] : List (Nat × Nat)).contains (i, j), csN, clN, ksN, kwN, [28], fun f => (T.getD f ⟨⟨0, 0, .nil⟩, [], [], false⟩).ps, some "_law_caught", [0, 1, 2]⟩
def tl : List (He.Defn × Str) := [(("_law_refused", none), "_law_refused" ++ ".<locals>." ++ "<lambda>"), (("_law_is_bad", none), "_law_is_bad" ++ ".<locals>." ++ "<lambda>")]
end HT

set_option Elab.async false
set_option linter.all false
set_option maxRecDepth 100000
set_option maxHeartbeats 0
namespace HT
open PySem PySem.Spec PyProof.Rows L2 Sw
theorem c0 : defB G T tl 0 (mkD "is_whole" (top 7)) = true := by decide +kernel
theorem c1 : defB G T tl 1 (mkD "is_ratio" (top 8)) = true := by decide +kernel
theorem c2 : defB G T tl 2 (mkD "lowest" (top 9)) = true := by decide +kernel
theorem c3 : defB G T tl 3 (mkD "plus" (top 10)) = true := by decide +kernel
theorem c4 : defB G T tl 4 (mkD "minus" (top 11)) = true := by decide +kernel
theorem c5 : defB G T tl 5 (mkD "times" (top 12)) = true := by decide +kernel
theorem c6 : defB G T tl 6 (mkD "is_less" (top 13)) = true := by decide +kernel
theorem c7 : defB G T tl 7 (mkD "total" (top 14)) = true := by decide +kernel
theorem c8 : defB G T tl 8 (mkD "greatest_of" (top 15)) = true := by decide +kernel
theorem c9 : defB G T tl 9 (mkD "is_above" (top 18)) = true := by decide +kernel
theorem c10 : defB G T tl 10 (mkD "are_values" (top 19)) = true := by decide +kernel
theorem c11 : defB G T tl 11 (mkD "is_market" (top 20)) = true := by decide +kernel
theorem c12 : defB G T tl 12 (mkD "need_market" (top 21)) = true := by decide +kernel
theorem c13 : defB G T tl 13 (mkD "need_price" (top 22)) = true := by decide +kernel
theorem c14 : defB G T tl 14 (mkD "mass_in" (top 23)) = true := by decide +kernel
theorem c15 : defB G T tl 15 (mkD "demand_in" (top 24)) = true := by decide +kernel
theorem c16 : defB G T tl 16 (mkD "revenue_in" (top 25)) = true := by decide +kernel
theorem c17 : defB G T tl 17 (mkD "buyers_in" (top 26)) = true := by decide +kernel
theorem c18 : defB G T tl 18 (mkD "whole_in" (top 27)) = true := by decide +kernel
theorem c19 : defB G T tl 19 (mkD "best_in" (top 28)) = true := by decide +kernel
theorem c20 : defB G T tl 20 (mkD "mass_of" (top 29)) = true := by decide +kernel
theorem c21 : defB G T tl 21 (mkD "demand" (top 30)) = true := by decide +kernel
theorem c22 : defB G T tl 22 (mkD "revenue" (top 31)) = true := by decide +kernel
theorem c23 : defB G T tl 23 (mkD "buyers_gain" (top 32)) = true := by decide +kernel
theorem c24 : defB G T tl 24 (mkD "whole" (top 33)) = true := by decide +kernel
theorem c25 : defB G T tl 25 (mkD "best_prices" (top 34)) = true := by decide +kernel
theorem c26 : defB G T tl 26 (mkD "one_revenue" (top 35)) = true := by decide +kernel
theorem c27 : defB G T tl 27 (mkD "one_price" (top 36)) = true := by decide +kernel
theorem c28 : defB G T tl 28 (mkD "_law_begun" (top 38)) = true := by decide +kernel
theorem c29 : defB G T tl 29 (mkD "_law_blended" (top 39)) = true := by decide +kernel
theorem c30 : defB G T tl 30 (mkD "_law_draw" (top 40)) = true := by decide +kernel
theorem c31 : defB G T tl 31 (mkD "_law_pick" (top 41)) = true := by decide +kernel
theorem c32 : defB G T tl 32 (mkD "_law_is_truth" (top 43)) = true := by decide +kernel
theorem c33 : defB G T tl 33 (mkD "_law_same" (top 44)) = true := by decide +kernel
theorem c34 : defB G T tl 34 (mkD "_law_q" (top 45)) = true := by decide +kernel
theorem c35 : defB G T tl 35 (mkD "_law_plus" (top 46)) = true := by decide +kernel
theorem c36 : defB G T tl 36 (mkD "_law_minus" (top 47)) = true := by decide +kernel
theorem c37 : defB G T tl 37 (mkD "_law_times" (top 48)) = true := by decide +kernel
theorem c38 : defB G T tl 38 (mkD "_law_over" (top 49)) = true := by decide +kernel
theorem c39 : defB G T tl 39 (mkD "_law_less" (top 50)) = true := by decide +kernel
theorem c40 : defB G T tl 40 (mkD "_law_sum" (top 51)) = true := by decide +kernel
theorem c41 : defB G T tl 41 (mkD "_law_is_ratio" (top 52)) = true := by decide +kernel
theorem c42 : defB G T tl 42 (mkD "_law_odd" (top 53)) = true := by decide +kernel
theorem c43 : defB G T tl 43 (mkD "_law_mk_market" (top 54)) = true := by decide +kernel
theorem c44 : defB G T tl 44 (mkD "_law_mk_rising" (top 55)) = true := by decide +kernel
theorem c45 : defB G T tl 45 (mkD "_law_mk_even" (top 56)) = true := by decide +kernel
theorem c46 : defB G T tl 46 (mkD "_law_mk_demand" (top 57)) = true := by decide +kernel
theorem c47 : defB G T tl 47 (mkD "_law_mk_revenue" (top 58)) = true := by decide +kernel
theorem c48 : defB G T tl 48 (mkD "_law_mk_buyers" (top 59)) = true := by decide +kernel
theorem c49 : defB G T tl 49 (mkD "_law_mk_whole" (top 60)) = true := by decide +kernel
theorem c50 : defB G T tl 50 (mkD "_law_mk_best" (top 61)) = true := by decide +kernel
theorem c51 : defB G T tl 51 (mkD "_law_mk_are_values" (top 62)) = true := by decide +kernel
theorem c52 : defB G T tl 52 (mkD "_law_mk_is_market" (top 63)) = true := by decide +kernel
theorem c53 : defB G T tl 53 (mkD "_law_mk_no_market" (top 64)) = true := by decide +kernel
theorem c54 : defB G T tl 54 (mkD "_law_mk_bent" (top 65)) = true := by decide +kernel
theorem c55 : defB G T tl 55 (mkD "_law_near" (top 66)) = true := by decide +kernel
theorem c56 : defB G T tl 56 (mkD "_law_price" (top 67)) = true := by decide +kernel
theorem c57 : defB G T tl 57 (mkD "_law_told_right" (top 68)) = true := by decide +kernel
theorem c58 : defB G T tl 58 (mkD "_law_refused" (top 69)) = true := by decide +kernel
theorem c59 : defB G T tl 59 (mkD "_law_is_bad" (top 70)) = true := by decide +kernel
theorem c60 : defB G T tl 60 (mkD "law" (top 71)) = true := by decide +kernel
theorem cc : catB G (mkD "_law_caught" (top 42)) = true := by decide +kernel
theorem ckw : kwB G = true := by decide +kernel
def fn : List He.DefD := ([mkD "is_whole" (top 7), mkD "is_ratio" (top 8), mkD "lowest" (top 9), mkD "plus" (top 10), mkD "minus" (top 11), mkD "times" (top 12), mkD "is_less" (top 13), mkD "total" (top 14), mkD "greatest_of" (top 15), mkD "is_above" (top 18), mkD "are_values" (top 19), mkD "is_market" (top 20), mkD "need_market" (top 21), mkD "need_price" (top 22), mkD "mass_in" (top 23), mkD "demand_in" (top 24), mkD "revenue_in" (top 25), mkD "buyers_in" (top 26), mkD "whole_in" (top 27), mkD "best_in" (top 28), mkD "mass_of" (top 29), mkD "demand" (top 30), mkD "revenue" (top 31), mkD "buyers_gain" (top 32), mkD "whole" (top 33), mkD "best_prices" (top 34), mkD "one_revenue" (top 35), mkD "one_price" (top 36), mkD "_law_begun" (top 38), mkD "_law_blended" (top 39)] : List He.DefD) ++ ([mkD "_law_draw" (top 40), mkD "_law_pick" (top 41), mkD "_law_is_truth" (top 43), mkD "_law_same" (top 44), mkD "_law_q" (top 45), mkD "_law_plus" (top 46), mkD "_law_minus" (top 47), mkD "_law_times" (top 48), mkD "_law_over" (top 49), mkD "_law_less" (top 50), mkD "_law_sum" (top 51), mkD "_law_is_ratio" (top 52), mkD "_law_odd" (top 53), mkD "_law_mk_market" (top 54), mkD "_law_mk_rising" (top 55), mkD "_law_mk_even" (top 56), mkD "_law_mk_demand" (top 57), mkD "_law_mk_revenue" (top 58), mkD "_law_mk_buyers" (top 59), mkD "_law_mk_whole" (top 60), mkD "_law_mk_best" (top 61), mkD "_law_mk_are_values" (top 62), mkD "_law_mk_is_market" (top 63), mkD "_law_mk_no_market" (top 64), mkD "_law_mk_bent" (top 65), mkD "_law_near" (top 66), mkD "_law_price" (top 67), mkD "_law_told_right" (top 68), mkD "_law_refused" (top 69), mkD "_law_is_bad" (top 70)] : List He.DefD) ++ ([mkD "law" (top 71)] : List He.DefD)
def ca : Option He.DefD := some (mkD "_law_caught" (top 42))
theorem call : ∀ (f : Nat) (d : He.DefD), fn[f]? = some d → defB G T tl f d = true := by
  intro f d e
  match f, e with
  | 0, e => cases e; exact c0
  | 1, e => cases e; exact c1
  | 2, e => cases e; exact c2
  | 3, e => cases e; exact c3
  | 4, e => cases e; exact c4
  | 5, e => cases e; exact c5
  | 6, e => cases e; exact c6
  | 7, e => cases e; exact c7
  | 8, e => cases e; exact c8
  | 9, e => cases e; exact c9
  | 10, e => cases e; exact c10
  | 11, e => cases e; exact c11
  | 12, e => cases e; exact c12
  | 13, e => cases e; exact c13
  | 14, e => cases e; exact c14
  | 15, e => cases e; exact c15
  | 16, e => cases e; exact c16
  | 17, e => cases e; exact c17
  | 18, e => cases e; exact c18
  | 19, e => cases e; exact c19
  | 20, e => cases e; exact c20
  | 21, e => cases e; exact c21
  | 22, e => cases e; exact c22
  | 23, e => cases e; exact c23
  | 24, e => cases e; exact c24
  | 25, e => cases e; exact c25
  | 26, e => cases e; exact c26
  | 27, e => cases e; exact c27
  | 28, e => cases e; exact c28
  | 29, e => cases e; exact c29
  | 30, e => cases e; exact c30
  | 31, e => cases e; exact c31
  | 32, e => cases e; exact c32
  | 33, e => cases e; exact c33
  | 34, e => cases e; exact c34
  | 35, e => cases e; exact c35
  | 36, e => cases e; exact c36
  | 37, e => cases e; exact c37
  | 38, e => cases e; exact c38
  | 39, e => cases e; exact c39
  | 40, e => cases e; exact c40
  | 41, e => cases e; exact c41
  | 42, e => cases e; exact c42
  | 43, e => cases e; exact c43
  | 44, e => cases e; exact c44
  | 45, e => cases e; exact c45
  | 46, e => cases e; exact c46
  | 47, e => cases e; exact c47
  | 48, e => cases e; exact c48
  | 49, e => cases e; exact c49
  | 50, e => cases e; exact c50
  | 51, e => cases e; exact c51
  | 52, e => cases e; exact c52
  | 53, e => cases e; exact c53
  | 54, e => cases e; exact c54
  | 55, e => cases e; exact c55
  | 56, e => cases e; exact c56
  | 57, e => cases e; exact c57
  | 58, e => cases e; exact c58
  | 59, e => cases e; exact c59
  | 60, e => cases e; exact c60
  | n + 61, e => cases e
abbrev R : PySem.W.OpenRow := PySem.W.OpenLaw.row row
abbrev hk : PySem.W.Hook := He.hookX 4 [] (fn ++ ca.toList) [] (tl.map (·.1)) (sayX G ca tl)
def ob (s : PySem.W.SharedT) : He.AlX := He.obsX 4 [] (fn ++ ca.toList) [] (tl.map (·.1)) (sayX G ca tl) (HandSHeadRun.getT s)
theorem ob_eq (s : PySem.W.SharedT) : ob s = hk.obs s.abs := He.obsX_eq (HandSHeadRun.getT_eq s)
def loose : List Str := (["SwayError", "BadMarket", "BadPrice", "ZERO", "is_whole", "is_ratio", "lowest", "plus", "minus", "times", "is_less", "total", "greatest_of", "MOST_VALUES", "is_above", "are_values", "is_market", "need_market", "need_price", "mass_in", "demand_in", "revenue_in", "buyers_in", "whole_in", "best_in", "mass_of", "demand", "revenue", "buyers_gain", "whole"] : List Str) ++ (["best_prices", "one_revenue", "one_price", "_law_begun", "_law_blended", "_law_draw", "_law_pick", "_law_caught", "_law_is_truth", "_law_same", "_law_q", "_law_plus", "_law_minus", "_law_times", "_law_over", "_law_less", "_law_sum", "_law_is_ratio", "_law_odd", "_law_mk_market", "_law_mk_rising", "_law_mk_even", "_law_mk_demand", "_law_mk_revenue", "_law_mk_buyers", "_law_mk_whole", "_law_mk_best", "_law_mk_are_values", "_law_mk_is_market", "_law_mk_no_market"] : List Str) ++ (["_law_mk_bent", "_law_near", "_law_price", "_law_told_right", "_law_refused", "_law_is_bad"] : List Str)
theorem run (w : World) : HandSHeadRun.RunEqI R (PySem.W.view R.prog [0, 71]) hk ob 60000 loose w := by
  unfold HandSHeadRun.RunEqI
  kernel_rfl
end HT
namespace HT
open PySem PySem.W PySem.Calls PyProof.Rows L2 Sw
theorem holds {kk : Nat} (hkk : Room (3 * kk) callerA) (pure : ∀ ns : List Int, ns.length ≤ 63 → (∀ z ∈ ns, Builtin.Int.intBits z ≤ 1048576) → ∃ st, callK G (fdsOf T) kk 60 [.v (.scr ns)] [] = .ok (.v (.bl true)) st) : PySem.Challenge.rw_swaytold_k52_markets_and_prices.Holds := by
  w_on; o_law
  refine HandSHeadRun.head_imp (r := R) (q := view R.prog [0, 71]) (H := hk) (ob := ob) (M := 60000) (loose := loose) (d := HandSHeadRun.topDef R.prog 71) (kwd := []) ob_eq
    run (by kernel_rfl) (by kernel_rfl) (by kernel_rfl) (by rfl) (by first | assumption | decide +kernel) (by decide +kernel) ⟨rfl, rfl, rfl, rfl, rfl, by decide +kernel⟩ ?hw ?hc
  case hw => w_witness2
  case hc =>
    refine walk_t (l := PySem.Challenge.rw_swaytold_k52_markets_and_prices) (n := 63) (k := 3 * kk) (x := "script") (CX := fun w => L2.CX R.prog w) rfl (by decide) (by kernel_rfl) hkk ?F (fun w H s e s' h => cx_no H s e s' h)
    intro w mg fa h Y GN hmg0
    obtain ⟨K, KX, c⟩ := Y
    have hmg : mg ("law" : PySem.Str) = some (.ref fa) := by
      have e : (HandSHeadRun.topDef R.prog 71).name = ("law" : PySem.Str) := by kernel_rfl
      rw [← e]
      exact hmg0
    have M := md_of KX GN c (fun d e => by cases e; exact cc) (fun e => by cases e) ckw (by decide +kernel) call
    obtain ⟨fd, D, hb⟩ := law_binds M (f := 60) (x := "law") (by decide +kernel) (by decide +kernel)
    have e := hmg.symm.trans (M.fn 60 "law" (by decide +kernel)).1
    cases e
    refine ⟨K, fd, csOf tl K, spC (ctOf G tl K) (callK G (fdsOf T) kk) 60, KX, ?_, ?_, ?_, hb, ?_, ?_⟩
    · intro p hp
      obtain ⟨q, hq, rfl⟩ := List.mem_map.mp hp
      exact c.empty q.1 (List.mem_map_of_mem hq)
    · intro p hp
      obtain ⟨q, hq, rfl⟩ := List.mem_map.mp hp
      exact c.out q.1 (List.mem_map_of_mem hq)
    · intro p hp
      obtain ⟨q, hq, rfl⟩ := List.mem_map.mp hp
      exact codeHd_of_K KX (c.hd q.1 (List.mem_map_of_mem hq))
    · intro H a ns hl hbits hT hS
      obtain ⟨st, e⟩ := pure ns hl hbits
      exact law_sp hT hS e
    · intro base hbase hN hT
      exact fn_all (P := R.prog) (w := w) (base := base) M hT kk 60 "law" fd (by decide +kernel) D
end HT

set_option linter.all false
set_option maxRecDepth 100000
set_option maxHeartbeats 0
namespace HT
open PySem L2 Sw
noncomputable abbrev CK (k : Nat) := callK G (fdsOf T) k
theorem s_isint (k : Nat) : SWh (CK (k + 1)) 0 := sp_whole rfl rfl
theorem s_ratio (k : Nat) : STst (CK (k + 2)) 1 (fun v => (asQ v).isSome) := sp_ratio (fw := 0) rfl rfl (s_isint k)
theorem s_lowest (k : Nat) : SLow (CK (k + 1)) 2 := sp_lowest rfl rfl
theorem s_plus (k : Nat) : S2 (CK (k + 2)) 3 (· + ·) := sp_plus (fl := 2) rfl rfl (s_lowest k)
theorem s_minus (k : Nat) : S2 (CK (k + 2)) 4 (· - ·) := sp_minus (fl := 2) rfl rfl (s_lowest k)
theorem s_times (k : Nat) : S2 (CK (k + 2)) 5 (· * ·) := sp_times (fl := 2) rfl rfl (s_lowest k)
theorem s_less (k : Nat) : SLess (CK (k + 1)) 6 := sp_less rfl rfl
theorem s_total (k : Nat) : STot (CK (k + 3)) 7 := sp_total (fp := 3) (gz := 0) rfl rfl rfl (s_plus k)
theorem s_great (k : Nat) : SGreat (CK (k + 2)) 8 := sp_great (fl := 6) rfl rfl (s_less k)
theorem s_above (k : Nat) : STst (CK (k + 3)) 9 aboveV := sp_above (fr := 1) rfl rfl (s_ratio k)
theorem s_values (k : Nat) : STst (CK (k + 4)) 10 valsV := sp_values (fa := 9) (fl := 6) (gm := 1) rfl rfl rfl (s_above k) (s_less (k + 2))
theorem s_market (k : Nat) : STst (CK (k + 5)) 11 marketV := sp_market (fv := 10) (fa := 9) rfl rfl (s_values k) (s_above (k + 1))
theorem s_needm (k : Nat) : SNeed (CK (k + 6)) 12 marketV 1 := sp_need (nn := 0) (fm := 11) (w := "a market is needed") rfl rfl (s_market k)
theorem s_needp (k : Nat) : SNeed (CK (k + 6)) 13 aboveV 2 := sp_need (nn := 0) (fm := 9) (w := "a ratio above 0 is needed") rfl rfl (s_above (k + 2))
theorem s_mass (k : Nat) : SRow (CK (k + 4)) 14 mass := sp_mass (ft := 7) rfl rfl (s_total k)
theorem s_demand (k : Nat) : SRowP (CK (k + 4)) 15 dem := sp_demand (ft := 7) (fl := 6) rfl rfl (s_total k) (s_less (k + 2))
theorem s_revenue (k : Nat) : SRowP (CK (k + 5)) 16 rev := sp_revenue (ft := 5) (fd := 15) rfl rfl (s_times (k + 2)) (s_demand k)
theorem s_buyers (k : Nat) : SRowP (CK (k + 4)) 17 buy := sp_buyers (ft := 7) (fm := 5) (fn := 4) (fl := 6) rfl rfl (s_total k) (s_times (k + 1)) (s_minus (k + 1)) (s_less (k + 2))
theorem s_wholein (k : Nat) : SRow (CK (k + 4)) 18 whl := sp_wholein (ft := 7) (fm := 5) rfl rfl (s_total k) (s_times (k + 1))
theorem s_best (k : Nat) : SBest (CK (k + 6)) 19 := sp_best (fr := 16) (fg := 8) rfl rfl (s_revenue k) (s_great (k + 3))
theorem s_massof (k : Nat) : SPub (CK (k + 7)) 20 1 (fun rs => rt (mass rs)) := sp_pub (fn := 12) (fg := 14) rfl rfl (s_needm k) (s_mass (k + 2))
theorem s_demandP (k : Nat) : SPubP (CK (k + 7)) 21 1 2 (fun rs p => rt (dem rs p)) := sp_pubP (fn := 12) (fp := 13) (fg := 15) rfl rfl (s_needm k) (s_needp k) (s_demand (k + 2))
theorem s_revenueP (k : Nat) : SPubP (CK (k + 7)) 22 1 2 (fun rs p => rt (rev rs p)) := sp_pubP (fn := 12) (fp := 13) (fg := 16) rfl rfl (s_needm k) (s_needp k) (s_revenue (k + 1))
theorem s_buyersP (k : Nat) : SPubP (CK (k + 7)) 23 1 2 (fun rs p => rt (buy rs p)) := sp_pubP (fn := 12) (fp := 13) (fg := 17) rfl rfl (s_needm k) (s_needp k) (s_buyers (k + 2))
theorem s_wholeP (k : Nat) : SPub (CK (k + 7)) 24 1 (fun rs => rt (whl rs)) := sp_pub (fn := 12) (fg := 18) rfl rfl (s_needm k) (s_wholein (k + 2))
theorem s_bestP (k : Nat) : SPub (CK (k + 7)) 25 1 bestD := sp_pub (fn := 12) (fg := 19) rfl rfl (s_needm k) (s_best k)
theorem s_onerev (k : Nat) : SRow (CK (k + 7)) 26 hi := sp_onerev (fr := 16) (fb := 19) rfl rfl (s_revenue (k + 1)) (s_best k)
theorem s_oneprice (k : Nat) : SPub (CK (k + 8)) 27 1 (fun rs => rt (hi rs)) := sp_pub (fn := 12) (fg := 26) rfl rfl (s_needm (k + 1)) (s_onerev k)
theorem s_blend (k : Nat) : SBlend (CK (k + 1)) 29 := sp_blended rfl rfl
theorem s_draw (k : Nat) : SDraw (CK (k + 2)) 30 := sp_draw (fb := 29) rfl rfl (s_blend k)
theorem s_pick (k : Nat) : SPick (CK (k + 3)) 31 := sp_pick (fd := 30) rfl rfl (s_draw k)
theorem s_truth (k : Nat) : STruth (CK (k + 1)) 32 := sp_truth rfl rfl
theorem s_same (k : Nat) : SSame (CK (k + 2)) 33 := sp_same (ft := 32) rfl rfl (s_truth k)
theorem s_q (k : Nat) : SLow (CK (k + 1)) 34 := sp_law_q rfl rfl
theorem s_lplus (k : Nat) : S2 (CK (k + 2)) 35 (· + ·) := sp_plus (fl := 34) rfl rfl (s_q k)
theorem s_lminus (k : Nat) : S2 (CK (k + 2)) 36 (· - ·) := sp_minus (fl := 34) rfl rfl (s_q k)
theorem s_ltimes (k : Nat) : S2 (CK (k + 2)) 37 (· * ·) := sp_times (fl := 34) rfl rfl (s_q k)
theorem s_lover (k : Nat) : SOver (CK (k + 2)) 38 := sp_over (fl := 34) rfl rfl (s_q k)
theorem s_lless (k : Nat) : SLess (CK (k + 1)) 39 := sp_less rfl rfl
theorem s_lsum (k : Nat) : STot (CK (k + 3)) 40 := sp_law_sum (fp := 35) rfl rfl (s_lplus k)
theorem s_lratio (k : Nat) : STst (CK (k + 2)) 41 (fun v => (asQ v).isSome) := sp_law_ratio (fq := 34) rfl rfl (s_q k)
theorem s_odd (k : Nat) : SVal (CK (k + 4)) 42 := sp_odd (fp := 31) rfl rfl (s_pick k)
theorem s_rising (k : Nat) : SRise (CK (k + 2)) 44 := sp_rising (fl := 39) rfl rfl (s_lless k)
theorem s_even (k : Nat) : SEven (CK (k + 3)) 45 := sp_even (fo := 38) (ft := 37) (fm := 36) rfl rfl (s_lover k) (s_ltimes k) (s_lminus k)
theorem s_mkmarket (k : Nat) : SMkt (CK (k + 4)) 43 := sp_mkmarket (fp := 31) (fd := 30) (fq := 34) (fr := 44) (fe := 45) (fa := 35) rfl rfl (s_pick k) (s_draw (k + 1)) (s_q (k + 2)) (s_rising (k + 1)) (s_even k) (s_lplus (k + 1))
theorem s_mkdem (k : Nat) : SRowP (CK (k + 4)) 46 dem := sp_demand (ft := 40) (fl := 39) rfl rfl (s_lsum k) (s_lless (k + 2))
theorem s_mkrev (k : Nat) : SRowP (CK (k + 5)) 47 rev := sp_revenue (ft := 37) (fd := 46) rfl rfl (s_ltimes (k + 2)) (s_mkdem k)
theorem s_mkbuy (k : Nat) : SRowP (CK (k + 4)) 48 buy := sp_buyers (ft := 40) (fm := 37) (fn := 36) (fl := 39) rfl rfl (s_lsum k) (s_ltimes (k + 1)) (s_lminus (k + 1)) (s_lless (k + 2))
theorem s_mkwhole (k : Nat) : SRow (CK (k + 4)) 49 whl := sp_wholein (ft := 40) (fm := 37) rfl rfl (s_lsum k) (s_ltimes (k + 1))
theorem s_mkbest (k : Nat) : SMkBest (CK (k + 6)) 50 := sp_mkbest (fr := 47) (fl := 39) rfl rfl (s_mkrev k) (s_lless (k + 4))
theorem s_lvalues (k : Nat) : STst (CK (k + 3)) 51 valsV := sp_law_values (fr := 41) (fl := 39) rfl rfl (s_lratio k) (s_lless (k + 1))
theorem s_lmarket (k : Nat) : STst (CK (k + 4)) 52 marketV := sp_law_market (fv := 51) (fr := 41) rfl rfl (s_lvalues k) (s_lratio (k + 1))
theorem s_nomarket (k : Nat) : SVal (CK (k + 4)) 53 := sp_nomarket (fp := 31) rfl rfl (s_pick k)
theorem s_bent : ∀ (n k : Nat), SBent (CK (k + 4 + n)) 54 n
  | 0, k => sp_bent (fd := 30) (fp := 31) rfl rfl (s_draw (k + 1)) (s_pick k) fun m h => by omega
  | n + 1, k => sp_bent (fd := 30) (fp := 31) rfl rfl (show SDraw (CK (k + 4 + n)) 30 by have := s_draw (k + 2 + n); rw [show k + 2 + n + 2 = k + 4 + n by omega] at this; exact this)
      (show SPick (CK (k + 4 + n)) 31 by have := s_pick (k + 1 + n); rw [show k + 1 + n + 3 = k + 4 + n by omega] at this; exact this) fun m h => by
        have e : m = n := by omega
        subst e
        exact s_bent m k
theorem s_near (k : Nat) : SNear (CK (k + 9)) 55 := sp_near (fd := 30) (fp := 31) (fn := 53) (fo := 42) (fb := 54) rfl rfl (s_draw (k + 6)) (s_pick (k + 5)) (s_nomarket (k + 4)) (s_odd (k + 4)) (s_bent 4 k)
theorem s_price (k : Nat) : SPrice (CK (k + 4)) 56 := sp_price (fp := 31) (ft := 37) (fa := 35) rfl rfl (s_pick k) (s_ltimes (k + 1)) (s_lplus (k + 1))
theorem s_told (k : Nat) : STold (CK (k + 9)) 57 := sp_told (fw := 24) (fo := 27) (fde := 21) (fbg := 23) (fmb := 50) (fs := 33) (fma := 20) (fsum := 40) (fmw := 49) (fbp := 25) (fpr := 56) (fmd := 46) (fmr := 47) (fmu := 48) (fre := 22) (fl := 39) (ci := 1) (cp := 2) rfl rfl rfl rfl rfl rfl
  (s_wholeP (k + 1)) (s_oneprice k) (s_demandP (k + 1)) (s_buyersP (k + 1)) (s_mkbest (k + 2)) (s_same (k + 6)) (s_massof (k + 1)) (s_lsum (k + 5)) (s_mkwhole (k + 4)) (s_bestP (k + 1)) (s_price (k + 4)) (s_mkdem (k + 4)) (s_mkrev (k + 3)) (s_mkbuy (k + 4)) (s_revenueP (k + 1)) (s_lless (k + 7))
theorem s_isbad (k : Nat) : SBad (CK (k + 9)) 59 fun g => g ∈ [20, 24, 25, 27] := sp_isbad (ci := 1) rfl rfl (by decide) rfl fun g hg => by
  simp at hg
  rcases hg with rfl | rfl | rfl | rfl
  · exact ⟨by decide, (s_massof (k + 1)).bad⟩
  · exact ⟨by decide, (s_wholeP (k + 1)).bad⟩
  · exact ⟨by decide, (s_bestP (k + 1)).bad⟩
  · exact ⟨by decide, (s_oneprice k).bad⟩
theorem s_refused (k : Nat) : SRef (CK (k + 10)) 58 := sp_refused (fp := 31) (fm := 52) (fib := 59) (fde := 21) (fre := 22) (fbg := 23) (fma := 20) (fwh := 24) (fbp := 25) (fop := 27) (cp := 2) (ci := 1) rfl rfl (s_pick (k + 6)) (s_lmarket (k + 5)) (s_isbad k) (by decide) (by decide) rfl rfl
  (s_demandP (k + 2)) (s_revenueP (k + 2)) (s_buyersP (k + 2)) (by decide) (by decide) (by decide)
theorem s_law (ns : List Int) (hns : ns.length ≤ 63) : ∃ st, callK G (fdsOf T) 11 60 [.v (.scr ns)] [] = .ok (.v (.bl true)) st :=
  sp_law (k := 10) (fm := 11) (fb := 28) (fk := 43) (fn := 55) (ft := 32) (fmm := 52) (fto := 57) (frf := 58) rfl rfl rfl (s_market 5) (fun ns h => sp_begun rfl rfl ns h) (s_mkmarket 6) (s_near 1) (s_truth 9) (s_lmarket 6) (s_told 1) (s_refused 0) ns hns
end HT
theorem PySem.Challenge.cw_swaytold_k52_markets_and_prices_holds : PySem.Challenge.rw_swaytold_k52_markets_and_prices.Holds := by
  exact HT.holds (kk := 11) ⟨rfl, by decide, by decide⟩ fun ns h _ => HT.s_law ns h
