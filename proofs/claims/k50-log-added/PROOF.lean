import PyProof.Rows.All
import Wide.All
import OpenK.AllK
import Wide.FinOn
import PySem.PyData
import HandS.ForMost
import HandS.Exc
import HandS.TryMany
import HandS.ExcOwn
import HandS.WordsExc
import HandS.ExcInit
import HandS.CallSlots
import HandS.Deep
import HandS.Wide
import HandS.DictTup
import HandS.Style
import HandS.TupLe
import HandS.IsInst
import HandS.Flow
import HandS.IterVal
import HandS.IterNext
import HandS.OwnIter
import HandS.OwnEq
import HandS.Rev
import HandS.ExcField
import HandS.ExcIs
import KE.KExcIs
import KE.KDictDisplayH
import HandS.SetKeys
import HandS.Dict
import HandS.Strs
import HandS.More
import HandS.ExcCtx
import HandS.HotCalls
import HandS.ExcInitHot
import HandS.Keys
import HandS.Star
import PySem.Challenge.RW_quorumkinds_k50_log_added
set_option Elab.async false

namespace Qk
open PySem

inductive Cl where
  | Table | Relation | Log | Sizes | Sites | Before | Outage | Cluster | Decision
  | QuorumError | InvalidTable | InvalidSizes | LogFull | UnknownOperation | UnknownKind | InvalidPair | InvalidEntry
  | StampConflict | InvalidRecord | UnknownSite | SiteDown | LostEntry | TooFewSites | NotAllowed | NotDependency | Needless
  deriving DecidableEq, Repr

inductive Ky where
  | i (n : Int) | t (ns : List Int)
  deriving DecidableEq
inductive D where
  | non | bl (b : Bool) | int (i : Int) | str (z : Str) | byt (b : Array UInt8)
  | tup (ds : List D) | lst (ds : List D) | scr (ds : List D) | obj (c : Cl) (ds : List D) | loc (l : Nat)
  | dct (t : Bool) (ks : List Ky) (ds : List D)
  | ktup (ds : List D)

inductive M where
  | lst (ds : List D) | dct (t : Bool) (kvs : List (Ky × D)) | ins (c : Cl) (ds : List D)

inductive Sl where
  | un | val (d : D) | own (m : M) | exo (c : Cl) (ds : List D)

abbrev Sto := List M
abbrev Sls := List Sl

inductive R (α : Type) where
  | ok (a : α) | exc (c : Cl) (ds : List D) (st : Sto) | stuck

def R.bind {α β : Type} (r : R α) (f : α → R β) : R β :=
  match r with
  | .ok a => f a
  | .exc c ds st => .exc c ds st
  | .stuck => .stuck

inductive O where
  | nx (δ : Sls) (st : Sto) | ret (d : D) (st : Sto) | brk (δ : Sls) (st : Sto) | cnt (δ : Sls) (st : Sto)
  | exc (c : Cl) (ds : List D) (δ : Sls) (st : Sto) | stuck

def O.seq (o : O) (f : Sls → Sto → O) : O :=
  match o with
  | .nx δ st => f δ st
  | o => o

inductive Bo where
  | add | sub | mul | fdiv | mod | pow | shl | shr | band | bor
  deriving DecidableEq
inductive Co where
  | lt | le | gt | ge | eq | ne | in_ | nin | is_ | isn
  deriving DecidableEq
inductive Dop where
  | cmp (o : Co) | bin (o : Bo)
  deriving DecidableEq
inductive Bl where
  | len | int | abs | min | max | tuple | list | all | any | sum
  deriving DecidableEq
inductive Ty where
  | int | bool | str | list | tuple | cls (c : Cl)
  deriving DecidableEq

inductive Xt where
  | val | cls (c : Cl)
  deriving DecidableEq
mutual
inductive Tg where
  | n (i : Nat) | t (ts : Tgs)
inductive Tgs where
  | nil | cons (t : Tg) (ts : Tgs)
end

mutual
inductive E where
  | v (i : Nat)
  | c (d : D)
  | g (k : Nat)
  | tup (es : Es)
  | lst (es : Es)
  | lstS (e : E) (es : Es)
  | tupS (e : E) (es : Es)
  | dct (t : Bool) (ks vs : Es)
  | bin (o : Bo) (a b : E)
  | neg (a : E)
  | not (a : E)
  | cmp (o : Co) (a b : E)
  | chn (o p : Co) (a b c : E)
  | and (a b : E)
  | or (a b : E)
  | ife (c a b : E)
  | ix (a b : E)
  | sl (a : E) (lo hi : Eo)
  | fld (a : E) (c : Cl) (k : Nat)
  | call (f : Nat) (es : Es)
  | blt (b : Bl) (es : Es)
  | isi (a : E) (ts : List Ty) (cs : List Cl)
  | comp (elt : E) (tg : Tg) (it : I) (cs : Es) (own : List Nat)
  | new (f : Nat) (es : Es)
  | meth (f : Nat) (c : Cl) (a : E) (es : Es)
  | idx (a b : E)
  | din (neg : Bool) (k d : E)
  | dget (d k : E)
  | dlen (f : Nat) (c : Cl) (a : E)
  | din2 (f : Nat) (c : Cl) (neg : Bool) (a b : E)
  | dop (f : Nat) (c : Cl) (o : Dop) (a b : E)
  | shr (e : E)
  | comp2 (elt : E) (tg : Tg) (it : I) (cs : Es) (tg2 : Tg) (it2 : I) (cs2 : Es) (own own2 : List Nat)
  | rev (a : E)
  | xfl (i : Nat) (c : Cl) (k : Nat)
  | xis (i : Nat) (ks : List Cl) (t : Xt)
  | lstO (f : Nat) (c : Cl) (k : Nat) (a : E)
  | orL (f : Nat) (c : Cl) (a b : E)
  | orR (f g : Nat) (c : Cl) (a b : E)
  | tupK (a : E)
  | addP (a b : E)
inductive Es where
  | nil | cons (e : E) (es : Es)
inductive Eo where
  | no | some (e : E)
inductive I where
  | seq (e : E) | rng (e : E) | rng2 (a b : E) | enum (e : E) | own (c : Cl) (k : Nat) (e : E) | zip (a b : E)
end

mutual
inductive S where
  | asg (t : Tg) (e : E)
  | asgO (i : Nat) (e : E)
  | frz (i : Nat)
  | shrO (i : Nat)
  | wip (ws : List Nat)
  | setF (i : Nat) (c : Cl) (k : Nat) (e : E)
  | setI (i : Nat) (e v : E)
  | setD (i : Nat) (e v : E)
  | aug (i : Nat) (o : Bo) (e : E)
  | app (i : Nat) (e : E)
  | expr (e : E)
  | if_ (c : E) (a b : Ss)
  | while_ (c : E) (b : Ss)
  | for_ (t : Tg) (it : I) (b : Ss)
  | ret (e : E)
  | retN
  | raise (c : Cl) (es : Es)
  | brk
  | cnt
  | pass
  | never
  | tryc (b : Ss) (hs : Hs)
  | sdIf (i : Nat) (k v w : E) (b : Ss)
  | insL (i : Nat) (j e : E)
  | popL (i : Nat)
  | appE (a e : E)
  | iop (i f : Nat) (c : Cl) (o : Bo) (e : E)
  | augI (i : Nat) (o : Bo) (e v : E)
inductive Ss where
  | nil | cons (s : S) (ss : Ss)
inductive Hs where
  | nil | cons (c : Cl) (ks : List Cl) (i : Option Nat) (b : Ss) (hs : Hs)
end

mutual
def D.toP : D → PyData
  | .non => .none
  | .bl b => .bool b
  | .int i => .int i
  | .str z => .str z
  | .tup ds => .tuple (Ds.toP ds)
  | .ktup ds => .tuple (Ds.toP ds)
  | .lst ds => .list (Ds.toP ds)
  | _ => .none
def Ds.toP : List D → List PyData
  | [] => []
  | d :: ds => D.toP d :: Ds.toP ds
end
def D.shp : Nat → D → Bool
  | _, .non => true
  | _, .bl _ => true
  | _, .int _ => true
  | _, .str z => PyData.strOk z
  | n + 1, .tup ds => ds.all (D.shp n)
  | n + 1, .ktup ds => ds.all (D.shp n)
  | n + 1, .lst ds => ds.all (D.shp n)
  | _, _ => false
def eqD (d e : D) : Option Bool := if d.shp 9 && e.shp 9 then some (PyData.eqv d.toP e.toP) else none

def blsOf : List D → Option (List Bool)
  | [] => some []
  | .bl b :: ds => match blsOf ds with | some bs => some (b :: bs) | none => none
  | _ => none
def intsOf : List D → Option (List Int)
  | [] => some []
  | .int i :: ds => match intsOf ds with | some is => some (i :: is) | none => none
  | _ => none
def minI : List Int → Option D
  | [] => none
  | i :: is => some (.int (is.foldl (fun a b => if b < a then b else a) i))
def keyOf : D → Option Ky
  | .int i => some (.i i)
  | .tup ds => match intsOf ds with | some is => some (.t is) | none => none
  | _ => none
def lookK (k : Ky) : List (Ky × D) → Option D
  | [] => none
  | p :: ps => if p.1 = k then some p.2 else lookK k ps
def putK (k : Ky) (d : D) (kvs : List (Ky × D)) : List (Ky × D) :=
  if (lookK k kvs).isSome = true then kvs.map (fun p => if p.1 = k then (p.1, d) else p) else kvs ++ [(k, d)]

inductive Pl where
  | d (d : D) | own (m : M)
def seqOf (st : Sto) : Pl → Option (List D)
  | .d (.lst ds) => some ds
  | .d (.scr ds) => some ds
  | .d (.tup ds) => some ds
  | .d (.ktup ds) => some ds
  | .d (.loc l) => match st[l]? with | some (.lst ds) => some ds | _ => none
  | .own (.lst ds) => some ds
  | _ => none
def lstOf (st : Sto) : Pl → Option (List D)
  | .d (.lst ds) => some ds
  | .d (.scr ds) => some ds
  | .d (.loc l) => match st[l]? with | some (.lst ds) => some ds | _ => none
  | .own (.lst ds) => some ds
  | _ => none
def datL (st : Sto) : D → Option (List D)
  | .lst ds => some ds
  | .loc l => match st[l]? with | some (.lst ds) => some ds | _ => none
  | _ => none
def idxOf (st : Sto) : Pl → Option (List D)
  | .d (.ktup ds) => some ds
  | p => lstOf st p
def Ky.isT : Ky → Bool
  | .i _ => false
  | .t _ => true
def dctOf (st : Sto) (k : Ky) : Pl → Option (List (Ky × D))
  | .d (.loc l) => match st[l]? with | some (.dct t ds) => if t = k.isT then some ds else none | _ => none
  | .d (.dct t ks ds) => if t = k.isT then some (ks.zip ds) else none
  | .own (.dct t ds) => if t = k.isT then some ds else none
  | _ => none
def dinV (st : Sto) (k : D) (p : Pl) : Option Bool := match keyOf k with
  | some key => match dctOf st key p with | some kvs => some (lookK key kvs).isSome | none => none
  | none => none
def dgetV (st : Sto) (k : D) (p : Pl) : Option D := match keyOf k with
  | some key => match dctOf st key p with | some kvs => lookK key kvs | none => none
  | none => none
def insOf (st : Sto) (c : Cl) : Pl → Option (List D)
  | .d (.obj c' ds) => if c' = c then some ds else none
  | .d (.loc l) => match st[l]? with | some (.ins c' ds) => if c' = c then some ds else none | _ => none
  | .own (.ins c' ds) => if c' = c then some ds else none
  | _ => none
def seqLT (st : Sto) : D → Bool
  | .lst _ => true
  | .tup _ => true
  | .loc l => match st[l]? with | some (.lst _) => true | _ => false
  | _ => false
def datOf (st : Sto) (p : Pl) : Option D :=
  match p with
  | .d (.loc l) => match st[l]? with | some (.lst ds) => some (.lst ds) | _ => none
  | .own (.lst ds) => some (.lst ds)
  | .d d => some d
  | _ => none

def Lim : Nat := 1000000
def ixn (n : Nat) (i : Int) : Option Nat := if 0 ≤ i then (if i < n then some i.toNat else none) else if -(n : Int) ≤ i then some (i + n).toNat else none
def okD {α : Type} (o : Option α) (f : α → R (D × Sto)) : R (D × Sto) := match o with | some a => f a | none => .stuck

def binV (o : Bo) (x y : D) : Option D :=
  match o, x, y with
  | .add, .int i, .int j => some (.int (i + j))
  | .sub, .int i, .int j => some (.int (i - j))
  | .mul, .int i, .int j => if -(2 ^ 64) < i ∧ i < 2 ^ 64 ∨ -(2 ^ 64) < j ∧ j < 2 ^ 64 then some (.int (i * j)) else none
  | .fdiv, .int i, .int j => if 0 < j ∧ j < 1073741824 then some (.int (i / j)) else none
  | .mod, .int i, .int j => if 0 < j then some (.int (i % j)) else none
  | .pow, .int i, .int j => if 0 ≤ j ∧ j ≤ 1000 ∧ i.natAbs < 2 ^ 64 then some (.int (i ^ j.toNat)) else none
  | .shl, .int i, .int j => if 0 ≤ j ∧ j ≤ 1000 ∧ i.natAbs < 2 ^ 64 then some (.int (i * 2 ^ j.toNat)) else none
  | .shr, .int i, .int j => if 0 ≤ j then some (.int (i / 2 ^ j.toNat)) else none
  | .band, .int i, .int j => some (.int (Builtin.bitAnd i j))
  | .bor, .int i, .int j => some (.int (Builtin.bitOr i j))
  | .add, .lst a, .lst b => if a.length + b.length ≤ Lim then some (.lst (a ++ b)) else none
  | .add, .tup a, .tup b => if a.length + b.length ≤ Lim ∧ a ≠ [] ∧ b ≠ [] then some (.tup (a ++ b)) else none
  | .mul, .lst a, .int j => if 0 ≤ j ∧ a.length * j.toNat ≤ Lim ∧ j ≤ Lim then some (.lst ((List.replicate j.toNat a).flatten)) else none
  | _, _, _ => none

def cmpI (o : Co) (i j : Int) : Option Bool :=
  match o with
  | .lt => some (decide (i < j))
  | .le => some (decide (i ≤ j))
  | .gt => some (decide (j < i))
  | .ge => some (decide (j ≤ i))
  | .eq => some (decide (i = j))
  | .ne => some (!decide (i = j))
  | _ => none
def anyEq (x : D) (ds : List D) : Option Bool :=
  if x.shp 9 && ds.all (D.shp 8) then some (ds.any fun z => PyData.eqv z.toP x.toP) else none
def cmpP (o : Co) (st : Sto) (x y : Pl) : Option Bool :=
  match o with
  | .is_ => match x, y with
    | .d .non, .d .non => some true
    | .d (.bl a), .d (.bl b) => some (decide (a = b))
    | .d _, .d .non => some false
    | .own _, .d .non => some false
    | _, _ => none
  | .isn => match x, y with
    | .d .non, .d .non => some false
    | .d (.bl a), .d (.bl b) => some (!decide (a = b))
    | .d _, .d .non => some true
    | .own _, .d .non => some true
    | _, _ => none
  | .eq => match datOf st x, datOf st y with | some d, some e => eqD d e | _, _ => none
  | .ne => match datOf st x, datOf st y with | some d, some e => (eqD d e).map (!·) | _, _ => none
  | .in_ => match x with
    | .d d => match seqOf st y with
      | some ds => anyEq d ds
      | none => none
    | _ => none
  | .nin => match x with
    | .d d => match seqOf st y with
      | some ds => (anyEq d ds).map (!·)
      | none => none
    | _ => none
  | o => match x, y with
    | .d (.int i), .d (.int j) => cmpI o i j
    | _, _ => none

def truP (st : Sto) (p : Pl) : Option Bool :=
  match p with
  | .d .non => some false
  | .d (.bl b) => some b
  | .d (.int i) => some (i != 0)
  | p => match seqOf st p with | some ds => some (!ds.isEmpty) | none => none

inductive Kd where
  | int | bool | non | str | list | tuple | cls (c : Cl)
  deriving DecidableEq
def kindP (cs : List Cl) (st : Sto) : Pl → Option Kd
  | .d (.int _) => some .int
  | .d (.bl _) => some .bool
  | .d .non => some .non
  | .d (.str _) => some .str
  | .d (.lst _) => some .list
  | .d (.tup _) => some .tuple
  | .d (.ktup _) => some .tuple
  | .d (.obj c _) => if c ∈ cs then some (.cls c) else none
  | .d (.loc l) => match st[l]? with
    | some (.lst _) => some .list
    | some (.ins c _) => if c ∈ cs then some (.cls c) else none
    | _ => none
  | .own (.lst _) => some .list
  | .own (.ins c _) => if c ∈ cs then some (.cls c) else none
  | _ => none
def tyIs (cs : List Cl) : Kd → Ty → Option Bool
  | .int, .int => some true
  | .bool, .int => some true
  | .bool, .bool => some true
  | .str, .str => some true
  | .list, .list => some true
  | .tuple, .tuple => some true
  | .cls c, .cls c' => if c = c' then some true else none
  | _, .cls c => if c ∈ cs then some false else none
  | _, _ => some false
def tyAny (cs : List Cl) (k : Kd) : List Ty → Option Bool
  | [] => some false
  | t :: ts => match tyIs cs k t with
    | some true => some true
    | some false => tyAny cs k ts
    | none => none

def bltV (st : Sto) (b : Bl) (ps : List Pl) : Option D :=
  match b, ps with
  | .len, [p] => match seqOf st p with | some ds => some (.int ds.length) | none => none
  | .int, [.d (.int i)] => some (.int i)
  | .int, [.d (.bl b)] => some (.int (if b then 1 else 0))
  | .abs, [.d (.int i)] => some (.int (if i < 0 then -i else i))
  | .min, [.d (.int i), .d (.int j)] => some (.int (if j < i then j else i))
  | .max, [.d (.int i), .d (.int j)] => some (.int (if j > i then j else i))
  | .min, [p] => match lstOf st p with | some ds => (intsOf ds).bind minI | none => none
  | .tuple, [.d (.ktup ds)] => some (.ktup ds)
  | .tuple, [p] => match seqOf st p with | some ds => some (.tup ds) | none => none
  | .list, [p] => match seqOf st p with | some ds => some (.lst ds) | none => none
  | .all, [p] => match lstOf st p with | some ds => (blsOf ds).map fun bs => .bl (bs.all id) | none => none
  | .any, [p] => match lstOf st p with | some ds => (blsOf ds).map fun bs => .bl (bs.any id) | none => none
  | .sum, [p] => match lstOf st p with | some ds => (intsOf ds).map fun bs => .int bs.sum | none => none
  | _, _ => none

def sIx (n d : Nat) (o : Option Int) : Nat := match o with | none => d | some i => if i < 0 then (i + n).toNat else min i.toNat n
def cut (xs : List D) (lo hi : Option Int) : List D := (xs.drop (sIx xs.length 0 lo)).take (sIx xs.length xs.length hi - sIx xs.length 0 lo)

abbrev Fn := List D → Sto → R (D × Sto)

mutual
def Tg.bind : Tg → D → Sls → Option Sls
  | .n i, d, δ => some (δ.set i (.val d))
  | .t ts, .tup ds, δ => Tgs.bind ts ds δ
  | _, _, _ => none
def Tgs.bind : Tgs → List D → Sls → Option Sls
  | .nil, [], δ => some δ
  | .cons t ts, d :: ds, δ => match Tg.bind t d δ with | some δ' => Tgs.bind ts ds δ' | none => none
  | _, _, _ => none
end

def compLoop (f : D → Sto → R (Option D × Sto)) : List D → List D → Sto → R (List D × Sto)
  | [], acc, st => .ok (acc, st)
  | x :: xs, acc, st => match f x st with
    | .ok (some d, st') => if acc.length < Lim then compLoop f xs (acc ++ [d]) st' else .stuck
    | .ok (none, st') => compLoop f xs acc st'
    | _ => .stuck

def xtIs (t : Xt) (c : Cl) : Bool := match t with | .val => true | .cls c' => decide (c = c' ∨ c' = .QuorumError)
def wipeE (δ : Sls) : List Nat → Sls
  | [] => δ
  | v :: vs => (wipeE δ vs).set v .un

abbrev Gd := Option (Nat × List D)
open Classical in
noncomputable def gdC (g : Gd) (f : D → Sto → R (Option D × Sto)) : D → Sto → R (Option D × Sto) := match g with
  | none => f
  | some p => fun x st => match f x st with
    | .ok (d, st') => if st'[p.1]? = some (.lst p.2) then .ok (d, st') else .stuck
    | o => o
def compLoop2 (f : D → List D → Sto → R (List D × Sto)) : List D → List D → Sto → R (List D × Sto)
  | [], acc, st => .ok (acc, st)
  | x :: xs, acc, st => match f x acc st with
    | .ok (acc', st') => compLoop2 f xs acc' st'
    | _ => .stuck
open Classical in
noncomputable def gdC2 (g : Gd) (f : D → List D → Sto → R (List D × Sto)) : D → List D → Sto → R (List D × Sto) := match g with
  | none => f
  | some p => fun x acc st => match f x acc st with
    | .ok (d, st') => if st'[p.1]? = some (.lst p.2) then .ok (d, st') else .stuck
    | o => o
open Classical in
noncomputable def gdF (g : Gd) (f : D → Sls → Sto → O) : D → Sls → Sto → O := match g with
  | none => f
  | some p => fun x δ st => match f x δ st with
    | .nx δ' st' => if st'[p.1]? = some (.lst p.2) then .nx δ' st' else .stuck
    | .cnt δ' st' => if st'[p.1]? = some (.lst p.2) then .cnt δ' st' else .stuck
    | o => o
noncomputable section
section
variable (G : List Fn) (C : List Int)

mutual
def evalE : E → Sls → Sto → R (D × Sto)
  | .v i, δ, st => match δ[i]? with | some (.val d) => .ok (d, st) | _ => .stuck
  | .c d, _, st => .ok (d, st)
  | .g k, _, st => match C[k]? with | some n => .ok (.int n, st) | none => .stuck
  | .tup es, δ, st => (evalEs es δ st).bind fun r => .ok (.tup r.1, r.2)
  | .lst es, δ, st => (evalEs es δ st).bind fun r => .ok (.lst r.1, r.2)
  | .lstS e es, δ, st => (evalP e δ st).bind fun r => match seqOf r.2 r.1 with | some ds => (evalEs es δ r.2).bind fun q => if (ds ++ q.1).length ≤ Lim then .ok (.lst (ds ++ q.1), q.2) else .stuck | none => .stuck
  | .tupS e es, δ, st => (evalP e δ st).bind fun r => match seqOf r.2 r.1 with | some ds => (evalEs es δ r.2).bind fun q => if (ds ++ q.1).length ≤ Lim then .ok (.tup (ds ++ q.1), q.2) else .stuck | none => .stuck
  | .dct _ _ _, _, _ => .stuck
  | .bin o a b, δ, st => (evalE a δ st).bind fun r => (evalE b δ r.2).bind fun q => match binV o r.1 q.1 with | some d => .ok (d, q.2) | none => .stuck
  | .neg a, δ, st => (evalE a δ st).bind fun r => match r.1 with | .int i => .ok (.int (-i), r.2) | _ => .stuck
  | .not a, δ, st => (evalP a δ st).bind fun r => match truP r.2 r.1 with | some b => .ok (.bl (!b), r.2) | none => .stuck
  | .cmp o a b, δ, st => (evalP a δ st).bind fun r => (evalP b δ r.2).bind fun q => match cmpP o q.2 r.1 q.1 with | some d => .ok (.bl d, q.2) | none => .stuck
  | .chn o p a b c, δ, st => (evalE a δ st).bind fun r => (evalE b δ r.2).bind fun q => match cmpP o q.2 (.d r.1) (.d q.1) with
    | some true => (evalE c δ q.2).bind fun u => match cmpP p u.2 (.d q.1) (.d u.1) with | some d => .ok (.bl d, u.2) | none => .stuck
    | some false => .ok (.bl false, q.2)
    | none => .stuck
  | .and a b, δ, st => (evalE a δ st).bind fun r => match r.1 with | .bl true => evalE b δ r.2 | .bl false => .ok (.bl false, r.2) | _ => .stuck
  | .or a b, δ, st => (evalE a δ st).bind fun r => match r.1 with | .bl false => evalE b δ r.2 | .bl true => .ok (.bl true, r.2) | _ => .stuck
  | .ife c a b, δ, st => (evalT c δ st).bind fun r => match r.1 with | true => evalE a δ r.2 | false => evalE b δ r.2
  | .ix a b, δ, st => (evalP a δ st).bind fun r => (evalE b δ r.2).bind fun q => match seqOf q.2 r.1 with
    | some ds => match q.1 with
      | .int i => match ixn ds.length i with
        | some j => match ds[j]? with | some d => .ok (d, q.2) | none => .stuck
        | none => .stuck
      | _ => .stuck
    | none => .stuck
  | .sl a lo hi, δ, st => (evalP a δ st).bind fun r => (evalO lo δ r.2).bind fun q => (evalO hi δ q.2).bind fun u => match lstOf u.2 r.1 with
    | some ds => .ok (.lst (cut ds q.1 u.1), u.2)
    | none => match seqOf u.2 r.1 with
      | some ds => if sIx ds.length 0 q.1 = 0 ∧ sIx ds.length ds.length u.1 = ds.length then .stuck else .ok (.tup (cut ds q.1 u.1), u.2)
      | none => .stuck
  | .fld a c k, δ, st => (evalP a δ st).bind fun r => match insOf r.2 c r.1 with
    | some ds => match ds[k]? with | some d => .ok (d, r.2) | none => .stuck
    | none => .stuck
  | .call f es, δ, st => (evalEs es δ st).bind fun r => match G[f]? with | some F => F r.1 r.2 | none => .stuck
  | .blt b es, δ, st => (evalPs es δ st).bind fun r => match bltV r.2 b r.1 with | some d => .ok (d, r.2) | none => .stuck
  | .isi a ts cs, δ, st => (evalP a δ st).bind fun r => match kindP cs r.2 r.1 with
    | some k => match tyAny cs k ts with | some b => .ok (.bl b, r.2) | none => .stuck
    | none => .stuck
  | .comp elt tg it cs own, δ, st => (evalI it δ st).bind fun r =>
      (compLoop (gdC r.1.2 fun x st' => match tg.bind x (wipeE δ own) with
        | some δ' => (evalTs cs δ' st').bind fun q => match q.1 with
          | true => (evalE elt δ' q.2).bind fun u => .ok (some u.1, u.2)
          | false => .ok (none, q.2)
        | none => .stuck) r.1.1 [] r.2).bind fun q => .ok (.lst q.1, q.2)
  | .new f es, δ, st => (evalEs es δ st).bind fun r => match G[f]? with | some F => F r.1 r.2 | none => .stuck
  | .meth f c a es, δ, st => (evalE a δ st).bind fun r => match insOf r.2 c (.d r.1) with
    | some _ => (evalEs es δ r.2).bind fun q => match G[f]? with | some F => F (r.1 :: q.1) q.2 | none => .stuck
    | none => .stuck
  | .idx a b, δ, st => (evalP a δ st).bind fun r => match idxOf r.2 r.1 with
    | some _ => (evalE b δ r.2).bind fun q => match idxOf q.2 r.1 with
      | some ds => if q.1.shp 9 && ds.all (D.shp 8) then
          match ds.findIdx? (fun z => PyData.eqv z.toP q.1.toP) with | some j => .ok (.int j, q.2) | none => .stuck
        else .stuck
      | none => .stuck
    | none => .stuck
  | .din neg k d, δ, st => (evalE k δ st).bind fun r => (evalP d δ r.2).bind fun q => match dinV q.2 r.1 q.1 with
    | some b => .ok (.bl (if neg then !b else b), q.2)
    | none => .stuck
  | .dget d k, δ, st => (evalP d δ st).bind fun q => (evalE k δ q.2).bind fun r => match dgetV r.2 r.1 q.1 with
    | some v => .ok (v, r.2)
    | none => .stuck
  | .dlen f c a, δ, st => (evalE a δ st).bind fun r => match insOf r.2 c (.d r.1) with
    | some _ => match G[f]? with
      | some F => match F [r.1] r.2 with
        | .ok (.int n, st') => if 0 ≤ n ∧ n < 9223372036854775808 then .ok (.int n, st') else .stuck
        | _ => .stuck
      | none => .stuck
    | none => .stuck
  | .din2 f c neg a b, δ, st => (evalE a δ st).bind fun r => (evalE b δ r.2).bind fun q => match insOf q.2 c (.d q.1) with
    | some _ => match G[f]? with
      | some F => match F [q.1, r.1] q.2 with
        | .ok (.bl x, st') => .ok (.bl (if neg then !x else x), st')
        | _ => .stuck
      | none => .stuck
    | none => .stuck
  | .dop f c _ a b, δ, st => (evalE a δ st).bind fun r => (evalE b δ r.2).bind fun q => match insOf q.2 c (.d r.1) with
    | some _ => match insOf q.2 c (.d q.1) with
      | some _ => match G[f]? with
        | some F => match F [r.1, q.1] q.2 with
          | .ok (d, st') => .ok (d, st')
          | _ => .stuck
        | none => .stuck
      | none => .stuck
    | none => .stuck
  | .shr e, δ, st => (evalE e δ st).bind fun r => match r.1 with
    | .lst ds => .ok (.loc r.2.length, r.2 ++ [.lst ds])
    | _ => .stuck
  | .comp2 elt tg it cs tg2 it2 cs2 own own2, δ, st => (evalI it δ st).bind fun r =>
      (compLoop2 (gdC2 r.1.2 fun x acc st' => match tg.bind x (wipeE δ own) with
        | some δ' => (evalTs cs δ' st').bind fun q => match q.1 with
          | true => (evalI it2 δ' q.2).bind fun u => compLoop (gdC u.1.2 fun y st2 => match tg2.bind y (wipeE δ' own2) with
            | some δ2 => (evalTs cs2 δ2 st2).bind fun q2 => match q2.1 with
              | true => (evalE elt δ2 q2.2).bind fun u2 => .ok (some u2.1, u2.2)
              | false => .ok (none, q2.2)
            | none => .stuck) u.1.1 acc u.2
          | false => .ok (acc, q.2)
        | none => .stuck) r.1.1 [] r.2).bind fun q => .ok (.lst q.1, q.2)
  | .rev a, δ, st => (evalE a δ st).bind fun r => match lstOf r.2 (.d r.1) with
    | some ds => .ok (.lst ds.reverse, r.2)
    | none => .stuck
  | .orL f c a b, δ, st => (evalE a δ st).bind fun r => (evalE b δ r.2).bind fun q => match insOf q.2 c (.d r.1) with
    | some _ => if (seqLT q.2 q.1 || (insOf q.2 c (.d q.1)).isSome) = true then match G[f]? with
        | some F => F [r.1, q.1] q.2
        | none => .stuck
      else .stuck
    | none => .stuck
  | .orR f _ c a b, δ, st => (evalE a δ st).bind fun r => (evalE b δ r.2).bind fun q => match insOf q.2 c (.d q.1) with
    | some _ => if seqLT q.2 r.1 = true then match G[f]? with
        | some F => F [q.1, r.1] q.2
        | none => .stuck
      else .stuck
    | none => .stuck
  | .lstO f c k a, δ, st => (evalE a δ st).bind fun r => match insOf r.2 c (.d r.1) with
    | some fs => match fs[k]? with
      | some (.tup ds) => match G[f]? with
        | some F => match F [r.1] r.2 with
          | .ok (.int n, st') => if 0 ≤ n ∧ n ≤ 1000000 then .ok (.lst ds, st') else .stuck
          | _ => .stuck
        | none => .stuck
      | _ => .stuck
    | none => .stuck
  | .tupK a, δ, st => (evalP a δ st).bind fun r => match lstOf r.2 r.1 with | some ds => .ok (.ktup ds, r.2) | none => .stuck
  | .addP a b, δ, st => (evalE a δ st).bind fun r => (evalE b δ r.2).bind fun q => match datL q.2 r.1 with
    | some xs => match datL q.2 q.1 with
      | some ys => if xs.length + ys.length ≤ Lim then .ok (.lst (xs ++ ys), q.2) else .stuck
      | none => .stuck
    | none => .stuck
  | .xfl i c k, δ, st => match δ[i]? with
    | some (.exo c' ds) => if c' = c then (match ds[k]? with | some d => .ok (d, st) | none => .stuck) else .stuck
    | _ => .stuck
  | .xis i ks t, δ, st => match δ[i]? with
    | some (.exo c _) => if c ∈ ks then .ok (.bl (xtIs t c), st) else .stuck
    | _ => .stuck
def evalP : E → Sls → Sto → R (Pl × Sto)
  | .v i, δ, st => match δ[i]? with | some (.val d) => .ok (.d d, st) | some (.own m) => .ok (.own m, st) | _ => .stuck
  | e, δ, st => (evalE e δ st).bind fun r => .ok (.d r.1, r.2)
def evalT : E → Sls → Sto → R (Bool × Sto)
  | .and a b, δ, st => (evalT a δ st).bind fun r => match r.1 with | true => evalT b δ r.2 | false => .ok (false, r.2)
  | .or a b, δ, st => (evalT a δ st).bind fun r => match r.1 with | true => .ok (true, r.2) | false => evalT b δ r.2
  | .not a, δ, st => (evalT a δ st).bind fun r => .ok (!r.1, r.2)
  | e, δ, st => (evalP e δ st).bind fun r => match truP r.2 r.1 with | some b => .ok (b, r.2) | none => .stuck
def evalEs : Es → Sls → Sto → R (List D × Sto)
  | .nil, _, st => .ok ([], st)
  | .cons e es, δ, st => (evalE e δ st).bind fun r => (evalEs es δ r.2).bind fun q => .ok (r.1 :: q.1, q.2)
def evalPs : Es → Sls → Sto → R (List Pl × Sto)
  | .nil, _, st => .ok ([], st)
  | .cons e es, δ, st => (evalP e δ st).bind fun r => (evalPs es δ r.2).bind fun q => .ok (r.1 :: q.1, q.2)
def evalTs : Es → Sls → Sto → R (Bool × Sto)
  | .nil, _, st => .ok (true, st)
  | .cons e .nil, δ, st => evalT e δ st
  | _, _, _ => .stuck
def evalO : Eo → Sls → Sto → R (Option Int × Sto)
  | .no, _, st => .ok (none, st)
  | .some e, δ, st => (evalE e δ st).bind fun r => match r.1 with | .int i => .ok (some i, r.2) | _ => .stuck
def evalI : I → Sls → Sto → R ((List D × Gd) × Sto)
  | .seq e, δ, st => (evalE e δ st).bind fun r => match r.1 with
    | .lst ds => .ok ((ds, none), r.2) | .scr ds => .ok ((ds, none), r.2) | .tup ds => .ok ((ds, none), r.2) | .ktup ds => .ok ((ds, none), r.2)
    | .loc l => match r.2[l]? with | some (.lst ds) => .ok ((ds, some (l, ds)), r.2) | _ => .stuck
    | _ => .stuck
  | .rng e, δ, st => (evalE e δ st).bind fun r => match r.1 with
    | .int n => if -Lim < n ∧ n < Lim then .ok (((List.range n.toNat).map fun k => D.int (k : Nat), none), r.2) else .stuck
    | _ => .stuck
  | .rng2 a b, δ, st => (evalE a δ st).bind fun r => (evalE b δ r.2).bind fun q => match r.1, q.1 with
    | .int m, .int n => if -Lim < m ∧ m < Lim ∧ n < Lim ∧ -Lim < n then .ok (((List.range (n - m).toNat).map fun k => D.int (m + (k : Nat)), none), q.2) else .stuck
    | _, _ => .stuck
  | .enum e, δ, st => (evalE e δ st).bind fun r => match r.1 with
    | .lst ds => .ok ((ds.zipIdx.map fun p => .tup [.int (p.2 : Nat), p.1], none), r.2)
    | .scr ds => .ok ((ds.zipIdx.map fun p => .tup [.int (p.2 : Nat), p.1], none), r.2)
    | .loc l => match r.2[l]? with | some (.lst ds) => .ok ((ds.zipIdx.map fun p => .tup [.int (p.2 : Nat), p.1], some (l, ds)), r.2) | _ => .stuck
    | _ => .stuck
  | .own c k e, δ, st => (evalE e δ st).bind fun r => match insOf r.2 c (.d r.1) with
    | some fs => match fs[k]? with | some (.tup ds) => .ok ((ds, none), r.2) | _ => .stuck
    | none => .stuck
  | .zip a b, δ, st => (evalE a δ st).bind fun r => (evalE b δ r.2).bind fun q => match r.1, q.1 with
    | .lst ds, .lst es => .ok (((ds.zip es).map fun p => .tup [p.1, p.2], none), q.2)
    | _, _ => .stuck
end

def forLoop (f : D → Sls → Sto → O) : List D → Sls → Sto → O
  | [], δ, st => .nx δ st
  | x :: xs, δ, st => match f x δ st with
    | .nx δ' st' => forLoop f xs δ' st'
    | .cnt δ' st' => forLoop f xs δ' st'
    | .brk δ' st' => .nx δ' st'
    | o => o
def whileLoop (c : Sls → Sto → R (Bool × Sto)) (f : Sls → Sto → O) : Nat → Sls → Sto → O
  | 0, _, _ => .stuck
  | n + 1, δ, st => match c δ st with
    | .ok (true, st1) => match f δ st1 with
      | .nx δ' st' => whileLoop c f n δ' st'
      | .cnt δ' st' => whileLoop c f n δ' st'
      | .brk δ' st' => .nx δ' st'
      | o => o
    | .ok (false, st1) => .nx δ st1
    | .exc cl ds st1 => .exc cl ds δ st1
    | .stuck => .stuck
def R.toO {α : Type} (r : R α) (δ : Sls) (f : α → O) : O := match r with | .ok a => f a | .exc c ds st => .exc c ds δ st | .stuck => .stuck

def excFs (c : Cl) (ds : List D) : List D :=
  match c with
  | .InvalidTable | .InvalidSizes | .LogFull | .QuorumError => []
  | _ => ds
def catches (c c' : Cl) : Bool := decide (c = c' ∨ c = .QuorumError)
def Sl.unX : Sl → Sl
  | .exo _ _ => .un
  | s => s

def setAt (ds : List D) (k : Nat) (d : D) : Option (List D) := if k < ds.length then some (ds.set k d) else if k = ds.length then some (ds ++ [d]) else none
def ownOf : E → D → Option M
  | .lst _, .lst ds => some (.lst ds)
  | .comp .., .lst ds => some (.lst ds)
  | .comp2 .., .lst ds => some (.lst ds)
  | .rev _, .lst ds => some (.lst ds)
  | .blt .list _, .lst ds => some (.lst ds)
  | .bin .add _ _, .lst ds => some (.lst ds)
  | .bin .mul _ _, .lst ds => some (.lst ds)
  | .addP .., .lst ds => some (.lst ds)
  | .lstS .., .lst ds => some (.lst ds)
  | .sl .., .lst ds => some (.lst ds)
  | .lstO .., .lst ds => some (.lst ds)
  | _, _ => none

def dctNew (t : Bool) : Es → Es → Sls → Sto → R (List (Ky × D) × Sto)
  | .nil, .nil, _, st => .ok ([], st)
  | .cons k .nil, .cons v .nil, δ, st => (evalE G C k δ st).bind fun r => (evalE G C v δ r.2).bind fun q => match keyOf r.1 with
    | some key => if key.isT = t then .ok ([(key, q.1)], q.2) else .stuck
    | none => .stuck
  | _, _, _, _ => .stuck

def hasAt (δ : Sls) (i : Nat) : Bool := match δ[i]? with | some (.own _) => true | some (.val _) => true | _ => false
mutual
def exec : S → Sls → Sto → O
  | .asg t e, δ, st => (evalE G C e δ st).toO δ fun r => match t.bind r.1 δ with | some δ' => .nx δ' r.2 | none => .stuck
  | .asgO i (.dct t ks vs), δ, st => match dctNew G C t ks vs δ st with | .ok r => .nx (δ.set i (.own (.dct t r.1))) r.2 | _ => .stuck
  | .asgO i e, δ, st => (evalE G C e δ st).toO δ fun r => match ownOf e r.1 with | some m => .nx (δ.set i (.own m)) r.2 | none => .stuck
  | .frz i, δ, st => match δ[i]? with
    | some (.own (.lst ds)) => .nx (δ.set i (.val (.lst ds))) st
    | some (.own (.ins c ds)) => .nx (δ.set i (.val (.obj c ds))) st
    | some (.own (.dct t kvs)) => .nx (δ.set i (.val (.dct t (kvs.map (·.1)) (kvs.map (·.2))))) st
    | _ => .stuck
  | .shrO i, δ, st => match δ[i]? with
    | some (.own (.lst ds)) => .nx (δ.set i (.val (.loc st.length))) (st ++ [.lst ds])
    | _ => .stuck
  | .wip ws, δ, st => .nx (wipeE δ ws) st
  | .setF i c k e, δ, st => (evalE G C e δ st).toO δ fun r => match δ[i]? with
    | some (.own (.ins c' ds)) => if c' = c then match setAt ds k r.1 with | some ds' => .nx (δ.set i (.own (.ins c ds'))) r.2 | none => .stuck else .stuck
    | some (.val (.loc l)) => match r.2[l]? with
      | some (.ins c' ds) => if c' = c then match setAt ds k r.1 with | some ds' => .nx δ (r.2.set l (.ins c ds')) | none => .stuck else .stuck
      | _ => .stuck
    | _ => .stuck
  | .setI i e v, δ, st => if hasAt δ i = false then .stuck else (evalE G C v δ st).toO δ fun r => (evalE G C e δ r.2).toO δ fun q => match δ[i]? with
    | some (.own (.lst ds)) => match q.1 with
      | .int k => match ixn ds.length k with | some j => .nx (δ.set i (.own (.lst (ds.set j r.1)))) q.2 | none => .stuck
      | _ => .stuck
    | some (.val (.loc l)) => match q.2[l]? with
      | some (.lst ds) => match q.1 with
        | .int k => match ixn ds.length k with | some j => .nx δ (q.2.set l (.lst (ds.set j r.1))) | none => .stuck
        | _ => .stuck
      | _ => .stuck
    | _ => .stuck
  | .setD i e v, δ, st => if hasAt δ i = false then .stuck else (evalE G C v δ st).toO δ fun r => (evalE G C e δ r.2).toO δ fun q => match δ[i]? with
    | some (.own (.dct t kvs)) => match keyOf q.1 with
      | some key => if key.isT = t ∧ kvs.length < Lim then .nx (δ.set i (.own (.dct t (putK key r.1 kvs)))) q.2 else .stuck
      | none => .stuck
    | _ => .stuck
  | .aug i o e, δ, st => match δ[i]? with
    | some (.val (.int x)) => (evalE G C e δ st).toO δ fun r => match r.1 with
      | .int y => match binV o (.int x) (.int y) with | some d => .nx (δ.set i (.val d)) r.2 | none => .stuck
      | _ => .stuck
    | _ => .stuck
  | .augI i o e v, δ, st => match δ[i]? with
    | some (.own (.lst ds)) => (evalE G C e δ st).toO δ fun q => match q.1 with
      | .int k => match ixn ds.length k with
        | some j => match ds[j]? with
          | some (.int x) => (evalE G C v δ q.2).toO δ fun r => match r.1 with
            | .int y => match binV o (.int x) (.int y) with | some d => .nx (δ.set i (.own (.lst (ds.set j d)))) r.2 | none => .stuck
            | _ => .stuck
          | _ => .stuck
        | none => .stuck
      | _ => .stuck
    | _ => .stuck
  | .app i e, δ, st => match δ[i]? with
    | some (.own (.lst ds)) => (evalE G C e δ st).toO δ fun r => if ds.length < Lim then .nx (δ.set i (.own (.lst (ds ++ [r.1])))) r.2 else .stuck
    | some (.val (.loc l)) => match st[l]? with
      | some (.lst _) => (evalE G C e δ st).toO δ fun r => match r.2[l]? with
        | some (.lst ds) => if ds.length < Lim then .nx δ (r.2.set l (.lst (ds ++ [r.1]))) else .stuck
        | _ => .stuck
      | _ => .stuck
    | _ => .stuck
  | .expr e, δ, st => (evalE G C e δ st).toO δ fun r => .nx δ r.2
  | .if_ c a b, δ, st => (evalT G C c δ st).toO δ fun r => match r.1 with | true => execs a δ r.2 | false => execs b δ r.2
  | .while_ c b, δ, st => whileLoop (evalT G C c) (execs b) Lim δ st
  | .for_ t it b, δ, st => (evalI G C it δ st).toO δ fun r => forLoop (gdF r.1.2 fun x δ' st' => match t.bind x δ' with | some δ2 => execs b δ2 st' | none => .stuck) r.1.1 δ r.2
  | .ret e, δ, st => (evalE G C e δ st).toO δ fun r => .ret r.1 r.2
  | .retN, _, st => .ret .non st
  | .raise c es, δ, st => (evalEs G C es δ st).toO δ fun r => .exc c (excFs c r.1) δ r.2
  | .brk, δ, st => .brk δ st
  | .cnt, δ, st => .cnt δ st
  | .pass, δ, st => .nx δ st
  | .never, _, _ => .stuck
  | .tryc b hs, δ, st => match execs b δ st with
    | .exc c ds δ' st' => execH hs c ds δ' st'
    | o => o
  | .sdIf i k v w b, δ, st => match δ[i]? with
    | some (.own (.dct t kvs)) => (evalE G C k δ st).toO δ fun r => (evalE G C v δ r.2).toO δ fun q => match keyOf r.1 with
      | some key => if key.isT = t ∧ t = false ∧ kvs.length < Lim then
          (match lookK key kvs with
          | some d => (evalE G C w δ q.2).toO δ fun u => match cmpP .ne u.2 (.d d) (.d u.1) with
            | some true => execs b δ u.2
            | some false => .nx δ u.2
            | none => .stuck
          | none => (evalE G C w (δ.set i (.own (.dct t (putK key q.1 kvs)))) q.2).toO (δ.set i (.own (.dct t (putK key q.1 kvs)))) fun u => match cmpP .ne u.2 (.d q.1) (.d u.1) with
            | some true => execs b (δ.set i (.own (.dct t (putK key q.1 kvs)))) u.2
            | some false => .nx (δ.set i (.own (.dct t (putK key q.1 kvs)))) u.2
            | none => .stuck)
        else .stuck
      | none => .stuck
    | _ => .stuck
  | .insL i j e, δ, st => match δ[i]? with
    | some (.own (.lst ds)) => (evalE G C j δ st).toO δ fun q => (evalE G C e δ q.2).toO δ fun r => match q.1 with
      | .int k => if 0 ≤ k ∧ k < 1000000000 ∧ ds.length < Lim then .nx (δ.set i (.own (.lst (ds.take k.toNat ++ [r.1] ++ ds.drop k.toNat)))) r.2 else .stuck
      | _ => .stuck
    | some (.val (.loc l)) => match st[l]? with
      | some (.lst _) => (evalE G C j δ st).toO δ fun q => (evalE G C e δ q.2).toO δ fun r => match r.2[l]? with
        | some (.lst ds) => match q.1 with
          | .int k => if 0 ≤ k ∧ k < 1000000000 ∧ ds.length < Lim then .nx δ (r.2.set l (.lst (ds.take k.toNat ++ [r.1] ++ ds.drop k.toNat))) else .stuck
          | _ => .stuck
        | _ => .stuck
      | _ => .stuck
    | _ => .stuck
  | .popL i, δ, st => match δ[i]? with
    | some (.own (.lst ds)) => if ds = [] then .stuck else .nx (δ.set i (.own (.lst ds.dropLast))) st
    | some (.val (.loc l)) => match st[l]? with
      | some (.lst ds) => if ds = [] then .stuck else .nx δ (st.set l (.lst ds.dropLast))
      | _ => .stuck
    | _ => .stuck
  | .appE a e, δ, st => (evalE G C a δ st).toO δ fun q => match q.1 with
    | .loc l => match q.2[l]? with
      | some (.lst _) => (evalE G C e δ q.2).toO δ fun r => match r.2[l]? with
        | some (.lst ds) => if ds.length < Lim then .nx δ (r.2.set l (.lst (ds ++ [r.1]))) else .stuck
        | _ => .stuck
      | _ => .stuck
    | _ => .stuck
  | .iop i f c _ e, δ, st => match δ[i]? with
    | some (.val d) => (evalE G C e δ st).toO δ fun r => match insOf r.2 c (.d d) with
      | some _ => match G[f]? with
        | some F => (F [d, r.1] r.2).toO δ fun q => .nx (δ.set i (.val q.1)) q.2
        | none => .stuck
      | none => .stuck
    | _ => .stuck
def execs : Ss → Sls → Sto → O
  | .nil, δ, st => .nx δ st
  | .cons s ss, δ, st => (exec s δ st).seq fun δ' st' => execs ss δ' st'
def execH : Hs → Cl → List D → Sls → Sto → O
  | .nil, c, ds, δ, st => .exc c ds δ st
  | .cons c' ks i b hs, c, ds, δ, st => if c ∉ ks then .stuck else match catches c' c with
    | true => match i with
      | some j => match execs b ((δ.map Sl.unX).set j (.exo c ds)) st with
        | .nx δ' st' => .nx (δ'.set j .un) st'
        | .brk δ' st' => .brk (δ'.set j .un) st'
        | .cnt δ' st' => .cnt (δ'.set j .un) st'
        | .ret d st' => .ret d st'
        | _ => .stuck
      | none => match execs b (δ.map Sl.unX) st with
        | .exc .. => .stuck
        | o => o
    | false => execH hs c ds δ st
end

def env0 (n : Nat) (args : List D) : Sls := args.map .val ++ List.replicate (n - args.length) .un
def runFn (b : Ss) (n : Nat) (args : List D) (st : Sto) : R (D × Sto) :=
  match execs G C b (env0 n args) st with
  | .nx _ st' => .ok (.non, st')
  | .ret d st' => .ok (d, st')
  | .exc c ds _ st' => .exc c ds st'
  | _ => .stuck
def runNew (c : Cl) (b : Ss) (n : Nat) (args : List D) (st : Sto) : R (D × Sto) :=
  let fin (δ : Sls) (st' : Sto) : R (D × Sto) := match (δ[0]? : Option Sl) with | some (Sl.own (M.ins c' ds)) => if c' = c then .ok (.obj c ds, st') else .stuck | _ => .stuck
  match execs G C b (Sl.own (.ins c []) :: env0 (n - 1) args) st with
  | .nx δ st' => fin δ st'
  | .exc c ds _ st' => .exc c ds st'
  | _ => .stuck
def runNewL (c : Cl) (b : Ss) (n : Nat) (args : List D) (st : Sto) : R (D × Sto) :=
  let fin (δ : Sls) (st' : Sto) : R (D × Sto) := match (δ[0]? : Option Sl) with | some (Sl.own (M.ins c' ds)) => if c' = c then .ok (.loc st'.length, st' ++ [.ins c ds]) else .stuck | _ => .stuck
  match execs G C b (Sl.own (.ins c []) :: env0 (n - 1) args) st with
  | .nx δ st' => fin δ st'
  | .exc c ds _ st' => .exc c ds st'
  | _ => .stuck
end
end
end Qk

set_option linter.all false
set_option maxHeartbeats 1000000
namespace Qk
open PySem L2

structure Txc where
  cl : Cl → Addr
  flds : Cl → List Str
  ex : Option (Addr × Option Addr × Value) := none

structure Rt where
  a : Addr := 0
structure Wd where
  F : Hp
  ι : List Addr
  r : Rt := {}
def M.isIns : M → Bool
  | .ins .. => true
  | _ => false

def kyT : Ky → List Key
  | .i _ => []
  | .t ns => ns.map Sum.inl
def kyK : Ky → Key
  | .i n => Sum.inl n
  | .t _ => Sum.inl 0
def dcO : Bool → List Ky → List V → HO
  | true, ks, xs => .dT ((ks.map kyT).zip xs)
  | false, ks, xs => .dK ((ks.map kyK).zip xs)
section
variable (K : PySem.W.Frag) (T : Txc)
mutual
def Rep (w : Wd) : D → V → Prop
  | .non, v => v = .non
  | .bl b, v => v = .bl b
  | .int i, v => v = .int i
  | .str z, v => v = .str z
  | .byt b, v => v = .byt b
  | .tup ds, v => ∃ a xs, v = .ref a ∧ w.F a = some (.tup xs) ∧ Reps w ds xs
  | .ktup ds, v => ∃ a o xs, v = .ref a ∧ w.F a = some (.frz o (.tup xs)) ∧ o.dict = none ∧ Reps w ds xs
  | .lst ds, v => ∃ a xs, v = .ref a ∧ w.F a = some (.lst xs) ∧ Reps w ds xs
  | .scr ds, v => ∃ a xs, v = .ref a ∧ SqL K w.F a xs ∧ Reps w ds xs
  | .obj c ds, v => ∃ a dx xs, v = .ref a ∧ w.F a = some (.ins (T.cl c) dx ((T.flds c).zip xs)) ∧ ds.length ≤ (T.flds c).length ∧ Reps w ds xs
  | .loc l, v => ∃ a, v = .ref a ∧ w.ι[l]? = some a
  | .dct t ks ds, v => ∃ a xs, v = .ref a ∧ w.F a = some (dcO t ks xs) ∧ (∀ k ∈ ks, k.isT = t) ∧ ks.length = ds.length ∧ Reps w ds xs
def Reps (w : Wd) : List D → List V → Prop
  | [], [] => True
  | d :: ds, x :: xs => Rep w d x ∧ Reps w ds xs
  | _, _ => False
end

def Ky.ks : Ky → List Key
  | .i _ => []
  | .t ns => ns.map Sum.inl
def RepK (w : Wd) : List (Ky × D) → List (List Key × V) → Prop
  | [], [] => True
  | p :: ps, q :: qs => (∃ ns, p.1 = .t ns ∧ q.1 = ns.map Sum.inl) ∧ Rep K T w p.2 q.2 ∧ RepK w ps qs
  | _, _ => False
def RepJ (w : Wd) : List (Ky × D) → List (Key × V) → Prop
  | [], [] => True
  | p :: ps, q :: qs => (∃ n, p.1 = .i n ∧ q.1 = Sum.inl n) ∧ Rep K T w p.2 q.2 ∧ RepJ w ps qs
  | _, _ => False

def RepM (w : Wd) : M → HO → Prop
  | .lst ds, o => ∃ xs, o = .lst xs ∧ Reps K T w ds xs
  | .ins c ds, o => ∃ dx xs, o = .ins (T.cl c) dx ((T.flds c).zip xs) ∧ ds.length ≤ (T.flds c).length ∧ Reps K T w ds xs
  | .dct t kvs, o => (t = true ∧ ∃ q, o = .dT q ∧ RepK K T w kvs q) ∨ (t = false ∧ ∃ q, o = .dK q ∧ RepJ K T w kvs q)

def CellOk (w : Wd) (H : Hp) (a : Addr) (m : M) : Prop := w.F a = none ∧ ∃ o, H a = some o ∧ RepM K T w m o
structure StOk (w : Wd) (st : Sto) (H : Hp) : Prop where
  same : Same w.F H
  len : w.ι.length = st.length
  nd : w.ι.Nodup
  cell : ∀ (l : Nat) (m : M) (a : Addr), st[l]? = some m → w.ι[l]? = some a → CellOk K T w H a m
def ExoR (w : Wd) (x : Addr × Option Addr × Value) (c : Cl) (ds : List D) (o : Option (Option V)) : Prop :=
  o = some (some (.ref x.1)) ∧ x.2.2 = .ref (T.cl c) ∧ ((ds = [] ∧ x.2.1 = none) ∨ ∃ dd xs, x.2.1 = some dd ∧ w.F dd = some (.xd (((T.flds c).zip xs).reverse)) ∧ ds.length ≤ (T.flds c).length ∧ Reps K T w ds xs)
def SlR (B : Hp) (w : Wd) (H : Hp) : Sl → Option (Option V) → Prop
  | .un, _ => True
  | .val d, o => ∃ v, o = some (some v) ∧ Rep K T w d v
  | .own m, o => ∃ a, o = some (some (.ref a)) ∧ (B a = none ∧ (m.isIns = true → a = w.r.a)) ∧ a ∉ w.ι ∧ CellOk K T w H a m
  | .exo c ds, o => ∀ x, T.ex = some x → ExoR K T w x c ds o
structure World (B : Hp) (w : Wd) (δ : Sls) (st : Sto) (σ : St) (H : Hp) : Prop where
  st : StOk K T w st H
  len : σ.length = δ.length
  sl : ∀ (i : Nat) (x : Sl), δ[i]? = some x → SlR K T B w H x σ[i]?
  dis : ∀ (i j : Nat) (m m' : M) (a : Addr), δ[i]? = some (.own m) → δ[j]? = some (.own m') → σ[i]? = some (some (.ref a)) → σ[j]? = some (some (.ref a)) → i = j
structure Ext (w : Wd) (H : Hp) (w' : Wd) (H' : Hp) : Prop where
  same : Same w.F w'.F
  pre : ∀ (l : Nat) (a : Addr), w.ι[l]? = some a → w'.ι[l]? = some a
  old : ∀ a, H a ≠ none → w.F a = none → w'.F a = none
  keep : ∀ a o, H a = some o → a ∉ w.ι → H' a = some o
  there : ∀ a, H a ≠ none → H' a ≠ none
  new : ∀ a, a ∈ w'.ι → a ∈ w.ι ∨ H a = none
  rt : w'.r = w.r := by rfl
def ExR (w : Wd) (c : Cl) (ds : List D) (d : Option Addr) (H0 H : Hp) : Prop :=
  (ds = [] ∧ d = none) ∨ ∃ dx xs, H0 dx = none ∧ d = some dx ∧ H dx = some (.xd (((T.flds c).zip xs).reverse)) ∧ ds.length ≤ (T.flds c).length ∧ Reps K T w ds xs

variable {K T} {w w' w'' : Wd} {B H H' H'' : Hp} {δ : Sls} {σ : St} {st st' : Sto}
theorem Ext.refl : Ext w H w H := ⟨Same.refl _, fun _ _ h => h, fun _ _ h => h, fun _ _ h _ => h, fun _ h => h, fun _ h => .inl h, rfl⟩
theorem ExR.back {c : Cl} {ds : List D} {d : Option Addr} (h : ExR K T w'' c ds d H' H'') (e : Ext w H w' H') : ExR K T w'' c ds d H H'' :=
  h.imp id fun ⟨dx, xs, n, r⟩ => ⟨dx, xs, Classical.byContradiction fun z => e.there dx z n, r⟩
theorem Ext.trans (a : Ext w H w' H') (b : Ext w' H' w'' H'') : Ext w H w'' H'' where
  same := a.same.trans b.same
  pre := fun l x h => b.pre l x (a.pre l x h)
  old := fun x h e => b.old x (a.there x h) (a.old x h e)
  keep := fun x o h n => b.keep x o (a.keep x o h n) fun m => by
    rcases a.new x m with q | q
    · exact n q
    · rw [h] at q; cases q
  there := fun x h => b.there x (a.there x h)
  new := fun x h => by
    rcases b.new x h with q | q
    · exact a.new x q
    · refine .inr ?_
      cases e : H x with
      | none => rfl
      | some o => exact absurd q (a.there x (by rw [e]; simp))
  rt := b.rt.trans a.rt
structure Up (w w' : Wd) : Prop where
  same : Same w.F w'.F
  pre : ∀ (l : Nat) (a : Addr), w.ι[l]? = some a → w'.ι[l]? = some a
theorem Ext.up (e : Ext w H w' H') : Up w w' := ⟨e.same, e.pre⟩
theorem Up.refl : Up w w := ⟨Same.refl _, fun _ _ h => h⟩
mutual
theorem Rep.up (u : Up w w') : ∀ {d : D} {v : V}, Rep K T w d v → Rep K T w' d v
  | .non, _, h => h
  | .bl _, _, h => h
  | .int _, _, h => h
  | .str _, _, h => h
  | .byt _, _, h => h
  | .tup ds, _, ⟨a, xs, e, s, r⟩ => ⟨a, xs, e, u.same _ _ s, Reps.up u r⟩
  | .ktup ds, _, ⟨a, o, xs, e, s, n, r⟩ => ⟨a, o, xs, e, u.same _ _ s, n, Reps.up u r⟩
  | .lst ds, _, ⟨a, xs, e, s, r⟩ => ⟨a, xs, e, u.same _ _ s, Reps.up u r⟩
  | .scr ds, _, ⟨a, xs, e, s, r⟩ => ⟨a, xs, e, u.same.seq s, Reps.up u r⟩
  | .obj c ds, _, ⟨a, dx, xs, e, s, l, r⟩ => ⟨a, dx, xs, e, u.same _ _ s, l, Reps.up u r⟩
  | .loc _, _, ⟨a, e, s⟩ => ⟨a, e, u.pre _ _ s⟩
  | .dct _ _ ds, _, ⟨a, xs, e, s, k, l, r⟩ => ⟨a, xs, e, u.same _ _ s, k, l, Reps.up u r⟩
theorem Reps.up (u : Up w w') : ∀ {ds : List D} {xs : List V}, Reps K T w ds xs → Reps K T w' ds xs
  | [], [], _ => trivial
  | _ :: _, _ :: _, h => ⟨Rep.up u h.1, Reps.up u h.2⟩
  | [], _ :: _, h => h.elim
  | _ :: _, [], h => h.elim
end
theorem Reps.length : ∀ {ds : List D} {xs : List V}, Reps K T w ds xs → xs.length = ds.length
  | [], [], _ => rfl
  | _ :: _, _ :: _, h => by simp [Reps.length h.2]
  | [], _ :: _, h => h.elim
  | _ :: _, [], h => h.elim
theorem Reps.get : ∀ {ds : List D} {xs : List V} {i : Nat} {d : D}, Reps K T w ds xs → ds[i]? = some d → ∃ x, xs[i]? = some x ∧ Rep K T w d x
  | [], [], _, _, _, e => by simp at e
  | d :: _, x :: _, 0, _, h, e => by
    simp at e; subst e; exact ⟨x, rfl, h.1⟩
  | _ :: _, _ :: _, i + 1, _, h, e => by
    obtain ⟨x, e1, r⟩ := Reps.get (i := i) h.2 (by simpa using e)
    exact ⟨x, by simpa using e1, r⟩
  | [], _ :: _, _, _, h, _ => h.elim
  | _ :: _, [], _, _, h, _ => h.elim
theorem Reps.at : ∀ {ds : List D} {xs : List V} {i : Nat} {x : V}, Reps K T w ds xs → xs[i]? = some x → ∃ d, ds[i]? = some d ∧ Rep K T w d x
  | [], [], _, _, _, e => by simp at e
  | d :: _, x :: _, 0, _, h, e => by
    simp at e; subst e; exact ⟨d, rfl, h.1⟩
  | _ :: _, _ :: _, i + 1, _, h, e => by
    obtain ⟨x, e1, r⟩ := Reps.at (i := i) h.2 (by simpa using e)
    exact ⟨x, by simpa using e1, r⟩
  | [], _ :: _, _, _, h, _ => h.elim
  | _ :: _, [], _, _, h, _ => h.elim
theorem Reps.append : ∀ {ds es : List D} {xs ys : List V}, Reps K T w ds xs → Reps K T w es ys → Reps K T w (ds ++ es) (xs ++ ys)
  | [], _, [], _, _, r => r
  | _ :: _, _, _ :: _, _, h, r => ⟨h.1, Reps.append h.2 r⟩
  | [], _, _ :: _, _, h, _ => h.elim
  | _ :: _, _, [], _, h, _ => h.elim
theorem Reps.one {d : D} {x : V} (h : Rep K T w d x) : Reps K T w [d] [x] := ⟨h, trivial⟩
theorem Reps.set : ∀ {ds : List D} {xs : List V} (i : Nat) {d : D} {x : V}, Reps K T w ds xs → Rep K T w d x → Reps K T w (ds.set i d) (xs.set i x)
  | [], [], _, _, _, _, _ => trivial
  | _ :: _, _ :: _, 0, _, _, h, r => ⟨r, h.2⟩
  | _ :: _, _ :: _, i + 1, _, _, h, r => ⟨h.1, Reps.set i h.2 r⟩
  | [], _ :: _, _, _, _, h, _ => h.elim
  | _ :: _, [], _, _, _, h, _ => h.elim
theorem Reps.take : ∀ {ds : List D} {xs : List V} (n : Nat), Reps K T w ds xs → Reps K T w (ds.take n) (xs.take n)
  | _, _, 0, _ => by simp [Reps]
  | [], [], _ + 1, _ => trivial
  | _ :: _, _ :: _, n + 1, h => ⟨h.1, Reps.take n h.2⟩
  | [], _ :: _, _ + 1, h => h.elim
  | _ :: _, [], _ + 1, h => h.elim
theorem Reps.drop : ∀ {ds : List D} {xs : List V} (n : Nat), Reps K T w ds xs → Reps K T w (ds.drop n) (xs.drop n)
  | _, _, 0, h => h
  | [], [], _ + 1, _ => trivial
  | _ :: _, _ :: _, n + 1, h => Reps.drop n h.2
  | [], _ :: _, _ + 1, h => h.elim
  | _ :: _, [], _ + 1, h => h.elim
theorem Reps.reverse : ∀ {ds : List D} {xs : List V}, Reps K T w ds xs → Reps K T w ds.reverse xs.reverse
  | [], [], _ => trivial
  | _ :: _, _ :: _, h => by
    rw [List.reverse_cons, List.reverse_cons]
    exact Reps.append (Reps.reverse h.2) (Reps.one h.1)
  | [], _ :: _, h => h.elim
  | _ :: _, [], h => h.elim
theorem Reps.flat {ds : List D} {xs : List V} (h : Reps K T w ds xs) : ∀ n : Nat, Reps K T w ((List.replicate n ds).flatten) ((List.replicate n xs).flatten)
  | 0 => trivial
  | n + 1 => by
    rw [List.replicate_succ, List.replicate_succ, List.flatten_cons, List.flatten_cons]
    exact Reps.append h (Reps.flat h n)
theorem RepK.up (u : Up w w') : ∀ {p : List (Ky × D)} {q : List (List Key × V)}, RepK K T w p q → RepK K T w' p q
  | [], [], _ => trivial
  | _ :: _, _ :: _, h => ⟨h.1, h.2.1.up u, RepK.up u h.2.2⟩
  | [], _ :: _, h => h.elim
  | _ :: _, [], h => h.elim
theorem RepJ.up (u : Up w w') : ∀ {p : List (Ky × D)} {q : List (Key × V)}, RepJ K T w p q → RepJ K T w' p q
  | [], [], _ => trivial
  | _ :: _, _ :: _, h => ⟨h.1, h.2.1.up u, RepJ.up u h.2.2⟩
  | [], _ :: _, h => h.elim
  | _ :: _, [], h => h.elim
theorem _root_.L2.SqT.frz {a : Addr} {o : Obj} {xs : List V} (h : H a = some (.frz o (.tup xs))) : SqT K H a xs := .inl (.inr ⟨o, h⟩)
theorem repK_of : ∀ {ks : List Ky} {ds : List D} {xs : List V}, (∀ k ∈ ks, k.isT = true) → Reps K T w ds xs → RepK K T w (ks.zip ds) ((ks.map kyT).zip xs)
  | [], _, _, _, _ => by simp [RepK]
  | k :: ks, [], [], _, _ => by simp [RepK]
  | k :: ks, d :: ds, x :: xs, h, r => by
    have hk := h k List.mem_cons_self
    cases k with
    | i n => cases hk
    | t ns => exact ⟨⟨ns, rfl, rfl⟩, r.1, repK_of (fun k' hk' => h k' (List.mem_cons_of_mem _ hk')) r.2⟩
  | _ :: _, [], _ :: _, _, r => r.elim
  | _ :: _, _ :: _, [], _, r => r.elim
theorem repJ_of : ∀ {ks : List Ky} {ds : List D} {xs : List V}, (∀ k ∈ ks, k.isT = false) → Reps K T w ds xs → RepJ K T w (ks.zip ds) ((ks.map kyK).zip xs)
  | [], _, _, _, _ => by simp [RepJ]
  | k :: ks, [], [], _, _ => by simp [RepJ]
  | k :: ks, d :: ds, x :: xs, h, r => by
    have hk := h k List.mem_cons_self
    cases k with
    | t n => cases hk
    | i n => exact ⟨⟨n, rfl, rfl⟩, r.1, repJ_of (fun k' hk' => h k' (List.mem_cons_of_mem _ hk')) r.2⟩
  | _ :: _, [], _ :: _, _, r => r.elim
  | _ :: _, _ :: _, [], _, r => r.elim
theorem repK_to : ∀ {p : List (Ky × D)} {q : List (List Key × V)}, RepK K T w p q → (∀ k ∈ p.map (·.1), k.isT = true) ∧ ∃ xs, q = ((p.map (·.1)).map kyT).zip xs ∧ Reps K T w (p.map (·.2)) xs
  | [], [], _ => ⟨fun _ h => (by cases h), [], rfl, trivial⟩
  | p :: ps, q :: qs, ⟨⟨ns, e1, e2⟩, r, t⟩ => by
    obtain ⟨h, xs, e, rs⟩ := repK_to t
    obtain ⟨k, d⟩ := p
    obtain ⟨l, x⟩ := q
    dsimp only at e1 e2 r
    subst e1 e2
    refine ⟨fun k' hk' => ?_, x :: xs, by rw [e]; rfl, r, rs⟩
    rcases List.mem_cons.mp hk' with z | z
    · rw [z]; rfl
    · exact h k' z
  | [], _ :: _, h => h.elim
  | _ :: _, [], h => h.elim
theorem repJ_to : ∀ {p : List (Ky × D)} {q : List (Key × V)}, RepJ K T w p q → (∀ k ∈ p.map (·.1), k.isT = false) ∧ ∃ xs, q = ((p.map (·.1)).map kyK).zip xs ∧ Reps K T w (p.map (·.2)) xs
  | [], [], _ => ⟨fun _ h => (by cases h), [], rfl, trivial⟩
  | p :: ps, q :: qs, ⟨⟨ns, e1, e2⟩, r, t⟩ => by
    obtain ⟨h, xs, e, rs⟩ := repJ_to t
    obtain ⟨k, d⟩ := p
    obtain ⟨l, x⟩ := q
    dsimp only at e1 e2 r
    subst e1 e2
    refine ⟨fun k' hk' => ?_, x :: xs, by rw [e]; rfl, r, rs⟩
    rcases List.mem_cons.mp hk' with z | z
    · rw [z]; rfl
    · exact h k' z
  | [], _ :: _, h => h.elim
  | _ :: _, [], h => h.elim
theorem RepM.up (u : Up w w') : ∀ {m : M} {o : HO}, RepM K T w m o → RepM K T w' m o
  | .lst ds, _, ⟨xs, e, r⟩ => ⟨xs, e, Reps.up u r⟩
  | .ins c ds, _, ⟨dx, xs, e, l, r⟩ => ⟨dx, xs, e, l, Reps.up u r⟩
  | .dct t kvs, _, h => by
    rcases h with ⟨et, q, e, r⟩ | ⟨et, q, e, r⟩
    · exact .inl ⟨et, q, e, r.up u⟩
    · exact .inr ⟨et, q, e, r.up u⟩
theorem ExoR.up {x : Addr × Option Addr × Value} {c : Cl} {ds : List D} {o : Option (Option V)} (h : ExoR K T w x c ds o) (u : Up w w') : ExoR K T w' x c ds o := by
  obtain ⟨h1, h2, h3⟩ := h
  refine ⟨h1, h2, h3.imp id fun ⟨dd, xs, a, b, c, d⟩ => ⟨dd, xs, a, u.same _ _ b, c, d.up u⟩⟩
theorem CellOk.ext {a : Addr} {m : M} (e : Ext w H w' H') (n : a ∉ w.ι) (h : CellOk K T w H a m) : CellOk K T w' H' a m := by
  obtain ⟨f, o, ho, r⟩ := h
  exact ⟨e.old a (by rw [ho]; simp) f, o, e.keep a o ho n, r.up e.up⟩
theorem Ext.notin {a : Addr} (e : Ext w H w' H') (n : a ∉ w.ι) (h : H a ≠ none) : a ∉ w'.ι := fun m => by
  rcases e.new a m with q | q
  · exact n q
  · exact h q
theorem World.ext (W : World K T B w δ st σ H) (e : Ext w H w' H') (s : StOk K T w' st' H') : World K T B w' δ st' σ H' where
  st := s
  len := W.len
  sl := fun i x h => by
    have q := W.sl i x h
    cases x with
    | un => trivial
    | exo _ _ => exact fun x hx => (q x hx).up e.up
    | val d =>
      obtain ⟨v, h1, h2⟩ := q
      exact ⟨v, h1, h2.up e.up⟩
    | own m =>
      obtain ⟨a, h1, h2, h3, h4⟩ := q
      refine ⟨a, h1, ⟨h2.1, fun i => (h2.2 i).trans (congrArg Rt.a e.rt.symm)⟩, e.notin h3 ?_, h4.ext e h3⟩
      obtain ⟨_, o, ho, _⟩ := h4
      rw [ho]; simp
  dis := W.dis
theorem Ext.put {p : Addr} {o : HO} (sm : Same w.F H) (hp : H p = none) : Ext w H ⟨upd w.F p o, w.ι, w.r⟩ (upd H p o) where
  same := fun b u h => by
    show upd w.F p o b = some u
    rw [upd_ne (ne_of_none (sm b u h) hp)]; exact h
  pre := fun _ _ h => h
  old := fun a h f => by
    show upd w.F p o a = none
    rw [upd_ne (fun e => h (by rw [e]; exact hp))]; exact f
  keep := fun a u h _ => by rw [upd_ne (ne_of_none h hp)]; exact h
  there := fun a h => by
    by_cases e : a = p
    · rw [e, upd_same]; simp
    · rw [upd_ne e]; exact h
  new := fun a h => .inl h
end
end Qk

set_option linter.all false
set_option maxHeartbeats 1000000
set_option maxRecDepth 100000
namespace Qk
open PySem L2

section
variable {K : PySem.W.Frag} {T : Txc} {w w' : Wd} {B H H' : Hp} {δ : Sls} {σ : St} {st st' : Sto}
def RepP (K : PySem.W.Frag) (T : Txc) (w : Wd) (δ : Sls) (σ : St) : Pl → V → Prop
  | .d d, v => Rep K T w d v
  | .own m, v => ∃ (i : Nat) (a : Addr), δ[i]? = some (.own m) ∧ σ[i]? = some (some (.ref a)) ∧ v = .ref a
def RepPs (K : PySem.W.Frag) (T : Txc) (w : Wd) (δ : Sls) (σ : St) : List Pl → List V → Prop
  | [], [] => True
  | p :: ps, v :: vs => RepP K T w δ σ p v ∧ RepPs K T w δ σ ps vs
  | _, _ => False
theorem RepP.up (u : Up w w') : ∀ {p : Pl} {v : V}, RepP K T w δ σ p v → RepP K T w' δ σ p v
  | .d _, _, h => Rep.up u h
  | .own _, _, h => h
theorem World.ownAt (W : World K T B w δ st σ H) {i : Nat} {m : M} {a : Addr} (h : δ[i]? = some (.own m)) (e : σ[i]? = some (some (.ref a))) : (B a = none ∧ (m.isIns = true → a = w.r.a)) ∧ a ∉ w.ι ∧ CellOk K T w H a m := by
  obtain ⟨b, h1, h2⟩ := W.sl i _ h
  rw [e] at h1; cases h1
  exact h2
theorem World.locAt (W : World K T B w δ st σ H) {l : Nat} {m : M} {v : V} (h : st[l]? = some m) (r : Rep K T w (.loc l) v) : ∃ a, v = .ref a ∧ w.ι[l]? = some a ∧ CellOk K T w H a m := by
  obtain ⟨a, e, h1⟩ := r
  exact ⟨a, e, h1, W.st.cell l m a h h1⟩
theorem World.seqAt (W : World K T B w δ st σ H) : ∀ {p : Pl} {v : V} {ds : List D}, RepP K T w δ σ p v → seqOf st p = some ds →
    ∃ a xs, v = .ref a ∧ (SqL K H a xs ∨ SqT K H a xs) ∧ Reps K T w ds xs := by
  intro p v ds r h
  cases p with
  | d d =>
    cases d with
    | lst es =>
      cases h
      obtain ⟨a, xs, e, f, q⟩ := r
      exact ⟨a, xs, e, .inl (SqL.of (W.st.same _ _ f)), q⟩
    | scr es =>
      cases h
      obtain ⟨a, xs, e, f, q⟩ := r
      exact ⟨a, xs, e, .inl (W.st.same.seq f), q⟩
    | tup es =>
      cases h
      obtain ⟨a, xs, e, f, q⟩ := r
      exact ⟨a, xs, e, .inr (SqT.of (W.st.same _ _ f)), q⟩
    | ktup es =>
      cases h
      obtain ⟨a, o, xs, e, f, _, q⟩ := r
      exact ⟨a, xs, e, .inr (SqT.frz (W.st.same _ _ f)), q⟩
    | loc l =>
      simp only [seqOf] at h
      cases e : st[l]? with
      | none => rw [e] at h; cases h
      | some m =>
        rw [e] at h
        cases m with
        | lst es =>
          cases h
          obtain ⟨a, e1, _, _, o, ho, xs, rfl, q⟩ := W.locAt e r
          exact ⟨a, xs, e1, .inl (SqL.of ho), q⟩
        | dct _ _ => cases h
        | ins _ _ => cases h
    | _ => cases h
  | own m =>
    cases m with
    | lst es =>
      cases h
      obtain ⟨i, a, h1, h2, e⟩ := r
      obtain ⟨_, _, _, o, ho, xs, rfl, q⟩ := W.ownAt h1 h2
      exact ⟨a, xs, e, .inl (SqL.of ho), q⟩
    | dct _ _ => cases h
    | ins _ _ => cases h
theorem World.lstAt (W : World K T B w δ st σ H) : ∀ {p : Pl} {v : V} {ds : List D}, RepP K T w δ σ p v → lstOf st p = some ds →
    ∃ a xs, v = .ref a ∧ SqL K H a xs ∧ Reps K T w ds xs := by
  intro p v ds r h
  cases p with
  | d d =>
    cases d with
    | lst es =>
      cases h
      obtain ⟨a, xs, e, f, q⟩ := r
      exact ⟨a, xs, e, SqL.of (W.st.same _ _ f), q⟩
    | scr es =>
      cases h
      obtain ⟨a, xs, e, f, q⟩ := r
      exact ⟨a, xs, e, W.st.same.seq f, q⟩
    | loc l =>
      simp only [lstOf] at h
      cases e : st[l]? with
      | none => rw [e] at h; cases h
      | some m =>
        rw [e] at h
        cases m with
        | lst es =>
          cases h
          obtain ⟨a, e1, _, _, o, ho, xs, rfl, q⟩ := W.locAt e r
          exact ⟨a, xs, e1, SqL.of ho, q⟩
        | dct _ _ => cases h
        | ins _ _ => cases h
    | _ => cases h
  | own m =>
    cases m with
    | lst es =>
      cases h
      obtain ⟨i, a, h1, h2, e⟩ := r
      obtain ⟨_, _, _, o, ho, xs, rfl, q⟩ := W.ownAt h1 h2
      exact ⟨a, xs, e, SqL.of ho, q⟩
    | dct _ _ => cases h
    | ins _ _ => cases h
theorem World.tupAt (W : World K T B w δ st σ H) : ∀ {p : Pl} {v : V} {ds : List D}, RepP K T w δ σ p v → lstOf st p = none → seqOf st p = some ds →
    ∃ a xs, v = .ref a ∧ SqT K H a xs ∧ Reps K T w ds xs := by
  intro p v ds r hn h
  cases p with
  | d d =>
    cases d with
    | tup es =>
      cases h
      obtain ⟨a, xs, e, f, q⟩ := r
      exact ⟨a, xs, e, SqT.of (W.st.same _ _ f), q⟩
    | ktup es =>
      cases h
      obtain ⟨a, o, xs, e, f, _, q⟩ := r
      exact ⟨a, xs, e, SqT.frz (W.st.same _ _ f), q⟩
    | lst es => cases hn
    | scr es => cases hn
    | loc l =>
      simp only [seqOf] at h
      simp only [lstOf] at hn
      cases e : st[l]? with
      | none => rw [e] at h; cases h
      | some m =>
        rw [e] at h hn
        cases m with
        | lst es => cases hn
        | dct _ _ => cases h
        | ins _ _ => cases h
    | _ => cases h
  | own m =>
    cases m with
    | lst es => cases hn
    | dct _ _ => cases h
    | ins _ _ => cases h
theorem World.insAt (W : World K T B w δ st σ H) {c : Cl} : ∀ {p : Pl} {v : V} {ds : List D}, RepP K T w δ σ p v → insOf st c p = some ds →
    ∃ a dx xs, v = .ref a ∧ H a = some (.ins (T.cl c) dx ((T.flds c).zip xs)) ∧ ds.length ≤ (T.flds c).length ∧ Reps K T w ds xs := by
  intro p v ds r h
  cases p with
  | d d =>
    cases d with
    | obj c' es =>
      simp only [insOf] at h
      split at h
      · rename_i e
        subst e
        cases h
        obtain ⟨a, dx, xs, e, f, l, q⟩ := r
        exact ⟨a, dx, xs, e, W.st.same _ _ f, l, q⟩
      · cases h
    | loc l =>
      simp only [insOf] at h
      cases e : st[l]? with
      | none => rw [e] at h; cases h
      | some m =>
        rw [e] at h
        cases m with
        | lst _ => cases h
        | dct _ _ => cases h
        | ins c' es =>
          simp only at h
          split at h
          · rename_i e'
            subst e'
            cases h
            obtain ⟨a, e1, _, _, o, ho, dx, xs, rfl, l, q⟩ := W.locAt e r
            exact ⟨a, dx, xs, e1, ho, l, q⟩
          · cases h
    | _ => cases h
  | own m =>
    cases m with
    | lst _ => cases h
    | dct _ _ => cases h
    | ins c' es =>
      simp only [insOf] at h
      split at h
      · rename_i e
        subst e
        cases h
        obtain ⟨i, a, h1, h2, e⟩ := r
        obtain ⟨_, _, _, o, ho, dx, xs, rfl, l, q⟩ := W.ownAt h1 h2
        exact ⟨a, dx, xs, e, ho, l, q⟩
      · cases h

mutual
theorem Rep.dp (sm : Same w.F H) : ∀ {d : D} {n : Nat} {v : V}, d.shp n = true → Rep K T w d v → Dp K H v d.toP
  | .non, _, _, _, h => by cases h; exact .non
  | .bl b, _, _, _, h => by cases h; exact .bl b
  | .int i, _, _, _, h => by cases h; exact .int i
  | .str z, _, _, _, h => by cases h; exact .str z
  | .tup ds, 0, _, s, _ => by simp [D.shp] at s
  | .tup ds, n + 1, _, s, h => by
    obtain ⟨a, xs, e, f, r⟩ := h
    subst e
    simp only [D.shp] at s
    exact .tup (SqT.of (sm _ _ f)) (Reps.dp sm s r)
  | .ktup ds, 0, _, s, _ => by simp [D.shp] at s
  | .ktup ds, n + 1, _, s, h => by
    obtain ⟨a, o, xs, e, f, _, r⟩ := h
    subst e
    simp only [D.shp] at s
    exact .tup (SqT.frz (sm _ _ f)) (Reps.dp sm s r)
  | .lst ds, 0, _, s, _ => by simp [D.shp] at s
  | .lst ds, n + 1, _, s, h => by
    obtain ⟨a, xs, e, f, r⟩ := h
    subst e
    simp only [D.shp] at s
    exact .lst (SqL.of (sm _ _ f)) (Reps.dp sm s r)
  | .byt _, _, _, s, _ => by simp [D.shp] at s
  | .dct _ _ _, _, _, s, _ => by simp [D.shp] at s
  | .scr _, _, _, s, _ => by simp [D.shp] at s
  | .obj _ _, _, _, s, _ => by simp [D.shp] at s
  | .loc _, _, _, s, _ => by simp [D.shp] at s
theorem Reps.dp (sm : Same w.F H) : ∀ {ds : List D} {n : Nat} {xs : List V}, ds.all (D.shp n) = true → Reps K T w ds xs → DpAll K H xs (Ds.toP ds)
  | [], _, [], _, _ => .nil
  | d :: ds, n, x :: xs, s, h => by
    simp only [List.all_cons, Bool.and_eq_true] at s
    exact .cons (Rep.dp sm s.1 h.1) (Reps.dp sm s.2 h.2)
  | [], _, _ :: _, _, h => h.elim
  | _ :: _, _, [], _, h => h.elim
end
theorem Ds.toP_map : ∀ ds : List D, Ds.toP ds = ds.map D.toP
  | [] => rfl
  | d :: ds => by rw [List.map_cons, ← Ds.toP_map ds]; rfl
mutual
theorem shp_lay : ∀ {d : D} {n : Nat}, d.shp n = true → d.toP.canLay0 = true
  | .non, _, _ => rfl
  | .bl _, _, _ => rfl
  | .int _, _, _ => rfl
  | .str _, _, s => by simpa [D.shp, D.toP, PyData.canLay0] using s
  | .tup ds, 0, s => by simp [D.shp] at s
  | .tup ds, n + 1, s => by
    simp only [D.shp] at s
    simp only [D.toP, PyData.canLay0]
    exact shp_lays s
  | .ktup ds, 0, s => by simp [D.shp] at s
  | .ktup ds, n + 1, s => by
    simp only [D.shp] at s
    simp only [D.toP, PyData.canLay0]
    exact shp_lays s
  | .lst ds, 0, s => by simp [D.shp] at s
  | .lst ds, n + 1, s => by
    simp only [D.shp] at s
    simp only [D.toP, PyData.canLay0]
    exact shp_lays s
  | .byt _, _, _ => rfl
  | .dct _ _ _, _, _ => rfl
  | .scr _, _, _ => rfl
  | .obj _ _, _, _ => rfl
  | .loc _, _, _ => rfl
theorem shp_lays : ∀ {ds : List D} {n : Nat}, ds.all (D.shp n) = true → PyData.canLayAll0 (Ds.toP ds) = true
  | [], _, _ => rfl
  | d :: ds, n, s => by
    simp only [List.all_cons, Bool.and_eq_true] at s
    simp only [Ds.toP, PyData.canLayAll0, Bool.and_eq_true]
    exact ⟨shp_lay s.1, shp_lays s.2⟩
end
mutual
theorem shp_depth : ∀ {d : D} {n : Nat}, d.shp n = true → d.toP.depth ≤ n + 1
  | .non, _, _ => by simp [D.toP, PyData.depth]
  | .bl _, _, _ => by simp [D.toP, PyData.depth]
  | .int _, _, _ => by simp [D.toP, PyData.depth]
  | .str _, _, _ => by simp [D.toP, PyData.depth]
  | .tup ds, 0, s => by simp [D.shp] at s
  | .tup ds, n + 1, s => by
    simp only [D.shp] at s
    have := shp_depths s
    simp only [D.toP, PyData.depth]
    omega
  | .ktup ds, 0, s => by simp [D.shp] at s
  | .ktup ds, n + 1, s => by
    simp only [D.shp] at s
    have := shp_depths s
    simp only [D.toP, PyData.depth]
    omega
  | .lst ds, 0, s => by simp [D.shp] at s
  | .lst ds, n + 1, s => by
    simp only [D.shp] at s
    have := shp_depths s
    simp only [D.toP, PyData.depth]
    omega
  | .byt _, _, _ => by simp [D.toP, PyData.depth]
  | .dct _ _ _, _, _ => by simp [D.toP, PyData.depth]
  | .scr _, _, _ => by simp [D.toP, PyData.depth]
  | .obj _ _, _, _ => by simp [D.toP, PyData.depth]
  | .loc _, _, _ => by simp [D.toP, PyData.depth]
theorem shp_depths : ∀ {ds : List D} {n : Nat}, ds.all (D.shp n) = true → PyData.depthAll (Ds.toP ds) ≤ n + 1
  | [], _, _ => by simp [Ds.toP, PyData.depthAll]
  | d :: ds, n, s => by
    simp only [List.all_cons, Bool.and_eq_true] at s
    have h1 := shp_depth s.1
    have h2 := shp_depths s.2
    simp only [Ds.toP, PyData.depthAll]
    omega
end
theorem shp_shaped {d : D} {n : Nat} (hn : n ≤ 9) (s : d.shp n = true) : SeqAt.shaped d.toP = true := by
  unfold SeqAt.shaped
  have := shp_depth s
  rw [shp_lay s, Bool.true_and]
  exact decide_eq_true (by omega)
theorem World.datAt (W : World K T B w δ st σ H) {p : Pl} {v : V} {d : D} {n : Nat} (r : RepP K T w δ σ p v) (h : datOf st p = some d) (s : d.shp (n + 1) = true) : Dp K H v d.toP := by
  have fromL : ∀ {es : List D} {a : Addr} {xs : List V}, D.shp (n + 1) (.lst es) = true → v = .ref a → SqL K H a xs → Reps K T w es xs → Dp K H v (D.toP (.lst es)) := fun {es a xs} s e q r2 => by
    rw [e]
    simp only [D.shp] at s
    exact .lst q (Reps.dp W.st.same s r2)
  cases p with
  | d d' =>
    cases d' with
    | loc l =>
      simp only [datOf] at h
      cases e : st[l]? with
      | none => rw [e] at h; cases h
      | some m =>
        rw [e] at h
        cases m with
        | lst es =>
          cases h
          obtain ⟨a, e1, _, _, o, ho, xs, rfl, q⟩ := W.locAt e r
          exact fromL s e1 (SqL.of ho) q
        | dct _ _ => cases h
        | ins _ _ => cases h
    | _ => cases h; exact Rep.dp (T := T) W.st.same s r
  | own m =>
    cases m with
    | lst es =>
      cases h
      obtain ⟨i, a, h1, h2, e⟩ := r
      obtain ⟨_, _, _, o, ho, xs, rfl, q⟩ := W.ownAt h1 h2
      exact fromL s e (SqL.of ho) q
    | dct _ _ => cases h
    | ins _ _ => cases h
end
end Qk

set_option linter.all false
set_option maxHeartbeats 2000000
set_option maxRecDepth 100000
namespace Qk
open PySem L2

section
variable {K : PySem.W.Frag} {T : Txc} {w w' w'' : Wd} {B H H' : Hp} {δ : Sls} {σ : St} {st st' : Sto}
abbrev Wd.put (w : Wd) (p : Addr) (o : HO) : Wd := ⟨upd w.F p o, w.ι, w.r⟩
theorem Up.put {p : Addr} {o : HO} (n : w.F p = none) : Up w (w.put p o) := ⟨fun b q e => (upd_ne (ne_of_none e n)).trans e, fun _ _ x => x⟩
theorem freeF (sm : Same w.F H) {p : Addr} (h : H p = none) : w.F p = none := sm.free h
theorem World.freeze {p : Addr} {o : HO} (W : World K T B w δ st σ H) (hp : H p = some o) (fp : w.F p = none) (np : p ∉ w.ι) (ns : ∀ (i : Nat) m, δ[i]? = some (.own m) → σ[i]? ≠ some (some (.ref p))) :
    World K T B (w.put p o) δ st σ H := by
  have cell : ∀ {a : Addr} {m : M}, a ≠ p → CellOk K T w H a m → CellOk K T (w.put p o) H a m := fun {a m} ne ⟨f, u, hu, r⟩ => ⟨(upd_ne ne).trans f, u, hu, r.up (Up.put fp)⟩
  refine ⟨⟨fun b u e => ?_, W.st.len, W.st.nd, fun l m a h1 h2 => cell (fun e => np (e ▸ List.mem_of_getElem? h2)) (W.st.cell l m a h1 h2)⟩, W.len, fun i x h => ?_, W.dis⟩
  · have e' : upd w.F p o b = some u := e
    by_cases hb : b = p
    · subst hb
      rw [upd_same] at e'
      cases e'
      exact hp
    · rw [upd_ne hb] at e'
      exact W.st.same b u e'
  · have q := W.sl i x h
    cases x with
    | un => trivial
    | exo _ _ => exact fun x hx => (q x hx).up (Up.put fp)
    | val d =>
      obtain ⟨v, h1, h2⟩ := q
      exact ⟨v, h1, h2.up (Up.put fp)⟩
    | own m =>
      obtain ⟨a, h1, h2, h3, h4⟩ := q
      exact ⟨a, h1, h2, h3, cell (fun e => ns i m h (by rw [h1, e])) h4⟩
theorem World.grow {p : Addr} {o : HO} (W : World K T B w δ st σ H) (hp : H p = none) : World K T B w δ st σ (upd H p o) := by
  have cell : ∀ {a : Addr} {m : M}, CellOk K T w H a m → CellOk K T w (upd H p o) a m := fun {a m} ⟨f, u, hu, r⟩ => ⟨f, u, (upd_ne (ne_of_none hu hp)).trans hu, r⟩
  refine ⟨⟨fun b u e => (upd_ne (ne_of_none (W.st.same b u e) hp)).trans (W.st.same b u e), W.st.len, W.st.nd, fun l m a h1 h2 => cell (W.st.cell l m a h1 h2)⟩, W.len, fun i x h => ?_, W.dis⟩
  have q := W.sl i x h
  cases x with
  | un => trivial
  | exo _ _ => exact q
  | val d => exact q
  | own m =>
    obtain ⟨a, h1, h2, h3, h4⟩ := q
    exact ⟨a, h1, h2, h3, cell h4⟩
theorem Ext.grow {p : Addr} {o : HO} (hp : H p = none) : Ext w H w (upd H p o) where
  same := Same.refl _
  pre := fun _ _ h => h
  old := fun _ _ f => f
  keep := fun a u h _ => (upd_ne (ne_of_none h hp)).trans h
  there := fun a h => by
    by_cases e : a = p
    · rw [e, upd_same]; simp
    · rw [upd_ne e]; exact h
  new := fun _ h => .inl h
theorem Ext.frz {p : Addr} {o : HO} (e : Ext w H w' H') (hp : H p = none) (fp : w'.F p = none) : Ext w H (w'.put p o) H' where
  same := e.same.trans (Up.put fp).same
  pre := e.pre
  old := fun a h f => (upd_ne (fun q => h (by rw [q]; exact hp))).trans (e.old a h f)
  keep := e.keep
  there := e.there
  new := e.new
  rt := e.rt
structure New (K : PySem.W.Frag) (T : Txc) (w : Wd) (H : Hp) (δ : Sls) (σ : St) (w' : Wd) (H' : Hp) (a : Addr) (m : M) : Prop where
  fresh : H a = none
  noι : a ∉ w'.ι
  nosl : ∀ (i : Nat) m', δ[i]? = some (.own m') → σ[i]? ≠ some (some (.ref a))
  cell : CellOk K T w' H' a m
theorem World.noOwn (W : World K T B w δ st σ H) {a : Addr} (h : H a = none) (i : Nat) (m' : M) (e : δ[i]? = some (.own m')) : σ[i]? ≠ some (some (.ref a)) := fun q => by
  obtain ⟨_, _, _, o, ho, _⟩ := W.ownAt e q
  rw [h] at ho; cases ho
theorem World.noIota (W : World K T B w δ st σ H) {a : Addr} (h : H a = none) : a ∉ w.ι := fun m => by
  obtain ⟨l, hl, e⟩ := List.getElem_of_mem m
  have h2 : w.ι[l]? = some a := by rw [List.getElem?_eq_getElem hl, e]
  have h3 : l < st.length := by rw [← W.st.len]; exact hl
  obtain ⟨_, o, ho, _⟩ := W.st.cell l st[l] a (by rw [List.getElem?_eq_getElem h3]) h2
  rw [h] at ho; cases ho

def Aft (K : PySem.W.Frag) (T : Txc) (W : WX) (B : Hp) (δ : Sls) (σ : St) (w : Wd) (H : Hp) {α : Type} (r : R (α × Sto)) (Q : Wd → Hp → α → Prop) : Prop :=
  match r with
  | .ok (a, st') => ∀ w' H', Ext w H w' H' → World K T B w' δ st' σ H' → Q w' H' a
  | .exc c es st' => ∀ w' H' dx, Ext w H w' H' → World K T B w' δ st' σ H' → ExR K T w' c es dx H H' → W (.ref (T.cl c)) dx σ H'
  | .stuck => False
theorem Aft.from {W : WX} {α : Type} {r : R (α × Sto)} {Q : Wd → Hp → α → Prop} (e : Ext w H w' H') (h : Aft K T W B δ σ w H r Q) : Aft K T W B δ σ w' H' r Q := by
  cases r with
  | ok a => exact fun w2 H2 e2 W2 => h w2 H2 (e.trans e2) W2
  | exc c es st' => exact fun w2 H2 dx e2 W2 x => h w2 H2 dx (e.trans e2) W2 (x.back e)
  | stuck => exact h
theorem Aft.imp {W : WX} {α : Type} {r : R (α × Sto)} {Q Q' : Wd → Hp → α → Prop} (h : Aft K T W B δ σ w H r Q) (k : ∀ a st' w' H', r = .ok (a, st') → Ext w H w' H' → World K T B w' δ st' σ H' → Q w' H' a → Q' w' H' a) : Aft K T W B δ σ w H r Q' := by
  cases r with
  | ok a => exact fun w2 H2 e2 W2 => k a.1 a.2 w2 H2 rfl e2 W2 (h w2 H2 e2 W2)
  | exc c es st' => exact h
  | stuck => exact h
theorem Aft.bind {W : WX} {α β : Type} {r : R (α × Sto)} {f : α × Sto → R (β × Sto)} {Q : Wd → Hp → β → Prop} {Q' : Wd → Hp → α → Prop} (h : Aft K T W B δ σ w H (r.bind f) Q)
    (k : ∀ a st' w' H', Ext w H w' H' → World K T B w' δ st' σ H' → Aft K T W B δ σ w' H' (f (a, st')) Q → Q' w' H' a) : Aft K T W B δ σ w H r Q' := by
  cases r with
  | ok a => exact fun w2 H2 e2 W2 => k a.1 a.2 w2 H2 e2 W2 (Aft.from e2 h)
  | exc c es st' => exact h
  | stuck => exact h
theorem Aft.bindE {W : WX} {α β : Type} {r : R (α × Sto)} {f : α × Sto → R (β × Sto)} {Q : Wd → Hp → β → Prop} {Q' : Wd → Hp → α → Prop} (h : Aft K T W B δ σ w H (r.bind f) Q)
    (k : ∀ a st' w' H', r = .ok (a, st') → Ext w H w' H' → World K T B w' δ st' σ H' → Aft K T W B δ σ w' H' (f (a, st')) Q → Q' w' H' a) : Aft K T W B δ σ w H r Q' := by
  cases r with
  | ok a => exact fun w2 H2 e2 W2 => k a.1 a.2 w2 H2 rfl e2 W2 (Aft.from e2 h)
  | exc c es st' => exact h
  | stuck => exact h
theorem Aft.ok {W : WX} {α : Type} {a : α} {Q : Wd → Hp → α → Prop} (Wl : World K T B w δ st σ H) (h : Aft K T W B δ σ w H (.ok (a, st)) Q) : Q w H a := h w H Ext.refl Wl
end

section
variable (K : PySem.W.Frag) (T : Txc) (G : List Fn) (C : List Int) (W : WX)
def tE (e : E) : TE := fun σ H Q => ∃ B w δ st, World K T B w δ st σ H ∧ Aft K T W B δ σ w H (evalE G C e δ st) fun w' H' d => ∀ v, Rep K T w' d v → Q v H'
def tN (e : E) : TE := fun σ H Q => ∃ B w δ st, World K T B w δ st σ H ∧ Aft K T W B δ σ w H (evalE G C e δ st) fun w' H' d => match d with
  | .lst ds => ∀ a, New K T w H δ σ w' H' a (.lst ds) → Q (.ref a) H'
  | d => ∀ v, Rep K T w' d v → Q v H'
def tP (e : E) : TE := fun σ H Q => ∃ B w δ st, World K T B w δ st σ H ∧ Aft K T W B δ σ w H (evalP G C e δ st) fun w' H' p => ∀ v, RepP K T w' δ σ p v → Q v H'
def tB (e : E) : TT := fun σ H Q => ∃ B w δ st, World K T B w δ st σ H ∧ Aft K T W B δ σ w H (evalT G C e δ st) fun w' H' b => Q b H'
def tBs (e : Es) : TT := fun σ H Q => ∃ B w δ st, World K T B w δ st σ H ∧ Aft K T W B δ σ w H (evalTs G C e δ st) fun w' H' b => Q b H'
def tAs (e : Es) : TA := fun σ H Q => ∃ B w δ st, World K T B w δ st σ H ∧ Aft K T W B δ σ w H (evalEs G C e δ st) fun w' H' ds => ∀ vs, Reps K T w' ds vs → Q vs H'
def tPs (e : Es) : TA := fun σ H Q => ∃ B w δ st, World K T B w δ st σ H ∧ Aft K T W B δ σ w H (evalPs G C e δ st) fun w' H' ps => ∀ vs, RepPs K T w' δ σ ps vs → Q vs H'
def tOp (e : Eo) : TO := fun σ H Q => ∃ B w δ st, World K T B w δ st σ H ∧ Aft K T W B δ σ w H (evalO G C e δ st) fun w' H' o => Q o H'
end
theorem _root_.L2.PE.to {X : Cx} {e : Expr} {t t' : TE} (h : PE X e t) (k : ∀ σ H Q, t' σ H Q → t σ H Q) : PE X e t' := ⟨fun pins s σ H Q I x => h.run pins s σ H Q I (k σ H Q x)⟩
theorem _root_.L2.PT.to {X : Cx} {e : Expr} {t t' : TT} (h : PT X e t) (k : ∀ σ H Q, t' σ H Q → t σ H Q) : PT X e t' := ⟨fun pins s σ H Q I x => h.run pins s σ H Q I (k σ H Q x)⟩
theorem _root_.L2.PW.to {X : Cx} {e : Expr} {t t' : TT} (h : PW X e t) (k : ∀ σ H Q, t' σ H Q → t σ H Q) : PW X e t' := ⟨fun wh pins s σ H Q I x => h.run wh pins s σ H Q I (k σ H Q x)⟩
theorem _root_.L2.PA.to {X : Cx} {e : List Expr} {t t' : TA} (h : PA X e t) (k : ∀ σ H Q, t' σ H Q → t σ H Q) : PA X e t' := ⟨fun p pins s σ H Q I x => h.run p pins s σ H Q I (k σ H Q x)⟩
theorem _root_.L2.PO.to {X : Cx} {e : Option Expr} {t t' : TO} (h : PO X e t) (k : ∀ σ H Q, t' σ H Q → t σ H Q) : PO X e t' := ⟨fun pins s σ H Q I x => h.run pins s σ H Q I (k σ H Q x)⟩
theorem _root_.L2.PTs.to {X : Cx} {e : List Expr} {t t' : TT} (h : PTs X e t) (k : ∀ σ H Q, t' σ H Q → t σ H Q) : PTs X e t' := ⟨fun pins s σ H Q I x => h.run pins s σ H Q I (k σ H Q x)⟩
theorem _root_.L2.PS.to {X : Cx} {e : Stmt} {t t' : TS} (h : PS X e t) (k : ∀ D σ H, t' D σ H → t D σ H) : PS X e t' := ⟨fun pins s σ H D I x => h.run pins s σ H D I (k D σ H x)⟩
theorem _root_.L2.PSs.to {X : Cx} {e : List Stmt} {t t' : TS} (h : PSs X e t) (k : ∀ D σ H, t' D σ H → t D σ H) : PSs X e t' := ⟨fun pins s σ H D I x => h.run pins s σ H D I (k D σ H x)⟩
theorem _root_.L2.PI.to {X : Cx} {tg e : Expr} {t t' : TI} (h : PI X tg e t) (k : ∀ σ H Q, t' σ H Q → t σ H Q) : PI X tg e t' := ⟨fun pins s σ H R I x => h.run pins s σ H R I (k σ H R x)⟩

section
variable {K : PySem.W.Frag} {T : Txc} {G : List Fn} {C : List Int} {W : WX} {X : Cx}
theorem tE_tN {e : E} {σ : St} {H : Hp} {Q : VK} (h : tE K T G C W e σ H Q) : tN K T G C W e σ H Q := by
  obtain ⟨B, w, δ, st, Wl, h⟩ := h
  refine ⟨B, w, δ, st, Wl, ?_⟩
  cases er : evalE G C e δ st with
  | stuck => rw [er] at h; exact h
  | exc c es st' => rw [er] at h; exact h
  | ok q =>
    obtain ⟨d, st'⟩ := q
    rw [er] at h
    intro w' H' ex Wl'
    cases d with
    | lst ds =>
      intro a nw
      obtain ⟨fa, o, ho, xs, eo, r⟩ := nw.cell
      subst eo
      exact h (w'.put a (.lst xs)) H' (ex.frz nw.fresh fa) (Wl'.freeze ho fa nw.noι nw.nosl) (.ref a) ⟨a, xs, rfl, upd_same, r.up (Up.put fa)⟩
    | _ => exact h w' H' ex Wl'
theorem SN.se {e : Expr} {e' : E} (h : PE X e (tN K T G C W e')) : PE X e (tE K T G C W e') := h.to fun _ _ _ => tE_tN

theorem se_v {i : Nat} {x : Str} {pos : Pos} (hN : X.N[i]? = some x) (hv : Vis X.env.scope x) (hd : (x == ("__debug__" : Str)) = false) (hc : (x == ("__classdict__" : Str)) = false) : PE X (.Name x pos) (tE K T G C W (.v i)) := by
  refine (pe_var hN hv hd hc).to fun σ H Q ⟨B, w, δ, st, Wl, h⟩ => ?_
  simp only [evalE] at h
  split at h
  · rename_i d e
    obtain ⟨v, e1, r⟩ := Wl.sl i _ e
    exact ⟨v, e1, (h w H Ext.refl Wl) v r⟩
  · exact h.elim
theorem sp_v {i : Nat} {x : Str} {pos : Pos} (hN : X.N[i]? = some x) (hv : Vis X.env.scope x) (hd : (x == ("__debug__" : Str)) = false) (hc : (x == ("__classdict__" : Str)) = false) : PE X (.Name x pos) (tP K T G C W (.v i)) := by
  refine (pe_var hN hv hd hc).to fun σ H Q ⟨B, w, δ, st, Wl, h⟩ => ?_
  simp only [evalP] at h
  split at h
  · rename_i d e
    obtain ⟨v, e1, r⟩ := Wl.sl i _ e
    exact ⟨v, e1, (h w H Ext.refl Wl) v r⟩
  · rename_i m e
    obtain ⟨a, e1, r⟩ := Wl.sl i _ e
    exact ⟨.ref a, e1, (h w H Ext.refl Wl) _ ⟨i, a, e, e1, rfl⟩⟩
  · exact h.elim
theorem se_c {e : Expr} {d : D} {v : V} (h : PE X e (tC v)) (r : ∀ w, Rep K T w d v) : PE X e (tE K T G C W (.c d)) := by
  refine h.to fun σ H Q ⟨B, w, δ, st, Wl, h⟩ => ?_
  simp only [evalE] at h
  exact (h w H Ext.refl Wl) v (r w)
theorem se_g {e : Expr} {k : Nat} {n : Int} (h : PE X e (tC (.int n))) (hk : C[k]? = some n) : PE X e (tE K T G C W (.g k)) := by
  refine h.to fun σ H Q ⟨B, w, δ, st, Wl, h⟩ => ?_
  simp only [evalE, hk] at h
  exact (h w H Ext.refl Wl) _ rfl

theorem as_nil : PA X [] (tAs K T G C W .nil) := by
  refine pa_nil.to fun σ H Q ⟨B, w, δ, st, Wl, h⟩ => ?_
  simp only [evalEs] at h
  exact (h w H Ext.refl Wl) [] trivial
theorem as_cons {e : Expr} {es : List Expr} {e' : E} {es' : Es} (he : PE X e (tE K T G C W e')) (hs : PA X es (tAs K T G C W es')) (hst : starEach (e :: es) X.env = (false, eval e X.env) :: starEach es X.env) : PA X (e :: es) (tAs K T G C W (.cons e' es')) := by
  refine (pa_cons he hs hst).to fun σ H Q ⟨B, w, δ, st, Wl, h⟩ => ?_
  simp only [evalEs] at h
  refine ⟨B, w, δ, st, Wl, h.bind fun d st1 w1 H1 ex W1 h1 v rv => ?_⟩
  refine ⟨B, w1, δ, st1, W1, h1.bind fun ds st2 w2 H2 ex2 W2 h2 vs rs => ?_⟩
  exact h2.ok W2 (v :: vs) ⟨rv.up ex2.up, rs⟩
theorem ps_nil : PA X [] (tPs K T G C W .nil) := by
  refine pa_nil.to fun σ H Q ⟨B, w, δ, st, Wl, h⟩ => ?_
  simp only [evalPs] at h
  exact (h w H Ext.refl Wl) [] trivial
theorem ps_consP {e : Expr} {es : List Expr} {e' : E} {es' : Es} (he : PE X e (tP K T G C W e')) (hs : PA X es (tPs K T G C W es')) (hst : starEach (e :: es) X.env = (false, eval e X.env) :: starEach es X.env) : PA X (e :: es) (tPs K T G C W (.cons e' es')) := by
  refine (pa_cons he hs hst).to fun σ H Q ⟨B, w, δ, st, Wl, h⟩ => ?_
  simp only [evalPs] at h
  refine ⟨B, w, δ, st, Wl, h.bind fun d st1 w1 H1 ex W1 h1 v rv => ?_⟩
  refine ⟨B, w1, δ, st1, W1, h1.bind fun ds st2 w2 H2 ex2 W2 h2 vs rs => ?_⟩
  exact h2.ok W2 (v :: vs) ⟨rv.up ex2.up, rs⟩

theorem Reps.small {w : Wd} {ds : List D} {xs : List V} {n : Nat} (r : Reps K T w ds xs) (h : ds.length ≤ n) (hn : n ≤ 1000000) : xs.length ≤ sizeLine := by
  rw [r.length, sizeLine_eq]; omega
theorem new_list {B : Hp} {w : Wd} {δ : Sls} {st : Sto} {σ : St} {H0 : Hp} {w0 : Wd} {H : Hp} {ds : List D} {xs : List V} {p : Addr} (e0 : Ext w0 H0 w H) (Wl : World K T B w δ st σ H) (hp : H p = none) (h0 : H0 p = none) (r : Reps K T w ds xs) :
    Ext w0 H0 w (upd H p (.lst xs)) ∧ World K T B w δ st σ (upd H p (.lst xs)) ∧ New K T w0 H0 δ σ w (upd H p (.lst xs)) p (.lst ds) :=
  ⟨e0.trans (Ext.grow hp), Wl.grow hp, ⟨h0, Wl.noIota hp, fun i m e => Wl.noOwn hp i m e, freeF Wl.st.same hp, _, upd_same, xs, rfl, r⟩⟩
theorem back_none {w w' : Wd} {H H' : Hp} {p : Addr} (e : Ext w H w' H') (h : H' p = none) : H p = none := by
  cases q : H p with
  | none => rfl
  | some o => exact absurd h (e.there p (by rw [q]; simp))
theorem new_tup {B : Hp} {w : Wd} {δ : Sls} {st : Sto} {σ : St} {H : Hp} {ds : List D} {xs : List V} {p : Addr} (Wl : World K T B w δ st σ H) (hp : H p = none) (r : Reps K T w ds xs) :
    Ext w H (w.put p (.tup xs)) (upd H p (.tup xs)) ∧ World K T B (w.put p (.tup xs)) δ st σ (upd H p (.tup xs)) ∧ Rep K T (w.put p (.tup xs)) (.tup ds) (.ref p) := by
  have fp := freeF Wl.st.same hp
  refine ⟨(Ext.grow hp).frz hp fp, (Wl.grow hp).freeze upd_same fp (Wl.noIota hp) (fun i m e => Wl.noOwn hp i m e), p, xs, rfl, upd_same, r.up (Up.put fp)⟩
def Es.len : Es → Nat
  | .nil => 0
  | .cons _ es => es.len + 1
theorem evalEs_len : ∀ {es : Es} {δ : Sls} {st : Sto} {ds : List D} {st' : Sto}, evalEs G C es δ st = .ok (ds, st') → ds.length = es.len
  | .nil, _, _, _, _, h => by
    simp only [evalEs] at h
    cases h
    rfl
  | .cons e es, δ, st, ds, st', h => by
    simp only [evalEs] at h
    cases h1 : evalE G C e δ st with
    | stuck => rw [h1] at h; cases h
    | exc c u s => rw [h1] at h; cases h
    | ok r =>
      rw [h1] at h
      simp only [R.bind] at h
      cases h2 : evalEs G C es δ r.2 with
      | stuck => rw [h2] at h; cases h
      | exc c u s => rw [h2] at h; cases h
      | ok q =>
        rw [h2] at h
        cases h
        have := evalEs_len (es := es) (ds := q.1) (st' := q.2) h2
        simp [Es.len, this]
theorem as_then {B : Hp} {w : Wd} {δ : Sls} {st : Sto} {σ : St} {H : Hp} {es' : Es} {Q : List V → Hp → Prop} (Wl : World K T B w δ st σ H)
    (h : Aft K T W B δ σ w H (evalEs G C es' δ st) fun w' H' ds => ds.length = es'.len → ∀ vs, Reps K T w' ds vs → Q vs H') : tAs K T G C W es' σ H Q := by
  refine ⟨B, w, δ, st, Wl, h.imp fun ds st' w' H' e _ _ k vs r => k (evalEs_len e) vs r⟩
theorem se_tup {es : List Expr} {es' : Es} {k : Nat} {pos : Pos} (h : PA X es (tAs K T G C W es')) (hl : es'.len ≤ 1000) : PE X (.Tuple es k pos) (tE K T G C W (.tup es')) := by
  refine (pe_tup h).to fun σ H Q ⟨B, w, δ, st, Wl, h⟩ => as_then Wl ?_
  simp only [evalE] at h
  refine h.bind fun ds st1 w1 H1 ex W1 h1 hlen vs rs => ⟨rs.small (n := 1000) (by omega) (by omega), fun p hp => ?_⟩
  obtain ⟨a, b, c⟩ := new_tup (σ := σ) W1 hp rs
  exact h1 _ _ a b _ c
theorem sn_lst {es : List Expr} {es' : Es} {pos : Pos} (h : PA X es (tAs K T G C W es')) (hl : es'.len ≤ 1000) : PE X (.List es pos) (tN K T G C W (.lst es')) := by
  refine (pe_lst h).to fun σ H Q ⟨B, w, δ, st, Wl, h⟩ => as_then Wl ?_
  simp only [evalE] at h
  refine h.bind fun ds st1 w1 H1 ex W1 h1 hlen vs rs => ⟨rs.small (n := 1000) (by omega) (by omega), fun p hp => ?_⟩
  obtain ⟨a, b, c⟩ := new_list ex W1 hp (back_none ex hp) rs
  exact h1 _ _ (Ext.grow hp) b p c

theorem two {a b : E} {B : Hp} {w : Wd} {δ : Sls} {st : Sto} {σ : St} {H : Hp} {α : Type} {f : D → D → Sto → R (α × Sto)} {Q : Wd → Hp → α → Prop} {R : V → V → Hp → Prop} (Wl : World K T B w δ st σ H)
    (h : Aft K T W B δ σ w H ((evalE G C a δ st).bind fun r => (evalE G C b δ r.2).bind fun q => f r.1 q.1 q.2) Q)
    (k : ∀ x y st2 w2 H2 v u, Ext w H w2 H2 → World K T B w2 δ st2 σ H2 → Rep K T w2 x v → Rep K T w2 y u → Aft K T W B δ σ w2 H2 (f x y st2) Q → R v u H2) : tE K T G C W a σ H fun v H1 => tE K T G C W b σ H1 fun u H2 => R v u H2 :=
  ⟨B, w, δ, st, Wl, h.bind fun x st1 w1 H1 ex W1 h1 v rv => ⟨B, w1, δ, st1, W1, h1.bind fun y st2 w2 H2 ex2 W2 h2 u ru => k x y st2 w2 H2 v u (ex.trans ex2) W2 (rv.up ex2.up) ru h2⟩⟩
def Bo.py : Bo → Operator
  | .add => .Add
  | .sub => .Sub
  | .mul => .Mult
  | .fdiv => .FloorDiv
  | .mod => .Mod
  | .pow => .Pow
  | .shl => .LShift
  | .shr => .RShift
  | .band => .BitAnd
  | .bor => .BitOr
theorem Lim_eq : Lim = 1000000 := rfl
def rBo (K : PySem.W.Frag) (T : Txc) (o : Bo) : R2 := fun x y H Q => ∃ w dx dy d, Same w.F H ∧ Rep K T w dx x ∧ Rep K T w dy y ∧ binV o dx dy = some d ∧
  match d with
  | .int i => Q (.int i) H
  | .lst ds => ∀ xs p, H p = none → Reps K T w ds xs → Q (.ref p) (upd H p (.lst xs))
  | .tup ds => ∀ xs p, H p = none → Reps K T w ds xs → Q (.ref p) (upd H p (.tup xs))
  | _ => False
theorem binV_int {o : Bo} {dx dy d : D} (h : binV o dx dy = some d) : (∃ i j k, dx = .int i ∧ dy = .int j ∧ d = .int k) ∨ (o = .add ∧ ∃ a b, dx = .lst a ∧ dy = .lst b ∧ d = .lst (a ++ b) ∧ a.length + b.length ≤ Lim) ∨
    (o = .add ∧ ∃ a b, dx = .tup a ∧ dy = .tup b ∧ d = .tup (a ++ b) ∧ a.length + b.length ≤ Lim ∧ a ≠ [] ∧ b ≠ []) ∨
    (o = .mul ∧ ∃ a j, dx = .lst a ∧ dy = .int j ∧ d = .lst ((List.replicate j.toNat a).flatten) ∧ 0 ≤ j ∧ a.length * j.toNat ≤ Lim ∧ j ≤ Lim) := by
  unfold binV at h
  split at h <;> first
    | (injection h with h; subst h; exact .inl ⟨_, _, _, rfl, rfl, rfl⟩)
    | (split at h <;> first
        | (injection h with h; subst h; exact .inl ⟨_, _, _, rfl, rfl, rfl⟩)
        | (injection h with h; subst h; rename_i c; exact .inr (.inl ⟨rfl, _, _, rfl, rfl, rfl, c⟩))
        | (injection h with h; subst h; rename_i c; exact .inr (.inr (.inl ⟨rfl, _, _, rfl, rfl, rfl, c.1, c.2.1, c.2.2⟩)))
        | (injection h with h; subst h; rename_i c; exact .inr (.inr (.inr ⟨rfl, _, _, rfl, rfl, rfl, c.1, c.2.1, c.2.2⟩)))
        | cases h)
    | cases h
theorem OpR.to {f : Value → Value → Sem Value} {r r' : R2} (h : OpR X f r) (k : ∀ x y H Q, r' x y H Q → r x y H Q) : OpR X f r' := fun pins s σ H x y v u Q I rx ry q => h pins s σ H x y v u Q I rx ry (k _ _ _ _ q)
theorem op_bo (o : Bo) : OpR X (binaryOp o.py) (rBo K T o) := by
  have lim : Lim = 1000000 := rfl
  cases o
  case add =>
    refine OpR.to (OpR.or op_add (OpR.or op_cat op_catT)) fun x y H Q ⟨w, dx, dy, d, sm, r1, r2, e, q⟩ => ?_
    rcases binV_int e with ⟨i, j, k, rfl, rfl, rfl⟩ | ⟨_, a, b, rfl, rfl, rfl, hl⟩ | ⟨_, a, b, rfl, rfl, rfl, hl, na, nb⟩ | ⟨z, _⟩
    · cases e
      exact .inl ⟨i, j, r1, r2, q⟩
    · obtain ⟨l, xs, e1, f1, s1⟩ := r1
      obtain ⟨m, ys, e2, f2, s2⟩ := r2
      refine .inr (.inl ⟨l, m, xs, ys, e1, e2, sm _ _ f1, sm _ _ f2, by rw [s1.length, s2.length, sizeLine_eq]; omega, fun p hp => q _ p hp (s1.append s2)⟩)
    · obtain ⟨l, xs, e1, f1, s1⟩ := r1
      obtain ⟨m, ys, e2, f2, s2⟩ := r2
      refine .inr (.inr ⟨l, m, xs, ys, e1, e2, SqT.of (sm _ _ f1), SqT.of (sm _ _ f2), fun z => na ?_, by rw [s1.length, s2.length, sizeLine_eq]; omega, fun z => absurd ?_ nb, fun _ p hp => q _ p hp (s1.append s2)⟩)
      · have := s1.length; rw [z] at this; exact List.eq_nil_of_length_eq_zero this.symm
      · have := s2.length; rw [z] at this; exact List.eq_nil_of_length_eq_zero this.symm
    · cases z
  case mul =>
    refine OpR.to (OpR.or op_mul op_rep) fun x y H Q ⟨w, dx, dy, d, sm, r1, r2, e, q⟩ => ?_
    rcases binV_int e with ⟨i, j, k, rfl, rfl, rfl⟩ | ⟨z, _⟩ | ⟨z, _⟩ | ⟨_, a, j, rfl, rfl, rfl, h0, hl, hj⟩
    · simp only [binV] at e
      split at e
      · rename_i c
        cases e
        exact .inl ⟨i, j, r1, r2, c, q⟩
      · cases e
    · cases z
    · cases z
    · obtain ⟨l, xs, e1, f1, s1⟩ := r1
      refine .inr ⟨l, j, xs, e1, r2, sm _ _ f1, by omega, by omega, by rw [s1.length, sizeLine_eq]; omega, fun p hp => q _ p hp (s1.flat _)⟩
  all_goals (
    refine OpR.to (by first | exact op_sub | exact op_fdiv | exact op_mod | exact op_pow | exact op_shl | exact op_shr | exact op_and | exact op_or) fun x y H Q ⟨w, dx, dy, d, sm, r1, r2, e, q⟩ => ?_
    rcases binV_int e with ⟨i, j, k, rfl, rfl, rfl⟩ | ⟨z, _⟩ | ⟨z, _⟩ | ⟨z, _⟩
    · simp only [binV] at e
      first
        | (cases e; exact ⟨i, j, r1, r2, q⟩)
        | (split at e
           · rename_i c
             cases e
             first
               | exact ⟨i, j, r1, r2, c, q⟩
               | exact ⟨i, j, r1, r2, ⟨c.1, by omega, c.2.2⟩, q⟩
           · cases e)
    all_goals cases z)
theorem se_bin {a b : Expr} {a' b' : E} {o : Bo} {pos : Pos} (ha : PE X a (tE K T G C W a')) (hb : PE X b (tE K T G C W b')) : PE X (.BinOp a o.py b pos) (tN K T G C W (.bin o a' b')) := by
  refine (pe_op (op_bo (K := K) (T := T) o) ha hb).to fun σ H Q ⟨B, w, δ, st, Wl, h⟩ => ?_
  simp only [evalE] at h
  refine two (f := fun x y st => match binV o x y with | some d => .ok (d, st) | none => .stuck) (R := fun v u H2 => rBo K T o v u H2 Q) Wl h fun x y st2 w2 H2 v u ex W2 rx ry h2 => ?_
  split at h2
  · rename_i d e
    refine ⟨w2, x, y, d, W2.st.same, rx, ry, e, ?_⟩
    have h3 := fun w3 H3 e3 W3 => h2 w3 H3 e3 W3
    rcases binV_int e with ⟨i, j, k, rfl, rfl, rfl⟩ | ⟨_, a, b, rfl, rfl, rfl, hl⟩ | ⟨_, a, b, rfl, rfl, rfl, hl, na, nb⟩ | ⟨_, a, j, rfl, rfl, rfl, h0, hl, hj⟩
    · exact h3 w2 H2 Ext.refl W2 _ rfl
    · intro xs p hp rs
      obtain ⟨a, b, c⟩ := new_list ex W2 hp (back_none ex hp) rs
      exact h3 _ _ (Ext.grow hp) b p c
    · intro xs p hp rs
      obtain ⟨a, b, c⟩ := new_tup (σ := σ) W2 hp rs
      exact h3 _ _ a b _ c
    · intro xs p hp rs
      obtain ⟨a, b, c⟩ := new_list ex W2 hp (back_none ex hp) rs
      exact h3 _ _ (Ext.grow hp) b p c
  · exact h2.elim
theorem se_neg {a : Expr} {a' : E} {pos : Pos} (ha : PE X a (tE K T G C W a')) : PE X (.UnaryOp .USub a pos) (tE K T G C W (.neg a')) := by
  refine (pe_un un_neg ha).to fun σ H Q ⟨B, w, δ, st, Wl, h⟩ => ?_
  simp only [evalE] at h
  refine ⟨B, w, δ, st, Wl, h.bind fun d st1 w1 H1 ex W1 h1 v rv => ?_⟩
  split at h1
  · rename_i i e
    simp only at e
    subst e
    exact ⟨i, rv, h1.ok W1 _ rfl⟩
  · exact h1.elim
end
end Qk

set_option linter.all false
set_option maxHeartbeats 2000000
set_option maxRecDepth 100000
namespace Qk
open PySem L2

section
variable {K : PySem.W.Frag} {T : Txc} {G : List Fn} {C : List Int} {W : WX} {X : Cx}
def Co.py : Co → CmpOp
  | .lt => .Lt
  | .le => .LtE
  | .gt => .Gt
  | .ge => .GtE
  | .eq => .Eq
  | .ne => .NotEq
  | .in_ => .In
  | .nin => .NotIn
  | .is_ => .Is
  | .isn => .IsNot
structure CmpOk (T : Txc) (X : Cx) (o : Co) (r : R2) : Prop where
  op : OpR X (compareOp o.py) r
  ok : ∀ {B : Hp} {w : Wd} {δ : Sls} {st : Sto} {σ : St} {H : Hp} {p q : Pl} {v u : V} {b : Bool} {Q : VK}, World X.K T B w δ st σ H → RepP X.K T w δ σ p v → RepP X.K T w δ σ q u → cmpP o st p q = some b → Q (.bl b) H → r v u H Q
theorem Rep.non_iff {w : Wd} : ∀ {d : D} {v : V}, Rep K T w d v → (decide (v = .non) = true ↔ d = .non)
  | .non, _, h => by cases h; simp
  | .bl _, _, h => by cases h; simp
  | .int _, _, h => by cases h; simp
  | .str _, _, h => by cases h; simp
  | .byt _, _, h => by cases h; simp
  | .dct _ _ _, _, ⟨_, _, e, _⟩ => by cases e; simp
  | .tup _, _, ⟨_, _, e, _⟩ => by cases e; simp
  | .ktup _, _, ⟨_, _, _, e, _⟩ => by cases e; simp
  | .lst _, _, ⟨_, _, e, _⟩ => by cases e; simp
  | .scr _, _, ⟨_, _, e, _⟩ => by cases e; simp
  | .obj _ _, _, ⟨_, _, _, e, _⟩ => by cases e; simp
  | .loc _, _, ⟨_, e, _⟩ => by cases e; simp
def rInT (K : PySem.W.Frag) (neg : Bool) : R2 := fun x y H Q => ∃ d ds, Dp K H x d ∧ Dp K H y (.tuple ds) ∧ SeqAt.shaped d = true ∧ SeqAt.shaped (.tuple ds) = true ∧ Q (.bl (if neg then !ds.any fun z => PyData.eqv z d else ds.any fun z => PyData.eqv z d)) H
theorem op_inT (hu : X.A.units + 65 < cLine) : OpR X (compareOp .In) (rInT X.K false) := fun pins s σ H x y v u Q I rx ry h =>
  let ⟨d, ds, hd, he, sd, se, q⟩ := h
  let ⟨_, r1⟩ := Dp.reads I d x v hd rx
  let ⟨_, r2⟩ := Dp.reads I (.tuple ds) y u he ry
  SeqAt.in_tuple_reads r2 r1 (SeqAt.canLay_of_shaped se) (SeqAt.canLay_of_shaped sd) (PyProof.Rows.room_in_shaped sd hu) ⟨.bl _, H, I, rfl, q⟩
theorem op_ninT (hu : X.A.units + 65 < cLine) : OpR X (compareOp .NotIn) (rInT X.K true) := fun pins s σ H x y v u Q I rx ry h =>
  let ⟨d, ds, hd, he, sd, se, q⟩ := h
  let ⟨_, r1⟩ := Dp.reads I d x v hd rx
  let ⟨_, r2⟩ := Dp.reads I (.tuple ds) y u he ry
  SeqAt.notIn_tuple_reads r2 r1 (SeqAt.canLay_of_shaped se) (SeqAt.canLay_of_shaped sd) (PyProof.Rows.room_in_shaped sd hu) ⟨.bl _, H, I, rfl, q⟩
theorem shp_mono : ∀ {d : D} {n m : Nat}, n ≤ m → d.shp n = true → d.shp m = true
  | .non, _, _, _, _ => by simp [D.shp]
  | .bl _, _, _, _, _ => by simp [D.shp]
  | .int _, _, _, _, _ => by simp [D.shp]
  | .str _, _, _, _, s => by simpa [D.shp] using s
  | .tup ds, 0, _, _, s => by simp [D.shp] at s
  | .tup ds, n + 1, 0, h, _ => absurd h (by omega)
  | .tup ds, n + 1, m + 1, h, s => by
    simp only [D.shp, List.all_eq_true] at s ⊢
    exact fun d hd => shp_mono (Nat.le_of_succ_le_succ h) (s d hd)
  | .ktup ds, 0, _, _, s => by simp [D.shp] at s
  | .ktup ds, n + 1, 0, h, _ => absurd h (by omega)
  | .ktup ds, n + 1, m + 1, h, s => by
    simp only [D.shp, List.all_eq_true] at s ⊢
    exact fun d hd => shp_mono (Nat.le_of_succ_le_succ h) (s d hd)
  | .lst ds, 0, _, _, s => by simp [D.shp] at s
  | .lst ds, n + 1, 0, h, _ => absurd h (by omega)
  | .lst ds, n + 1, m + 1, h, s => by
    simp only [D.shp, List.all_eq_true] at s ⊢
    exact fun d hd => shp_mono (Nat.le_of_succ_le_succ h) (s d hd)
  | .byt _, _, _, _, s => by simp [D.shp] at s
  | .dct _ _ _, _, _, _, s => by simp [D.shp] at s
  | .scr _, _, _, _, s => by simp [D.shp] at s
  | .obj _ _, _, _, _, s => by simp [D.shp] at s
  | .loc _, _, _, _, s => by simp [D.shp] at s
theorem World.rowAt {B : Hp} {w : Wd} {δ : Sls} {st : Sto} {σ : St} {H : Hp} {p : Pl} {v : V} {ds : List D} (Wl : World K T B w δ st σ H) (r : RepP K T w δ σ p v) (h : seqOf st p = some ds) (s : ds.all (D.shp 8) = true) :
    (Dp K H v (.list (Ds.toP ds)) ∧ SeqAt.shaped (.list (Ds.toP ds)) = true) ∨ (Dp K H v (.tuple (Ds.toP ds)) ∧ SeqAt.shaped (.tuple (Ds.toP ds)) = true) := by
  obtain ⟨a, xs, rfl, q, rs⟩ := Wl.seqAt r h
  have dp := Reps.dp Wl.st.same s rs
  rcases q with q | q
  · exact .inl ⟨.lst q dp, shp_shaped (d := .lst ds) (n := 9) (by omega) (by simpa only [D.shp] using s)⟩
  · exact .inr ⟨.tup q dp, shp_shaped (d := .tup ds) (n := 9) (by omega) (by simpa only [D.shp] using s)⟩
theorem any_toP (x : PyData) (ds : List D) : (Ds.toP ds).any (fun z => PyData.eqv z x) = ds.any fun z => PyData.eqv z.toP x := by
  rw [Ds.toP_map, List.any_map]; rfl
theorem cmp_ok (hu : X.A.units + 65 < cLine) (o : Co) : ∃ r, CmpOk T X o r := by
  have hu64 : X.A.units + 64 < cLine := by omega
  have num : ∀ {o : Co} {g : Int → Int → Bool} (op : OpR X (compareOp o.py) (rI0 fun i j => .bl (g i j))) (e : ∀ st x y b, cmpP o st x y = some b → ∃ i j, x = .d (.int i) ∧ y = .d (.int j) ∧ b = g i j), ∃ r, CmpOk T X o r := fun {o g} op e =>
    ⟨_, op, fun {B w δ st σ H p q v u b Q} Wl rp rq h k => by
      obtain ⟨i, j, rfl, rfl, rfl⟩ := e st p q b h
      exact ⟨i, j, rp, rq, k⟩⟩
  have numE : ∀ {o : Co} {g : Int → Int → Bool}, (∀ st x y, cmpP o st x y = match x, y with | .d (.int i), .d (.int j) => cmpI o i j | _, _ => none) → (∀ i j, cmpI o i j = some (g i j)) → ∀ st x y b, cmpP o st x y = some b → ∃ i j, x = .d (.int i) ∧ y = .d (.int j) ∧ b = g i j := by
    intro o g e1 e2 st x y b h
    rw [e1] at h
    split at h
    · rename_i i j
      rw [e2] at h
      cases h
      exact ⟨i, j, rfl, rfl, rfl⟩
    · cases h
  cases o
  case lt => exact num op_lt (numE (fun _ _ _ => rfl) fun _ _ => rfl)
  case le => exact num op_le (numE (fun _ _ _ => rfl) fun _ _ => rfl)
  case gt => exact num op_gt (numE (fun _ _ _ => rfl) fun _ _ => rfl)
  case ge => exact num op_ge (numE (fun _ _ _ => rfl) fun _ _ => rfl)
  case eq =>
    refine ⟨_, op_eqD hu64, fun {B w δ st σ H p q v u b Q} Wl rp rq h k => ?_⟩
    simp only [cmpP] at h
    split at h
    · rename_i d e h1 h2
      unfold eqD at h
      split at h
      · rename_i c
        rw [Bool.and_eq_true] at c
        cases h
        exact ⟨_, _, Wl.datAt rp h1 c.1, Wl.datAt rq h2 c.2, shp_shaped (by omega) c.1, shp_shaped (by omega) c.2, k⟩
      · cases h
    · cases h
  case ne =>
    refine ⟨_, op_neD hu64, fun {B w δ st σ H p q v u b Q} Wl rp rq h k => ?_⟩
    simp only [cmpP] at h
    split at h
    · rename_i d e h1 h2
      unfold eqD at h
      split at h
      · rename_i c
        rw [Bool.and_eq_true] at c
        cases h
        exact ⟨_, _, Wl.datAt rp h1 c.1, Wl.datAt rq h2 c.2, shp_shaped (by omega) c.1, shp_shaped (by omega) c.2, k⟩
      · cases h
    · cases h
  case in_ =>
    refine ⟨_, OpR.or (op_inD hu) (op_inT hu), fun {B w δ st σ H p q v u b Q} Wl rp rq h k => ?_⟩
    simp only [cmpP] at h
    split at h
    · rename_i d
      split at h
      · rename_i ds h2
        unfold anyEq at h
        split at h
        · rename_i c
          rw [Bool.and_eq_true] at c
          cases h
          have s1 := shp_shaped (by omega : 9 ≤ 9) c.1
          rcases Wl.rowAt rq h2 c.2 with ⟨x1, x2⟩ | ⟨x1, x2⟩
          · exact .inl ⟨_, _, Rep.dp Wl.st.same c.1 rp, x1, s1, x2, by rw [any_toP]; exact k⟩
          · exact .inr ⟨_, _, Rep.dp Wl.st.same c.1 rp, x1, s1, x2, by rw [any_toP]; exact k⟩
        · cases h
      · cases h
    · cases h
  case nin =>
    refine ⟨_, OpR.or (op_notInD hu) (op_ninT hu), fun {B w δ st σ H p q v u b Q} Wl rp rq h k => ?_⟩
    simp only [cmpP] at h
    split at h
    · rename_i d
      split at h
      · rename_i ds h2
        unfold anyEq at h
        split at h
        · rename_i c
          rw [Bool.and_eq_true] at c
          cases h
          have s1 := shp_shaped (by omega : 9 ≤ 9) c.1
          rcases Wl.rowAt rq h2 c.2 with ⟨x1, x2⟩ | ⟨x1, x2⟩
          · exact .inl ⟨_, _, Rep.dp Wl.st.same c.1 rp, x1, s1, x2, by rw [any_toP]; exact k⟩
          · exact .inr ⟨_, _, Rep.dp Wl.st.same c.1 rp, x1, s1, x2, by rw [any_toP]; exact k⟩
        · cases h
      · cases h
    · cases h
  case is_ =>
    refine ⟨_, OpR.or op_isN op_is_bl, fun {B w δ st σ H p q v u b Q} Wl rp rq h k => ?_⟩
    simp only [cmpP] at h
    split at h
    · cases h
      cases rp
      cases rq
      exact .inl ⟨rfl, k⟩
    · cases h
      cases rp
      cases rq
      exact .inr ⟨_, _, rfl, rfl, k⟩
    · rename_i d nd
      cases h
      have e := Rep.non_iff rp
      cases rq
      refine .inl ⟨rfl, ?_⟩
      have : decide (v = .non) = false := by
        cases x : decide (v = .non) with
        | false => rfl
        | true => exact absurd (e.mp x) nd
      rw [this]; exact k
    · cases h
      obtain ⟨_, _, _, _, rfl⟩ := rp
      cases rq
      exact .inl ⟨rfl, k⟩
    · cases h
  case isn =>
    refine ⟨_, OpR.or op_notN op_isnot_bl, fun {B w δ st σ H p q v u b Q} Wl rp rq h k => ?_⟩
    simp only [cmpP] at h
    split at h
    · cases h
      cases rp
      cases rq
      exact .inl ⟨rfl, k⟩
    · cases h
      cases rp
      cases rq
      exact .inr ⟨_, _, rfl, rfl, k⟩
    · rename_i d nd
      cases h
      have e := Rep.non_iff rp
      cases rq
      refine .inl ⟨rfl, ?_⟩
      have : decide (v = .non) = false := by
        cases x : decide (v = .non) with
        | false => rfl
        | true => exact absurd (e.mp x) nd
      rw [this]; exact k
    · cases h
      obtain ⟨_, _, _, _, rfl⟩ := rp
      cases rq
      exact .inl ⟨rfl, k⟩
    · cases h
end
end Qk

set_option linter.all false
set_option maxHeartbeats 2000000
set_option maxRecDepth 100000
namespace Qk
open PySem L2

section
variable {K : PySem.W.Frag} {T : Txc} {G : List Fn} {C : List Int} {W : WX} {X : Cx}
theorem sp_of {e : Expr} {e' : E} (h : PE X e (tE K T G C W e')) (q : ∀ δ st, evalP G C e' δ st = (evalE G C e' δ st).bind fun r => .ok (.d r.1, r.2)) : PE X e (tP K T G C W e') := by
  refine h.to fun σ H Q ⟨B, w, δ, st, Wl, h⟩ => ?_
  rw [q] at h
  exact ⟨B, w, δ, st, Wl, h.bind fun d st1 w1 H1 ex W1 h1 v rv => h1.ok W1 v rv⟩
theorem twoP {a b : E} {B : Hp} {w : Wd} {δ : Sls} {st : Sto} {σ : St} {H : Hp} {α : Type} {f : Pl → Pl → Sto → R (α × Sto)} {Q : Wd → Hp → α → Prop} {R : V → V → Hp → Prop} (Wl : World K T B w δ st σ H)
    (h : Aft K T W B δ σ w H ((evalP G C a δ st).bind fun r => (evalP G C b δ r.2).bind fun q => f r.1 q.1 q.2) Q)
    (k : ∀ x y st2 w2 H2 v u, Ext w H w2 H2 → World K T B w2 δ st2 σ H2 → RepP K T w2 δ σ x v → RepP K T w2 δ σ y u → Aft K T W B δ σ w2 H2 (f x y st2) Q → R v u H2) : tP K T G C W a σ H fun v H1 => tP K T G C W b σ H1 fun u H2 => R v u H2 :=
  ⟨B, w, δ, st, Wl, h.bind fun x st1 w1 H1 ex W1 h1 v rv => ⟨B, w1, δ, st1, W1, h1.bind fun y st2 w2 H2 ex2 W2 h2 u ru => k x y st2 w2 H2 v u (ex.trans ex2) W2 (rv.up ex2.up) ru h2⟩⟩
theorem se_cmp (hK : X.K = K) (hu : X.A.units + 65 < cLine) {a b : Expr} {a' b' : E} {o : Co} {pos : Pos} (ha : PE X a (tP K T G C W a')) (hb : PE X b (tP K T G C W b')) (hm : behindInMarks o.py b = false) :
    PE X (.Compare a [o.py] [b] pos) (tE K T G C W (.cmp o a' b')) := by
  subst hK
  obtain ⟨r, ok⟩ := cmp_ok (T := T) hu o
  refine (pe_cmpR ok.op ha hb hm).to fun σ H Q ⟨B, w, δ, st, Wl, h⟩ => ?_
  simp only [evalE] at h
  refine twoP (f := fun x y st => match cmpP o st x y with | some d => .ok (D.bl d, st) | none => .stuck) (R := fun v u H2 => r v u H2 Q) Wl h fun x y st2 w2 H2 v u ex W2 rx ry h2 => ?_
  split at h2
  · rename_i d e
    exact ok.ok W2 rx ry e (h2.ok W2 _ rfl)
  · exact h2.elim
theorem st_cmp (hK : X.K = K) (hu : X.A.units + 65 < cLine) {a b : Expr} {a' b' : E} {o : Co} {pos : Pos} (ha : PE X a (tP K T G C W a')) (hb : PE X b (tP K T G C W b')) (hm : behindInMarks o.py b = false) :
    PT X (.Compare a [o.py] [b] pos) (tB K T G C W (.cmp o a' b')) := by
  subst hK
  obtain ⟨r, ok⟩ := cmp_ok (T := T) hu o
  refine (pt_cmpR ok.op ha hb hm).to fun σ H Q ⟨B, w, δ, st, Wl, h⟩ => ?_
  simp only [evalT, evalP, evalE] at h
  have h' : Aft X.K T W B δ σ w H ((evalP G C a' δ st).bind fun r => (evalP G C b' δ r.2).bind fun q => match cmpP o q.2 r.1 q.1 with | some d => .ok (d, q.2) | none => .stuck) fun w' H' b => Q b H' := by
    revert h
    cases evalP G C a' δ st with
    | stuck => exact id
    | exc c u s => exact id
    | ok r1 =>
      simp only [R.bind]
      cases evalP G C b' δ r1.2 with
      | stuck => exact id
      | exc c u s => exact id
      | ok r2 =>
        simp only [R.bind]
        cases cmpP o r2.2 r1.1 r2.1 with
        | none => exact id
        | some d => simp only [truP]; exact id
  refine twoP (f := fun x y st => match cmpP o st x y with | some d => .ok (d, st) | none => .stuck) (R := fun v u H2 => r v u H2 _) Wl h' fun x y st2 w2 H2 v u ex W2 rx ry h2 => ?_
  split at h2
  · rename_i d e
    exact ok.ok W2 rx ry e ⟨_, rfl, h2.ok W2⟩
  · exact h2.elim
theorem se_chn (hK : X.K = K) (hu : X.A.units + 65 < cLine) {a b c : Expr} {a' b' c' : E} {o p : Co} {pos : Pos} (ha : PE X a (tE K T G C W a')) (hb : PE X b (tE K T G C W b')) (hc : PE X c (tE K T G C W c')) (hm : lastMarks [o.py, p.py] [b, c] = false) :
    PE X (.Compare a [o.py, p.py] [b, c] pos) (tE K T G C W (.chn o p a' b' c')) := by
  subst hK
  obtain ⟨r, ok⟩ := cmp_ok (T := T) hu o
  obtain ⟨r2, ok2⟩ := cmp_ok (T := T) hu p
  refine (pe_chain ok.op ok2.op ha hb hc hm).to fun σ H Q ⟨B, w, δ, st, Wl, h⟩ => ?_
  simp only [evalE] at h
  refine ⟨B, w, δ, st, Wl, h.bind fun x st1 w1 H1 ex W1 h1 v rv => ⟨B, w1, δ, st1, W1, h1.bind fun y st2 w2 H2 ex2 W2 h2 u ru => ?_⟩⟩
  split at h2
  · rename_i e
    refine ok.ok (p := .d x) (q := .d y) W2 (rv.up ex2.up) ru e ⟨true, rfl, iteT ⟨B, w2, δ, st2, W2, h2.bind fun z st3 w3 H3 ex3 W3 h3 u2 ru2 => ?_⟩⟩
    split at h3
    · rename_i d e2
      exact ok2.ok (p := .d y) (q := .d z) W3 (ru.up ex3.up) ru2 e2 (h3.ok W3 _ rfl)
    · exact h3.elim
  · rename_i e
    exact ok.ok (p := .d x) (q := .d y) W2 (rv.up ex2.up) ru e ⟨false, rfl, iteF (h2.ok W2 _ rfl)⟩
  · exact h2.elim
theorem st_val {e : Expr} {e' : E} (h : PT X e (tTest (tE K T G C W e'))) (q : ∀ δ st, evalT G C e' δ st = (evalE G C e' δ st).bind fun r => match truP r.2 (.d r.1) with | some b => .ok (b, r.2) | none => .stuck)
    (b : ∀ δ st d st', evalE G C e' δ st = .ok (d, st') → ∃ b, d = .bl b) : PT X e (tB K T G C W e') := by
  refine h.to fun σ H Q ⟨B, w, δ, st, Wl, h⟩ => ?_
  rw [q] at h
  refine ⟨B, w, δ, st, Wl, ?_⟩
  cases er : evalE G C e' δ st with
  | stuck => rw [er] at h; exact h
  | exc c u s => rw [er] at h; exact h
  | ok r =>
    obtain ⟨d, st'⟩ := r
    rw [er] at h
    obtain ⟨b, rfl⟩ := b δ st d st' er
    intro w1 H1 e1 W1 v rv
    cases rv
    exact ⟨b, rfl, h w1 H1 e1 W1⟩
theorem st_chn (hK : X.K = K) (hu : X.A.units + 65 < cLine) {a b c : Expr} {a' b' c' : E} {o p : Co} {pos : Pos} (ha : PE X a (tE K T G C W a')) (hb : PE X b (tE K T G C W b')) (hc : PE X c (tE K T G C W c')) (hm : lastMarks [o.py, p.py] [b, c] = false) :
    PT X (.Compare a [o.py, p.py] [b, c] pos) (tB K T G C W (.chn o p a' b' c')) := by
  subst hK
  obtain ⟨r, ok⟩ := cmp_ok (T := T) hu o
  obtain ⟨r2, ok2⟩ := cmp_ok (T := T) hu p
  refine st_val ((pt_chain ok.op ok2.op ha hb hc hm).to fun σ H Q ⟨B, w, δ, st, Wl, h⟩ => ?_) (fun δ st => ?_) fun δ st d st' e => ?_
  · simp only [evalE] at h
    refine ⟨B, w, δ, st, Wl, h.bind fun x st1 w1 H1 ex W1 h1 v rv => ⟨B, w1, δ, st1, W1, h1.bind fun y st2 w2 H2 ex2 W2 h2 u ru => ?_⟩⟩
    split at h2
    · rename_i e
      refine ok.ok (p := .d x) (q := .d y) W2 (rv.up ex2.up) ru e ⟨true, rfl, iteT ⟨B, w2, δ, st2, W2, h2.bind fun z st3 w3 H3 ex3 W3 h3 u2 ru2 => ?_⟩⟩
      split at h3
      · rename_i d e2
        exact ok2.ok (p := .d y) (q := .d z) W3 (ru.up ex3.up) ru2 e2 (h3.ok W3 _ rfl)
      · exact h3.elim
    · rename_i e
      exact ok.ok (p := .d x) (q := .d y) W2 (rv.up ex2.up) ru e ⟨false, rfl, iteF (h2.ok W2 _ rfl)⟩
    · exact h2.elim
  · simp only [evalT, evalP]
    cases evalE G C (.chn o p a' b' c') δ st <;> rfl
  · simp only [evalE] at e
    revert e
    cases evalE G C a' δ st with
    | stuck => intro e; cases e
    | exc c u s => intro e; cases e
    | ok r1 =>
      simp only [R.bind]
      cases evalE G C b' δ r1.2 with
      | stuck => intro e; cases e
      | exc c u s => intro e; cases e
      | ok r2 =>
        simp only [R.bind]
        cases cmpP o r2.2 (.d r1.1) (.d r2.1) with
        | none => intro e; cases e
        | some b =>
          cases b with
          | false => intro e; cases e; exact ⟨_, rfl⟩
          | true =>
            simp only
            cases evalE G C c' δ r2.2 with
            | stuck => intro e; cases e
            | exc c u s => intro e; cases e
            | ok r3 =>
              simp only [R.bind]
              cases cmpP p r3.2 (.d r2.1) (.d r3.1) with
              | none => intro e; cases e
              | some b => intro e; cases e; exact ⟨_, rfl⟩
theorem World.truAt {B : Hp} {w : Wd} {δ : Sls} {st : Sto} {σ : St} {H : Hp} {p : Pl} {v : V} {b : Bool} (Wl : World K T B w δ st σ H) (r : RepP K T w δ σ p v) (h : truP st p = some b) : TruV K v H b := by
  have seq : ∀ {ds}, seqOf st p = some ds → b = !ds.isEmpty → TruV K v H b := fun {ds} e k => by
    obtain ⟨a, xs, rfl, q, rs⟩ := Wl.seqAt r e
    have he : (!ds.isEmpty) = !xs.isEmpty := by
      have := rs.length
      cases ds <;> cases xs <;> simp at this ⊢
    subst k
    rcases q with q | q
    · exact .inl ⟨xs, q, he⟩
    · exact .inr (.inl ⟨xs, q, he⟩)
  unfold truP at h
  split at h
  · cases h; cases r; rfl
  · cases h; cases r; rfl
  · cases h; cases r; rfl
  · split at h
    · rename_i ds e
      cases h
      exact seq e rfl
    · cases h
theorem st_truth (hK : X.K = K) {e : Expr} {e' : E} (h : PE X e (tP K T G C W e')) (he : ∀ whole, isTrue e X.env whole = (do let v ← whole; standAt e.pos; holding [v] (truthy v)))
    (q : ∀ δ st, evalT G C e' δ st = (evalP G C e' δ st).bind fun r => match truP r.2 r.1 with | some b => .ok (b, r.2) | none => .stuck) : PT X e (tB K T G C W e') := by
  subst hK
  refine (pt_truth h he).to fun σ H Q ⟨B, w, δ, st, Wl, h⟩ => ?_
  rw [q] at h
  refine ⟨B, w, δ, st, Wl, h.bind fun p st1 w1 H1 ex W1 h1 v rv => ?_⟩
  split at h1
  · rename_i b e
    exact ⟨b, W1.truAt rv e, h1.ok W1⟩
  · exact h1.elim
theorem st_not {a : Expr} {a' : E} {pos : Pos} (h : PT X a (tB K T G C W a')) : PT X (.UnaryOp .Not a pos) (tB K T G C W (.not a')) := by
  refine (pt_not h).to fun σ H Q ⟨B, w, δ, st, Wl, h⟩ => ?_
  simp only [evalT] at h
  exact ⟨B, w, δ, st, Wl, h.bind fun b st1 w1 H1 ex W1 h1 => h1.ok W1⟩
theorem st_and1 {a : Expr} {a' : E} {pos : Pos} (h : PT X a (tB K T G C W a')) : PW X (.BoolOp .And [a] pos) (tB K T G C W a') := pw_and1 h
theorem st_or1 {a : Expr} {a' : E} {pos : Pos} (h : PT X a (tB K T G C W a')) : PW X (.BoolOp .Or [a] pos) (tB K T G C W a') := pw_or1 h
theorem st_and {a b : Expr} {rest : List Expr} {a' b' : E} {pos : Pos} (h : PT X a (tB K T G C W a')) (h2 : PW X (.BoolOp .And (b :: rest) pos) (tB K T G C W b')) : PW X (.BoolOp .And (a :: b :: rest) pos) (tB K T G C W (.and a' b')) := by
  refine (pw_and h h2).to fun σ H Q ⟨B, w, δ, st, Wl, h⟩ => ?_
  simp only [evalT] at h
  refine ⟨B, w, δ, st, Wl, h.bind fun b st1 w1 H1 ex W1 h1 => ?_⟩
  cases b with
  | true => exact iteT ⟨B, w1, δ, st1, W1, h1⟩
  | false => exact iteF (h1.ok W1)
theorem st_or {a b : Expr} {rest : List Expr} {a' b' : E} {pos : Pos} (h : PT X a (tB K T G C W a')) (h2 : PW X (.BoolOp .Or (b :: rest) pos) (tB K T G C W b')) : PW X (.BoolOp .Or (a :: b :: rest) pos) (tB K T G C W (.or a' b')) := by
  refine (pw_or h h2).to fun σ H Q ⟨B, w, δ, st, Wl, h⟩ => ?_
  simp only [evalT] at h
  refine ⟨B, w, δ, st, Wl, h.bind fun b st1 w1 H1 ex W1 h1 => ?_⟩
  cases b with
  | true => exact iteT (h1.ok W1)
  | false => exact iteF ⟨B, w1, δ, st1, W1, h1⟩
theorem se_not (hK : X.K = K) {a : Expr} {a' : E} {pos : Pos} (h : PE X a (tP K T G C W a')) : PE X (.UnaryOp .Not a pos) (tE K T G C W (.not a')) := by
  subst hK
  refine (pe_notT h).to fun σ H Q ⟨B, w, δ, st, Wl, h⟩ => ?_
  simp only [evalE] at h
  refine ⟨B, w, δ, st, Wl, h.bind fun p st1 w1 H1 ex W1 h1 v rv => ?_⟩
  split at h1
  · rename_i b e
    exact ⟨b, W1.truAt rv e, h1.ok W1 _ rfl⟩
  · exact h1.elim
theorem se_one {op : BoolOp} {a : Expr} {a' : E} {pos : Pos} (h : PE X a (tE K T G C W a')) : PE X (.BoolOp op [a] pos) (tE K T G C W a') := pe_one h
theorem se_and {a b : Expr} {rest : List Expr} {a' b' : E} {pos : Pos} (h : PE X a (tE K T G C W a')) (h2 : PE X (.BoolOp .And (b :: rest) pos) (tE K T G C W b')) : PE X (.BoolOp .And (a :: b :: rest) pos) (tE K T G C W (.and a' b')) := by
  refine (pe_and h h2).to fun σ H Q ⟨B, w, δ, st, Wl, h⟩ => ?_
  simp only [evalE] at h
  refine ⟨B, w, δ, st, Wl, h.bind fun d st1 w1 H1 ex W1 h1 v rv => ?_⟩
  split at h1
  · rename_i e
    simp only at e
    subst e
    exact ⟨true, rv, iteT ⟨B, w1, δ, st1, W1, h1⟩⟩
  · rename_i e
    simp only at e
    subst e
    exact ⟨false, rv, iteF (h1.ok W1 _ rfl)⟩
  · exact h1.elim
theorem se_or {a b : Expr} {rest : List Expr} {a' b' : E} {pos : Pos} (h : PE X a (tE K T G C W a')) (h2 : PE X (.BoolOp .Or (b :: rest) pos) (tE K T G C W b')) : PE X (.BoolOp .Or (a :: b :: rest) pos) (tE K T G C W (.or a' b')) := by
  refine (pe_or h h2).to fun σ H Q ⟨B, w, δ, st, Wl, h⟩ => ?_
  simp only [evalE] at h
  refine ⟨B, w, δ, st, Wl, h.bind fun d st1 w1 H1 ex W1 h1 v rv => ?_⟩
  split at h1
  · rename_i e
    simp only at e
    subst e
    exact ⟨false, rv, iteF ⟨B, w1, δ, st1, W1, h1⟩⟩
  · rename_i e
    simp only at e
    subst e
    exact ⟨true, rv, iteT (h1.ok W1 _ rfl)⟩
  · exact h1.elim
theorem se_ife {c a b : Expr} {c' a' b' : E} {pos : Pos} (hc : PT X c (tB K T G C W c')) (ha : PE X a (tE K T G C W a')) (hb : PE X b (tE K T G C W b')) : PE X (.IfExp c a b pos) (tE K T G C W (.ife c' a' b')) := by
  refine (pe_ifExp hc ha hb).to fun σ H Q ⟨B, w, δ, st, Wl, h⟩ => ?_
  simp only [evalE] at h
  refine ⟨B, w, δ, st, Wl, h.bind fun b st1 w1 H1 ex W1 h1 => ?_⟩
  cases b with
  | true => exact iteT ⟨B, w1, δ, st1, W1, h1⟩
  | false => exact iteF ⟨B, w1, δ, st1, W1, h1⟩

theorem IxR.ors {r r' : R2} (h : IxR X r) (h' : IxR X r') : IxR X (fun x y H Q => r x y H Q ∨ r' x y H Q) := h.or h'
theorem se_ix (hK : X.K = K) {a b : Expr} {a' b' : E} {pos : Pos} (ha : PE X a (tP K T G C W a')) (hb : PE X b (tE K T G C W b')) (hp : PlainIx b) : PE X (.Subscript a b pos) (tE K T G C W (.ix a' b')) := by
  subst hK
  refine (pe_ix (ix_list.or ix_tup) ha hb hp).to fun σ H Q ⟨B, w, δ, st, Wl, h⟩ => ?_
  simp only [evalE] at h
  refine ⟨B, w, δ, st, Wl, h.bind fun p st1 w1 H1 ex W1 h1 v rv => ⟨B, w1, δ, st1, W1, h1.bind fun y st2 w2 H2 ex2 W2 h2 u ru => ?_⟩⟩
  split at h2
  · rename_i ds e
    split at h2
    · rename_i i e2
      simp only at e2
      subst e2
      split at h2
      · rename_i j e3
        split at h2
        · rename_i d e4
          obtain ⟨a, xs, ev, q, rs⟩ := W2.seqAt (rv.up ex2.up) e
          obtain ⟨x, hx, rx⟩ := rs.get e4
          have at_ : atI xs i = some x := by
            unfold atI
            rw [rs.length, show ixN ds.length i = ixn ds.length i from rfl, e3]
            exact hx
          have fin := h2.ok W2 x rx
          rcases q with q | q
          · exact .inl ⟨a, xs, i, x, ev, ru, q, at_, fin⟩
          · exact .inr ⟨a, xs, i, x, ev, ru, q, at_, fin⟩
        · exact h2.elim
      · exact h2.elim
    · exact h2.elim
  · exact h2.elim
theorem so_no : PO X none (tOp K T G C W .no) := po_none.to fun σ H Q ⟨B, w, δ, st, Wl, h⟩ => by
  simp only [evalO] at h
  exact h.ok Wl
theorem so_some {e : Expr} {e' : E} (h : PE X e (tE K T G C W e')) : PO X (some e) (tOp K T G C W (.some e')) := (po_some h).to fun σ H Q ⟨B, w, δ, st, Wl, h⟩ => by
  simp only [evalO] at h
  refine ⟨B, w, δ, st, Wl, h.bind fun d st1 w1 H1 ex W1 h1 v rv => ?_⟩
  split at h1
  · rename_i i e
    simp only at e
    subst e
    exact ⟨i, rv, h1.ok W1⟩
  · exact h1.elim
theorem sIx_HT (n d : Nat) (o : Option Int) : HT.sIx n d o = sIx n d o := by cases o <;> rfl
theorem cut_reps {w : Wd} {ds : List D} {xs : List V} (r : Reps K T w ds xs) (lo hi : Option Int) : Reps K T w (cut ds lo hi) (cutV xs lo hi) := by
  unfold cut cutV
  rw [r.length, sIx_HT, sIx_HT]
  exact (r.drop _).take _
theorem sn_sl (hK : X.K = K) {a : Expr} {lo hi : Option Expr} {a' : E} {lo' hi' : Eo} {p2 pos : Pos} (ha : PE X a (tP K T G C W a')) (h1 : PO X lo (tOp K T G C W lo')) (h2 : PO X hi (tOp K T G C W hi')) : PE X (.Subscript a (.Slice lo hi none p2) pos) (tN K T G C W (.sl a' lo' hi')) := by
  subst hK
  refine (pe_slice (sl_list.or sl_tup) ha h1 h2).to fun σ H Q ⟨B, w, δ, st, Wl, h⟩ => ?_
  simp only [evalE] at h
  refine ⟨B, w, δ, st, Wl, h.bind fun p st1 w1 H1 ex W1 h1 v rv => ⟨B, w1, δ, st1, W1, h1.bind fun l st2 w2 H2 ex2 W2 h2 => ⟨B, w2, δ, st2, W2, h2.bind fun u st3 w3 H3 ex3 W3 h3 => ?_⟩⟩⟩
  have exx := (ex.trans ex2).trans ex3
  have rv3 := (rv.up ex2.up).up ex3.up
  split at h3
  · rename_i ds e
    obtain ⟨a, xs, ev, q, rs⟩ := W3.lstAt rv3 e
    refine .inl ⟨a, xs, ev, q, fun p hp => ?_⟩
    obtain ⟨a, b, c⟩ := new_list exx W3 hp (back_none exx hp) (cut_reps rs l u)
    exact h3 _ _ (Ext.grow hp) b p c
  · rename_i en
    split at h3
    · rename_i ds e
      split at h3
      · exact h3.elim
      · rename_i nw
        obtain ⟨a, xs, ev, q, rs⟩ := W3.tupAt rv3 en e
        refine .inr ⟨a, xs, ev, q, by rw [rs.length, sIx_HT, sIx_HT]; exact nw, fun p hp => ?_⟩
        obtain ⟨a, b, c⟩ := new_tup (σ := σ) W3 hp (cut_reps rs l u)
        exact h3 _ _ a b _ c
    · exact h3.elim
theorem zip_lookup : ∀ {ns : List Str} {xs : List V} {k : Nat} {f : Str} {x : V}, ns.Nodup → ns[k]? = some f → xs[k]? = some x → (ns.zip xs).lookup f = some x
  | [], _, _, _, _, _, h, _ => by simp at h
  | _ :: _, [], _, _, _, _, _, h => by simp at h
  | n :: ns, x :: xs, 0, f, y, _, h1, h2 => by
    simp at h1 h2
    subst h1 h2
    simp
  | n :: ns, x :: xs, k + 1, f, y, nd, h1, h2 => by
    have nd' := List.nodup_cons.mp nd
    have h1' : ns[k]? = some f := by simpa using h1
    have ne : (f == n) = false := beq_eq_false_iff_ne.mpr fun e => nd'.1 (e ▸ List.mem_of_getElem? h1')
    rw [List.zip_cons_cons, List.lookup_cons, ne]
    exact zip_lookup nd'.2 h1' (by simpa using h2)
structure ClOk (K : PySem.W.Frag) (T : Txc) (c : Cl) : Prop where
  cls : Cls K (T.cl c)
  nd : (T.flds c).Nodup
  no : ∀ f ∈ T.flds c, NoAttr K (T.cl c) f
theorem se_fld (hK : X.K = K) {a : Expr} {a' : E} {c : Cl} {k : Nat} {f : Str} {pos : Pos} (co : ClOk K T c) (hf : (T.flds c)[k]? = some f) (ha : PE X a (tP K T G C W a')) (hb : attributeBase a f X.env (eval a X.env) = eval a X.env) :
    PE X (.Attribute a f pos) (tE K T G C W (.fld a' c k)) := by
  subst hK
  refine (pe_fld ha hb).to fun σ H Q ⟨B, w, δ, st, Wl, h⟩ => ?_
  simp only [evalE] at h
  refine ⟨B, w, δ, st, Wl, h.bind fun p st1 w1 H1 ex W1 h1 v rv => ?_⟩
  split at h1
  · rename_i ds e
    split at h1
    · rename_i d e2
      obtain ⟨a, dx, xs, ev, hq, _, rs⟩ := W1.insAt rv e
      obtain ⟨x, hx, rx⟩ := rs.get e2
      exact ⟨a, T.cl c, dx, _, x, ev, hq, co.cls, co.no f (List.mem_of_getElem? hf), zip_lookup co.nd hf hx, h1.ok W1 x rx⟩
    · exact h1.elim
  · exact h1.elim
end
end Qk

set_option linter.all false
set_option maxHeartbeats 2000000
set_option maxRecDepth 100000
namespace Qk
open PySem PySem.Spec PyProof.Rows L2
theorem takes_noneN {X : Cx} : L2N.Takes X (fun _ _ _ _ => False) := fun _ _ ⟨_, _, _, _, _, _, _, _, _, _, _, _, _, _, _, _, w⟩ => w.elim
section
variable {X : Cx} {e : Expr} {es : List Expr} {ta : TA} {p pos : Pos}
theorem pmk_oexN {CX : CXT} {x : Str} {C fI : Addr} {k : Nat} {fd : FuncData} {ps : List Str} {sp : Sp} (T : OexC X.K C) (iC : PySem.W.findIn X.K (.ref C) "__init__" = some (some (.ref fI))) (tI : PySem.W.typeIn X.K (.ref fI) = some (.type "function"))
    (F1 : FnOk X.prog X.w X.K X.mg X.base CX k fI fd ps sp) (hr : Room (k + 1) X.A) (hb : Binds X.K fd ps []) (hx : Passes CX X (fun _ _ _ => False)) (hg : Gl X x) (hm : X.mg x = some (.ref C)) (ha : PA X (e :: es) ta)
    (hdb : (x == ("__debug__" : Str)) = false) (he : starEach (e :: es) X.env = (false, eval e X.env) :: starEach es X.env) (hpl : (backTo pos (starEach es X.env)).any (·.1) = false) :
    L2N.PMk X (.Call (.Name x p) (e :: es) [] pos) (tMkO C sp [] ta) := by
  intro pins s σ H Q I h
  obtain ⟨nm, q, N, bs, bm, sn, sub, ab, col, dd, k0, k1, k2, k3, k5, hC, hbm⟩ := T.cls
  refine wpAny_Call_Name_kw (ld_glob I hg hm ?_ hdb)
  refine PySem.W.callWith_K (h₀ := X.base) I.ok.mod.kin T.kC (thn (ha.run pos pins s σ H _ I h) fun us s1 ⟨vs, H1, I1, r1, hz, q1⟩ => ⟨I1.kIn, ?_⟩) he hpl
  show wpAny _ _ (call (.ref C) us) _ _ _
  obtain ⟨hp, g, dr, tk, os⟩ := s1
  have hsz : hp.objs.size ≤ hp.objs.size + 1 := Nat.le_succ _
  have hn : H1 (hp.objs.size + 1) = none := I1.hok.fresh hsz
  have hq := q1 (hp.objs.size + 1) hn
  rw [List.append_nil] at hq
  have kk : ∀ b o, hp.get? b = some o → ((hp.push (PySem.W.kdv_tup us)).push (PySem.HandSPX.excO C hp.objs.size)).get? b = some o := fun b o e => Heap.get?_push_of_some _ (Heap.get?_push_of_some _ e)
  have hget : ((hp.push (PySem.W.kdv_tup us)).push (PySem.HandSPX.excO C hp.objs.size)).get? (hp.objs.size + 1) = some (PySem.HandSPX.excO C hp.objs.size) := by heap_get
  have I2 : Inv X pins σ (upd H1 (hp.objs.size + 1) (exo (hp.objs.size + 1) C none)) ⟨(hp.push (PySem.W.kdv_tup us)).push (PySem.HandSPX.excO C hp.objs.size), g, dr, tk, os⟩ :=
    I1.laid (t' := tk) (a := hp.objs.size + 1) (o := exo (hp.objs.size + 1) C none) (h' := (hp.push (PySem.W.kdv_tup us)).push (PySem.HandSPX.excO C hp.objs.size)) kk hsz (exo_ok hget)
  have r2 : Vals (V.ref (hp.objs.size + 1) :: vs) (Value.ref (hp.objs.size + 1) :: us) := .cons rfl r1
  have hl : (Value.ref (hp.objs.size + 1) :: us ++ []).length = ps.length := by
    have e := r2.length
    rw [F1.len _ _ _ _ hq] at e
    rw [List.append_nil]
    exact e.symm
  have hus : us.length ≤ sizeLine := by
    rw [← Paired.length r1, sizeLine_eq]
    omega
  have b2 := hb _ (Value.ref (hp.objs.size + 1) :: us) I2.kIn hl
  rw [List.append_nil] at b2
  refine wpAny_call (PySem.HandSPX.call_own F.excBase_ValueError (fun Y => PySem.HandSPX.refsVE_contains Y bm hbm) (I1.kIn _ _ hC) (PySem.W.looks_findIn I1.kIn iC) (fun self => PySem.W.bind_fn I1.kIn self tI) hus
    (codeAny_mono (F1.run _ X.stack _ _ ⟨Value.ref (hp.objs.size + 1) :: us, []⟩ (Value.ref (hp.objs.size + 1) :: us) _ _ (fun _ _ _ => False) (hr.make C us []) (I2.env0.make C us []) b2 r2 hq) fun r s' hq' => ?_))
  cases r with
  | error er => exact hx pins σ _ _ er s' I2 hq'
  | ok fl =>
    cases fl with
    | ret u =>
      obtain ⟨v, H2, os2, bare2, un2, hok2, rv, ev, d, fs, ea, ed, hd1, q2⟩ := hq'
      subst ev
      obtain ⟨h2, g2, d2, t2, os'⟩ := s'
      obtain ⟨t0, G, J, kG, ge, hoe, na⟩ := mk_end0 (d2 := d2) (t2 := t2) I1 hsz kk un2 hok2 os2 bare2 ea ed hd1
      refine ⟨rv, ⟨hp.objs.size + 1, _, _, ⟨G, g2, d2, t2, os'⟩, _, .ref C, some d, rfl, J, kG, ge, hoe, ⟨rfl, rfl, fun vs hv => ?_⟩, rfl, rfl, na, rfl, bare2, raises_own T.exC T.tyC, q2⟩⟩
      cases hv
      rfl
    | next => exact False.elim hq'
    | brk => exact False.elim hq'
    | cont => exact False.elim hq'
end
end Qk

set_option linter.all false
set_option maxHeartbeats 2000000
set_option maxRecDepth 100000
namespace Qk
open PySem L2

def spOf (K : PySem.W.Frag) (T : Txc) (n : Nat) (F : Fn) : Sp := fun vs H Q E => vs.length = n ∧ ∃ w ds st, StOk K T w st H ∧ Reps K T w ds vs ∧
  match F ds st with
  | .ok (d, st') => ∀ w' H' v, Ext w H w' H' → StOk K T w' st' H' → Rep K T w' d v → Q v H'
  | .exc c es st' => ∀ w' H' dx, Ext w H w' H' → StOk K T w' st' H' → ExR K T w' c es dx H H' → E (.ref (T.cl c)) dx H'
  | .stuck => False
def spNew (K : PySem.W.Frag) (T : Txc) (c : Cl) (n : Nat) (F : Fn) : Sp := fun vs H Q E => vs.length = n + 1 ∧ ∃ x dx us H0 w ds st, vs = .ref x :: us ∧ H0 x = none ∧ H0 dx = none ∧ dx ≠ x ∧ H = upd (upd H0 dx (.own x)) x (.ins (T.cl c) dx []) ∧
  StOk K T w st H0 ∧ Reps K T w ds us ∧
  match F ds st with
  | .ok (d, st') => ∀ w' H', Ext w H0 w' H' → StOk K T w' st' H' → Rep K T w' d (.ref x) → Q .non H'
  | .exc c es st' => ∀ w' H' dx, Ext w H0 w' H' → StOk K T w' st' H' → ExR K T w' c es dx H0 H' → E (.ref (T.cl c)) dx H'
  | .stuck => False

def FnF (X : Cx) (T : Txc) (x : Str) (n : Nat) (F : Fn) : Prop := ∃ f fd ps k, FnOk X.prog X.w X.K X.mg X.base (L2N.CX X.prog X.w) k f fd ps (spOf X.K T n F) ∧ Room k X.A ∧ X.mg x = some (.ref f) ∧ PySem.W.keepIn X.K (.ref f) = true ∧ Binds X.K fd ps []
def NewF (X : Cx) (T : Txc) (x : Str) (c : Cl) (n : Nat) (F : Fn) : Prop := ∃ f fd ps k, Mk X.K (T.cl c) f ∧ FnOk X.prog X.w X.K X.mg X.base (L2N.CX X.prog X.w) k f fd ps (spNew X.K T c n F) ∧ Room (k + 1) X.A ∧ X.mg x = some (.ref (T.cl c)) ∧ Binds X.K fd ps []
def MetF (X : Cx) (T : Txc) (c : Cl) (m : Str) (n : Nat) (F : Fn) : Prop := ∃ f fd ps k, Cls X.K (T.cl c) ∧ Meth X.K (T.cl c) m f ∧ m ∉ T.flds c ∧ FnOk X.prog X.w X.K X.mg X.base (L2N.CX X.prog X.w) k f fd ps (spOf X.K T (n + 1) F) ∧ Room k X.A ∧ Binds X.K fd ps []

section
variable {K : PySem.W.Frag} {T : Txc} {G : List Fn} {C : List Int} {W : WX} {X : Cx}
theorem sp_call {n : Nat} {F : Fn} {B : Hp} {w : Wd} {δ : Sls} {st : Sto} {σ : St} {H : Hp} {ds : List D} {vs : List V} {Q : VK} (hn : vs.length = n) (Wl : World K T B w δ st σ H) (rs : Reps K T w ds vs)
    (h : Aft K T W B δ σ w H (F ds st) fun w' H' d => ∀ v, Rep K T w' d v → Q v H') : spOf K T n F vs H Q (WE W σ) := by
  refine ⟨hn, w, ds, st, Wl.st, rs, ?_⟩
  cases e : F ds st with
  | stuck => rw [e] at h; exact h
  | exc c es st' => rw [e] at h; exact fun w' H' dx ex so r => h w' H' dx ex (Wl.ext ex so) r
  | ok q =>
    obtain ⟨d, st'⟩ := q
    rw [e] at h
    exact fun w' H' v ex so r => h w' H' ex (Wl.ext ex so) v r
theorem es_plain {e : Expr} {es : List Expr} {env : PySem.Env} {pos : Pos} (h : ∀ x ∈ e :: es, ∀ a p, x ≠ .Starred a p) : starEach (e :: es) env = (false, eval e env) :: starEach es env ∧ (backTo pos (starEach es env)).any (·.1) = false := by
  have one : ∀ (x : Expr) (r : List Expr), (∀ a p, x ≠ .Starred a p) → starEach (x :: r) env = (false, eval x env) :: starEach r env := fun x r hx => by
    cases x <;> first | rfl | exact absurd rfl (hx _ _)
  have all : ∀ r : List Expr, (∀ x ∈ r, ∀ a p, x ≠ .Starred a p) → (starEach r env).any (·.1) = false := by
    intro r
    induction r with
    | nil => intro _; rfl
    | cons x r ih =>
      intro hx
      rw [one x r (hx x List.mem_cons_self), List.any_cons, ih fun y hy => hx y (List.mem_cons_of_mem _ hy)]
      rfl
  refine ⟨one e es (h e List.mem_cons_self), ?_⟩
  have a := all es fun y hy => h y (List.mem_cons_of_mem _ hy)
  have bt : ∀ (l : List (Bool × Sem Value)), (backTo pos l).any (·.1) = l.any (·.1) := fun l => by
    unfold backTo
    induction l with
    | nil => rfl
    | cons x l ih => simp_all
  rw [bt]
  exact a
theorem se_call (hK : X.K = K) (tk : L2N.Takes X W) {x : Str} {e : Expr} {es : List Expr} {es' : Es} {f : Nat} {n : Nat} {F : Fn} {p pos : Pos} (ff : FnF X T x n F) (hf : G[f]? = some F) (hg : Gl X x) (ha : PA X (e :: es) (tAs K T G C W es')) (hn : es'.len = n)
    (hd : (x == ("__debug__" : Str)) = false) (hp : ∀ y ∈ e :: es, ∀ a p, y ≠ .Starred a p) : PE X (.Call (.Name x p) (e :: es) [] pos) (tE K T G C W (.call f es')) := by
  subst hK
  obtain ⟨a, fd, ps, k, fo, hr, hm, hk, hb⟩ := ff
  obtain ⟨h1, h2⟩ := es_plain (env := X.env) (pos := pos) hp
  refine (pe_callS (E := WE W) fo hr hg hm hk hb (L2N.passAt tk) ha hd h1 h2).to fun σ H Q ⟨B, w, δ, st, Wl, h⟩ => as_then Wl ?_
  simp only [evalE] at h
  refine h.bind fun ds st1 w1 H1 ex W1 h1 hlen vs rs => ?_
  simp only [hf] at h1
  exact sp_call (by rw [rs.length, hlen, hn]) W1 rs h1
theorem run_makeAt {pins : List (Addr × Obj)} {σ : St} {H : Hp} {s : Shared} {Q : VK} {us : List Value} {vs : List V} {CX : CXT} {k : Nat} {f Ca : Addr} {fd : FuncData} {ps : List Str} {sp : Sp} {E : XK} (M : Mk X.K Ca f)
    (F : FnOk X.prog X.w X.K X.mg X.base CX k f fd ps sp) (hr : Room (k + 1) X.A) (hb : Binds X.K fd ps []) (hx : PassesAt CX X σ E) (I : Inv X pins σ H s) (r : Vals vs us)
    (h : ∀ x dx, H x = none → H dx = none → dx ≠ x → sp (.ref x :: vs) (upd (upd H dx (.own x)) x (.ins Ca dx [])) (fun v H2 => v = .non ∧ Q (.ref x) H2) E) : wpAny (model X.prog X.w) X.A (call (.ref Ca) us) (EP X pins σ Q) X.xe s := by
  let N := s.heap.objs.size
  have q0 := h (N + 1) N (I.hok.fresh (Nat.le_succ _)) (I.hok.fresh (Nat.le_refl _)) (Nat.ne_of_lt (Nat.lt_succ_self _))
  have J := Inv.made (C := Ca) I
  have rr : Vals (V.ref (N + 1) :: vs) (Value.ref (N + 1) :: us) := .cons rfl r
  have ln : (Value.ref (N + 1) :: us).length = ps.length := rr.length.symm.trans (F.len _ _ _ _ q0)
  have bn := hb _ (Value.ref (N + 1) :: us) J.kIn (by rw [List.append_nil]; exact ln)
  rw [List.append_nil] at bn
  refine wpAny_call (make_map (f := f) I.kIn M.makes M.init (beq_iff_eq.mp M.fn) (codeAny_mono (F.run _ X.stack _ _ ⟨Value.ref (N + 1) :: us, []⟩ _ _ _ E (hr.make Ca us []) (J.env0.make Ca us []) bn rr q0) fun z s' hz => ?_))
  cases z with
  | error e => exact hx pins _ _ e s' J hz
  | ok fl =>
    cases fl with
    | ret u =>
      obtain ⟨v, H', J', rv, ev, q⟩ := J.after hz
      subst ev
      exact ⟨rv, .ref (N + 1), H', J', rfl, q⟩
    | next => exact False.elim hz
    | brk => exact False.elim hz
    | cont => exact False.elim hz
theorem se_new (hK : X.K = K) (tk : L2N.Takes X W) {x : Str} {c : Cl} {e : Expr} {es : List Expr} {es' : Es} {f : Nat} {n : Nat} {F : Fn} {p pos : Pos} (ff : NewF X T x c n F) (hf : G[f]? = some F) (hg : Gl X x) (ha : PA X (e :: es) (tAs K T G C W es')) (hn : es'.len = n)
    (hd : (x == ("__debug__" : Str)) = false) (hp : ∀ y ∈ e :: es, ∀ a p, y ≠ .Starred a p) : PE X (.Call (.Name x p) (e :: es) [] pos) (tE K T G C W (.new f es')) := by
  subst hK
  obtain ⟨a, fd, ps, k, M, fo, hr, hm, hb⟩ := ff
  obtain ⟨h1, h2⟩ := es_plain (env := X.env) (pos := pos) hp
  refine ⟨fun pins s σ H Q I ⟨B, w, δ, st, Wl, h⟩ => ?_⟩
  refine wpAny_Call_Name_kw (ld_glob I hg hm ?_ hd)
  simp only [evalE] at h
  have hA : tAs X.K T G C W es' σ H (fun vs H1 => ∀ x dx, H1 x = none → H1 dx = none → dx ≠ x → spNew X.K T c n F (.ref x :: vs) (upd (upd H1 dx (.own x)) x (.ins (T.cl c) dx [])) (fun v H2 => v = .non ∧ Q (.ref x) H2) (WE W σ)) := by
    refine as_then Wl (h.bind fun ds st1 w1 H1 ex W1 h1 hlen vs rs y dx ny nd ne => ?_)
    simp only [hf] at h1
    refine ⟨by rw [List.length_cons, rs.length, hlen, hn], y, dx, vs, H1, w1, ds, st1, rfl, ny, nd, ne, rfl, W1.st, rs, ?_⟩
    cases er : F ds st1 with
    | stuck => rw [er] at h1; exact h1
    | exc c es st' => rw [er] at h1; exact fun w' H' dx ex so r => h1 w' H' dx ex (W1.ext ex so) r
    | ok q =>
      obtain ⟨d, st'⟩ := q
      rw [er] at h1
      exact fun w' H' ex so r => ⟨rfl, h1 w' H' ex (W1.ext ex so) _ r⟩
  exact PySem.W.callWith_K (h₀ := X.base) I.ok.mod.kin M.kp (thn (ha.run pos pins s σ H _ I hA) fun us s1 ⟨vs, H1, I1, r, q⟩ => ⟨I1.kIn, run_makeAt M fo hr hb (L2N.passAt tk σ) I1 r q⟩) h1 h2
def plO : Expr → Bool
  | .Name .. => true
  | .Attribute .. => true
  | .Subscript .. => true
  | _ => false
theorem base_plain {o : Expr} {f : Str} {env : PySem.Env} (h : plO o = true) : attributeBase o f env (eval o env) = eval o env := by
  cases o <;> first | rfl | (simp [plO] at h; done)
theorem flds_none {ns : List Str} {xs : List V} {m : Str} (h : m ∉ ns) : (ns.zip xs).lookup m = none := by
  induction ns generalizing xs with
  | nil => rfl
  | cons n ns ih =>
    cases xs with
    | nil => rfl
    | cons x xs =>
      rw [List.zip_cons_cons, List.lookup_cons, show (m == n) = false from beq_eq_false_iff_ne.mpr fun e => h (e ▸ List.mem_cons_self)]
      exact ih fun q => h (List.mem_cons_of_mem _ q)
theorem se_meth (hK : X.K = K) (tk : L2N.Takes X W) {m : Str} {c : Cl} {o e : Expr} {es : List Expr} {o' : E} {es' : Es} {f : Nat} {n : Nat} {F : Fn} {apos pos : Pos} (ff : MetF X T c m n F) (hf : G[f]? = some F) (ho : PE X o (tE K T G C W o')) (ha : PA X (e :: es) (tAs K T G C W es')) (hn : es'.len = n)
    (hp : ∀ y ∈ e :: es, ∀ a p, y ≠ .Starred a p) (hpl : ∃ pl, eval (.Call (.Attribute o m apos) (e :: es) [] pos) X.env = (do
      let ov ← eval o X.env
      standAt apos.atName
      let (f, first) ← holding [ov] (getMethod ov m pl)
      callWith pos f first (backTo pos (starEach (e :: es) X.env)) (backToKw pos (keywordEach [] X.env)))) : PE X (.Call (.Attribute o m apos) (e :: es) [] pos) (tE K T G C W (.meth f c o' es')) := by
  subst hK
  obtain ⟨a, fd, ps, k, cls, met, nf, fo, hr, hb⟩ := ff
  obtain ⟨h1, h2⟩ := es_plain (env := X.env) (pos := pos) hp
  obtain ⟨pl, ht⟩ := hpl
  refine ⟨fun pins s σ H Q I ⟨B, w, δ, st, Wl, h⟩ => ?_⟩
  simp only [evalE] at h
  have hO : tE X.K T G C W o' σ H (fun v H1 => ∃ b dx fs, v = .ref b ∧ H1 b = some (.ins (T.cl c) dx fs) ∧ fs.lookup m = none ∧ tAs X.K T G C W es' σ H1 fun vs H2 => spOf X.K T (n + 1) F (v :: vs) H2 Q (WE W σ)) := by
    refine ⟨B, w, δ, st, Wl, h.bind fun d st1 w1 H1 ex W1 h1 v rv => ?_⟩
    split at h1
    · rename_i fs e
      obtain ⟨b, dx, xs, ev, hq, _, _⟩ := W1.insAt (p := .d d) rv e
      refine ⟨b, dx, _, ev, hq, flds_none nf, as_then W1 (h1.bind fun ds st2 w2 H2 ex2 W2 h2 hlen vs rs => ?_)⟩
      simp only [hf] at h2
      exact sp_call (by rw [List.length_cons, rs.length, hlen, hn]) W2 (ds := d :: ds) ⟨rv.up ex2.up, rs⟩ h2
    · exact h1.elim
  refine PySem.W.methodCall_KW (pl := pl) (thn (ho.run pins s σ H _ I hO) fun u s1 ⟨x, H1, I1, rx, b, dx, fs, ex, eb, l, q⟩ => ?_) ht
  subst ex
  cases rx
  refine getmeth_ok I1 eb cls met l ?_
  exact PySem.W.callWith_K (first := [.ref b]) (h₀ := X.base) I.ok.mod.kin met.kp (thn (ha.run pos pins s1 σ H1 _ I1 q) fun us s2 ⟨vs, H2, I2, r, q2⟩ => ⟨I2.kIn, run_fnS (us := .ref b :: us) (vs := .ref b :: vs) fo hr hb (L2N.passAt tk σ) I2 (.cons rfl r) q2⟩) h1 h2
theorem form_plain {es : List Expr} {env : PySem.Env} {pos : Pos} (h : ∀ x ∈ es, ∀ a p, x ≠ .Starred a p) : (backTo pos (starEach es env)).all (!·.1) = true := by
  have bt : ∀ (l : List (Bool × Sem Value)), (backTo pos l).all (!·.1) = l.all (!·.1) := fun l => by
    unfold backTo
    induction l with
    | nil => rfl
    | cons x l ih => simp_all
  rw [bt]
  induction es with
  | nil => rfl
  | cons x r ih =>
    have hx : starEach (x :: r) env = (false, eval x env) :: starEach r env := by
      have := h x List.mem_cons_self
      cases x <;> first | rfl | exact absurd rfl (this _ _)
    rw [hx, List.all_cons, ih fun y hy => h y (List.mem_cons_of_mem _ hy)]
    rfl
theorem meth_plain {o e : Expr} {m : Str} {es : List Expr} {apos pos : Pos} {env : PySem.Env} (h : plO o = true) (hp : ∀ x ∈ e :: es, ∀ a p, x ≠ .Starred a p) (hn : es.length < 20) (hl : (apos.endLine == pos.line) = true) :
    ∃ pl, eval (.Call (.Attribute o m apos) (e :: es) [] pos) env = (do
      let ov ← eval o env
      standAt apos.atName
      let (f, first) ← holding [ov] (getMethod ov m pl)
      callWith pos f first (backTo pos (starEach (e :: es) env)) (backToKw pos (keywordEach [] env))) := by
  refine ⟨do return (← importBound o env).getD true, ?_⟩
  have hf : methodCallForm ((e :: es).length + ([] : List Keyword).length) (backTo pos (starEach (e :: es) env)) (backToKw pos (keywordEach [] env)) = true := by
    unfold methodCallForm
    rw [form_plain hp]
    show (true && true && decide ((e :: es).length + 0 + 0 < 30)) = true
    simp only [List.length_cons, Bool.true_and, decide_eq_true_eq]
    omega
  rw [PySem.arm_eval_Call, base_plain h]
  congr 1
  funext ov
  congr 1
  funext _
  unfold methodCall
  rw [hf]
  unfold methodCallPos
  rw [hl]
  rfl
end
end Qk

set_option linter.all false
set_option maxHeartbeats 2000000
set_option maxRecDepth 100000
namespace Qk
open PySem L2

abbrev noE : XK := fun _ _ _ => False
theorem cx_false {P : Program} {w : PySem.World} {outer : List PySem.Env} {H : Hp} {s s' : Shared} {e : Value} (c : L2N.CX P w outer H s noE e s') : False := by
  obtain ⟨_, _, _, _, _, _, _, _, _, _, _, _, z⟩ := c
  exact z
structure Dun (K : PySem.W.Frag) (Ca : Addr) (m : Str) (f : Addr) : Prop where
  at_ : PySem.W.findIn K (.ref Ca) m = some (some (.ref f))
  fn : PySem.W.isFn K (.ref f) = true

section
variable {X : Cx} {k : Nat} {f Ca : Addr} {fd : FuncData} {ps : List Str} {sp : Sp} {A : Around} {E : Value → Shared → Prop}
theorem run_calm {pins : List (Addr × Obj)} {σ : St} {H : Hp} {s : Shared} {Q : VK} {us : List Value} {vs : List V} (F : FnOk X.prog X.w X.K X.mg X.base (L2N.CX X.prog X.w) k f fd ps sp) (hr : Room k A) (hb : Binds X.K fd ps [])
    (e0 : Env0 X.prog X.w X.K X.mg X.base A X.stack s H) (I : Inv X pins σ H s) (r : Vals vs us) (h : sp vs H Q noE) : wpAny (model X.prog X.w) A (call (.ref f) us) (EP X pins σ Q) E s := by
  have hl : us.length = ps.length := r.length.symm.trans (F.len _ _ _ _ h)
  have b := hb s us I.kIn (by simpa using hl)
  rw [List.append_nil] at b
  refine wpAny_call (codeAny_mono (F.run A X.stack s H ⟨us, []⟩ us vs Q noE hr e0 b r h) fun z s' hz => ?_)
  cases z with
  | error e => exact (cx_false hz).elim
  | ok fl =>
    cases fl with
    | ret u => exact I.after hz
    | _ => exact hz.elim
theorem inst_of {pins : List (Addr × Obj)} {σ : St} {H : Hp} {s : Shared} {a dx : Addr} {fs : List (Str × V)} (I : Inv X pins σ H s) (e : H a = some (.ins Ca dx fs)) : ∃ ox od, PySem.W.InstAt s.heap a ox Ca od := by
  obtain ⟨mA, J, _⟩ := ins_get I.hok e
  obtain ⟨od, J, _⟩ := J.look
  exact ⟨_, _, J⟩
def rDLen (C : Addr) (sp : Sp) : List V → Hp → VK → Prop := fun xs H Q => ∃ a dx fs, xs = [.ref a] ∧ H a = some (.ins C dx fs) ∧ sp [.ref a] H (fun v H' => ∃ n : Int, v = .int n ∧ 0 ≤ n ∧ n < 2 ^ 63 ∧ Q (.int n) H') noE
theorem call_dlen (D : Dun X.K Ca "__len__" f) (F : FnOk X.prog X.w X.K X.mg X.base (L2N.CX X.prog X.w) k f fd ps sp) (hr : Room (k + 1) X.A) (hb : Binds X.K fd ps []) : CallR X (.builtin "len") (rDLen Ca sp) := by
  intro pins s σ H xs us Q I r h
  obtain ⟨a, dx, fs, rfl, e, q⟩ := h
  cases r with
  | cons rx rr =>
    cases rr
    cases rx
    obtain ⟨ox, od, J⟩ := inst_of I e
    obtain ⟨m, hF⟩ := I.fr
    refine PySem.W.len_K hF I.ok.mod.kin J D.at_ D.fn (wpAny_mono (run_calm (vs := [.ref a]) F hr.in1 hb I.env0.in1 I (.cons rfl .nil) q) (fun u s' hu => ?_) fun _ _ z => z)
    obtain ⟨v, H', I', rv, n, rfl, h0, h1, q'⟩ := hu
    obtain ⟨t, rfl⟩ := rv
    exact ⟨⟨h0, h1⟩, .int n, H', I'.tok _, ⟨_, rfl⟩, q'⟩
def rDIn (C : Addr) (sp : Sp) (neg : Bool) : R2 := fun x y H Q => ∃ a dx fs, y = .ref a ∧ H a = some (.ins C dx fs) ∧ sp [.ref a, x] H (fun v H' => ∃ b, v = .bl b ∧ Q (.bl (if neg then !b else b)) H') noE
theorem op_din (D : Dun X.K Ca "__contains__" f) (F : FnOk X.prog X.w X.K X.mg X.base (L2N.CX X.prog X.w) k f fd ps sp) (hr : Room k X.A) (hb : Binds X.K fd ps []) : OpR X (compareOp .In) (rDIn Ca sp false) := by
  intro pins s σ H x y v u Q I rx ry h
  obtain ⟨a, dx, fs, rfl, e, q⟩ := h
  cases ry
  obtain ⟨ox, od, J⟩ := inst_of I e
  obtain ⟨m, hF⟩ := I.fr
  refine PySem.W.in_K hF I.ok.mod.kin J D.at_ D.fn (wpAny_mono (run_calm (vs := [.ref a, x]) F hr hb I.env0 I (.cons rfl (.cons rx .nil)) q) (fun u s' hu => ?_) fun _ _ z => z)
  obtain ⟨v, H', I', rv, b, rfl, q'⟩ := hu
  cases rv
  exact wpAny_truthy_bool ⟨.bl b, H', I', rfl, q'⟩
theorem op_dnin (D : Dun X.K Ca "__contains__" f) (F : FnOk X.prog X.w X.K X.mg X.base (L2N.CX X.prog X.w) k f fd ps sp) (hr : Room k X.A) (hb : Binds X.K fd ps []) : OpR X (compareOp .NotIn) (rDIn Ca sp true) := by
  intro pins s σ H x y v u Q I rx ry h
  obtain ⟨a, dx, fs, rfl, e, q⟩ := h
  cases ry
  obtain ⟨ox, od, J⟩ := inst_of I e
  obtain ⟨m, hF⟩ := I.fr
  refine PySem.W.notIn_K hF I.ok.mod.kin J D.at_ D.fn (wpAny_mono (run_calm (vs := [.ref a, x]) F hr hb I.env0 I (.cons rfl (.cons rx .nil)) q) (fun u s' hu => ?_) fun _ _ z => z)
  obtain ⟨v, H', I', rv, b, rfl, q'⟩ := hu
  cases rv
  exact wpAny_truthy_bool ⟨.bl (!b), H', I', rfl, q'⟩
theorem notImp {v : V} {u : Value} (r : RelV v u) (Q : Value → Shared → Prop) {s' : Shared} (q : Q u s') : PySem.W.CmpBack Q u s' := by
  cases u <;> first | exact q | (cases v <;> simp [RelV] at r)
def rDBin (C : Addr) (sp : Sp) : R2 := fun x y H Q => ∃ a b dx dy fs gs, x = .ref a ∧ y = .ref b ∧ H a = some (.ins C dx fs) ∧ H b = some (.ins C dy gs) ∧ sp [.ref a, .ref b] H Q noE
theorem op_dcmp (op : CmpOp) (hop : compareOp op = richCompare op) (D : Dun X.K Ca (cmpInfo op).2.1 f) (F : FnOk X.prog X.w X.K X.mg X.base (L2N.CX X.prog X.w) k f fd ps sp) (hr : Room k X.A) (hb : Binds X.K fd ps []) : OpR X (compareOp op) (rDBin Ca sp) := by
  intro pins s σ H x y v u Q I rx ry h
  obtain ⟨a, b, dx, dy, fs, gs, rfl, rfl, ea, eb, q⟩ := h
  cases rx
  cases ry
  obtain ⟨ox, od, J⟩ := inst_of I ea
  obtain ⟨oy, od', J'⟩ := inst_of I eb
  obtain ⟨m, hF⟩ := I.fr
  rw [hop]
  refine PySem.W.cmp_K (tb := .ref Ca) hr.units0 hF I.ok.mod.kin J J'.type (by simp [PySem.W.notFirst]) D.at_ D.fn (wpAny_mono (run_calm (vs := [.ref a, .ref b]) F hr hb I.env0 I (.cons rfl (.cons rfl .nil)) q) (fun u s' hu => ?_) fun _ _ z => z)
  obtain ⟨v, H', I', rv, q'⟩ := hu
  exact notImp rv _ ⟨v, H', I', rv, q'⟩
theorem bin_one {prog : Program} {w : PySem.World} {K : PySem.W.Frag} {h₀ : Heap} {L x y : Addr} {ox oy : Obj} {od od' : Option Obj} {m : Str → Option Value} {s : Shared} {op : Operator} {Q : Value → Shared → Prop}
    (hF : PyProof.Rows.Fr h₀ L s.heap m) (X₀ : K.In h₀) (I : PySem.W.InstAt s.heap x ox Ca od) (J : PySem.W.InstAt s.heap y oy Ca od') (hc : PySem.W.selfFirst K Ca = true) (D : Dun K Ca (PySem.dunder op.info.2) f)
    (h : wpAny (model prog w) A (call (.ref f) [.ref x, .ref y]) (PySem.W.CmpBack Q) E s) : wpAny (model prog w) A (binaryOp op (.ref x) (.ref y)) Q E s := by
  have KI := X₀.keeps hF.keep
  obtain ⟨cd, rest, hcd, hm⟩ := PySem.W.ksp_first hc
  have one := PySem.W.ksp_try KI I D.at_ D.fn h
  rcases hi : op.info with ⟨sym, nm⟩
  have hs := D.at_
  rw [hi] at hs one
  dsimp only at hs one
  obtain ⟨hh, g, d, tt, os⟩ := s
  have T1 : PySem.W.Looks (model prog w) hh (typeOf (.ref x)) (.ref Ca) := I.type
  have T2 : PySem.W.Looks (model prog w) hh (typeOf (.ref y)) (.ref Ca) := J.type
  have T3 : PySem.W.Looks (model prog w) hh (fillsNumberSlot (.ref Ca) nm) true := PySem.W.fills_K KI hcd hm hs
  simp only [binaryOp, hi]
  refine wpAny_holding (wpAny_bind ?_)
  unfold binaryOp1
  refine wpAny_bind (T1.at (wpAny_bind (T2.at (wpAny_bind (T3.at ?_)))))
  simp only [beq_self_eq_true, if_true]
  repeat ((fail_if_success (with_reducible show wpAny _ _ (tryMethod _ _ _) _ _ _)); lk)
  refine wpAny_mono one (fun r s' hr' => ?_) fun _ _ e => e
  obtain ⟨v, rfl, hq⟩ := hr'
  repeat lk
  exact hq
theorem op_dbin (op : Operator) (hc : PySem.W.selfFirst X.K Ca = true) (D : Dun X.K Ca (PySem.dunder op.info.2) f) (F : FnOk X.prog X.w X.K X.mg X.base (L2N.CX X.prog X.w) k f fd ps sp) (hr : Room k X.A) (hb : Binds X.K fd ps []) : OpR X (binaryOp op) (rDBin Ca sp) := by
  intro pins s σ H x y v u Q I rx ry h
  obtain ⟨a, b, dx, dy, fs, gs, rfl, rfl, ea, eb, q⟩ := h
  cases rx
  cases ry
  obtain ⟨ox, od, J⟩ := inst_of I ea
  obtain ⟨oy, od', J'⟩ := inst_of I eb
  obtain ⟨m, hF⟩ := I.fr
  refine bin_one hF I.ok.mod.kin J J' hc D (wpAny_mono (run_calm (vs := [.ref a, .ref b]) F hr hb I.env0 I (.cons rfl (.cons rfl .nil)) q) (fun u s' hu => ?_) fun _ _ z => z)
  obtain ⟨v, H', I', rv, q'⟩ := hu
  exact notImp rv _ ⟨v, H', I', rv, q'⟩
end
end Qk

set_option linter.all false
set_option maxHeartbeats 2000000
set_option maxRecDepth 100000
namespace Qk
open PySem L2

def itObjT (t : Addr) : Obj := { cls := .type "tuple_iterator", data := .fields #[.ref t, .int 0 0] }
def ItT (t it : Addr) : HO := .ext fun h => h.get? it = some (itObjT t)
theorem itT_ok {P : Program} {w : PySem.World} {H : Hp} {h : Heap} {t it : Addr} (e : h.get? it = some (itObjT t)) : ObjOk P w H h it (ItT t it) := ⟨e, ⟨_, e⟩, fun _ _ z keep => keep _ z⟩
theorem iter_tup {prog : Program} {w : PySem.World} {A : Around} {E : Value → Shared → Prop} {s : Shared} {t : Addr} {its : Array Value} {Q : Value → Shared → Prop} (ht : s.heap.IsTuple t its)
    (q : Q (.ref s.heap.objs.size) { s with heap := s.heap.push (itObjT t) }) : wpAny (model prog w) A (call (.builtin "iter") [.ref t]) Q E s := by
  refine Calls.call_function_entry (by decide +kernel) (by decide +kernel) PySem.W.kdk_entry_iter (PySem.W.kdk_args_iter _) ?_
  unfold Builtin.«iter»
  refine wpAny_bind (m := someArgs "iter" 1 2 _) (wpAny_of_eq (a := [Value.ref t]) (by first | rfl | kernel_rfl!) ?_)
  show wpAny _ _ (pyIter (.ref t) >>= _) _ _ _
  exact wpAny_bind (wpAny_pyIter_tuple ht (wpAny_pure ⟨_, rfl, q⟩))
def rIterT (K : PySem.W.Frag) (n : Nat) : List V → Hp → VK → Prop := fun xs H Q => ∃ (t : Addr) (zs : List V), xs = [.ref t] ∧ SqT K H t zs ∧ ∀ it, H it = none → n ≤ it → Q (.ref it) (upd H it (ItT t it))
theorem call_iterT {X : Cx} : CallR X (.builtin "iter") (rIterT X.K X.s_0.heap.objs.size) := by
  intro pins s σ H xs us Q I r h
  obtain ⟨t, zs, rfl, ht, q⟩ := h
  cases r with
  | cons rx rr =>
    cases rr
    cases rx
    obtain ⟨its, rv, pl, hz⟩ := I.tuple ht
    refine iter_tup (show s.heap.IsTuple t its.toArray from pl) ⟨.ref s.heap.objs.size, _, ?_, rfl, q _ (I.hok.fresh (Nat.le_refl _)) I.sz⟩
    exact I.laid (t' := s.toks) (fun _ _ e => Heap.get?_push_of_some _ e) (Nat.le_refl _) (itT_ok (Heap.get?_push_size _ rfl))

theorem run_here {P : Program} {w : PySem.World} {K : PySem.W.Frag} {mg : Str → Option Value} {base : Heap} {CX : CXT} {k : Nat} {f : Addr} {name qual : Str} {params : Arguments} {body : List Stmt} {scope : Scope} {dV kV doc pm cdv ct oc : Value} {an od : Option Addr}
    {osl : Array (Option Value)} {N ps : List Str} (at_ : K.lookup f = some ⟨oc, od, .func (PySem.W.fnOf name qual params body scope dV kV doc pm an cdv ct), osl⟩) (cod : PySem.W.codeIn K cdv qual = true) (FS : FnScope N ps scope)
    {A : Around} {outer : List PySem.Env} {s : Shared} {H : Hp} {us : List Value} {vs : List V} {Q : VK} {E : XK} {args : Args} (rm : Room (k + 1) A) (en : Env0 P w K mg base A outer s H) (bd : BindsTo s (PySem.W.fnOf name qual params body scope dV kV doc pm an cdv ct) args (ps.zip us)) (rv : Vals vs us) (ln : vs.length = ps.length)
    (go : ∃ t, PSs (cxOf CX P w K mg base N qual scope f cdv A outer s H E) body t ∧ t { nx := fun _ H' => Q .non H', rt := Q } (L2.start N vs) H) : codeAny (model P w) A (.call (.ref f) args) (CR CX outer P w H s Q E) s := by
  have inK : K.In s.heap := en.mod.kin.keeps fun b o z => (en.bs b o z).1
  have noL : s.heap.NoLimit := en.mod.nolimit.keeps fun b o z => (en.bs b o z).1
  have kinds : ∀ y ∈ ps.zip us, scope.names.lookup y.1 = some .local ∨ (scope.names.lookup y.1 = some .cell ∧ ((cellsFrom (s.heap.objs.size + 1) scope.names []).lookup y.1).isSome = true) := fun y hy => by
    obtain ⟨n, v⟩ := y
    exact (FS.par n (List.of_mem_zip hy).1).imp id fun c => ⟨c, PySem.W.cellsFrom_some _ _ _ (.inl c)⟩
  obtain ⟨t, ht, goal⟩ := go
  refine codeAny_call_function rm.depth (inK _ _ at_) rfl FS.co FS.gen rfl (PySem.W.codeRec_of inK cod) (bd _ _ _ _ (wpAny_newFunctionEnv_cells FS.kind kinds fun env eq s1 call => ?_))
  cases eq
  have st0 := inv_start (CX := CX) (E := E) FS rm.hd en ln rv call
  refine ⟨noL.keeps call.toInCall.keep, codeAny_func (wpAny_mono (ht.run [] s1 (L2.start N vs) H _ st0 goal) (fun fl s' z => ?_) fun _ _ z => z)⟩
  cases fl with
  | ret u =>
    obtain ⟨v, σ', H', J, r', q'⟩ := z
    exact ⟨v, H', J.os, J.bare, J.base, J.hok, r', q'⟩
  | next =>
    obtain ⟨σ', H', J, q'⟩ := z
    exact ⟨V.non, H', J.os, J.bare, J.base, J.hok, rfl, q'⟩
  | brk => exact z.elim fun _ z => z.elim fun _ z => z.2.elim
  | cont => exact z.elim fun _ z => z.elim fun _ z => z.2.elim

def itB (self fld : Str) (sc : Scope) : List Stmt → Bool
  | [.Return (some (.Call (.Name x _) [.Attribute (.Name y _) g _] [] _)) _] => decide (x = ("iter" : Str)) && decide (y = self) && decide (g = fld) && decide (sc.names.lookup x = some .globalImplicit) && (decide (sc.names.lookup y = some .local) || decide (sc.names.lookup y = some .cell)) && !(y == ("__debug__" : Str)) && !(y == ("__classdict__" : Str))
  | _ => false
structure ItC (K : PySem.W.Frag) (mg : Str → Option Value) (base : Heap) (P : Program) (w : PySem.World) (Ca f : Addr) (fld : Str) : Prop where
  d : Dun K Ca "__iter__" f
  cls : Cls K Ca
  no : NoAttr K Ca fld
  bi : mg "iter" = none
  ex : ∃ (qual : Str) (st : Stmt) (fd : FuncData) (self : Str) (N : List Str), Fun K "__iter__" qual st f fd ∧ Binds K fd [self] [] ∧ FnScope N [self] (defScope st) ∧ itB self fld (defScope st) (defBody st) = true
theorem boot_it : bootBuiltins "iter" = some (.builtin "iter") := by decide +kernel
theorem iter_ownA {X : Cx} {A : Around} {pins : List (Addr × Obj)} {σ : St} {H : Hp} {s : Shared} {Ca f a dx t : Addr} {fld : Str} {fs : List (Str × V)} {zs : List V} {E : Value → Shared → Prop} (C : ItC X.K X.mg X.base X.prog X.w Ca f fld) (hr : Room 2 A) (e0 : Env0 X.prog X.w X.K X.mg X.base A X.stack s H) (I : Inv X pins σ H s)
    (ea : H a = some (.ins Ca dx fs)) (l : fs.lookup fld = some (.ref t)) (ht : SqT X.K H t zs) :
    wpAny (model X.prog X.w) A (pyIter (.ref a)) (fun v s' => ∃ it, v = .ref it ∧ Inv X pins σ H s' ∧ s'.heap.IsTupleIter it t 0 ∧ FpOk X pins H it) E s := by
  obtain ⟨qual, st, fd, self, N, F, hb, S, hit⟩ := C.ex
  obtain ⟨oc, od, kV, doc, pm, an, cdv, ct, osl, rfl, lk, hcd⟩ := F.ex
  obtain ⟨ox, odx, J⟩ := inst_of I ea
  obtain ⟨m, hF⟩ := I.fr
  unfold itB at hit
  split at hit
  · rename_i x p1 y p2 g p3 p4 p5 eb
    simp only [Bool.and_eq_true, decide_eq_true_eq, Bool.or_eq_true, Bool.not_eq_true'] at hit
    obtain ⟨⟨⟨⟨⟨⟨rfl, rfl⟩, rfl⟩, h4⟩, h5⟩, h6⟩, h7⟩ := hit
    have bN := hb s [.ref a] I.kIn rfl
    refine PySem.W.owit_iter hF I.ok.mod.kin J C.d.at_ C.d.fn ?_
    refine wpAny_call (codeAny_mono (run_here (k := 1) (CX := L2N.CX X.prog X.w) (vs := [.ref a]) (E := noE) (Q := fun v H' => ∃ it, v = .ref it ∧ H it = none ∧ s.heap.objs.size ≤ it ∧ H' = upd H it (ItT t it)) lk hcd S hr e0 bN (.cons rfl .nil) rfl ?_) fun z s' hz => ?_)
    · rw [eb]
      have hN : N[0]? = some y := by
        have := S.pre
        cases N with
        | nil => simp at this
        | cons n N => simp at this; simp [this]
      refine ⟨_, pss_one (ps_ret (pe_callB call_iterT h4 C.bi boot_it (pa_cons (pe_fld (pe_var hN (h5.imp id .inl) h6 h7) rfl) pa_nil rfl) (by decide) (by decide) rfl rfl)), ?_⟩
      refine ⟨.ref a, rfl, a, Ca, dx, fs, .ref t, rfl, ea, C.cls, C.no, l, t, zs, rfl, ht, fun it hn hle => ⟨it, rfl, hn, hle, rfl⟩⟩
    · cases z with
      | error e => exact (cx_false hz).elim
      | ok fl =>
        cases fl with
        | ret u =>
          obtain ⟨v, H', I', rv, it, rfl, hn, hle, rfl⟩ := I.after hz
          cases rv
          have e1 : upd H it (ItT t it) it = some (ItT t it) := upd_same
          have I2 := ItX.inv_drop I' e1
          have fp := ItX.inv_fp (pins := pins) I' e1 (Nat.le_trans I.sz hle)
          rw [ItX.dropH_upd hn] at I2 fp
          have ho : s'.heap.get? it = some (itObjT t) := (I'.hok it _ e1).1
          have ti : s'.heap.IsTupleIter it t 0 := ⟨_, ho, rfl, rfl⟩
          unfold PySem.W.OwitIt
          exact wpAny_specialOf (name := Str.ofString "__next__") ti.typeIs PySem.F.slot_tuple_iterator_next.lookup (show ∃ it', _ from ⟨it, rfl, I2, ti, fp⟩)
        | _ => exact hz.elim
  · cases hit
theorem iter_own {X : Cx} {pins : List (Addr × Obj)} {σ : St} {H : Hp} {s : Shared} {Ca f a dx t : Addr} {fld : Str} {fs : List (Str × V)} {zs : List V} {E : Value → Shared → Prop} (C : ItC X.K X.mg X.base X.prog X.w Ca f fld) (hr : Room 2 X.A) (I : Inv X pins σ H s)
    (ea : H a = some (.ins Ca dx fs)) (l : fs.lookup fld = some (.ref t)) (ht : SqT X.K H t zs) :
    wpAny (model X.prog X.w) X.A (pyIter (.ref a)) (fun v s' => ∃ it, v = .ref it ∧ Inv X pins σ H s' ∧ s'.heap.IsTupleIter it t 0 ∧ FpOk X pins H it) E s := iter_ownA C hr I.env0 I ea l ht
end Qk

set_option linter.all false
set_option maxHeartbeats 2000000
set_option maxRecDepth 100000
namespace Qk
open PySem L2
def NoOr (T : String) : Prop := typeLookup (.type T) (PySem.dunder "or") = pure none ∧ typeLookup (.type T) (dunderR "or") = pure none
theorem noOr_list : NoOr "list" := ⟨by rw [typeLookup_type, builtinLookup_eq_fast]; kernel_rfl, by rw [typeLookup_type, builtinLookup_eq_fast]; kernel_rfl⟩
theorem noOr_tuple : NoOr "tuple" := ⟨by rw [typeLookup_type, builtinLookup_eq_fast]; kernel_rfl, by rw [typeLookup_type, builtinLookup_eq_fast]; kernel_rfl⟩
section
variable {prog : Program} {w : PySem.World} {A : Around} {E : Value → Shared → Prop} {K : PySem.W.Frag} {h₀ : Heap} {L x y f g Ca : Addr} {ox : Obj} {od : Option Obj} {m : Str → Option Value} {s : Shared} {T : String}
theorem fills_no {M : Model} {h : Heap} (n : NoOr T) : PySem.W.Looks M h (fillsNumberSlot (.type T) "or") false := by
  refine PySem.W.Looks.of_pure ?_
  unfold fillsNumberSlot
  simp only [n.1, n.2, pure_bind]
  rfl
theorem ty_looks {M : Model} {h : Heap} {o : Obj} (e : h.get? y = some o) (hc : o.cls = .type T) : PySem.W.Looks M h (typeOf (.ref y)) (.type T) := fun A Q E s k q => wpAny_typeOf ⟨o, k _ _ e, hc⟩ q
theorem or_right {o : Obj} {Q : Value → Shared → Prop} (hF : PyProof.Rows.Fr h₀ L s.heap m) (X₀ : K.In h₀) (I : PySem.W.InstAt s.heap x ox Ca od) (hy : s.heap.get? y = some o) (hT : o.cls = .type T) (n : NoOr T) (hc : PySem.W.selfFirst K Ca = true) (D : Dun K Ca (PySem.dunder "or") f)
    (h : wpAny (model prog w) A (call (.ref f) [.ref x, .ref y]) (PySem.W.CmpBack Q) E s) : wpAny (model prog w) A (binaryOp .BitOr (.ref x) (.ref y)) Q E s := by
  have KI := X₀.keeps hF.keep
  obtain ⟨cd, rest, hcd, hm⟩ := PySem.W.ksp_first hc
  have one := PySem.W.ksp_try KI I D.at_ D.fn h
  obtain ⟨hh, g, d, tt, os⟩ := s
  have T1 : PySem.W.Looks (model prog w) hh (typeOf (.ref x)) (.ref Ca) := I.type
  have T2 : PySem.W.Looks (model prog w) hh (typeOf (.ref y)) (.type T) := ty_looks hy hT
  have T3 : PySem.W.Looks (model prog w) hh (fillsNumberSlot (.ref Ca) "or") true := PySem.W.fills_K KI hcd hm D.at_
  have T4 : PySem.W.Looks (model prog w) hh (fillsNumberSlot (.type T) "or") false := fills_no n
  have ne : (Value.ref Ca == Value.type T) = false := Bool.eq_false_iff.mpr fun q => by cases beq_iff_eq.mp q
  have hi : Operator.info .BitOr = ("|", "or") := rfl
  simp only [binaryOp, hi]
  refine wpAny_holding (wpAny_bind ?_)
  unfold binaryOp1
  refine wpAny_bind (T1.at (wpAny_bind (T2.at (wpAny_bind (T3.at ?_)))))
  simp only [ne, Bool.false_eq_true, if_false]
  repeat ((fail_if_success (with_reducible show wpAny _ _ (tryMethod _ _ _) _ _ _)); lk)
  refine wpAny_mono one (fun r s' hr' => ?_) fun _ _ e => e
  obtain ⟨v, rfl, hq⟩ := hr'
  repeat lk
  exact hq
theorem or_left {o : Obj} {Q : Value → Shared → Prop} (hF : PyProof.Rows.Fr h₀ L s.heap m) (X₀ : K.In h₀) (I : PySem.W.InstAt s.heap x ox Ca od) (hy : s.heap.get? y = some o) (hT : o.cls = .type T) (n : NoOr T) (hc : PySem.W.selfFirst K Ca = true) (D0 : Dun K Ca (PySem.dunder "or") g) (D : Dun K Ca (dunderR "or") f)
    (h : wpAny (model prog w) A (call (.ref f) [.ref x, .ref y]) (PySem.W.CmpBack Q) E s) : wpAny (model prog w) A (binaryOp .BitOr (.ref y) (.ref x)) Q E s := by
  have KI := X₀.keeps hF.keep
  obtain ⟨cd, rest, hcd, hm⟩ := PySem.W.ksp_first hc
  have one := PySem.W.ksp_try KI I D.at_ D.fn h
  obtain ⟨hh, g, d, tt, os⟩ := s
  have T1 : PySem.W.Looks (model prog w) hh (typeOf (.ref x)) (.ref Ca) := I.type
  have T2 : PySem.W.Looks (model prog w) hh (typeOf (.ref y)) (.type T) := ty_looks hy hT
  have T3 : PySem.W.Looks (model prog w) hh (fillsNumberSlot (.ref Ca) "or") true := PySem.W.fills_K KI hcd hm D0.at_
  have T4 : PySem.W.Looks (model prog w) hh (fillsNumberSlot (.type T) "or") false := fills_no n
  have ne : (Value.type T == Value.ref Ca) = false := Bool.eq_false_iff.mpr fun q => by cases beq_iff_eq.mp q
  have hi : Operator.info .BitOr = ("|", "or") := rfl
  simp only [binaryOp, hi]
  refine wpAny_holding (wpAny_bind ?_)
  unfold binaryOp1
  refine wpAny_bind (T2.at (wpAny_bind (T1.at (wpAny_bind (T4.at ?_)))))
  simp only [ne, Bool.false_eq_true, if_false]
  repeat ((fail_if_success (with_reducible show wpAny _ _ (tryMethod _ _ _) _ _ _)); lk)
  refine wpAny_mono one (fun r s' hr' => ?_) fun _ _ e => e
  obtain ⟨v, rfl, hq⟩ := hr'
  repeat lk
  exact hq
end
end Qk

set_option linter.all false
set_option maxHeartbeats 2000000
set_option maxRecDepth 100000
namespace Qk
open PySem L2

section
variable {K : PySem.W.Frag} {T : Txc} {G : List Fn} {C : List Int} {W : WX} {X : Cx}
def Gives (K : PySem.W.Frag) (T : Txc) (w : Wd) (H : Hp) (d : D) (Q : VK) : Prop :=
  match d with
  | .lst ds => ∀ xs p, H p = none → Reps K T w ds xs → Q (.ref p) (upd H p (.lst xs))
  | .tup ds => (∀ xs p, H p = none → Reps K T w ds xs → Q (.ref p) (upd H p (.tup xs))) ∧ ∀ v, Rep K T w (.tup ds) v → Q v H
  | d => ∀ v, Rep K T w d v → Q v H
structure BltOk (T : Txc) (X : Cx) (b : Bl) (f : Value) (r : List V → Hp → VK → Prop) : Prop where
  run : CallR X f r
  ok : ∀ {B : Hp} {w : Wd} {δ : Sls} {st : Sto} {σ : St} {H : Hp} {ps : List Pl} {vs : List V} {d : D} {Q : VK}, World X.K T B w δ st σ H → RepPs X.K T w δ σ ps vs → bltV st b ps = some d → Gives X.K T w H d Q → r vs H Q
def Bl.nm : Bl → Str
  | .len => "len"
  | .int => "int"
  | .abs => "abs"
  | .min => "min"
  | .max => "max"
  | .tuple => "tuple"
  | .list => "list"
  | .all => "all"
  | .any => "any"
  | .sum => "sum"
def Bl.val : Bl → Value
  | .len => .builtin "len"
  | .int => .type "int"
  | .abs => .builtin "abs"
  | .min => .builtin "min"
  | .max => .builtin "max"
  | .tuple => .type "tuple"
  | .list => .type "list"
  | .all => .builtin "all"
  | .any => .builtin "any"
  | .sum => .builtin "sum"
theorem Bl.boot (b : Bl) : bootBuiltins b.nm = some b.val := by cases b <;> decide +kernel
theorem RepPs.one {w : Wd} {δ : Sls} {σ : St} {p : Pl} {vs : List V} (h : RepPs K T w δ σ [p] vs) : ∃ v, vs = [v] ∧ RepP K T w δ σ p v := by
  match vs, h with
  | [v], h => exact ⟨v, rfl, h.1⟩
theorem RepPs.two {w : Wd} {δ : Sls} {σ : St} {p q : Pl} {vs : List V} (h : RepPs K T w δ σ [p, q] vs) : ∃ v u, vs = [v, u] ∧ RepP K T w δ σ p v ∧ RepP K T w δ σ q u := by
  match vs, h with
  | [v, u], h => exact ⟨v, u, rfl, h.1, h.2.1⟩
theorem Reps.bls {w : Wd} : ∀ {ds : List D} {xs : List V} {bs : List Bool}, blsOf ds = some bs → Reps K T w ds xs → xs = bs.map V.bl
  | [], [], bs, h, _ => by cases h; rfl
  | d :: ds, x :: xs, bs, h, r => by
    cases d <;> simp only [blsOf] at h <;> first | (cases h; done) | skip
    split at h
    · rename_i e
      cases h
      cases r.1
      rw [Reps.bls (ds := ds) e r.2]
      rfl
    · cases h
  | [], _ :: _, _, _, r => r.elim
  | _ :: _, [], _, _, r => r.elim
theorem Reps.is {w : Wd} : ∀ {ds : List D} {xs : List V} {bs : List Int}, intsOf ds = some bs → Reps K T w ds xs → xs = bs.map V.int
  | [], [], bs, h, _ => by cases h; rfl
  | d :: ds, x :: xs, bs, h, r => by
    cases d <;> simp only [intsOf] at h <;> first | (cases h; done) | skip
    split at h
    · rename_i e
      cases h
      cases r.1
      rw [Reps.is (ds := ds) e r.2]
      rfl
    · cases h
  | [], _ :: _, _, _, r => r.elim
  | _ :: _, [], _, _, r => r.elim
theorem seq_tup {st : Sto} {p : Pl} {ds : List D} (e : seqOf st p = some ds) : lstOf st p = some ds ∨ p = .d (.tup ds) ∨ p = .d (.ktup ds) := by
  cases p with
  | d d =>
    cases d with
    | tup es => cases e; exact .inr (.inl rfl)
    | ktup es => cases e; exact .inr (.inr rfl)
    | lst es => exact .inl e
    | scr es => exact .inl e
    | loc l => exact .inl e
    | _ => cases e
  | own m =>
    cases m with
    | lst es => exact .inl e
    | _ => cases e
theorem minI_ok : ∀ (is : List Int) (i : Int), is.foldl (fun a b => if b < a then b else a) i ∈ i :: is ∧ ∀ y ∈ i :: is, is.foldl (fun a b => if b < a then b else a) i ≤ y
  | [], i => ⟨by simp, fun y hy => by rw [List.mem_singleton.mp hy]; exact Int.le_refl _⟩
  | j :: is, i => by
    rw [List.foldl_cons]
    obtain ⟨h1, h2⟩ := minI_ok is (if j < i then j else i)
    refine ⟨?_, fun y hy => ?_⟩
    · rcases List.mem_cons.mp h1 with h | h
      · rw [h]
        split <;> simp
      · exact List.mem_cons_of_mem _ (List.mem_cons_of_mem _ h)
    · have h0 := h2 _ List.mem_cons_self
      rcases List.mem_cons.mp hy with rfl | hy
      · split at h0 <;> split <;> omega
      · rcases List.mem_cons.mp hy with rfl | hy
        · split at h0 <;> split <;> omega
        · exact h2 y (List.mem_cons_of_mem _ hy)
theorem blt_ok (hc : X.calm = true ∨ (∀ b : Bl, b = .len ∨ b = .int ∨ b = .abs ∨ b = .tuple ∨ b = .list → True)) (b : Bl) (hcb : X.calm = true ∨ b = .len ∨ b = .int ∨ b = .abs ∨ b = .tuple ∨ b = .list) : ∃ r, BltOk T X b b.val r := by
  cases b
  case len =>
    refine ⟨_, call_len_seq, fun {B w δ st σ H ps vs d Q} Wl rs h k => ?_⟩
    unfold bltV at h
    split at h <;> first | (cases ‹Bl.len = _›; done) | skip
    · split at h
      · rename_i p _ ds e
        cases h
        obtain ⟨v, rfl, rp⟩ := RepPs.one rs
        obtain ⟨a, xs, rfl, q, r2⟩ := Wl.seqAt rp e
        exact ⟨a, xs, rfl, q, by rw [r2.length]; exact k _ rfl⟩
      · cases h
    · cases h
  case int =>
    refine ⟨_, call_int1, fun {B w δ st σ H ps vs d Q} Wl rs h k => ?_⟩
    unfold bltV at h
    split at h <;> first | (cases ‹Bl.int = _›; done) | skip
    · cases h
      obtain ⟨v, rfl, rp⟩ := RepPs.one rs
      cases rp
      exact .inl ⟨_, rfl, k _ rfl⟩
    · cases h
      obtain ⟨v, rfl, rp⟩ := RepPs.one rs
      cases rp
      exact .inr ⟨_, rfl, k _ rfl⟩
    · cases h
  case abs =>
    refine ⟨_, call_abs, fun {B w δ st σ H ps vs d Q} Wl rs h k => ?_⟩
    unfold bltV at h
    split at h <;> first | (cases ‹Bl.abs = _›; done) | skip
    · cases h
      obtain ⟨v, rfl, rp⟩ := RepPs.one rs
      cases rp
      exact ⟨_, rfl, k _ rfl⟩
    · cases h
  case min =>
    have hc : X.calm = true := by rcases hcb with h | h | h | h | h | h <;> first | exact h | cases h
    refine ⟨fun xs H Q => (∃ i j, xs = [.int i, .int j] ∧ Q (.int (if j < i then j else i)) H) ∨ rMin X.K xs H Q, fun pins s σ H vs us Q I r h => h.elim (call_min2 hc pins s σ H vs us Q I r) (cr_min hc pins s σ H vs us Q I r), fun {B w δ st σ H ps vs d Q} Wl rs h k => ?_⟩
    unfold bltV at h
    split at h <;> first | (cases ‹Bl.min = _›; done) | skip
    · cases h
      obtain ⟨v, u, rfl, rp, rq⟩ := RepPs.two rs
      cases rp
      cases rq
      exact .inl ⟨_, _, rfl, k _ rfl⟩
    · split at h
      · rename_i p _ ds e
        obtain ⟨bs, hb, h⟩ := Option.bind_eq_some_iff.mp h
        cases bs with
        | nil => cases h
        | cons i is =>
          cases h
          obtain ⟨v, rfl, rp⟩ := RepPs.one rs
          obtain ⟨a, xs, rfl, q, r2⟩ := Wl.lstAt rp e
          rw [r2.is hb] at q
          refine .inr ⟨a, i :: is, rfl, q, by simp, fun m h1 h2 => ?_⟩
          obtain ⟨g1, g2⟩ := minI_ok is i
          have e1 := h2 _ g1
          have e2 := g2 m h1
          have : m = is.foldl (fun a b => if b < a then b else a) i := by omega
          rw [this]
          exact k _ rfl
      · cases h
    · cases h
  case max =>
    have hc : X.calm = true := by rcases hcb with h | h | h | h | h | h <;> first | exact h | cases h
    refine ⟨_, call_max2 hc, fun {B w δ st σ H ps vs d Q} Wl rs h k => ?_⟩
    unfold bltV at h
    split at h <;> first | (cases ‹Bl.max = _›; done) | skip
    · cases h
      obtain ⟨v, u, rfl, rp, rq⟩ := RepPs.two rs
      cases rp
      cases rq
      exact ⟨_, _, rfl, k _ rfl⟩
    · cases h
  case tuple =>
    refine ⟨_, call_tuple_of, fun {B w δ st σ H ps vs d Q} Wl rs h k => ?_⟩
    unfold bltV at h
    split at h <;> first | (cases ‹Bl.tuple = _›; done) | skip
    · cases h
      obtain ⟨v, rfl, rp⟩ := RepPs.one rs
      obtain ⟨a, o, xs, rfl, f, hd, r2⟩ := rp
      exact ⟨a, xs, rfl, .inr ⟨SqT.frz (Wl.st.same _ _ f), k _ ⟨a, o, xs, rfl, f, hd, r2⟩⟩⟩
    · split at h
      · rename_i p nk _ ds e
        cases h
        obtain ⟨v, rfl, rp⟩ := RepPs.one rs
        rcases seq_tup e with el | rfl | rfl
        rotate_right
        · exact (p _ rfl).elim
        · obtain ⟨a, xs, rfl, q, r2⟩ := Wl.lstAt rp el
          exact ⟨a, xs, rfl, .inl ⟨q, fun l hl => k.1 xs l hl r2⟩⟩
        · obtain ⟨a, xs, rfl, f, r2⟩ := rp
          exact ⟨a, xs, rfl, .inr ⟨SqT.of (Wl.st.same _ _ f), k.2 _ ⟨a, xs, rfl, f, r2⟩⟩⟩
      · cases h
    · cases h
  case list =>
    refine ⟨_, call_list_of, fun {B w δ st σ H ps vs d Q} Wl rs h k => ?_⟩
    unfold bltV at h
    split at h <;> first | (cases ‹Bl.list = _›; done) | skip
    · split at h
      · rename_i p _ ds e
        cases h
        obtain ⟨v, rfl, rp⟩ := RepPs.one rs
        obtain ⟨a, xs, rfl, q, r2⟩ := Wl.seqAt rp e
        exact ⟨a, xs, rfl, q, fun l hl => k xs l hl r2⟩
      · cases h
    · cases h
  case all =>
    have hc : X.calm = true := by rcases hcb with h | h | h | h | h | h <;> first | exact h | cases h
    refine ⟨_, cr_all hc, fun {B w δ st σ H ps vs d Q} Wl rs h k => ?_⟩
    unfold bltV at h
    split at h <;> first | (cases ‹Bl.all = _›; done) | skip
    · split at h
      · rename_i p _ ds e
        rw [Option.map_eq_some_iff] at h
        obtain ⟨bs, hb, h⟩ := h
        subst h
        obtain ⟨v, rfl, rp⟩ := RepPs.one rs
        obtain ⟨a, xs, rfl, q, r2⟩ := Wl.lstAt rp e
        rw [r2.bls hb] at q
        exact ⟨a, bs, rfl, q, k _ rfl⟩
      · cases h
    · cases h
  case any =>
    have hc : X.calm = true := by rcases hcb with h | h | h | h | h | h <;> first | exact h | cases h
    refine ⟨_, cr_any hc, fun {B w δ st σ H ps vs d Q} Wl rs h k => ?_⟩
    unfold bltV at h
    split at h <;> first | (cases ‹Bl.any = _›; done) | skip
    · split at h
      · rename_i p _ ds e
        rw [Option.map_eq_some_iff] at h
        obtain ⟨bs, hb, h⟩ := h
        subst h
        obtain ⟨v, rfl, rp⟩ := RepPs.one rs
        obtain ⟨a, xs, rfl, q, r2⟩ := Wl.lstAt rp e
        rw [r2.bls hb] at q
        exact ⟨a, bs, rfl, q, k _ rfl⟩
      · cases h
    · cases h
  case sum =>
    have hc : X.calm = true := by rcases hcb with h | h | h | h | h | h <;> first | exact h | cases h
    refine ⟨_, cr_sum hc, fun {B w δ st σ H ps vs d Q} Wl rs h k => ?_⟩
    unfold bltV at h
    split at h <;> first | (cases ‹Bl.sum = _›; done) | skip
    · split at h
      · rename_i p _ ds e
        rw [Option.map_eq_some_iff] at h
        obtain ⟨bs, hb, h⟩ := h
        subst h
        obtain ⟨v, rfl, rp⟩ := RepPs.one rs
        obtain ⟨a, xs, rfl, q, r2⟩ := Wl.lstAt rp e
        rw [r2.is hb] at q
        exact ⟨a, bs, rfl, q, k _ rfl⟩
      · cases h
    · cases h
theorem pe_callBl {b : Bl} {r : List V → Hp → VK → Prop} {e : Expr} {es : List Expr} {t : TA} {p pos : Pos} (hr : CallR X b.val r) (hg : Gl X b.nm) (hm : X.mg b.nm = none) (ha : PA X (e :: es) t) (he : starEach (e :: es) X.env = (false, eval e X.env) :: starEach es X.env)
    (hpl : (backTo pos (starEach es X.env)).any (·.1) = false) : PE X (.Call (.Name b.nm p) (e :: es) [] pos) (tCB r t) := by
  have bt := b.boot
  cases b <;> first
    | exact pe_callB hr hg hm bt ha (by decide +kernel) (by decide +kernel) he hpl
    | exact pe_callTy hr hg hm bt ha (by decide +kernel) (by decide +kernel) he hpl
theorem sn_blt (hK : X.K = K) {b : Bl} {e : Expr} {es : List Expr} {es' : Es} {p pos : Pos} (hcb : X.calm = true ∨ b = .len ∨ b = .int ∨ b = .abs ∨ b = .tuple ∨ b = .list) (hg : Gl X b.nm) (hm : X.mg b.nm = none) (ha : PA X (e :: es) (tPs K T G C W es'))
    (hp : ∀ y ∈ e :: es, ∀ a p, y ≠ .Starred a p) : PE X (.Call (.Name b.nm p) (e :: es) [] pos) (tN K T G C W (.blt b es')) := by
  subst hK
  obtain ⟨h1, h2⟩ := es_plain (env := X.env) (pos := pos) hp
  obtain ⟨r, ok⟩ := blt_ok (T := T) (X := X) (.inr fun _ _ => trivial) b hcb
  refine (pe_callBl ok.run hg hm ha h1 h2).to fun σ H Q ⟨B, w, δ, st, Wl, h⟩ => ?_
  simp only [evalE] at h
  refine ⟨B, w, δ, st, Wl, h.bind fun ps st1 w1 H1 ex W1 h1 vs rs => ?_⟩
  split at h1
  · rename_i d e
    refine ok.ok W1 rs e ?_
    cases d with
    | lst ds =>
      intro xs p hp rs
      obtain ⟨a, b, c⟩ := new_list ex W1 hp (back_none ex hp) rs
      exact h1 _ _ (Ext.grow hp) b p c
    | tup ds =>
      refine ⟨fun xs p hp rs => ?_, fun v rv => h1.ok W1 v rv⟩
      obtain ⟨a, b, c⟩ := new_tup (σ := σ) W1 hp rs
      exact h1 _ _ a b _ c
    | _ => exact fun v rv => h1.ok W1 v rv
  · exact h1.elim

def Kd.ty (T : Txc) : Kd → Value
  | .int => .type "int"
  | .bool => .type "bool"
  | .non => .type "NoneType"
  | .str => .type "str"
  | .list => .type "list"
  | .tuple => .type "tuple"
  | .cls c => .ref (T.cl c)
def Ty.val (T : Txc) : Ty → Value
  | .int => .type "int"
  | .bool => .type "bool"
  | .str => .type "str"
  | .list => .type "list"
  | .tuple => .type "tuple"
  | .cls c => .ref (T.cl c)
def Ty.v (T : Txc) : Ty → V
  | .int => .ty "int"
  | .bool => .ty "bool"
  | .str => .ty "str"
  | .list => .ty "list"
  | .tuple => .ty "tuple"
  | .cls c => .ref (T.cl c)
structure IsF (K : PySem.W.Frag) (T : Txc) (c : Cl) : Prop where
  cls : Cls K (T.cl c)
  ha : PySem.W.findIn K (.ref (T.cl c)) "__class__" = some (some (.builtin "object.__class__"))
  hn : PySem.W.specialIn K (.builtin "object.__class__") "__get__" = some (some (.builtin "getset_descriptor.__get__"))
  ht : PySem.W.takesIn K (.builtin "object.__class__") = some true
  hm : PySem.W.mroIn K (T.cl c) (.type "object") = some true
  to : ∀ t ∈ ["int", "bool", "str", "list", "tuple"], PySem.W.kitOne K (.ref (T.cl c)) (.type t) = some false
  fr : ∀ t ∈ ["int", "bool", "NoneType", "str", "list", "tuple"], PySem.W.kitOne K (.type t) (.ref (T.cl c)) = some false
theorem kit_self {c : Value} : PySem.W.kitOne K c c = some true := by
  unfold PySem.W.kitOne
  rw [if_pos (beq_self_eq_true c)]
theorem World.kindAt {B : Hp} {w : Wd} {δ : Sls} {st : Sto} {σ : St} {H : Hp} {p : Pl} {v : V} {cs : List Cl} {k : Kd} (Wl : World K T B w δ st σ H) (hs : ∀ c ∈ cs, IsF K T c) (r : RepP K T w δ σ p v) (h : kindP cs st p = some k) : TyX K H v (k.ty T) := by
  have own : ∀ {c : Cl} {a dx : Addr} {fs : List (Str × V)}, c ∈ cs → H a = some (.ins (T.cl c) dx fs) → TyX K H (.ref a) (Kd.ty T (.cls c)) := fun {c a dx fs} hc e =>
    let F := hs c hc
    .base (.ins e F.cls F.ha F.hn F.ht F.hm)
  cases p with
  | d d =>
    cases d with
    | int i => cases h; cases r; exact .base (.int i)
    | bl i => cases h; cases r; exact .base (.bl i)
    | non => cases h; cases r; exact .base .non
    | str i => cases h; cases r; exact .base (.str i)
    | lst ds =>
      cases h
      obtain ⟨a, xs, rfl, f, _⟩ := r
      exact .base (.lst (Wl.st.same _ _ f))
    | tup ds =>
      cases h
      obtain ⟨a, xs, rfl, f, _⟩ := r
      exact .base (.tup (Wl.st.same _ _ f))
    | ktup ds =>
      cases h
      obtain ⟨a, o, xs, rfl, f, _⟩ := r
      exact .fTuple (Wl.st.same _ _ f)
    | obj c ds =>
      simp only [kindP] at h
      split at h
      · rename_i hc
        cases h
        obtain ⟨a, dx, xs, rfl, f, _⟩ := r
        exact own hc (Wl.st.same _ _ f)
      · cases h
    | loc l =>
      simp only [kindP] at h
      split at h
      · rename_i e
        cases h
        obtain ⟨a, rfl, _, _, o, ho, xs, rfl, _⟩ := Wl.locAt e r
        exact .base (.lst ho)
      · rename_i e
        split at h
        · rename_i hc
          cases h
          obtain ⟨a, rfl, _, _, o, ho, dx, xs, rfl, _⟩ := Wl.locAt e r
          exact own hc ho
        · cases h
      · cases h
    | byt _ => cases h
    | dct _ _ _ => cases h
    | scr _ => cases h
  | own m =>
    obtain ⟨i, a, h1, h2, rfl⟩ := r
    obtain ⟨_, _, _, o, ho, rm⟩ := Wl.ownAt h1 h2
    cases m with
    | lst ds =>
      cases h
      obtain ⟨xs, rfl, _⟩ := rm
      exact .base (.lst ho)
    | ins c ds =>
      simp only [kindP] at h
      split at h
      · rename_i hc
        cases h
        obtain ⟨dx, xs, rfl, _⟩ := rm
        exact own hc ho
      · cases h
    | dct _ _ => cases h
theorem kit_is {cs : List Cl} (hs : ∀ c ∈ cs, IsF K T c) {k : Kd} {t : Ty} {b : Bool} (hk : ∀ c, k = .cls c → c ∈ cs) (h : tyIs cs k t = some b) : PySem.W.kitOne K (k.ty T) (t.val T) = some b := by
  cases t with
  | cls c =>
    cases k with
    | cls c' =>
      simp only [tyIs] at h
      split at h
      · rename_i e
        subst e
        cases h
        exact kit_self
      · cases h
    | _ =>
      simp only [tyIs] at h
      split at h
      · rename_i hc
        cases h
        exact (hs c hc).fr _ (by simp)
      · cases h
  | _ =>
    cases k with
    | cls c' =>
      simp only [tyIs] at h
      cases h
      exact (hs c' (hk c' rfl)).to _ (by simp)
    | _ =>
      simp only [tyIs] at h
      cases h
      exact kit_ty (by decide +kernel)
theorem kit_any {cs : List Cl} (hs : ∀ c ∈ cs, IsF K T c) {k : Kd} (hk : ∀ c, k = .cls c → c ∈ cs) : ∀ {ts : List Ty} {b : Bool}, tyAny cs k ts = some b → PySem.W.kitAny K (k.ty T) (ts.map (Ty.val T)) = some b
  | [], b, h => by cases h; exact kitAny_nil
  | t :: ts, b, h => by
    simp only [tyAny] at h
    split at h
    · rename_i e
      cases h
      exact kitAny_cons (kit_is hs hk e) (fun z => by cases z) (fun _ => rfl)
    · rename_i e
      exact kitAny_cons (kit_is hs hk e) (fun _ => kit_any hs hk h) (fun z => by cases z)
    · cases h
theorem kind_in {cs : List Cl} {st : Sto} {p : Pl} {c : Cl} (h : kindP cs st p = some (.cls c)) : c ∈ cs := by
  unfold kindP at h
  split at h <;> first
    | (cases h; done)
    | (split at h
       · first
         | (cases h; assumption)
         | (cases h; done)
         | (split at h
            · cases h; assumption
            · cases h)
       · first
         | (cases h; done)
         | (split at h
            · cases h; assumption
            · cases h)
       · cases h)
    | (split at h
       · cases h; assumption
       · cases h)
theorem Ty.clsV (t : Ty) : ClsV (t.v T) (t.val T) := by cases t <;> first | exact .ty _ | exact .own _
theorem Ty.all : ∀ ts : List Ty, Paired ClsV (ts.map (Ty.v T)) (ts.map (Ty.val T))
  | [] => .nil
  | t :: ts => .cons t.clsV (Ty.all ts)
theorem se_isi (hK : X.K = K) {a c : Expr} {a' : E} {t : Ty} {cs : List Cl} {p pos : Pos} (hs : ∀ c ∈ cs, IsF K T c) (hg : Gl X "isinstance") (hm : X.mg "isinstance" = none) (ha : PE X a (tP K T G C W a')) (hc : PE X c (tC (t.v T)))
    (hp : ∀ y ∈ [a, c], ∀ a p, y ≠ .Starred a p) : PE X (.Call (.Name "isinstance" p) [a, c] [] pos) (tE K T G C W (.isi a' [t] cs)) := by
  subst hK
  obtain ⟨h1, h2⟩ := es_plain (env := X.env) (pos := pos) hp
  have h3 := (es_plain (e := c) (es := []) (env := X.env) (pos := pos) fun y hy => hp y (List.mem_cons_of_mem _ hy)).1
  refine (pe_callB call_isi hg hm (by decide +kernel) (pa_cons ha (pa_cons hc pa_nil h3) h1) (by decide +kernel) (by decide +kernel) h1 h2).to fun σ H Q ⟨B, w, δ, st, Wl, h⟩ => ?_
  simp only [evalE] at h
  refine ⟨B, w, δ, st, Wl, h.bind fun q st1 w1 H1 ex W1 h1 v rv => ?_⟩
  split at h1
  · rename_i k ek
    split at h1
    · rename_i b eb
      have eb' : tyIs cs k t = some b := by
        simp only [tyAny] at eb
        split at eb
        · rename_i e; cases eb; exact e
        · rename_i e; cases eb; exact e
        · cases eb
      exact ⟨v, t.v T, k.ty T, t.val T, b, rfl, t.clsV, W1.kindAt hs rv ek, kit_is hs (fun c e => kind_in (e ▸ ek)) eb', h1.ok W1 _ rfl⟩
    · exact h1.elim
  · exact h1.elim
theorem se_isiT (hK : X.K = K) {a : Expr} {ces : List Expr} {tca : TA} {k0 : Nat} {p0 : Pos} {a' : E} {ts : List Ty} {cs : List Cl} {p pos : Pos} (hs : ∀ c ∈ cs, IsF K T c) (hg : Gl X "isinstance") (hm : X.mg "isinstance" = none) (ha : PE X a (tP K T G C W a'))
    (hc : PA X ces tca) (hcs : ∀ σ H Q, Q (ts.map (Ty.v T)) H → tca σ H Q) (hl : ts.length ≤ 100) (hp : ∀ a2 p, a ≠ .Starred a2 p) : PE X (.Call (.Name "isinstance" p) [a, .Tuple ces k0 p0] [] pos) (tE K T G C W (.isi a' ts cs)) := by
  subst hK
  have hp' : ∀ y ∈ [a, Expr.Tuple ces k0 p0], ∀ a p, y ≠ .Starred a p := fun y hy a2 p2 => by
    rcases List.mem_cons.mp hy with e | hy
    · rw [e]; exact hp a2 p2
    · have e : y = .Tuple ces k0 p0 := by simpa using hy
      rw [e]; intro z; cases z
  obtain ⟨h1, h2⟩ := es_plain (env := X.env) (pos := pos) hp'
  refine (pe_callB call_isiT hg hm (by decide +kernel) (pa_cons ha (pa_cons (pe_tup hc) pa_nil rfl) h1) (by decide +kernel) (by decide +kernel) h1 h2).to fun σ H Q ⟨B, w, δ, st, Wl, h⟩ => ?_
  simp only [evalE] at h
  refine ⟨B, w, δ, st, Wl, h.bind fun q st1 w1 H1 ex W1 h1 v rv => hcs σ H1 _ ⟨by rw [List.length_map, sizeLine_eq]; omega, fun tp np => ?_⟩⟩
  split at h1
  · rename_i k ek
    split at h1
    · rename_i b eb
      have W2 := W1.grow (o := .tup (ts.map (Ty.v T))) np
      exact ⟨v, tp, _, k.ty T, _, b, rfl, upd_same, Ty.all ts, W2.kindAt hs rv ek, kit_any hs (fun c e => kind_in (e ▸ ek)) eb, h1 w1 _ (Ext.grow np) W2 _ rfl⟩
    · exact h1.elim
  · exact h1.elim
end
end Qk

set_option linter.all false
set_option maxHeartbeats 2000000
set_option maxRecDepth 100000
namespace Qk
open PySem L2

def GdOk (g : Gd) (st : Sto) : Prop := ∀ p, g = some p → st[p.1]? = some (.lst p.2)
theorem gd_none {st : Sto} : GdOk none st := fun _ h => by cases h
structure Walks (K : PySem.W.Frag) (T : Txc) (J : It) (w : Wd) (ds : List D) (g : Gd) : Prop where
  go : ∀ (i : Nat) (w' : Wd) (st : Sto) (H : Hp), Up w w' → StOk K T w' st H → GdOk g st → i < ds.length → J.go i H
  stop : ∀ (w' : Wd) (st : Sto) (H : Hp), Up w w' → StOk K T w' st H → GdOk g st → J.stop ds.length H
  yld : ∀ (i : Nat) (d : D) (w' : Wd) (st : Sto) (H : Hp) (x : V) (H' : Hp), Up w w' → StOk K T w' st H → GdOk g st → ds[i]? = some d → J.yld i H x H' →
    ∃ w'', Ext w' H w'' H' ∧ (∀ B δ st σ, World K T B w' δ st σ H → World K T B w'' δ st σ H') ∧ Rep K T w'' d x
theorem Up.trans {w w' w'' : Wd} (a : Up w w') (b : Up w' w'') : Up w w'' := ⟨a.same.trans b.same, fun l x h => b.pre l x (a.pre l x h)⟩
section
variable {K : PySem.W.Frag} {T : Txc} {w : Wd}
def Holds (K : PySem.W.Frag) (T : Txc) (w : Wd) (a : Addr) (ds : List D) (g : Gd) : Prop := ∀ (w' : Wd) (st : Sto) (H : Hp), Up w w' → StOk K T w' st H → GdOk g st → ∃ xs, SqL K H a xs ∧ Reps K T w' ds xs
theorem holds_fro {a : Addr} {xs : List V} {ds : List D} (f : SqL K w.F a xs) (r : Reps K T w ds xs) : Holds K T w a ds none := fun w' st H u s _ => ⟨xs, s.same.seq (u.same.seq f), r.up u⟩
theorem holds_loc {a : Addr} {l : Nat} {ds : List D} (h : w.ι[l]? = some a) : Holds K T w a ds (some (l, ds)) := fun w' st H u s g => by
  obtain ⟨_, o, ho, xs, rfl, rs⟩ := s.cell l _ a (g _ rfl) (u.pre _ _ h)
  exact ⟨xs, SqL.of ho, rs⟩
theorem walks_list {a : Addr} {ds : List D} {g : Gd} (h : Holds K T w a ds g) : Walks K T (Itl K a) w ds g where
  go := fun i w' st H u s q hi => by
    obtain ⟨xs, f, r⟩ := h w' st H u s q
    exact ⟨xs, xs[i]'(by rw [r.length]; exact hi), f, by simp [r.length, hi]⟩
  stop := fun w' st H u s q => by
    obtain ⟨xs, f, r⟩ := h w' st H u s q
    exact ⟨xs, f, by rw [r.length]; exact Nat.le_refl _⟩
  yld := fun i d w' st H x H' u s q e y => by
    obtain ⟨rfl, y⟩ := y
    obtain ⟨xs, f, r⟩ := h w' st H' u s q
    obtain ⟨v, hv, rv⟩ := r.get e
    have h1 := y xs f
    rw [hv] at h1
    cases h1
    exact ⟨w', Ext.refl, fun _ _ _ _ h => h, rv⟩
def TupF (w : Wd) (a : Addr) (xs : List V) : Prop := w.F a = some (.tup xs) ∨ ∃ o, w.F a = some (.frz o (.tup xs))
theorem TupF.sq {a : Addr} {xs : List V} (f : TupF w a xs) {w' : Wd} {H : Hp} (u : Up w w') (s : Same w'.F H) : SqT K H a xs := by
  rcases f with f | ⟨o, f⟩
  · exact SqT.of (s _ _ (u.same _ _ f))
  · exact SqT.frz (s _ _ (u.same _ _ f))
theorem walks_tup {a : Addr} {xs : List V} {ds : List D} (f : TupF w a xs) (r : Reps K T w ds xs) : Walks K T (Itt K a) w ds none where
  go := fun i w' st H u s _ hi => ⟨xs, xs[i]'(by rw [r.length]; exact hi), f.sq u s.same, by simp [r.length, hi]⟩
  stop := fun w' st H u s _ => ⟨xs, f.sq u s.same, by rw [r.length]; exact Nat.le_refl _⟩
  yld := fun i d w' st H x H' u s _ e y => by
    obtain ⟨rfl, y⟩ := y
    obtain ⟨v, hv, rv⟩ := r.get e
    have h1 := y xs (f.sq u s.same)
    rw [hv] at h1
    cases h1
    exact ⟨w', Ext.refl, fun _ _ _ _ h => h, rv.up u⟩
theorem walks_rng {lo : Int} {n : Nat} : Walks K T (Itr lo n) w ((List.range n).map fun k => D.int (lo + (k : Nat))) none where
  go := fun i w' st H u s _ hi => by
    have := hi
    simp at this
    exact this
  stop := fun w' st H u s _ => by
    show n ≤ _
    simp
  yld := fun i d w' st H x H' u s _ e y => by
    obtain ⟨rfl, rfl⟩ := y
    rw [List.getElem?_map] at e
    cases e2 : (List.range n)[i]? with
    | none => rw [e2] at e; cases e
    | some k =>
      rw [e2] at e
      have : i = k := by
        have := List.getElem?_eq_some_iff.mp e2
        obtain ⟨h, h2⟩ := this
        simpa using h2
      subst this
      cases e
      exact ⟨w', Ext.refl, fun _ _ _ _ h => h, rfl⟩
theorem walks_enum {a : Addr} {ds : List D} {g : Gd} (h : Holds K T w a ds g) : Walks K T (Ite K a) w (ds.zipIdx.map fun p => .tup [.int (p.2 : Nat), p.1]) g where
  go := fun i w' st H u s q hi => by
    obtain ⟨xs, f, r⟩ := h w' st H u s q
    have hi' : i < xs.length := by rw [r.length]; simpa using hi
    exact ⟨xs, xs[i]'hi', f, by simp [hi']⟩
  stop := fun w' st H u s q => by
    obtain ⟨xs, f, r⟩ := h w' st H u s q
    exact ⟨xs, f, by rw [r.length]; simp⟩
  yld := fun i d w' st H x H' u s q e y => by
    obtain ⟨xs, f, r⟩ := h w' st H u s q
    obtain ⟨p, z, rfl, np, rfl, y⟩ := y
    rw [List.getElem?_map, List.getElem?_zipIdx] at e
    cases e2 : ds[i]? with
    | none => rw [e2] at e; simp at e
    | some d' =>
      rw [e2] at e
      simp at e
      subst e
      obtain ⟨v, hv, rv⟩ := r.get e2
      have h1 := y xs f
      rw [hv] at h1
      cases h1
      have fp : w'.F p = none := freeF s.same np
      refine ⟨w'.put p _, (Ext.grow np).frz np fp, fun B δ st σ W => (W.grow np).freeze upd_same fp (W.noIota np) (fun i m e => W.noOwn np i m e), p, _, rfl, upd_same, ⟨rfl, rv.up (Up.put fp), trivial⟩⟩
end

section
variable {K : PySem.W.Frag} {T : Txc} {G : List Fn} {C : List Int} {W : WX} {X : Cx}
mutual
def Tg.slots : Tg → List Nat
  | .n i => [i]
  | .t ts => Tgs.slots ts
def Tgs.slots : Tgs → List Nat
  | .nil => []
  | .cons t ts => t.slots ++ Tgs.slots ts
end
def Off (ls : List Nat) (σ σ' : St) : Prop := σ'.length = σ.length ∧ ∀ j, j ∉ ls → σ'[j]? = σ[j]?
def tG (K : PySem.W.Frag) (T : Txc) (t : Tg) : TG := fun v σ H Q => ∃ B w δ st d, World K T B w δ st σ H ∧ Rep K T w d v ∧
  match t.bind d δ with
  | some δ' => ∀ σ', World K T B w δ' st σ' H → Off t.slots σ σ' → Q σ' H
  | none => False
def tGs (K : PySem.W.Frag) (T : Txc) (ts : Tgs) : TGs := fun vs σ H Q => ∃ B w δ st ds, World K T B w δ st σ H ∧ Reps K T w ds vs ∧
  match Tgs.bind ts ds δ with
  | some δ' => ∀ σ', World K T B w δ' st σ' H → Off ts.slots σ σ' → Q σ' H
  | none => False
theorem getElem?_set_cases {α : Type} {l : List α} {i j : Nat} {a : α} : (l.set i a)[j]? = if i = j ∧ i < l.length then some a else l[j]? := by
  by_cases h : i = j
  · subst h
    by_cases hl : i < l.length
    · rw [if_pos ⟨rfl, hl⟩, List.getElem?_set_self hl]
    · rw [if_neg (fun q => hl q.2), List.set_eq_of_length_le (by omega)]
  · rw [if_neg (fun q => h q.1), List.getElem?_set_ne h]
theorem World.setVal {B : Hp} {w : Wd} {δ : Sls} {st : Sto} {σ : St} {H : Hp} {i : Nat} {d : D} {v : V} (Wl : World K T B w δ st σ H) (r : Rep K T w d v) : World K T B w (δ.set i (.val d)) st (σ.set i (some v)) H := by
  refine ⟨Wl.st, by rw [List.length_set, List.length_set]; exact Wl.len, fun j x h => ?_, fun j k m m' a h1 h2 h3 h4 => ?_⟩
  · rw [getElem?_set_cases] at h
    rw [getElem?_set_cases, Wl.len]
    split at h
    · rename_i c
      rw [if_pos c]
      cases h
      exact ⟨v, rfl, r⟩
    · rename_i c
      rw [if_neg c]
      exact Wl.sl j x h
  · rw [getElem?_set_cases] at h1 h2
    rw [getElem?_set_cases, Wl.len] at h3 h4
    split at h1
    · cases h1
    · rename_i c1
      rw [if_neg c1] at h3
      split at h2
      · cases h2
      · rename_i c2
        rw [if_neg c2] at h4
        exact Wl.dis j k m m' a h1 h2 h3 h4
theorem pg_n {i : Nat} {x : Str} {pos : Pos} (hN : X.N.Nodup) (hi : X.N[i]? = some x) (hx : Loc X.env.scope x) (hf : X.fn x = true ∨ X.env.scope.names.lookup x = some .local) : PG X (.Name x pos) (tG K T (.n i)) := by
  refine ⟨fun pins s σ H v u Q I r ⟨B, w, δ, st, d, Wl, rd, h⟩ => (pg_name hN hi hx hf).run pins s σ H v u Q I r ?_⟩
  exact h _ (Wl.setVal rd) ⟨by rw [List.length_set], fun j hj => by
    rw [List.getElem?_set_ne]
    intro e
    exact hj (by simp [Tg.slots, e])⟩
theorem pg_ts {es : List Expr} {k : Nat} {pos : Pos} {ts : Tgs} (hK : X.K = K) (hc : X.calm = true) (h : PGs X es (tGs K T ts)) (hst : ∀ x ∈ es, ∀ a p, x ≠ .Starred a p) (hl : ∀ ds δ δ', Tgs.bind ts ds δ = some δ' → ds.length = es.length) : PG X (.Tuple es k pos) (tG K T (.t ts)) := by
  subst hK
  have each : ∀ l : List Expr, (∀ x ∈ l, ∀ a p, x ≠ .Starred a p) → (assignEach l X.env).length = l.length ∧ (assignEach l X.env).findIdx? (·.1) = none := by
    intro l
    induction l with
    | nil => intro _; exact ⟨rfl, rfl⟩
    | cons x r ih =>
      intro hx
      have e : assignEach (x :: r) X.env = (false, assign x X.env) :: assignEach r X.env := by
        have := hx x List.mem_cons_self
        cases x <;> first | rfl | exact absurd rfl (this _ _)
      obtain ⟨h1, h2⟩ := ih fun y hy => hx y (List.mem_cons_of_mem _ hy)
      rw [e]
      refine ⟨by simp [h1], ?_⟩
      rw [List.findIdx?_cons]
      simp [h2]
  obtain ⟨e1, e2⟩ := each es hst
  refine ⟨fun pins s σ H v u Q I r ⟨B, w, δ, st, d, Wl, rd, hb⟩ => (pg_tup hc h e1 e2).run pins s σ H v u Q I r ?_⟩
  cases d with
  | tup ds =>
    obtain ⟨a, xs, rfl, f, rs⟩ := rd
    simp only [Tg.bind] at hb
    refine ⟨a, xs, rfl, SqT.of (Wl.st.same _ _ f), ?_, B, w, δ, st, ds, Wl, rs, hb⟩
    rw [rs.length]
    cases e : Tgs.bind ts ds δ with
    | none => rw [e] at hb; exact hb.elim
    | some δ' => exact hl ds δ δ' e
  | _ => simp only [Tg.bind] at hb
theorem pgs_n : PGs X [] (tGs K T .nil) := by
  refine ⟨fun pins s σ H vs us Q I r ⟨B, w, δ, st, ds, Wl, rs, h⟩ => pgs_nil.run pins s σ H vs us Q I r ?_⟩
  cases ds with
  | cons _ _ => simp only [Tgs.bind] at h
  | nil =>
    cases vs with
    | cons _ _ => exact rs.elim
    | nil => exact ⟨rfl, h σ Wl ⟨rfl, fun _ _ => rfl⟩⟩
theorem pgs_c {e : Expr} {es : List Expr} {t : Tg} {ts : Tgs} (h1 : PG X e (tG K T t)) (h2 : PGs X es (tGs K T ts)) (hs : ∀ a p, e ≠ .Starred a p) : PGs X (e :: es) (tGs K T (.cons t ts)) := by
  have ha : (assignEach (e :: es) X.env).map (·.2) = assign e X.env :: (assignEach es X.env).map (·.2) := by
    cases e <;> first | rfl | exact absurd rfl (hs _ _)
  refine ⟨fun pins s σ H vs us Q I r ⟨B, w, δ, st, ds, Wl, rs, h⟩ => (pgs_cons h1 h2 ha).run pins s σ H vs us Q I r ?_⟩
  cases ds with
  | nil => simp only [Tgs.bind] at h
  | cons d ds =>
    cases vs with
    | nil => exact rs.elim
    | cons v vs =>
      simp only [Tgs.bind] at h
      refine ⟨v, vs, rfl, B, w, δ, st, d, Wl, rs.1, ?_⟩
      cases e1 : Tg.bind t d δ with
      | none => rw [e1] at h; exact h.elim
      | some δ1 =>
        rw [e1] at h
        simp only at h ⊢
        refine fun σ1 W1 o1 => ⟨B, w, δ1, st, ds, W1, rs.2, ?_⟩
        cases e2 : Tgs.bind ts ds δ1 with
        | none => rw [e2] at h; exact h.elim
        | some δ2 =>
          rw [e2] at h
          simp only at h ⊢
          refine fun σ2 W2 o2 => h σ2 W2 ⟨o2.1.trans o1.1, fun j hj => ?_⟩
          simp only [Tgs.slots, List.mem_append, not_or] at hj
          exact (o2.2 j hj.2).trans (o1.2 j hj.1)
def tIt (K : PySem.W.Frag) (T : Txc) (G : List Fn) (C : List Int) (W : WX) (i : I) : TI := fun σ H R => ∃ B w δ st, World K T B w δ st σ H ∧ Aft K T W B δ σ w H (evalI G C i δ st) fun w' H' ds => ∀ J, Walks K T J w' ds.1 ds.2 → R J H'
def iSq (K : PySem.W.Frag) (te : TE) : TI := fun σ H R => te σ H fun x H1 => ∃ a, x = .ref a ∧ (((∃ xs, SqL K H1 a xs) ∧ R (Itl K a) H1) ∨ ((∃ xs, SqT K H1 a xs) ∧ R (Itt K a) H1))
theorem pi_sq {tg e : Expr} {te : TE} (he : PE X e te) : PI X tg e (iSq X.K te) := ⟨fun pins s σ H R I h =>
  thn (he.run pins s σ H _ I h) fun v s1 ⟨x, H1, J, rx, a, ex, q⟩ => by
    subst ex
    cases rx
    have fp : ∀ b ∈ [s1.heap.objs.size], FpOk X pins H1 b := fun b hb => by
      rw [List.mem_singleton.mp hb]
      exact J.fpOk (Nat.le_refl _) (J.hok.fresh (Nat.le_refl _))
    rcases q with ⟨⟨xs, hq⟩, q⟩ | ⟨⟨xs, hq⟩, q⟩
    · obtain ⟨its, rv, pl, _⟩ := J.list hq
      exact wpAny_pyIter_list pl.isList ⟨_, [s1.heap.objs.size], _, _, H1, rfl, J.kept (t' := s1.toks) fun b o e => Heap.get?_push_of_some _ e, turn_list a _, ⟨_, Heap.get?_push_size _ rfl, rfl, rfl⟩, fp, q⟩
    · obtain ⟨its, rv, pl, _⟩ := J.tuple hq
      exact wpAny_pyIter_tuple (show s1.heap.IsTuple a its.toArray from pl) ⟨_, [s1.heap.objs.size], _, _, H1, rfl, J.kept (t' := s1.toks) fun b o e => Heap.get?_push_of_some _ e, turn_tuple a _, ⟨_, Heap.get?_push_size _ rfl, rfl, rfl⟩, fp, q⟩⟩
theorem si_seq (hK : X.K = K) {tg e : Expr} {e' : E} (h : PE X e (tE K T G C W e')) : PI X tg e (tIt K T G C W (.seq e')) := by
  subst hK
  refine (pi_sq h).to fun σ H R ⟨B, w, δ, st, Wl, h⟩ => ?_
  simp only [evalI] at h
  refine ⟨B, w, δ, st, Wl, h.bind fun d st1 w1 H1 ex W1 h1 v rv => ?_⟩
  split at h1
  · rename_i ds e
    simp only at e
    subst e
    obtain ⟨a, xs, rfl, f, rs⟩ := rv
    exact ⟨a, rfl, .inl ⟨⟨xs, SqL.of (W1.st.same _ _ f)⟩, h1.ok W1 _ (walks_list (holds_fro (SqL.of f) rs))⟩⟩
  · rename_i ds e
    simp only at e
    subst e
    obtain ⟨a, xs, rfl, f, rs⟩ := rv
    exact ⟨a, rfl, .inl ⟨⟨xs, W1.st.same.seq f⟩, h1.ok W1 _ (walks_list (holds_fro f rs))⟩⟩
  · rename_i ds e
    simp only at e
    subst e
    obtain ⟨a, xs, rfl, f, rs⟩ := rv
    exact ⟨a, rfl, .inr ⟨⟨xs, SqT.of (W1.st.same _ _ f)⟩, h1.ok W1 _ (walks_tup (.inl f) rs)⟩⟩
  · rename_i ds e
    simp only at e
    subst e
    obtain ⟨a, o, xs, rfl, f, _, rs⟩ := rv
    exact ⟨a, rfl, .inr ⟨⟨xs, SqT.frz (W1.st.same _ _ f)⟩, h1.ok W1 _ (walks_tup (.inr ⟨o, f⟩) rs)⟩⟩
  · rename_i l e
    simp only at e
    subst e
    obtain ⟨a, rfl, f⟩ := rv
    split at h1
    · rename_i ds e
      obtain ⟨_, o, ho, xs, rfl, rs⟩ := W1.st.cell l _ a e f
      exact ⟨a, rfl, .inl ⟨⟨xs, SqL.of ho⟩, h1.ok W1 _ (walks_list (holds_loc f))⟩⟩
    · exact h1.elim
  · exact h1.elim
theorem as1 {e : Expr} {e' : E} (h : PE X e (tE K T G C W e')) (hs : ∀ a p, e ≠ .Starred a p) : PA X [e] (tAs K T G C W (.cons e' .nil)) := as_cons h as_nil (es_plain (pos := ⟨0, 0, 0, 0⟩) fun y hy => by rw [List.mem_singleton.mp hy]; exact hs).1
theorem rng_read {e' : E} {σ : St} {H : Hp} {R : It → Hp → Prop} (h : tIt K T G C W (.rng e') σ H R) : iRng1 (tCons (tE K T G C W e') tNil) σ H R := by
  obtain ⟨B, w, δ, st, Wl, h⟩ := h
  simp only [evalI] at h
  refine ⟨B, w, δ, st, Wl, h.bind fun d st1 w1 H1 ex W1 h1 v rv => ?_⟩
  split at h1
  · rename_i n e
    simp only at e
    subst e
    split at h1
    · rename_i c
      have hl : Lim = 1000000 := rfl
      cases rv
      refine ⟨n, rfl, by omega, by omega, h1.ok W1 _ ?_⟩
      have := walks_rng (K := K) (T := T) (w := w1) (lo := 0) (n := n.toNat)
      simpa using this
    · exact h1.elim
  · exact h1.elim
theorem si_rng {tg e : Expr} {e' : E} {p pos : Pos} (hg : Gl X "range") (hm : X.mg "range" = none) (h : PE X e (tE K T G C W e')) (hs : ∀ a p, e ≠ .Starred a p) : PI X tg (.Call (.Name "range" p) [e] [] pos) (tIt K T G C W (.rng e')) := by
  have hst := (es_plain (e := e) (es := []) (env := X.env) (pos := pos) fun y hy => by rw [List.mem_singleton.mp hy]; exact hs).1
  exact (pi_range1 hg hm (pa_cons h pa_nil hst) hst).to fun σ H R h => rng_read h
theorem si_rng2 {tg a b : Expr} {a' b' : E} {p pos : Pos} (hg : Gl X "range") (hm : X.mg "range" = none) (ha : PE X a (tE K T G C W a')) (hb : PE X b (tE K T G C W b')) (hs : ∀ x ∈ [a, b], ∀ y p, x ≠ .Starred y p) : PI X tg (.Call (.Name "range" p) [a, b] [] pos) (tIt K T G C W (.rng2 a' b')) := by
  have h1 := (es_plain (env := X.env) (pos := pos) hs).1
  have h2 := (es_plain (e := b) (es := []) (env := X.env) (pos := pos) fun y hy => hs y (List.mem_cons_of_mem _ hy)).1
  refine (pi_range2 hg hm (pa_cons ha (pa_cons hb pa_nil h2) h1) (by rw [h1, h2]; rfl) h2).to fun σ H R ⟨B, w, δ, st, Wl, h⟩ => ?_
  simp only [evalI] at h
  refine ⟨B, w, δ, st, Wl, h.bind fun d st1 w1 H1 ex W1 h1 v rv => ⟨B, w1, δ, st1, W1, h1.bind fun d2 st2 w2 H2 ex2 W2 h2 u ru => ?_⟩⟩
  split at h2
  · rename_i m n e1 e2
    simp only at e1 e2
    subst e1 e2
    split at h2
    · rename_i c
      have hl : Lim = 1000000 := rfl
      cases rv
      cases ru
      exact ⟨m, n, rfl, ⟨by omega, by omega, by omega, by omega⟩, h2.ok W2 _ walks_rng⟩
    · exact h2.elim
  · exact h2.elim
theorem si_enum (hK : X.K = K) {e : Expr} {elts : List Expr} {kk : Nat} {tpos p pos : Pos} {e' : E} (hg : Gl X "enumerate") (hm : X.mg "enumerate" = none) (h : PE X e (tE K T G C W e')) (hs : ∀ a p, e ≠ .Starred a p) :
    PI X (.Tuple elts kk tpos) (.Call (.Name "enumerate" p) [e] [] pos) (tIt K T G C W (.enum e')) := by
  subst hK
  have hst := (es_plain (e := e) (es := []) (env := X.env) (pos := pos) fun y hy => by rw [List.mem_singleton.mp hy]; exact hs).1
  refine (pi_enum hg hm (pa_cons h pa_nil hst) hst).to fun σ H R ⟨B, w, δ, st, Wl, h⟩ => ?_
  simp only [evalI] at h
  refine ⟨B, w, δ, st, Wl, h.bind fun d st1 w1 H1 ex W1 h1 v rv => ?_⟩
  split at h1
  · rename_i ds e
    simp only at e
    subst e
    obtain ⟨a, xs, rfl, f, rs⟩ := rv
    exact ⟨a, xs, rfl, SqL.of (W1.st.same _ _ f), h1.ok W1 _ (walks_enum (holds_fro (SqL.of f) rs))⟩
  · rename_i ds e
    simp only at e
    subst e
    obtain ⟨a, xs, rfl, f, rs⟩ := rv
    exact ⟨a, xs, rfl, W1.st.same.seq f, h1.ok W1 _ (walks_enum (holds_fro f rs))⟩
  · rename_i l e
    simp only at e
    subst e
    obtain ⟨a, rfl, f⟩ := rv
    split at h1
    · rename_i ds e
      obtain ⟨_, o, ho, xs, rfl, rs⟩ := W1.st.cell l _ a e f
      exact ⟨a, xs, rfl, SqL.of ho, h1.ok W1 _ (walks_enum (holds_loc f))⟩
    · exact h1.elim
  · exact h1.elim

abbrev W0 : WX := fun _ _ _ _ => False
theorem wipe_get (σ : St) : ∀ (vs : List Nat) (j : Nat), (wipe σ vs)[j]? = if j ∈ vs ∧ j < σ.length then some none else σ[j]?
  | [], j => by simp [wipe]
  | v :: vs, j => by
    unfold wipe
    rw [getElem?_set_cases, wipe_length, wipe_get σ vs j]
    by_cases h : v = j
    · subst h
      by_cases hl : v < σ.length
      · simp [hl]
      · simp [hl]
    · have : ¬ j = v := fun e => h e.symm
      simp [h, this]
theorem wipeE_get (δ : Sls) : ∀ (vs : List Nat) (j : Nat), (wipeE δ vs)[j]? = if j ∈ vs ∧ j < δ.length then some .un else δ[j]?
  | [], j => by simp [wipeE]
  | v :: vs, j => by
    unfold wipeE
    have hl : (wipeE δ vs).length = δ.length := by
      clear j
      induction vs with
      | nil => rfl
      | cons x vs ih => rw [wipeE, List.length_set, ih]
    rw [getElem?_set_cases, hl, wipeE_get δ vs j]
    by_cases h : v = j
    · subst h
      by_cases hl : v < δ.length
      · simp [hl]
      · simp [hl]
    · have : ¬ j = v := fun e => h e.symm
      simp [h, this]
theorem wipeE_length (δ : Sls) : ∀ vs : List Nat, (wipeE δ vs).length = δ.length
  | [] => rfl
  | v :: vs => by rw [wipeE, List.length_set, wipeE_length δ vs]
theorem World.wipe {B : Hp} {w : Wd} {δ : Sls} {st : Sto} {σ : St} {H : Hp} (Wl : World K T B w δ st σ H) (vs : List Nat) : World K T B w (wipeE δ vs) st (L2.wipe σ vs) H := by
  refine ⟨Wl.st, by rw [wipe_length, wipeE_length]; exact Wl.len, fun j x h => ?_, fun j k m m' a h1 h2 h3 h4 => ?_⟩
  · rw [wipeE_get] at h
    rw [wipe_get, Wl.len]
    split at h
    · cases h; trivial
    · rename_i c
      rw [if_neg c]
      exact Wl.sl j x h
  · rw [wipeE_get] at h1 h2
    rw [wipe_get, Wl.len] at h3 h4
    split at h1
    · cases h1
    · rename_i c1
      rw [if_neg c1] at h3
      split at h2
      · cases h2
      · rename_i c2
        rw [if_neg c2] at h4
        exact Wl.dis j k m m' a h1 h2 h3 h4
theorem off_wipe {ls vs : List Nat} {σ σ' : St} (h : Off ls σ σ') (hs : ∀ j ∈ ls, j ∈ vs) : wipe σ' vs = wipe σ vs := by
  apply List.ext_getElem?
  intro j
  rw [wipe_get, wipe_get, h.1]
  by_cases hj : j ∈ vs
  · by_cases hl : j < σ.length
    · rw [if_pos ⟨hj, hl⟩, if_pos ⟨hj, hl⟩]
    · rw [if_neg (fun q => hl q.2), if_neg (fun q => hl q.2), List.getElem?_eq_none (by rw [h.1]; omega), List.getElem?_eq_none (by omega)]
  · rw [if_neg (fun q => hj q.1), if_neg (fun q => hj q.1)]
    exact h.2 j fun q => hj (hs j q)
theorem wipe_wipe (σ : St) (vs : List Nat) : wipe (wipe σ vs) vs = wipe σ vs := by
  apply List.ext_getElem?
  intro j
  rw [wipe_get, wipe_get, wipe_length]
  split <;> rfl
theorem World.same {B : Hp} {w w' : Wd} {δ δ' : Sls} {st st' : Sto} {σ σ' : St} {H H' : Hp} (Wl : World K T B w δ st σ H) (e : Ext w H w' H') (W2 : World K T B w' δ' st' σ' H') : World K T B w' δ st' σ H' := Wl.ext e W2.st
noncomputable def evalComp (G : List Fn) (C : List Int) (elt : E) (tg : Tg) (cs : Es) (own : List Nat) (δ : Sls) : D → Sto → R (Option D × Sto) := fun x st' => match tg.bind x (wipeE δ own) with
  | some δ' => (evalTs G C cs δ' st').bind fun q => match q.1 with
    | true => (evalE G C elt δ' q.2).bind fun u => .ok (some u.1, u.2)
    | false => .ok (none, q.2)
  | none => .stuck
theorem Ext.poke {w w' : Wd} {H H' : Hp} {p : Addr} {o : HO} (e : Ext w H w' H') (hp : H p = none) : Ext w H w' (upd H' p o) where
  same := e.same
  pre := e.pre
  old := e.old
  keep := fun a u h n => (upd_ne (ne_of_none h hp)).trans (e.keep a u h n)
  there := fun a h => by
    by_cases q : a = p
    · rw [q, upd_same]; simp
    · rw [upd_ne q]; exact e.there a h
  new := e.new
  rt := e.rt
theorem World.poke {B : Hp} {w : Wd} {δ : Sls} {st : Sto} {σ : St} {H : Hp} {p : Addr} {o : HO} (Wl : World K T B w δ st σ H) (fp : w.F p = none) (np : p ∉ w.ι) (ns : ∀ (i : Nat) m, δ[i]? = some (.own m) → σ[i]? ≠ some (some (.ref p))) : World K T B w δ st σ (upd H p o) := by
  have cell : ∀ {a : Addr} {m : M}, a ≠ p → CellOk K T w H a m → CellOk K T w (upd H p o) a m := fun {a m} ne ⟨f, u, hu, r⟩ => ⟨f, u, (upd_ne ne).trans hu, r⟩
  refine ⟨⟨fun b u e => (upd_ne (ne_of_none e fp)).trans (Wl.st.same b u e), Wl.st.len, Wl.st.nd, fun l m a h1 h2 => cell (fun e => np (e ▸ List.mem_of_getElem? h2)) (Wl.st.cell l m a h1 h2)⟩, Wl.len, fun i x h => ?_, Wl.dis⟩
  have q := Wl.sl i x h
  cases x with
  | un => trivial
  | exo _ _ => exact q
  | val d => exact q
  | own m =>
    obtain ⟨a, h1, h2, h3, h4⟩ := q
    exact ⟨a, h1, h2, h3, cell (fun e => ns i m h (by rw [h1, e])) h4⟩
theorem R.bind_ok_iff {α β : Type} {r : R α} {f : α → R β} {b : β} (h : r.bind f = .ok b) : ∃ a, r = .ok a ∧ f a = .ok b := by
  cases r with
  | ok a => exact ⟨a, rfl, h⟩
  | exc _ _ _ => cases h
  | stuck => cases h
theorem evalI_gd {i : I} {δ : Sls} {st st' : Sto} {p : List Qk.D × Gd} (h : evalI G C i δ st = .ok (p, st')) : GdOk p.2 st' := by
  cases i <;> simp only [evalI] at h
  case seq e =>
    obtain ⟨⟨d, s⟩, _, h⟩ := R.bind_ok_iff h
    split at h <;> try (cases h; first | exact gd_none | done)
    rename_i l e
    split at h
    · rename_i ds es
      cases h
      intro q hq
      cases hq
      exact es
    · cases h
  case rng e =>
    obtain ⟨⟨d, s⟩, _, h⟩ := R.bind_ok_iff h
    split at h
    · split at h
      · cases h; exact gd_none
      · cases h
    · cases h
  case rng2 a b =>
    obtain ⟨⟨d, s⟩, _, h⟩ := R.bind_ok_iff h
    obtain ⟨⟨d2, s2⟩, _, h⟩ := R.bind_ok_iff h
    split at h
    · split at h
      · cases h; exact gd_none
      · cases h
    · cases h
  case enum e =>
    obtain ⟨⟨d, s⟩, _, h⟩ := R.bind_ok_iff h
    split at h <;> try (cases h; first | exact gd_none | done)
    rename_i l e
    split at h
    · rename_i ds es
      cases h
      intro q hq
      cases hq
      exact es
    · cases h
  case own c k e =>
    obtain ⟨⟨d, s⟩, _, h⟩ := R.bind_ok_iff h
    split at h
    · split at h
      · cases h; exact gd_none
      · cases h
    · cases h
  case zip a b =>
    obtain ⟨⟨d, s⟩, _, h⟩ := R.bind_ok_iff h
    obtain ⟨⟨d2, s2⟩, _, h⟩ := R.bind_ok_iff h
    split at h
    · cases h; exact gd_none
    · cases h
theorem gdC_ok {g : Gd} {f : Qk.D → Sto → R (Option Qk.D × Sto)} {x : Qk.D} {st : Sto} {r : Option Qk.D × Sto} (h : gdC g f x st = .ok r) : f x st = .ok r ∧ GdOk g r.2 := by
  cases g with
  | none => exact ⟨h, gd_none⟩
  | some p =>
    simp only [gdC] at h
    split at h
    · rename_i d st' e
      split at h
      · rename_i c
        cases h
        refine ⟨e, fun q hq => ?_⟩
        cases hq
        exact c
      · cases h
    · rename_i o ho
      rw [h] at ho
      exact absurd rfl (ho _ _)
theorem gdF_nx {g : Gd} {f : Qk.D → Sls → Sto → O} {x : Qk.D} {δ δ' : Sls} {st st' : Sto} (h : f x δ st = .nx δ' st') : (GdOk g st' ∧ gdF g f x δ st = .nx δ' st') ∨ gdF g f x δ st = .stuck := by
  cases g with
  | none => exact .inl ⟨gd_none, h⟩
  | some p =>
    simp only [gdF, h]
    by_cases c : st'[p.1]? = some (.lst p.2)
    · exact .inl ⟨fun q hq => by cases hq; exact c, if_pos c⟩
    · exact .inr (if_neg c)
theorem gdF_cnt {g : Gd} {f : Qk.D → Sls → Sto → O} {x : Qk.D} {δ δ' : Sls} {st st' : Sto} (h : f x δ st = .cnt δ' st') : (GdOk g st' ∧ gdF g f x δ st = .cnt δ' st') ∨ gdF g f x δ st = .stuck := by
  cases g with
  | none => exact .inl ⟨gd_none, h⟩
  | some p =>
    simp only [gdF, h]
    by_cases c : st'[p.1]? = some (.lst p.2)
    · exact .inl ⟨fun q hq => by cases hq; exact c, if_pos c⟩
    · exact .inr (if_neg c)
theorem gdF_o {g : Gd} {f : Qk.D → Sls → Sto → O} {x : Qk.D} {δ : Sls} {st : Sto} {o : O} (h : f x δ st = o) (h1 : ∀ δ' st', o ≠ .nx δ' st') (h2 : ∀ δ' st', o ≠ .cnt δ' st') : gdF g f x δ st = o := by
  cases g with
  | none => exact h
  | some p =>
    cases o with
    | nx δ' st' => exact absurd rfl (h1 _ _)
    | cnt δ' st' => exact absurd rfl (h2 _ _)
    | brk _ _ => simp only [gdF, h]
    | ret _ _ => simp only [gdF, h]
    | exc _ _ _ _ => simp only [gdF, h]
    | stuck => simp only [gdF, h]
theorem lc_read {elt' : E} {t : Tg} {i : I} {cs : Es} {own : List Nat} (hsl : ∀ j ∈ t.slots, j ∈ own) {σ : St} {H : Hp} {Q : VK} (h : tN K T G C W (.comp elt' t i cs own) σ H Q) :
    tLc (tIt K T G C W i) (tG K T t) (tBs K T G C W0 cs) (tE K T G C W0 elt') own σ H Q := by
  obtain ⟨B, w, δ, st, Wl, h⟩ := h
  simp only [evalE] at h
  refine ⟨B, w, δ, st, Wl, h.bindE fun dg st1 w1 H1 eqI ex1 W1 h1 J wk p nD => ?_⟩
  have gd1 := evalI_gd eqI
  obtain ⟨ds, g⟩ := dg
  simp only at wk gd1 h1
  have fD : w1.F p = none := freeF W1.st.same nD
  have h0 : H p = none := back_none ex1 nD
  let End : Wd → Hp → D → Prop := fun w' H' d => match d with
      | .lst ds => ∀ a, New K T w H δ σ w' H' a (.lst ds) → Q (.ref a) H'
      | d => ∀ v, Rep K T w' d v → Q v H'
  let Iv : Nat → Hp → Prop := fun k H' => k ≤ ds.length ∧ ∃ w' st' acc xs, GdOk g st' ∧ Ext w1 H1 w' H' ∧ World K T B w' δ st' σ H' ∧ w'.F p = none ∧ p ∉ w'.ι ∧ H' p = some (.lst xs) ∧ Reps K T w' acc xs ∧
    Aft K T W B δ σ w1 H1 ((compLoop (gdC g (evalComp G C elt' t cs own δ)) (ds.drop k) acc st').bind fun q => .ok (D.lst q.1, q.2)) End
  refine ⟨fun k m H' => m = ds.length - k ∧ Iv k H', ⟨ds.length, rfl, Nat.zero_le _, w1, st1, [], [], gd1, Ext.grow nD, W1.grow nD, fD, W1.noIota nD, upd_same, trivial, h1⟩, ?_⟩
  rintro k m Hk ⟨rfl, hk, w', st', acc, xs, gk, e, W', f, n, hp, rs, ha⟩
  rcases Nat.lt_or_ge k ds.length with lt | ge
  · obtain ⟨d, hd⟩ : ∃ d, ds[k]? = some d := ⟨ds[k], by simp [lt]⟩
    have hdrop : ds.drop k = d :: ds.drop (k + 1) := by
      rw [List.drop_eq_getElem_cons lt]
      rw [List.getElem?_eq_getElem lt] at hd
      cases hd
      rfl
    rw [hdrop] at ha
    refine .inr ⟨wk.go k w' st' Hk e.up W'.st gk lt, Iv (k + 1), fun H' iv => ⟨ds.length - (k + 1), by omega, rfl, iv⟩, fun x H' y => ?_⟩
    obtain ⟨w2, e2, up2, rx⟩ := wk.yld k d w' st' Hk x H' e.up W'.st gk hd y
    have W2 := up2 B δ st' σ W'
    simp only [compLoop] at ha
    cases hf0 : gdC g (evalComp G C elt' t cs own δ) d st' with
    | stuck => rw [hf0] at ha; exact ha.elim
    | exc c u s => rw [hf0] at ha; exact ha.elim
    | ok r =>
      obtain ⟨hf, gk2⟩ := gdC_ok hf0
      obtain ⟨od, st5⟩ := r
      simp only at gk2
      rw [hf0] at ha
      unfold evalComp at hf
      cases hb : t.bind d (wipeE δ own) with
      | none => rw [hb] at hf; cases hf
      | some δ' =>
        rw [hb] at hf
        simp only at hf
        refine ⟨B, w2, wipeE δ own, st', d, W2.wipe own, rx, ?_⟩
        rw [hb]
        refine fun σ2 W3 off => ⟨(off_wipe off hsl).trans (wipe_wipe σ own), B, w2, δ', st', W3, ?_⟩
        cases ht : evalTs G C cs δ' st' with
        | stuck => rw [ht] at hf; cases hf
        | exc c u s => rw [ht] at hf; cases hf
        | ok rb =>
          obtain ⟨b, st4⟩ := rb
          rw [ht] at hf
          simp only [R.bind] at hf
          intro w4 H4 e4 W4
          have go : ∀ {w5 : Wd} {H5 : Hp} {st5 : Sto} {σ5 : St} {δ5 : Sls}, Ext w4 H4 w5 H5 → World K T B w5 δ5 st5 σ5 H5 → World K T B w5 δ st5 σ H5 ∧ H5 p = some (.lst xs) ∧ w5.F p = none ∧ p ∉ w5.ι ∧ Ext w1 H1 w5 H5 ∧ Up w' w5 := fun {w5 H5 st5 σ5 δ5} e5 W5 => by
            have ee := (e2.trans e4).trans e5
            exact ⟨W'.ext ee W5.st, ee.keep p _ hp n, ee.old p (by rw [hp]; simp) f, ee.notin n (by rw [hp]; simp), e.trans ee, ee.up⟩
          cases b with
          | false =>
            cases hf
            refine iteF ?_
            obtain ⟨g1, g2, g3, g4, g5, g6⟩ := go Ext.refl W4
            exact ⟨lt, w4, _, acc, xs, gk2, g5, g1, g3, g4, g2, rs.up g6, ha⟩
          | true =>
            refine iteT ⟨B, w4, δ', st4, W4, ?_⟩
            cases hu : evalE G C elt' δ' st4 with
            | stuck => simp only [hu] at hf; cases hf
            | exc c u s => simp only [hu] at hf; cases hf
            | ok ru =>
              obtain ⟨u, st6⟩ := ru
              simp only [hu] at hf
              cases hf
              intro w5 H5 e5 W5 v rv
              obtain ⟨g1, g2, g3, g4, g5, g6⟩ := go e5 W5
              simp only at ha
              split at ha
              · rename_i hl
                have hlim : Lim = 1000000 := rfl
                refine ⟨xs, g2, by rw [rs.length, sizeLine_eq]; omega, lt, w5, _, acc ++ [u], xs ++ [v], gk2, g5.poke nD, g1.poke g3 g4 (fun i m hi => Wl.noOwn h0 i m hi), g3, g4, upd_same, (rs.up g6).append (Reps.one rv), ha⟩
              · exact ha.elim
  · have hkk : k = ds.length := by omega
    subst hkk
    rw [List.drop_length] at ha
    refine .inl ⟨wk.stop w' st' Hk e.up W'.st gk, ?_⟩
    exact ha w' Hk e W' p ⟨h0, n, fun i m hi => Wl.noOwn h0 i m hi, f, _, hp, xs, rfl, rs⟩
theorem sn_comp (hc : X.calm = true) (hN : X.N.Nodup) {elt tg iter : Expr} {ifs : List Expr} {scope : Scope} {pos : Pos} {own : List (Str × Nat)} {elt' : E} {t : Tg} {i : I} {cs : Es} (hi : PI X tg iter (tIt K T G C W i)) (ok : BlkOk X.N X.env.scope scope own)
    (hg : ∀ (s : Shared) (H : Hp) (Ca : Addr) (cl : List (Str × Addr)) (fp : List Addr), PG (X.blk s H scope (compEnvC scope cl Ca X.env) fp) tg (tG K T t))
    (ht : ∀ (s : Shared) (H : Hp) (Ca : Addr) (cl : List (Str × Addr)) (fp : List Addr), PTs (X.blk s H scope (compEnvC scope cl Ca X.env) fp) ifs (tBs K T G C W0 cs))
    (he : ∀ (s : Shared) (H : Hp) (Ca : Addr) (cl : List (Str × Addr)) (fp : List Addr), PE (X.blk s H scope (compEnvC scope cl Ca X.env) fp) elt (tE K T G C W0 elt'))
    (hsl : ∀ j ∈ t.slots, j ∈ own.map (·.2)) (hs : ∀ x, foldedSetIterable iter X.env x = pure x) : PE X (.ListComp elt [⟨tg, iter, ifs, 0⟩] scope pos) (tN K T G C W (.comp elt' t i cs (own.map (·.2)))) :=
  (pe_lc hc hN hi ok hg ht he hs).to fun _ _ _ => lc_read hsl
theorem ts_nil : PTs X [] (tBs K T G C W .nil) := pts_nil.to fun σ H Q ⟨B, w, δ, st, Wl, h⟩ => by
  simp only [evalTs] at h
  exact h.ok Wl
theorem ts_one {c : Expr} {c' : E} (h : PT X c (tB K T G C W c')) : PTs X [c] (tBs K T G C W (.cons c' .nil)) := (pts_one h).to fun σ H Q ⟨B, w, δ, st, Wl, h⟩ => by
  simp only [evalTs] at h
  exact ⟨B, w, δ, st, Wl, h⟩
end
end Qk

set_option linter.all false
set_option maxHeartbeats 2000000
set_option maxRecDepth 100000
namespace Qk
open PySem L2

def DunF (X : Cx) (T : Txc) (c : Cl) (m : Str) (n : Nat) (F : Fn) : Prop := ∃ f fd ps k, Dun X.K (T.cl c) m f ∧ PySem.W.selfFirst X.K (T.cl c) = true ∧ FnOk X.prog X.w X.K X.mg X.base (L2N.CX X.prog X.w) k f fd ps (spOf X.K T n F) ∧ Room (k + 3) X.A ∧ Binds X.K fd ps []
section
variable {K : PySem.W.Frag} {T : Txc} {G : List Fn} {C : List Int} {W : WX} {X : Cx}
theorem sp_noE {n : Nat} {F : Fn} {B : Hp} {w : Wd} {δ : Sls} {st st' : Sto} {σ : St} {H : Hp} {ds : List D} {d : D} {vs : List V} {Q : VK} (hn : vs.length = n) (Wl : World K T B w δ st σ H) (rs : Reps K T w ds vs) (e : F ds st = .ok (d, st'))
    (h : ∀ w' H' v, Ext w H w' H' → World K T B w' δ st' σ H' → Rep K T w' d v → Q v H') : spOf K T n F vs H Q noE := by
  refine ⟨hn, w, ds, st, Wl.st, rs, ?_⟩
  rw [e]
  exact fun w' H' v ex so r => h w' H' v ex (Wl.ext ex so) r
theorem se_dlen (hK : X.K = K) {e : Expr} {a : E} {f : Nat} {c : Cl} {F : Fn} {p pos : Pos} (ff : DunF X T c "__len__" 1 F) (hf : G[f]? = some F) (hg : Gl X "len") (hm : X.mg "len" = none) (ha : PE X e (tE K T G C W a)) (hs : ∀ a p, e ≠ .Starred a p) :
    PE X (.Call (.Name "len" p) [e] [] pos) (tE K T G C W (.dlen f c a)) := by
  subst hK
  obtain ⟨g, fd, ps, k, D, _, fo, hr, hb⟩ := ff
  have hr := hr.mono (show k + 1 ≤ k + 3 by omega)
  have hp : ∀ y ∈ [e], ∀ a p, y ≠ .Starred a p := fun y hy => by rw [List.mem_singleton.mp hy]; exact hs
  obtain ⟨h1, h2⟩ := es_plain (env := X.env) (pos := pos) hp
  refine (pe_callB (call_dlen D fo hr hb) hg hm (by decide +kernel) (pa_cons ha pa_nil h1) (by decide) (by decide) h1 h2).to fun σ H Q ⟨B, w, δ, st, Wl, h⟩ => ?_
  simp only [evalE] at h
  refine ⟨B, w, δ, st, Wl, h.bind fun d st1 w1 H1 ex W1 h1 v rv => ?_⟩
  split at h1
  · rename_i fs e1
    obtain ⟨b, dx, xs, rfl, hq, _, _⟩ := W1.insAt (p := .d d) rv e1
    simp only [hf] at h1
    cases er : F [d] st1 with
    | stuck => rw [er] at h1; exact h1.elim
    | exc _ _ _ => rw [er] at h1; exact h1.elim
    | ok q =>
      obtain ⟨r, st2⟩ := q
      rw [er] at h1
      cases r <;> try (exact h1.elim)
      rename_i n
      simp only at h1
      split at h1
      · rename_i hn
        refine ⟨b, dx, _, rfl, hq, sp_noE rfl W1 (Reps.one rv) er fun w2 H2 u e2 W2 ru => ?_⟩
        cases ru
        exact ⟨n, rfl, hn.1, by omega, h1 w2 H2 e2 W2 _ rfl⟩
      · exact h1.elim
  · exact h1.elim
theorem din2_read {f : Nat} {c : Cl} {neg : Bool} {F : Fn} {a b : E} (hf : G[f]? = some F) {σ : St} {H : Hp} {Q : VK} (h : tE K T G C W (.din2 f c neg a b) σ H Q) :
    tE K T G C W a σ H fun v H1 => tE K T G C W b σ H1 fun u H2 => rDIn (T.cl c) (spOf K T 2 F) neg v u H2 Q := by
  obtain ⟨B, w, δ, st, Wl, h⟩ := h
  simp only [evalE] at h
  refine ⟨B, w, δ, st, Wl, h.bind fun d st1 w1 H1 ex W1 h1 v rv => ⟨B, w1, δ, st1, W1, h1.bind fun d2 st2 w2 H2 ex2 W2 h2 u ru => ?_⟩⟩
  split at h2
  · rename_i fs e1
    obtain ⟨o, dx, xs, rfl, hq, _, _⟩ := W2.insAt (p := .d d2) ru e1
    simp only [hf] at h2
    cases er : F [d2, d] st2 with
    | stuck => rw [er] at h2; exact h2.elim
    | exc _ _ _ => rw [er] at h2; exact h2.elim
    | ok q =>
      obtain ⟨r, st3⟩ := q
      rw [er] at h2
      cases r <;> try (exact h2.elim)
      rename_i z
      simp only at h2
      refine ⟨o, dx, _, rfl, hq, sp_noE (ds := [d2, d]) rfl W2 ⟨ru, rv.up ex2.up, trivial⟩ er fun w3 H3 t e3 W3 rt => ?_⟩
      cases rt
      exact ⟨z, rfl, h2 w3 H3 e3 W3 _ rfl⟩
  · exact h2.elim
theorem se_din2 (hK : X.K = K) {x y : Expr} {a b : E} {f : Nat} {c : Cl} {neg : Bool} {F : Fn} {pos : Pos} (ff : DunF X T c "__contains__" 2 F) (hf : G[f]? = some F) (ha : PE X x (tE K T G C W a)) (hb : PE X y (tE K T G C W b)) (hm : behindInMarks (if neg then .NotIn else .In) y = false) :
    PE X (.Compare x [if neg then .NotIn else .In] [y] pos) (tE K T G C W (.din2 f c neg a b)) := by
  subst hK
  obtain ⟨g, fd, ps, k, D, _, fo, hr, hbi⟩ := ff
  have hr := hr.mono (show k + 1 ≤ k + 3 by omega)
  have go : ∀ {op : CmpOp}, OpR X (compareOp op) (rDIn (T.cl c) (spOf X.K T 2 F) neg) → behindInMarks op y = false → PE X (.Compare x [op] [y] pos) (tE X.K T G C W (.din2 f c neg a b)) := fun {op} ho hm =>
    (pe_cmpR ho ha hb hm).to fun σ H Q h => din2_read hf h
  cases neg with
  | true => exact go (op_dnin D fo (hr.mono (Nat.le_succ k)) hbi) hm
  | false => exact go (op_din D fo (hr.mono (Nat.le_succ k)) hbi) hm
theorem dop_read {x y : Expr} {a b : E} {f : Nat} {c : Cl} {o : Dop} {F : Fn} (hf : G[f]? = some F) {σ : St} {H : Hp} {Q : VK} (h : tE K T G C W (.dop f c o a b) σ H Q) :
    tE K T G C W a σ H fun v H1 => tE K T G C W b σ H1 fun u H2 => rDBin (T.cl c) (spOf K T 2 F) v u H2 Q := by
  obtain ⟨B, w, δ, st, Wl, h⟩ := h
  simp only [evalE] at h
  refine ⟨B, w, δ, st, Wl, h.bind fun d st1 w1 H1 ex W1 h1 v rv => ⟨B, w1, δ, st1, W1, h1.bind fun d2 st2 w2 H2 ex2 W2 h2 u ru => ?_⟩⟩
  split at h2
  · rename_i fs e1
    split at h2
    · rename_i gs e2
      obtain ⟨o1, dx, xs, rfl, hq, _, _⟩ := W2.insAt (p := .d d) (rv.up ex2.up) e1
      obtain ⟨o2, dy, ys, rfl, hq2, _, _⟩ := W2.insAt (p := .d d2) ru e2
      simp only [hf] at h2
      cases er : F [d, d2] st2 with
      | stuck => rw [er] at h2; exact h2.elim
      | exc _ _ _ => rw [er] at h2; exact h2.elim
      | ok q =>
        obtain ⟨r, st3⟩ := q
        rw [er] at h2
        exact ⟨o1, o2, dx, dy, _, _, rfl, rfl, hq, hq2, sp_noE (ds := [d, d2]) rfl W2 ⟨rv.up ex2.up, ru, trivial⟩ er fun w3 H3 t e3 W3 rt => h2 w3 H3 e3 W3 _ rt⟩
    · exact h2.elim
  · exact h2.elim
theorem se_dcmp (hK : X.K = K) {x y : Expr} {a b : E} {f : Nat} {c : Cl} {o : Co} {F : Fn} {pos : Pos} (hop : compareOp o.py = richCompare o.py) (ff : DunF X T c (cmpInfo o.py).2.1 2 F) (hf : G[f]? = some F) (ha : PE X x (tE K T G C W a)) (hb : PE X y (tE K T G C W b)) (hm : behindInMarks o.py y = false) :
    PE X (.Compare x [o.py] [y] pos) (tE K T G C W (.dop f c (.cmp o) a b)) := by
  subst hK
  obtain ⟨g, fd, ps, k, D, _, fo, hr, hbi⟩ := ff
  have hr := hr.mono (show k + 1 ≤ k + 3 by omega)
  exact (pe_cmpR (op_dcmp o.py hop D fo (hr.mono (Nat.le_succ k)) hbi) ha hb hm).to fun σ H Q h => dop_read (x := x) (y := y) hf h
theorem se_dbin (hK : X.K = K) {x y : Expr} {a b : E} {f : Nat} {c : Cl} {o : Bo} {F : Fn} {pos : Pos} (ff : DunF X T c (PySem.dunder o.py.info.2) 2 F) (hf : G[f]? = some F) (ha : PE X x (tE K T G C W a)) (hb : PE X y (tE K T G C W b)) :
    PE X (.BinOp x o.py y pos) (tE K T G C W (.dop f c (.bin o) a b)) := by
  subst hK
  obtain ⟨g, fd, ps, k, D, sf, fo, hr, hbi⟩ := ff
  have hr := hr.mono (show k + 1 ≤ k + 3 by omega)
  exact (pe_op (op_dbin o.py sf D fo (hr.mono (Nat.le_succ k)) hbi) ha hb).to fun σ H Q h => dop_read (x := x) (y := y) hf h
theorem si_own (hK : X.K = K) {tg e : Expr} {e' : E} {c : Cl} {k : Nat} {g : Addr} {fld : Str} (IC : ItC X.K X.mg X.base X.prog X.w (T.cl c) g fld) (hk : (T.flds c)[k]? = some fld) (nd : (T.flds c).Nodup) (hr : Room 2 X.A) (h : PE X e (tE K T G C W e')) :
    PI X tg e (tIt K T G C W (.own c k e')) := by
  subst hK
  refine ⟨fun pins s σ H R I ⟨B, w, δ, st, Wl, hh⟩ => ?_⟩
  simp only [evalI] at hh
  have hE : tE X.K T G C W e' σ H fun v H1 => ∃ a dx fs t zs, v = .ref a ∧ H1 a = some (.ins (T.cl c) dx fs) ∧ fs.lookup fld = some (.ref t) ∧ SqT X.K H1 t zs ∧ R (Itt X.K t) H1 := by
    refine ⟨B, w, δ, st, Wl, hh.bind fun d st1 w1 H1 ex W1 h1 v rv => ?_⟩
    split at h1
    · rename_i fs e1
      obtain ⟨b, dx, xs, rfl, hq, hl, rs⟩ := W1.insAt (p := .d d) rv e1
      split at h1
      · rename_i ds e2
        obtain ⟨z, hz, t, zs, rfl, ft, rz⟩ := rs.get e2
        refine ⟨b, dx, _, t, zs, rfl, hq, zip_lookup nd hk hz, SqT.of (W1.st.same _ _ ft), h1.ok W1 _ (walks_tup (.inl ft) rz)⟩
      · exact h1.elim
    · exact h1.elim
  refine thn (h.run pins s σ H _ I hE) fun v s1 ⟨x, H1, I1, rx, a, dx, fs, t, zs, ex, ea, l, ht, q⟩ => ?_
  subst ex
  cases rx
  refine wpAny_mono (iter_own IC hr I1 ea l ht) (fun u s2 hu => ?_) fun _ _ z => z
  obtain ⟨it, rfl, I2, ti, fp⟩ := hu
  exact ⟨it, [it], _, _, H1, rfl, I2, turn_tuple t it, ti, fun b hb => by rw [List.mem_singleton.mp hb]; exact fp, q⟩
theorem World.share {B : Hp} {w : Wd} {δ : Sls} {st : Sto} {σ : St} {H : Hp} {a : Addr} {m : M} (Wl : World K T B w δ st σ H) (na : a ∉ w.ι) (ns : ∀ (i : Nat) m', δ[i]? = some (.own m') → σ[i]? ≠ some (some (.ref a))) (c : CellOk K T w H a m) :
    World K T B ⟨w.F, w.ι ++ [a], w.r⟩ δ (st ++ [m]) σ H := by
  have up : Up w ⟨w.F, w.ι ++ [a], w.r⟩ := ⟨Same.refl _, fun l x h => by
    show (w.ι ++ [a])[l]? = some x
    rw [List.getElem?_append_left (List.getElem?_eq_some_iff.mp h).1]
    exact h⟩
  have cell : ∀ {b : Addr} {m : M}, CellOk K T w H b m → CellOk K T ⟨w.F, w.ι ++ [a], w.r⟩ H b m := fun {b m} ⟨f, o, ho, r⟩ => ⟨f, o, ho, r.up up⟩
  refine ⟨⟨Wl.st.same, by simp [Wl.st.len], ?_, fun l m' b h1 h2 => ?_⟩, Wl.len, fun i x h => ?_, Wl.dis⟩
  · refine List.nodup_append.mpr ⟨Wl.st.nd, by simp, fun x hx y hy e => ?_⟩
    rw [List.mem_singleton.mp hy] at e
    exact na (e ▸ hx)
  · by_cases hl : l < st.length
    · rw [List.getElem?_append_left hl] at h1
      have h2' : w.ι[l]? = some b := by
        rw [← List.getElem?_append_left (l₂ := [a]) (by rw [Wl.st.len]; exact hl)]; exact h2
      exact cell (Wl.st.cell l m' b h1 h2')
    · rw [List.getElem?_append_right (by omega)] at h1
      have h2' : ([a] : List Addr)[l - w.ι.length]? = some b := by
        rw [← List.getElem?_append_right (l₁ := w.ι) (by rw [Wl.st.len]; omega)]; exact h2
      have z : l - st.length = 0 := by have := (List.getElem?_eq_some_iff.mp h1).1; simp at this; omega
      rw [Wl.st.len] at h2'
      rw [z] at h1 h2'
      cases h1
      cases h2'
      exact cell c
  · have q := Wl.sl i x h
    cases x with
    | un => trivial
    | exo _ _ => exact fun x hx => (q x hx).up up
    | val d =>
      obtain ⟨v, h1, h2⟩ := q
      exact ⟨v, h1, h2.up up⟩
    | own m' =>
      obtain ⟨b, h1, h2, h3, h4⟩ := q
      refine ⟨b, h1, h2, fun hb => ?_, cell h4⟩
      rcases List.mem_append.mp hb with z | z
      · exact h3 z
      · rw [List.mem_singleton.mp z] at h1
        exact ns i m' h h1
theorem Ext.share {w w' : Wd} {H H' : Hp} {a : Addr} (e : Ext w H w' H') (na : H a = none) : Ext w H ⟨w'.F, w'.ι ++ [a], w'.r⟩ H' where
  same := e.same
  pre := fun l x h => by
    have := e.pre l x h
    show (w'.ι ++ [a])[l]? = some x
    rw [List.getElem?_append_left (List.getElem?_eq_some_iff.mp this).1]
    exact this
  old := e.old
  keep := e.keep
  there := e.there
  new := fun b h => by
    rcases List.mem_append.mp h with z | z
    · exact e.new b z
    · rw [List.mem_singleton.mp z]; exact .inr na
  rt := e.rt
theorem se_shr {x : Expr} {e : E} (h : PE X x (tN K T G C W e)) : PE X x (tE K T G C W (.shr e)) := h.to fun σ H Q ⟨B, w, δ, st, Wl, hh⟩ => by
  simp only [evalE] at hh
  refine ⟨B, w, δ, st, Wl, ?_⟩
  cases er : evalE G C e δ st with
  | stuck => rw [er] at hh; exact hh
  | exc c es s => rw [er] at hh; exact hh
  | ok q =>
    obtain ⟨d, st1⟩ := q
    rw [er] at hh
    intro w1 H1 e1 W1
    cases d <;> try (exact (show False from hh).elim)
    rename_i ds
    intro a nw
    have hh : ∀ w' H', Ext w H w' H' → World K T B w' δ (st1 ++ [M.lst ds]) σ H' → ∀ v, Rep K T w' (.loc st1.length) v → Q v H' := hh
    refine hh ⟨w1.F, w1.ι ++ [a], w1.r⟩ H1 (e1.share nw.fresh) (W1.share nw.noι nw.nosl nw.cell) (.ref a) ⟨a, rfl, ?_⟩
    show (w1.ι ++ [a])[st1.length]? = some a
    rw [← W1.st.len, List.getElem?_append_right (Nat.le_refl _), Nat.sub_self]
    rfl
end
end Qk

set_option linter.all false
set_option maxHeartbeats 2000000
set_option maxRecDepth 100000
namespace Qk
open PySem L2

noncomputable def evalComp2 (G : List Fn) (C : List Int) (elt : E) (tg : Tg) (cs : Es) (tg2 : Tg) (it2 : I) (cs2 : Es) (own own2 : List Nat) (δ : Sls) : D → List D → Sto → R (List D × Sto) := fun x acc st' => match tg.bind x (wipeE δ own) with
  | some δ' => (evalTs G C cs δ' st').bind fun q => match q.1 with
    | true => (evalI G C it2 δ' q.2).bind fun u => compLoop (gdC u.1.2 (evalComp G C elt tg2 cs2 own2 δ')) u.1.1 acc u.2
    | false => .ok (acc, q.2)
  | none => .stuck
theorem gdC2_ok {g : Gd} {f : D → List D → Sto → R (List D × Sto)} {x : D} {acc : List D} {st : Sto} {r : List D × Sto} (h : gdC2 g f x acc st = .ok r) : f x acc st = .ok r ∧ GdOk g r.2 := by
  cases g with
  | none => exact ⟨h, gd_none⟩
  | some p =>
    simp only [gdC2] at h
    split at h
    · rename_i d st' e
      split at h
      · rename_i c
        cases h
        exact ⟨e, fun q hq => by cases hq; exact c⟩
      · cases h
    · rename_i o ho
      rw [h] at ho
      exact absurd rfl (ho _ _)
theorem drop_at {α : Type} {l : List α} {k : Nat} (h : k < l.length) : ∃ d, l[k]? = some d ∧ l.drop k = d :: l.drop (k + 1) := by
  refine ⟨l[k], by simp [h], ?_⟩
  rw [List.drop_eq_getElem_cons h]
theorem Tg.bind_own (t : Tg) : ∀ (d : D) (δ δ' : Sls) (i : Nat) (m : M), t.bind d δ = some δ' → δ'[i]? = some (.own m) → δ[i]? = some (.own m) ∧ i ∉ t.slots := by
  refine Tg.rec (motive_1 := fun t => ∀ (d : D) (δ δ' : Sls) (i : Nat) (m : M), t.bind d δ = some δ' → δ'[i]? = some (.own m) → δ[i]? = some (.own m) ∧ i ∉ t.slots)
    (motive_2 := fun ts => ∀ (ds : List D) (δ δ' : Sls) (i : Nat) (m : M), Tgs.bind ts ds δ = some δ' → δ'[i]? = some (.own m) → δ[i]? = some (.own m) ∧ i ∉ ts.slots) ?_ ?_ ?_ ?_ t
  · intro k d δ δ' i m h e
    simp only [Tg.bind] at h
    cases h
    rw [getElem?_set_cases] at e
    split at e
    · cases e
    · rename_i c
      refine ⟨e, fun z => c ⟨?_, ?_⟩⟩
      · simpa [Tg.slots] using (show i = k by simpa [Tg.slots] using z).symm
      · have : i = k := by simpa [Tg.slots] using z
        rw [← this]
        exact (List.getElem?_eq_some_iff.mp e).1
  · intro ts ih d δ δ' i m h e
    cases d <;> simp only [Tg.bind] at h <;> try (cases h; done)
    exact ih _ _ _ _ _ h e
  · intro ds δ δ' i m h e
    cases ds with
    | nil => simp only [Tgs.bind] at h; cases h; exact ⟨e, by simp [Tgs.slots]⟩
    | cons _ _ => simp only [Tgs.bind] at h; cases h
  · intro t ts ih1 ih2 ds δ δ' i m h e
    cases ds with
    | nil => simp only [Tgs.bind] at h; cases h
    | cons d ds =>
      simp only [Tgs.bind] at h
      split at h
      · rename_i δ1 e1
        obtain ⟨h1, h2⟩ := ih2 _ _ _ _ _ h e
        obtain ⟨h3, h4⟩ := ih1 _ _ _ _ _ e1 h1
        exact ⟨h3, by simp only [Tgs.slots, List.mem_append, not_or]; exact ⟨h4, h2⟩⟩
      · cases h
section
variable {K : PySem.W.Frag} {T : Txc} {G : List Fn} {C : List Int} {W : WX} {X : Cx}
theorem lc2_read {elt' : E} {t t2 : Tg} {i i2 : I} {cs cs2 : Es} {own own2 : List Nat} (hsl : ∀ j ∈ t.slots, j ∈ own) (hsl2 : ∀ j ∈ t2.slots, j ∈ own2) {σ : St} {H : Hp} {Q : VK} (h : tN K T G C W (.comp2 elt' t i cs t2 i2 cs2 own own2) σ H Q) :
    tLc2 (tIt K T G C W i) (tG K T t) (tBs K T G C W0 cs) (tIt K T G C W0 i2) (tG K T t2) (tBs K T G C W0 cs2) (tE K T G C W0 elt') own own2 σ H Q := by
  obtain ⟨B, w, δ, st, Wl, h⟩ := h
  simp only [evalE] at h
  refine ⟨B, w, δ, st, Wl, h.bindE fun dg st1 w1 H1 eqI ex1 W1 h1 J wk p nD => ?_⟩
  have gd1 := evalI_gd eqI
  obtain ⟨ds, g⟩ := dg
  simp only at wk gd1 h1
  have fD : w1.F p = none := freeF W1.st.same nD
  have h0 : H p = none := back_none ex1 nD
  let End : Wd → Hp → D → Prop := fun w' H' d => match d with
      | .lst ds => ∀ a, New K T w H δ σ w' H' a (.lst ds) → Q (.ref a) H'
      | d => ∀ v, Rep K T w' d v → Q v H'
  let Iv : Nat → Hp → Prop := fun k H' => k ≤ ds.length ∧ ∃ w' st' acc xs, GdOk g st' ∧ Ext w1 H1 w' H' ∧ World K T B w' δ st' σ H' ∧ w'.F p = none ∧ p ∉ w'.ι ∧ H' p = some (.lst xs) ∧ Reps K T w' acc xs ∧
    Aft K T W B δ σ w1 H1 ((compLoop2 (gdC2 g (evalComp2 G C elt' t cs t2 i2 cs2 own own2 δ)) (ds.drop k) acc st').bind fun q => .ok (D.lst q.1, q.2)) End
  refine ⟨fun k m H' => m = ds.length - k ∧ Iv k H', ⟨ds.length, rfl, Nat.zero_le _, w1, st1, [], [], gd1, Ext.grow nD, W1.grow nD, fD, W1.noIota nD, upd_same, trivial, h1⟩, ?_⟩
  rintro k m Hk ⟨rfl, hk, w', st', acc, xs, gk, e, W', f, n, hp, rs, ha⟩
  rcases Nat.lt_or_ge k ds.length with lt | ge
  · obtain ⟨d, hd, hdrop⟩ := drop_at lt
    rw [hdrop] at ha
    refine .inr ⟨wk.go k w' st' Hk e.up W'.st gk lt, Iv (k + 1), fun H' iv => ⟨ds.length - (k + 1), by omega, rfl, iv⟩, fun x H' y => ?_⟩
    obtain ⟨w2, e2, up2, rx⟩ := wk.yld k d w' st' Hk x H' e.up W'.st gk hd y
    have W2 := up2 B δ st' σ W'
    simp only [compLoop2] at ha
    cases hf0 : gdC2 g (evalComp2 G C elt' t cs t2 i2 cs2 own own2 δ) d acc st' with
    | stuck => rw [hf0] at ha; exact ha.elim
    | exc c u s => rw [hf0] at ha; exact ha.elim
    | ok r =>
      obtain ⟨hf, gk2⟩ := gdC2_ok hf0
      obtain ⟨acc5, st5⟩ := r
      simp only at gk2
      rw [hf0] at ha
      unfold evalComp2 at hf
      cases hb : t.bind d (wipeE δ own) with
      | none => rw [hb] at hf; cases hf
      | some δ' =>
        rw [hb] at hf
        simp only at hf
        refine ⟨B, w2, wipeE δ own, st', d, W2.wipe own, rx, ?_⟩
        rw [hb]
        refine fun σ2 W3 off => ⟨(off_wipe off hsl).trans (wipe_wipe σ own), B, w2, δ', st', W3, ?_⟩
        cases ht : evalTs G C cs δ' st' with
        | stuck => rw [ht] at hf; cases hf
        | exc c u s => rw [ht] at hf; cases hf
        | ok rb =>
          obtain ⟨b, st4⟩ := rb
          rw [ht] at hf
          simp only [R.bind] at hf
          intro w4 H4 e4 W4
          have ee := e2.trans e4
          have Wo : World K T B w4 δ st4 σ H4 := W'.ext ee W4.st
          have p4 : H4 p = some (.lst xs) := ee.keep p _ hp n
          have f4 : w4.F p = none := ee.old p (by rw [hp]; simp) f
          have n4 : p ∉ w4.ι := ee.notin n (by rw [hp]; simp)
          cases b with
          | false =>
            cases hf
            exact iteF ⟨lt, w4, _, acc, xs, gk2, e.trans ee, Wo, f4, n4, p4, rs.up ee.up, ha⟩
          | true =>
            refine iteT ⟨B, w4, δ', st4, W4, ?_⟩
            cases hi : evalI G C i2 δ' st4 with
            | stuck => simp only [hi] at hf; cases hf
            | exc c u s => simp only [hi] at hf; cases hf
            | ok ri =>
              obtain ⟨⟨ds2, g2⟩, st6⟩ := ri
              have gd6 := evalI_gd hi
              simp only [hi] at hf
              simp only at gd6
              intro w6 H6 e6 W6 J1 wk1
              simp only at wk1
              have e46 := ee.trans e6
              let Iv1 : Nat → Hp → Prop := fun j H' => j ≤ ds2.length ∧ ∃ w' st' acc' xs', GdOk g2 st' ∧ Up w6 w' ∧ Ext w1 H1 w' H' ∧ World K T B w' δ st' σ H' ∧ World K T B w' δ' st' σ2 H' ∧ w'.F p = none ∧ p ∉ w'.ι ∧ H' p = some (.lst xs') ∧ Reps K T w' acc' xs' ∧
                compLoop (gdC g2 (evalComp G C elt' t2 cs2 own2 δ')) (ds2.drop j) acc' st' = .ok (acc5, st5)
              refine ⟨fun j m H' => m = ds2.length - j ∧ Iv1 j H', ⟨ds2.length, rfl, Nat.zero_le _, w6, st6, acc, xs, gd6, Up.refl, e.trans e46, W'.ext e46 W6.st, W6, e46.old p (by rw [hp]; simp) f, e46.notin n (by rw [hp]; simp), e46.keep p _ hp n, rs.up e46.up, hf⟩, ?_⟩
              rintro j m Hj ⟨rfl, hj, wj, stj, accj, xsj, gj, uj, ej, Wj, Wj2, fj, nj, pj, rj, cj⟩
              rcases Nat.lt_or_ge j ds2.length with lt2 | ge2
              · obtain ⟨d2, hd2, hdrop2⟩ := drop_at lt2
                rw [hdrop2] at cj
                refine .inr ⟨wk1.go j wj stj Hj uj Wj.st gj lt2, Iv1 (j + 1), fun H' iv => ⟨ds2.length - (j + 1), by omega, rfl, iv⟩, fun y2 H7 yy => ?_⟩
                obtain ⟨w7, e7, up7, ry⟩ := wk1.yld j d2 wj stj Hj y2 H7 uj Wj.st gj hd2 yy
                simp only [compLoop] at cj
                cases hg0 : gdC g2 (evalComp G C elt' t2 cs2 own2 δ') d2 stj with
                | stuck => rw [hg0] at cj; cases cj
                | exc c u s => rw [hg0] at cj; cases cj
                | ok r =>
                  obtain ⟨hg, gj2⟩ := gdC_ok hg0
                  obtain ⟨od, st8⟩ := r
                  simp only at gj2
                  rw [hg0] at cj
                  unfold evalComp at hg
                  cases hb2 : t2.bind d2 (wipeE δ' own2) with
                  | none => rw [hb2] at hg; cases hg
                  | some δ2 =>
                    rw [hb2] at hg
                    simp only at hg
                    refine ⟨B, w7, wipeE δ' own2, stj, d2, (up7 B δ' stj σ2 Wj2).wipe own2, ry, ?_⟩
                    rw [hb2]
                    refine fun σ3 W8 off2 => ⟨(off_wipe off2 hsl2).trans (wipe_wipe σ2 own2), B, w7, δ2, stj, W8, ?_⟩
                    cases ht2 : evalTs G C cs2 δ2 stj with
                    | stuck => rw [ht2] at hg; cases hg
                    | exc c u s => rw [ht2] at hg; cases hg
                    | ok rb2 =>
                      obtain ⟨b2, st9⟩ := rb2
                      rw [ht2] at hg
                      simp only [R.bind] at hg
                      intro w9 H9 e9 W9
                      have e79 := e7.trans e9
                      cases b2 with
                      | false =>
                        cases hg
                        exact iteF ⟨lt2, w9, _, accj, xsj, gj2, uj.trans e79.up, ej.trans e79, Wj.ext e79 W9.st, Wj2.ext e79 W9.st, e79.old p (by rw [pj]; simp) fj, e79.notin nj (by rw [pj]; simp), e79.keep p _ pj nj, rj.up e79.up, cj⟩
                      | true =>
                        refine iteT ⟨B, w9, δ2, st9, W9, ?_⟩
                        cases hu : evalE G C elt' δ2 st9 with
                        | stuck => simp only [hu] at hg; cases hg
                        | exc c u s => simp only [hu] at hg; cases hg
                        | ok ru =>
                          obtain ⟨u, st10⟩ := ru
                          simp only [hu] at hg
                          cases hg
                          intro w10 H10 e10 W10 v rv
                          have e710 := e79.trans e10
                          have pX : H10 p = some (.lst xsj) := e710.keep p _ pj nj
                          have fX : w10.F p = none := e710.old p (by rw [pj]; simp) fj
                          have nX : p ∉ w10.ι := e710.notin nj (by rw [pj]; simp)
                          have WX1 : World K T B w10 δ _ σ H10 := Wj.ext e710 W10.st
                          have WX2 : World K T B w10 δ' _ σ2 H10 := Wj2.ext e710 W10.st
                          simp only at cj
                          split at cj
                          · rename_i hl
                            have hlim : Lim = 1000000 := rfl
                            have h2 : ∀ (i : Nat) (m : M), δ'[i]? = some (.own m) → σ2[i]? ≠ some (some (.ref p)) := fun i m hi q => by
                              obtain ⟨o1, o2⟩ := Tg.bind_own t d _ _ i m hb hi
                              rw [wipeE_get] at o1
                              split at o1
                              · cases o1
                              · rename_i c
                                rw [off.2 i o2, wipe_get, Wl.len, if_neg c] at q
                                exact Wl.noOwn h0 i m o1 q
                            refine ⟨xsj, pX, by rw [rj.length, sizeLine_eq]; omega, lt2, w10, _, accj ++ [u], xsj ++ [v], gj2, uj.trans e710.up, (ej.trans e710).poke nD, WX1.poke fX nX (fun i m hi => Wl.noOwn h0 i m hi), WX2.poke fX nX h2, fX, nX, upd_same, (rj.up e710.up).append (Reps.one rv), cj⟩
                          · cases cj
              · have hjj : j = ds2.length := by omega
                subst hjj
                rw [List.drop_length] at cj
                cases cj
                exact .inl ⟨wk1.stop wj _ Hj uj Wj.st gj, lt, wj, _, acc5, xsj, gk2, ej, Wj, fj, nj, pj, rj, ha⟩
  · have hkk : k = ds.length := by omega
    subst hkk
    rw [List.drop_length] at ha
    refine .inl ⟨wk.stop w' st' Hk e.up W'.st gk, ?_⟩
    exact ha w' Hk e W' p ⟨h0, n, fun i m hi => Wl.noOwn h0 i m hi, f, _, hp, xs, rfl, rs⟩
end
end Qk

set_option linter.all false
set_option maxHeartbeats 2000000
set_option maxRecDepth 100000
namespace Qk
open PySem L2

section
open PySem.Spec PyProof.Rows RT
variable {prog : Program} {w : PySem.World} {A : Around} {E : Value → Shared → Prop} {s : Shared}
theorem list_init_rev {R : Result → Shared → Prop} {it l : Addr} {items : Array Value} (hh : A.handled = none) (hit : s.heap.IsRevIter it l ((items.size : Int) - 1)) (hl : s.heap.IsList l items) (hne : l ≠ it) (hn : items.size ≤ sizeLine) (S : Addr) (hSi : S ≠ it) (hSl : S ≠ l)
    (hS : s.heap.get? S = some { cls := .type "list", data := .seq #[] })
    (hR : ∀ h' tk acc' c', (∀ b o, b ≠ S → b ≠ it → s.heap.get? b = some o → h'.get? b = some o) → h'.get? S = some { cls := .type "list", dict := none, data := .seq acc' c', slots := #[] } → ItemsOf (fun i v => items[items.size - 1 - i]? = some v) acc' items.size → R (.ok (.ret .none)) { s with heap := h', toks := tk }) :
    wpAny (model prog w) A.in1 (Builtin.«list.__init__» ⟨[.ref S, .ref it], []⟩)
      (fun fin s' => match fin with | .done f => R (.ok f) s' | .again c' => c'.quiet = true ∧ codeAny (model prog w) A c' R s') (fun e s' => R (.error e) s') s := by
  have W := (Walks.listRev (prog := prog) (w := w) (A := A.in1) hh it l hne items).toS
  have hSf : S ∉ [it, l] := by simp only [List.mem_cons, List.not_mem_nil, or_false, not_or]; exact ⟨hSi, hSl⟩
  show wpAny _ A.in1 (do let old ← Builtin.List.listItems (.ref S); Builtin.List.listUpdate (.ref S) (fun _ => #[]); letGo old.toList.reverse; Builtin.List.listExtendWith (.ref S) (.ref it) .none) _ _ s
  refine wpAny_bind ?_
  unfold Builtin.List.listItems
  refine wpAny_bind (wpAny_seqItems hS rfl (wpAny_pure ?_))
  show wpAny _ A.in1 (updateSeq S (fun _ => #[]) >>= fun _ => letGo (#[] : Array Value).toList.reverse >>= fun _ => Builtin.List.listExtendWith (.ref S) (.ref it) .none) _ _ s
  refine wpAny_bind (wpAny_updateSeq hS rfl ?_)
  have hS₂ := Heap.get?_update_self (Obj.mapSeq (fun _ => (#[] : Array Value))) hS rfl
  have oth : ∀ b o, b ≠ S → s.heap.get? b = some o → (s.heap.update S (Obj.mapSeq (fun _ => (#[] : Array Value)))).get? b = some o :=
    fun b o hb e => (Heap.get?_update_other _ _ (Ne.symm hb)).trans e
  refine wpAny_bind (wpAny_letGo ?_)
  have hit1 : (s.heap.update S (Obj.mapSeq (fun _ => (#[] : Array Value)))).IsRevIter it l ((items.size : Int) - 1) := hit.at fun o e => oth _ o hSi.symm e
  have hl1 : (s.heap.update S (Obj.mapSeq (fun _ => (#[] : Array Value)))).IsList l items := by
    obtain ⟨ol, hol, a, b⟩ := hl
    exact ⟨ol, oth _ _ hSl.symm hol, a, b⟩
  have hT : ({ s with heap := s.heap.update S (Obj.mapSeq (fun _ => (#[] : Array Value))) } : Shared).TypeIs (.ref it) "list_reverseiterator" := Heap.IsRevIter.typeIs (s := { s with heap := s.heap.update S (Obj.mapSeq (fun _ => (#[] : Array Value))) }) hit1
  have h1 : Builtin.List.listSameRef (.ref S) (.ref it) = false := by simp [Builtin.List.listSameRef, hSi]
  unfold Builtin.List.listExtendWith
  refine wpAny_bind (wpAny_typeOf hT ?_)
  rw [if_neg (by rw [h1]; decide)]
  refine wpAny_bind (wpAny_pyIter_revIter (s := { s with heap := s.heap.update S (Obj.mapSeq (fun _ => (#[] : Array Value))) }) hit1 ?_)
  refine wpAny_bind (wpAny_holding ?_)
  unfold Builtin.List.listLengthHint
  refine wpAny_bind (wpAny_specialOf hT nolen_lri ?_)
  show wpAny _ A.in1 (specialOf (Value.ref it) (Str.ofString "__length_hint__") >>= _) _ _ _
  refine wpAny_bind (wpAny_specialOf hT hint_lri ?_)
  generalize hid : ("list_reverseiterator.__length_hint__" : String) = id0
  wp_delta
  rw [show splitId id0 = some ("list_reverseiterator", "__length_hint__") from by subst hid; decide +kernel]
  subst hid
  refine wpAny_bind (wpAny_isInstance (b := true) hT (by rw [isSubtype_type]; kernel_rfl) ?_)
  refine wpAny_pure ?_
  rw [if_neg (by decide)]
  have e0 : ((items.size : Nat) : Int) - 1 - ((0 : Nat) : Int) = (items.size : Int) - 1 := by omega
  refine wpAny_pure ⟨plainId_quiet F.plain_extend_loop _, codeAny_extend_loopS W hn _ hSf _ items.size 0 _ _ _ rfl (Nat.zero_le _) ⟨Nat.zero_le _, by rw [e0]; exact hit1, hl1⟩ hS₂ (ItemsOf.nil _) fun s' acc' c' hm hS' hacc => ?_⟩
  rw [Moved.eq_with hm]
  refine hR s'.heap s'.toks acc' c' (fun b o hb hb2 e => hm.heap b o (fun hmem => ?_) (oth b o hb e)) hS' hacc
  rcases List.mem_cons.mp hmem with e' | hmem
  · exact hb e'
  · exact hb2 (List.mem_singleton.mp hmem)
theorem call_list_rev {it l : Addr} {items : Array Value} {Q : Value → Shared → Prop} (hh : A.handled = none) (hit : s.heap.IsRevIter it l ((items.size : Int) - 1)) (hl : s.heap.IsList l items) (hne : l ≠ it) (hn : items.size ≤ sizeLine)
    (hQ : ∀ h' tk acc' c', (∀ b o, b ≠ it → s.heap.get? b = some o → h'.get? b = some o) → h'.get? s.heap.objs.size = some { cls := .type "list", dict := none, data := .seq acc' c', slots := #[] } → ItemsOf (fun i v => items[items.size - 1 - i]? = some v) acc' items.size → Q (.ref s.heap.objs.size) { s with heap := h', toks := tk }) :
    wpAny (model prog w) A (call (.type "list") [.ref it]) Q E s := by
  obtain ⟨oi, hoi, _⟩ := id hit
  obtain ⟨ol, hol, _⟩ := id hl
  refine callType_codes (Q₁ := fun obj s₁ => obj = .ref s.heap.objs.size ∧ s₁ = { s with heap := s.heap.push { cls := .type "list", data := .seq #[] } }) F.called_list (F.typeCall_list_1 _) F.entry_list_init
    (code_list_new _ ⟨rfl, rfl⟩) fun obj s₁ h₁ => ?_
  obtain ⟨rfl, rfl⟩ := h₁
  have hS : (s.heap.push { cls := .type "list", data := .seq #[] }).get? s.heap.objs.size = some { cls := .type "list", data := .seq #[] } := Heap.get?_push_size _ rfl
  refine ⟨⟨_, hS, rfl⟩, F.args_list_init_2 _ _, list_init_rev (A := A.in1) (s := { s with heap := s.heap.push { cls := .type "list", data := .seq #[] } }) hh (hit.at fun o e => Heap.get?_push_of_some _ e) (hl.push _) hne hn _ (Nat.ne_of_gt (Heap.lt_size hoi)) (Nat.ne_of_gt (Heap.lt_size hol)) hS fun h' tk acc' c' hk hS' hacc => ?_⟩
  exact ⟨rfl, hQ h' tk acc' c' (fun b o hb e => hk b o (Nat.ne_of_lt (Heap.lt_size e)) hb (Heap.get?_push_of_some _ e)) hS' hacc⟩
end
def tLstRev (K : PySem.W.Frag) (te : TE) : TE := fun σ H Q => te σ H fun v H1 => ∃ (a : Addr) (xs : List V), v = .ref a ∧ SqL K H1 a xs ∧ ∀ q, H1 q = none → Q (.ref q) (upd H1 q (.lst xs.reverse))
open PySem.Spec PyProof.Rows in
theorem pe_lstRev {X : Cx} {e : Expr} {te : TE} {p p2 pos pos2 : Pos} (hc : X.calm = true) (hg : Gl X "list") (hm : X.mg "list" = none) (hg2 : Gl X "reversed") (hm2 : X.mg "reversed" = none) (he : PE X e te)
    (hs : starEach [e] X.env = (false, eval e X.env) :: starEach [] X.env)
    (hs2 : starEach [.Call (.Name "reversed" p2) [e] [] pos2] X.env = (false, eval (.Call (.Name "reversed" p2) [e] [] pos2) X.env) :: starEach [] X.env := by rfl) :
    PE X (.Call (.Name "list" p) [.Call (.Name "reversed" p2) [e] [] pos2] [] pos) (tLstRev X.K te) := by
  refine ⟨fun pins s σ H Q I h => ?_⟩
  refine Call_ (ld_blt I hg hm (show bootBuiltins "list" = some (.type "list") by decide +kernel) (PyProof.Rows.callWith_type1 (args_cons (Call_ (ld_blt I hg2 hm2 PyProof.Rows.boot_reversed (PyProof.Rows.callWith_type1 (args_cons (thn (he.run pins s σ H _ I h) fun u s1 ⟨v, H1, I1, r1, q1⟩ => args_nil ?_) hs) hs rfl))) hs2) hs2 rfl))
  obtain ⟨a, xs, ev, hq, q⟩ := q1
  subst ev
  obtain rfl : u = Value.ref a := r1
  obtain ⟨its, rv, p', hz⟩ := I1.list hq
  refine call_reversed_list p'.isList (args_nil ?_)
  have k0 : ∀ b o, s1.heap.get? b = some o → (s1.heap.push (revObj a ((its.toArray.size : Int) - 1))).get? b = some o := fun b o e => Heap.get?_push_of_some _ e
  have I2 : Inv X pins σ H1 { s1 with heap := s1.heap.push (revObj a ((its.toArray.size : Int) - 1)) } := I1.kept (t' := s1.toks) k0
  obtain ⟨f0, f1, f2, f3, f4, f5⟩ := I1.fpOk (H' := H1) (b := s1.heap.objs.size) (Nat.le_refl _) (I1.hok.fresh (Nat.le_refl _))
  have hl := p'.isList
  obtain ⟨ol, hol, _⟩ := id hl
  have hne : a ≠ s1.heap.objs.size := Nat.ne_of_lt (Heap.lt_size hol)
  have hn : its.toArray.size ≤ sizeLine := by rw [List.size_toArray, ← rv.length]; exact hz
  have hlt : s1.heap.objs.size < (s1.heap.push (revObj a ((its.toArray.size : Int) - 1))).objs.size := Heap.lt_size (Heap.get?_push_size _ rfl)
  refine call_list_rev (s := { s1 with heap := s1.heap.push (revObj a ((its.toArray.size : Int) - 1)) }) (I1.ok.hd hc) ⟨_, Heap.get?_push_size _ rfl, rfl, rfl⟩ (hl.push _) hne hn fun h' tk acc c' hk hS hi => ?_
  have hfr : H1 (s1.heap.push (revObj a ((its.toArray.size : Int) - 1))).objs.size = none := I2.hok.fresh (Nat.le_refl _)
  refine ⟨.ref (s1.heap.push (revObj a ((its.toArray.size : Int) - 1))).objs.size, upd H1 (s1.heap.push (revObj a ((its.toArray.size : Int) - 1))).objs.size (.lst xs.reverse), I1.laid (t' := tk) (fun b o e => hk b o (Nat.ne_of_lt (Heap.lt_size e)) (k0 b o e)) (Nat.le_of_lt hlt) (show ObjOk X.prog X.w _ _ _ (.lst xs.reverse) from ⟨by rw [List.length_reverse]; exact hz, acc.toList, c', RT.vals_rev rv hi, ?_⟩), rfl, q _ hfr⟩
  rw [Array.toArray_toList]
  exact hS
section
variable {K : PySem.W.Frag} {T : Txc} {G : List Fn} {C : List Int} {W : WX} {X : Cx}
theorem sn_rev (hK : X.K = K) {e : Expr} {a : E} {p p2 pos pos2 : Pos} (hc : X.calm = true) (hg : Gl X "list") (hm : X.mg "list" = none) (hg2 : Gl X "reversed") (hm2 : X.mg "reversed" = none) (he : PE X e (tE K T G C W a)) (hs : ∀ a p, e ≠ .Starred a p) :
    PE X (.Call (.Name "list" p) [.Call (.Name "reversed" p2) [e] [] pos2] [] pos) (tN K T G C W (.rev a)) := by
  subst hK
  have h1 := (es_plain (env := X.env) (pos := pos) (e := e) (es := []) (fun y hy => by rw [List.mem_singleton.mp hy]; exact hs)).1
  refine (pe_lstRev hc hg hm hg2 hm2 he h1).to fun σ H Q ⟨B, w, δ, st, Wl, h⟩ => ?_
  simp only [evalE] at h
  refine ⟨B, w, δ, st, Wl, h.bind fun d st1 w1 H1 ex W1 h1 v rv => ?_⟩
  split at h1
  · rename_i ds e
    obtain ⟨b, xs, ev, q, rs⟩ := W1.lstAt (p := .d d) rv e
    refine ⟨b, xs, ev, q, fun p hp => ?_⟩
    obtain ⟨a, b, c⟩ := new_list ex W1 hp (back_none ex hp) rs.reverse
    exact h1 _ _ (Ext.grow hp) b p c
  · exact h1.elim
theorem pt_cmpTru {a b : Expr} {ta tb : TE} {pos : Pos} {op : CmpOp} {r : R2} (ho : OpR X (compareOp op) r) (ha : PE X a ta) (hb : PE X b tb) (hm : behindInMarks op b = false) : PT X (.Compare a [op] [b] pos) (fun σ H Q => L2.tOp r ta tb σ H fun z H3 => ∃ k, TruV X.K z H3 k ∧ Q k H3) := by
  refine ⟨fun pins s σ H Q I h => ?_⟩
  exact wpAny_isTrue_Compare1 (thn (ha.run pins s σ H _ I h) fun v s1 ⟨x, H1, I1, r1, q1⟩ => thn (hb.run pins s1 σ H1 _ I1 q1) fun u s2 ⟨y, H2, I2, r2, q2⟩ =>
    thn (ho pins s2 σ H2 x y v u _ I2 r1 r2 q2) fun c s3 ⟨z, H3, I3, r3, q3⟩ => tru_ok pins s3 σ H3 z c Q I3 r3 q3) hm
theorem tB_tE {e : E} (q : ∀ δ st, evalT G C e δ st = (evalP G C e δ st).bind fun r => match truP r.2 r.1 with | some b => .ok (b, r.2) | none => .stuck) (q2 : ∀ δ st, evalP G C e δ st = (evalE G C e δ st).bind fun r => .ok (.d r.1, r.2)) {σ : St} {H : Hp} {Q : Bool → Hp → Prop} (h : tB K T G C W e σ H Q) :
    tE K T G C W e σ H fun z H3 => ∃ k, TruV K z H3 k ∧ Q k H3 := by
  obtain ⟨B, w, δ, st, Wl, h⟩ := h
  rw [q, q2] at h
  refine ⟨B, w, δ, st, Wl, ?_⟩
  cases e1 : evalE G C e δ st with
  | stuck => rw [e1] at h; exact h
  | exc c es s => rw [e1] at h; exact h
  | ok r =>
    rw [e1] at h
    obtain ⟨d, st1⟩ := r
    simp only [R.bind] at h
    intro w1 H1 ex W1 v rv
    cases e2 : truP st1 (.d d) with
    | none => rw [e2] at h; exact h.elim
    | some b =>
      rw [e2] at h
      exact ⟨b, W1.truAt (p := .d d) rv e2, h w1 H1 ex W1⟩
theorem st_din2 (hK : X.K = K) {x y : Expr} {a b : E} {f : Nat} {c : Cl} {neg : Bool} {F : Fn} {pos : Pos} (ff : DunF X T c "__contains__" 2 F) (hf : G[f]? = some F) (ha : PE X x (tE K T G C W a)) (hb : PE X y (tE K T G C W b)) (hm : behindInMarks (if neg then .NotIn else .In) y = false) :
    PT X (.Compare x [if neg then .NotIn else .In] [y] pos) (tB K T G C W (.din2 f c neg a b)) := by
  subst hK
  obtain ⟨g, fd, ps, k, D, _, fo, hr, hbi⟩ := ff
  have hr := hr.mono (show k + 1 ≤ k + 3 by omega)
  have go : ∀ {op : CmpOp}, OpR X (compareOp op) (rDIn (T.cl c) (spOf X.K T 2 F) neg) → behindInMarks op y = false → PT X (.Compare x [op] [y] pos) (tB X.K T G C W (.din2 f c neg a b)) := fun {op} ho hm => by
    refine (pt_cmpTru ho ha hb hm).to fun σ H Q h => ?_
    exact din2_read hf (tB_tE (fun _ _ => by simp only [evalT] <;> rfl) (fun _ _ => by simp only [evalP]) h)
  cases neg with
  | true => exact go (op_dnin D fo (hr.mono (Nat.le_succ k)) hbi) hm
  | false => exact go (op_din D fo (hr.mono (Nat.le_succ k)) hbi) hm
theorem st_dcmp (hK : X.K = K) {x y : Expr} {a b : E} {f : Nat} {c : Cl} {o : Co} {F : Fn} {pos : Pos} (hop : compareOp o.py = richCompare o.py) (ff : DunF X T c (cmpInfo o.py).2.1 2 F) (hf : G[f]? = some F) (ha : PE X x (tE K T G C W a)) (hb : PE X y (tE K T G C W b)) (hm : behindInMarks o.py y = false) :
    PT X (.Compare x [o.py] [y] pos) (tB K T G C W (.dop f c (.cmp o) a b)) := by
  subst hK
  obtain ⟨g, fd, ps, k, D, _, fo, hr, hbi⟩ := ff
  have hr := hr.mono (show k + 1 ≤ k + 3 by omega)
  refine (pt_cmpTru (op_dcmp o.py hop D fo (hr.mono (Nat.le_succ k)) hbi) ha hb hm).to fun σ H Q h => ?_
  exact dop_read (x := x) (y := y) hf (tB_tE (fun _ _ => by simp only [evalT] <;> rfl) (fun _ _ => by simp only [evalP]) h)
end
end Qk

set_option linter.all false
set_option maxHeartbeats 4000000
set_option maxRecDepth 100000
namespace Qk
open PySem PySem.Spec PyProof.Rows L2
def gone (D : Ends) : Option Nat → Ends
  | none => D
  | some i => { nx := fun σ' H' => D.nx (σ'.set i none) H', rt := D.rt, bk := fun σ' H' => D.bk (σ'.set i none) H', ct := fun σ' H' => D.ct (σ'.set i none) H' }
def named (σ : L2.St) (a : Addr) : Option Nat → L2.St
  | none => σ
  | some i => σ.set i (some (.ref a))
abbrev Clause := Value × Option Nat × (Addr → Value → Option Addr → TS)
def wGen (K : PySem.W.Frag) (Wout : WX) (D : Ends) : List Clause → WX
  | [] => Wout
  | (c, i, ts) :: r => fun cls d σ H => ∃ b, PySem.W.exmOne K cls c = some b ∧ (b = true → ∀ a, H a = none → ts a cls d (gone D i) (named σ a i) H) ∧ (b = false → wGen K Wout D r cls d σ H)
inductive HdG (X : Cx) : List ExceptHandler → List Clause → Prop
  | nil : HdG X [] []
  | cons {x : Str} {c : Value} {ts : Addr → Value → Option Addr → TS} {b₀ : Stmt} {suite : List Stmt} {np pos' : Pos} {hds : List ExceptHandler} {l : List Clause} (hc : Names X x c)
      (hsu : ∀ (a : Addr) (oe : Obj) (cls : Value) (d : Option Addr) (pn : List (Addr × Obj)), L2N.Zn cls d oe → (∃ vs, oe.data = .fields vs) → PSs (X.suite a ((a, oe) :: pn)) (b₀ :: suite) (ts a cls d)) (r : HdG X hds l) :
      HdG X (.ExceptHandler (some (.Name x np)) none (b₀ :: suite) pos' :: hds) ((c, none, ts) :: l)
  | consA {x n : Str} {i : Nat} {c : Value} {ts : Addr → Value → Option Addr → TS} {b₀ : Stmt} {suite : List Stmt} {np pos' : Pos} {hds : List ExceptHandler} {l : List Clause} (hc : Names X x c) (hi : X.N[i]? = some n) (hln : X.env.kindOf n = some .local)
      (hsu : ∀ (a : Addr) (oe : Obj) (cls : Value) (d : Option Addr) (pn : List (Addr × Obj)), L2N.Zn cls d oe → (∃ vs, oe.data = .fields vs) → PSs (X.suite a ((a, oe) :: pn)) (b₀ :: suite) (ts a cls d)) (r : HdG X hds l) :
      HdG X (.ExceptHandler (some (.Name x np)) (some n) (b₀ :: suite) pos' :: hds) ((c, some i, ts) :: l)
section
variable {X : Cx} {body : List Stmt} {h₀ : ExceptHandler} {hds : List ExceptHandler} {l : List Clause} {pos : Pos} {tb : WX → TS} {Wout : WX}
theorem ps_try_gen (hs : X.stack = X.env :: X.outer) (hf : X.env.frame = some X.env.locals) (hN : X.N.Nodup) (tk : L2N.Takes X Wout)
    (hb : ∀ (W : WX) (pn : List (Addr × Obj)) (xe : Value → Shared → Prop), L2N.Takes (X.tr pn xe) W → PassesOwn (model X.prog X.w) X.A X.env xe → PSs (X.tr pn xe) body (tb W))
    (hh : HdG X (h₀ :: hds) l) : PS X (.Try body (h₀ :: hds) [] [] pos) (fun D σ H => tb (wGen X.K Wout D l) D σ H) := by
  refine ⟨fun pins s σ H D I h => ?_⟩
  have ok := I.ok
  have hfr : X.A.frames = some (X.env :: X.outer) := by rw [ok.frames, hs]
  refine wpAny_Try_except ?_
  refine wpAny_mono ((hb (wGen X.K Wout D l) (X.pn ++ pins) (fun e s₁ => wpAny (model X.prog X.w) X.A (noteFrame e X.env) (fun _ s₂ => wpAny (model X.prog X.w) X.A (setFlight e none) (fun _ s₃ =>
    wpAny (model X.prog X.w) X.A (handleBy e X.env (h₀ :: hds)) (SP X pins D) X.xe s₃) X.xe s₂) X.xe s₁) (fun u s' xx => ?_) PassesOwn.looking).run [] s σ H D (I.toTry _) h) (fun f s1 hsp => ?_) (fun e s1 he => he)
  · obtain ⟨a, B, sI, pins', σ', H', cls, d, rfl, J', nb, up, sky, na, os, ag, w⟩ := xx
    have J : Inv X pins σ' H' sI := J'.ofTry ok
    have sky' : Sky B (X.env :: X.outer) a (L2N.Zn cls d) X.env.locals s'.heap := by rw [← hs]; exact sky
    show wpAny _ X.A (noteFrame (.ref a) X.env) _ _ _
    refine L2N.Sky.land L2N.Zn.steady hfr hf sky' fun h3 fl3 up3 => ?_
    have J3 : Inv X pins σ' H' { s' with heap := h3 } := J.landed nb fl3.1 (up.trans up3) os ag
    obtain ⟨oe3, vs3, he3, hz3, hd3⟩ := fl3.there
    have nfr : a ∉ frs (X.env :: X.outer) := fun hm => by
      obtain ⟨_, o', e', hnf⟩ := fl3.2.2.1.mem hm
      rw [he3] at e'; cases e'
      exact hnf _ hd3
    have nL : a ≠ X.env.locals := fun z => nfr (List.mem_filterMap.mpr ⟨X.env, List.mem_cons_self, by rw [hf, z]⟩)
    have nF : a ∉ X.fs := fun hm => by
      obtain ⟨e, he, q⟩ := List.mem_filterMap.mp hm
      exact nfr (List.mem_filterMap.mpr ⟨e, List.mem_cons_of_mem _ he, q⟩)
    have S3 := J3.suite he3 hd3 na nL nF
    have LT : PySem.W.Looks (model X.prog X.w) h3 (typeOf (.ref a)) cls := fun A Q E s k q => wpAny_typeOf_ref (k _ _ he3) (by rw [hz3.1]; exact q)
    have test : ∀ {x : Str} {c : Value} {np : Pos} {Q : Value → Shared → Prop} {E : Value → Shared → Prop}, Names X x c → Q c { s' with heap := h3 } → wpAny (model X.prog X.w) (X.A.mark (some (.ref a))) (eval (.Name x np) X.env) Q E { s' with heap := h3 } := fun {x c np Q E} hc q => by
      obtain ⟨hg, hdbg, hm | ⟨hm, hv, hnn⟩⟩ := hc
      · exact ld_glob (X := X.suite a ((a, oe3) :: (X.pn ++ pins))) S3 hg hm q hdbg
      · exact ld_blt (X := X.suite a ((a, oe3) :: (X.pn ++ pins))) S3 hg hm hv q hnn hdbg
    have go : ∀ {hds' : List ExceptHandler} {l' : List Clause}, HdG X hds' l' → wGen X.K Wout D l' cls d σ' H' →
        wpAny (model X.prog X.w) X.A (handleBy (.ref a) X.env hds') (SP X pins D) X.xe { s' with heap := h3 } := by
      intro hds' l' hk
      induction hk with
      | nil =>
        intro w
        refine wpAny_handleBy_nil ?_
        obtain ⟨k1, k2, k3, oe, vs, T, oT, ts', he, hz, hd, h1, hr⟩ := id fl3
        unfold PySem.passOn
        refine wpAny_bind (wpAny_field he hd h1 ?_)
        rw [if_neg (show ¬ ((Value.ref T == Value.none) = true) from by simp)]
        have fin : wpAny (model X.prog X.w) X.A (setFlight (.ref a) X.env.frame) (fun _ s4 => wpAny (model X.prog X.w) X.A (throw (.ref a) : Sem Flow) (SP X pins D) X.xe s4) X.xe { s' with heap := h3 } := by
          rw [hf]
          refine HandSPX.setFlight_upZ fl3 fun h4 hh4 up4 => wpAny_throw (tk _ _ ?_)
          exact ⟨a, B, sI, pins, σ', H', cls, d, rfl, J, nb, (up.trans up3).trans up4, .inr (.inr (by rw [hs]; exact hh4)), na, os, ag, w⟩
        first
          | exact wpAny_bind (wpAny_pure (wpAny_bind fin))
          | exact wpAny_bind fin
      | @cons x c ts b₀ suite np pos' hds2 l2 hc hsu r ih =>
        intro w
        obtain ⟨b, hb1, hyes, hno⟩ := w
        refine wpAny_handleBy_cons (codeAny_handlers_test ?_) (by intro q; cases q)
        have LM := PySem.W.exm_one (M := model X.prog X.w) (J3.kIn) LT hb1
        refine test hc (LM.here ?_)
        cases b with
        | true =>
          refine codeAny_handlers_suite ?_
          refine HandSPX.lands_againZ fl3 fun h4 fl4 up4 => ?_
          have J4 : Inv X pins σ' H' { s' with heap := h4 } := J.landed nb fl4.1 ((up.trans up3).trans up4) os ag
          obtain ⟨oe4, vs4, he4, hz4, hd4⟩ := fl4.there
          have S4 := J4.suite he4 hd4 na nL nF
          refine wpAny_mono ((hsu a oe4 cls d (X.pn ++ pins) hz4 ⟨_, hd4⟩).run [] _ _ H' _ S4 (hyes rfl a na)) (fun f s6 hsp => ?_) (fun _ _ z => False.elim z)
          cases f with
          | next =>
            obtain ⟨σ6, H6, S6, q6⟩ := hsp
            exact ⟨_, _, S6.unsuite ok, q6⟩
          | brk =>
            obtain ⟨σ6, H6, S6, q6⟩ := hsp
            exact ⟨_, _, S6.unsuite ok, q6⟩
          | cont =>
            obtain ⟨σ6, H6, S6, q6⟩ := hsp
            exact ⟨_, _, S6.unsuite ok, q6⟩
          | ret u =>
            obtain ⟨v6, σ6, H6, S6, r6, q6⟩ := hsp
            exact ⟨_, _, _, S6.unsuite ok, r6, q6⟩
        | false =>
          show wpAny _ X.A (handleBy (.ref a) X.env hds2) _ _ _
          exact ih (hno rfl)
      | @consA x n i c ts b₀ suite np pos' hds2 l2 hc hi hln hsu r ih =>
        intro w
        obtain ⟨b, hb1, hyes, hno⟩ := w
        refine wpAny_handleBy_cons (codeAny_handlers_test ?_) (by intro q; cases q)
        have LM := PySem.W.exm_one (M := model X.prog X.w) (J3.kIn) LT hb1
        refine test hc (LM.here ?_)
        have hloc : Loc X.env.scope n := .inl hln
        cases b with
        | true =>
          refine codeAny_handlers_suite_as ?_
          refine HandSPX.lands_againZ fl3 fun h4 fl4 up4 => ?_
          have J4 : Inv X pins σ' H' { s' with heap := h4 } := J.landed nb fl4.1 ((up.trans up3).trans up4) os ag
          obtain ⟨oe4, vs4, he4, hz4, hd4⟩ := fl4.there
          have S4 := J4.suite he4 hd4 na nL nF
          refine store_ok (X := X.suite a ((a, oe4) :: (X.pn ++ pins))) (v := .ref a) S4 hN hi hloc rfl (fun s5 S5 => ?_) (.inr hln)
          refine wpAny_mono ((hsu a oe4 cls d (X.pn ++ pins) hz4 ⟨_, hd4⟩).run [] s5 _ H' _ S5 (hyes rfl a na)) (fun f s6 hsp => ?_) (fun _ _ z => False.elim z)
          have end_ : ∀ {σ6 : L2.St} {H6 : Hp} {Q : Shared → Prop}, Inv (X.suite a ((a, oe4) :: (X.pn ++ pins))) [] σ6 H6 s6 → (∀ s7, Inv X pins (σ6.set i none) H6 s7 → Q s7) →
              wpAny (model X.prog X.w) X.A (do bindName X.env n .none; unbindBehindTheSuite X.env n pos') (fun _ s7 => Q s7) X.xe s6 := fun {σ6 H6 Q} S6 hq => gone_ok (S6.unsuite ok) hN hi hln hq
          cases f with
          | next =>
            obtain ⟨σ6, H6, S6, q6⟩ := hsp
            exact end_ S6 fun s7 J7 => ⟨_, _, J7, q6⟩
          | brk =>
            obtain ⟨σ6, H6, S6, q6⟩ := hsp
            exact end_ S6 fun s7 J7 => ⟨_, _, J7, q6⟩
          | cont =>
            obtain ⟨σ6, H6, S6, q6⟩ := hsp
            exact end_ S6 fun s7 J7 => ⟨_, _, J7, q6⟩
          | ret u =>
            obtain ⟨v6, σ6, H6, S6, r6, q6⟩ := hsp
            exact end_ S6 fun s7 J7 => ⟨_, _, _, J7, r6, q6⟩
        | false =>
          show wpAny _ X.A (handleBy (.ref a) X.env hds2) _ _ _
          exact ih (hno rfl)
    exact go hh w
  · cases f with
    | next =>
      obtain ⟨σ', H', J', q⟩ := hsp
      exact wpAny_execs_nil ⟨σ', H', J'.ofTry ok, q⟩
    | brk =>
      obtain ⟨σ', H', J', q⟩ := hsp
      exact ⟨σ', H', J'.ofTry ok, q⟩
    | cont =>
      obtain ⟨σ', H', J', q⟩ := hsp
      exact ⟨σ', H', J'.ofTry ok, q⟩
    | ret u =>
      obtain ⟨v, σ', H', J', r, q⟩ := hsp
      exact ⟨v, σ', H', J'.ofTry ok, r, q⟩
end
end Qk

set_option linter.all false
set_option maxHeartbeats 2000000
set_option maxRecDepth 100000
namespace Qk
open PySem PySem.Spec PyProof.Rows L2
theorem ItemsOf.same {its : List Value} {acc : Array Value} (h : ItemsOf (fun i v => its.toArray[i]? = some v) acc its.toArray.size) : acc.toList = its := by
  refine List.ext_getElem? fun i => ?_
  have hz : acc.size = its.length := by rw [h.1, List.size_toArray]
  rw [Array.getElem?_toList]
  cases e : acc[i]? with
  | none =>
    have := Array.getElem?_eq_none_iff.mp e
    rw [List.getElem?_eq_none (by omega)]
  | some v => have q : its.toArray[i]? = some v := h.2 i v e
              rw [List.getElem?_toArray] at q; exact q.symm
def rListO (K : PySem.W.Frag) (C : Addr) (fld : Str) (sp : Sp) : List V → Hp → VK → Prop := fun xs H Q => ∃ a dx fs t zs, xs = [.ref a] ∧ H a = some (.ins C dx fs) ∧ fs.lookup fld = some (.ref t) ∧ SqT K H t zs ∧
  sp [.ref a] H (fun v H' => ∃ n : Int, v = .int n ∧ 0 ≤ n ∧ n ≤ 1000000 ∧ SqT K H' t zs ∧ ∀ q, H' q = none → Q (.ref q) (upd H' q (.lst zs))) noE
theorem call_listO {X : Cx} {k : Nat} {f g Ca : Addr} {fd : FuncData} {ps : List Str} {sp : Sp} {fld : Str} (hc : X.calm = true) (C : ItC X.K X.mg X.base X.prog X.w Ca g fld) (D : Dun X.K Ca "__len__" f) (Fo : FnOk X.prog X.w X.K X.mg X.base (L2N.CX X.prog X.w) k f fd ps sp) (hr : Room (k + 3) X.A) (hr2 : Room 4 X.A) (hb : Binds X.K fd ps []) :
    CallR X (.type "list") (rListO X.K Ca fld sp) := by
  intro pins s σ H xs us Q I r h
  obtain ⟨a, dx, fs, t, zs, rfl, ea, l, ht, q⟩ := h
  cases r with
  | cons rx rr =>
    cases rr
    cases rx
    refine callType_codes (Q₁ := fun obj s₁ => obj = .ref s.heap.objs.size ∧ s₁ = { s with heap := s.heap.push { cls := .type "list", data := .seq #[] } }) F.called_list (F.typeCall_list_1 _) F.entry_list_init
      (code_list_new _ ⟨rfl, rfl⟩) fun obj s₁ h₁ => ?_
    obtain ⟨rfl, rfl⟩ := h₁
    have hS : (s.heap.push { cls := .type "list", data := .seq #[] }).get? s.heap.objs.size = some { cls := .type "list", data := .seq #[] } := Heap.get?_push_size _ rfl
    refine ⟨⟨_, hS, rfl⟩, F.args_list_init_2 _ _, ?_⟩
    show wpAny _ _ (do let old ← Builtin.List.listItems (.ref s.heap.objs.size); Builtin.List.listUpdate (.ref s.heap.objs.size) (fun _ => #[]); letGo old.toList.reverse; Builtin.List.listExtendWith (.ref s.heap.objs.size) (.ref a) .none) _ _ _
    refine wpAny_bind ?_
    unfold Builtin.List.listItems
    refine wpAny_bind (wpAny_seqItems hS rfl (wpAny_pure ?_))
    show wpAny _ _ (updateSeq s.heap.objs.size (fun _ => #[]) >>= fun _ => letGo (#[] : Array Value).toList.reverse >>= fun _ => Builtin.List.listExtendWith (.ref s.heap.objs.size) (.ref a) .none) _ _ _
    refine wpAny_bind (wpAny_updateSeq hS rfl ?_)
    have hS₂ := Heap.get?_update_self (Obj.mapSeq (fun _ => (#[] : Array Value))) hS rfl
    have kp : ∀ b o, s.heap.get? b = some o → ((s.heap.push { cls := .type "list", data := .seq #[] }).update s.heap.objs.size (Obj.mapSeq (fun _ => (#[] : Array Value)))).get? b = some o := fun b o e =>
      (Heap.get?_update_other _ _ (Nat.ne_of_gt (Heap.lt_size e))).trans (Heap.get?_push_of_some _ e)
    have hSn : H s.heap.objs.size = none := I.fresh
    obtain ⟨S, eS⟩ : ∃ S, S = s.heap.objs.size := ⟨_, rfl⟩
    have fpS : ∀ H', H' S = none → FpOk X pins H' S := fun H' h => I.fpOk (Nat.le_of_eq eS.symm) h
    rw [← eS] at hS₂ hSn kp ⊢
    refine wpAny_bind (wpAny_letGo ?_)
    have I2 : Inv X pins σ H { s with heap := (s.heap.push { cls := .type "list", data := .seq #[] }).update S (Obj.mapSeq (fun _ => (#[] : Array Value))) } := I.kept (t' := s.toks) kp
    obtain ⟨oS, eoS⟩ : ∃ oS, oS = Obj.mapSeq (fun _ => (#[] : Array Value)) ({ cls := .type "list", data := .seq #[] } : Obj) := ⟨_, rfl⟩
    rw [← eoS] at hS₂
    generalize (s.heap.push { cls := .type "list", data := .seq #[] }).update S (Obj.mapSeq (fun _ => (#[] : Array Value))) = h2 at *
    have I2p : Inv X (pins ++ [(S, oS)]) σ H { s with heap := h2 } := I2.pins_of fun p hp => (List.mem_append.mp hp).elim (fun z => I2.pin p (List.mem_append_right _ z)) fun z => by
      rw [List.mem_singleton.mp z]
      obtain ⟨q1, q2, q3, _⟩ := fpS H hSn
      exact ⟨hS₂, hSn, q2, q3, fun v => by rw [eoS]; intro z; cases z⟩
    obtain ⟨ox, od, J⟩ := inst_of I2p ea
    have h1 : Builtin.List.listSameRef (.ref S) (.ref a) = false := by
      have : S ≠ a := fun e => by rw [← e, hSn] at ea; cases ea
      simp [Builtin.List.listSameRef, this]
    unfold Builtin.List.listExtendWith
    refine wpAny_bind (J.type.here ?_)
    rw [if_neg (by rw [h1]; simp)]
    refine wpAny_bind (wpAny_mono (iter_ownA C hr2.in1.in1 I2p.env0.in1.in1 I2p ea l ht) (fun v s3 hv => ?_) fun _ _ z => z)
    obtain ⟨it, rfl, I3, ti, fp⟩ := hv
    obtain ⟨oi, hoi, ti1, ti2⟩ := ti
    have I3p : Inv X (pins ++ [(S, oS)] ++ [(it, oi)]) σ H s3 := I3.pins_of fun p hp => (List.mem_append.mp hp).elim (fun z => I3.pin p (List.mem_append_right _ z)) fun z => by
      rw [List.mem_singleton.mp z]
      exact ⟨hoi, fp.1, fp.2.1, fp.2.2.1, fun v => by rw [ti2]; intro z; cases z⟩
    obtain ⟨ox3, od3, J3⟩ := inst_of I3p ea
    refine wpAny_bind (wpAny_holding ?_)
    unfold Builtin.List.listLengthHint
    refine wpAny_bind (wpAny_bind (J3.type.here ((PySem.W.looks_findIn I3p.kIn D.at_).here ?_)))
    refine wpAny_ite_split (fun hab => absurd (show false = true from hab) Bool.false_ne_true) (fun _ => ?_)
    refine wpAny_ite_split (fun _ => ?_) (fun hab => absurd rfl hab)
    refine wpAny_bind (wpAny_rule ?_)
    obtain ⟨m3, hF3⟩ := I3p.fr
    refine wpAny_bind (wpAny_attempt (PySem.W.len_K hF3 I3p.ok.mod.kin J3 D.at_ D.fn (wpAny_mono (run_calm (vs := [.ref a]) Fo hr.in1.in1.in1 hb I3p.env0.in1.in1.in1 I3p (.cons rfl .nil) q) (fun u s4 hu => ?_) fun _ _ z => z)))
    obtain ⟨v, H4, I4, rv, n, rfl, n0, n1, ht4, hQ⟩ := hu
    obtain ⟨tk, rfl⟩ := rv
    refine ⟨⟨n0, by omega⟩, ?_⟩
    have htl : Builtin.List.listTooLong (n.toNat) = false := by simp [Builtin.List.listTooLong, sizeLine]; omega
    refine wpAny_bind (m := asInt? _) (wpAny_pure ?_)
    refine wpAny_ite_split (fun hab => absurd hab (by rw [htl]; decide)) (fun _ => wpAny_pure ?_)
    have pS : s4.heap.get? S = some oS := (I4.pin (S, oS) (by simp)).1
    have nS4 : H4 S = none := (I4.pin (S, oS) (by simp)).2.1
    have pI : s4.heap.get? it = some oi := (I4.pin (it, oi) (by simp)).1
    have nI4 : H4 it = none := (I4.pin (it, oi) (by simp)).2.1
    have I4u : Inv X pins σ H4 s4 := I4.unpinned.unpinned
    obtain ⟨its, rvs, plT, hz⟩ := I4u.tuple ht4
    have ti4 : s4.heap.IsTupleIter it t 0 := ⟨oi, pI, ti1, ti2⟩
    have lst : X.A.in1.in1.handled = none := I.ok.hd hc
    have fpI : FpOk X pins H4 it := by
      obtain ⟨_, b1, b2, b3, b4, b5⟩ := fp
      exact ⟨nI4, b1, b2, b3, b4, fun p hp => b5 p (by rcases List.mem_append.mp hp with z | z <;> simp [z])⟩
    have hSi : S ≠ it := fun e => by
      obtain ⟨_, _, _, _, _, b5⟩ := fp
      exact b5 (S, oS) (by simp) e
    obtain ⟨ot, pt, pt2, _⟩ := id plT
    have hSt : S ≠ t := fun e => by rw [← e, pS] at pt; rw [← Option.some.inj pt, eoS] at pt2; exact absurd (Value.type.inj pt2) (by decide)
    have hIt : t ≠ it := fun e => by rw [e, pI] at pt; rw [← Option.some.inj pt, ti1] at pt2; exact absurd (Value.type.inj pt2) (by decide)
    have W := (Walks.tuple (prog := X.prog) (w := X.w) (A := X.A.in1.in1) lst it t hIt its.toArray).toS
    have hn : its.toArray.size ≤ sizeLine := by rw [List.size_toArray, ← rvs.length]; exact hz
    have hSf : S ∉ [it, t] := by simp [hSi, hSt]
    have key : ∀ (h : Heap) (c₁ tk : Nat), (∀ b o, b ≠ S → s4.heap.get? b = some o → h.get? b = some o) → h.get? S = some { cls := .type "list", data := .seq #[] c₁ } →
        codeAny (model X.prog X.w) X.A.in1 (.builtin "list.extend.loop" ⟨[.ref S, .ref it, .none], []⟩) (wants (fun r s₂ => r = Value.none ∧ EP X pins σ Q (.ref S) s₂) X.xe) { s4 with heap := h, toks := tk } := by
      intro h c₁ tk hk hS₁
      refine codeAny_extend_loopS W hn S hSf .none its.toArray.size 0 _ #[] c₁ rfl (Nat.zero_le _) ⟨ti4.at fun o e => hk it o (Ne.symm hSi) e, Heap.IsTuple.at (a := t) (items := its.toArray) plT fun o e => hk t o (Ne.symm hSt) e⟩ hS₁ (ItemsOf.nil _) fun s' acc' c' hm hS' hacc => ?_
      have kk : ∀ b o, b ∉ [it, S] → s4.heap.get? b = some o → s'.heap.get? b = some o := fun b o hb e => by
        simp only [List.mem_cons, List.not_mem_nil, or_false, not_or] at hb
        exact hm.heap b o (by simp [hb.1, hb.2]) (hk b o hb.2 e)
      have I5 : Inv X pins σ H4 { s4 with heap := s'.heap, toks := s'.toks } := I4u.turnedL (ch := [it, S]) kk fun b hb => by
        simp only [List.mem_cons, List.not_mem_nil, or_false] at hb
        rcases hb with e | e
        · rw [e]; exact fpI
        · rw [e]; exact fpS H4 nS4
      have ea : acc'.toList = its := ItemsOf.same hacc
      have I6 : Inv X pins σ (upd H4 S (.lst zs)) { s4 with heap := s'.heap, toks := s'.toks } := I5.take (h' := s'.heap) (t' := s'.toks) (fun b o _ e => e) (fpS H4 nS4) ⟨hz, acc'.toList, c', by rw [ea]; exact rvs, by rw [Array.toArray_toList]; exact hS'⟩
      rw [Moved.eq_with hm]
      exact ⟨rfl, .ref S, _, I6, rfl, hQ S nS4⟩
    refine wpAny_ite_split (fun _ => ?_) (fun _ => wpAny_pure ⟨plainId_quiet F.plain_extend_loop _, ?_⟩)
    · refine wpAny_bind (wpAny_rule ?_)
      refine wpAny_bind ?_
      show wpAny _ _ (updateSeq S (·.push .none) >>= fun _ => updateSeq S (·.pop)) _ _ _
      rw [eoS] at pS
      refine wpAny_bind (wpAny_updateSeq pS rfl ?_)
      have hS₃ := Heap.get?_update_self (Obj.mapSeq (·.push Value.none)) pS rfl
      refine wpAny_updateSeq (hz := by seq_fits) hS₃ rfl ?_
      have hS₄ := Heap.get?_update_self (Obj.mapSeq (·.pop)) hS₃ rfl
      refine wpAny_pure ⟨plainId_quiet F.plain_extend_loop _, key _ _ _ (fun b o hb e => ?_) hS₄⟩
      exact (Heap.get?_update_other _ _ (Ne.symm hb)).trans ((Heap.get?_update_other _ _ (Ne.symm hb)).trans e)
    · exact key s4.heap _ _ (fun b o _ e => e) (pS.trans (by rw [eoS]; rfl))
end Qk

set_option linter.all false
set_option maxHeartbeats 2000000
set_option maxRecDepth 100000
namespace Qk
open PySem L2

section
variable {K : PySem.W.Frag} {T : Txc} {w : Wd} {B H : Hp} {δ : Sls} {σ : St} {st : Sto}
def DctAt (K : PySem.W.Frag) (T : Txc) (w : Wd) (H : Hp) (a : Addr) (t : Bool) (kvs : List (Ky × D)) : Prop :=
  (t = true ∧ ∃ q, H a = some (.dT q) ∧ RepK K T w kvs q) ∨ (t = false ∧ ∃ q, H a = some (.dK q) ∧ RepJ K T w kvs q)
theorem RepM.dctAt {a : Addr} {t : Bool} {kvs : List (Ky × D)} {o : HO} (h : H a = some o) (r : RepM K T w (.dct t kvs) o) : DctAt K T w H a t kvs := by
  rcases r with ⟨e, q, rfl, r⟩ | ⟨e, q, rfl, r⟩
  · exact .inl ⟨e, q, h, r⟩
  · exact .inr ⟨e, q, h, r⟩
theorem World.dctAt (W : World K T B w δ st σ H) {k : Ky} : ∀ {p : Pl} {v : V} {kvs : List (Ky × D)}, RepP K T w δ σ p v → dctOf st k p = some kvs → ∃ a, v = .ref a ∧ DctAt K T w H a k.isT kvs := by
  intro p v kvs r h
  cases p with
  | d d =>
    cases d with
    | dct t ks ds =>
      simp only [dctOf] at h
      split at h
      · rename_i e
        cases h
        obtain ⟨a, xs, rfl, f, hk, hl, rs⟩ := r
        refine ⟨a, rfl, ?_⟩
        rw [← e]
        cases t with
        | true => exact .inl ⟨rfl, _, W.st.same _ _ f, repK_of hk rs⟩
        | false => exact .inr ⟨rfl, _, W.st.same _ _ f, repJ_of hk rs⟩
      · cases h
    | loc l =>
      simp only [dctOf] at h
      cases e : st[l]? with
      | none => rw [e] at h; cases h
      | some m =>
        rw [e] at h
        cases m with
        | lst _ => cases h
        | ins _ _ => cases h
        | dct t ds =>
          simp only at h
          split at h
          · rename_i et
            cases h
            obtain ⟨a, e1, _, _, o, ho, rm⟩ := W.locAt e r
            exact ⟨a, e1, et ▸ rm.dctAt ho⟩
          · cases h
    | _ => cases h
  | own m =>
    cases m with
    | lst _ => cases h
    | ins _ _ => cases h
    | dct t ds =>
      simp only [dctOf] at h
      split at h
      · rename_i et
        cases h
        obtain ⟨i, a, h1, h2, e⟩ := r
        obtain ⟨_, _, _, o, ho, rm⟩ := W.ownAt h1 h2
        exact ⟨a, e, et ▸ rm.dctAt ho⟩
      · cases h
theorem inl_inj : ∀ {a b : List Int}, (a.map Sum.inl : List Key) = b.map Sum.inl → a = b
  | [], [], _ => rfl
  | [], _ :: _, h => by cases h
  | _ :: _, [], h => by cases h
  | x :: xs, y :: ys, h => by
    simp only [List.map_cons, List.cons.injEq, Sum.inl.injEq] at h
    rw [h.1, inl_inj h.2]
theorem lookK_K {ns : List Int} : ∀ {kvs : List (Ky × D)} {q : List (List Key × V)}, RepK K T w kvs q → (∀ d, lookK (.t ns) kvs = some d → ∃ v, valV q (ns.map Sum.inl) = some v ∧ Rep K T w d v) ∧ (lookK (.t ns) kvs = none → valV q (ns.map Sum.inl) = none)
  | [], [], _ => ⟨fun d h => (by cases h), fun _ => rfl⟩
  | p :: ps, q :: qs, ⟨⟨ms, e1, e2⟩, r, t⟩ => by
    by_cases c : ms = ns
    · subst c
      refine ⟨fun d h => ?_, fun h => ?_⟩
      · simp only [lookK, e1, if_true, Option.some.injEq] at h
        subst h
        exact ⟨_, valV_pos e2, r⟩
      · simp only [lookK, e1, if_true] at h
        cases h
    · have n1 : ¬ p.1 = Ky.t ns := fun z => by rw [e1] at z; cases z; exact c rfl
      have n2 : ¬ q.1 = ns.map Sum.inl := fun z => by rw [e2] at z; exact c (inl_inj z)
      obtain ⟨h1, h2⟩ := lookK_K (ns := ns) t
      simp only [lookK, if_neg n1]
      rw [valV_neg n2]
      exact ⟨h1, h2⟩
  | [], _ :: _, h => h.elim
  | _ :: _, [], h => h.elim
theorem lookK_J {n : Int} : ∀ {kvs : List (Ky × D)} {q : List (Key × V)}, RepJ K T w kvs q → (∀ d, lookK (.i n) kvs = some d → ∃ v, valV q (Sum.inl n) = some v ∧ Rep K T w d v) ∧ (lookK (.i n) kvs = none → valV q (Sum.inl n) = none)
  | [], [], _ => ⟨fun d h => (by cases h), fun _ => rfl⟩
  | p :: ps, q :: qs, ⟨⟨m, e1, e2⟩, r, t⟩ => by
    by_cases c : m = n
    · subst c
      refine ⟨fun d h => ?_, fun h => ?_⟩
      · simp only [lookK, e1, if_true, Option.some.injEq] at h
        subst h
        exact ⟨_, valV_pos e2, r⟩
      · simp only [lookK, e1, if_true] at h
        cases h
    · have n1 : ¬ p.1 = Ky.i n := fun z => by rw [e1] at z; cases z; exact c rfl
      have n2 : ¬ q.1 = Sum.inl n := fun z => by rw [e2] at z; cases z; exact c rfl
      obtain ⟨h1, h2⟩ := lookK_J (n := n) t
      simp only [lookK, if_neg n1]
      rw [valV_neg n2]
      exact ⟨h1, h2⟩
  | [], _ :: _, h => h.elim
  | _ :: _, [], h => h.elim
theorem look_some {ns : List Int} {kvs : List (Ky × D)} {q : List (List Key × V)} (r : RepK K T w kvs q) : (q.any fun kv => decide (kv.1 = ns.map Sum.inl)) = (lookK (.t ns) kvs).isSome := by
  obtain ⟨h1, h2⟩ := lookK_K (ns := ns) r
  rw [valV_any]
  cases e : lookK (.t ns) kvs with
  | none => rw [h2 e]; rfl
  | some d => obtain ⟨v, ev, _⟩ := h1 d e; rw [ev]; rfl
theorem look_someJ {n : Int} {kvs : List (Ky × D)} {q : List (Key × V)} (r : RepJ K T w kvs q) : (q.any fun kv => decide (kv.1 = Sum.inl n)) = (lookK (.i n) kvs).isSome := by
  obtain ⟨h1, h2⟩ := lookK_J (n := n) r
  rw [valV_any]
  cases e : lookK (.i n) kvs with
  | none => rw [h2 e]; rfl
  | some d => obtain ⟨v, ev, _⟩ := h1 d e; rw [ev]; rfl
theorem repK_snoc {ns : List Int} {d : D} {v : V} (rv : Rep K T w d v) : ∀ {kvs : List (Ky × D)} {q : List (List Key × V)}, RepK K T w kvs q → RepK K T w (kvs ++ [(.t ns, d)]) (q ++ [(ns.map Sum.inl, v)])
  | [], [], _ => ⟨⟨ns, rfl, rfl⟩, rv, trivial⟩
  | _ :: _, _ :: _, h => ⟨h.1, h.2.1, repK_snoc rv h.2.2⟩
  | [], _ :: _, h => h.elim
  | _ :: _, [], h => h.elim
theorem repJ_snoc {n : Int} {d : D} {v : V} (rv : Rep K T w d v) : ∀ {kvs : List (Ky × D)} {q : List (Key × V)}, RepJ K T w kvs q → RepJ K T w (kvs ++ [(.i n, d)]) (q ++ [(Sum.inl n, v)])
  | [], [], _ => ⟨⟨n, rfl, rfl⟩, rv, trivial⟩
  | _ :: _, _ :: _, h => ⟨h.1, h.2.1, repJ_snoc rv h.2.2⟩
  | [], _ :: _, h => h.elim
  | _ :: _, [], h => h.elim
theorem repK_repl {ns : List Int} {d : D} {v : V} (rv : Rep K T w d v) : ∀ {kvs : List (Ky × D)} {q : List (List Key × V)}, RepK K T w kvs q → RepK K T w (kvs.map fun p => if p.1 = .t ns then (p.1, d) else p) (q.map fun kv => if kv.1 = ns.map Sum.inl then (kv.1, v) else kv)
  | [], [], _ => trivial
  | p :: ps, q :: qs, ⟨⟨ms, e1, e2⟩, r, t⟩ => by
    have ih := repK_repl (ns := ns) rv t
    simp only [List.map_cons]
    by_cases c : ms = ns
    · subst c
      rw [if_pos e1, if_pos e2]
      exact ⟨⟨ms, e1, e2⟩, rv, ih⟩
    · have n1 : ¬ p.1 = Ky.t ns := fun z => by rw [e1] at z; cases z; exact c rfl
      have n2 : ¬ q.1 = ns.map Sum.inl := fun z => by rw [e2] at z; exact c (inl_inj z)
      rw [if_neg n1, if_neg n2]
      exact ⟨⟨ms, e1, e2⟩, r, ih⟩
  | [], _ :: _, h => h.elim
  | _ :: _, [], h => h.elim
theorem repJ_repl {n : Int} {d : D} {v : V} (rv : Rep K T w d v) : ∀ {kvs : List (Ky × D)} {q : List (Key × V)}, RepJ K T w kvs q → RepJ K T w (kvs.map fun p => if p.1 = .i n then (p.1, d) else p) (q.map fun kv => if kv.1 = Sum.inl n then (kv.1, v) else kv)
  | [], [], _ => trivial
  | p :: ps, q :: qs, ⟨⟨m, e1, e2⟩, r, t⟩ => by
    have ih := repJ_repl (n := n) rv t
    simp only [List.map_cons]
    by_cases c : m = n
    · subst c
      rw [if_pos e1, if_pos e2]
      exact ⟨⟨m, e1, e2⟩, rv, ih⟩
    · have n1 : ¬ p.1 = Ky.i n := fun z => by rw [e1] at z; cases z; exact c rfl
      have n2 : ¬ q.1 = Sum.inl n := fun z => by rw [e2] at z; cases z; exact c rfl
      rw [if_neg n1, if_neg n2]
      exact ⟨⟨m, e1, e2⟩, r, ih⟩
  | [], _ :: _, h => h.elim
  | _ :: _, [], h => h.elim
theorem putK_K {ns : List Int} {d : D} {v : V} (rv : Rep K T w d v) {kvs : List (Ky × D)} {q : List (List Key × V)} (r : RepK K T w kvs q) : RepK K T w (putK (.t ns) d kvs) (L2.putK q (ns.map Sum.inl) v) := by
  unfold L2.putK putK
  rw [look_some r]
  by_cases c : (lookK (.t ns) kvs).isSome = true
  · rw [if_pos c, if_pos c]; exact repK_repl rv r
  · rw [if_neg c, if_neg c]; exact repK_snoc rv r
theorem putK_J {n : Int} {d : D} {v : V} (rv : Rep K T w d v) {kvs : List (Ky × D)} {q : List (Key × V)} (r : RepJ K T w kvs q) : RepJ K T w (putK (.i n) d kvs) (L2.putK q (Sum.inl n) v) := by
  unfold L2.putK putK
  rw [look_someJ r]
  by_cases c : (lookK (.i n) kvs).isSome = true
  · rw [if_pos c, if_pos c]; exact repJ_repl rv r
  · rw [if_neg c, if_neg c]; exact repJ_snoc rv r
theorem RepK.length : ∀ {kvs : List (Ky × D)} {q : List (List Key × V)}, RepK K T w kvs q → q.length = kvs.length
  | [], [], _ => rfl
  | _ :: _, _ :: _, h => by simp [RepK.length h.2.2]
  | [], _ :: _, h => h.elim
  | _ :: _, [], h => h.elim
theorem RepJ.length : ∀ {kvs : List (Ky × D)} {q : List (Key × V)}, RepJ K T w kvs q → q.length = kvs.length
  | [], [], _ => rfl
  | _ :: _, _ :: _, h => by simp [RepJ.length h.2.2]
  | [], _ :: _, h => h.elim
  | _ :: _, [], h => h.elim
theorem key_rep (sm : Same w.F H) {d : D} {y : V} {k : Ky} (h : keyOf d = some k) (r : Rep K T w d y) : (∃ n, k = .i n ∧ y = kV (Sum.inl n)) ∨ ∃ ns b, k = .t ns ∧ y = .ref b ∧ H b = some (.tup ((ns.map Sum.inl).map kV)) := by
  cases d <;> simp only [keyOf] at h <;> try (cases h; done)
  · cases h
    exact .inl ⟨_, rfl, r⟩
  · split at h
    · rename_i ns e
      cases h
      obtain ⟨b, xs, rfl, f, rs⟩ := r
      refine .inr ⟨ns, b, rfl, rfl, ?_⟩
      rw [rs.is e] at f
      rw [List.map_map]
      exact sm _ _ f
    · cases h
theorem dget_at (sm : Same w.F H) {d : D} {y : V} {k : Ky} {a : Addr} {kvs : List (Ky × D)} (h : keyOf d = some k) (r : Rep K T w d y) (q : DctAt K T w H a k.isT kvs) : ∃ o, DGet H a y o ∧ (∀ v, lookK k kvs = some v → ∃ x, o = some x ∧ Rep K T w v x) ∧ (lookK k kvs = none → o = none) := by
  rcases key_rep sm h r with ⟨n, rfl, rfl⟩ | ⟨ns, b, rfl, rfl, hb⟩
  · rcases q with ⟨z, _⟩ | ⟨_, q, hq, rq⟩
    · cases z
    · obtain ⟨h1, h2⟩ := lookK_J (n := n) rq
      refine ⟨_, DGet.k hq, fun v e => ?_, fun e => h2 e⟩
      exact h1 v e
  · rcases q with ⟨_, q, hq, rq⟩ | ⟨z, _⟩
    · obtain ⟨h1, h2⟩ := lookK_K (ns := ns) rq
      refine ⟨_, DGet.t hq hb, fun v e => ?_, fun e => h2 e⟩
      exact h1 v e
    · cases z
end
section
variable {K : PySem.W.Frag} {T : Txc} {G : List Fn} {C : List Int} {W : WX} {X : Cx}
theorem se_dget (hK : X.K = K) (hu : X.A.units + 65 < cLine) {a b : Expr} {a' b' : E} {pos : Pos} (ha : PE X a (tP K T G C W a')) (hb : PE X b (tE K T G C W b')) (hp : NoSl b) : PE X (.Subscript a b pos) (tE K T G C W (.dget a' b')) := by
  subst hK
  refine (pe_dget (by omega) ha hb hp).to fun σ H Q ⟨B, w, δ, st, Wl, h⟩ => ?_
  simp only [evalE] at h
  refine ⟨B, w, δ, st, Wl, h.bind fun p st1 w1 H1 ex W1 h1 v rv => ⟨B, w1, δ, st1, W1, h1.bind fun y st2 w2 H2 ex2 W2 h2 u ru => ?_⟩⟩
  unfold dgetV at h2
  simp only at h2
  cases ek : keyOf y with
  | none => rw [ek] at h2; exact h2.elim
  | some key =>
    rw [ek] at h2
    simp only at h2
    cases ed : dctOf st2 key p with
    | none => rw [ed] at h2; exact h2.elim
    | some kvs =>
      rw [ed] at h2
      simp only at h2
      cases el : lookK key kvs with
      | none => rw [el] at h2; exact h2.elim
      | some d =>
        rw [el] at h2
        obtain ⟨c, rfl, q⟩ := W2.dctAt (rv.up ex2.up) ed
        obtain ⟨o, g, h3, _⟩ := dget_at W2.st.same ek ru q
        obtain ⟨x, rfl, rx⟩ := h3 d el
        exact ⟨c, x, rfl, g, h2.ok W2 x rx⟩
def rDctIn (neg : Bool) : R2 := fun y x H Q => ∃ a o, x = .ref a ∧ DGet H a y o ∧ Q (.bl (if neg then !o.isSome else o.isSome)) H
theorem op_dctIn (hu : X.A.units + 1 < cLine) (neg : Bool) : OpR X (compareOp (if neg then .NotIn else .In)) (rDctIn neg) := by
  intro pins s σ H y x v u Q I ry rx ⟨a, o, ex, g, q⟩
  subst ex
  obtain rfl : u = Value.ref a := rx
  cases neg with
  | true => exact d_notIn hu I g ry fun s3 I3 => ⟨.bl (!o.isSome), H, I3, rfl, q⟩
  | false => exact d_in hu I g ry fun s3 I3 => ⟨.bl o.isSome, H, I3, rfl, q⟩
theorem din_read {k d : E} {neg : Bool} {σ : St} {H : Hp} {Q : VK} (h : tE K T G C W (.din neg k d) σ H Q) : L2.tOp (rDctIn neg) (tE K T G C W k) (tP K T G C W d) σ H Q := by
  obtain ⟨B, w, δ, st, Wl, h⟩ := h
  simp only [evalE] at h
  refine ⟨B, w, δ, st, Wl, h.bind fun y st1 w1 H1 ex W1 h1 v rv => ⟨B, w1, δ, st1, W1, h1.bind fun p st2 w2 H2 ex2 W2 h2 u ru => ?_⟩⟩
  unfold dinV at h2
  simp only at h2
  cases ek : keyOf y with
  | none => rw [ek] at h2; exact h2.elim
  | some key =>
    rw [ek] at h2
    simp only at h2
    cases ed : dctOf st2 key p with
    | none => rw [ed] at h2; exact h2.elim
    | some kvs =>
      rw [ed] at h2
      simp only at h2
      obtain ⟨c, rfl, q⟩ := W2.dctAt ru ed
      obtain ⟨o, g, h3, h4⟩ := dget_at W2.st.same ek (rv.up ex2.up) q
      refine ⟨c, o, rfl, g, ?_⟩
      have eo : o.isSome = (lookK key kvs).isSome := by
        cases el : lookK key kvs with
        | none => rw [h4 el]; rfl
        | some d => obtain ⟨x, rfl, _⟩ := h3 d el; rfl
      have := h2.ok W2 _ rfl
      rw [eo]
      exact this
theorem se_din (hu : X.A.units + 65 < cLine) {x y : Expr} {k d : E} {neg : Bool} {pos : Pos} (hk : PE X x (tE K T G C W k)) (hd : PE X y (tP K T G C W d)) (hm : behindInMarks (if neg then .NotIn else .In) y = false) :
    PE X (.Compare x [if neg then .NotIn else .In] [y] pos) (tE K T G C W (.din neg k d)) :=
  (pe_cmpR (op_dctIn (by omega) neg) hk hd hm).to fun _ _ _ => din_read
theorem st_din (hK : X.K = K) (hu : X.A.units + 65 < cLine) {x y : Expr} {k d : E} {neg : Bool} {pos : Pos} (hk : PE X x (tE K T G C W k)) (hd : PE X y (tP K T G C W d)) (hm : behindInMarks (if neg then .NotIn else .In) y = false) :
    PT X (.Compare x [if neg then .NotIn else .In] [y] pos) (tB K T G C W (.din neg k d)) := by
  subst hK
  exact (pt_cmpTru (op_dctIn (by omega) neg) hk hd hm).to fun σ H Q h => din_read (tB_tE (fun _ _ => by simp only [evalT] <;> rfl) (fun _ _ => by simp only [evalP]) h)
def rIndexT (K : PySem.W.Frag) : V → List V → Hp → VK → Prop := fun x xs H Q => ∃ (a : Addr) (y : V) (d : PyData) (ds : List PyData) (j : Nat) (z : PyData), x = V.ref a ∧ xs = [y] ∧ Dp K H (V.ref a) (.tuple ds) ∧ Dp K H y d ∧
  SeqAt.shaped (.tuple ds) = true ∧ SeqAt.shaped d = true ∧ ds[j]? = some z ∧ PyData.eqv z d = true ∧ (∀ (m : Nat) (z' : PyData), m < j → ds[m]? = some z' → PyData.eqv z' d = false) ∧ Q (.int (j : Nat)) H
open PySem PySem.Spec PyProof.Rows in
theorem mt_indexT (hu : X.A.units + 65 < cLine) : MtR X "tuple.index" (rIndexT X.K) := by
  intro pins s σ H x xs v us Q I rx rxs h
  obtain ⟨a, y, d, ds, j, z, rfl, rfl, hl, hy, sl, sd, hz, hzj, hno, q⟩ := h
  cases rx
  cases rxs with
  | cons ry rt =>
    rename_i uy ut
    cases rt
    obtain ⟨bs, r1⟩ := Dp.reads I d y uy hy ry
    have hxs : PyData.canLayAll0 ds = true := SeqAt.canLay_of_shaped sl
    have hroom : X.A.units + 1 + min (PyData.depthAll ds) d.depth < cLine := room_in_shaped sd hu
    cases hl with
    | tup hs ha =>
      obtain ⟨its, rv, ⟨⟨cls, dd, data, sls⟩, ho, hc, n, hdt⟩, hlen⟩ := I.tuple hs
      simp only at hc hdt
      subst hc hdt
      obtain ⟨as, h4⟩ := Dp.readsAll I ds _ its ha rv
      have hn : its.length = ds.length := SeqAt.ReadsAll.length ds its as h4
      have hmap : its.map (SeqAt.readOf s.heap) = ds := SeqAt.readsAll_map ds its as hxs h4
      obtain ⟨hjd, _⟩ := List.getElem?_eq_some_iff.mp hz
      have hjl : j < its.length := by omega
      have hj : j < its.toArray.size := by simpa using hjl
      have at_ : ∀ (m : Nat) (hm : m < its.toArray.size) (z' : PyData), ds[m]? = some z' → SeqAt.readOf s.heap its.toArray[m] = z' := by
        intro m hm z' hz'
        have hml : m < its.length := by simpa using hm
        rw [← hmap, List.getElem?_map, List.getElem?_eq_getElem hml] at hz'
        have e1 : SeqAt.readOf s.heap its[m] = z' := Option.some.inj (show some (SeqAt.readOf s.heap its[m]) = some z' from hz')
        simpa using e1
      refine call_meets PySem.F.slot_tuple_index ⟨_, ho, rfl⟩ PySem.F.entry_tuple_index (PySem.F.args_tuple_index_2 _ _)
        (TI.tuple_indexAt a its.toArray n dd sls uy (fun u => PyData.eqv (SeqAt.readOf s.heap u) d) j hj ?_ ?_) ⟨ho, SeqAt.items_eqAt (vs := its.toArray) (show ReadsAll s.heap its.toArray.toList ds as from h4) r1 hxs (SeqAt.canLay_of_shaped sd) hroom, ?_⟩
      · show PyData.eqv (SeqAt.readOf s.heap its.toArray[j]) d = true
        rw [at_ j hj z hz]
        exact hzj
      · intro m hm hmj
        have hmd : m < ds.length := by
          have : m < its.length := by simpa using hm
          omega
        have hz' : ds[m]? = some ds[m] := List.getElem?_eq_getElem hmd
        show PyData.eqv (SeqAt.readOf s.heap its.toArray[m]) d = false
        rw [at_ m hm _ hz']
        exact hno m _ hmj hz'
      · exact ⟨.int (j : Nat), H, I.tok _, ⟨_, rfl⟩, q⟩
theorem pe_bmLT {o e : Expr} {es : List Expr} {to : TE} {t : TA} {name : Str} {apos cpos : Pos} {id id2 : String} {r r2 : V → List V → Hp → VK → Prop} (slot : Slot "list" name id) (slot2 : Slot "tuple" name id2) (hty : typeOf (.builtin id) = pure (.type "method_descriptor")) (hty2 : typeOf (.builtin id2) = pure (.type "method_descriptor"))
    (hm : MtR X id r) (hm2 : MtR X id2 r2) (ho : PE X o to) (ha : PA X (e :: es) t)
    (hbase : attributeBase o name X.env (eval o X.env) = eval o X.env)
    (hfew : ((backTo cpos (starEach (e :: es) X.env)).all (fun x => !x.1) && (backToKw cpos (keywordEach [] X.env)).all (fun x => x.1.isSome)
      && decide ((e :: es).length + ([] : List Keyword).length + (if ([] : List Keyword).isEmpty then 0 else 1) < 30)) = true)
    (hline : (apos.endLine == cpos.line) = true) (hs : starEach (e :: es) X.env = (false, eval e X.env) :: starEach es X.env) (hplain : (backTo cpos (starEach es X.env)).any (·.1) = false) :
    PE X (.Call (.Attribute o name apos) (e :: es) [] cpos) (fun σ H Q => to σ H fun x H1 => ∃ a, x = .ref a ∧ (((∃ xs, SqL X.K H1 a xs) ∧ t σ H1 fun xs H2 => r x xs H2 Q) ∨ ((∃ o xs, H1 a = some (.frz o (.tup xs)) ∧ o.dict = none) ∧ t σ H1 fun xs H2 => r2 x xs H2 Q))) := by
  refine ⟨fun pins s σ H Q I h => ?_⟩
  refine wpAny_Call_method_late hbase hfew hline rfl (thn (ho.run pins s σ H _ I h) fun v s1 ⟨x, H1, I1, r1, a, ex, q1⟩ => ?_)
  subst ex
  obtain rfl : v = Value.ref a := r1
  rcases q1 with ⟨⟨xs, sq⟩, q1⟩ | ⟨⟨o, xs, sq, hdn⟩, q1⟩
  · obtain ⟨h1, h2⟩ := tyV_is I1 (x := .ref a) (T := "list") rfl (.inl ⟨rfl, xs, sq⟩)
    refine ⟨"list", id, PySem.F.plainAttrs_list, slot, hty, h1, h2, ?_⟩
    have hA := ha.run cpos pins s1 σ H1 _ I1 q1
    rw [hs] at hA ⊢
    refine Calls.callWith_builtin (by show (false || (backTo cpos (starEach es X.env)).any (·.1)) = false; rw [hplain] <;> rfl) (Calls.evalArgs_plain ?_)
    exact thn hA fun us s2 ⟨vs, H2, I2, r2, q2⟩ => hm pins s2 σ H2 (.ref a) vs _ us Q I2 rfl r2 q2
  · obtain ⟨ho, _, its, _, ⟨o', ho', hc, n, hd⟩⟩ := I1.hok _ _ sq
    rw [ho] at ho'
    cases ho'
    refine ⟨"tuple", id2, PySem.F.plainAttrs_tuple, slot2, hty2, ⟨o, ho, hc⟩, fun b eb => ?_, ?_⟩
    · cases eb
      exact ⟨o, ho, hdn⟩
    have hA := ha.run cpos pins s1 σ H1 _ I1 q1
    rw [hs] at hA ⊢
    refine Calls.callWith_builtin (by show (false || (backTo cpos (starEach es X.env)).any (·.1)) = false; rw [hplain] <;> rfl) (Calls.evalArgs_plain ?_)
    exact thn hA fun us s2 ⟨vs, H2, I2, r2, q2⟩ => hm2 pins s2 σ H2 (.ref a) vs _ us Q I2 rfl r2 q2
theorem findIdx_spec {ds : List D} {p : D → Bool} {j : Nat} (h : ds.findIdx? p = some j) : (∃ z, ds[j]? = some z ∧ p z = true) ∧ ∀ (m : Nat) (z : D), m < j → ds[m]? = some z → p z = false := by
  rw [List.findIdx?_eq_some_iff_getElem] at h
  obtain ⟨hj, h1, h2⟩ := h
  refine ⟨⟨_, List.getElem?_eq_getElem hj, h1⟩, fun m z hm hz => ?_⟩
  have := h2 m hm
  obtain ⟨q, e⟩ := List.getElem?_eq_some_iff.mp hz
  rw [e] at this
  simpa using this
theorem se_idx (hK : X.K = K) (hu : X.A.units + 65 < cLine) {a b : Expr} {a' b' : E} {apos cpos : Pos} (ha : PE X a (tP K T G C W a')) (hb : PE X b (tE K T G C W b')) (hba : attributeBase a "index" X.env (eval a X.env) = eval a X.env) (hp : ∀ u p, b ≠ .Starred u p) (hl : (apos.endLine == cpos.line) = true) :
    PE X (.Call (.Attribute a "index" apos) [b] [] cpos) (tE K T G C W (.idx a' b')) := by
  subst hK
  have hp' : ∀ y ∈ [b], ∀ a p, y ≠ .Starred a p := fun y hy => by rw [List.mem_singleton.mp hy]; exact hp
  obtain ⟨h1, h2⟩ := es_plain (env := X.env) (pos := cpos) hp'
  have hfew : ((backTo cpos (starEach [b] X.env)).all (fun x => !x.1) && (backToKw cpos (keywordEach [] X.env)).all (fun x => x.1.isSome)
      && decide (([b] : List Expr).length + ([] : List Keyword).length + (if ([] : List Keyword).isEmpty then 0 else 1) < 30)) = true := by
    rw [form_plain hp']
    rfl
  refine (pe_bmLT PySem.F.slot_list_index PySem.F.slot_tuple_index PySem.F.type_list_index PySem.F.type_tuple_index (mt_indexD hu) (mt_indexT hu) ha (pa_cons hb pa_nil h1) hba hfew hl h1 h2).to fun σ H Q ⟨B, w, δ, st, Wl, h⟩ => ?_
  simp only [evalE] at h
  refine ⟨B, w, δ, st, Wl, h.bind fun p st1 w1 H1 ex W1 h1 v rv => ?_⟩
  split at h1
  · rename_i ds0 e0
    have at_ : ∀ {st2 : Sto} {w2 : Wd} {H2 : Hp} {ds : List D}, World X.K T B w2 δ st2 σ H2 → Up w1 w2 → idxOf st2 p = some ds → ∃ c xs, v = .ref c ∧ Reps X.K T w2 ds xs ∧ ((lstOf st2 p = some ds ∧ SqL X.K H2 c xs) ∨ ((∃ es, p = .d (.ktup es)) ∧ ∃ o, H2 c = some (.frz o (.tup xs)) ∧ o.dict = none)) := by
      intro st2 w2 H2 ds W2 up e
      unfold idxOf at e
      split at e
      · cases e
        obtain ⟨c, o, xs, rfl, f, hd, rs⟩ := rv
        exact ⟨c, xs, rfl, rs.up up, .inr ⟨⟨_, rfl⟩, o, W2.st.same _ _ (up.same _ _ f), hd⟩⟩
      · obtain ⟨c, xs, ev, q, rs⟩ := W2.lstAt (rv.up up) e
        exact ⟨c, xs, ev, rs, .inl ⟨e, q⟩⟩
    obtain ⟨c, xs, rfl, _, kind⟩ := at_ W1 Up.refl e0
    have fin : ∀ {R : V → List V → Hp → VK → Prop}, (∀ (y : D) (st2 : Sto) (w2 : Wd) (H2 : Hp) (u : V) (ds : List D) (j : Nat), Ext w1 H1 w2 H2 → World X.K T B w2 δ st2 σ H2 → Rep X.K T w2 y u → idxOf st2 p = some ds → y.shp 9 = true → ds.all (D.shp 8) = true → ds.findIdx? (fun z => PyData.eqv z.toP y.toP) = some j → Q (.int (j : Nat)) H2 → R (.ref c) [u] H2 Q) →
        tE X.K T G C W b' σ H1 fun u H2 => R (.ref c) [u] H2 Q := by
      intro R k
      refine ⟨B, w1, δ, st1, W1, h1.bind fun y st2 w2 H2 ex2 W2 h2 u ru => ?_⟩
      cases es : idxOf st2 p with
      | none => rw [es] at h2; exact h2.elim
      | some ds =>
        rw [es] at h2
        simp only at h2
        split at h2
        · rename_i cc
          simp only [Bool.and_eq_true] at cc
          cases ef : ds.findIdx? (fun z => PyData.eqv z.toP y.toP) with
          | none => rw [ef] at h2; exact h2.elim
          | some j =>
            rw [ef] at h2
            exact k y st2 w2 H2 u ds j ex2 W2 ru es cc.1 cc.2 ef (h2.ok W2 _ rfl)
        · exact h2.elim
    have toP_get : ∀ {ds : List D} {m : Nat} {z : PyData}, (Ds.toP ds)[m]? = some z → ∃ d, ds[m]? = some d ∧ z = d.toP := fun {ds m z} e => by
      rw [Ds.toP_map, List.getElem?_map] at e
      cases q : ds[m]? with
      | none => rw [q] at e; cases e
      | some d => rw [q] at e; cases e; exact ⟨d, rfl, rfl⟩
    refine ⟨c, rfl, ?_⟩
    rcases kind with ⟨el, sq⟩ | ⟨⟨es, ep⟩, o, hf, hd⟩
    · refine .inl ⟨⟨xs, sq⟩, fin (R := rIndexD X.K) fun y st2 w2 H2 u ds j ex2 W2 ru es c9 c8 ef q => ?_⟩
      obtain ⟨c', xs', ec, rs, k2⟩ := at_ W2 ex2.up es
      cases ec
      rcases k2 with ⟨_, sq2⟩ | ⟨⟨es, ep⟩, _⟩
      · obtain ⟨⟨z, hz, hzt⟩, hno⟩ := findIdx_spec ef
        refine ⟨c, u, y.toP, Ds.toP ds, j, z.toP, rfl, rfl, .lst sq2 (Reps.dp W2.st.same c8 rs), Rep.dp W2.st.same c9 ru, shp_shaped (d := .lst ds) (n := 9) (by omega) (by simpa only [D.shp] using c8), shp_shaped (n := 9) (by omega) c9, by rw [Ds.toP_map, List.getElem?_map, hz]; rfl, hzt, fun m z' hm hz' => ?_, q⟩
        obtain ⟨d, hd, rfl⟩ := toP_get hz'
        exact hno m d hm hd
      · rw [ep] at el; cases el
    · refine .inr ⟨⟨o, xs, hf, hd⟩, fin (R := rIndexT X.K) fun y st2 w2 H2 u ds j ex2 W2 ru es c9 c8 ef q => ?_⟩
      obtain ⟨c', xs', ec, rs, k2⟩ := at_ W2 ex2.up es
      cases ec
      rcases k2 with ⟨el, _⟩ | ⟨_, o2, hf2, _⟩
      · rw [ep] at el; cases el
      · obtain ⟨⟨z, hz, hzt⟩, hno⟩ := findIdx_spec ef
        refine ⟨c, u, y.toP, Ds.toP ds, j, z.toP, rfl, rfl, .tup (SqT.frz hf2) (Reps.dp W2.st.same c8 rs), Rep.dp W2.st.same c9 ru, shp_shaped (d := .tup ds) (n := 9) (by omega) (by simpa only [D.shp] using c8), shp_shaped (n := 9) (by omega) c9, by rw [Ds.toP_map, List.getElem?_map, hz]; rfl, hzt, fun m z' hm hz' => ?_, q⟩
        obtain ⟨d, hd, rfl⟩ := toP_get hz'
        exact hno m d hm hd
  · exact h1.elim
open PySem PySem.Spec PyProof.Rows in
theorem call_tupleK : CallR X (.type "tuple") (fun xs H Q => ∃ p ys, xs = [.ref p] ∧ SqL X.K H p ys ∧ ∀ l o, H l = none → o.dict = none → Q (.ref l) (upd H l (.frz o (.tup ys)))) := by
  intro pins s σ H xs us Q I r h
  obtain ⟨p, ys, rfl, hq, q⟩ := h
  obtain ⟨u, rfl, rx⟩ := vals1 r
  cases rx
  obtain ⟨its, r', pl, hz⟩ := I.list hq
  have hlen := r'.length
  refine call_tuple_list pl.isList (fun h' kp => ?_) (by simp only [List.size_toArray] <;> omega)
  have I1 : Inv X pins σ H { s with heap := h' } := I.kept (t' := s.toks) kp
  have I2 : Inv X pins σ (upd H h'.objs.size (.frz { cls := .type "tuple", data := .seq its.toArray } (.tup ys))) { s with heap := h'.push { cls := .type "tuple", data := .seq its.toArray } } :=
    I1.laid (t' := s.toks) (fun b o e => Heap.get?_push_of_some _ e) (Nat.le_refl _) (show ObjOk X.prog X.w _ _ _ (.frz _ (.tup ys)) from ⟨Heap.get?_push_size _ rfl, hz, its, r', IsTup.new _ _⟩)
  exact ⟨.ref h'.objs.size, _, I2, rfl, q _ _ (I1.hok.fresh (Nat.le_refl _)) rfl⟩
theorem new_ktup {B : Hp} {w : Wd} {δ : Sls} {st : Sto} {σ : St} {H : Hp} {ds : List D} {xs : List V} {p : Addr} {o : Obj} (Wl : World K T B w δ st σ H) (hp : H p = none) (hd : o.dict = none) (r : Reps K T w ds xs) :
    Ext w H (w.put p (.frz o (.tup xs))) (upd H p (.frz o (.tup xs))) ∧ World K T B (w.put p (.frz o (.tup xs))) δ st σ (upd H p (.frz o (.tup xs))) ∧ Rep K T (w.put p (.frz o (.tup xs))) (.ktup ds) (.ref p) := by
  have fp := freeF Wl.st.same hp
  refine ⟨(Ext.grow hp).frz hp fp, (Wl.grow hp).freeze upd_same fp (Wl.noIota hp) (fun i m e => Wl.noOwn hp i m e), p, o, xs, rfl, upd_same, hd, r.up (Up.put fp)⟩
theorem se_tupK (hK : X.K = K) {e : Expr} {e' : E} {p pos : Pos} (hg : Gl X "tuple") (hm : X.mg "tuple" = none) (he : PE X e (tP K T G C W e')) (hs : ∀ a p, e ≠ .Starred a p) : PE X (.Call (.Name "tuple" p) [e] [] pos) (tE K T G C W (.tupK e')) := by
  subst hK
  obtain ⟨h1, h2⟩ := es_plain (env := X.env) (pos := pos) (fun y hy => by rw [List.mem_singleton.mp hy]; exact hs)
  refine (pe_callTy call_tupleK hg hm (by decide +kernel) (pa_cons he pa_nil h1) (by decide +kernel) (by decide +kernel) h1 h2).to fun σ H Q ⟨B, w, δ, st, Wl, h⟩ => ?_
  simp only [evalE] at h
  refine ⟨B, w, δ, st, Wl, h.bind fun d st1 w1 H1 ex W1 h1 v rv => ?_⟩
  split at h1
  · rename_i ds e
    obtain ⟨a, xs, rfl, q, rs⟩ := W1.lstAt rv e
    refine ⟨a, xs, rfl, q, fun l o hl ho => ?_⟩
    obtain ⟨a, b, c⟩ := new_ktup (σ := σ) W1 hl ho rs
    exact h1 _ _ a b _ c
  · exact h1.elim
theorem World.datLAt {B : Hp} {w : Wd} {δ : Sls} {st : Sto} {σ : St} {H : Hp} {d : D} {v : V} {ds : List D} (Wl : World K T B w δ st σ H) (r : Rep K T w d v) (e : datL st d = some ds) : ∃ a xs, v = .ref a ∧ H a = some (.lst xs) ∧ Reps K T w ds xs := by
  unfold datL at e
  split at e
  · cases e
    obtain ⟨l, xs, e1, f1, s1⟩ := r
    exact ⟨l, xs, e1, Wl.st.same _ _ f1, s1⟩
  · rename_i l
    split at e
    · rename_i es es2
      cases e
      obtain ⟨a, rfl, _, _, o, ho, xs, rfl, rs⟩ := Wl.locAt es2 r
      exact ⟨a, xs, rfl, ho, rs⟩
    · cases e
  · cases e
theorem se_addP {a b : Expr} {a' b' : E} {pos : Pos} (ha : PE X a (tE K T G C W a')) (hb : PE X b (tE K T G C W b')) : PE X (.BinOp a .Add b pos) (tN K T G C W (.addP a' b')) := by
  refine (pe_op op_cat ha hb).to fun σ H Q ⟨B, w, δ, st, Wl, h⟩ => ?_
  simp only [evalE] at h
  refine ⟨B, w, δ, st, Wl, h.bind fun x st1 w1 H1 ex1 W1 h1 v rv => ⟨B, w1, δ, st1, W1, h1.bind fun y st2 w2 H2 ex2 W2 h2 u ry => ?_⟩⟩
  have rx := rv.up ex2.up
  have ex := ex1.trans ex2
  split at h2
  · rename_i ds1 e1
    split at h2
    · rename_i ds2 e2
      split at h2
      · rename_i hl
        obtain ⟨l, xs, rfl, f1, s1⟩ := W2.datLAt rx e1
        obtain ⟨m, ys, rfl, f2, s2⟩ := W2.datLAt ry e2
        have lim : Lim = 1000000 := rfl
        refine ⟨l, m, xs, ys, rfl, rfl, f1, f2, by rw [s1.length, s2.length, sizeLine_eq]; omega, fun p hp => ?_⟩
        obtain ⟨a, b, c⟩ := new_list ex W2 hp (back_none ex hp) (s1.append s2)
        exact h2 _ _ (Ext.grow hp) b p c
      · exact h2.elim
    · exact h2.elim
  · exact h2.elim
theorem sn_lstO (hK : X.K = K) {e : Expr} {a : E} {f k : Nat} {c : Cl} {F : Fn} {g : Addr} {fld : Str} {p pos : Pos} (hc : X.calm = true) (ff : DunF X T c "__len__" 1 F) (hf : G[f]? = some F) (it : ItC X.K X.mg X.base X.prog X.w (T.cl c) g fld) (nd : (T.flds c).Nodup) (hk : (T.flds c)[k]? = some fld) (hr2 : Room 4 X.A)
    (hg : Gl X "list") (hm : X.mg "list" = none) (he : PE X e (tE K T G C W a)) (hs : ∀ a p, e ≠ .Starred a p) :
    PE X (.Call (.Name "list" p) [e] [] pos) (tN K T G C W (.lstO f c k a)) := by
  subst hK
  obtain ⟨g', fd, ps, k', D, _, fo, hr, hbi⟩ := ff
  obtain ⟨h1, h2⟩ := es_plain (env := X.env) (pos := pos) (fun y hy => by rw [List.mem_singleton.mp hy]; exact hs)
  refine (pe_callTy (call_listO hc it D fo hr hr2 hbi) hg hm (by decide +kernel) (pa_cons he pa_nil h1) (by decide +kernel) (by decide +kernel) h1 h2).to fun σ H Q ⟨B, w, δ, st, Wl, h⟩ => ?_
  simp only [evalE] at h
  refine ⟨B, w, δ, st, Wl, h.bind fun d st1 w1 H1 ex W1 h1 v rv => ?_⟩
  split at h1
  · rename_i fs efs
    split at h1
    · rename_i ds ek
      split at h1
      · rename_i F' eF
        rw [hf] at eF
        cases eF
        obtain ⟨b, dx, xs, rfl, hq, _, rxs⟩ := W1.insAt (p := .d d) rv efs
        obtain ⟨x, hx, t, zs, rfl, ft, rz⟩ := rxs.get ek
        refine ⟨b, dx, _, t, zs, rfl, hq, zip_lookup nd hk hx, SqT.of (W1.st.same _ _ ft), ?_⟩
        refine ⟨rfl, w1, [d], st1, W1.st, ⟨rv, trivial⟩, ?_⟩
        cases ec : F [d] st1 with
        | stuck => rw [ec] at h1; exact h1.elim
        | exc _ _ _ => rw [ec] at h1; exact h1.elim
        | ok q =>
          obtain ⟨d2, st2⟩ := q
          rw [ec] at h1
          intro w2 H2 v2 ex2 so r2
          cases d2 <;> simp only at h1 <;> try exact h1.elim
          rename_i n
          split at h1
          · rename_i hn
            cases r2
            refine ⟨n, rfl, hn.1, hn.2, SqT.of (so.same _ _ (ex2.up.same _ _ ft)), fun l hl => ?_⟩
            have W2 := W1.ext ex2 so
            obtain ⟨a, b, c⟩ := new_list (ex.trans ex2) W2 hl (back_none (ex.trans ex2) hl) (rz.up ex2.up)
            exact h1 _ _ (ex2.trans (Ext.grow hl)) b _ c
          · exact h1.elim
      · exact h1.elim
    · exact h1.elim
  · exact h1.elim
end
end Qk

set_option linter.all false
set_option maxHeartbeats 2000000
set_option maxRecDepth 100000
namespace Qk
open PySem L2

section
variable {K : PySem.W.Frag} {T : Txc} {G : List Fn} {C : List Int} {W : WX} {X : Cx}
theorem sn_lstS (hK : X.K = K) {a : Expr} {es : List Expr} {a' : E} {es' : Es} {p pos : Pos} (ha : PE X a (tP K T G C W a')) (h : PA X es (tAs K T G C W es')) : PE X (.List (.Starred a p :: es) pos) (tN K T G C W (.lstS a' es')) := by
  subst hK
  refine (pe_lst (StX.pa_star ha h)).to fun σ H Q ⟨B, w, δ, st, Wl, h⟩ => ?_
  simp only [evalE] at h
  refine ⟨B, w, δ, st, Wl, h.bind fun q st1 w1 H1 ex W1 h1 v rv => ?_⟩
  split at h1
  · rename_i ds e
    obtain ⟨a, xs, ev, sq, rs⟩ := W1.seqAt rv e
    refine ⟨a, xs, ev, sq.symm, as_then W1 (h1.bind fun ds2 st2 w2 H2 ex2 W2 h2 hlen vs rs2 => ?_)⟩
    split at h2
    · rename_i c
      have ra := (rs.up ex2.up).append rs2
      refine ⟨ra.small c (by rw [Lim_eq]; omega), fun p hp => ?_⟩
      obtain ⟨x, y, z⟩ := new_list (ex.trans ex2) W2 hp (back_none (ex.trans ex2) hp) ra
      exact h2 _ _ (Ext.grow hp) y p z
    · exact h2.elim
  · exact h1.elim
theorem se_tupS (hK : X.K = K) {a : Expr} {es : List Expr} {a' : E} {es' : Es} {k : Nat} {p pos : Pos} (ha : PE X a (tP K T G C W a')) (h : PA X es (tAs K T G C W es')) : PE X (.Tuple (.Starred a p :: es) k pos) (tE K T G C W (.tupS a' es')) := by
  subst hK
  refine (pe_tup (StX.pa_star ha h)).to fun σ H Q ⟨B, w, δ, st, Wl, h⟩ => ?_
  simp only [evalE] at h
  refine ⟨B, w, δ, st, Wl, h.bind fun q st1 w1 H1 ex W1 h1 v rv => ?_⟩
  split at h1
  · rename_i ds e
    obtain ⟨a, xs, ev, sq, rs⟩ := W1.seqAt rv e
    refine ⟨a, xs, ev, sq.symm, as_then W1 (h1.bind fun ds2 st2 w2 H2 ex2 W2 h2 hlen vs rs2 => ?_)⟩
    split at h2
    · rename_i c
      have ra := (rs.up ex2.up).append rs2
      refine ⟨ra.small c (by rw [Lim_eq]; omega), fun p hp => ?_⟩
      obtain ⟨x, y, z⟩ := new_tup (σ := σ) W2 hp ra
      exact h2 _ _ x y _ z
    · exact h2.elim
  · exact h1.elim
end
end Qk

set_option linter.all false
set_option maxHeartbeats 2000000
set_option maxRecDepth 100000
namespace Qk
open PySem L2

section
variable {K : PySem.W.Frag} {T : Txc} {G : List Fn} {C : List Int} {W : WX} {X : Cx}
theorem seq_obj {pins : List (Addr × Obj)} {σ : St} {H : Hp} {s : Shared} {b : Addr} {xs : List V} (I : Inv X pins σ H s) (h : SqL X.K H b xs ∨ SqT X.K H b xs) : ∃ (o : Obj) (n : String), s.heap.get? b = some o ∧ o.cls = .type n ∧ NoOr n := by
  rcases h with h | h
  · obtain ⟨its, _, pl, _⟩ := I.list h
    obtain ⟨o, ho, hc, _⟩ := pl.isList
    exact ⟨o, "list", ho, hc, noOr_list⟩
  · obtain ⟨its, _, ⟨o, ho, hc, _⟩, _⟩ := I.tuple h
    exact ⟨o, "tuple", ho, hc, noOr_tuple⟩
theorem seqLT_at {B : Hp} {w : Wd} {δ : Sls} {st : Sto} {σ : St} {H : Hp} {d : D} {v : V} (Wl : World K T B w δ st σ H) (r : Rep K T w d v) (h : seqLT st d = true) : ∃ b xs, v = .ref b ∧ (SqL K H b xs ∨ SqT K H b xs) := by
  have : ∃ ds, seqOf st (.d d) = some ds := by
    cases d <;> simp only [seqLT] at h <;> try (cases h; done)
    · exact ⟨_, rfl⟩
    · exact ⟨_, rfl⟩
    · rename_i l
      simp only [seqOf]
      cases e : st[l]? with
      | none => rw [e] at h; cases h
      | some m =>
        rw [e] at h
        cases m <;> simp only at h <;> first | exact ⟨_, rfl⟩ | cases h
  obtain ⟨ds, e⟩ := this
  obtain ⟨a, xs, ev, q, _⟩ := Wl.seqAt (p := .d d) r e
  exact ⟨a, xs, ev, q⟩
theorem se_orL (hK : X.K = K) (tk : L2N.Takes X W) {x y : Expr} {a b : E} {f : Nat} {c : Cl} {F : Fn} {pos : Pos} (ff : DunF X T c (PySem.dunder "or") 2 F) (hf : G[f]? = some F) (ha : PE X x (tE K T G C W a)) (hb : PE X y (tE K T G C W b)) :
    PE X (.BinOp x .BitOr y pos) (tE K T G C W (.orL f c a b)) := by
  subst hK
  obtain ⟨g, fd, ps, k, hD, sf, fo, hr, hbi⟩ := ff
  have hr := hr.mono (show k ≤ k + 3 by omega)
  refine ⟨fun pins s σ H Q I ⟨B, w, δ, st, Wl, h⟩ => ?_⟩
  simp only [evalE] at h
  have hA : tE X.K T G C W a σ H fun v H1 => tE X.K T G C W b σ H1 fun u H2 => ∃ o dx fs p, v = .ref o ∧ H2 o = some (.ins (T.cl c) dx fs) ∧ u = .ref p ∧ ((∃ xs, SqL X.K H2 p xs ∨ SqT X.K H2 p xs) ∨ ∃ dy gs, H2 p = some (.ins (T.cl c) dy gs)) ∧ spOf X.K T 2 F [v, u] H2 Q (WE W σ) := by
    refine ⟨B, w, δ, st, Wl, h.bind fun d st1 w1 H1 ex W1 h1 v rv => ⟨B, w1, δ, st1, W1, h1.bind fun d2 st2 w2 H2 ex2 W2 h2 u ru => ?_⟩⟩
    split at h2
    · rename_i fs e1
      split at h2
      · rename_i hs
        simp only [hf] at h2
        obtain ⟨o, dx, xs, rfl, hq, _, _⟩ := W2.insAt (p := .d d) (rv.up ex2.up) e1
        have sp := sp_call (ds := [d, d2]) (vs := [_, _]) rfl W2 ⟨rv.up ex2.up, ru, trivial⟩ h2
        rcases Bool.or_eq_true _ _ |>.mp hs with q | q
        · obtain ⟨p, ys, rfl, hq2⟩ := seqLT_at W2 ru q
          exact ⟨o, dx, _, p, rfl, hq, rfl, .inl ⟨ys, hq2⟩, sp⟩
        · obtain ⟨gs, e2⟩ := Option.isSome_iff_exists.mp q
          obtain ⟨p, dy, ys, rfl, hq2, _, _⟩ := W2.insAt (p := .d d2) ru e2
          exact ⟨o, dx, _, p, rfl, hq, rfl, .inr ⟨dy, _, hq2⟩, sp⟩
      · exact h2.elim
    · exact h2.elim
  refine wpAny_BinOp (thn (ha.run pins s σ H _ I hA) fun u1 s1 ⟨v1, H1, I1, r1, q1⟩ => thn (hb.run pins s1 σ H1 _ I1 q1) fun u2 s2 ⟨v2, H2, I2, r2, o, dx, fs, p, e1, hq, e2, hk, sp⟩ => ?_)
  subst e1 e2
  cases r1
  cases r2
  obtain ⟨ox, od, J⟩ := inst_of I2 hq
  obtain ⟨m, hF⟩ := I2.fr
  have go : wpAny (model X.prog X.w) X.A (call (.ref g) [.ref o, .ref p]) (PySem.W.CmpBack (EP X pins σ Q)) X.xe s2 := wpAny_mono (run_fnS (E := WE W) (us := [.ref o, .ref p]) (vs := [.ref o, .ref p]) fo hr hbi (L2N.passAt tk σ) I2 (.cons rfl (.cons rfl .nil)) sp) (fun z s' ⟨y, H', I', ry, q'⟩ => notImp ry _ ⟨y, H', I', ry, q'⟩) fun _ _ z => z
  rcases hk with ⟨xs, hk⟩ | ⟨dy, gs, hk⟩
  · obtain ⟨oy, n, h1, h2, h3⟩ := seq_obj I2 hk
    exact or_right hF I2.ok.mod.kin J h1 h2 h3 sf hD go
  · obtain ⟨oy, od', J'⟩ := inst_of I2 hk
    exact bin_one hF I2.ok.mod.kin J J' sf hD go
theorem se_orR (hK : X.K = K) (tk : L2N.Takes X W) {x y : Expr} {a b : E} {f g : Nat} {c : Cl} {F F0 : Fn} {pos : Pos} (ff : DunF X T c (dunderR "or") 2 F) (ff0 : DunF X T c (PySem.dunder "or") 2 F0) (hf : G[f]? = some F) (ha : PE X x (tE K T G C W a)) (hb : PE X y (tE K T G C W b)) :
    PE X (.BinOp x .BitOr y pos) (tE K T G C W (.orR f g c a b)) := by
  subst hK
  obtain ⟨g1, fd, ps, k, hD, sf, fo, hr, hbi⟩ := ff
  obtain ⟨g2, _, _, _, hD0, _, _, _, _⟩ := ff0
  have hr := hr.mono (show k ≤ k + 3 by omega)
  refine ⟨fun pins s σ H Q I ⟨B, w, δ, st, Wl, h⟩ => ?_⟩
  simp only [evalE] at h
  have hA : tE X.K T G C W a σ H fun v H1 => tE X.K T G C W b σ H1 fun u H2 => ∃ o dx fs p xs, u = .ref o ∧ H2 o = some (.ins (T.cl c) dx fs) ∧ v = .ref p ∧ (SqL X.K H2 p xs ∨ SqT X.K H2 p xs) ∧ spOf X.K T 2 F [u, v] H2 Q (WE W σ) := by
    refine ⟨B, w, δ, st, Wl, h.bind fun d st1 w1 H1 ex W1 h1 v rv => ⟨B, w1, δ, st1, W1, h1.bind fun d2 st2 w2 H2 ex2 W2 h2 u ru => ?_⟩⟩
    split at h2
    · rename_i fs e1
      split at h2
      · rename_i hs
        simp only [hf] at h2
        obtain ⟨o, dx, xs, rfl, hq, _, _⟩ := W2.insAt (p := .d d2) ru e1
        have sp := sp_call (ds := [d2, d]) (vs := [_, _]) rfl W2 ⟨ru, rv.up ex2.up, trivial⟩ h2
        obtain ⟨p, ys, rfl, hq2⟩ := seqLT_at W2 (rv.up ex2.up) hs
        exact ⟨o, dx, _, p, ys, rfl, hq, rfl, hq2, sp⟩
      · exact h2.elim
    · exact h2.elim
  refine wpAny_BinOp (thn (ha.run pins s σ H _ I hA) fun u1 s1 ⟨v1, H1, I1, r1, q1⟩ => thn (hb.run pins s1 σ H1 _ I1 q1) fun u2 s2 ⟨v2, H2, I2, r2, o, dx, fs, p, xs, e1, hq, e2, hk, sp⟩ => ?_)
  subst e1 e2
  cases r1
  cases r2
  obtain ⟨ox, od, J⟩ := inst_of I2 hq
  obtain ⟨m, hF⟩ := I2.fr
  have go : wpAny (model X.prog X.w) X.A (call (.ref g1) [.ref o, .ref p]) (PySem.W.CmpBack (EP X pins σ Q)) X.xe s2 := wpAny_mono (run_fnS (E := WE W) (us := [.ref o, .ref p]) (vs := [.ref o, .ref p]) fo hr hbi (L2N.passAt tk σ) I2 (.cons rfl (.cons rfl .nil)) sp) (fun z s' ⟨y, H', I', ry, q'⟩ => notImp ry _ ⟨y, H', I', ry, q'⟩) fun _ _ z => z
  obtain ⟨oy, n, h1, h2, h3⟩ := seq_obj I2 hk
  exact or_left hF I2.ok.mod.kin J h1 h2 h3 sf hD0 hD go
end
end Qk

set_option linter.all false
set_option maxHeartbeats 2000000
set_option maxRecDepth 100000
namespace Qk
open PySem L2

def AftO (K : PySem.W.Frag) (T : Txc) (W : WX) (w0 : Wd) (B : Hp) (o : O) (D : Ends) : Prop :=
  match o with
  | .nx δ st => ∀ w σ H, Ext w0 B w H → World K T B w δ st σ H → D.nx σ H
  | .brk δ st => ∀ w σ H, Ext w0 B w H → World K T B w δ st σ H → D.bk σ H
  | .cnt δ st => ∀ w σ H, Ext w0 B w H → World K T B w δ st σ H → D.ct σ H
  | .ret d st => ∀ w H v, Ext w0 B w H → StOk K T w st H → Rep K T w d v → D.rt v H
  | .exc c es δ st => ∀ w σ H dx, Ext w0 B w H → World K T B w δ st σ H → ExR K T w c es dx B H → W (.ref (T.cl c)) dx σ H
  | .stuck => False
def tS (K : PySem.W.Frag) (T : Txc) (G : List Fn) (C : List Int) (W : WX) (s : S) : TS := fun D σ H => ∃ w0 B w δ st, Ext w0 B w H ∧ World K T B w δ st σ H ∧ AftO K T W w0 B (exec G C s δ st) D
def tSs (K : PySem.W.Frag) (T : Txc) (G : List Fn) (C : List Int) (W : WX) (s : Ss) : TS := fun D σ H => ∃ w0 B w δ st, Ext w0 B w H ∧ World K T B w δ st σ H ∧ AftO K T W w0 B (execs G C s δ st) D

section
variable {K : PySem.W.Frag} {T : Txc} {G : List Fn} {C : List Int} {W : WX} {X : Cx} {w0 w w' : Wd} {B H H' : Hp} {δ : Sls} {σ : St} {st st' : Sto} {D : Ends}
theorem AftO.expr {α : Type} {r : R (α × Sto)} {f : α × Sto → O} {Q : Wd → Hp → α → Prop} (e0 : Ext w0 B w H) (h : AftO K T W w0 B (r.toO δ f) D)
    (k : ∀ a st' w' H', Ext w H w' H' → Ext w0 B w' H' → World K T B w' δ st' σ H' → AftO K T W w0 B (f (a, st')) D → Q w' H' a) : Aft K T W B δ σ w H r Q := by
  cases r with
  | ok a => exact fun w' H' e W' => k a.1 a.2 w' H' e (e0.trans e) W' h
  | exc c es st' => exact fun w' H' dx e W' x => h w' σ H' dx (e0.trans e) W' (x.back e0)
  | stuck => exact h
theorem AftO.exprE {α : Type} {r : R (α × Sto)} {f : α × Sto → O} {Q : Wd → Hp → α → Prop} (e0 : Ext w0 B w H) (h : AftO K T W w0 B (r.toO δ f) D)
    (k : ∀ a st' w' H', r = .ok (a, st') → Ext w H w' H' → Ext w0 B w' H' → World K T B w' δ st' σ H' → AftO K T W w0 B (f (a, st')) D → Q w' H' a) : Aft K T W B δ σ w H r Q := by
  cases r with
  | ok a => exact fun w' H' e W' => k a.1 a.2 w' H' rfl e (e0.trans e) W' h
  | exc c es st' => exact fun w' H' dx e W' x => h w' σ H' dx (e0.trans e) W' (x.back e0)
  | stuck => exact h
theorem AftO.seq {o : O} {f : Sls → Sto → O} {s : TS} (h : AftO K T W w0 B (o.seq f) D) (k : ∀ δ st w σ H, Ext w0 B w H → World K T B w δ st σ H → AftO K T W w0 B (f δ st) D → s D σ H) : AftO K T W w0 B o { D with nx := s D } := by
  cases o with
  | nx δ st => exact fun w σ H e Wl => k δ st w σ H e Wl h
  | brk δ st => exact h
  | cnt δ st => exact h
  | ret d st => exact h
  | exc c es δ st => exact h
  | stuck => exact h
theorem ss_nil : PSs X [] (tSs K T G C W .nil) := pss_nil.to fun D σ H ⟨w0, B, w, δ, st, e, Wl, h⟩ => by
  simp only [execs] at h
  exact h w σ H e Wl
theorem ss_cons {s : Stmt} {r : List Stmt} {s' : S} {r' : Ss} (h1 : PS X s (tS K T G C W s')) (h2 : PSs X r (tSs K T G C W r')) : PSs X (s :: r) (tSs K T G C W (.cons s' r')) := (pss_cons h1 h2).to fun D σ H ⟨w0, B, w, δ, st, e, Wl, h⟩ => by
  simp only [execs] at h
  exact ⟨w0, B, w, δ, st, e, Wl, h.seq fun δ2 st2 w2 σ2 H2 e2 W2 h2 => ⟨w0, B, w2, δ2, st2, e2, W2, h2⟩⟩
theorem ss_frz {r : List Stmt} {i : Nat} {r' : Ss} (h2 : PSs X r (tSs K T G C W r')) : PSs X r (tSs K T G C W (.cons (.frz i) r')) := h2.to fun D σ H ⟨w0, B, w, δ, st, e, Wl, h⟩ => by
  simp only [execs, exec] at h
  have go : ∀ {m : M} {d : Qk.D}, δ[i]? = some (.own m) → (∀ {o : HO} {a : Addr} {w : Wd}, w.F a = none → RepM K T w m o → Rep K T (w.put a o) d (.ref a)) → AftO K T W w0 B (execs G C r' (δ.set i (.val d)) st) D → tSs K T G C W r' D σ H := fun {m d} ei rd h => by
    obtain ⟨a, h1, h2, h3, h4, o, ho, hr⟩ := Wl.sl i _ ei
    have ns : ∀ (j : Nat) m', δ[j]? = some (.own m') → j ≠ i → σ[j]? ≠ some (some (.ref a)) := fun j m' hj ne q => ne (Wl.dis j i m' m a hj ei q h1)
    have Wu : World K T B w (δ.set i .un) st σ H := by
      refine ⟨Wl.st, by rw [List.length_set]; exact Wl.len, fun j x hj => ?_, fun j k m m' b h1 h2 h3 h4 => ?_⟩
      · rw [getElem?_set_cases] at hj
        split at hj
        · cases hj; trivial
        · exact Wl.sl j x hj
      · rw [getElem?_set_cases] at h1 h2
        split at h1
        · cases h1
        · split at h2
          · cases h2
          · exact Wl.dis j k m m' b h1 h2 h3 h4
    have Wf := Wu.freeze ho h4 h3 (fun j m' hj => by
      rw [getElem?_set_cases] at hj
      split at hj
      · cases hj
      · rename_i c
        refine ns j m' hj fun ji => c ⟨ji.symm, ?_⟩
        have := List.getElem?_eq_some_iff.mp ei
        exact this.1)
    have Wv : World K T B (w.put a o) (δ.set i (.val d)) st σ H := by
      have := Wf.setVal (i := i) (rd h4 hr)
      rw [List.set_set] at this
      have es : σ.set i (some (.ref a)) = σ := by
        apply List.ext_getElem?
        intro j
        rw [getElem?_set_cases]
        split
        · rename_i c
          rw [← c.1, h1]
        · rfl
      rw [es] at this
      exact this
    exact ⟨w0, B, w.put a o, _, st, e.frz h2.1 h4, Wv, h⟩
  cases ei : δ[i]? with
  | none => rw [ei] at h; exact h.elim
  | some x =>
    rw [ei] at h
    cases x with
    | un => exact h.elim
    | val _ => exact h.elim
    | exo _ _ => exact h.elim
    | own m =>
      cases m with
      | dct t kvs =>
        refine go ei (fun {o a w} fa hr => ?_) h
        rcases hr with ⟨rfl, q, rfl, r⟩ | ⟨rfl, q, rfl, r⟩
        · obtain ⟨h1, xs, h2, h3⟩ := repK_to r
          subst h2
          exact ⟨a, xs, rfl, upd_same, h1, by simp, h3.up (Up.put fa)⟩
        · obtain ⟨h1, xs, h2, h3⟩ := repJ_to r
          subst h2
          exact ⟨a, xs, rfl, upd_same, h1, by simp, h3.up (Up.put fa)⟩
      | lst ds =>
        refine go ei (fun {o a w} fa hr => ?_) h
        obtain ⟨xs, rfl, rs⟩ := hr
        exact ⟨a, xs, rfl, upd_same, rs.up (Up.put fa)⟩
      | ins c ds =>
        refine go ei (fun {o a w} fa hr => ?_) h
        obtain ⟨dx, xs, rfl, l, rs⟩ := hr
        exact ⟨a, dx, xs, rfl, upd_same, l, rs.up (Up.put fa)⟩
theorem ss_shrO {r : List Stmt} {i : Nat} {r' : Ss} (h2 : PSs X r (tSs K T G C W r')) : PSs X r (tSs K T G C W (.cons (.shrO i) r')) := h2.to fun D σ H ⟨w0, B, w, δ, st, e, Wl, h⟩ => by
  simp only [execs, exec] at h
  cases ei : δ[i]? with
  | none => rw [ei] at h; exact h.elim
  | some x =>
    rw [ei] at h
    cases x with
    | un => exact h.elim
    | val _ => exact h.elim
    | exo _ _ => exact h.elim
    | own m =>
      cases m with
      | dct _ _ => exact h.elim
      | ins _ _ => exact h.elim
      | lst ds =>
        obtain ⟨a, h1, h2, h3, h4⟩ := Wl.sl i _ ei
        have Wu : World K T B w (δ.set i .un) st σ H := by
          refine ⟨Wl.st, by rw [List.length_set]; exact Wl.len, fun j x hj => ?_, fun j k m m' b h1 h2 h3 h4 => ?_⟩
          · rw [getElem?_set_cases] at hj
            split at hj
            · cases hj; trivial
            · exact Wl.sl j x hj
          · rw [getElem?_set_cases] at h1 h2
            split at h1
            · cases h1
            · split at h2
              · cases h2
              · exact Wl.dis j k m m' b h1 h2 h3 h4
        have Ws := Wu.share h3 (fun j m' hj => by
          rw [getElem?_set_cases] at hj
          split at hj
          · cases hj
          · rename_i c
            intro q
            have ji := Wl.dis j i m' _ a hj ei q h1
            exact c ⟨ji.symm, (List.getElem?_eq_some_iff.mp ei).1⟩) h4
        have hl : (w.ι ++ [a])[st.length]? = some a := by rw [← Wl.st.len]; simp
        have Wv : World K T B ⟨w.F, w.ι ++ [a], w.r⟩ (δ.set i (.val (.loc st.length))) (st ++ [.lst ds]) σ H := by
          have := Ws.setVal (i := i) (d := .loc st.length) (v := .ref a) ⟨a, rfl, hl⟩
          rw [List.set_set] at this
          have es : σ.set i (some (.ref a)) = σ := by
            apply List.ext_getElem?
            intro j
            rw [getElem?_set_cases]
            split
            · rename_i c
              rw [← c.1, h1]
            · rfl
          rw [es] at this
          exact this
        exact ⟨w0, B, _, _, _, e.share h2.1, Wv, h⟩
theorem World.wipD (Wl : World K T B w δ st σ H) (vs : List Nat) : World K T B w (wipeE δ vs) st σ H := by
  refine ⟨Wl.st, by rw [wipeE_length]; exact Wl.len, fun j x h => ?_, fun j k m m' a h1 h2 h3 h4 => ?_⟩
  · rw [wipeE_get] at h
    split at h
    · cases h; trivial
    · exact Wl.sl j x h
  · rw [wipeE_get] at h1 h2
    split at h1
    · cases h1
    · split at h2
      · cases h2
      · exact Wl.dis j k m m' a h1 h2 h3 h4
theorem ss_wip {r : List Stmt} {ws : List Nat} {r' : Ss} (h2 : PSs X r (tSs K T G C W r')) : PSs X r (tSs K T G C W (.cons (.wip ws) r')) := h2.to fun D σ H ⟨w0, B, w, δ, st, e, Wl, h⟩ => by
  simp only [execs, exec, O.seq] at h
  exact ⟨w0, B, w, _, st, e, Wl.wipD ws, h⟩
theorem ps_pass' {pos : Pos} : PS X (.Pass pos) (tS K T G C W .pass) := ps_pass.to fun D σ H ⟨w0, B, w, δ, st, e, Wl, h⟩ => by
  simp only [exec] at h
  exact h w σ H e Wl
theorem ps_brk' {pos : Pos} : PS X (.Break pos) (tS K T G C W .brk) := ps_break.to fun D σ H ⟨w0, B, w, δ, st, e, Wl, h⟩ => by
  simp only [exec] at h
  exact h w σ H e Wl
theorem ps_cnt' {pos : Pos} : PS X (.Continue pos) (tS K T G C W .cnt) := ps_continue.to fun D σ H ⟨w0, B, w, δ, st, e, Wl, h⟩ => by
  simp only [exec] at h
  exact h w σ H e Wl
theorem ps_never' {s : Stmt} : PS X s (tS K T G C W .never) := ps_never.to fun D σ H ⟨w0, B, w, δ, st, e, Wl, h⟩ => by
  simp only [exec] at h
  exact h
theorem ps_retN' {pos : Pos} : PS X (.Return none pos) (tS K T G C W .retN) := ps_retN.to fun D σ H ⟨w0, B, w, δ, st, e, Wl, h⟩ => by
  simp only [exec] at h
  exact h w H .non e Wl.st rfl
theorem ps_ret' {x : Expr} {x' : E} {pos : Pos} (he : PE X x (tE K T G C W x')) : PS X (.Return (some x) pos) (tS K T G C W (.ret x')) := (ps_ret he).to fun D σ H ⟨w0, B, w, δ, st, e, Wl, h⟩ => by
  simp only [exec] at h
  exact ⟨B, w, δ, st, Wl, AftO.expr e h fun d st1 w1 H1 e1 e2 W1 h1 v rv => h1 w1 H1 v e2 W1.st rv⟩
theorem ps_expr' {x : Expr} {x' : E} {pos : Pos} (he : PE X x (tE K T G C W x')) (hs : swapsWith x none pos.line X.env = pure false) : PS X (.Expr x pos) (tS K T G C W (.expr x')) := (ps_expr he hs).to fun D σ H ⟨w0, B, w, δ, st, e, Wl, h⟩ => by
  simp only [exec] at h
  exact ⟨B, w, δ, st, Wl, AftO.expr e h fun d st1 w1 H1 e1 e2 W1 h1 v rv => h1 w1 σ H1 e2 W1⟩
theorem ps_if' {c : Expr} {a b : List Stmt} {c' : E} {a' b' : Ss} {pos : Pos} (hc : PT X c (tB K T G C W c')) (ha : PSs X a (tSs K T G C W a')) (hb : PSs X b (tSs K T G C W b')) : PS X (.If c a b pos) (tS K T G C W (.if_ c' a' b')) := (ps_if hc ha hb).to fun D σ H ⟨w0, B, w, δ, st, e, Wl, h⟩ => by
  simp only [exec] at h
  refine ⟨B, w, δ, st, Wl, AftO.expr e h fun b st1 w1 H1 e1 e2 W1 h1 => ?_⟩
  cases b with
  | true => exact iteT ⟨w0, B, w1, δ, st1, e2, W1, h1⟩
  | false => exact iteF ⟨w0, B, w1, δ, st1, e2, W1, h1⟩
theorem ps_asg' {tg x : Expr} {t : Tg} {x' : E} {pos : Pos} (he : PE X x (tE K T G C W x')) (hg : PG X tg (tG K T t)) (hs : swapsWithSole [tg] x pos.line X.env = pure false) (hw : swappedStores [tg] x X.env = pure none)
    (h1 : (assignEach [tg] X.env).map (·.2) = [assign tg X.env]) : PS X (.Assign [tg] x pos) (tS K T G C W (.asg t x')) := (ps_asg he hg hs hw h1).to fun D σ H ⟨w0, B, w, δ, st, e, Wl, h⟩ => by
  simp only [exec] at h
  refine ⟨B, w, δ, st, Wl, AftO.expr e h fun d st1 w1 H1 e1 e2 W1 h1 v rv => ⟨B, w1, δ, st1, d, W1, rv, ?_⟩⟩
  simp only at h1
  cases hb : t.bind d δ with
  | none => rw [hb] at h1; exact h1
  | some δ' =>
    rw [hb] at h1
    exact fun σ' W' _ => h1 w1 σ' H1 e2 W'
theorem World.setOwn {m : M} {i : Nat} {a : Addr} (Wl : World K T B w δ st σ H) (hb : B a = none ∧ (m.isIns = true → a = w.r.a)) (na : a ∉ w.ι) (c : CellOk K T w H a m) (ns : ∀ (j : Nat) m', δ[j]? = some (.own m') → σ[j]? ≠ some (some (.ref a))) :
    World K T B w (δ.set i (.own m)) st (σ.set i (some (.ref a))) H := by
  refine ⟨Wl.st, by rw [List.length_set, List.length_set]; exact Wl.len, fun j x h => ?_, fun j k m1 m2 b h1 h2 h3 h4 => ?_⟩
  · rw [getElem?_set_cases] at h
    rw [getElem?_set_cases, Wl.len]
    split at h
    · rename_i c'
      rw [if_pos c']
      cases h
      exact ⟨a, rfl, hb, na, c⟩
    · rename_i c'
      rw [if_neg c']
      exact Wl.sl j x h
  · rw [getElem?_set_cases] at h1 h2
    rw [getElem?_set_cases, Wl.len] at h3 h4
    split at h1
    · rename_i c1
      rw [if_pos c1] at h3
      cases h3
      split at h2
      · rename_i c2
        exact c1.1.symm.trans c2.1
      · rename_i c2
        rw [if_neg c2] at h4
        exact absurd h4 (ns k m2 h2)
    · rename_i c1
      rw [if_neg c1] at h3
      split at h2
      · rename_i c2
        rw [if_pos c2] at h4
        cases h4
        exact absurd h3 (ns j m1 h1)
      · rename_i c2
        rw [if_neg c2] at h4
        exact Wl.dis j k m1 m2 b h1 h2 h3 h4
theorem asg_own {i : Nat} {x' : E} {t : TE} (ht : ∀ Q, tN K T G C W x' σ H Q → t σ H Q) (hd : ∀ t ks vs, x' ≠ .dct t ks vs) (h : tS K T G C W (.asgO i x') D σ H) : tAsg t (gName i) D σ H := by
  obtain ⟨w0, B, w, δ, st, e, Wl, h⟩ := h
  have h' : AftO K T W w0 B ((evalE G C x' δ st).toO δ fun r => match ownOf x' r.1 with | some m => .nx (δ.set i (.own m)) r.2 | none => .stuck) D := by
    cases x' <;> first | exact h | exact absurd rfl (hd _ _ _)
  refine ht _ ⟨B, w, δ, st, Wl, AftO.expr e h' fun d st1 w1 H1 e1 e2 W1 h1 => ?_⟩
  cases d with
  | lst ds =>
    intro a nw
    simp only at h1
    cases ho : ownOf x' (.lst ds) with
    | none => rw [ho] at h1; exact h1.elim
    | some m =>
      rw [ho] at h1
      have em : m = .lst ds := by
        unfold ownOf at ho
        split at ho <;> first | (rename_i z; cases z; cases ho; rfl) | (cases ho; done) | (cases ho; rfl)
      subst em
      exact h1 w1 _ H1 e2 (W1.setOwn ⟨back_none e nw.fresh, fun z => by cases z⟩ nw.noι nw.cell nw.nosl)
  | _ =>
    simp only at h1
    cases x' <;> simp only [ownOf] at h1 <;> first | exact h1.elim | (split at h1 <;> first | exact h1.elim | (rename_i z _; cases z) | (rename_i z; cases z))
end
end Qk

set_option linter.all false
set_option maxHeartbeats 2000000
set_option maxRecDepth 100000
namespace Qk
open PySem L2

section
variable {K : PySem.W.Frag} {T : Txc} {G : List Fn} {C : List Int} {W : WX} {X : Cx} {w0 w w' : Wd} {B H H' : Hp} {δ : Sls} {σ : St} {st st' : Sto} {D : Ends}
theorem World.pokeOwn {i : Nat} {m m' : M} {a : Addr} {o : HO} (Wl : World K T B w δ st σ H) (h : δ[i]? = some (.own m)) (e : σ[i]? = some (some (.ref a))) (r : RepM K T w m' o) (im : m'.isIns = m.isIns := by rfl) : World K T B w (δ.set i (.own m')) st σ (upd H a o) := by
  obtain ⟨hb, na, fa, _⟩ := Wl.ownAt h e
  have cell : ∀ {b : Addr} {m : M}, b ≠ a → CellOk K T w H b m → CellOk K T w (upd H a o) b m := fun {b m} ne ⟨f, u, hu, r⟩ => ⟨f, u, (upd_ne ne).trans hu, r⟩
  refine ⟨⟨fun b u q => (upd_ne (ne_of_none q fa)).trans (Wl.st.same b u q), Wl.st.len, Wl.st.nd, fun l m b h1 h2 => cell (fun z => na (z ▸ List.mem_of_getElem? h2)) (Wl.st.cell l m b h1 h2)⟩, by rw [List.length_set]; exact Wl.len, fun j x hj => ?_, fun j k m1 m2 b h1 h2 h3 h4 => ?_⟩
  · rw [getElem?_set_cases] at hj
    split at hj
    · rename_i c
      cases hj
      rw [← c.1]
      exact ⟨a, e, ⟨hb.1, fun z => hb.2 (im ▸ z)⟩, na, fa, o, upd_same, r⟩
    · rename_i c
      have q := Wl.sl j x hj
      cases x with
      | un => trivial
      | exo _ _ => exact q
      | val d => exact q
      | own m2 =>
        obtain ⟨b, h1, h2, h3, h4⟩ := q
        refine ⟨b, h1, h2, h3, cell (fun z => c ⟨?_, (List.getElem?_eq_some_iff.mp h).1⟩) h4⟩
        subst z
        exact Wl.dis i j m m2 b h hj e h1
  · have back : ∀ {j : Nat} {m1 : M}, (δ.set i (.own m'))[j]? = some (.own m1) → ∃ m2, δ[j]? = some (.own m2) := fun {j m1} hj => by
      rw [getElem?_set_cases] at hj
      split at hj
      · rename_i c
        rw [← c.1]
        exact ⟨m, h⟩
      · exact ⟨m1, hj⟩
    obtain ⟨_, h1⟩ := back h1
    obtain ⟨_, h2⟩ := back h2
    exact Wl.dis j k _ _ b h1 h2 h3 h4
theorem iota_inj {l : List Addr} (nd : l.Nodup) {i j : Nat} {a : Addr} (h : l[i]? = some a) (h2 : l[j]? = some a) : i = j := by
  obtain ⟨h1, e1⟩ := List.getElem?_eq_some_iff.mp h
  obtain ⟨h3, e2⟩ := List.getElem?_eq_some_iff.mp h2
  exact (List.getElem_inj nd).mp (e1.trans e2.symm)
theorem World.pokeLoc {l : Nat} {m m' : M} {a : Addr} {o : HO} (Wl : World K T B w δ st σ H) (h : st[l]? = some m) (e : w.ι[l]? = some a) (r : RepM K T w m' o) : World K T B w δ (st.set l m') σ (upd H a o) := by
  obtain ⟨fa, _⟩ := Wl.st.cell l m a h e
  have cell : ∀ {b : Addr} {m : M}, b ≠ a → CellOk K T w H b m → CellOk K T w (upd H a o) b m := fun {b m} ne ⟨f, u, hu, r⟩ => ⟨f, u, (upd_ne ne).trans hu, r⟩
  refine ⟨⟨fun b u q => (upd_ne (ne_of_none q fa)).trans (Wl.st.same b u q), by rw [List.length_set]; exact Wl.st.len, Wl.st.nd, fun k m2 b h1 h2 => ?_⟩, Wl.len, fun j x hj => ?_, Wl.dis⟩
  · rw [getElem?_set_cases] at h1
    split at h1
    · rename_i c
      cases h1
      rw [← c.1, e] at h2
      cases h2
      exact ⟨fa, o, upd_same, r⟩
    · rename_i c
      refine cell (fun z => c ⟨?_, (List.getElem?_eq_some_iff.mp h).1⟩) (Wl.st.cell k m2 b h1 h2)
      rw [z] at h2
      exact iota_inj Wl.st.nd e h2
  · have q := Wl.sl j x hj
    cases x with
    | un => trivial
    | exo _ _ => exact q
    | val d => exact q
    | own m2 =>
      obtain ⟨b, h1, h2, h3, h4⟩ := q
      exact ⟨b, h1, h2, h3, cell (fun z => h3 (z ▸ List.mem_of_getElem? e)) h4⟩
theorem Ext.pokeLoc {a : Addr} {o : HO} (e : Ext w H w' H') (ha : a ∈ w'.ι) : Ext w H w' (upd H' a o) where
  same := e.same
  pre := e.pre
  old := e.old
  keep := fun b u h n => (upd_ne (fun z => by
    rcases e.new a ha with q | q
    · exact n (z ▸ q)
    · rw [z, q] at h; cases h)).trans (e.keep b u h n)
  there := fun b h => by
    by_cases q : b = a
    · rw [q, upd_same]; simp
    · rw [upd_ne q]; exact e.there b h
  new := e.new
  rt := e.rt
theorem nm {i : Nat} {x : Str} {pos : Pos} (hN : X.N[i]? = some x) (hv : Vis X.env.scope x) (hd : (x == ("__debug__" : Str)) = false) (hc : (x == ("__classdict__" : Str)) = false) : PE X (.Name x pos) (tVar i) := pe_var hN hv hd hc
theorem putF_zip {f : Str} {y : V} : ∀ {ns : List Str} {xs : List V} {k : Nat}, ns.Nodup → ns[k]? = some f → k ≤ xs.length → putF f y (ns.zip xs) = ns.zip (if k < xs.length then xs.set k y else xs ++ [y])
  | [], _, _, _, h, _ => by simp at h
  | n :: ns, [], 0, _, h, _ => by
    simp at h
    subst h
    simp [putF]
  | n :: ns, [], k + 1, _, _, h => by simp at h
  | n :: ns, x :: xs, 0, _, h, _ => by
    simp at h
    subst h
    simp [putF]
  | n :: ns, x :: xs, k + 1, nd, h, hl => by
    have nd' := List.nodup_cons.mp nd
    have h' : ns[k]? = some f := by simpa using h
    have ne : ¬ n = f := fun e => nd'.1 (e ▸ List.mem_of_getElem? h')
    have ih := putF_zip (y := y) (xs := xs) nd'.2 h' (by simpa using hl)
    rw [List.zip_cons_cons, putF, if_neg ne, ih]
    by_cases c : k < xs.length
    · rw [if_pos c, if_pos (by simpa using c)]
      rfl
    · rw [if_neg c, if_neg (by simpa using c)]
      rfl
theorem setAt_reps {ds ds' : List Qk.D} {xs : List V} {k : Nat} {d : Qk.D} {y : V} (r : Reps K T w ds xs) (ry : Rep K T w d y) (h : setAt ds k d = some ds') : k ≤ xs.length ∧ Reps K T w ds' (if k < xs.length then xs.set k y else xs ++ [y]) := by
  unfold setAt at h
  rw [r.length]
  split at h
  · rename_i c
    cases h
    rw [if_pos c]
    exact ⟨Nat.le_of_lt c, r.set k ry⟩
  · rename_i c
    split at h
    · rename_i c2
      cases h
      rw [if_neg c]
      exact ⟨by omega, r.append (Reps.one ry)⟩
    · cases h
theorem setAt_len {ds ds' : List Qk.D} {k n : Nat} {d : Qk.D} (h : setAt ds k d = some ds') (hl : ds.length ≤ n) (hk : k < n) : ds'.length ≤ n := by
  unfold setAt at h
  split at h
  · cases h; simpa using hl
  · split at h
    · cases h; simp; omega
    · cases h
theorem ps_setF' (hK : X.K = K) {i k : Nat} {c : Cl} {o x : Expr} {f : Str} {x' : E} {pos pos' : Pos} (co : ClOk K T c) (hf : (T.flds c)[k]? = some f) (hl : (T.flds c).length < 100) (ho : PE X o (tVar i)) (he : PE X x (tE K T G C W x')) (hs : swapsWith x (some (.Attribute o f pos')) pos.line X.env = pure false) :
    PS X (.Assign [.Attribute o f pos'] x pos) (tS K T G C W (.setF i c k x')) := by
  subst hK
  refine (ps_fld ho he hs).to fun D σ H ⟨w0, B, w, δ, st, e, Wl, h⟩ => ?_
  simp only [exec] at h
  refine ⟨B, w, δ, st, Wl, AftO.expr e h fun d st1 w1 H1 e1 e2 W1 h1 v rv => ?_⟩
  have hk : k < (T.flds c).length := (List.getElem?_eq_some_iff.mp hf).1
  have fields : ∀ {dx : Addr} {ds ds' : List Qk.D} {xs : List V}, ds.length ≤ (T.flds c).length → Reps X.K T w1 ds xs → setAt ds k d = some ds' → ((T.flds c).zip xs).length < 1000 ∧ RepM X.K T w1 (.ins c ds') (.ins (T.cl c) dx (putF f v ((T.flds c).zip xs))) := fun {dx ds ds' xs} l rs hsa => by
    obtain ⟨h1, h2⟩ := setAt_reps rs rv hsa
    refine ⟨by rw [List.length_zip]; omega, dx, _, by rw [putF_zip co.nd hf h1], setAt_len hsa l hk, h2⟩
  cases ei : δ[i]? with
  | none => rw [ei] at h1; exact h1.elim
  | some x =>
    rw [ei] at h1
    cases x with
    | un => exact h1.elim
    | exo _ _ => exact h1.elim
    | own m =>
      cases m with
      | lst _ => exact h1.elim
      | dct _ _ => exact h1.elim
      | ins c' ds =>
        simp only at h1
        split at h1
        · rename_i ec
          subst ec
          cases hsa : setAt ds k d with
          | none => rw [hsa] at h1; exact h1.elim
          | some ds' =>
            rw [hsa] at h1
            obtain ⟨a, q1, q2, q3, q4, o, ho, dx, xs, rfl, l, rs⟩ := W1.sl i _ ei
            obtain ⟨f1, f2⟩ := fields (dx := dx) l rs hsa
            exact ⟨.ref a, q1, a, _, dx, _, rfl, ho, co.cls, co.no f (List.mem_of_getElem? hf), f1, h1 w1 σ _ (e2.poke q2.1) (W1.pokeOwn ei q1 f2)⟩
        · exact h1.elim
    | val dd =>
      cases dd <;> simp only at h1 <;> try exact h1.elim
      rename_i l
      cases es : st1[l]? with
      | none => rw [es] at h1; exact h1.elim
      | some m =>
        rw [es] at h1
        cases m with
        | lst _ => exact h1.elim
        | dct _ _ => exact h1.elim
        | ins c' ds =>
          simp only at h1
          split at h1
          · rename_i ec
            subst ec
            cases hsa : setAt ds k d with
            | none => rw [hsa] at h1; exact h1.elim
            | some ds' =>
              rw [hsa] at h1
              obtain ⟨u, q1, q2⟩ := W1.sl i _ ei
              obtain ⟨a, rfl, q3, q4, o, ho, dx, xs, rfl, ln, rs⟩ := W1.locAt es q2
              obtain ⟨f1, f2⟩ := fields (dx := dx) ln rs hsa
              exact ⟨.ref a, q1, a, _, dx, _, rfl, ho, co.cls, co.no f (List.mem_of_getElem? hf), f1, h1 w1 σ _ (e2.pokeLoc (List.mem_of_getElem? q3)) (W1.pokeLoc es q3 f2)⟩
          · exact h1.elim
theorem ps_app' (hK : X.K = K) {i : Nat} {o x : Expr} {x' : E} {apos cpos pos : Pos} (ho : PE X o (tVar i)) (hb : attributeBase o "append" X.env (eval o X.env) = eval o X.env) (he : PE X x (tE K T G C W x')) (hp : ∀ a p, x ≠ .Starred a p) (hl : (apos.endLine == cpos.line) = true) :
    PS X (.Expr (.Call (.Attribute o "append" apos) [x] [] cpos) pos) (tS K T G C W (.app i x')) := by
  subst hK
  have hp' : ∀ y ∈ [x], ∀ a p, y ≠ .Starred a p := fun y hy => by rw [List.mem_singleton.mp hy]; exact hp
  obtain ⟨h1, h2⟩ := es_plain (env := X.env) (pos := cpos) hp'
  have hfew : ((backTo cpos (starEach [x] X.env)).all (fun x => !x.1) && (backToKw cpos (keywordEach [] X.env)).all (fun x => x.1.isSome)
      && decide (([x] : List Expr).length + ([] : List Keyword).length + (if ([] : List Keyword).isEmpty then 0 else 1) < 30)) = true := by
    rw [form_plain hp']
    rfl
  refine (ps_expr (pe_bm PySem.F.plainAttrs_list PySem.F.slot_list_append PySem.F.type_list_append mt_append ho (pa_cons he pa_nil h1) hb hfew hl h1 h2) rfl).to fun D σ H ⟨w0, B, w, δ, st, e, Wl, h⟩ => ?_
  simp only [exec] at h
  have lim : Lim = 1000000 := rfl
  cases ei : δ[i]? with
  | none => rw [ei] at h; exact h.elim
  | some x =>
    rw [ei] at h
    cases x with
    | un => exact h.elim
    | exo _ _ => exact h.elim
    | own m =>
      cases m with
      | dct _ _ => exact h.elim
      | ins _ _ => exact h.elim
      | lst ds =>
        obtain ⟨a, q1, q2, q3, q4, o, ho, xs, rfl, rs⟩ := Wl.sl i _ ei
        refine ⟨.ref a, q1, .inl ⟨rfl, xs, SqL.of ho⟩, B, w, δ, st, Wl, AftO.expr e h fun d st1 w1 H1 e1 e2 W1 h1 u ru => ?_⟩
        simp only at h1
        split at h1
        · rename_i c
          obtain ⟨_, _, _, o2, ho2, xs2, rfl, rs2⟩ := W1.ownAt ei q1
          exact ⟨a, xs2, u, rfl, rfl, ho2, by rw [rs2.length, sizeLine_eq]; omega, h1 w1 σ _ (e2.poke q2.1) (W1.pokeOwn ei q1 ⟨_, rfl, rs2.append (Reps.one ru)⟩)⟩
        · exact h1.elim
    | val dd =>
      cases dd <;> simp only at h <;> try exact h.elim
      rename_i l
      cases es : st[l]? with
      | none => rw [es] at h; exact h.elim
      | some m =>
        rw [es] at h
        cases m with
        | dct _ _ => exact h.elim
        | ins _ _ => exact h.elim
        | lst ds =>
          simp only at h
          obtain ⟨v, q1, q2⟩ := Wl.sl i _ ei
          obtain ⟨a, rfl, q3, q4, o, ho, xs, rfl, rs⟩ := Wl.locAt es q2
          refine ⟨.ref a, q1, .inl ⟨rfl, xs, SqL.of ho⟩, B, w, δ, st, Wl, AftO.expr e h fun d st1 w1 H1 e1 e2 W1 h1 u ru => ?_⟩
          simp only at h1
          cases es1 : st1[l]? with
          | none => rw [es1] at h1; exact h1.elim
          | some m =>
            rw [es1] at h1
            cases m with
            | dct _ _ => exact h1.elim
            | ins _ _ => exact h1.elim
            | lst ds1 =>
              simp only at h1
              split at h1
              · rename_i c
                obtain ⟨a2, ea, q5, q6, o2, ho2, xs2, rfl, rs2⟩ := W1.locAt es1 (Rep.up e1.up (d := .loc l) ⟨a, rfl, q3⟩)
                cases ea
                exact ⟨a, xs2, u, rfl, rfl, ho2, by rw [rs2.length, sizeLine_eq]; omega, h1 w1 σ _ (e2.pokeLoc (List.mem_of_getElem? q5)) (W1.pokeLoc es1 q5 ⟨_, rfl, rs2.append (Reps.one ru)⟩)⟩
              · exact h1.elim
theorem ps_setI' (hK : X.K = K) {i : Nat} {o ix x : Expr} {ix' x' : E} {pos tpos : Pos} (ho : PE X o (tVar i)) (hi : PE X ix (tE K T G C W ix')) (he : PE X x (tE K T G C W x')) (hset : PSet X rSetL)
    (ha : ∀ v, assign (.Subscript o ix tpos) X.env v = (do
      let ov ← holding [v] (eval o X.env)
      let iv ← holding [v, ov] (eval ix X.env)
      standAt tpos
      holding [v, ov, iv] (setItem ov iv v)
      release [v, ov, iv] [])) (hs : swapsWithSole [.Subscript o ix tpos] x pos.line X.env = pure false) (hw : swappedStores [.Subscript o ix tpos] x X.env = pure none) :
    PS X (.Assign [.Subscript o ix tpos] x pos) (tS K T G C W (.setI i ix' x')) := by
  subst hK
  refine (ps_asg he (pg_sub ho hi hset ha) hs hw rfl).to fun D σ H ⟨w0, B, w, δ, st, e, Wl, h⟩ => ?_
  simp only [exec] at h
  split at h
  · exact h.elim
  rename_i hh
  refine ⟨B, w, δ, st, Wl, AftO.expr e h fun d st1 w1 H1 e1 e2 W1 h1 u ru => ?_⟩
  have fin : ∀ {st2 : Sto} {w2 : Wd} {H2 : Hp} {q : Qk.D} {v2 : V}, Ext w0 B w2 H2 → World X.K T B w2 δ st2 σ H2 → Up w1 w2 → Rep X.K T w2 q v2 → AftO X.K T W w0 B (match δ[i]? with
    | some (.own (.lst ds)) => match q with
      | .int k => match ixn ds.length k with | some j => .nx (δ.set i (.own (.lst (ds.set j d)))) st2 | none => .stuck
      | _ => .stuck
    | some (.val (.loc l)) => match st2[l]? with
      | some (.lst ds) => match q with
        | .int k => match ixn ds.length k with | some j => .nx δ (st2.set l (.lst (ds.set j d))) | none => .stuck
        | _ => .stuck
      | _ => .stuck
    | _ => .stuck) D → ∃ v, σ[i]? = some (some v) ∧ rSetL v v2 u H2 fun H3 => D.nx σ H3 := fun {st2 w2 H2 q v2} e3 W2 up rq h2 => by
    cases ei : δ[i]? with
    | none => rw [ei] at h2; exact h2.elim
    | some x =>
      rw [ei] at h2
      cases x with
      | un => exact h2.elim
      | exo _ _ => exact h2.elim
      | own m =>
        cases m with
        | dct _ _ => exact h2.elim
        | ins _ _ => exact h2.elim
        | lst ds =>
          cases q <;> simp only at h2 <;> try exact h2.elim
          rename_i k
          split at h2
          · rename_i j ej
            cases rq
            obtain ⟨a, q1, q2, q3, q4, o, ho, xs, rfl, rs⟩ := W2.sl i _ ei
            exact ⟨.ref a, q1, a, xs, k, j, rfl, rfl, ho, by rw [rs.length]; exact ej, h2 w2 σ _ (e3.poke q2.1) (W2.pokeOwn ei q1 ⟨_, rfl, rs.set j (ru.up up)⟩)⟩
          · exact h2.elim
      | val dd =>
        cases dd <;> simp only at h2 <;> try exact h2.elim
        rename_i l
        cases es : st2[l]? with
        | none => rw [es] at h2; exact h2.elim
        | some m =>
          rw [es] at h2
          cases m with
          | dct _ _ => exact h2.elim
          | ins _ _ => exact h2.elim
          | lst ds =>
            cases q <;> simp only at h2 <;> try exact h2.elim
            rename_i k
            split at h2
            · rename_i j ej
              cases rq
              obtain ⟨v, q1, q2⟩ := W2.sl i _ ei
              obtain ⟨a, rfl, q3, q4, o, ho, xs, rfl, rs⟩ := W2.locAt es q2
              exact ⟨.ref a, q1, a, xs, k, j, rfl, rfl, ho, by rw [rs.length]; exact ej, h2 w2 σ _ (e3.pokeLoc (List.mem_of_getElem? q3)) (W2.pokeLoc es q3 ⟨_, rfl, rs.set j (ru.up up)⟩)⟩
            · exact h2.elim
  have hv : ∃ v, σ[i]? = some (some v) ∧ ∀ {H2 : Hp} {v2 : V} {R : V → Prop}, (∃ v, σ[i]? = some (some v) ∧ R v) → R v := by
    have ex : ∃ v, σ[i]? = some (some v) := by
      unfold hasAt at hh
      split at hh <;> try exact absurd rfl hh
      · rename_i m em
        obtain ⟨a, q, _⟩ := Wl.sl i _ em
        exact ⟨_, q⟩
      · rename_i m em
        obtain ⟨v, q, _⟩ := Wl.sl i _ em
        exact ⟨_, q⟩
    obtain ⟨v, ev⟩ := ex
    exact ⟨v, ev, fun {H2 v2 R} ⟨v', e', r⟩ => by rw [ev] at e'; cases e'; exact r⟩
  obtain ⟨v, hv, back⟩ := hv
  refine ⟨v, hv, B, w1, δ, st1, W1, AftO.expr e2 h1 fun q st2 w2 H2 e3 e4 W2 h2 v2 r2 => ?_⟩
  exact back (H2 := H2) (v2 := v2) (fin e4 W2 e3.up r2 h2)
end
end Qk

set_option linter.all false
set_option maxHeartbeats 2000000
set_option maxRecDepth 100000
namespace Qk
open PySem L2

section
variable {K : PySem.W.Frag} {T : Txc} {G : List Fn} {C : List Int} {W : WX} {X : Cx} {w0 w w' : Wd} {B H H' : Hp} {δ : Sls} {σ : St} {st st' : Sto} {D : Ends}
theorem World.newOwn {m : M} {i : Nat} {p : Addr} {o : HO} (e : Ext w0 B w H) (Wl : World K T B w δ st σ H) (hp : H p = none) (im : m.isIns = false) (r : RepM K T w m o) : Ext w0 B w (upd H p o) ∧ World K T B w (δ.set i (.own m)) st (σ.set i (some (.ref p))) (upd H p o) := by
  refine ⟨e.trans (Ext.grow hp), (Wl.grow hp).setOwn ⟨back_none e hp, fun z => by rw [im] at z; cases z⟩ (Wl.noIota hp) ⟨freeF Wl.st.same hp, _, upd_same, r⟩ (fun j m' e => Wl.noOwn hp j m' e)⟩
theorem ps_asgD0' {i : Nat} {t : Bool} {y : Str} {p pos pos' : Pos} (hN : X.N.Nodup) (hi : X.N[i]? = some y) (hx : Loc X.env.scope y) (hf : X.fn y = true ∨ X.env.scope.names.lookup y = some .local)
    (hs : swapsWith (.Dict [] [] p) (some (.Name y pos')) pos.line X.env = pure false) : PS X (.Assign [.Name y pos'] (.Dict [] [] p) pos) (tS K T G C W (.asgO i (.dct t .nil .nil))) := by
  have read : ∀ D σ H, tS K T G C W (.asgO i (.dct t .nil .nil)) D σ H → ∀ (q : Addr), H q = none → gName i (.ref q) σ (upd H q (if t = true then .dT [] else .dK [])) D.nx := by
    intro D σ H ⟨w0, B, w, δ, st, e, Wl, h⟩ q hq
    simp only [exec, dctNew] at h
    obtain ⟨a, b⟩ := Wl.newOwn (m := .dct t []) (i := i) (o := if t = true then .dT [] else .dK []) e hq rfl (by cases t; exact .inr ⟨rfl, [], rfl, trivial⟩; exact .inl ⟨rfl, [], rfl, trivial⟩)
    exact h w _ _ a b
  cases t with
  | true => exact (ps_set hN hi hx pe_dnewT hs hf).to fun D σ H h p hp => read D σ H h p hp
  | false => exact (ps_set hN hi hx pe_dnewK hs hf).to fun D σ H h p hp => read D σ H h p hp
def qD1 (p : Addr) (Q : VK) : List (V × V) → Hp → Prop := fun ps H2 => ∃ y x, ps = [(y, x)] ∧ H2 p = some (.dT []) ∧ ∃ b k, y = .ref b ∧ H2 b = some (.tup (k.map kV)) ∧ Q (.ref p) (upd H2 p (.dT [(k, x)]))
def tDisp1 (tk tv : TE) : TE := fun σ H Q => ∀ p, H p = none → tPairs [(tk, tv)] σ (upd H p (.dT [])) (qD1 p Q)
open PySem.Spec PyProof.Rows in
theorem pe_disp1 {k v : Expr} {tk tv : TE} {pos : Pos} (hu : X.A.units + 1 < cLine) (hk : PE X k tk) (hv : PE X v tv) : PE X (.Dict [some k] [v] pos) (tDisp1 tk tv) := by
  refine ⟨fun pins s σ H Q I q => ?_⟩
  have hn := I.hok.fresh (Nat.le_refl s.heap.objs.size)
  have I1 := I.laid (a := s.heap.objs.size) (o := .dT []) (h' := s.heap.push { cls := .type "dict", data := .dict #[] }) (t' := s.toks) (fun _ _ q => Heap.get?_push_of_some _ q) (Nat.le_refl _) (dt_empty s.heap I.big)
  have hp := (pps_cons (pos := pos) hk hv pps_nil).run pins _ σ _ _ I1 (q _ hn)
  rw [arm_eval_Dict, zip_pairTrees [some k] [v] X.env pos rfl rfl, dictDisplay_pairs _ (by simp [pairTrees]) (by simp [pairTrees])]
  refine wpAny_bind (wpAny_standAt (wpAny_bind (wpAny_subDictH (knd := tupleKind (mixKind X.prog X.w)) (Q := fun d s' => wpAny (model X.prog X.w) X.A (pure (Value.ref d)) (EP X pins σ Q) X.xe s') (show X.A.units < cLine by omega) (by simp [pairTrees]) (thn hp fun vs s2 ⟨ps, H2, I2, rel, y, x, eps, e, b, kk, ey, eb, q2⟩ => ?_))))
  subst eps ey
  cases rel with
  | @cons a u as us h1 h2 =>
    cases h2
    obtain ⟨u1, u2⟩ := u
    obtain ⟨r1, r2⟩ := h1
    obtain rfl : u1 = Value.ref b := r1
    obtain ⟨z, hd, xs, rel, dd⟩ := dt_of I2.hok e
    cases rel
    refine ⟨[(kk, b, u2)], ⟨rfl, rfl, key_of I2.hok eb, trivial⟩, dd, fun h' tk dd' hs => wpAny_pure ?_⟩
    obtain ⟨qo, es, ep, hq, g2, g3, g4, _, g5⟩ := dd'
    refine ⟨.ref s.heap.objs.size, _, d_write (t' := tk) (ob := .dT [(kk, x)]) I2 (by rw [e]; exact True.intro) hs ⟨qo, hq⟩ ⟨by show 1 ≤ _; rw [sizeLine_eq]; omega, hd, _, .cons ⟨rfl, ?_, r2⟩ .nil, qo, es, ep, hq, g2, g3, g4, g5⟩, rfl, q2⟩
    rw [upd_ne (ne_of eb e (fun z => nomatch z))]
    exact eb
theorem ps_asgD1' (hK : X.K = K) (hu : X.A.units + 65 < cLine) {i : Nat} {y : Str} {k v : Expr} {k' v' : E} {p pos pos' : Pos} (hN : X.N.Nodup) (hi : X.N[i]? = some y) (hx : Loc X.env.scope y) (hf : X.fn y = true ∨ X.env.scope.names.lookup y = some .local)
    (hk : PE X k (tE K T G C W k')) (hv : PE X v (tE K T G C W v')) (hs : swapsWith (.Dict [some k] [v] p) (some (.Name y pos')) pos.line X.env = pure false) : PS X (.Assign [.Name y pos'] (.Dict [some k] [v] p) pos) (tS K T G C W (.asgO i (.dct true (.cons k' .nil) (.cons v' .nil)))) := by
  subst hK
  refine (ps_set hN hi hx (pe_disp1 (by omega) hk hv) hs hf).to fun D σ H ⟨w0, B, w, δ, st, e, Wl, h⟩ q hq => ?_
  simp only [exec, dctNew] at h
  have Wq := Wl.grow (o := .dT []) hq
  have eq : Ext w H w (upd H q (.dT [])) := Ext.grow hq
  have bq := back_none e hq
  cases e1 : evalE G C k' δ st with
  | stuck => rw [e1] at h; exact h.elim
  | exc _ _ _ => rw [e1] at h; exact h.elim
  | ok r =>
    obtain ⟨dk, st1⟩ := r
    rw [e1] at h
    simp only [R.bind] at h
    cases e2 : evalE G C v' δ st1 with
    | stuck => rw [e2] at h; exact h.elim
    | exc _ _ _ => rw [e2] at h; exact h.elim
    | ok r2 =>
      obtain ⟨dv, st2⟩ := r2
      rw [e2] at h
      simp only at h
      cases ek : keyOf dk with
      | none => rw [ek] at h; exact h.elim
      | some key =>
        rw [ek] at h
        simp only at h
        split at h
        · rename_i r hr
          split at hr
          · rename_i kt
            cases hr
            refine ⟨B, w, δ, st, Wq, ?_⟩
            rw [e1]
            intro w1 H1 ex1 W1 yv ry
            refine ⟨B, w1, δ, st1, W1, ?_⟩
            rw [e2]
            intro w2 H2 ex2 W2 xv rx
            have eqq := ex1.trans ex2
            have hq2 : H2 q = some (.dT []) := eqq.keep q _ upd_same (Wl.noIota hq)
            have niq : q ∉ w2.ι := fun m => by
              rcases eqq.new q m with z | z
              · exact Wl.noIota hq z
              · rw [upd_same] at z; cases z
            have fq : w2.F q = none := eqq.old q (by rw [upd_same]; simp) (freeF Wl.st.same hq)
            rcases key_rep W2.st.same ek (ry.up ex2.up) with ⟨n, rfl, _⟩ | ⟨ns, b, rfl, rfl, hb⟩
            · cases kt
            · refine ⟨_, _, rfl, hq2, b, _, rfl, hb, ?_⟩
              have ext2 : Ext w0 B w2 (upd H2 q (.dT [(ns.map Sum.inl, xv)])) := (e.trans (eq.trans eqq)).poke bq
              have ns2 : ∀ (j : Nat) m', δ[j]? = some (.own m') → σ[j]? ≠ some (some (.ref q)) := fun j m' hj => Wl.noOwn hq j m' hj
              have W3 : World X.K T B w2 δ st2 σ (upd H2 q (.dT [(ns.map Sum.inl, xv)])) := by
                have cell : ∀ {c : Addr} {m : M}, c ≠ q → CellOk X.K T w2 H2 c m → CellOk X.K T w2 (upd H2 q (.dT [(ns.map Sum.inl, xv)])) c m := fun {c m} ne ⟨f, u, hu, r⟩ => ⟨f, u, (upd_ne ne).trans hu, r⟩
                refine ⟨⟨fun c u z => (upd_ne (ne_of_none z fq)).trans (W2.st.same c u z), W2.st.len, W2.st.nd, fun l m c z1 z2 => cell (fun zz => niq (zz ▸ List.mem_of_getElem? z2)) (W2.st.cell l m c z1 z2)⟩, W2.len, fun j x hj => ?_, W2.dis⟩
                have qq := W2.sl j x hj
                cases x with
                | un => trivial
                | exo _ _ => exact qq
                | val d => exact qq
                | own m =>
                  obtain ⟨c, z1, z2, z3, z4⟩ := qq
                  exact ⟨c, z1, z2, z3, cell (fun zz => ns2 j m hj (by rw [z1, zz])) z4⟩
              refine h w2 _ _ ext2 (W3.setOwn ⟨bq, fun z => by cases z⟩ niq ⟨fq, _, upd_same, .inl ⟨rfl, _, rfl, ⟨ns, rfl, rfl⟩, rx, trivial⟩⟩ ns2)
          · cases hr
        · exact h.elim
theorem ps_setD' (hK : X.K = K) (hu : X.A.units + 65 < cLine) {i : Nat} {o ix x : Expr} {ix' x' : E} {pos tpos : Pos} (ho : PE X o (tVar i)) (hi : PE X ix (tE K T G C W ix')) (he : PE X x (tE K T G C W x')) (hs : swapsWith x (some (.Subscript o ix tpos)) pos.line X.env = pure false) :
    PS X (.Assign [.Subscript o ix tpos] x pos) (tS K T G C W (.setD i ix' x')) := by
  subst hK
  refine (ps_dput (by omega) ho hi he hs).to fun D σ H ⟨w0, B, w, δ, st, e, Wl, h⟩ => ?_
  simp only [exec] at h
  split at h
  · exact h.elim
  rename_i hh
  refine ⟨B, w, δ, st, Wl, AftO.expr e h fun d st1 w1 H1 e1 e2 W1 h1 u ru => ?_⟩
  cases ei : δ[i]? with
  | none =>
    unfold hasAt at hh
    rw [ei] at hh
    exact absurd rfl hh
  | some sl =>
    rw [ei] at h1
    have go : ∀ {a : V}, σ[i]? = some (some a) → (tE X.K T G C W ix' σ H1 fun y H3 => ∃ a' H4, a = .ref a' ∧ DPut H3 a' y u H4 ∧ D.nx σ H4) → tVar i σ H1 fun x H2 => tE X.K T G C W ix' σ H2 fun y H3 => ∃ a H4, x = .ref a ∧ DPut H3 a y u H4 ∧ D.nx σ H4 := fun {a} ea z => ⟨a, ea, z⟩
    cases sl with
    | un =>
      unfold hasAt at hh
      rw [ei] at hh
      exact absurd rfl hh
    | exo _ _ =>
      unfold hasAt at hh
      rw [ei] at hh
      exact absurd rfl hh
    | val dd =>
      obtain ⟨v, q1, q2⟩ := W1.sl i _ ei
      refine go q1 ⟨B, w1, δ, st1, W1, AftO.expr e2 h1 fun q st2 w2 H2 e3 e4 W2 h2 v2 r2 => ?_⟩
      exact h2.elim
    | own m =>
      obtain ⟨a, q1, q2, q3, q4⟩ := W1.sl i _ ei
      refine go q1 ⟨B, w1, δ, st1, W1, AftO.expr e2 h1 fun q st2 w2 H2 e3 e4 W2 h2 v2 r2 => ?_⟩
      cases m with
      | lst _ => exact h2.elim
      | ins _ _ => exact h2.elim
      | dct t kvs =>
        simp only at h2
        cases ek : keyOf q with
        | none => rw [ek] at h2; exact h2.elim
        | some key =>
          rw [ek] at h2
          simp only at h2
          split at h2
          · rename_i c
            obtain ⟨kt, kl⟩ := c
            obtain ⟨_, _, _, o2, ho2, rm⟩ := W2.ownAt ei q1
            have lim : Lim = 1000000 := rfl
            rcases key_rep W2.st.same ek r2 with ⟨n, rfl, rfl⟩ | ⟨ns, b, rfl, rfl, hb⟩
            · rcases rm with ⟨z, _⟩ | ⟨_, q', rfl, rq⟩
              · rw [z] at kt; cases kt
              · refine ⟨a, _, rfl, DPut.k ho2 (by rw [rq.length, sizeLine_eq]; omega), h2 w2 σ _ (e4.poke q2.1) (W2.pokeOwn ei q1 (.inr ⟨kt.symm, _, rfl, putK_J (ru.up e3.up) rq⟩))⟩
            · rcases rm with ⟨_, q', rfl, rq⟩ | ⟨z, _⟩
              · refine ⟨a, _, rfl, DPut.t ho2 hb (by rw [rq.length, sizeLine_eq]; omega), h2 w2 σ _ (e4.poke q2.1) (W2.pokeOwn ei q1 (.inl ⟨kt.symm, _, rfl, putK_K (ru.up e3.up) rq⟩))⟩
              · rw [z] at kt; cases kt
          · exact h2.elim
end
end Qk

set_option linter.all false
set_option maxHeartbeats 2000000
set_option maxRecDepth 100000
namespace Qk
open PySem L2

section
variable {K : PySem.W.Frag} {T : Txc} {G : List Fn} {C : List Int} {W : WX} {X : Cx} {w0 w w' : Wd} {B H H' : Hp} {δ : Sls} {σ : St} {st st' : Sto} {D : Ends}
theorem few_ok {e : Expr} {es : List Expr} {cpos : Pos} (hp : ∀ y ∈ e :: es, ∀ a p, y ≠ .Starred a p) (hn : es.length < 20) : ((backTo cpos (starEach (e :: es) X.env)).all (fun x => !x.1) && (backToKw cpos (keywordEach [] X.env)).all (fun x => x.1.isSome)
      && decide ((e :: es).length + ([] : List Keyword).length + (if ([] : List Keyword).isEmpty then 0 else 1) < 30)) = true := by
  rw [form_plain hp]
  show (true && true && decide ((e :: es).length + 0 + 0 < 30)) = true
  simp only [List.length_cons, Bool.true_and, decide_eq_true_eq]
  omega
theorem ps_ins' (hK : X.K = K) {i : Nat} {o y x : Expr} {y' x' : E} {apos cpos pos : Pos} (ho : PE X o (tVar i)) (hb : attributeBase o "insert" X.env (eval o X.env) = eval o X.env) (hy : PE X y (tE K T G C W y')) (he : PE X x (tE K T G C W x')) (hp : ∀ z ∈ [y, x], ∀ a p, z ≠ .Starred a p) (hl : (apos.endLine == cpos.line) = true) :
    PS X (.Expr (.Call (.Attribute o "insert" apos) [y, x] [] cpos) pos) (tS K T G C W (.insL i y' x')) := by
  subst hK
  have lim : Lim = 1000000 := rfl
  obtain ⟨h1, h2⟩ := es_plain (env := X.env) (pos := cpos) hp
  have h3 := (es_plain (env := X.env) (pos := cpos) (e := x) (es := []) (fun z hz => hp z (List.mem_cons_of_mem _ hz))).1
  refine (ps_expr (pe_bm PySem.F.plainAttrs_list PySem.F.slot_list_insert PySem.F.type_list_insert mt_insert ho (pa_cons hy (pa_cons he pa_nil h3) h1) hb (few_ok hp (by simp)) hl h1 h2) rfl).to fun D σ H ⟨w0, B, w, δ, st, e, Wl, h⟩ => ?_
  simp only [exec] at h
  cases ei : δ[i]? with
  | none => rw [ei] at h; exact h.elim
  | some sl =>
    rw [ei] at h
    cases sl with
    | un => exact h.elim
    | exo _ _ => exact h.elim
    | own m =>
      cases m with
      | dct _ _ => exact h.elim
      | ins _ _ => exact h.elim
      | lst ds =>
        obtain ⟨a, q1, q2, q3, q4, o, ho, xs, rfl, rs⟩ := Wl.sl i _ ei
        refine ⟨.ref a, q1, .inl ⟨rfl, xs, SqL.of ho⟩, B, w, δ, st, Wl, AftO.expr e h fun d st1 w1 H1 e1 e2 W1 h1 v rv => ⟨B, w1, δ, st1, W1, AftO.expr e2 h1 fun d2 st2 w2 H2 e3 e4 W2 h2 u ru => ?_⟩⟩
        cases d <;> simp only at h2 <;> try exact h2.elim
        rename_i k
        split at h2
        · rename_i c
          cases rv
          obtain ⟨_, _, _, o2, ho2, xs2, rfl, rs2⟩ := W2.ownAt ei q1
          exact ⟨a, xs2, k, u, rfl, rfl, ho2, by rw [rs2.length, sizeLine_eq]; omega, c.1, by omega, h2 w2 σ _ (e4.poke q2.1) (W2.pokeOwn ei q1 ⟨_, rfl, ((rs2.take _).append (Reps.one ru)).append (rs2.drop _)⟩)⟩
        · exact h2.elim
    | val dd =>
      cases dd <;> simp only at h <;> try exact h.elim
      rename_i l
      cases es : st[l]? with
      | none => rw [es] at h; exact h.elim
      | some m =>
        rw [es] at h
        cases m with
        | dct _ _ => exact h.elim
        | ins _ _ => exact h.elim
        | lst ds =>
          simp only at h
          obtain ⟨v0, q1, q2⟩ := Wl.sl i _ ei
          obtain ⟨a, rfl, q3, q4, o, ho, xs, rfl, rs⟩ := Wl.locAt es q2
          refine ⟨.ref a, q1, .inl ⟨rfl, xs, SqL.of ho⟩, B, w, δ, st, Wl, AftO.expr e h fun d st1 w1 H1 e1 e2 W1 h1 v rv => ⟨B, w1, δ, st1, W1, AftO.expr e2 h1 fun d2 st2 w2 H2 e3 e4 W2 h2 u ru => ?_⟩⟩
          simp only at h2
          cases es1 : st2[l]? with
          | none => rw [es1] at h2; exact h2.elim
          | some m =>
            rw [es1] at h2
            cases m with
            | dct _ _ => exact h2.elim
            | ins _ _ => exact h2.elim
            | lst ds1 =>
              simp only at h2
              cases d <;> simp only at h2 <;> try exact h2.elim
              rename_i k
              split at h2
              · rename_i c
                cases rv
                obtain ⟨a2, ea, q5, q6, o2, ho2, xs2, rfl, rs2⟩ := W2.locAt es1 (Rep.up (e1.trans e3).up (d := .loc l) ⟨a, rfl, q3⟩)
                cases ea
                exact ⟨a, xs2, k, u, rfl, rfl, ho2, by rw [rs2.length, sizeLine_eq]; omega, c.1, by omega, h2 w2 σ _ (e4.pokeLoc (List.mem_of_getElem? q5)) (W2.pokeLoc es1 q5 ⟨_, rfl, ((rs2.take _).append (Reps.one ru)).append (rs2.drop _)⟩)⟩
              · exact h2.elim
theorem Reps.dropLast {w : Wd} : ∀ {ds : List Qk.D} {xs : List V}, Reps K T w ds xs → Reps K T w ds.dropLast xs.dropLast := fun {ds xs} h => by
  rw [List.dropLast_eq_take, List.dropLast_eq_take, h.length]
  exact h.take _
theorem Reps.last {w : Wd} {ds : List Qk.D} {xs : List V} (h : Reps K T w ds xs) (hn : ds ≠ []) : ∃ y, xs[xs.length - 1]? = some y := by
  have hl := h.length
  have : 0 < ds.length := List.length_pos_iff.mpr hn
  exact ⟨xs[xs.length - 1]'(by omega), List.getElem?_eq_getElem (by omega)⟩
theorem ps_pop' (hK : X.K = K) {i : Nat} {o : Expr} {apos cpos pos : Pos} (ho : PE X o (tVar i)) (hb : attributeBase o "pop" X.env (eval o X.env) = eval o X.env) (hl : (apos.endLine == cpos.line) = true) :
    PS X (.Expr (.Call (.Attribute o "pop" apos) [] [] cpos) pos) (tS K T G C W (.popL i)) := by
  subst hK
  refine (ps_expr (pe_bm0 PySem.F.plainAttrs_list PySem.F.slot_list_pop PySem.F.type_list_pop mt_pop ho hb hl) rfl).to fun D σ H ⟨w0, B, w, δ, st, e, Wl, h⟩ => ?_
  simp only [exec] at h
  cases ei : δ[i]? with
  | none => rw [ei] at h; exact h.elim
  | some sl =>
    rw [ei] at h
    cases sl with
    | un => exact h.elim
    | exo _ _ => exact h.elim
    | own m =>
      cases m with
      | dct _ _ => exact h.elim
      | ins _ _ => exact h.elim
      | lst ds =>
        simp only at h
        split at h
        · exact h.elim
        · rename_i hn
          obtain ⟨a, q1, q2, q3, q4, o, ho, xs, rfl, rs⟩ := Wl.sl i _ ei
          obtain ⟨y, hy⟩ := rs.last hn
          exact ⟨.ref a, q1, .inl ⟨rfl, xs, SqL.of ho⟩, a, xs, y, rfl, rfl, ho, hy, h w σ _ (e.poke q2.1) (Wl.pokeOwn ei q1 ⟨_, rfl, rs.dropLast⟩)⟩
    | val dd =>
      cases dd <;> simp only at h <;> try exact h.elim
      rename_i l
      cases es : st[l]? with
      | none => rw [es] at h; exact h.elim
      | some m =>
        rw [es] at h
        cases m with
        | dct _ _ => exact h.elim
        | ins _ _ => exact h.elim
        | lst ds =>
          simp only at h
          split at h
          · exact h.elim
          · rename_i hn
            obtain ⟨v0, q1, q2⟩ := Wl.sl i _ ei
            obtain ⟨a, rfl, q3, q4, o, ho, xs, rfl, rs⟩ := Wl.locAt es q2
            obtain ⟨y, hy⟩ := rs.last hn
            exact ⟨.ref a, q1, .inl ⟨rfl, xs, SqL.of ho⟩, a, xs, y, rfl, rfl, ho, hy, h w σ _ (e.pokeLoc (List.mem_of_getElem? q3)) (Wl.pokeLoc es q3 ⟨_, rfl, rs.dropLast⟩)⟩
theorem ps_appE' (hK : X.K = K) {o x : Expr} {o' x' : E} {apos cpos pos : Pos} (ho : PE X o (tE K T G C W o')) (hb : attributeBase o "append" X.env (eval o X.env) = eval o X.env) (he : PE X x (tE K T G C W x')) (hp : ∀ a p, x ≠ .Starred a p) (hl : (apos.endLine == cpos.line) = true) :
    PS X (.Expr (.Call (.Attribute o "append" apos) [x] [] cpos) pos) (tS K T G C W (.appE o' x')) := by
  subst hK
  have lim : Lim = 1000000 := rfl
  have hp' : ∀ y ∈ [x], ∀ a p, y ≠ .Starred a p := fun y hy => by rw [List.mem_singleton.mp hy]; exact hp
  obtain ⟨h1, h2⟩ := es_plain (env := X.env) (pos := cpos) hp'
  refine (ps_expr (pe_bm PySem.F.plainAttrs_list PySem.F.slot_list_append PySem.F.type_list_append mt_append ho (pa_cons he pa_nil h1) hb (few_ok hp' (by simp)) hl h1 h2) rfl).to fun D σ H ⟨w0, B, w, δ, st, e, Wl, h⟩ => ?_
  simp only [exec] at h
  refine ⟨B, w, δ, st, Wl, AftO.expr e h fun d st1 w1 H1 e1 e2 W1 h1 v rv => ?_⟩
  cases d <;> simp only at h1 <;> try exact h1.elim
  rename_i l
  cases es : st1[l]? with
  | none => rw [es] at h1; exact h1.elim
  | some m =>
    rw [es] at h1
    cases m with
    | dct _ _ => exact h1.elim
    | ins _ _ => exact h1.elim
    | lst ds =>
      simp only at h1
      obtain ⟨a, rfl, q3, q4, o, ho, xs, rfl, rs⟩ := W1.locAt es rv
      refine ⟨.inl ⟨rfl, xs, SqL.of ho⟩, B, w1, δ, st1, W1, AftO.expr e2 h1 fun d2 st2 w2 H2 e3 e4 W2 h2 u ru => ?_⟩
      simp only at h2
      cases es1 : st2[l]? with
      | none => rw [es1] at h2; exact h2.elim
      | some m =>
        rw [es1] at h2
        cases m with
        | dct _ _ => exact h2.elim
        | ins _ _ => exact h2.elim
        | lst ds1 =>
          simp only at h2
          split at h2
          · rename_i c
            obtain ⟨a2, ea, q5, q6, o2, ho2, xs2, rfl, rs2⟩ := W2.locAt es1 (Rep.up e3.up (d := .loc l) ⟨a, rfl, q3⟩)
            cases ea
            exact ⟨a, xs2, u, rfl, rfl, ho2, by rw [rs2.length, sizeLine_eq]; omega, h2 w2 σ _ (e4.pokeLoc (List.mem_of_getElem? q5)) (W2.pokeLoc es1 q5 ⟨_, rfl, rs2.append (Reps.one ru)⟩)⟩
          · exact h2.elim
theorem ps_sdIf' (hK : X.K = K) (hu : X.A.units + 65 < cLine) {i : Nat} {o a b c : Expr} {k v z : E} {body : List Stmt} {b' : Ss} {apos cpos p pos : Pos} (ho : PE X o (tVar i)) (hb : attributeBase o "setdefault" X.env (eval o X.env) = eval o X.env) (ha : PE X a (tE K T G C W k)) (hv : PE X b (tE K T G C W v)) (hz : PE X c (tE K T G C W z))
    (hbd : PSs X body (tSs K T G C W b')) (hp : ∀ y ∈ [a, b], ∀ u p, y ≠ .Starred u p) (hl : (apos.endLine == cpos.line) = true) :
    PS X (.If (.Compare (.Call (.Attribute o "setdefault" apos) [a, b] [] cpos) [.NotEq] [c] p) body [] pos) (tS K T G C W (.sdIf i k v z b')) := by
  subst hK
  have lim : Lim = 1000000 := rfl
  obtain ⟨h1, h2⟩ := es_plain (env := X.env) (pos := cpos) hp
  have tr : backTo cpos (starEach [a, b] X.env) = [(false, eval a X.env), (false, eval b X.env)] := by
    rw [h1, (es_plain (env := X.env) (pos := cpos) (e := b) (es := []) (fun z hz => hp z (List.mem_cons_of_mem _ hz))).1]
    rfl
  obtain ⟨r, ok⟩ := cmp_ok (T := T) hu .ne
  refine (ps_if (pt_cmpR ok.op (pe_dsetd ho ha hv ⟨hb, few_ok hp (by simp), hl, tr⟩) hz (nobehind c (by decide) (by decide))) hbd (ss_nil (G := G) (C := C) (W := W) (K := X.K) (T := T))).to fun D σ H ⟨w0, B, w, δ, st, e, Wl, h⟩ => ?_
  simp only [exec] at h
  cases ei : δ[i]? with
  | none => rw [ei] at h; exact h.elim
  | some sl =>
    rw [ei] at h
    cases sl with
    | un => exact h.elim
    | exo _ _ => exact h.elim
    | val _ => exact h.elim
    | own m =>
      cases m with
      | lst _ => exact h.elim
      | ins _ _ => exact h.elim
      | dct t kvs =>
        obtain ⟨x0, q1, q2, q3, q4, o0, ho0, rm0⟩ := Wl.sl i _ ei
        have isd : IsD H x0 := by
          rcases rm0 with ⟨_, q, rfl, _⟩ | ⟨_, q, rfl, _⟩
          · exact .inr ⟨q, .inl ho0⟩
          · exact .inl ⟨q, .inl ho0⟩
        refine ⟨.ref x0, q1, x0, rfl, isd, B, w, δ, st, Wl, AftO.expr e h fun dk st1 w1 H1 e1 e2 W1 h1 y ry => ⟨B, w1, δ, st1, W1, AftO.expr e2 h1 fun dv st2 w2 H2 e3 e4 W2 h2 u ru => ?_⟩⟩
        simp only at h2
        cases ek : keyOf dk with
        | none => rw [ek] at h2; exact h2.elim
        | some key =>
          rw [ek] at h2
          simp only at h2
          split at h2
          · rename_i cnd
            obtain ⟨kt, tf, kl⟩ := cnd
            subst tf
            obtain ⟨_, _, _, o2, ho2, rm⟩ := W2.ownAt ei q1
            rcases rm with ⟨zz, _⟩ | ⟨_, q', rfl, rq⟩
            · cases zz
            rcases key_rep W2.st.same ek (ry.up e3.up) with ⟨n, rfl, rfl⟩ | ⟨ns, b, rfl, rfl, hb⟩
            rotate_left
            · cases kt
            obtain ⟨lk1, lk2⟩ := lookK_J (n := n) rq
            refine ⟨q', _, ho2, rfl, by rw [rq.length, sizeLine_eq]; omega, fun v0 hv0 => ?_, fun hn0 => ?_⟩
            · cases el : lookK (.i n) kvs with
              | none => rw [lk2 el] at hv0; cases hv0
              | some d0 =>
                rw [el] at h2
                simp only at h2
                obtain ⟨v1, hv1, rv1⟩ := lk1 d0 el
                rw [hv1] at hv0
                cases hv0
                refine ⟨B, w2, δ, st2, W2, AftO.expr e4 h2 fun dz st3 w3 H3 e5 e6 W3 h3 uz rz => ?_⟩
                simp only at h3
                cases ec : cmpP .ne st3 (.d d0) (.d dz) with
                | none => rw [ec] at h3; exact h3.elim
                | some bb =>
                  rw [ec] at h3
                  refine ok.ok (p := .d d0) (q := .d dz) W3 (rv1.up e5.up) rz ec ⟨bb, rfl, ?_⟩
                  cases bb with
                  | true => exact iteT ⟨w0, B, w3, δ, st3, e6, W3, h3⟩
                  | false => exact iteF ⟨w0, B, w3, δ, st3, e6, W3, by simp only [execs]; exact h3⟩
            · cases el : lookK (.i n) kvs with
              | some d0 =>
                obtain ⟨v1, hv1, rv1⟩ := lk1 d0 el
                rw [hn0] at hv1
                cases hv1
              | none =>
                rw [el] at h2
                simp only at h2
                have W2' := W2.pokeOwn ei q1 (m' := .dct false (putK (.i n) dv kvs)) (o := .dK (L2.putK q' (Sum.inl n) u)) (.inr ⟨rfl, _, rfl, putK_J ru rq⟩)
                refine ⟨B, w2, _, st2, W2', AftO.expr (e4.poke q2.1) h2 fun dz st3 w3 H3 e5 e6 W3 h3 uz rz => ?_⟩
                simp only at h3
                cases ec : cmpP .ne st3 (.d dv) (.d dz) with
                | none => rw [ec] at h3; exact h3.elim
                | some bb =>
                  rw [ec] at h3
                  refine ok.ok (p := .d dv) (q := .d dz) W3 (ru.up e5.up) rz ec ⟨bb, rfl, ?_⟩
                  cases bb with
                  | true => exact iteT ⟨w0, B, w3, _, st3, e6, W3, h3⟩
                  | false => exact iteF ⟨w0, B, w3, _, st3, e6, W3, by simp only [execs]; exact h3⟩
          · exact h2.elim
end
end Qk

set_option linter.all false
set_option maxHeartbeats 2000000
set_option maxRecDepth 100000
namespace Qk
open PySem L2

section
variable {K : PySem.W.Frag} {T : Txc} {G : List Fn} {C : List Int} {W : WX} {X : Cx} {w0 w w' : Wd} {B H H' : Hp} {δ : Sls} {σ : St} {st st' : Sto} {D : Ends}
def rIp (o : Bo) : R2 := fun x y H Q => ∃ i j k, x = .int i ∧ y = .int j ∧ binV o (.int i) (.int j) = some (.int k) ∧ Q (.int k) H
theorem ip_bo (o : Bo) (ho : o ≠ .pow) : PIp X o.py (rIp o) := by
  intro pins s σ H x y v u Q I rx ry h
  obtain ⟨i, j, k, ex, ey, e, q⟩ := h
  subst ex ey
  have sure : ∀ {r : R2}, OpR X (inplaceOp o.py) r → r (.int i) (.int j) H Q → wpAny (model X.prog X.w) X.A (inplaceOp o.py v u) (EP X pins σ Q) X.xe s := fun hr h => hr pins s σ H _ _ v u Q I rx ry h
  cases o <;> simp only [binV] at e
  case add => cases e; exact sure iop_add ⟨i, j, rfl, rfl, q⟩
  case sub => cases e; exact sure iop_sub ⟨i, j, rfl, rfl, q⟩
  case mul =>
    split at e
    · rename_i c; cases e; exact sure iop_mul ⟨i, j, rfl, rfl, c, q⟩
    · cases e
  case fdiv =>
    split at e
    · rename_i c; cases e; exact sure iop_fdiv ⟨i, j, rfl, rfl, c, q⟩
    · cases e
  case mod =>
    split at e
    · rename_i c; cases e; exact sure iop_mod ⟨i, j, rfl, rfl, c, q⟩
    · cases e
  case pow => exact absurd rfl ho
  case shl =>
    split at e
    · rename_i c; cases e; exact sure iop_shl ⟨i, j, rfl, rfl, ⟨c.1, by omega, c.2.2⟩, q⟩
    · cases e
  case shr =>
    split at e
    · rename_i c; cases e; exact sure iop_shr ⟨i, j, rfl, rfl, c, q⟩
    · cases e
  case band => cases e; exact sure iop_and ⟨i, j, rfl, rfl, q⟩
  case bor => cases e; exact sure iop_or ⟨i, j, rfl, rfl, q⟩
theorem get_list : PGet X (rIxL X.K) := by
  intro pins s σ H x y v u Q I rx ry h
  obtain ⟨p, xs, i, z, rfl, rfl, hq, he, q⟩ := h
  cases rx
  obtain ⟨t, rfl⟩ := ry
  obtain ⟨its, r, pl, hz⟩ := I.list hq
  obtain ⟨j, h1, h2, h3, h4, h5⟩ := atI_get he
  obtain ⟨w, ew, rw'⟩ := r.get h2
  have hl := r.length
  have hn := line63
  have fin : EP X pins σ Q w s := ⟨z, H, I, rw', q⟩
  by_cases h0 : 0 ≤ i
  · have hj : i.toNat = j := by
      rw [seqIndex_of h0 h5] at h1
      exact Option.some.inj h1
    exact wpAny_getItem_list pl.isList h0 (by omega) (by rw [hj]; simpa using ew) fin
  · have hj : (i + (its.toArray.size : Int)).toNat = j := by
      rw [seqIndex_neg (by omega) h4] at h1
      rw [List.size_toArray, ← hl]
      exact Option.some.inj h1
    exact wpAny_getItem_list_neg pl.isList (by omega) (by rw [List.size_toArray] <;> omega) (by omega) (by rw [hj]; simpa using ew) fin
theorem ps_augI' (hK : X.K = K) {i : Nat} {o ix x : Expr} {ix' x' : E} {op : Bo} {pos tpos : Pos} (ho : PE X o (tVar i)) (hi : PE X ix (tE K T G C W ix')) (he : PE X x (tE K T G C W x')) (hop : op ≠ .pow)
    (ha : ∀ ov iv new, augStore ix ov iv new = (do holding [new, ov, iv] (setItem ov iv new); release [new, ov, iv] []; pure .next)) : PS X (.AugAssign (.Subscript o ix tpos) op.py x pos) (tS K T G C W (.augI i op ix' x')) := by
  subst hK
  refine (ps_augS ho hi get_list he (ip_bo op hop) set_list ha).to fun D σ H ⟨w0, B, w, δ, st, e, Wl, h⟩ => ?_
  simp only [exec] at h
  split at h
  · rename_i ds ei
    obtain ⟨a, q1, q2, q3, q4, oo, hoo, xs, rfl, rs⟩ := Wl.sl i _ ei
    refine ⟨.ref a, q1, B, w, δ, st, Wl, AftO.expr e h fun q st1 w1 H1 e1 e2 W1 h1 u ru => ?_⟩
    cases q <;> simp only at h1 <;> try exact h1.elim
    rename_i k
    cases ru
    split at h1
    · rename_i j ej
      split at h1
      · rename_i x ex
        obtain ⟨_, _, _, o2, ho2, xs2, rfl, rs2⟩ := W1.ownAt ei q1
        obtain ⟨v, hv, rv⟩ := rs2.get ex
        cases rv
        have at_ : atI xs2 k = some (.int x) := by
          unfold atI
          rw [rs2.length, show ixN ds.length k = ixn ds.length k from rfl, ej]
          exact hv
        refine ⟨a, xs2, k, .int x, rfl, rfl, SqL.of ho2, at_, B, w1, δ, st1, W1, AftO.expr e2 h1 fun d st2 w2 H2 e3 e4 W2 h2 v2 r2 => ?_⟩
        cases d <;> simp only at h2 <;> try exact h2.elim
        rename_i y
        cases r2
        cases hb : binV op (.int x) (.int y) with
        | none => rw [hb] at h2; exact h2.elim
        | some r =>
          rw [hb] at h2
          rcases binV_int hb with ⟨_, _, k2, _, _, rfl⟩ | ⟨_, _, _, z, _⟩ | ⟨_, _, _, z, _⟩ | ⟨_, _, _, z, _⟩
          · obtain ⟨_, _, _, o3, ho3, xs3, rfl, rs3⟩ := W2.ownAt ei q1
            exact ⟨x, y, k2, rfl, rfl, hb, a, xs3, k, j, rfl, rfl, ho3, by rw [rs3.length]; exact ej, h2 w2 σ _ (e4.poke q2.1) (W2.pokeOwn ei q1 ⟨_, rfl, rs3.set j rfl⟩)⟩
          · cases z
          · cases z
          · cases z
      · exact h1.elim
    · exact h1.elim
  · exact h.elim
theorem ps_aug' {i : Nat} {x : Str} {y : Expr} {y' : E} {o : Bo} {pos pos' : Pos} (hN : X.N.Nodup) (hi : X.N[i]? = some x) (hx : Loc X.env.scope x) (hf : X.fn x = true ∨ X.env.scope.names.lookup x = some .local) (ho : o ≠ .pow) (he : PE X y (tE K T G C W y')) :
    PS X (.AugAssign (.Name x pos') o.py y pos) (tS K T G C W (.aug i o y')) := (ps_aug hN hi hx he (ip_bo o ho) hf).to fun D σ H ⟨w0, B, w, δ, st, e, Wl, h⟩ => by
  simp only [exec] at h
  split at h
  · rename_i n ei
    obtain ⟨v, hv, rv⟩ := Wl.sl i _ ei
    refine ⟨v, hv, B, w, δ, st, Wl, AftO.expr e h fun d st1 w1 H1 e1 e2 W1 h1 u ru => ?_⟩
    cases rv
    simp only at h1
    split at h1
    · rename_i m
      cases hb : binV o (.int n) (.int m) with
      | none => rw [hb] at h1; exact h1.elim
      | some r =>
        rw [hb] at h1
        rcases binV_int hb with ⟨_, _, k, _, _, rfl⟩ | ⟨_, _, _, z, _⟩ | ⟨_, _, _, z, _⟩ | ⟨_, _, _, z, _⟩
        · exact ⟨n, m, k, rfl, ru, hb, h1 w1 _ H1 e2 (W1.setVal rfl)⟩
        · cases z
        · cases z
        · cases z
    · exact h1.elim
  · exact h.elim

theorem ps_while' {c : Expr} {body : List Stmt} {c' : E} {b' : Ss} {pos : Pos} (hp : PassesOwn (model X.prog X.w) X.A X.env X.xe) (hc : PT X c (tB K T G C W c')) (hb : PSs X body (tSs K T G C W b')) : PS X (.While c body [] pos) (tS K T G C W (.while_ c' b')) := (ps_while hp hc hb).to fun D σ H ⟨w0, B, w, δ, st, e, Wl, h⟩ => by
  simp only [exec] at h
  refine ⟨fun m σ H => ∃ w δ st, Ext w0 B w H ∧ World K T B w δ st σ H ∧ AftO K T W w0 B (whileLoop (evalT G C c') (execs G C b') m δ st) D, ⟨Lim, w, δ, st, e, Wl, h⟩, ?_⟩
  rintro m σ1 H1 ⟨w1, δ1, st1, e1, W1, h1⟩
  cases m with
  | zero => exact h1.elim
  | succ n =>
    simp only [whileLoop] at h1
    refine ⟨B, w1, δ1, st1, W1, ?_⟩
    cases ec : evalT G C c' δ1 st1 with
    | stuck => rw [ec] at h1; exact h1
    | exc cl es s => rw [ec] at h1; exact fun w' H' dx ex Wx r => h1 w' σ1 H' dx (e1.trans ex) Wx (r.back e1)
    | ok r =>
      obtain ⟨b, st2⟩ := r
      rw [ec] at h1
      intro w' H' ex Wx
      cases b with
      | false => exact iteF (h1 w' σ1 H' (e1.trans ex) Wx)
      | true =>
        refine iteT ⟨fun σ H => ∃ w δ st, Ext w0 B w H ∧ World K T B w δ st σ H ∧ AftO K T W w0 B (whileLoop (evalT G C c') (execs G C b') n δ st) D, fun σ' H' q => ⟨n, Nat.lt_succ_self _, q⟩, w0, B, w', δ1, st2, e1.trans ex, Wx, ?_⟩
        simp only at h1
        cases eb : execs G C b' δ1 st2 with
        | nx δ3 st3 => rw [eb] at h1; exact fun w σ H e Wl => ⟨w, δ3, st3, e, Wl, h1⟩
        | cnt δ3 st3 => rw [eb] at h1; exact fun w σ H e Wl => ⟨w, δ3, st3, e, Wl, h1⟩
        | brk δ3 st3 => rw [eb] at h1; exact h1
        | ret d st3 => rw [eb] at h1; exact h1
        | exc cl es δ3 st3 => rw [eb] at h1; exact h1
        | stuck => rw [eb] at h1; exact h1
theorem Ext.rebase {w1 : Wd} {H1 : Hp} (a : Ext w0 B w1 H1) (b : Ext w1 B w H) : Ext w0 B w H where
  same := a.same.trans b.same
  pre := fun l x h => b.pre l x (a.pre l x h)
  old := fun x h f => b.old x h (a.old x h f)
  keep := fun x o h n => b.keep x o h fun m => (a.new x m).elim n fun q => by rw [h] at q; cases q
  there := b.there
  new := fun x h => (b.new x h).elim (a.new x) .inr
  rt := b.rt.trans a.rt
theorem Ext.lift {w1 : Wd} (a : Ext w0 B w H) (u : Up w0 w1) (v : Up w1 w) (rr : w1.r = w0.r) : Ext w1 B w H where
  rt := a.rt.trans rr.symm
  same := v.same
  pre := v.pre
  old := fun x h f => a.old x h (u.same.free f)
  keep := fun x o h n => a.keep x o h fun m => by
    obtain ⟨l, hl, e⟩ := List.getElem_of_mem m
    exact n (List.mem_of_getElem? (u.pre l x (by rw [List.getElem?_eq_getElem hl, e])))
  there := a.there
  new := fun x h => (a.new x h).imp (fun m => by
    obtain ⟨l, hl, e⟩ := List.getElem_of_mem m
    exact List.mem_of_getElem? (u.pre l x (by rw [List.getElem?_eq_getElem hl, e]))) id
theorem for_read {t : Tg} {i : I} {b' : Ss} {D : Ends} {σ : St} {H : Hp} (h0 : tS K T G C W (.for_ t i b') D σ H) : tFor (tIt K T G C W i) (tG K T t) (tSs K T G C W b') D σ H := by
  obtain ⟨w0, B, w, δ, st, e, Wl, h⟩ := h0
  simp only [exec] at h
  refine ⟨B, w, δ, st, Wl, AftO.exprE e h fun dg st1 w1 H1 eqI e1 e2 W1 h1 J wk => ?_⟩
  have gd1 := evalI_gd eqI
  obtain ⟨ds, g⟩ := dg
  simp only at wk gd1 h1
  let f : Qk.D → Sls → Sto → O := fun x δ' st' => match t.bind x δ' with | some δ2 => execs G C b' δ2 st' | none => .stuck
  let Iv : Nat → St → Hp → Prop := fun k σ H => k ≤ ds.length ∧ ∃ w δ st, GdOk g st ∧ Ext w0 B w H ∧ Up w1 w ∧ World K T B w δ st σ H ∧ AftO K T W w0 B (forLoop (gdF g f) (ds.drop k) δ st) D
  refine ⟨fun k m σ H => m = ds.length - k ∧ Iv k σ H, ⟨ds.length, rfl, Nat.zero_le _, w1, δ, st1, gd1, e2, Up.refl, W1, h1⟩, ?_⟩
  rintro k m σ2 H2 ⟨rfl, hk, w2, δ2, st2, gk, e3, up, W2, h2⟩
  rcases Nat.lt_or_ge k ds.length with lt | ge
  · obtain ⟨d, hd⟩ : ∃ d, ds[k]? = some d := ⟨ds[k], by simp [lt]⟩
    have hdrop : ds.drop k = d :: ds.drop (k + 1) := by
      rw [List.drop_eq_getElem_cons lt]
      rw [List.getElem?_eq_getElem lt] at hd
      cases hd
      rfl
    rw [hdrop] at h2
    simp only [forLoop] at h2
    refine .inr ⟨wk.go k w2 st2 H2 up W2.st gk lt, Iv (k + 1), fun σ' H' iv => ⟨ds.length - (k + 1), by omega, rfl, iv⟩, fun x H' y => ?_⟩
    obtain ⟨w3, e4, up3, rx⟩ := wk.yld k d w2 st2 H2 x H' up W2.st gk hd y
    have W3 := up3 B δ2 st2 σ2 W2
    refine ⟨B, w3, δ2, st2, d, W3, rx, ?_⟩
    have hf : f d δ2 st2 = match t.bind d δ2 with | some δ2 => execs G C b' δ2 st2 | none => .stuck := rfl
    cases hb : t.bind d δ2 with
    | none =>
      rw [hb] at hf
      rw [gdF_o hf (fun _ _ z => by cases z) (fun _ _ z => by cases z)] at h2
      exact h2
    | some δ3 =>
      rw [hb] at hf
      simp only at hf ⊢
      refine fun σ3 W4 _ => ⟨w1, B, w3, δ3, st2, (e3.trans e4).lift e2.up (up.trans e4.up) e2.rt, W4, ?_⟩
      cases eb : execs G C b' δ3 st2 with
      | nx δ4 st4 =>
        rw [eb] at hf
        rcases gdF_nx (g := g) hf with ⟨gk2, z⟩ | z
        · rw [z] at h2; exact fun w σ H e Wl => ⟨lt, w, δ4, st4, gk2, e2.rebase e, e.up, Wl, h2⟩
        · rw [z] at h2; exact h2.elim
      | cnt δ4 st4 =>
        rw [eb] at hf
        rcases gdF_cnt (g := g) hf with ⟨gk2, z⟩ | z
        · rw [z] at h2; exact fun w σ H e Wl => ⟨lt, w, δ4, st4, gk2, e2.rebase e, e.up, Wl, h2⟩
        · rw [z] at h2; exact h2.elim
      | brk δ4 st4 =>
        rw [eb] at hf
        rw [gdF_o hf (fun _ _ z => by cases z) (fun _ _ z => by cases z)] at h2
        exact fun w σ H e Wl => h2 w σ H (e2.rebase e) Wl
      | ret d st4 =>
        rw [eb] at hf
        rw [gdF_o hf (fun _ _ z => by cases z) (fun _ _ z => by cases z)] at h2
        exact fun w H v e so r => h2 w H v (e2.rebase e) so r
      | exc cl es δ4 st4 =>
        rw [eb] at hf
        rw [gdF_o hf (fun _ _ z => by cases z) (fun _ _ z => by cases z)] at h2
        exact fun w σ H dx e Wl r => h2 w σ H dx (e2.rebase e) Wl r
      | stuck =>
        rw [eb] at hf
        rw [gdF_o hf (fun _ _ z => by cases z) (fun _ _ z => by cases z)] at h2
        exact h2
  · have hkk : k = ds.length := by omega
    subst hkk
    rw [List.drop_length] at h2
    exact .inl ⟨wk.stop w2 st2 H2 up W2.st gk, h2 w2 σ2 H2 e3 W2⟩
theorem ps_for' {tg iter : Expr} {body : List Stmt} {t : Tg} {i : I} {b' : Ss} {pos : Pos} (hp : PassesOwn (model X.prog X.w) X.A X.env X.xe) (hc : X.calm = true) (hi : PI X tg iter (tIt K T G C W i)) (hg : PG X tg (tG K T t)) (hb : PSs X body (tSs K T G C W b'))
    (hs : ∀ x, foldedSetIterable iter X.env x = pure x) : PS X (.For tg iter body [] pos) (tS K T G C W (.for_ t i b')) := (ps_for hp hc hi hg hb hs).to fun D σ H h => for_read h
end
end Qk

set_option linter.all false
set_option maxHeartbeats 2000000
set_option maxRecDepth 100000
namespace Qk
open PySem L2

section
variable {K : PySem.W.Frag} {T : Txc} {G : List Fn} {C : List Int} {W : WX} {X : Cx} {w0 w w' : Wd} {B H H' : Hp} {δ : Sls} {σ : St} {st st' : Sto} {D : Ends}
theorem ps_asgO' {i : Nat} {y : Str} {x : Expr} {x' : E} {pos pos' : Pos} (hN : X.N.Nodup) (hi : X.N[i]? = some y) (hx : Loc X.env.scope y) (hf : X.fn y = true ∨ X.env.scope.names.lookup y = some .local) (he : PE X x (tN K T G C W x')) (hd : ∀ t ks vs, x' ≠ .dct t ks vs)
    (hs : swapsWith x (some (.Name y pos')) pos.line X.env = pure false) : PS X (.Assign [.Name y pos'] x pos) (tS K T G C W (.asgO i x')) := (ps_set hN hi hx he hs hf).to fun D σ H h => asg_own (fun _ h => h) hd h
theorem ps_asgN' {i : Nat} {y : Str} {x : Expr} {x' : E} {pos pos' : Pos} (hN : X.N.Nodup) (hi : X.N[i]? = some y) (hx : Loc X.env.scope y) (hf : X.fn y = true ∨ X.env.scope.names.lookup y = some .local) (he : PE X x (tE K T G C W x'))
    (hs : swapsWith x (some (.Name y pos')) pos.line X.env = pure false) : PS X (.Assign [.Name y pos'] x pos) (tS K T G C W (.asg (.n i) x')) := (ps_set hN hi hx he hs hf).to fun D σ H ⟨w0, B, w, δ, st, e, Wl, h⟩ => by
  simp only [exec] at h
  exact ⟨B, w, δ, st, Wl, AftO.expr e h fun d st1 w1 H1 e1 e2 W1 h1 v rv => h1 w1 _ H1 e2 (W1.setVal rv)⟩
theorem ps_lcO' (hc : X.calm = true) (hN : X.N.Nodup) {i : Nat} {y : Str} {py : Pos} {elt tg iter : Expr} {ifs : List Expr} {scope : Scope} {pos spos : Pos} {own : List (Str × Nat)} {elt' : E} {t : Tg} {it : I} {cs : Es} (hy : X.N[i]? = some y) (hyl : X.env.scope.names.lookup y = some .local)
    (hsw : swapsWith (.ListComp elt [⟨tg, iter, ifs, 0⟩] scope pos) (some (.Name y py)) spos.line X.env = pure true) (hi : PI X tg iter (tIt K T G C W it)) (ok : BlkOk X.N X.env.scope scope own)
    (hg : ∀ (s : Shared) (H : Hp) (Ca : Addr) (cl : List (Str × Addr)) (fp : List Addr), PG (X.blk s H scope (compEnvC scope cl Ca X.env) fp) tg (tG K T t))
    (ht : ∀ (s : Shared) (H : Hp) (Ca : Addr) (cl : List (Str × Addr)) (fp : List Addr), PTs (X.blk s H scope (compEnvC scope cl Ca X.env) fp) ifs (tBs K T G C W0 cs))
    (he : ∀ (s : Shared) (H : Hp) (Ca : Addr) (cl : List (Str × Addr)) (fp : List Addr), PE (X.blk s H scope (compEnvC scope cl Ca X.env) fp) elt (tE K T G C W0 elt'))
    (hsl : ∀ j ∈ t.slots, j ∈ own.map (·.2)) (hs : ∀ x, foldedSetIterable iter X.env x = pure x) : PS X (.Assign [.Name y py] (.ListComp elt [⟨tg, iter, ifs, 0⟩] scope pos) spos) (tS K T G C W (.asgO i (.comp elt' t it cs (own.map (·.2))))) :=
  (ps_setLc hc hN hy hyl hsw hi ok hg ht he hs).to fun D σ H h => asg_own (fun _ h => lc_read hsl h) (fun _ _ _ z => by cases z) h
theorem ps_lcN' (hc : X.calm = true) (hN : X.N.Nodup) {i : Nat} {y : Str} {py : Pos} {elt tg iter : Expr} {ifs : List Expr} {scope : Scope} {pos spos : Pos} {own : List (Str × Nat)} {elt' : E} {t : Tg} {it : I} {cs : Es} (hy : X.N[i]? = some y) (hyl : X.env.scope.names.lookup y = some .local)
    (hsw : swapsWith (.ListComp elt [⟨tg, iter, ifs, 0⟩] scope pos) (some (.Name y py)) spos.line X.env = pure true) (hi : PI X tg iter (tIt K T G C W it)) (ok : BlkOk X.N X.env.scope scope own)
    (hg : ∀ (s : Shared) (H : Hp) (Ca : Addr) (cl : List (Str × Addr)) (fp : List Addr), PG (X.blk s H scope (compEnvC scope cl Ca X.env) fp) tg (tG K T t))
    (ht : ∀ (s : Shared) (H : Hp) (Ca : Addr) (cl : List (Str × Addr)) (fp : List Addr), PTs (X.blk s H scope (compEnvC scope cl Ca X.env) fp) ifs (tBs K T G C W0 cs))
    (he : ∀ (s : Shared) (H : Hp) (Ca : Addr) (cl : List (Str × Addr)) (fp : List Addr), PE (X.blk s H scope (compEnvC scope cl Ca X.env) fp) elt (tE K T G C W0 elt'))
    (hsl : ∀ j ∈ t.slots, j ∈ own.map (·.2)) (hs : ∀ x, foldedSetIterable iter X.env x = pure x) : PS X (.Assign [.Name y py] (.ListComp elt [⟨tg, iter, ifs, 0⟩] scope pos) spos) (tS K T G C W (.asg (.n i) (.comp elt' t it cs (own.map (·.2))))) :=
  (ps_setLc hc hN hy hyl hsw hi ok hg ht he hs).to fun D σ H ⟨w0, B, w, δ, st, e, Wl, h⟩ => by
    simp only [exec] at h
    exact lc_read hsl (tE_tN ⟨B, w, δ, st, Wl, AftO.expr e h fun d st1 w1 H1 e1 e2 W1 h1 v rv => h1 w1 _ H1 e2 (W1.setVal rv)⟩)

theorem ps_lcO2' (hc : X.calm = true) (hN : X.N.Nodup) {i : Nat} {y : Str} {py : Pos} {elt tg iter tg2 iter2 : Expr} {ifs ifs2 : List Expr} {scope : Scope} {pos spos : Pos} {own : List (Str × Nat)} {own2 : List Nat} {elt' : E} {t t2 : Tg} {it it2 : I} {cs cs2 : Es} (hy : X.N[i]? = some y) (hyl : X.env.scope.names.lookup y = some .local)
    (hsw : swapsWith (.ListComp elt [⟨tg, iter, ifs, 0⟩, ⟨tg2, iter2, ifs2, 0⟩] scope pos) (some (.Name y py)) spos.line X.env = pure true) (hi : PI X tg iter (tIt K T G C W it)) (ok : BlkOk X.N X.env.scope scope own) (hv : ∀ i ∈ own2, i ∈ own.map (·.2))
    (hg : ∀ (s : Shared) (H : Hp) (Ca : Addr) (cl : List (Str × Addr)) (fp : List Addr), PG (X.blk s H scope (compEnvC scope cl Ca X.env) fp) tg (tG K T t))
    (ht : ∀ (s : Shared) (H : Hp) (Ca : Addr) (cl : List (Str × Addr)) (fp : List Addr), PTs (X.blk s H scope (compEnvC scope cl Ca X.env) fp) ifs (tBs K T G C W0 cs))
    (hi2 : ∀ (s : Shared) (H : Hp) (Ca : Addr) (cl : List (Str × Addr)) (fp : List Addr), PI (X.blk s H scope (compEnvC scope cl Ca X.env) fp) tg2 iter2 (tIt K T G C W0 it2))
    (hg2 : ∀ (s : Shared) (H : Hp) (Ca : Addr) (cl : List (Str × Addr)) (fp : List Addr), PG (X.blk s H scope (compEnvC scope cl Ca X.env) fp) tg2 (tG K T t2))
    (ht2 : ∀ (s : Shared) (H : Hp) (Ca : Addr) (cl : List (Str × Addr)) (fp : List Addr), PTs (X.blk s H scope (compEnvC scope cl Ca X.env) fp) ifs2 (tBs K T G C W0 cs2))
    (he : ∀ (s : Shared) (H : Hp) (Ca : Addr) (cl : List (Str × Addr)) (fp : List Addr), PE (X.blk s H scope (compEnvC scope cl Ca X.env) fp) elt (tE K T G C W0 elt'))
    (hsl : ∀ j ∈ t.slots, j ∈ own.map (·.2)) (hsl2 : ∀ j ∈ t2.slots, j ∈ own2) (hs : ∀ x, foldedSetIterable iter X.env x = pure x) (hs2 : ∀ env x, foldedSetIterable iter2 env x = pure x) :
    PS X (.Assign [.Name y py] (.ListComp elt [⟨tg, iter, ifs, 0⟩, ⟨tg2, iter2, ifs2, 0⟩] scope pos) spos) (tS K T G C W (.asgO i (.comp2 elt' t it cs t2 it2 cs2 (own.map (·.2)) own2))) :=
  (ps_setLc2 hc hN hy hyl hsw hi ok hv hg ht hi2 hg2 ht2 he hs hs2).to fun D σ H h => asg_own (fun _ h => lc2_read hsl hsl2 h) (fun _ _ _ z => by cases z) h
theorem ps_lcN2' (hc : X.calm = true) (hN : X.N.Nodup) {i : Nat} {y : Str} {py : Pos} {elt tg iter tg2 iter2 : Expr} {ifs ifs2 : List Expr} {scope : Scope} {pos spos : Pos} {own : List (Str × Nat)} {own2 : List Nat} {elt' : E} {t t2 : Tg} {it it2 : I} {cs cs2 : Es} (hy : X.N[i]? = some y) (hyl : X.env.scope.names.lookup y = some .local)
    (hsw : swapsWith (.ListComp elt [⟨tg, iter, ifs, 0⟩, ⟨tg2, iter2, ifs2, 0⟩] scope pos) (some (.Name y py)) spos.line X.env = pure true) (hi : PI X tg iter (tIt K T G C W it)) (ok : BlkOk X.N X.env.scope scope own) (hv : ∀ i ∈ own2, i ∈ own.map (·.2))
    (hg : ∀ (s : Shared) (H : Hp) (Ca : Addr) (cl : List (Str × Addr)) (fp : List Addr), PG (X.blk s H scope (compEnvC scope cl Ca X.env) fp) tg (tG K T t))
    (ht : ∀ (s : Shared) (H : Hp) (Ca : Addr) (cl : List (Str × Addr)) (fp : List Addr), PTs (X.blk s H scope (compEnvC scope cl Ca X.env) fp) ifs (tBs K T G C W0 cs))
    (hi2 : ∀ (s : Shared) (H : Hp) (Ca : Addr) (cl : List (Str × Addr)) (fp : List Addr), PI (X.blk s H scope (compEnvC scope cl Ca X.env) fp) tg2 iter2 (tIt K T G C W0 it2))
    (hg2 : ∀ (s : Shared) (H : Hp) (Ca : Addr) (cl : List (Str × Addr)) (fp : List Addr), PG (X.blk s H scope (compEnvC scope cl Ca X.env) fp) tg2 (tG K T t2))
    (ht2 : ∀ (s : Shared) (H : Hp) (Ca : Addr) (cl : List (Str × Addr)) (fp : List Addr), PTs (X.blk s H scope (compEnvC scope cl Ca X.env) fp) ifs2 (tBs K T G C W0 cs2))
    (he : ∀ (s : Shared) (H : Hp) (Ca : Addr) (cl : List (Str × Addr)) (fp : List Addr), PE (X.blk s H scope (compEnvC scope cl Ca X.env) fp) elt (tE K T G C W0 elt'))
    (hsl : ∀ j ∈ t.slots, j ∈ own.map (·.2)) (hsl2 : ∀ j ∈ t2.slots, j ∈ own2) (hs : ∀ x, foldedSetIterable iter X.env x = pure x) (hs2 : ∀ env x, foldedSetIterable iter2 env x = pure x) :
    PS X (.Assign [.Name y py] (.ListComp elt [⟨tg, iter, ifs, 0⟩, ⟨tg2, iter2, ifs2, 0⟩] scope pos) spos) (tS K T G C W (.asg (.n i) (.comp2 elt' t it cs t2 it2 cs2 (own.map (·.2)) own2))) :=
  (ps_setLc2 hc hN hy hyl hsw hi ok hv hg ht hi2 hg2 ht2 he hs hs2).to fun D σ H ⟨w0, B, w, δ, st, e, Wl, h⟩ => by
    simp only [exec] at h
    exact lc2_read hsl hsl2 (tE_tN ⟨B, w, δ, st, Wl, AftO.expr e h fun d st1 w1 H1 e1 e2 W1 h1 v rv => h1 w1 _ H1 e2 (W1.setVal rv)⟩)
theorem sn_comp2 (hc : X.calm = true) (hN : X.N.Nodup) {elt tg iter tg2 iter2 : Expr} {ifs ifs2 : List Expr} {scope : Scope} {pos : Pos} {own : List (Str × Nat)} {own2 : List Nat} {elt' : E} {t t2 : Tg} {it it2 : I} {cs cs2 : Es}
    (hi : PI X tg iter (tIt K T G C W it)) (ok : BlkOk X.N X.env.scope scope own) (hv : ∀ i ∈ own2, i ∈ own.map (·.2))
    (hg : ∀ (s : Shared) (H : Hp) (Ca : Addr) (cl : List (Str × Addr)) (fp : List Addr), PG (X.blk s H scope (compEnvC scope cl Ca X.env) fp) tg (tG K T t))
    (ht : ∀ (s : Shared) (H : Hp) (Ca : Addr) (cl : List (Str × Addr)) (fp : List Addr), PTs (X.blk s H scope (compEnvC scope cl Ca X.env) fp) ifs (tBs K T G C W0 cs))
    (hi2 : ∀ (s : Shared) (H : Hp) (Ca : Addr) (cl : List (Str × Addr)) (fp : List Addr), PI (X.blk s H scope (compEnvC scope cl Ca X.env) fp) tg2 iter2 (tIt K T G C W0 it2))
    (hg2 : ∀ (s : Shared) (H : Hp) (Ca : Addr) (cl : List (Str × Addr)) (fp : List Addr), PG (X.blk s H scope (compEnvC scope cl Ca X.env) fp) tg2 (tG K T t2))
    (ht2 : ∀ (s : Shared) (H : Hp) (Ca : Addr) (cl : List (Str × Addr)) (fp : List Addr), PTs (X.blk s H scope (compEnvC scope cl Ca X.env) fp) ifs2 (tBs K T G C W0 cs2))
    (he : ∀ (s : Shared) (H : Hp) (Ca : Addr) (cl : List (Str × Addr)) (fp : List Addr), PE (X.blk s H scope (compEnvC scope cl Ca X.env) fp) elt (tE K T G C W0 elt'))
    (hsl : ∀ j ∈ t.slots, j ∈ own.map (·.2)) (hsl2 : ∀ j ∈ t2.slots, j ∈ own2) (hs : ∀ x, foldedSetIterable iter X.env x = pure x) (hs2 : ∀ env x, foldedSetIterable iter2 env x = pure x) :
    PE X (.ListComp elt [⟨tg, iter, ifs, 0⟩, ⟨tg2, iter2, ifs2, 0⟩] scope pos) (tN K T G C W (.comp2 elt' t it cs t2 it2 cs2 (own.map (·.2)) own2)) :=
  (pe_lc2 hc hN hi ok hv hg ht hi2 hg2 ht2 he hs hs2).to fun _ _ _ => lc2_read hsl hsl2

structure Ex0 (X : Cx) (T : Txc) (x : Str) (c : Cl) : Prop where
  q : PySem.W.excIn X.K (T.cl c) [.type "ValueError", .type "Exception", .type "BaseException", .type "object"] "ValueError.__new__" = true
  g : X.mg x = some (.ref (T.cl c))
  k : PySem.W.keepIn X.K (.ref (T.cl c)) = true
  b : PySem.W.subIn X.K (.ref (T.cl c)) (.type "BaseException") = some true
  t : PySem.W.typeIn X.K (.ref (T.cl c)) = some (.type "type")
theorem ps_raise0' (hc : X.calm = true) (tk : L2N.Takes X W) {x m : Str} {c : Cl} {j : Nat} {p p2 pos pos' : Pos} (F : Ex0 X T x c) (hg : Gl X x) (hd : (x == ("__debug__" : Str)) = false) (hn : ∀ ds, excFs c ds = []) :
    PS X (.Raise (some (.Call (.Name x p) [.Constant (.str m) j p2] [] pos)) none pos') (tS K T G C W (.raise c (.cons (.c (.str m)) .nil))) := by
  refine (L2N.ps_raise hc tk (L2N.pmk_own PySem.F.excBase_ValueError F.q F.g F.k (raises_own F.b F.t) hg hd)).to fun D σ H ⟨w0, B, w, δ, st, e, Wl, h⟩ => ?_
  simp only [exec, evalEs, evalE, R.bind, R.toO] at h
  exact h w σ H none e Wl (.inl ⟨hn _, rfl⟩)
def spExc (T : Txc) (c : Cl) (n : Nat) : Sp := fun vs H Q _ => vs.length = n + 1 ∧ ∃ a us H0, vs = .ref a :: us ∧ H0 a = none ∧ H = upd H0 a (exo a (T.cl c) none) ∧
  ∀ dx H2, H0 dx = none → dx ≠ a → H2 a = some (exo a (T.cl c) (some dx)) → H2 dx = some (exd dx ((T.flds c).zip us).reverse) → (∀ b, b ≠ a → b ≠ dx → H2 b = H0 b) → Q .non H2
structure Ex1 (X : Cx) (T : Txc) (x : Str) (c : Cl) (n : Nat) : Prop where
  o : OexC X.K (T.cl c)
  g : X.mg x = some (.ref (T.cl c))
  l : (T.flds c).length = n
  f : ∃ fI fd ps k, PySem.W.findIn X.K (.ref (T.cl c)) "__init__" = some (some (.ref fI)) ∧ PySem.W.typeIn X.K (.ref fI) = some (.type "function") ∧ FnOk X.prog X.w X.K X.mg X.base (L2N.CX X.prog X.w) k fI fd ps (spExc T c n) ∧ Room (k + 1) X.A ∧ Binds X.K fd ps []
theorem ps_raise1' (hc : X.calm = true) (tk : L2N.Takes X W) {x : Str} {c : Cl} {n : Nat} {e : Expr} {es : List Expr} {es' : Es} {p pos pos' : Pos} (F : Ex1 X T x c n) (hg : Gl X x) (hd : (x == ("__debug__" : Str)) = false) (hn : ∀ ds, excFs c ds = ds) (hl : es'.len = n) (hn5 : n ≤ 100)
    (ha : PA X (e :: es) (tAs K T G C W es')) (hp : ∀ y ∈ e :: es, ∀ a p, y ≠ .Starred a p) : PS X (.Raise (some (.Call (.Name x p) (e :: es) [] pos)) none pos') (tS K T G C W (.raise c es')) := by
  obtain ⟨fI, fd, ps, k, iC, tI, fo, hr, hb⟩ := F.f
  obtain ⟨h1, h2⟩ := es_plain (env := X.env) (pos := pos) hp
  have hx : Passes (L2N.CX X.prog X.w) X (fun _ _ _ => False) := fun _ _ _ _ _ _ _ ⟨_, _, _, _, _, _, _, _, _, _, _, _, z⟩ => z.elim
  refine (L2N.ps_raise hc tk (pmk_oexN F.o iC tI fo hr hb hx hg F.g ha hd h1 h2)).to fun D σ H ⟨w0, B, w, δ, st, e, Wl, h⟩ => as_then Wl ?_
  simp only [exec] at h
  refine AftO.expr e h fun ds st1 w1 H1 e1 e2 W1 h3 hlen vs rs => ⟨by rw [rs.length]; omega, fun a na => ?_⟩
  simp only [hn] at h3
  refine ⟨by simp [rs.length, hlen, hl], a, vs, H1, by simp, na, rfl, fun dx H2 nd ne ha hdx hb => ⟨rfl, dx, _, ha, hdx, nd, ?_⟩⟩
  have eH : upd (del H2 a) dx (.xd ((T.flds c).zip vs).reverse) = upd H1 dx (.xd ((T.flds c).zip vs).reverse) := by
    funext b
    by_cases hbd : b = dx
    · rw [hbd, upd_same, upd_same]
    · rw [upd_ne hbd, upd_ne hbd]
      by_cases hba : b = a
      · rw [hba, del_same, na]
      · rw [del_ne hba, hb b hba hbd]
  rw [eH]
  exact h3 w1 σ _ (some dx) (e2.trans (Ext.grow nd)) (W1.grow nd) (.inr ⟨dx, vs, back_none e2 nd, rfl, upd_same, by rw [hlen, hl, F.l]; exact Nat.le_refl _, rs⟩)
end
end Qk

set_option linter.all false
set_option maxHeartbeats 4000000
set_option maxRecDepth 100000
namespace Qk
open PySem L2

section
variable {K : PySem.W.Frag} {T T' : Txc} {w : Wd} {B H : Hp} {δ : Sls} {σ : St} {st : Sto}
mutual
theorem rep_tx (hc : T'.cl = T.cl) (hf : T'.flds = T.flds) : ∀ (d : D) (v : V), Rep K T w d v → Rep K T' w d v
  | .non, v, h => h
  | .bl _, v, h => h
  | .int _, v, h => h
  | .str _, v, h => h
  | .byt _, v, h => h
  | .tup ds, v, ⟨a, xs, h1, h2, h3⟩ => ⟨a, xs, h1, h2, reps_tx hc hf ds xs h3⟩
  | .ktup ds, v, ⟨a, o, xs, h1, h2, h4, h3⟩ => ⟨a, o, xs, h1, h2, h4, reps_tx hc hf ds xs h3⟩
  | .lst ds, v, ⟨a, xs, h1, h2, h3⟩ => ⟨a, xs, h1, h2, reps_tx hc hf ds xs h3⟩
  | .scr ds, v, ⟨a, xs, h1, h2, h3⟩ => ⟨a, xs, h1, h2, reps_tx hc hf ds xs h3⟩
  | .obj c ds, v, ⟨a, dx, xs, h1, h2, h3, h4⟩ => ⟨a, dx, xs, h1, by rw [hc, hf]; exact h2, by rw [hf]; exact h3, reps_tx hc hf ds xs h4⟩
  | .loc _, v, h => h
  | .dct _ _ ds, v, ⟨a, xs, h1, h2, h4, h5, h3⟩ => ⟨a, xs, h1, h2, h4, h5, reps_tx hc hf ds xs h3⟩
theorem reps_tx (hc : T'.cl = T.cl) (hf : T'.flds = T.flds) : ∀ (ds : List D) (xs : List V), Reps K T w ds xs → Reps K T' w ds xs
  | [], [], _ => trivial
  | d :: ds, x :: xs, h => ⟨rep_tx hc hf d x h.1, reps_tx hc hf ds xs h.2⟩
  | [], _ :: _, h => h.elim
  | _ :: _, [], h => h.elim
end
theorem repK_tx (hc : T'.cl = T.cl) (hf : T'.flds = T.flds) : ∀ (ps : List (Ky × D)) (qs : List (List Key × V)), RepK K T w ps qs → RepK K T' w ps qs
  | [], [], _ => trivial
  | p :: ps, q :: qs, h => ⟨h.1, rep_tx hc hf _ _ h.2.1, repK_tx hc hf ps qs h.2.2⟩
  | [], _ :: _, h => h.elim
  | _ :: _, [], h => h.elim
theorem repJ_tx (hc : T'.cl = T.cl) (hf : T'.flds = T.flds) : ∀ (ps : List (Ky × D)) (qs : List (Key × V)), RepJ K T w ps qs → RepJ K T' w ps qs
  | [], [], _ => trivial
  | p :: ps, q :: qs, h => ⟨h.1, rep_tx hc hf _ _ h.2.1, repJ_tx hc hf ps qs h.2.2⟩
  | [], _ :: _, h => h.elim
  | _ :: _, [], h => h.elim
theorem cell_tx (hc : T'.cl = T.cl) (hf : T'.flds = T.flds) {a : Addr} {m : M} (h : CellOk K T w H a m) : CellOk K T' w H a m := by
  obtain ⟨f, o, ho, r⟩ := h
  refine ⟨f, o, ho, ?_⟩
  cases m with
  | lst ds => obtain ⟨xs, e, rs⟩ := r; exact ⟨xs, e, reps_tx hc hf _ _ rs⟩
  | ins c ds => obtain ⟨dx, xs, e, l, rs⟩ := r; exact ⟨dx, xs, by rw [hc, hf]; exact e, by rw [hf]; exact l, reps_tx hc hf _ _ rs⟩
  | dct t kvs =>
    rcases r with ⟨t, q, e, r⟩ | ⟨t, q, e, r⟩
    · exact .inl ⟨t, q, e, repK_tx hc hf _ _ r⟩
    · exact .inr ⟨t, q, e, repJ_tx hc hf _ _ r⟩
theorem StOk.tx (hc : T'.cl = T.cl) (hf : T'.flds = T.flds) (h : StOk K T w st H) : StOk K T' w st H := ⟨h.same, h.len, h.nd, fun l m a h1 h2 => cell_tx hc hf (h.cell l m a h1 h2)⟩
theorem World.tx (hc : T'.cl = T.cl) (hf : T'.flds = T.flds) (Wl : World K T B w δ st σ H) (hx : ∀ (i : Nat) c ds, δ[i]? = some (.exo c ds) → ∀ x, T'.ex = some x → ExoR K T' w x c ds σ[i]?) : World K T' B w δ st σ H := by
  refine ⟨Wl.st.tx hc hf, Wl.len, fun i s h => ?_, Wl.dis⟩
  have q := Wl.sl i s h
  cases s with
  | un => trivial
  | val d =>
    obtain ⟨v, h1, h2⟩ := q
    exact ⟨v, h1, rep_tx hc hf _ _ h2⟩
  | own m =>
    obtain ⟨a, h1, h2, h3, h4⟩ := q
    exact ⟨a, h1, h2, h3, cell_tx hc hf h4⟩
  | exo c ds => exact hx i c ds h
theorem World.unX (Wl : World K T B w δ st σ H) : World K T B w (δ.map Sl.unX) st σ H := by
  have un : ∀ {x : Sl} {m : M}, x.unX = .own m → x = .own m := fun {x m} h => by cases x <;> first | exact h | cases h
  refine ⟨Wl.st, by rw [List.length_map]; exact Wl.len, fun i x h => ?_, fun i j m m' a h1 h2 h3 h4 => ?_⟩
  · rw [List.getElem?_map] at h
    cases e : δ[i]? with
    | none => rw [e] at h; cases h
    | some y =>
      rw [e] at h
      cases h
      have q := Wl.sl i y e
      cases y with
      | exo _ _ => trivial
      | un => exact q
      | val _ => exact q
      | own _ => exact q
  · rw [List.getElem?_map] at h1 h2
    cases e1 : δ[i]? with
    | none => rw [e1] at h1; cases h1
    | some x =>
      cases e2 : δ[j]? with
      | none => rw [e2] at h2; cases h2
      | some y =>
        rw [e1] at h1
        rw [e2] at h2
        exact Wl.dis i j m m' a (by rw [e1, un (Option.some.inj h1)]) (by rw [e2, un (Option.some.inj h2)]) h3 h4
theorem unX_no {i : Nat} {c : Cl} {ds : List D} : (δ.map Sl.unX)[i]? ≠ some (.exo c ds) := fun h => by
  rw [List.getElem?_map] at h
  cases e : δ[i]? with
  | none => rw [e] at h; cases h
  | some x => rw [e] at h; cases x <;> cases h
theorem World.drop (Wl : World K T B w δ st σ H) (i : Nat) : World K T B w (δ.set i .un) st (σ.set i none) H := by
  have len := Wl.len
  have oth : ∀ {j : Nat} {x : Sl}, (δ.set i .un)[j]? = some x → x = .un ∨ (δ[j]? = some x ∧ (σ.set i none)[j]? = σ[j]?) := fun {j x} h => by
    rw [getElem?_set_cases] at h
    split at h
    · cases h; exact .inl rfl
    · rename_i c
      refine .inr ⟨h, ?_⟩
      rw [getElem?_set_cases, len, if_neg c]
  refine ⟨Wl.st, by rw [List.length_set, List.length_set]; exact len, fun j x h => ?_, fun j k m m' a h1 h2 h3 h4 => ?_⟩
  · rcases oth h with rfl | ⟨h, e⟩
    · trivial
    · rw [e]; exact Wl.sl j x h
  · rcases oth h1 with z | ⟨g1, e1⟩
    · cases z
    · rcases oth h2 with z | ⟨g2, e2⟩
      · cases z
      · rw [e1] at h3
        rw [e2] at h4
        exact Wl.dis j k m m' a g1 g2 h3 h4
theorem World.catch (Wl : World K T B w δ st σ H) {w0 : Wd} (e0 : Ext w0 B w H) {c : Cl} {ds : List D} {dx : Option Addr} (x : ExR K T w c ds dx B H) :
    ∃ w1, Ext w0 B w1 H ∧ World K T B w1 δ st σ H ∧ ExR K T w1 c ds dx B H ∧ ((ds = [] ∧ dx = none) ∨ ∃ dd xs, dx = some dd ∧ w1.F dd = some (.xd (((T.flds c).zip xs).reverse)) ∧ ds.length ≤ (T.flds c).length ∧ Reps K T w1 ds xs) := by
  rcases x with x | ⟨dd, xs, n, e, h, l, rs⟩
  · exact ⟨w, e0, Wl, .inl x, .inl x⟩
  · cases hF : w.F dd with
    | some u =>
      have := Wl.st.same dd u hF
      rw [h] at this
      cases this
      exact ⟨w, e0, Wl, .inr ⟨dd, xs, n, e, h, l, rs⟩, .inr ⟨dd, xs, e, hF, l, rs⟩⟩
    | none =>
      have no : ∀ {m : M} {a : Addr}, CellOk K T w H a m → a ≠ dd := fun {m a} ⟨_, o, ho, r⟩ z => by
        subst z
        rw [h] at ho
        cases ho
        cases m with
        | lst _ => obtain ⟨_, z, _⟩ := r; cases z
        | ins _ _ => obtain ⟨_, _, z, _⟩ := r; cases z
        | dct _ _ => rcases r with ⟨_, _, z, _⟩ | ⟨_, _, z, _⟩ <;> cases z
      have ni : dd ∉ w.ι := fun m => by
        obtain ⟨k, hk, e⟩ := List.getElem_of_mem m
        have h2 : w.ι[k]? = some dd := by rw [List.getElem?_eq_getElem hk, e]
        have h3 : k < st.length := by rw [← Wl.st.len]; exact hk
        exact no (Wl.st.cell k st[k] dd (by rw [List.getElem?_eq_getElem h3]) h2) rfl
      refine ⟨w.put dd (.xd (((T.flds c).zip xs).reverse)), e0.frz n hF, Wl.freeze h hF ni (fun i m hi q => ?_), .inr ⟨dd, xs, n, e, h, l, rs.up (Up.put hF)⟩, .inr ⟨dd, xs, e, upd_same, l, rs.up (Up.put hF)⟩⟩
      obtain ⟨a, h1, _, _, h4⟩ := Wl.sl i _ hi
      rw [h1] at q
      cases q
      exact no h4 rfl
end

theorem World.setX {K : PySem.W.Frag} {T : Txc} {w : Wd} {B H : Hp} {δ : Sls} {σ : St} {st : Sto} (hT : T.ex = none) (Wl : World K T B w δ st σ H) (i : Nat) (c : Cl) (ds : List D) (a : Addr) : World K T B w (δ.set i (.exo c ds)) st (σ.set i (some (.ref a))) H := by
  have len := Wl.len
  have oth : ∀ {j : Nat} {x : Sl}, (δ.set i (.exo c ds))[j]? = some x → x = .exo c ds ∨ (δ[j]? = some x ∧ (σ.set i (some (.ref a)))[j]? = σ[j]?) := fun {j x} h => by
    rw [getElem?_set_cases] at h
    split at h
    · cases h; exact .inl rfl
    · rename_i c
      refine .inr ⟨h, ?_⟩
      rw [getElem?_set_cases, len, if_neg c]
  refine ⟨Wl.st, by rw [List.length_set, List.length_set]; exact len, fun j x h => ?_, fun j k m m' b h1 h2 h3 h4 => ?_⟩
  · rcases oth h with rfl | ⟨h, e⟩
    · exact fun x hx => by rw [hT] at hx; cases hx
    · rw [e]; exact Wl.sl j x h
  · rcases oth h1 with z | ⟨g1, e1⟩
    · cases z
    · rcases oth h2 with z | ⟨g2, e2⟩
      · cases z
      · rw [e1] at h3
        rw [e2] at h4
        exact Wl.dis j k m m' b g1 g2 h3 h4
section
variable {K : PySem.W.Frag} {T : Txc} {G : List Fn} {C : List Int} {W : WX} {X : Cx}
def Txc.at_ (T : Txc) (a : Addr) (cls : Value) (d : Option Addr) : Txc := { T with ex := some (a, d, cls) }
abbrev noX : WX := fun _ _ _ _ => False
def Hs.wish (K : PySem.W.Frag) (T : Txc) (G : List Fn) (C : List Int) : Hs → List Clause
  | .nil => []
  | .cons c _ i b hs => (.ref (T.cl c), i, fun a cls d => tSs K (T.at_ a cls d) G C noX b) :: hs.wish K T G C
def ExmOk (K : PySem.W.Frag) (T : Txc) : Hs → Prop
  | .nil => True
  | .cons c' ks _ _ hs => (∀ c ∈ ks, PySem.W.exmOne K (.ref (T.cl c)) (.ref (T.cl c')) = some (catches c' c)) ∧ ExmOk K T hs
theorem wish_ok (hT : T.ex = none) {w0 w : Wd} {B H : Hp} {D : Ends} {c : Cl} {ds : List Qk.D} {δ : Sls} {σ : St} {st : Sto} {dx : Option Addr} (e0 : Ext w0 B w H) (Wl : World K T B w δ st σ H) (x : ExR K T w c ds dx B H)
    (fz : (ds = [] ∧ dx = none) ∨ ∃ dd xs, dx = some dd ∧ w.F dd = some (.xd (((T.flds c).zip xs).reverse)) ∧ ds.length ≤ (T.flds c).length ∧ Reps K T w ds xs) : ∀ {hs : Hs}, ExmOk K T hs → AftO K T W w0 B (execH G C hs c ds δ st) D → wGen K W D (hs.wish K T G C) (.ref (T.cl c)) dx σ H
  | .nil, _, h => by
    simp only [execH] at h
    exact h w σ H dx e0 Wl x
  | .cons c' ks i b hs, hx, h => by
    simp only [execH] at h
    by_cases hk : c ∈ ks
    · rw [if_neg (fun z => z hk)] at h
      refine ⟨catches c' c, hx.1 c hk, fun hb a ha => ?_, fun hb => ?_⟩
      · rw [hb] at h
        simp only at h
        have hv : ∀ {δ2 : Sls} {w2 : Wd} {st2 : Sto} {σ2 : St} {H2 : Hp}, World K (T.at_ a (.ref (T.cl c)) dx) B w2 δ2 st2 σ2 H2 → World K T B w2 δ2 st2 σ2 H2 := fun Wl => Wl.tx (T := T.at_ a (.ref (T.cl c)) dx) (T' := T) rfl rfl (fun _ _ _ _ x hx => by rw [hT] at hx; cases hx)
        cases i with
        | none =>
          refine ⟨w0, B, w, δ.map Sl.unX, st, e0, Wl.unX.tx (T := T) (T' := T.at_ a (.ref (T.cl c)) dx) rfl rfl (fun i c ds h => absurd h unX_no), ?_⟩
          simp only at h
          cases er : execs G C b (δ.map Sl.unX) st with
          | nx δ2 st2 => rw [er] at h; exact fun w2 σ2 H2 e2 W2 => h w2 σ2 H2 e2 (hv W2)
          | brk δ2 st2 => rw [er] at h; exact fun w2 σ2 H2 e2 W2 => h w2 σ2 H2 e2 (hv W2)
          | cnt δ2 st2 => rw [er] at h; exact fun w2 σ2 H2 e2 W2 => h w2 σ2 H2 e2 (hv W2)
          | ret d st2 => rw [er] at h; exact fun w2 H2 v e2 so rv => h w2 H2 v e2 (so.tx (T := T.at_ a (.ref (T.cl c)) dx) (T' := T) rfl rfl) (rep_tx (T' := T) (T := T.at_ a (.ref (T.cl c)) dx) rfl rfl _ _ rv)
          | exc c es δ2 st2 => rw [er] at h; exact h.elim
          | stuck => rw [er] at h; exact h.elim
        | some j =>
          refine ⟨w0, B, w, (δ.map Sl.unX).set j (.exo c ds), st, e0, (World.setX hT Wl.unX j c ds a).tx (T := T) (T' := T.at_ a (.ref (T.cl c)) dx) rfl rfl (fun i c2 ds2 hi x hx => ?_), ?_⟩
          · cases hx
            have len : (δ.map Sl.unX).length = σ.length := by rw [List.length_map]; exact Wl.len.symm
            rw [getElem?_set_cases] at hi
            split at hi
            · rename_i cc
              cases hi
              refine ⟨?_, rfl, ?_⟩
              · show (σ.set j (some (.ref a)))[i]? = _
                rw [getElem?_set_cases, if_pos ⟨cc.1, by rw [← len]; exact cc.2⟩]
              · exact fz.imp id fun ⟨dd, xs, q1, q2, q3, q4⟩ => ⟨dd, xs, q1, q2, q3, reps_tx (T' := T.at_ a (.ref (T.cl c)) dx) (T := T) rfl rfl _ _ q4⟩
            · exact absurd hi unX_no
          · simp only at h
            cases er : execs G C b ((δ.map Sl.unX).set j (.exo c ds)) st with
            | nx δ2 st2 => rw [er] at h; exact fun w2 σ2 H2 e2 W2 => h w2 _ H2 e2 ((hv W2).drop j)
            | brk δ2 st2 => rw [er] at h; exact fun w2 σ2 H2 e2 W2 => h w2 _ H2 e2 ((hv W2).drop j)
            | cnt δ2 st2 => rw [er] at h; exact fun w2 σ2 H2 e2 W2 => h w2 _ H2 e2 ((hv W2).drop j)
            | ret d st2 => rw [er] at h; exact fun w2 H2 v e2 so rv => h w2 H2 v e2 (so.tx (T := T.at_ a (.ref (T.cl c)) dx) (T' := T) rfl rfl) (rep_tx (T' := T) (T := T.at_ a (.ref (T.cl c)) dx) rfl rfl _ _ rv)
            | exc c es δ2 st2 => rw [er] at h; exact h.elim
            | stuck => rw [er] at h; exact h.elim
      · rw [hb] at h
        exact wish_ok hT e0 Wl x fz hx.2 h
    · rw [if_pos hk] at h
      exact h.elim
theorem ps_try' (hT : T.ex = none) (hs : X.stack = X.env :: X.outer) (hf : X.env.frame = some X.env.locals) (hN : X.N.Nodup) (hK : X.K = K) (tk : L2N.Takes X W) {body : List Stmt} {h₀ : ExceptHandler} {hds : List ExceptHandler} {pos : Pos} {b : Ss} {h' : Hs} (exm : ExmOk K T h')
    (hb : ∀ (W' : WX) (pn : List (Addr × Obj)) (xe : Value → Shared → Prop), L2N.Takes (X.tr pn xe) W' → PassesOwn (model X.prog X.w) X.A X.env xe → PSs (X.tr pn xe) body (tSs K T G C W' b))
    (hh : HdG X (h₀ :: hds) (h'.wish K T G C)) : PS X (.Try body (h₀ :: hds) [] [] pos) (tS K T G C W (.tryc b h')) := by
  subst hK
  refine (ps_try_gen hs hf hN tk hb hh).to fun D σ H ⟨w0, B, w, δ, st, e, Wl, h⟩ => ?_
  simp only [exec] at h
  refine ⟨w0, B, w, δ, st, e, Wl, ?_⟩
  cases er : execs G C b δ st with
  | nx δ2 st2 => rw [er] at h; exact h
  | brk δ2 st2 => rw [er] at h; exact h
  | cnt δ2 st2 => rw [er] at h; exact h
  | ret d st2 => rw [er] at h; exact h
  | stuck => rw [er] at h; exact h
  | exc c es δ2 st2 =>
    rw [er] at h
    intro w2 σ2 H2 dx e2 W2 x
    obtain ⟨w3, e3, W3, x3, fz⟩ := W2.catch e2 x
    exact wish_ok hT e3 W3 x3 fz exm h
end
end Qk

set_option linter.all false
set_option maxHeartbeats 4000000
set_option maxRecDepth 100000
namespace Qk
open PySem L2

structure XcF (K : PySem.W.Frag) (T : Txc) (c : Cl) : Prop where
  x : ExcC K (T.cl c)
  ty : PySem.W.typeIn K (.ref (T.cl c)) = some (.type "type")
  ve : PySem.W.subIn K (.ref (T.cl c)) (.type "ValueError") = some true
  no : ∀ f ∈ T.flds c, PySem.W.findIn K (.ref (T.cl c)) f = some none
theorem XcF.xf {K : PySem.W.Frag} {T : Txc} {c : Cl} (h : XcF K T c) : XfC K (T.cl c) := ⟨h.x.hg, h.x.hk, h.x.hs, h.x.hd⟩
def XpF (K : PySem.W.Frag) (T : Txc) (c c' : Cl) : Prop := PySem.W.subIn K (.ref (T.cl c)) (.ref (T.cl c')) = some (catches c' c)
section
variable {K : PySem.W.Frag} {T : Txc} {G : List Fn} {C : List Int} {W : WX}
theorem exm_of {c c' : Cl} (h : XcF K T c') (p : XpF K T c c') : PySem.W.exmOne K (.ref (T.cl c)) (.ref (T.cl c')) = some (catches c' c) := PySem.W.exm_ref h.x.hs h.x.hd h.ty p
theorem catches_self (c : Cl) : catches c c = true := by unfold catches; simp
theorem kit_pair {c c' : Cl} (h : XcF K T c') (p : XpF K T c c') (q : XpF K T c c) : PySem.W.kitOne K (.ref (T.cl c)) (.ref (T.cl c')) = some (catches c' c) := by
  unfold PySem.W.kitOne PySem.W.kitCls
  by_cases e : (Value.ref (T.cl c) == Value.ref (T.cl c')) = true
  · rw [if_pos e]
    have e' : T.cl c = T.cl c' := Value.ref.inj (beq_iff_eq.mp e)
    have p' : PySem.W.subIn K (.ref (T.cl c)) (.ref (T.cl c')) = some (catches c' c) := p
    rw [← e'] at p'
    have q' : PySem.W.subIn K (.ref (T.cl c)) (.ref (T.cl c)) = some (catches c c) := q
    rw [q', catches_self] at p'
    exact p'
  · rw [if_neg e]
    have hcl : (PySem.W.clsIn K (T.cl c')).isSome = true := by
      have := h.x.hd
      unfold PySem.W.hasDictIn at this
      cases e : PySem.W.clsIn K (T.cl c') with
      | none => rw [e] at this; cases this
      | some _ => rfl
    simp only [hcl, h.ty, beq_self_eq_true, Bool.and_self, if_true]
    exact p
theorem kit_ve {c : Cl} (h : XcF K T c) : PySem.W.kitOne K (.ref (T.cl c)) (.type "ValueError") = some true := by
  unfold PySem.W.kitOne PySem.W.kitCls
  have ne : ¬ ((Value.ref (T.cl c) == Value.type "ValueError") = true) := fun h => by cases (beq_iff_eq.mp h)
  have hm : PySem.W.kitMeta "ValueError" = true := by decide +kernel
  rw [if_neg ne]
  simp only [hm, if_true]
  exact h.ve
open PySem.W in
theorem kitx_exc {x D : Addr} {ox : Obj} {od : Option Obj} (c : ExcC K D) : KitX K (.ref x) (.ref D) (fun h => InstAt h x ox D od) where
  ty := fun _ _ _ I => I.type
  it := fun _ _ X _ => by
    obtain ⟨cdD, hcD, _⟩ := any_some c.hd
    unfold clsIn at hcD
    split at hcD
    · rename_i c' d' cd' sl' ho
      intro A' Q' E' s' k q
      unfold isType loadHead
      exact wpAny_bind (wpAny_loadPart (k _ _ (X _ _ ho)) (wpAny_pure q))
    · cases hcD
  ne := fun h tp dd its n sl X htp => by
    obtain ⟨cdD, hcD, _⟩ := any_some c.hd
    refine Bool.eq_false_iff.mpr fun q => ?_
    have e : D = tp := Value.ref.inj (beq_iff_eq.mp q)
    subst e
    unfold clsIn at hcD
    split at hcD
    · rename_i c' d' cd' sl' ho
      have z := (X _ _ ho).symm.trans htp
      cases z
    · cases hcD
  ca := fun X I k => kx_classE X I c.hg c.hk c.hs (findObj_dataE (by obtain ⟨cd, hc, _⟩ := any_some c.hd; rw [hc]; rfl) c.ha c.hn c.ht) c.hm k
def rIsX (K : PySem.W.Frag) (D a : Addr) (d : Option Addr) : List V → Hp → VK → Prop := fun xs H Q => ∃ (c : V) (cv : Value) (b : Bool), xs = [.ref a, c] ∧ (∀ u, RelV c u → u = cv) ∧ PySem.W.kitOne K (.ref D) cv = some b ∧ (d = none ∨ ∃ dd fs, d = some dd ∧ H dd = some (.xd fs)) ∧ Q (.bl b) H
theorem call_isX {X : Cx} {a D : Addr} {oe : Obj} {d : Option Addr} {pn : List (Addr × Obj)} (C : ExcC X.K D) (hz : Zc (.ref D) d oe) (hf : ∃ vs, oe.data = .fields vs) : CallR (X.suite a ((a, oe) :: pn)) (.builtin "isinstance") (rIsX X.K D a d) := by
  intro pins s σ H xs us Q I r h
  obtain ⟨c, cv, b, rfl, hcv, e, hd, q⟩ := h
  cases r with
  | cons rx rr =>
    cases rr with
    | cons rt rr =>
      cases rr
      cases rx
      have ec := hcv _ rt
      subst ec
      obtain ⟨hget, _⟩ := I.pin (a, oe) (List.mem_append.mpr (.inl List.mem_cons_self))
      obtain ⟨vs, hv⟩ := hf
      have J : ∃ od, PySem.W.InstAt s.heap a oe D od := by
        rcases hd with hd | ⟨dd, fs, hd, ea⟩
        · subst hd
          exact ⟨none, hget, hz.1, by unfold PySem.W.notCls; rw [hv] <;> rfl, by rw [hz.2]; trivial⟩
        · subst hd
          obtain ⟨mA, hns, hr⟩ := (show ObjOk X.prog X.w H s.heap dd (.xd fs) from I.hok dd _ ea)
          obtain ⟨od, ho, hl⟩ := lookIn_ns hns
          exact ⟨some od, hget, hz.1, by unfold PySem.W.notCls; rw [hv] <;> rfl, by rw [hz.2]; exact ho⟩
      obtain ⟨od, J⟩ := J
      exact PySem.W.kia_one (kitx_exc C) I.kIn J e (fun z => nomatch z) fun tk => ⟨.bl b, H, I.kept (t' := tk) fun _ _ z => z, rfl, q⟩
theorem lookup_mem {f : Str} {v : V} : ∀ {l : List (Str × V)}, (l.map (·.1)).Nodup → (f, v) ∈ l → l.lookup f = some v
  | [], _, h => by cases h
  | p :: l, nd, h => by
    rw [List.map_cons, List.nodup_cons] at nd
    rcases List.mem_cons.mp h with e | h
    · subst e; simp
    · have : f ≠ p.1 := fun e => nd.1 (List.mem_map.mpr ⟨_, h, e⟩)
      rw [List.lookup_cons]
      have : (f == p.1) = false := by simpa using this
      rw [this]
      exact lookup_mem nd.2 h
theorem zip_fst : ∀ {ns : List Str} {xs : List V}, ((ns.zip xs).map (·.1)).Sublist ns
  | [], _ => by simp
  | _ :: _, [] => by simp
  | n :: ns, x :: xs => by simpa using zip_fst
theorem zip_rev {ns : List Str} {xs : List V} {k : Nat} {f : Str} {v : V} (nd : ns.Nodup) (h1 : ns[k]? = some f) (h2 : xs[k]? = some v) : ((ns.zip xs).reverse).lookup f = some v := by
  refine lookup_mem ?_ (List.mem_reverse.mpr (List.mem_of_getElem? (i := k) ?_))
  · rw [List.map_reverse]
    exact (List.reverse_perm _).nodup_iff.mpr (zip_fst.nodup nd)
  · rw [List.getElem?_zip_eq_some]
    exact ⟨h1, h2⟩
variable {X : Cx} {a : Addr} {oe : Obj} {cls : Value} {d : Option Addr} {pn : List (Addr × Obj)}
theorem World.exoAt {B H : Hp} {w : Wd} {δ : Sls} {st : Sto} {σ : L2.St} (hT : T.ex = some (a, d, cls)) (Wl : World K T B w δ st σ H) {i : Nat} {c : Cl} {ds : List D} (h : δ[i]? = some (.exo c ds)) : σ[i]? = some (some (.ref a)) ∧ cls = .ref (T.cl c) ∧
    ((ds = [] ∧ d = none) ∨ ∃ dd xs, d = some dd ∧ H dd = some (.xd (((T.flds c).zip xs).reverse)) ∧ Reps K T w ds xs) := by
  obtain ⟨h1, h2, h3⟩ := Wl.sl i _ h _ hT
  exact ⟨h1, h2, h3.imp id fun ⟨dd, xs, a, b, _, r⟩ => ⟨dd, xs, a, Wl.st.same _ _ b, r⟩⟩
theorem se_xfl (hK : X.K = K) (hT : T.ex = some (a, d, cls)) (hz : Zc cls d oe) (hf : ∃ vs, oe.data = .fields vs) {y f : Str} {i k : Nat} {c : Cl} {p pos : Pos} (F : XcF K T c) (hk : (T.flds c)[k]? = some f) (nd : (T.flds c).Nodup) (hN : X.N[i]? = some y) (hv : Vis X.env.scope y) (h1 : (y == ("__debug__" : Str)) = false) (h2 : (y == ("__classdict__" : Str)) = false) :
    PE (X.suite a ((a, oe) :: pn)) (.Attribute (.Name y p) f pos) (tE K T G C W (.xfl i c k)) := by
  subst hK
  refine (pe_xf F.xf (F.no f (List.mem_of_getElem? hk)) hz hf (pe_var (X := X.suite a ((a, oe) :: pn)) hN hv h1 h2) (base_plain rfl)).to fun σ H Q ⟨B, w, δ, st, Wl, h⟩ => ?_
  simp only [evalE] at h
  split at h
  · rename_i c' ds e
    split at h
    · rename_i ec
      subst ec
      obtain ⟨q1, q2, q3⟩ := Wl.exoAt hT e
      split at h
      · rename_i dv ed
        rcases q3 with ⟨q3, _⟩ | ⟨dd, xs, q3, q4, q5⟩
        · subst q3; cases ed
        · obtain ⟨v, hv, rv⟩ := q5.get ed
          exact ⟨.ref a, q1, rfl, q2, dd, _, v, q3, q4, zip_rev nd hk hv, h.ok Wl v rv⟩
      · exact h.elim
    · exact h.elim
  · exact h.elim
def Xt.val_ (T : Txc) : Xt → Value
  | .val => .type "ValueError"
  | .cls c => .ref (T.cl c)
def Xt.v_ (T : Txc) : Xt → V
  | .val => .ty "ValueError"
  | .cls c => .ref (T.cl c)
theorem se_xis (hK : X.K = K) (hT : T.ex = some (a, d, cls)) (hz : Zc cls d oe) (hf : ∃ vs, oe.data = .fields vs) {y : Str} {i : Nat} {ks : List Cl} {t : Xt} {ce : Expr} {p p2 pos : Pos} (F : ∀ c ∈ ks, XcF K T c) (kt : ∀ c ∈ ks, PySem.W.kitOne K (.ref (T.cl c)) (t.val_ T) = some (xtIs t c))
    (hg : Gl X "isinstance") (hm : X.mg "isinstance" = none) (hc : PE (X.suite a ((a, oe) :: pn)) ce (tC (t.v_ T))) (hs : ∀ a p, ce ≠ .Starred a p) (hN : X.N[i]? = some y) (hv : Vis X.env.scope y) (h1 : (y == ("__debug__" : Str)) = false) (h2 : (y == ("__classdict__" : Str)) = false) :
    PE (X.suite a ((a, oe) :: pn)) (.Call (.Name "isinstance" p2) [.Name y p, ce] [] pos) (tE K T G C W (.xis i ks t)) := by
  subst hK
  refine ⟨fun pins s σ H Q I ⟨B, w, δ, st, Wl, h⟩ => ?_⟩
  simp only [evalE] at h
  split at h
  · rename_i c ds e
    split at h
    · rename_i hk
      obtain ⟨q1, q2, q3⟩ := Wl.exoAt hT e
      subst q2
      have hh : ∀ y' ∈ [(Expr.Name y p), ce], ∀ a p, y' ≠ .Starred a p := fun y' hy => by
        rcases List.mem_cons.mp hy with e | hy
        · rw [e]; exact fun _ _ z => by cases z
        · rw [List.mem_singleton.mp hy]; exact hs
      obtain ⟨g1, g2⟩ := es_plain (env := X.env) (pos := pos) hh
      have g3 : starEach [ce] X.env = (false, eval ce X.env) :: starEach [] X.env := by
        cases ce <;> first | rfl | exact absurd rfl (hs _ _)
      refine (pe_callB (X := X.suite a ((a, oe) :: pn)) (call_isX (F c hk).x hz hf) hg hm (by decide +kernel) (pa_cons (pe_var (X := X.suite a ((a, oe) :: pn)) hN hv h1 h2) (pa_cons hc pa_nil g3) g1) (by decide) (by decide) g1 g2).run pins s σ H Q I ?_
      refine ⟨.ref a, q1, ?_⟩
      refine ⟨t.v_ T, t.val_ T, xtIs t c, rfl, fun u hu => ?_, kt c hk, q3.imp (·.2) fun ⟨dd, xs, a, b, _⟩ => ⟨dd, _, a, b⟩, h.ok Wl _ rfl⟩
      cases t <;> exact hu
    · exact h.elim
  · exact h.elim
end
end Qk

set_option linter.all false
set_option maxHeartbeats 2000000
set_option maxRecDepth 100000
namespace Qk
open PySem L2

section
variable {K : PySem.W.Frag} {T : Txc} {G : List Fn} {C : List Int} {W : WX} {X : Cx} {w0 w w' : Wd} {B H H' : Hp} {δ : Sls} {σ : St} {st st' : Sto} {D : Ends}
theorem iop_own {pins : List (Addr × Obj)} {s : Shared} {k : Nat} {f Ca a dx : Addr} {fd : FuncData} {ps : List Str} {sp : Sp} {fs : List (Str × V)} {v : V} {u : Value} {Q : VK} {E : XK} (op : Operator) (hc : PySem.W.selfFirst X.K Ca = true)
    (Dn : Dun X.K Ca (dunderI op.info.2) f) (F : FnOk X.prog X.w X.K X.mg X.base (L2N.CX X.prog X.w) k f fd ps sp) (hr : Room k X.A) (hb : Binds X.K fd ps []) (hx : PassesAt (L2N.CX X.prog X.w) X σ E)
    (I : Inv X pins σ H s) (e : H a = some (.ins Ca dx fs)) (rv : RelV v u) (q : sp [.ref a, v] H Q E) : wpAny (model X.prog X.w) X.A (inplaceOp op (.ref a) u) (EP X pins σ Q) X.xe s := by
  obtain ⟨ox, od, J⟩ := inst_of I e
  obtain ⟨m, hF⟩ := I.fr
  refine PySem.W.ksp_inplace hF I.ok.mod.kin J hc Dn.at_ Dn.fn (wpAny_mono (run_fnS (E := fun _ => E) (us := [.ref a, u]) (vs := [.ref a, v]) F hr hb hx I (.cons rfl (.cons rv .nil)) q) (fun z s' hz => ?_) fun _ _ z => z)
  obtain ⟨y, H', I', ry, q'⟩ := hz
  exact notImp ry _ ⟨y, H', I', ry, q'⟩
theorem ps_iop' (hK : X.K = K) (tk : L2N.Takes X W) {i f n : Nat} {c : Cl} {F : Fn} {x : Str} {y : Expr} {y' : E} {o : Bo} {pos pos' : Pos} (hN : X.N.Nodup) (hi : X.N[i]? = some x) (hx : Loc X.env.scope x) (hfn : X.fn x = true ∨ X.env.scope.names.lookup x = some .local)
    (ff : DunF X T c (dunderI o.py.info.2) 2 F) (hf : G[f]? = some F) (he : PE X y (tE K T G C W y')) : PS X (.AugAssign (.Name x pos') o.py y pos) (tS K T G C W (.iop i f c o y')) := by
  subst hK
  obtain ⟨g, fd, ps, k, hD, hself, fo, hr, hb⟩ := ff
  have hr0 : Room k X.A := hr.mono (by omega)
  refine ⟨fun pins s σ H D I ⟨w0, B, w, δ, st, e, Wl, h⟩ => ?_⟩
  simp only [exec] at h
  split at h
  · rename_i d ei
    obtain ⟨v, hv, rv⟩ := Wl.sl i _ ei
    have hA : tE X.K T G C W y' σ H (fun z H1 => ∃ a dx fs, v = .ref a ∧ H1 a = some (.ins (T.cl c) dx fs) ∧ spOf X.K T 2 F [.ref a, z] H1 (fun r H2 => D.nx (σ.set i (some r)) H2) (WE W σ)) := by
      refine ⟨B, w, δ, st, Wl, AftO.expr e h fun d1 st1 w1 H1 e1 e2 W1 h1 z rz => ?_⟩
      cases hi1 : insOf st1 c (.d d) with
      | none => simp only [hi1] at h1; exact h1.elim
      | some es =>
        simp only [hi1, hf] at h1
        have rv1 : Rep X.K T w1 d v := rv.up e1.up
        obtain ⟨a, dx, fs, ea, q⟩ := W1.insAt (p := .d d) rv1 hi1
        subst ea
        exact ⟨a, dx, _, rfl, q.1, sp_call (ds := [d, d1]) rfl W1 ⟨rv1, rz, trivial⟩ (AftO.expr e2 h1 fun r st2 w2 H2 e3 e4 W2 h2 u ru => h2 w2 _ H2 e4 (W2.setVal ru))⟩
    obtain ⟨m, hn, hl⟩ := I.loc
    have vis : Vis X.env.scope x := hx.elim .inl fun z => .inr (.inl z)
    obtain ⟨u, r, l⟩ := hl i x v hi hv vis
    have body : wpAny (model X.prog X.w) X.A (eval y X.env) (fun b s2 => wpAny (model X.prog X.w) X.A (inplaceOp o.py u b) (fun r s3 => wpAny (model X.prog X.w) X.A (storeName X.env x r) (fun _ => SP X pins D .next) X.xe s3) X.xe s2) X.xe s := by
      refine thn (he.run pins s σ H _ I hA) fun b s1 ⟨z, H1, I1, r1, a, dx, fs, ea, eH, q⟩ => ?_
      subst ea
      cases r
      refine thn (iop_own o.py hself hD fo hr0 hb (L2N.passAt tk σ) I1 eH r1 q) fun r2 s2 ⟨rv2, H2, I2, rr, q2⟩ => ?_
      exact store_ok I2 hN hi hx rr (fun s3 I3 => ⟨_, H2, I3, q2⟩) hfn
    refine wpAny_AugAssign_Name ?_
    rcases l with ⟨hk, hm⟩ | ⟨hk, cc, hc, hcell⟩
    · exact wpAny_loadName_local I.ok.kind hk hn hm body
    · have hk' : X.env.scope.names.lookup x = some .cell := hk.elim id fun z => by
        have z' : X.env.scope.names.lookup x = some .free := z
        rcases hx with k1 | k1 <;> (rw [k1] at z'; cases z')
      exact wpAny_loadName_cell I.ok.kind hk' hc hcell body
  · exact h.elim
end
end Qk

set_option linter.all false
set_option maxHeartbeats 4000000
set_option maxRecDepth 100000
namespace Qk
open PySem L2 L2H

def fldsOf : Cl → List Str
  | .Table => ["rows", "states", "operations", "reached", "kinds"]
  | .Relation => ["pairs"]
  | .Log => ["entries"]
  | .Sizes => ["table", "site_count", "read_sizes", "write_sizes"]
  | .Sites => ["logs", "down_sites"]
  | .Before => ["down_sites", "outer"]
  | .Outage => ["sites", "down", "before"]
  | .Cluster => ["table", "read_sizes", "write_sizes", "sites", "done"]
  | .Decision => ["holds", "rows", "history"]
  | .UnknownOperation => ["operation"]
  | .UnknownKind => ["kind"]
  | .InvalidPair => ["pair"]
  | .InvalidEntry => ["entry"]
  | .StampConflict => ["stamp"]
  | .InvalidRecord => ["index"]
  | .UnknownSite => ["site"]
  | .SiteDown => ["site"]
  | .LostEntry => ["stamp"]
  | .TooFewSites => ["needed", "given"]
  | .NotAllowed => ["index"]
  | .NotDependency => ["history"]
  | .Needless => ["pair"]
  | _ => []
def clNm : Cl → Str
  | .Table => "Table"
  | .Relation => "Relation"
  | .Log => "Log"
  | .Sizes => "Sizes"
  | .Sites => "Sites"
  | .Before => "Before"
  | .Outage => "Outage"
  | .Cluster => "Cluster"
  | .Decision => "Decision"
  | .QuorumError => "QuorumError"
  | .InvalidTable => "InvalidTable"
  | .InvalidSizes => "InvalidSizes"
  | .LogFull => "LogFull"
  | .UnknownOperation => "UnknownOperation"
  | .UnknownKind => "UnknownKind"
  | .InvalidPair => "InvalidPair"
  | .InvalidEntry => "InvalidEntry"
  | .StampConflict => "StampConflict"
  | .InvalidRecord => "InvalidRecord"
  | .UnknownSite => "UnknownSite"
  | .SiteDown => "SiteDown"
  | .LostEntry => "LostEntry"
  | .TooFewSites => "TooFewSites"
  | .NotAllowed => "NotAllowed"
  | .NotDependency => "NotDependency"
  | .Needless => "Needless"
inductive Cal where
  | fn (x : Str) (n : Nat) | new (c : Cl) (n : Nat) | met (c : Cl) (m : Str) (n : Nat) | dun (c : Cl) (m : Str) (n : Nat)
structure Par where
  N : List Str
  cs : List Str
  fs : List Cal
  cl : List Cl := []
  is : List Cl := []
  e0 : List Cl := []
  e1 : List Cl := []
  it : List (Cl × Nat) := []
  xc : List Cl := []
  hot : Bool := false
  sx : Bool := false
  fh : List Nat := []
structure Scp where
  sc : Scope
  fn : Str → Bool
def bltNms : List Str := ["len", "int", "abs", "min", "max", "tuple", "list", "all", "any", "sum", "isinstance", "range", "enumerate", "zip", "bool", "str", "reversed", "ValueError"]
def FnHF (X : Cx) (T : Txc) (x : Str) (n : Nat) (F : Fn) : Prop := ∃ f fd ps k, FnH X.prog X.w X.K X.mg X.base (L2N.CX X.prog X.w) k f fd ps (spOf X.K T n F) ∧ RoomH k X.A ∧ X.mg x = some (.ref f) ∧ PySem.W.keepIn X.K (.ref f) = true ∧ Binds X.K fd ps []
def CalOk (X : Cx) (T : Txc) : Cal → Fn → Prop
  | .fn x n, F => FnF X T x n F
  | .new c n, F => NewF X T (clNm c) c n F
  | .met c m n, F => MetF X T c m n F
  | .dun c m n, F => DunF X T c m n F
structure XOk (T : Txc) (P : Par) (G : List Fn) (C : List Int) (q : Scp) (W : WX) (X : Cx) : Prop where
  N : X.N = P.N
  nd : P.N.Nodup
  sc : X.env.scope = q.sc
  fnE : X.fn = q.fn
  calm : P.hot = false → X.calm = true
  tk : L2N.Takes X W
  hu : X.A.units + 65 < cLine
  blt : ∀ x ∈ bltNms, X.mg x = none
  gl : ∀ (k : Nat) x, P.cs[k]? = some x → ∃ n t, C[k]? = some n ∧ X.mg x = some (.int n t)
  fs : P.hot = false → ∀ (f : Nat) c, P.fs[f]? = some c → ∃ F, G[f]? = some F ∧ CalOk X T c F
  fh : ∀ f ∈ P.fh, ∀ x n, P.fs[f]? = some (.fn x n) → ∃ F, G[f]? = some F ∧ FnHF X T x n F
  hc : P.hot = true → HotC X
  fl : T.flds = fldsOf
  cl : ∀ c ∈ P.cl, ClOk X.K T c
  is : ∀ c ∈ P.is, IsF X.K T c ∧ X.mg (clNm c) = some (.ref (T.cl c))
  e0 : ∀ c ∈ P.e0, Ex0 X T (clNm c) c
  e1 : ∀ c ∈ P.e1, Ex1 X T (clNm c) c (fldsOf c).length
  xc : ∀ c ∈ P.xc, XcF X.K T c ∧ X.mg (clNm c) = some (.ref (T.cl c))
  xp : ∀ c ∈ P.xc, ∀ c' ∈ P.xc, XpF X.K T c c'
  ex : P.hot = false → T.ex = none
  hx : P.sx = true → ∃ (X' : Cx) (a : Addr) (oe : Obj) (cls : Value) (d : Option Addr) (pn : List (Addr × Obj)), X = X'.suite a ((a, oe) :: pn) ∧ Zc cls d oe ∧ (∃ vs, oe.data = .fields vs) ∧ T.ex = some (a, d, cls)
  it : ∀ p ∈ P.it, (fldsOf p.1).Nodup ∧ Room 4 X.A ∧ ∃ g fld, ItC X.K X.mg X.base X.prog X.w (T.cl p.1) g fld ∧ (fldsOf p.1)[p.2]? = some fld

section
variable (P : Par)
def visB (sc : Scope) (x : Str) : Bool := decide (sc.names.lookup x = some .local) || decide (sc.names.lookup x = some .cell) || decide (sc.names.lookup x = some .free)
def locB (q : Scp) (x : Str) : Bool := decide (q.sc.names.lookup x = some .local) || (decide (q.sc.names.lookup x = some .cell) && q.fn x)
def glB (sc : Scope) (x : Str) : Bool := decide (sc.names.lookup x = some .globalImplicit)
def dbgB (x : Str) : Bool := !(x == ("__debug__" : Str)) && !(x == ("__classdict__" : Str))
def plX : Expr → Bool
  | .Starred .. => false
  | .Slice .. => false
  | _ => true
def plT : Expr → Bool
  | .Name .. => true
  | .Call .. => true
  | .Attribute .. => true
  | .Subscript .. => true
  | .Constant .. => true
  | _ => false
def ntSet : Expr → Bool
  | .Set .. => false
  | _ => true
mutual
def mTg : Tg → Scp → Expr → Bool
  | .n i, q, .Name x _ => decide (P.N[i]? = some x) && locB q x
  | .t ts, q, .Tuple es _ _ => !P.hot && mTgs ts q es
  | _, _, _ => false
def mTgs : Tgs → Scp → List Expr → Bool
  | .nil, _, [] => true
  | .cons t ts, q, e :: es => plX e && mTg t q e && mTgs ts q es
  | _, _, _ => false
end
def mTy (q : Scp) : Ty → Expr → Bool
  | .int, .Name x _ => decide (x = ("int" : Str)) && glB q.sc x
  | .bool, .Name x _ => decide (x = ("bool" : Str)) && glB q.sc x
  | .str, .Name x _ => decide (x = ("str" : Str)) && glB q.sc x
  | .list, .Name x _ => decide (x = ("list" : Str)) && glB q.sc x
  | .tuple, .Name x _ => decide (x = ("tuple" : Str)) && glB q.sc x
  | .cls c, .Name x _ => decide (x = clNm c) && glB q.sc x && decide (c ∈ P.is)
  | _, _ => false
def mTys (q : Scp) : List Ty → List Expr → Bool
  | [], [] => true
  | t :: ts, e :: es => mTy P q t e && mTys q ts es
  | _, _ => false
def ownsOf (own : List Nat) : List (Str × Nat) := own.filterMap fun i => (P.N[i]?).map fun x => (x, i)
def isNew : E → Bool
  | .lst _ => true
  | .lstS .. => true
  | .bin .. => true
  | .sl .. => true
  | .blt .. => true
  | .comp .. => true
  | .comp2 .. => true
  | .rev _ => true
  | .lstO .. => true
  | .addP .. => true
  | _ => false
def coolB (b : Bl) : Bool := decide (b = .len) || decide (b = .int) || decide (b = .abs) || decide (b = .tuple) || decide (b = .list)
def richB : Co → Bool
  | .lt | .le | .gt | .ge | .eq | .ne => true
  | _ => false
def isDun (f : Nat) (c : Cl) (m : Str) (n : Nat) : Bool := !P.hot && match P.fs[f]? with | some (.dun c' m' n') => decide (c' = c) && decide (m' = m) && decide (n' = n) | _ => false
def enB : I → Expr → Bool
  | .enum _, .Tuple .. => true
  | .enum _, _ => false
  | _, _ => true
def blkQ (q : Scp) (scope : Scope) : Scp := ⟨relS scope q.sc, fun x => scope.names.lookup x == some .cell⟩
mutual
def mE : E → Scp → Expr → Bool
  | .v i, q, .Name x _ => decide (P.N[i]? = some x) && visB q.sc x && dbgB x
  | .c (.int n), _, .Constant (.int m) _ _ => decide (n = m)
  | .c (.bl n), _, .Constant (.bool m) _ _ => decide (n = m)
  | .c .non, _, .Constant .none _ _ => true
  | .c (.str n), _, .Constant (.str m) _ _ => decide (n = m)
  | .g k, q, .Name x _ => decide (P.cs[k]? = some x) && glB q.sc x && dbgB x
  | .xfl i c k, q, .Attribute (.Name y _) f _ => P.sx && decide (P.N[i]? = some y) && visB q.sc y && dbgB y && decide (c ∈ P.xc) && decide ((fldsOf c)[k]? = some f)
  | .xis i ks t, q, .Call (.Name x _) [.Name y _, .Name z _] [] _ => P.sx && decide (x = ("isinstance" : Str)) && glB q.sc x && decide (P.N[i]? = some y) && visB q.sc y && dbgB y && ks.all (fun c => decide (c ∈ P.xc)) && glB q.sc z && dbgB z &&
      (match t with | .val => decide (z = ("ValueError" : Str)) | .cls c => decide (z = clNm c) && decide (c ∈ P.xc))
  | .tup es, q, .Tuple xs _ _ => mEs es q xs && decide (es.len ≤ 1000)
  | .lst es, q, .List xs _ => mEs es q xs && decide (es.len ≤ 1000)
  | .lstS e es, q, .List (.Starred y _ :: xs) _ => mE e q y && mEs es q xs
  | .tupS e es, q, .Tuple (.Starred y _ :: xs) _ _ => mE e q y && mEs es q xs
  | .bin o a b, q, .BinOp x op y _ => decide (o.py = op) && mE a q x && mE b q y
  | .addP a b, q, .BinOp x op y _ => decide (Operator.Add = op) && mE a q x && mE b q y
  | .neg a, q, .UnaryOp .USub x _ => mE a q x
  | .not a, q, .UnaryOp .Not x _ => mE a q x
  | .cmp o a b, q, .Compare x [op] [y] _ => decide (o.py = op) && mE a q x && mE b q y && !(behindInMarks op y)
  | .chn o p a b c, q, .Compare x [op, op'] [y, z] _ => decide (o.py = op) && decide (p.py = op') && mE a q x && mE b q y && mE c q z && !(lastMarks [op, op'] [y, z])
  | .and a b, q, .BoolOp .And (x :: y :: rest) pos => mE a q x && (match rest with | [] => mE b q y | _ => mE b q (.BoolOp .And (y :: rest) pos))
  | .or a b, q, .BoolOp .Or (x :: y :: rest) pos => mE a q x && (match rest with | [] => mE b q y | _ => mE b q (.BoolOp .Or (y :: rest) pos))
  | .ife c a b, q, .IfExp x y z _ => mT c q x && mE a q y && mE b q z
  | .ix a b, q, .Subscript x y _ => mE a q x && mE b q y && plX y
  | .sl a lo hi, q, .Subscript x (.Slice l h none _) _ => mE a q x && mO lo q l && mO hi q h
  | .fld a c k, q, .Attribute x f _ => mE a q x && plO x && decide ((fldsOf c)[k]? = some f) && decide (c ∈ P.cl)
  | .call f es, q, .Call (.Name x _) (y :: ys) [] _ => (!P.hot || decide (f ∈ P.fh)) && (match P.fs[f]? with | some (.fn x' n) => decide (x' = x) && decide (es.len = n) | _ => false) && glB q.sc x && dbgB x && mEs es q (y :: ys)
  | .blt b es, q, .Call (.Name x _) (y :: ys) [] _ => (!P.hot || coolB b) && decide (x = b.nm) && glB q.sc x && mEs es q (y :: ys)
  | .isi a ts cs, q, .Call (.Name x _) [y, z] [] _ => decide (x = ("isinstance" : Str)) && glB q.sc x && mE a q y && plX y && cs.all (fun c => decide (c ∈ P.is)) && decide (ts.length ≤ 100) &&
      (match ts, z with | [t], .Name n p => mTy P q t (.Name n p) | ts, .Tuple zs _ _ => mTys P q ts zs | _, _ => false)
  | .comp elt t i cs own, q, .ListComp x [⟨tg, iter, ifs, 0⟩] scope _ => !P.hot && mI i q iter && ntSet iter && blkC P.N q.sc scope (ownsOf P own) && decide ((ownsOf P own).map (·.2) = own) && t.slots.all (fun j => decide (j ∈ own)) &&
      mTg P t (blkQ q scope) tg && mC cs (blkQ q scope) ifs && mE elt (blkQ q scope) x && (match i with | .enum _ => (match tg with | .Tuple .. => true | _ => false) | _ => true)
  | .new f es, q, .Call (.Name x _) (y :: ys) [] _ => !P.hot && (match P.fs[f]? with | some (.new c n) => decide (clNm c = x) && decide (es.len = n) | _ => false) && glB q.sc x && dbgB x && mEs es q (y :: ys)
  | .meth f c o es, q, .Call (.Attribute x m apos) (y :: ys) [] pos => !P.hot && (match P.fs[f]? with | some (.met c' m' n) => decide (c' = c) && decide (m' = m) && decide (es.len = n) | _ => false) && plO x && mE o q x && mEs es q (y :: ys) && decide (ys.length < 20) && (apos.endLine == pos.line)
  | .dlen f c a, q, .Call (.Name x _) [y] [] _ => decide (x = ("len" : Str)) && glB q.sc x && isDun P f c "__len__" 1 && mE a q y && plX y
  | .din2 f c neg a b, q, .Compare x [op] [y] _ => decide ((if neg then CmpOp.NotIn else .In) = op) && isDun P f c "__contains__" 2 && mE a q x && mE b q y && !(behindInMarks op y)
  | .dop f c (.cmp o) a b, q, .Compare x [op] [y] _ => decide (o.py = op) && richB o && isDun P f c (cmpInfo o.py).2.1 2 && mE a q x && mE b q y && !(behindInMarks op y)
  | .dop f c (.bin o) a b, q, .BinOp x op y _ => decide (o.py = op) && isDun P f c (PySem.dunder o.py.info.2) 2 && mE a q x && mE b q y
  | .shr e, q, x => isNew e && mE e q x
  | .rev a, q, .Call (.Name x _) [.Call (.Name y _) [z] [] _] [] _ => !P.hot && decide (x = ("list" : Str)) && decide (y = ("reversed" : Str)) && glB q.sc x && glB q.sc y && mE a q z && plX z
  | .comp2 elt t i cs t2 i2 cs2 own own2, q, .ListComp x [⟨tg, iter, ifs, 0⟩, ⟨tg2, iter2, ifs2, 0⟩] scope _ => !P.hot && mI i q iter && ntSet iter && blkC P.N q.sc scope (ownsOf P own) && decide ((ownsOf P own).map (·.2) = own) && t.slots.all (fun j => decide (j ∈ own)) &&
      mTg P t (blkQ q scope) tg && mC cs (blkQ q scope) ifs && mE elt (blkQ q scope) x && enB i tg &&
      (mI i2 (blkQ q scope) iter2 && ntSet iter2 && t2.slots.all (fun j => decide (j ∈ own2)) && own2.all (fun j => decide (j ∈ own)) && mTg P t2 (blkQ q scope) tg2 && mC cs2 (blkQ q scope) ifs2 && enB i2 tg2)
  | .idx a b, q, .Call (.Attribute x m apos) [y] [] pos => decide (m = ("index" : Str)) && plO x && mE a q x && mE b q y && plX y && (apos.endLine == pos.line)
  | .din neg k d, q, .Compare x [op] [y] _ => decide ((if neg then CmpOp.NotIn else .In) = op) && mE k q x && mE d q y && !(behindInMarks op y)
  | .dget d k, q, .Subscript x y _ => mE d q x && mE k q y && plX y
  | .orL f c a b, q, .BinOp x .BitOr y _ => isDun P f c (PySem.dunder "or") 2 && mE a q x && mE b q y
  | .orR f g c a b, q, .BinOp x .BitOr y _ => isDun P f c (dunderR "or") 2 && isDun P g c (PySem.dunder "or") 2 && mE a q x && mE b q y
  | .lstO f c k a, q, .Call (.Name x _) [y] [] _ => !P.hot && decide (x = ("list" : Str)) && glB q.sc x && isDun P f c "__len__" 1 && decide ((c, k) ∈ P.it) && mE a q y && plX y
  | .tupK a, q, .Call (.Name x _) [y] [] _ => decide (x = ("tuple" : Str)) && glB q.sc x && mE a q y && plX y
  | _, _, _ => false
def mT : E → Scp → Expr → Bool
  | .and a b, q, .BoolOp .And (x :: y :: rest) pos => mT a q x && (match rest with | [] => mT b q y | _ => mT b q (.BoolOp .And (y :: rest) pos))
  | .or a b, q, .BoolOp .Or (x :: y :: rest) pos => mT a q x && (match rest with | [] => mT b q y | _ => mT b q (.BoolOp .Or (y :: rest) pos))
  | .not a, q, .UnaryOp .Not x _ => mT a q x
  | .cmp o a b, q, .Compare x [op] [y] _ => decide (o.py = op) && mE a q x && mE b q y && !(behindInMarks op y)
  | .chn o p a b c, q, .Compare x [op, op'] [y, z] _ => decide (o.py = op) && decide (p.py = op') && mE a q x && mE b q y && mE c q z && !(lastMarks [op, op'] [y, z])
  | .v i, q, .Name x _ => decide (P.N[i]? = some x) && visB q.sc x && dbgB x
  | .fld a c k, q, .Attribute x f _ => mE a q x && plO x && decide ((fldsOf c)[k]? = some f) && decide (c ∈ P.cl)
  | .ix a b, q, .Subscript x y _ => mE a q x && mE b q y && plX y
  | .call f es, q, .Call (.Name x _) (y :: ys) [] _ => (!P.hot || decide (f ∈ P.fh)) && (match P.fs[f]? with | some (.fn x' n) => decide (x' = x) && decide (es.len = n) | _ => false) && glB q.sc x && dbgB x && mEs es q (y :: ys)
  | .blt b es, q, .Call (.Name x _) (y :: ys) [] _ => (!P.hot || coolB b) && decide (x = b.nm) && glB q.sc x && mEs es q (y :: ys)
  | .isi a ts cs, q, .Call (.Name x _) [y, z] [] _ => decide (x = ("isinstance" : Str)) && glB q.sc x && mE a q y && plX y && cs.all (fun c => decide (c ∈ P.is)) && decide (ts.length ≤ 100) &&
      (match ts, z with | [t], .Name n p => mTy P q t (.Name n p) | ts, .Tuple zs _ _ => mTys P q ts zs | _, _ => false)
  | .meth f c o es, q, .Call (.Attribute x m apos) (y :: ys) [] pos => !P.hot && (match P.fs[f]? with | some (.met c' m' n) => decide (c' = c) && decide (m' = m) && decide (es.len = n) | _ => false) && plO x && mE o q x && mEs es q (y :: ys) && decide (ys.length < 20) && (apos.endLine == pos.line)
  | .din2 f c neg a b, q, .Compare x [op] [y] _ => decide ((if neg then CmpOp.NotIn else .In) = op) && isDun P f c "__contains__" 2 && mE a q x && mE b q y && !(behindInMarks op y)
  | .dop f c (.cmp o) a b, q, .Compare x [op] [y] _ => decide (o.py = op) && richB o && isDun P f c (cmpInfo o.py).2.1 2 && mE a q x && mE b q y && !(behindInMarks op y)
  | .xis i ks t, q, .Call (.Name x _) [.Name y _, .Name z _] [] _ => P.sx && decide (x = ("isinstance" : Str)) && glB q.sc x && decide (P.N[i]? = some y) && visB q.sc y && dbgB y && ks.all (fun c => decide (c ∈ P.xc)) && glB q.sc z && dbgB z &&
      (match t with | .val => decide (z = ("ValueError" : Str)) | .cls c => decide (z = clNm c) && decide (c ∈ P.xc))
  | .din neg k d, q, .Compare x [op] [y] _ => decide ((if neg then CmpOp.NotIn else .In) = op) && mE k q x && mE d q y && !(behindInMarks op y)
  | _, _, _ => false
def mEs : Es → Scp → List Expr → Bool
  | .nil, _, [] => true
  | .cons e es, q, x :: xs => plX x && mE e q x && mEs es q xs
  | _, _, _ => false
def mC : Es → Scp → List Expr → Bool
  | .nil, _, [] => true
  | .cons e .nil, q, [x] => mT e q x
  | _, _, _ => false
def mO : Eo → Scp → Option Expr → Bool
  | .no, _, none => true
  | .some e, q, some x => mE e q x
  | _, _, _ => false
def mI : I → Scp → Expr → Bool
  | .seq e, q, x => mE e q x
  | .rng e, q, .Call (.Name x _) [y] [] _ => decide (x = ("range" : Str)) && glB q.sc x && mE e q y && plX y
  | .rng2 a b, q, .Call (.Name x _) [y, z] [] _ => decide (x = ("range" : Str)) && glB q.sc x && mE a q y && mE b q z && plX y && plX z
  | .enum e, q, .Call (.Name x _) [y] [] _ => decide (x = ("enumerate" : Str)) && glB q.sc x && mE e q y && plX y
  | .own c k e, q, x => decide ((c, k) ∈ P.it) && mE e q x
  | _, _, _ => false
end
end
end Qk

set_option linter.all false
set_option maxHeartbeats 8000000
set_option maxRecDepth 100000
namespace Qk
open PySem L2 L2H

section
variable {T : Txc} {P : Par} {G : List Fn} {C : List Int} {q : Scp} {W : WX} {X : Cx}
theorem XOk.blk (ok : XOk T P G C q W X) (hh : P.hot = false) (hs : P.sx = false) (s : Shared) (H : Hp) (scope : Scope) (Ca : Addr) (cl : List (Str × Addr)) (fp : List Addr) : XOk T P G C (blkQ q scope) W0 (X.blk s H scope (compEnvC scope cl Ca X.env) fp) where
  N := ok.N
  nd := ok.nd
  sc := by
    show relS scope X.env.scope = _
    rw [ok.sc]
    rfl
  fnE := rfl
  calm := ok.calm
  tk := takes_noneN
  hu := ok.hu
  blt := ok.blt
  gl := ok.gl
  fs := fun hh' f c h => by
    obtain ⟨F, h1, h2⟩ := ok.fs hh' f c h
    refine ⟨F, h1, ?_⟩
    cases c <;> exact h2
  fh := ok.fh
  hc := fun h => by rw [hh] at h; cases h
  fl := ok.fl
  cl := ok.cl
  is := ok.is
  e0 := fun c h => ⟨(ok.e0 c h).q, (ok.e0 c h).g, (ok.e0 c h).k, (ok.e0 c h).b, (ok.e0 c h).t⟩
  e1 := fun c h => ⟨(ok.e1 c h).o, (ok.e1 c h).g, (ok.e1 c h).l, (ok.e1 c h).f⟩
  it := ok.it
  xc := ok.xc
  xp := ok.xp
  ex := ok.ex
  hx := fun h => by rw [hs] at h; cases h
theorem se_callH {K : PySem.W.Frag} (hK : X.K = K) (tk : L2N.Takes X W) (hc : HotC X) {x : Str} {e : Expr} {es : List Expr} {es' : Es} {f : Nat} {n : Nat} {F : Fn} {p pos : Pos} (ff : FnHF X T x n F) (hf : G[f]? = some F) (hg : Gl X x) (ha : PA X (e :: es) (tAs K T G C W es')) (hn : es'.len = n)
    (hd : (x == ("__debug__" : Str)) = false) (hp : ∀ y ∈ e :: es, ∀ a p, y ≠ .Starred a p) : PE X (.Call (.Name x p) (e :: es) [] pos) (tE K T G C W (.call f es')) := by
  subst hK
  obtain ⟨a, fd, ps, k, fo, hr, hm, hk, hb⟩ := ff
  obtain ⟨h1, h2⟩ := es_plain (env := X.env) (pos := pos) hp
  refine (pe_callH (E := WE W) fo hr hc hg hm hk hb (L2N.passAt tk) ha hd h1 h2).to fun σ H Q ⟨B, w, δ, st, Wl, h⟩ => as_then Wl ?_
  simp only [evalE] at h
  refine h.bind fun ds st1 w1 H1 ex W1 h1 hlen vs rs => ?_
  simp only [hf] at h1
  exact sp_call (by rw [rs.length, hlen, hn]) W1 rs h1
theorem XOk.hotOr (ok : XOk T P G C q W X) : P.hot = true ∨ P.hot = false := by
  cases P.hot with
  | true => exact .inl rfl
  | false => exact .inr rfl
theorem XOk.cold (ok : XOk T P G C q W X) (hh : P.hot = false) : P.sx = false := by
  cases e : P.sx with
  | false => rfl
  | true =>
    obtain ⟨X', a, oe, cls, d, pn, rfl, hz, hf, hT⟩ := ok.hx e
    rw [ok.ex hh] at hT
    cases hT
theorem XOk.tr (ok : XOk T P G C q W X) (hh : P.hot = false) (hs : P.sx = false) {W' : WX} {pn : List (Addr × Obj)} {xe : Value → Shared → Prop} (tk : L2N.Takes (X.tr pn xe) W') : XOk T P G C q W' (X.tr pn xe) where
  N := ok.N
  nd := ok.nd
  sc := ok.sc
  fnE := ok.fnE
  calm := ok.calm
  tk := tk
  hu := ok.hu
  blt := ok.blt
  gl := ok.gl
  fs := fun hh' f c h => by
    obtain ⟨F, h1, h2⟩ := ok.fs hh' f c h
    refine ⟨F, h1, ?_⟩
    cases c <;> exact h2
  fh := ok.fh
  hc := fun h => by rw [hh] at h; cases h
  fl := ok.fl
  cl := ok.cl
  is := ok.is
  e0 := fun c h => ⟨(ok.e0 c h).q, (ok.e0 c h).g, (ok.e0 c h).k, (ok.e0 c h).b, (ok.e0 c h).t⟩
  e1 := fun c h => ⟨(ok.e1 c h).o, (ok.e1 c h).g, (ok.e1 c h).l, (ok.e1 c h).f⟩
  it := ok.it
  xc := ok.xc
  xp := ok.xp
  ex := ok.ex
  hx := fun h => by rw [hs] at h; cases h
theorem spOf_x {K : PySem.W.Frag} {T : Txc} {a : Addr} {cls : Value} {d : Option Addr} {n : Nat} {F : Fn} {vs : List V} {H : Hp} {Q : VK} {E : XK} (h : spOf K (T.at_ a cls d) n F vs H Q E) : spOf K T n F vs H Q E := by
  obtain ⟨q1, w, ds, st, q2, q3, q4⟩ := h
  refine ⟨q1, w, ds, st, q2.tx (T := T.at_ a cls d) (T' := T) rfl rfl, reps_tx (T := T.at_ a cls d) (T' := T) rfl rfl _ _ q3, ?_⟩
  revert q4
  cases F ds st with
  | ok q => exact fun h w' H' v e s r => h w' H' v e (s.tx (T := T) (T' := T.at_ a cls d) rfl rfl) (rep_tx (T := T) (T' := T.at_ a cls d) rfl rfl _ _ r)
  | exc c es st' => exact fun h w' H' dx e s r => h w' H' dx e (s.tx (T := T) (T' := T.at_ a cls d) rfl rfl) (r.imp id fun ⟨dd, xs, q1, q2, q3, q4, q5⟩ => ⟨dd, xs, q1, q2, q3, q4, reps_tx (T := T) (T' := T.at_ a cls d) rfl rfl _ _ q5⟩)
  | stuck => exact id
theorem _root_.L2H.FnH.imp {P : Program} {w : PySem.World} {K : PySem.W.Frag} {mg : Str → Option Value} {base : Heap} {CX : CXT} {k : Nat} {f : Addr} {fd : FuncData} {ps : List Str} {sp sp' : Sp} (F : FnH P w K mg base CX k f fd ps sp) (h : ∀ vs H Q E, sp' vs H Q E → sp vs H Q E) : FnH P w K mg base CX k f fd ps sp' :=
  ⟨fun vs H Q E q => F.len vs H Q E (h vs H Q E q), fun A outer s H args us vs Q E p r1 r2 r3 r4 r5 r6 q => F.run A outer s H args us vs Q E p r1 r2 r3 r4 r5 r6 (h vs H Q E q)⟩
theorem XOk.suite (ok : XOk T P G C q W X) (hh : P.hot = false) {a : Addr} {oe : Obj} {cls : Value} {d : Option Addr} {pn : List (Addr × Obj)} (hz : L2N.Zn cls d oe) (hf : ∃ vs, oe.data = .fields vs) :
    XOk (T.at_ a cls d) { P with hot := true, sx := true, e0 := [], e1 := [], it := [] } G C q noX (X.suite a ((a, oe) :: pn)) where
  N := ok.N
  nd := ok.nd
  sc := ok.sc
  fnE := ok.fnE
  calm := fun h => by cases h
  tk := takes_noneN
  hu := ok.hu
  blt := ok.blt
  gl := ok.gl
  fs := fun h => by cases h
  fh := fun f h x n e => by
    obtain ⟨F, h1, g, fd, ps, k, h2, h3, h4, h5, h6⟩ := ok.fh f h x n e
    exact ⟨F, h1, g, fd, ps, k, h2.imp fun vs H Q E q => spOf_x q, ⟨h3.dp, h3.un⟩, h4, h5, h6⟩
  hc := fun _ => by
    obtain ⟨vs, hv⟩ := hf
    exact ⟨(a, oe), ⟨rfl, vs, hv, hz.2.2 vs hv⟩, List.mem_cons_self⟩
  fl := ok.fl
  cl := fun c h => ⟨(ok.cl c h).1, (ok.cl c h).2, (ok.cl c h).3⟩
  is := fun c h => ⟨⟨(ok.is c h).1.1, (ok.is c h).1.2, (ok.is c h).1.3, (ok.is c h).1.4, (ok.is c h).1.5, (ok.is c h).1.6, (ok.is c h).1.7⟩, (ok.is c h).2⟩
  e0 := fun c h => by cases h
  e1 := fun c h => by cases h
  it := fun c h => by cases h
  xc := fun c h => ⟨⟨(ok.xc c h).1.1, (ok.xc c h).1.2, (ok.xc c h).1.3, (ok.xc c h).1.4⟩, (ok.xc c h).2⟩
  xp := fun c h c' h' => ok.xp c h c' h'
  ex := fun h => by cases h
  hx := fun _ => ⟨X, a, oe, cls, d, pn, rfl, hz.zc, hf, rfl⟩
theorem XOk.gl_ (ok : XOk T P G C q W X) {x : Str} (h : glB q.sc x = true) : Gl X x := by
  unfold glB at h
  show X.env.scope.names.lookup x = _
  rw [ok.sc]
  simpa using h
theorem XOk.vis_ (ok : XOk T P G C q W X) {x : Str} (h : visB q.sc x = true) : Vis X.env.scope x := by
  unfold visB at h
  unfold Vis
  rw [ok.sc]
  simp only [Bool.or_eq_true, decide_eq_true_eq] at h
  rcases h with (h | h) | h
  · exact .inl h
  · exact .inr (.inl h)
  · exact .inr (.inr h)
theorem XOk.loc_ (ok : XOk T P G C q W X) {x : Str} (h : locB q x = true) : Loc X.env.scope x ∧ (X.fn x = true ∨ X.env.scope.names.lookup x = some .local) := by
  unfold locB at h
  unfold L2.Loc
  rw [ok.sc, ok.fnE]
  simp only [Bool.or_eq_true, Bool.and_eq_true, decide_eq_true_eq] at h
  rcases h with h | h
  · exact ⟨.inl h, .inr h⟩
  · exact ⟨.inr h.1, .inl h.2⟩
theorem dbg_ {x : Str} (h : dbgB x = true) : (x == ("__debug__" : Str)) = false ∧ (x == ("__classdict__" : Str)) = false := by
  unfold dbgB at h
  simpa using h
theorem plX_star {x : Expr} (h : plX x = true) : ∀ a p, x ≠ .Starred a p := by
  intro a p e
  subst e
  simp [plX] at h
theorem plX_ix {x : Expr} (h : plX x = true) : PlainIx x := by
  intro o i
  cases x <;> first | rfl | (simp [plX] at h; done)
theorem ntSet_ {x : Expr} {env : PySem.Env} (h : ntSet x = true) : ∀ v, foldedSetIterable x env v = pure v := by
  intro v
  cases x <;> first | rfl | (simp [ntSet] at h; done)
structure Snd (P : Par) (T : Txc) (G : List Fn) (C : List Int) (e' : E) : Prop where
  val : ∀ {q : Scp} {W : WX} {X : Cx} {x : Expr}, XOk T P G C q W X → mE P e' q x = true → PE X x (tE X.K T G C W e')
  new : ∀ {q : Scp} {W : WX} {X : Cx} {x : Expr}, isNew e' = true → XOk T P G C q W X → mE P e' q x = true → PE X x (tN X.K T G C W e')
  tst : ∀ {q : Scp} {W : WX} {X : Cx} {x : Expr}, XOk T P G C q W X → mT P e' q x = true → PT X x (tB X.K T G C W e')
  tsw : ∀ {q : Scp} {W : WX} {X : Cx} {op : BoolOp} {ys : List Expr} {pos : Pos}, XOk T P G C q W X → mT P e' q (.BoolOp op ys pos) = true → PW X (.BoolOp op ys pos) (tB X.K T G C W e')
theorem Snd.pl {e' : E} (h : Snd P T G C e') {x : Expr} (ok : XOk T P G C q W X) (m : mE P e' q x = true) : PE X x (tP X.K T G C W e') := by
  cases e' with
  | v i =>
    cases x <;> simp only [mE] at m <;> try (cases m; done)
    simp only [Bool.and_eq_true, decide_eq_true_eq] at m
    exact sp_v (by rw [ok.N]; exact m.1.1) (ok.vis_ m.1.2) (dbg_ m.2).1 (dbg_ m.2).2
  | _ => exact sp_of (h.val ok m) (fun _ _ => by simp only [evalP])
theorem XOk.dun (ok : XOk T P G C q W X) {f : Nat} {c : Cl} {m : Str} {n : Nat} (h : isDun P f c m n = true) : ∃ F, G[f]? = some F ∧ DunF X T c m n F := by
  unfold isDun at h
  rw [Bool.and_eq_true, Bool.not_eq_true'] at h
  obtain ⟨hh, h⟩ := h
  split at h
  · rename_i c' m' n' e
    simp only [Bool.and_eq_true, decide_eq_true_eq, Bool.not_eq_true'] at h
    obtain ⟨⟨rfl, rfl⟩, rfl⟩ := h
    exact ok.fs hh f _ e
  · cases h
theorem rich_ {o : Co} (h : richB o = true) : compareOp o.py = richCompare o.py := by
  cases o <;> first | rfl | (simp [richB] at h; done)
theorem enB_ {i : I} {tg : Expr} (h : enB i tg = true) : (∃ e, i = .enum e) → ∃ es k p, tg = .Tuple es k p := fun ⟨e, he⟩ => by
  subst he
  cases tg <;> first | exact ⟨_, _, _, rfl⟩ | (simp [enB] at h; done)
theorem mTg_sound (ok : XOk T P G C q W X) : (∀ (t : Tg) (x : Expr), mTg P t q x = true → PG X x (tG X.K T t)) := by
  intro t
  refine Tg.rec (motive_1 := fun t => ∀ x, mTg P t q x = true → PG X x (tG X.K T t)) (motive_2 := fun ts => ∀ xs, mTgs P ts q xs = true → PGs X xs (tGs X.K T ts) ∧ (∀ x ∈ xs, ∀ a p, x ≠ .Starred a p) ∧ (∀ ds δ δ', Tgs.bind ts ds δ = some δ' → ds.length = xs.length)) ?_ ?_ ?_ ?_ t
  · intro i x h
    cases x <;> simp only [mTg] at h <;> try (cases h; done)
    simp only [Bool.and_eq_true, decide_eq_true_eq] at h
    obtain ⟨h1, h2⟩ := ok.loc_ h.2
    exact pg_n (by rw [ok.N]; exact ok.nd) (by rw [ok.N]; exact h.1) h1 h2
  · intro ts ih x h
    cases x <;> simp only [mTg] at h <;> try (cases h; done)
    simp only [Bool.and_eq_true, Bool.not_eq_true'] at h
    obtain ⟨h1, h2, h3⟩ := ih _ h.2
    exact pg_ts rfl (ok.calm h.1) h1 h2 h3
  · intro xs h
    cases xs with
    | cons _ _ => simp only [mTgs] at h; cases h
    | nil =>
      refine ⟨pgs_n, fun x hx => (by cases hx), fun ds δ δ' e => ?_⟩
      cases ds with
      | nil => rfl
      | cons _ _ => simp only [Tgs.bind] at e; cases e
  · intro t ts ih1 ih2 xs h
    cases xs with
    | nil => simp only [mTgs] at h; cases h
    | cons x xs =>
      simp only [mTgs, Bool.and_eq_true] at h
      obtain ⟨h1, h2, h3⟩ := ih2 _ h.2
      refine ⟨pgs_c (ih1 x h.1.2) h1 (plX_star h.1.1), fun y hy => ?_, fun ds δ δ' e => ?_⟩
      · rcases List.mem_cons.mp hy with e | hy
        · rw [e]; exact plX_star h.1.1
        · exact h2 y hy
      · cases ds with
        | nil => simp only [Tgs.bind] at e; cases e
        | cons d ds =>
          simp only [Tgs.bind] at e
          split at e
          · rw [List.length_cons, List.length_cons, h3 _ _ _ e]
          · cases e
theorem mTy_sound (ok : XOk T P G C q W X) {t : Ty} {x : Expr} (h : mTy P q t x = true) : PE X x (tC (t.v T)) := by
  cases t <;> cases x <;> simp only [mTy] at h <;> try (cases h; done)
  case cls c x pos =>
    simp only [Bool.and_eq_true, decide_eq_true_eq] at h
    obtain ⟨⟨rfl, h2⟩, h3⟩ := h
    exact pe_glob (ok.gl_ h2) (ok.is c h3).2 rfl (by cases c <;> decide +kernel)
  all_goals (
    simp only [Bool.and_eq_true, decide_eq_true_eq] at h
    obtain ⟨rfl, h2⟩ := h
    exact pe_bltn (ok.gl_ h2) (ok.blt _ (by decide +kernel)) (by decide +kernel) rfl (by decide +kernel) (by decide +kernel))
theorem mTys_sound (ok : XOk T P G C q W X) : ∀ {ts : List Ty} {xs : List Expr}, mTys P q ts xs = true → ∃ t, PA X xs t ∧ ∀ σ H Q, Q (ts.map (Ty.v T)) H → t σ H Q
  | [], [], _ => ⟨_, pa_nil, fun _ _ _ h => h⟩
  | t :: ts, x :: xs, h => by
    simp only [mTys, Bool.and_eq_true] at h
    obtain ⟨u, h1, h2⟩ := mTys_sound ok h.2
    have hx : ∀ a p, x ≠ .Starred a p := fun a p e => by
      subst e
      have := h.1
      cases t <;> simp [mTy] at this
    have hs : starEach (x :: xs) X.env = (false, eval x X.env) :: starEach xs X.env := by
      cases x <;> first | rfl | exact absurd rfl (hx _ _)
    exact ⟨_, pa_cons (mTy_sound ok h.1) h1 hs, fun σ H Q k => h2 σ H _ k⟩
  | [], _ :: _, h => by simp [mTys] at h
  | _ :: _, [], h => by simp [mTys] at h
theorem mEs_star : ∀ {es : Es} {xs : List Expr}, mEs P es q xs = true → ∀ y ∈ xs, ∀ a p, y ≠ .Starred a p
  | .nil, [], _, y, hy => by cases hy
  | .cons e es, x :: xs, h, y, hy => by
    simp only [mEs, Bool.and_eq_true] at h
    rcases List.mem_cons.mp hy with e | hy
    · rw [e]; exact plX_star h.1.1
    · exact mEs_star h.2 y hy
  | .nil, _ :: _, h, _, _ => by simp [mEs] at h
  | .cons _ _, [], h, _, _ => by simp [mEs] at h
theorem Snd.byPl {e' : E} (v : ∀ {q : Scp} {W : WX} {X : Cx} {x : Expr}, XOk T P G C q W X → mE P e' q x = true → PE X x (tP X.K T G C W e')) (he : ∀ {q x}, mT P e' q x = true → mE P e' q x = true ∧ plT x = true)
    (hq : ∀ δ st, evalT G C e' δ st = (evalP G C e' δ st).bind fun r => match truP r.2 r.1 with | some b => .ok (b, r.2) | none => .stuck) :
    ∀ {q : Scp} {W : WX} {X : Cx} {x : Expr}, XOk T P G C q W X → mT P e' q x = true → PT X x (tB X.K T G C W e') := fun {q W X x} ok m => by
  obtain ⟨h1, h2⟩ := he m
  refine st_truth rfl (v ok h1) ?_ hq
  intro whole
  cases x <;> first | rfl | (simp [plT] at h2; done)
theorem noBool {e' : E} (he : ∀ {q x}, mT P e' q x = true → plT x = true) : ∀ {q : Scp} {W : WX} {X : Cx} {op : BoolOp} {ys : List Expr} {pos : Pos}, XOk T P G C q W X → mT P e' q (.BoolOp op ys pos) = true → PW X (.BoolOp op ys pos) (tB X.K T G C W e') := fun {q W X op ys pos} _ m => by
  have := he m
  simp [plT] at this
end
end Qk

set_option linter.all false
set_option maxHeartbeats 8000000
set_option maxRecDepth 100000
namespace Qk
open PySem L2 L2H

section
variable {T : Txc} {P : Par} {G : List Fn} {C : List Int}
structure SndEs (P : Par) (T : Txc) (G : List Fn) (C : List Int) (es : Es) : Prop where
  val : ∀ {q : Scp} {W : WX} {X : Cx} {xs : List Expr}, XOk T P G C q W X → mEs P es q xs = true → PA X xs (tAs X.K T G C W es)
  pl : ∀ {q : Scp} {W : WX} {X : Cx} {xs : List Expr}, XOk T P G C q W X → mEs P es q xs = true → PA X xs (tPs X.K T G C W es)
  tst : ∀ {q : Scp} {W : WX} {X : Cx} {xs : List Expr}, XOk T P G C q W X → mC P es q xs = true → PTs X xs (tBs X.K T G C W es)
structure SndO (P : Par) (T : Txc) (G : List Fn) (C : List Int) (e : Eo) : Prop where
  val : ∀ {q : Scp} {W : WX} {X : Cx} {x : Option Expr}, XOk T P G C q W X → mO P e q x = true → PO X x (tOp X.K T G C W e)
structure SndI (P : Par) (T : Txc) (G : List Fn) (C : List Int) (i : I) : Prop where
  val : ∀ {q : Scp} {W : WX} {X : Cx} {tg x : Expr}, XOk T P G C q W X → mI P i q x = true → ((∃ e, i = .enum e) → ∃ es k p, tg = .Tuple es k p) → PI X tg x (tIt X.K T G C W i)
theorem blt_mem (b : Bl) : b.nm ∈ bltNms := by cases b <;> decide +kernel
theorem val_of {e' : E} (h : ∀ {q : Scp} {W : WX} {X : Cx} {x : Expr}, XOk T P G C q W X → mE P e' q x = true → PE X x (tE X.K T G C W e')) (hn : isNew e' = false)
    (ht : ∀ {q : Scp} {W : WX} {X : Cx} {x : Expr}, XOk T P G C q W X → mT P e' q x = true → PT X x (tB X.K T G C W e'))
    (hw : ∀ {q : Scp} {W : WX} {X : Cx} {op : BoolOp} {ys : List Expr} {pos : Pos}, XOk T P G C q W X → mT P e' q (.BoolOp op ys pos) = true → PW X (.BoolOp op ys pos) (tB X.K T G C W e')) : Snd P T G C e' :=
  ⟨h, (fun z => by rw [hn] at z; cases z), ht, hw⟩
theorem new_of {e' : E} (h : ∀ {q : Scp} {W : WX} {X : Cx} {x : Expr}, XOk T P G C q W X → mE P e' q x = true → PE X x (tN X.K T G C W e'))
    (ht : ∀ {q : Scp} {W : WX} {X : Cx} {x : Expr}, XOk T P G C q W X → mT P e' q x = true → PT X x (tB X.K T G C W e'))
    (hw : ∀ {q : Scp} {W : WX} {X : Cx} {op : BoolOp} {ys : List Expr} {pos : Pos}, XOk T P G C q W X → mT P e' q (.BoolOp op ys pos) = true → PW X (.BoolOp op ys pos) (tB X.K T G C W e')) : Snd P T G C e' :=
  ⟨fun ok m => SN.se (h ok m), fun _ ok m => h ok m, ht, hw⟩
theorem noT {e' : E} (h : ∀ q x, mT P e' q x = false) : ∀ {q : Scp} {W : WX} {X : Cx} {x : Expr}, XOk T P G C q W X → mT P e' q x = true → PT X x (tB X.K T G C W e') := fun {q W X x} _ m => by rw [h] at m; cases m
theorem noW {e' : E} (h : ∀ q x, mT P e' q x = false) : ∀ {q : Scp} {W : WX} {X : Cx} {op : BoolOp} {ys : List Expr} {pos : Pos}, XOk T P G C q W X → mT P e' q (.BoolOp op ys pos) = true → PW X (.BoolOp op ys pos) (tB X.K T G C W e') := fun {q W X op ys pos} _ m => by rw [h] at m; cases m

theorem cool_ {q : Scp} {W : WX} {X : Cx} (ok : XOk T P G C q W X) {b : Bl} (h : (!P.hot || coolB b) = true) : X.calm = true ∨ b = .len ∨ b = .int ∨ b = .abs ∨ b = .tuple ∨ b = .list := by
  unfold coolB at h
  simp only [Bool.or_eq_true, decide_eq_true_eq, Bool.not_eq_true'] at h
  rcases h with h | (((h | h) | h) | h) | h
  · exact .inl (ok.calm h)
  · exact .inr (.inl h)
  · exact .inr (.inr (.inl h))
  · exact .inr (.inr (.inr (.inl h)))
  · exact .inr (.inr (.inr (.inr (.inl h))))
  · exact .inr (.inr (.inr (.inr (.inr h))))
theorem xis_ {q : Scp} {W : WX} {X : Cx} (ok : XOk T P G C q W X) {i : Nat} {ks : List Cl} {t : Xt} {x y z : Str} {p1 p2 p3 pos : Pos}
    (m : (P.sx && decide (x = ("isinstance" : Str)) && glB q.sc x && decide (P.N[i]? = some y) && visB q.sc y && dbgB y && ks.all (fun c => decide (c ∈ P.xc)) && glB q.sc z && dbgB z && (match t with | .val => decide (z = ("ValueError" : Str)) | .cls c => decide (z = clNm c) && decide (c ∈ P.xc))) = true) :
    PE X (.Call (.Name x p1) [.Name y p2, .Name z p3] [] pos) (tE X.K T G C W (.xis i ks t)) := by
  simp only [Bool.and_eq_true, decide_eq_true_eq, List.all_eq_true] at m
  obtain ⟨⟨⟨⟨⟨⟨⟨⟨⟨h1, rfl⟩, h2⟩, h3⟩, h4⟩, h5⟩, h6⟩, h7⟩, h8⟩, h9⟩ := m
  obtain ⟨X', a, oe, cls, d, pn, rfl, hz, hf, hT⟩ := ok.hx h1
  refine se_xis rfl hT hz hf (fun c hc => (ok.xc c (h6 c hc)).1) (fun c hc => ?_) (ok.gl_ h2) (ok.blt _ (by decide +kernel)) ?_ (fun _ _ z => by cases z) (by have := ok.N; exact this ▸ h3) (ok.vis_ h4) (dbg_ h5).1 (dbg_ h5).2
  · cases t with
    | val => exact kit_ve (ok.xc c (h6 c hc)).1
    | cls c' =>
      simp only [Bool.and_eq_true, decide_eq_true_eq] at h9
      rw [show xtIs (.cls c') c = catches c' c from by unfold xtIs catches; exact decide_eq_decide.mpr ⟨fun h => h.imp Eq.symm id, fun h => h.imp Eq.symm id⟩]
      exact kit_pair (ok.xc c' h9.2).1 (ok.xp c (h6 c hc) c' h9.2) (ok.xp c (h6 c hc) c (h6 c hc))
  · cases t with
    | val =>
      simp only [decide_eq_true_eq] at h9
      subst h9
      exact pe_bltn (ok.gl_ h7) (ok.blt _ (by decide +kernel)) (by decide +kernel) rfl (by decide +kernel) (by decide +kernel)
    | cls c' =>
      simp only [Bool.and_eq_true, decide_eq_true_eq] at h9
      obtain ⟨rfl, h9⟩ := h9
      exact pe_glob (ok.gl_ h7) (ok.xc c' h9).2 rfl (dbg_ h8).1
mutual
theorem snd : ∀ e' : E, Snd P T G C e'
  | .v i => by
    refine val_of (fun {q W X x} ok m => ?_) rfl ?_ ?_
    · cases x <;> simp only [mE] at m <;> try (cases m; done)
      simp only [Bool.and_eq_true, decide_eq_true_eq] at m
      exact se_v (by rw [ok.N]; exact m.1.1) (ok.vis_ m.1.2) (dbg_ m.2).1 (dbg_ m.2).2
    · refine Snd.byPl (fun {q W X x} ok m => ?_) (fun {q x} m => ?_) (fun _ _ => by simp only [evalT] <;> rfl)
      · cases x <;> simp only [mE] at m <;> try (cases m; done)
        simp only [Bool.and_eq_true, decide_eq_true_eq] at m
        exact sp_v (by rw [ok.N]; exact m.1.1) (ok.vis_ m.1.2) (dbg_ m.2).1 (dbg_ m.2).2
      · cases x <;> simp only [mT] at m <;> try (cases m; done)
        exact ⟨by simp only [mE]; exact m, rfl⟩
    · exact noBool fun {q x} m => by cases x <;> simp only [mT] at m <;> first | rfl | (cases m; done)
  | .c d => by
    refine val_of (fun {q W X x} ok m => ?_) rfl (noT fun q x => by simp only [mT]) (noW fun q x => by simp only [mT])
    unfold mE at m
    split at m <;> try (cases ‹E.c d = _›; done)
    · rename_i e; cases e
      rw [decide_eq_true_eq] at m; subst m
      exact se_c pe_int (fun _ => rfl)
    · rename_i e; cases e
      rw [decide_eq_true_eq] at m; subst m
      exact se_c pe_bl (fun _ => rfl)
    · rename_i e; cases e
      exact se_c pe_non (fun _ => rfl)
    · rename_i e; cases e
      rw [decide_eq_true_eq] at m; subst m
      exact se_c pe_str (fun _ => rfl)
    · cases m
  | .g k => by
    refine val_of (fun {q W X x} ok m => ?_) rfl (noT fun q x => by simp only [mT]) (noW fun q x => by simp only [mT])
    cases x <;> simp only [mE] at m <;> try (cases m; done)
    simp only [Bool.and_eq_true, decide_eq_true_eq] at m
    obtain ⟨n, t, h1, h2⟩ := ok.gl k _ m.1.1
    exact se_g (pe_glob (ok.gl_ m.1.2) h2 ⟨t, rfl⟩ (dbg_ m.2).1) h1
  | .tup es => by
    have ih := sndEs es
    refine val_of (fun {q W X x} ok m => ?_) rfl (noT fun q x => by simp only [mT]) (noW fun q x => by simp only [mT])
    cases x <;> simp only [mE] at m <;> try (cases m; done)
    simp only [Bool.and_eq_true, decide_eq_true_eq] at m
    exact se_tup (ih.val ok m.1) m.2
  | .lst es => by
    have ih := sndEs es
    refine new_of (fun {q W X x} ok m => ?_) (noT fun q x => by simp only [mT]) (noW fun q x => by simp only [mT])
    cases x <;> simp only [mE] at m <;> try (cases m; done)
    simp only [Bool.and_eq_true, decide_eq_true_eq] at m
    exact sn_lst (ih.val ok m.1) m.2
  | .lstS e es => by
    have iha := snd e
    have ih := sndEs es
    refine new_of (fun {q W X x} ok m => ?_) (noT fun q x => by simp only [mT]) (noW fun q x => by simp only [mT])
    unfold mE at m
    split at m <;> try (cases ‹E.lstS e es = _›; done)
    · rename_i z; cases z
      simp only [Bool.and_eq_true] at m
      exact sn_lstS rfl (iha.pl ok m.1) (ih.val ok m.2)
    · cases m
  | .tupS e es => by
    have iha := snd e
    have ih := sndEs es
    refine val_of (fun {q W X x} ok m => ?_) rfl (noT fun q x => by simp only [mT]) (noW fun q x => by simp only [mT])
    unfold mE at m
    split at m <;> try (cases ‹E.tupS e es = _›; done)
    · rename_i z; cases z
      simp only [Bool.and_eq_true] at m
      exact se_tupS rfl (iha.pl ok m.1) (ih.val ok m.2)
    · cases m
  | .dct _ _ _ => val_of (fun {q W X x} ok m => by simp only [mE] at m; cases m) rfl (noT fun q x => by simp only [mT]) (noW fun q x => by simp only [mT])
  | .bin o a b => by
    have iha := snd a
    have ihb := snd b
    refine new_of (fun {q W X x} ok m => ?_) (noT fun q x => by simp only [mT]) (noW fun q x => by simp only [mT])
    cases x <;> simp only [mE] at m <;> try (cases m; done)
    simp only [Bool.and_eq_true, decide_eq_true_eq] at m
    rw [← m.1.1]
    exact se_bin (iha.val ok m.1.2) (ihb.val ok m.2)
  | .addP a b => by
    have iha := snd a
    have ihb := snd b
    refine new_of (fun {q W X x} ok m => ?_) (noT fun q x => by simp only [mT]) (noW fun q x => by simp only [mT])
    cases x <;> simp only [mE] at m <;> try (cases m; done)
    simp only [Bool.and_eq_true, decide_eq_true_eq] at m
    rw [← m.1.1]
    exact se_addP (iha.val ok m.1.2) (ihb.val ok m.2)
  | .neg a => by
    have iha := snd a
    refine val_of (fun {q W X x} ok m => ?_) rfl (noT fun q x => by simp only [mT]) (noW fun q x => by simp only [mT])
    unfold mE at m
    split at m <;> try (cases ‹E.neg a = _›; done)
    · rename_i e; cases e
      exact se_neg (iha.val ok m)
    · cases m
  | .not a => by
    have iha := snd a
    refine val_of (fun {q W X x} ok m => ?_) rfl (fun {q W X x} ok m => ?_) (fun {q W X op ys pos} ok m => by simp only [mT] at m; cases m)
    · unfold mE at m
      split at m <;> try (cases ‹E.not a = _›; done)
      · rename_i e; cases e
        exact se_not rfl (iha.pl ok m)
      · cases m
    · unfold mT at m
      split at m <;> try (cases ‹E.not a = _›; done)
      · rename_i e; cases e
        exact st_not (iha.tst ok m)
      · cases m
  | .cmp o a b => by
    have iha := snd a
    have ihb := snd b
    refine val_of (fun {q W X x} ok m => ?_) rfl (fun {q W X x} ok m => ?_) (fun {q W X op ys pos} ok m => by simp only [mT] at m; cases m)
    · unfold mE at m
      split at m <;> try (cases ‹E.cmp o a b = _›; done)
      · rename_i e; cases e
        simp only [Bool.and_eq_true, decide_eq_true_eq, Bool.not_eq_true'] at m
        obtain ⟨⟨⟨rfl, h2⟩, h3⟩, h4⟩ := m
        exact se_cmp rfl ok.hu (iha.pl ok h2) (ihb.pl ok h3) h4
      · cases m
    · unfold mT at m
      split at m <;> try (cases ‹E.cmp o a b = _›; done)
      · rename_i e; cases e
        simp only [Bool.and_eq_true, decide_eq_true_eq, Bool.not_eq_true'] at m
        obtain ⟨⟨⟨rfl, h2⟩, h3⟩, h4⟩ := m
        exact st_cmp rfl ok.hu (iha.pl ok h2) (ihb.pl ok h3) h4
      · cases m
  | .chn o p a b c => by
    have iha := snd a
    have ihb := snd b
    have ihc := snd c
    refine val_of (fun {q W X x} ok m => ?_) rfl (fun {q W X x} ok m => ?_) (fun {q W X op ys pos} ok m => by simp only [mT] at m; cases m)
    · unfold mE at m
      split at m <;> try (cases ‹E.chn o p a b c = _›; done)
      · rename_i e; cases e
        simp only [Bool.and_eq_true, decide_eq_true_eq, Bool.not_eq_true'] at m
        obtain ⟨⟨⟨⟨⟨rfl, rfl⟩, h2⟩, h3⟩, h4⟩, h5⟩ := m
        exact se_chn rfl ok.hu (iha.val ok h2) (ihb.val ok h3) (ihc.val ok h4) h5
      · cases m
    · unfold mT at m
      split at m <;> try (cases ‹E.chn o p a b c = _›; done)
      · rename_i e; cases e
        simp only [Bool.and_eq_true, decide_eq_true_eq, Bool.not_eq_true'] at m
        obtain ⟨⟨⟨⟨⟨rfl, rfl⟩, h2⟩, h3⟩, h4⟩, h5⟩ := m
        exact st_chn rfl ok.hu (iha.val ok h2) (ihb.val ok h3) (ihc.val ok h4) h5
      · cases m
  | .and a b => by
    have iha := snd a
    have ihb := snd b
    have tsw : ∀ {q : Scp} {W : WX} {X : Cx} {op : BoolOp} {ys : List Expr} {pos : Pos}, XOk T P G C q W X → mT P (.and a b) q (.BoolOp op ys pos) = true → PW X (.BoolOp op ys pos) (tB X.K T G C W (.and a b)) := fun {q W X op ys pos} ok m => by
      unfold mT at m
      split at m <;> try (cases ‹E.and a b = _›; done)
      · rename_i e e2; cases e; cases e2
        rename_i x y rest
        simp only [Bool.and_eq_true] at m
        cases rest with
        | nil => exact st_and (iha.tst ok m.1) (st_and1 (ihb.tst ok m.2))
        | cons z r => exact st_and (iha.tst ok m.1) (ihb.tsw ok m.2)
      · cases m
    refine val_of (fun {q W X x} ok m => ?_) rfl (fun {q W X x} ok m => ?_) tsw
    · unfold mE at m
      split at m <;> try (cases ‹E.and a b = _›; done)
      · rename_i e; cases e
        rename_i x y rest pos
        simp only [Bool.and_eq_true] at m
        cases rest with
        | nil => exact se_and (iha.val ok m.1) (se_one (ihb.val ok m.2))
        | cons z r => exact se_and (iha.val ok m.1) (ihb.val ok m.2)
      · cases m
    · cases x <;> try (simp only [mT] at m; cases m; done)
      exact (tsw ok m).pt
  | .or a b => by
    have iha := snd a
    have ihb := snd b
    have tsw : ∀ {q : Scp} {W : WX} {X : Cx} {op : BoolOp} {ys : List Expr} {pos : Pos}, XOk T P G C q W X → mT P (.or a b) q (.BoolOp op ys pos) = true → PW X (.BoolOp op ys pos) (tB X.K T G C W (.or a b)) := fun {q W X op ys pos} ok m => by
      unfold mT at m
      split at m <;> try (cases ‹E.or a b = _›; done)
      · rename_i e e2; cases e; cases e2
        rename_i x y rest
        simp only [Bool.and_eq_true] at m
        cases rest with
        | nil => exact st_or (iha.tst ok m.1) (st_or1 (ihb.tst ok m.2))
        | cons z r => exact st_or (iha.tst ok m.1) (ihb.tsw ok m.2)
      · cases m
    refine val_of (fun {q W X x} ok m => ?_) rfl (fun {q W X x} ok m => ?_) tsw
    · unfold mE at m
      split at m <;> try (cases ‹E.or a b = _›; done)
      · rename_i e; cases e
        rename_i x y rest pos
        simp only [Bool.and_eq_true] at m
        cases rest with
        | nil => exact se_or (iha.val ok m.1) (se_one (ihb.val ok m.2))
        | cons z r => exact se_or (iha.val ok m.1) (ihb.val ok m.2)
      · cases m
    · cases x <;> try (simp only [mT] at m; cases m; done)
      exact (tsw ok m).pt
  | .ife c a b => by
    have ihc := snd c
    have iha := snd a
    have ihb := snd b
    refine val_of (fun {q W X x} ok m => ?_) rfl (noT fun q x => by simp only [mT]) (noW fun q x => by simp only [mT])
    cases x <;> simp only [mE] at m <;> try (cases m; done)
    simp only [Bool.and_eq_true] at m
    exact se_ife (ihc.tst ok m.1.1) (iha.val ok m.1.2) (ihb.val ok m.2)
  | .ix a b => by
    have iha := snd a
    have ihb := snd b
    have v : ∀ {q : Scp} {W : WX} {X : Cx} {x : Expr}, XOk T P G C q W X → mE P (.ix a b) q x = true → PE X x (tE X.K T G C W (.ix a b)) := fun {q W X x} ok m => by
      cases x <;> simp only [mE] at m <;> try (cases m; done)
      simp only [Bool.and_eq_true] at m
      exact se_ix rfl (iha.pl ok m.1.1) (ihb.val ok m.1.2) (plX_ix m.2)
    have tp : ∀ {q x}, mT P (.ix a b) q x = true → mE P (.ix a b) q x = true ∧ plT x = true := fun {q x} m => by
      cases x <;> simp only [mT] at m <;> try (cases m; done)
      exact ⟨by simp only [mE]; exact m, rfl⟩
    exact val_of v rfl (Snd.byPl (fun ok m => sp_of (v ok m) fun _ _ => by simp only [evalP]) tp fun _ _ => by simp only [evalT] <;> rfl) (noBool fun m => (tp m).2)
  | .sl a lo hi => by
    have iha := snd a
    have ihl := sndO lo
    have ihh := sndO hi
    refine new_of (fun {q W X x} ok m => ?_) (noT fun q x => by simp only [mT]) (noW fun q x => by simp only [mT])
    unfold mE at m
    split at m <;> try (cases ‹E.sl a lo hi = _›; done)
    · rename_i e; cases e
      simp only [Bool.and_eq_true] at m
      exact sn_sl rfl (iha.pl ok m.1.1) (ihl.val ok m.1.2) (ihh.val ok m.2)
    · cases m
  | .fld a c k => by
    have iha := snd a
    have v : ∀ {q : Scp} {W : WX} {X : Cx} {x : Expr}, XOk T P G C q W X → mE P (.fld a c k) q x = true → PE X x (tE X.K T G C W (.fld a c k)) := fun {q W X x} ok m => by
      cases x <;> simp only [mE] at m <;> try (cases m; done)
      simp only [Bool.and_eq_true, decide_eq_true_eq] at m
      exact se_fld rfl (ok.cl c m.2) (by rw [ok.fl]; exact m.1.2) (iha.pl ok m.1.1.1) (base_plain m.1.1.2)
    have tp : ∀ {q x}, mT P (.fld a c k) q x = true → mE P (.fld a c k) q x = true ∧ plT x = true := fun {q x} m => by
      cases x <;> simp only [mT] at m <;> try (cases m; done)
      exact ⟨by simp only [mE]; exact m, rfl⟩
    exact val_of v rfl (Snd.byPl (fun ok m => sp_of (v ok m) fun _ _ => by simp only [evalP]) tp fun _ _ => by simp only [evalT] <;> rfl) (noBool fun m => (tp m).2)
  | .call f es => by
    have ih := sndEs es
    have v : ∀ {q : Scp} {W : WX} {X : Cx} {x : Expr}, XOk T P G C q W X → mE P (.call f es) q x = true → PE X x (tE X.K T G C W (.call f es)) := fun {q W X x} ok m => by
      unfold mE at m
      split at m <;> try (cases ‹E.call f es = _›; done)
      · rename_i e; cases e
        simp only [Bool.and_eq_true] at m
        obtain ⟨⟨⟨⟨h0, h1⟩, h2⟩, h3⟩, h4⟩ := m
        split at h1
        · rename_i x' n hc
          simp only [Bool.and_eq_true, decide_eq_true_eq] at h1
          obtain ⟨rfl, hn⟩ := h1
          cases hh : P.hot with
          | false =>
            obtain ⟨F, eg, ff⟩ := ok.fs hh f _ hc
            exact se_call rfl ok.tk ff eg (ok.gl_ h2) (ih.val ok h4) hn (dbg_ h3).1 (mEs_star h4)
          | true =>
            rw [hh] at h0
            obtain ⟨F, eg, ff⟩ := ok.fh f (by simpa using h0) _ _ hc
            exact se_callH rfl ok.tk (ok.hc hh) ff eg (ok.gl_ h2) (ih.val ok h4) hn (dbg_ h3).1 (mEs_star h4)
        · cases h1
      · cases m
    have tp : ∀ {q x}, mT P (.call f es) q x = true → mE P (.call f es) q x = true ∧ plT x = true := fun {q x} m => by
      unfold mT at m
      split at m <;> try (cases ‹E.call f es = _›; done)
      · rename_i e; cases e
        exact ⟨by simp only [mE]; exact m, rfl⟩
      · cases m
    exact val_of v rfl (Snd.byPl (fun ok m => sp_of (v ok m) fun _ _ => by simp only [evalP]) tp fun _ _ => by simp only [evalT] <;> rfl) (noBool fun m => (tp m).2)
  | .blt b es => by
    have ih := sndEs es
    have v : ∀ {q : Scp} {W : WX} {X : Cx} {x : Expr}, XOk T P G C q W X → mE P (.blt b es) q x = true → PE X x (tN X.K T G C W (.blt b es)) := fun {q W X x} ok m => by
      unfold mE at m
      split at m <;> try (cases ‹E.blt b es = _›; done)
      · rename_i e; cases e
        simp only [Bool.and_eq_true, decide_eq_true_eq] at m
        obtain ⟨⟨⟨h0, rfl⟩, h2⟩, h3⟩ := m
        exact sn_blt rfl (cool_ ok h0) (ok.gl_ h2) (ok.blt _ (blt_mem _)) (ih.pl ok h3) (mEs_star h3)
      · cases m
    have tp : ∀ {q x}, mT P (.blt b es) q x = true → mE P (.blt b es) q x = true ∧ plT x = true := fun {q x} m => by
      unfold mT at m
      split at m <;> try (cases ‹E.blt b es = _›; done)
      · rename_i e; cases e
        exact ⟨by simp only [mE]; exact m, rfl⟩
      · cases m
    exact new_of v (Snd.byPl (fun ok m => sp_of (SN.se (v ok m)) fun _ _ => by simp only [evalP]) tp fun _ _ => by simp only [evalT] <;> rfl) (noBool fun m => (tp m).2)
  | .isi a ts cs => by
    have iha := snd a
    have v : ∀ {q : Scp} {W : WX} {X : Cx} {x : Expr}, XOk T P G C q W X → mE P (.isi a ts cs) q x = true → PE X x (tE X.K T G C W (.isi a ts cs)) := fun {q W X x} ok m => by
      unfold mE at m
      split at m <;> try (cases ‹E.isi a ts cs = _›; done)
      · rename_i e; cases e
        simp only [Bool.and_eq_true, decide_eq_true_eq, List.all_eq_true] at m
        obtain ⟨⟨⟨⟨⟨⟨rfl, h2⟩, h3⟩, h4⟩, h5⟩, h6⟩, h7⟩ := m
        have hs : ∀ c ∈ cs, IsF X.K T c := fun c hc => (ok.is c (h5 c hc)).1
        split at h7
        · exact se_isi rfl hs (ok.gl_ h2) (ok.blt _ (by decide +kernel)) (iha.pl ok h3) (mTy_sound ok h7) (fun y hy a p e => by
            rcases List.mem_cons.mp hy with e' | hy
            · rw [e'] at e; exact plX_star h4 _ _ e
            · have := List.mem_singleton.mp hy
              rw [this] at e; cases e)
        · obtain ⟨t, h8, h9⟩ := mTys_sound ok h7
          exact se_isiT rfl hs (ok.gl_ h2) (ok.blt _ (by decide +kernel)) (iha.pl ok h3) h8 h9 h6 (plX_star h4)
        · cases h7
      · cases m
    have tp : ∀ {q x}, mT P (.isi a ts cs) q x = true → mE P (.isi a ts cs) q x = true ∧ plT x = true := fun {q x} m => by
      unfold mT at m
      split at m <;> try (cases ‹E.isi a ts cs = _›; done)
      · rename_i e; cases e
        exact ⟨by simp only [mE]; exact m, rfl⟩
      · cases m
    exact val_of v rfl (Snd.byPl (fun ok m => sp_of (v ok m) fun _ _ => by simp only [evalP]) tp fun _ _ => by simp only [evalT] <;> rfl) (noBool fun m => (tp m).2)
  | .comp elt t i cs own => by
    have ihe := snd elt
    have ihi := sndI i
    have ihc := sndEs cs
    refine new_of (fun {q W X x} ok m => ?_) (noT fun q x => by simp only [mT]) (noW fun q x => by simp only [mT])
    unfold mE at m
    split at m <;> try (cases ‹E.comp elt t i cs own = _›; done)
    · rename_i e; cases e
      simp only [Bool.and_eq_true, decide_eq_true_eq, List.all_eq_true, Bool.not_eq_true'] at m
      obtain ⟨⟨⟨⟨⟨⟨⟨⟨⟨h0, h1⟩, h2⟩, h3⟩, h4⟩, h5⟩, h6⟩, h7⟩, h8⟩, h9⟩ := m
      rename_i tg iter ifs scope pos
      have hi : PI X tg iter (tIt X.K T G C W i) := ihi.val ok h1 (fun ⟨e, he⟩ => by
        subst he
        simp only at h9
        cases tg <;> simp only at h9 <;> first | exact ⟨_, _, _, rfl⟩ | cases h9)
      have := sn_comp (K := X.K) (T := T) (G := G) (C := C) (W := W) (pos := pos) (ok.calm h0) (by rw [ok.N]; exact ok.nd) hi (own := ownsOf P own) (by rw [ok.N, ok.sc]; exact blkOk_by h3)
        (fun s H Ca cl fp => mTg_sound (ok.blk h0 (ok.cold h0) s H scope Ca cl fp) t tg h6) (fun s H Ca cl fp => ihc.tst (ok.blk h0 (ok.cold h0) s H scope Ca cl fp) h7) (fun s H Ca cl fp => ihe.val (ok.blk h0 (ok.cold h0) s H scope Ca cl fp) h8) (by rw [h4]; exact h5) (ntSet_ h2)
      rw [h4] at this
      exact this
    · cases m
  | .new f es => by
    have ih := sndEs es
    refine val_of (fun {q W X x} ok m => ?_) rfl (noT fun q x => by simp only [mT]) (noW fun q x => by simp only [mT])
    unfold mE at m
    split at m <;> try (cases ‹E.new f es = _›; done)
    · rename_i e; cases e
      simp only [Bool.and_eq_true, Bool.not_eq_true'] at m
      obtain ⟨⟨⟨⟨h0, h1⟩, h2⟩, h3⟩, h4⟩ := m
      split at h1
      · rename_i c' n hc
        obtain ⟨F, eg, ff⟩ := ok.fs h0 f _ hc
        simp only [Bool.and_eq_true, decide_eq_true_eq] at h1
        obtain ⟨rfl, hn⟩ := h1
        exact se_new rfl ok.tk ff eg (ok.gl_ h2) (ih.val ok h4) hn (dbg_ h3).1 (mEs_star h4)
      · cases h1
    · cases m
  | .meth f c o es => by
    have ih := sndEs es
    have iho := snd o
    have v : ∀ {q : Scp} {W : WX} {X : Cx} {x : Expr}, XOk T P G C q W X → mE P (.meth f c o es) q x = true → PE X x (tE X.K T G C W (.meth f c o es)) := fun {q W X x} ok m => by
      unfold mE at m
      split at m <;> try (cases ‹E.meth f c o es = _›; done)
      · rename_i e; cases e
        simp only [Bool.and_eq_true, decide_eq_true_eq, Bool.not_eq_true'] at m
        obtain ⟨⟨⟨⟨⟨⟨h0, h1⟩, h2⟩, h3⟩, h4⟩, h5⟩, h6⟩ := m
        split at h1
        · rename_i c' m' n hc
          obtain ⟨F, eg, ff⟩ := ok.fs h0 f _ hc
          simp only [Bool.and_eq_true, decide_eq_true_eq] at h1
          obtain ⟨⟨rfl, rfl⟩, hn⟩ := h1
          exact se_meth rfl ok.tk ff eg (iho.val ok h3) (ih.val ok h4) hn (mEs_star h4) (meth_plain h2 (mEs_star h4) h5 h6)
        · cases h1
      · cases m
    have tp : ∀ {q x}, mT P (.meth f c o es) q x = true → mE P (.meth f c o es) q x = true ∧ plT x = true := fun {q x} m => by
      unfold mT at m
      split at m <;> try (cases ‹E.meth f c o es = _›; done)
      · rename_i e; cases e
        exact ⟨by simp only [mE]; exact m, rfl⟩
      · cases m
    exact val_of v rfl (Snd.byPl (fun ok m => sp_of (v ok m) fun _ _ => by simp only [evalP]) tp fun _ _ => by simp only [evalT] <;> rfl) (noBool fun m => (tp m).2)
  | .dlen f c a => by
    have iha := snd a
    refine val_of (fun {q W X x} ok m => ?_) rfl (noT fun q x => by simp only [mT]) (noW fun q x => by simp only [mT])
    unfold mE at m
    split at m <;> try (cases ‹E.dlen f c a = _›; done)
    · rename_i e; cases e
      simp only [Bool.and_eq_true, decide_eq_true_eq] at m
      obtain ⟨⟨⟨⟨rfl, h2⟩, h3⟩, h4⟩, h5⟩ := m
      obtain ⟨F, hf, ff⟩ := ok.dun h3
      exact se_dlen rfl ff hf (ok.gl_ h2) (ok.blt _ (by decide +kernel)) (iha.val ok h4) (plX_star h5)
    · cases m
  | .din2 f c neg a b => by
    have iha := snd a
    have ihb := snd b
    refine val_of (fun {q W X x} ok m => ?_) rfl (fun {q W X x} ok m => ?_) (fun {q W X op ys pos} ok m => by simp only [mT] at m; cases m)
    · unfold mE at m
      split at m <;> try (cases ‹E.din2 f c neg a b = _›; done)
      · rename_i e; cases e
        simp only [Bool.and_eq_true, decide_eq_true_eq, Bool.not_eq_true'] at m
        obtain ⟨⟨⟨⟨h1, h2⟩, h3⟩, h4⟩, h5⟩ := m
        obtain ⟨F, hf, ff⟩ := ok.dun h2
        rw [← h1] at h5 ⊢
        exact se_din2 rfl ff hf (iha.val ok h3) (ihb.val ok h4) h5
      · cases m
    · unfold mT at m
      split at m <;> try (cases ‹E.din2 f c neg a b = _›; done)
      · rename_i e; cases e
        simp only [Bool.and_eq_true, decide_eq_true_eq, Bool.not_eq_true'] at m
        obtain ⟨⟨⟨⟨h1, h2⟩, h3⟩, h4⟩, h5⟩ := m
        obtain ⟨F, hf, ff⟩ := ok.dun h2
        rw [← h1] at h5 ⊢
        exact st_din2 rfl ff hf (iha.val ok h3) (ihb.val ok h4) h5
      · cases m
  | .dop f c o a b => by
    have iha := snd a
    have ihb := snd b
    refine val_of (fun {q W X x} ok m => ?_) rfl (fun {q W X x} ok m => ?_) (fun {q W X op ys pos} ok m => by unfold mT at m; split at m <;> first | (cases ‹E.dop f c o a b = _›; done) | (cases m; done) | (rename_i z _; cases z; done) | (rename_i z; cases z; done))
    · unfold mE at m
      split at m <;> try (cases ‹E.dop f c o a b = _›; done)
      · rename_i e; cases e
        simp only [Bool.and_eq_true, decide_eq_true_eq, Bool.not_eq_true'] at m
        obtain ⟨⟨⟨⟨⟨rfl, h1⟩, h2⟩, h3⟩, h4⟩, h5⟩ := m
        obtain ⟨F, hf, ff⟩ := ok.dun h2
        exact se_dcmp rfl (rich_ h1) ff hf (iha.val ok h3) (ihb.val ok h4) h5
      · rename_i e; cases e
        simp only [Bool.and_eq_true, decide_eq_true_eq, Bool.not_eq_true'] at m
        obtain ⟨⟨⟨rfl, h2⟩, h3⟩, h4⟩ := m
        obtain ⟨F, hf, ff⟩ := ok.dun h2
        exact se_dbin rfl ff hf (iha.val ok h3) (ihb.val ok h4)
      · cases m
    · unfold mT at m
      split at m <;> try (cases ‹E.dop f c o a b = _›; done)
      · rename_i e; cases e
        simp only [Bool.and_eq_true, decide_eq_true_eq, Bool.not_eq_true'] at m
        obtain ⟨⟨⟨⟨⟨rfl, h1⟩, h2⟩, h3⟩, h4⟩, h5⟩ := m
        obtain ⟨F, hf, ff⟩ := ok.dun h2
        exact st_dcmp rfl (rich_ h1) ff hf (iha.val ok h3) (ihb.val ok h4) h5
      · cases m
  | .idx a b => by
    have iha := snd a
    have ihb := snd b
    refine val_of (fun {q W X x} ok m => ?_) rfl (noT fun q x => by simp only [mT]) (noW fun q x => by simp only [mT])
    unfold mE at m
    split at m <;> try (cases ‹E.idx a b = _›; done)
    · rename_i e; cases e
      simp only [Bool.and_eq_true, decide_eq_true_eq] at m
      obtain ⟨⟨⟨⟨⟨rfl, h2⟩, h3⟩, h4⟩, h5⟩, h6⟩ := m
      exact se_idx rfl ok.hu (iha.pl ok h3) (ihb.val ok h4) (base_plain h2) (plX_star h5) h6
    · cases m
  | .din neg k d => by
    have ihk := snd k
    have ihd := snd d
    refine val_of (fun {q W X x} ok m => ?_) rfl (fun {q W X x} ok m => ?_) (fun {q W X op ys pos} ok m => by simp only [mT] at m; cases m)
    · unfold mE at m
      split at m <;> try (cases ‹E.din neg k d = _›; done)
      · rename_i e; cases e
        simp only [Bool.and_eq_true, decide_eq_true_eq, Bool.not_eq_true'] at m
        obtain ⟨⟨⟨h1, h2⟩, h3⟩, h4⟩ := m
        rw [← h1] at h4 ⊢
        exact se_din ok.hu (ihk.val ok h2) (ihd.pl ok h3) h4
      · cases m
    · unfold mT at m
      split at m <;> try (cases ‹E.din neg k d = _›; done)
      · rename_i e; cases e
        simp only [Bool.and_eq_true, decide_eq_true_eq, Bool.not_eq_true'] at m
        obtain ⟨⟨⟨h1, h2⟩, h3⟩, h4⟩ := m
        rw [← h1] at h4 ⊢
        exact st_din rfl ok.hu (ihk.val ok h2) (ihd.pl ok h3) h4
      · cases m
  | .dget d k => by
    have ihk := snd k
    have ihd := snd d
    refine val_of (fun {q W X x} ok m => ?_) rfl (noT fun q x => by simp only [mT]) (noW fun q x => by simp only [mT])
    cases x <;> simp only [mE] at m <;> try (cases m; done)
    simp only [Bool.and_eq_true] at m
    exact se_dget rfl ok.hu (ihd.pl ok m.1.1) (ihk.val ok m.1.2) (plX_ix m.2)
  | .orL f c a b => by
    have iha := snd a
    have ihb := snd b
    refine val_of (fun {q W X x} ok m => ?_) rfl (noT fun q x => by simp only [mT]) (noW fun q x => by simp only [mT])
    unfold mE at m
    split at m <;> try (cases ‹E.orL f c a b = _›; done)
    · rename_i z; cases z
      simp only [Bool.and_eq_true] at m
      obtain ⟨⟨h1, h2⟩, h3⟩ := m
      obtain ⟨F, hf, ff⟩ := ok.dun h1
      exact se_orL rfl ok.tk ff hf (iha.val ok h2) (ihb.val ok h3)
    · cases m
  | .orR f g c a b => by
    have iha := snd a
    have ihb := snd b
    refine val_of (fun {q W X x} ok m => ?_) rfl (noT fun q x => by simp only [mT]) (noW fun q x => by simp only [mT])
    unfold mE at m
    split at m <;> try (cases ‹E.orR f g c a b = _›; done)
    · rename_i z; cases z
      simp only [Bool.and_eq_true] at m
      obtain ⟨⟨⟨h1, h0⟩, h2⟩, h3⟩ := m
      obtain ⟨F, hf, ff⟩ := ok.dun h1
      obtain ⟨F0, _, ff0⟩ := ok.dun h0
      exact se_orR rfl ok.tk ff ff0 hf (iha.val ok h2) (ihb.val ok h3)
    · cases m
  | .lstO f c k a => by
    have iha := snd a
    refine new_of (fun {q W X x} ok m => ?_) (noT fun q x => by simp only [mT]) (noW fun q x => by simp only [mT])
    unfold mE at m
    split at m <;> try (cases ‹E.lstO f c k a = _›; done)
    · rename_i e; cases e
      simp only [Bool.and_eq_true, decide_eq_true_eq, Bool.not_eq_true'] at m
      obtain ⟨⟨⟨⟨⟨⟨h0, rfl⟩, h2⟩, h3⟩, h4⟩, h5⟩, h6⟩ := m
      obtain ⟨F, hf, ff⟩ := ok.dun h3
      obtain ⟨nd, hr, g, fld, it, hk⟩ := ok.it _ h4
      exact sn_lstO rfl (ok.calm h0) ff hf it (by rw [ok.fl]; exact nd) (by rw [ok.fl]; exact hk) hr (ok.gl_ h2) (ok.blt _ (by decide +kernel)) (iha.val ok h5) (plX_star h6)
    · cases m
  | .tupK a => by
    have iha := snd a
    refine val_of (fun {q W X x} ok m => ?_) rfl (noT fun q x => by simp only [mT]) (noW fun q x => by simp only [mT])
    unfold mE at m
    split at m <;> try (cases ‹E.tupK a = _›; done)
    · rename_i e; cases e
      simp only [Bool.and_eq_true, decide_eq_true_eq] at m
      obtain ⟨⟨⟨rfl, h2⟩, h3⟩, h4⟩ := m
      exact se_tupK rfl (ok.gl_ h2) (ok.blt _ (by decide +kernel)) (iha.pl ok h3) (plX_star h4)
    · cases m
  | .shr e => by
    have ih := snd e
    refine val_of (fun {q W X x} ok m => ?_) rfl (noT fun q x => by simp only [mT]) (noW fun q x => by simp only [mT])
    simp only [mE, Bool.and_eq_true] at m
    exact se_shr (ih.new m.1 ok m.2)
  | .rev a => by
    have iha := snd a
    refine new_of (fun {q W X x} ok m => ?_) (noT fun q x => by simp only [mT]) (noW fun q x => by simp only [mT])
    unfold mE at m
    split at m <;> try (cases ‹E.rev a = _›; done)
    · rename_i e; cases e
      simp only [Bool.and_eq_true, decide_eq_true_eq, Bool.not_eq_true'] at m
      obtain ⟨⟨⟨⟨⟨⟨h0, rfl⟩, rfl⟩, h2⟩, h3⟩, h4⟩, h5⟩ := m
      exact sn_rev rfl (ok.calm h0) (ok.gl_ h2) (ok.blt _ (by decide +kernel)) (ok.gl_ h3) (ok.blt _ (by decide +kernel)) (iha.val ok h4) (plX_star h5)
    · cases m
  | .comp2 elt t i cs t2 i2 cs2 own own2 => by
    have ihe := snd elt
    have ihi := sndI i
    have ihc := sndEs cs
    have ihi2 := sndI i2
    have ihc2 := sndEs cs2
    refine new_of (fun {q W X x} ok m => ?_) (noT fun q x => by simp only [mT]) (noW fun q x => by simp only [mT])
    unfold mE at m
    split at m <;> try (cases ‹E.comp2 elt t i cs t2 i2 cs2 own own2 = _›; done)
    · rename_i e; cases e
      simp only [Bool.and_eq_true, decide_eq_true_eq, List.all_eq_true, Bool.not_eq_true'] at m
      obtain ⟨⟨⟨⟨⟨⟨⟨⟨⟨⟨h0, h1⟩, h2⟩, h3⟩, h4⟩, h5⟩, h6⟩, h7⟩, h8⟩, h9⟩, ⟨⟨⟨⟨⟨⟨k1, k2⟩, k3⟩, k4⟩, k5⟩, k6⟩, k7⟩⟩ := m
      rename_i tg iter ifs tg2 iter2 ifs2 scope pos
      have := sn_comp2 (K := X.K) (T := T) (G := G) (C := C) (W := W) (pos := pos) (ok.calm h0) (by rw [ok.N]; exact ok.nd) (ihi.val ok h1 (enB_ h9)) (own := ownsOf P own) (own2 := own2) (by rw [ok.N, ok.sc]; exact blkOk_by h3) (by rw [h4]; exact k4)
        (fun s H Ca cl fp => mTg_sound (ok.blk h0 (ok.cold h0) s H scope Ca cl fp) t tg h6) (fun s H Ca cl fp => ihc.tst (ok.blk h0 (ok.cold h0) s H scope Ca cl fp) h7)
        (fun s H Ca cl fp => ihi2.val (ok.blk h0 (ok.cold h0) s H scope Ca cl fp) k1 (enB_ k7)) (fun s H Ca cl fp => mTg_sound (ok.blk h0 (ok.cold h0) s H scope Ca cl fp) t2 tg2 k5) (fun s H Ca cl fp => ihc2.tst (ok.blk h0 (ok.cold h0) s H scope Ca cl fp) k6)
        (fun s H Ca cl fp => ihe.val (ok.blk h0 (ok.cold h0) s H scope Ca cl fp) h8) (by rw [h4]; exact h5) k3 (ntSet_ h2) (fun env => ntSet_ k2)
      rw [h4] at this
      exact this
    · cases m
  | .xfl i c k => by
    refine val_of (fun {q W X x} ok m => ?_) rfl (noT fun q x => by simp only [mT]) (noW fun q x => by simp only [mT])
    unfold mE at m
    split at m <;> try (cases ‹E.xfl i c k = _›; done)
    · rename_i e; cases e
      simp only [Bool.and_eq_true, decide_eq_true_eq] at m
      obtain ⟨⟨⟨⟨⟨h1, h2⟩, h3⟩, h4⟩, h5⟩, h6⟩ := m
      obtain ⟨X', a, oe, cls, d, pn, rfl, hz, hf, hT⟩ := ok.hx h1
      exact se_xfl rfl hT hz hf (ok.xc c h5).1 (by rw [ok.fl]; exact h6) (by rw [ok.fl]; cases c <;> decide +kernel) (by have := ok.N; exact this ▸ h2) (ok.vis_ h3) (dbg_ h4).1 (dbg_ h4).2
    · cases m
  | .xis i ks t => by
    have v : ∀ {q : Scp} {W : WX} {X : Cx} {x : Expr}, XOk T P G C q W X → mE P (.xis i ks t) q x = true → PE X x (tE X.K T G C W (.xis i ks t)) := fun {q W X x} ok m => by
      unfold mE at m
      split at m <;> try (cases ‹E.xis i ks t = _›; done)
      · rename_i e; cases e
        exact xis_ ok m
      · cases m
    have tp : ∀ {q x}, mT P (.xis i ks t) q x = true → mE P (.xis i ks t) q x = true ∧ plT x = true := fun {q x} m => by
      unfold mT at m
      split at m <;> try (cases ‹E.xis i ks t = _›; done)
      · rename_i e; cases e
        exact ⟨by simp only [mE]; exact m, rfl⟩
      · cases m
    exact val_of v rfl (Snd.byPl (fun ok m => sp_of (v ok m) fun _ _ => by simp only [evalP]) tp fun _ _ => by simp only [evalT] <;> rfl) (noBool fun m => (tp m).2)
theorem sndEs : ∀ es' : Es, SndEs P T G C es'
  | .nil => by
    refine ⟨fun {q W X xs} ok m => ?_, fun {q W X xs} ok m => ?_, fun {q W X xs} ok m => ?_⟩
    · cases xs <;> simp only [mEs] at m <;> first | exact as_nil | (cases m; done)
    · cases xs <;> simp only [mEs] at m <;> first | exact ps_nil | (cases m; done)
    · cases xs <;> simp only [mC] at m <;> first | exact ts_nil | (cases m; done)
  | .cons e es => by
    have ihe := snd e
    have ih := sndEs es
    refine ⟨fun {q W X xs} ok m => ?_, fun {q W X xs} ok m => ?_, fun {q W X xs} ok m => ?_⟩
    · cases xs <;> simp only [mEs] at m <;> try (cases m; done)
      rename_i x xs
      have hst := (es_plain (env := X.env) (pos := ⟨0, 0, 0, 0⟩) (mEs_star (es := .cons e es) (xs := x :: xs) (P := P) (q := q) (by simp only [mEs]; exact m))).1
      simp only [Bool.and_eq_true] at m
      exact as_cons (ihe.val ok m.1.2) (ih.val ok m.2) hst
    · cases xs <;> simp only [mEs] at m <;> try (cases m; done)
      rename_i x xs
      have hst := (es_plain (env := X.env) (pos := ⟨0, 0, 0, 0⟩) (mEs_star (es := .cons e es) (xs := x :: xs) (P := P) (q := q) (by simp only [mEs]; exact m))).1
      simp only [Bool.and_eq_true] at m
      exact ps_consP (ihe.pl ok m.1.2) (ih.pl ok m.2) hst
    · unfold mC at m
      split at m <;> try (cases ‹Es.cons e es = _›; done)
      · rename_i e2; cases e2
        exact ts_one (ihe.tst ok m)
      · cases m
theorem sndO : ∀ e' : Eo, SndO P T G C e'
  | .no => ⟨fun {q W X x} ok m => by
    cases x <;> simp only [mO] at m <;> first | exact so_no | (cases m; done)⟩
  | .some e => by
    have ih := snd e
    exact ⟨fun {q W X x} ok m => by
      cases x <;> simp only [mO] at m <;> try (cases m; done)
      exact so_some (ih.val ok m)⟩
theorem sndI : ∀ i : I, SndI P T G C i
  | .seq e => by
    have ih := snd e
    exact ⟨fun {q W X tg x} ok m _ => si_seq rfl (ih.val ok (by simpa only [mI] using m))⟩
  | .rng e => by
    have ih := snd e
    refine ⟨fun {q W X tg x} ok m _ => ?_⟩
    unfold mI at m
    split at m <;> try (cases ‹I.rng e = _›; done)
    · rename_i e2; cases e2
      simp only [Bool.and_eq_true, decide_eq_true_eq] at m
      obtain ⟨⟨⟨rfl, h2⟩, h3⟩, h4⟩ := m
      exact si_rng (ok.gl_ h2) (ok.blt _ (by decide +kernel)) (ih.val ok h3) (plX_star h4)
    · cases m
  | .rng2 a b => by
    have iha := snd a
    have ihb := snd b
    refine ⟨fun {q W X tg x} ok m _ => ?_⟩
    unfold mI at m
    split at m <;> try (cases ‹I.rng2 a b = _›; done)
    · rename_i e2; cases e2
      simp only [Bool.and_eq_true, decide_eq_true_eq] at m
      obtain ⟨⟨⟨⟨⟨rfl, h2⟩, h3⟩, h4⟩, h5⟩, h6⟩ := m
      refine si_rng2 (ok.gl_ h2) (ok.blt _ (by decide +kernel)) (iha.val ok h3) (ihb.val ok h4) (fun y hy => ?_)
      rcases List.mem_cons.mp hy with e | hy
      · rw [e]; exact plX_star h5
      · rw [List.mem_singleton.mp hy]; exact plX_star h6
    · cases m
  | .enum e => by
    have ih := snd e
    refine ⟨fun {q W X tg x} ok m ht => ?_⟩
    obtain ⟨es, k, p, rfl⟩ := ht ⟨e, rfl⟩
    unfold mI at m
    split at m <;> try (cases ‹I.enum e = _›; done)
    · rename_i e2; cases e2
      simp only [Bool.and_eq_true, decide_eq_true_eq] at m
      obtain ⟨⟨⟨rfl, h2⟩, h3⟩, h4⟩ := m
      exact si_enum rfl (ok.gl_ h2) (ok.blt _ (by decide +kernel)) (ih.val ok h3) (plX_star h4)
    · cases m
  | .own c k e => by
    have ih := snd e
    refine ⟨fun {q W X tg x} ok m _ => ?_⟩
    simp only [mI, Bool.and_eq_true, decide_eq_true_eq] at m
    obtain ⟨nd, hr, g, fld, ic, hk⟩ := ok.it _ m.1
    exact si_own rfl ic (by rw [ok.fl]; exact hk) (by rw [ok.fl]; exact nd) (hr.mono (by decide)) (ih.val ok m.2)
  | .zip _ _ => ⟨fun {q W X tg x} ok m _ => by simp only [mI] at m; cases m⟩
end
end
end Qk

set_option linter.all false
set_option maxHeartbeats 8000000
set_option maxRecDepth 100000
namespace Qk
open PySem L2 L2H

def noLc : Expr → Bool
  | .ListComp .. => false
  | .SetComp .. => false
  | .DictComp .. => false
  | _ => true
def noTup : Expr → Bool
  | .Tuple .. => false
  | .List .. => false
  | _ => true
theorem noLc_sw {x : Expr} (h : noLc x = true) (t : Option Expr) (l : Nat) (env : PySem.Env) : swapsWith x t l env = pure false := by
  cases x <;> first | rfl | (simp [noLc] at h; done)
def swB (sc : Scope) (y : Str) (py : Pos) (scope : Scope) (vpos : Pos) : Bool :=
  (if sc.kind.isAnnotationScope then ScopeKind.function else sc.kind) == .function && sc.names.lookup y == some .local && py.line == vpos.line && !(scope.names.any fun (n, k) => n == y && (k == .local || k == .cell))
theorem sw_lc {elt : Expr} {gs : List Comprehension} {scope : Scope} {vpos : Pos} {y : Str} {py : Pos} {l : Nat} {env : PySem.Env} : swapsWith (.ListComp elt gs scope vpos) (some (.Name y py)) l env = pure (swB env.scope y py scope vpos) := rfl
theorem sw_lcF {elt : Expr} {gs : List Comprehension} {scope : Scope} {vpos : Pos} {o : Expr} {f : Str} {p : Pos} {l : Nat} {env : PySem.Env} : swapsWith (.ListComp elt gs scope vpos) (some (.Attribute o f p)) l env = pure false := rfl
theorem sw_tup {x : Expr} {es : List Expr} {k : Nat} {p : Pos} {l : Nat} {env : PySem.Env} : swapsWithSole [.Tuple es k p] x l env = pure false := by
  cases x <;> rfl
theorem sw_sub {x a b : Expr} {p : Pos} {l : Nat} {env : PySem.Env} : swapsWithSole [.Subscript a b p] x l env = pure false := by
  cases x <;> rfl
theorem sw_att {x o : Expr} {f : Str} {p : Pos} {l : Nat} {env : PySem.Env} : swapsWith x (some (.Attribute o f p)) l env = pure false := by
  cases x <;> rfl
theorem ss_tup {x : Expr} {es : List Expr} {k : Nat} {p : Pos} {env : PySem.Env} (h : noTup x = true) : swappedStores [.Tuple es k p] x env = pure none := by
  cases x <;> first | rfl | (simp [noTup] at h; done)
theorem ss_sub {x a b : Expr} {p : Pos} {env : PySem.Env} : swappedStores [.Subscript a b p] x env = pure none := by
  cases x <;> rfl

def noFs : Cl → Bool
  | .InvalidTable | .InvalidSizes | .LogFull | .QuorumError => true
  | _ => false
theorem noFs_ {c : Cl} (h : noFs c = true) : ∀ ds, excFs c ds = [] := by
  intro ds
  cases c <;> first | rfl | (simp [noFs] at h; done)
theorem fs_ {c : Cl} (h : noFs c = false) : ∀ ds, excFs c ds = ds := by
  intro ds
  cases c <;> first | rfl | (simp [noFs] at h; done)
def ownE : E → Bool
  | .dct .. => false
  | e => isNew e
section
def rngB : I → Expr → Bool
  | .rng _, .Call (.Name _ _) [_] [] _ => true
  | _, _ => false
theorem rngB_ {i : I} {x : Expr} (h : rngB i x = true) : ∃ e', i = .rng e' ∧ ∃ p y p2, x = .Call p [y] [] p2 := by
  unfold rngB at h
  split at h
  · exact ⟨_, rfl, _, _, _, rfl⟩
  · cases h
theorem ps_forH' {K : PySem.W.Frag} {T : Txc} {G : List Fn} {C : List Int} {W : WX} {X : Cx} (hp : PassesOwn (model X.prog X.w) X.A X.env X.xe) (hc : HotC X) {tg e : Expr} {e' : E} {p pos pos2 : Pos} {t : Tg} {b' : Ss} {body : List Stmt} (hg : Gl X "range") (hm : X.mg "range" = none) (h : PE X e (tE K T G C W e')) (hs : ∀ a p, e ≠ .Starred a p)
    (hgt : PG X tg (tG K T t)) (hb : PSs X body (tSs K T G C W b')) (hn : ∀ x, foldedSetIterable (.Call (.Name "range" p) [e] [] pos) X.env x = pure x) : PS X (.For tg (.Call (.Name "range" p) [e] [] pos) body [] pos2) (tS K T G C W (.for_ t (.rng e') b')) := by
  have hst := (es_plain (e := e) (es := []) (env := X.env) (pos := pos) fun y hy => by rw [List.mem_singleton.mp hy]; exact hs).1
  exact (ps_forH hp hc (pi_range1H hg hm (pa_cons h pa_nil hst) hst) hgt hb hn).to fun D σ H h => rng_read (for_read h)
def Par.inHot (P : Par) : Par := { P with hot := true, sx := true, e0 := [], e1 := [], it := [] }
theorem sw_subD {x o i : Expr} {p : Pos} {l : Nat} {env : PySem.Env} : swapsWith x (some (.Subscript o i p)) l env = pure false := by
  cases x <;> rfl
def dctB (P : Par) : E → Scp → Expr → Bool
  | .dct _ .nil .nil, _, .Dict [] [] _ => true
  | .dct true (.cons k .nil) (.cons v .nil), q, .Dict [some a] [b] _ => mE P k q a && mE P v q b
  | _, _, _ => false
def strOk' (e : E) (x : Expr) : Bool := noLc x || (match e, x with | .comp .., .ListComp .. => true | .comp2 .., .ListComp .. => true | _, _ => false)
mutual
def mS : Par → S → Scp → Stmt → Bool
  | P, .asg (.n i) e, q, .Assign [.Name y py] x _ => decide (P.N[i]? = some y) && locB q y && mE P e q x && strOk' e x
  | P, .asg (.t ts) e, q, .Assign [.Tuple es k tp] x _ => mTg P (.t ts) q (.Tuple es k tp) && mE P e q x && noTup x
  | P, .asgO i e, q, .Assign [.Name y py] x _ => decide (P.N[i]? = some y) && locB q y && (dctB P e q x || (mE P e q x && strOk' e x && ownE e))
  | P, .setF i c k e, q, .Assign [.Attribute (.Name y _) f _] x _ => decide (P.N[i]? = some y) && visB q.sc y && dbgB y && decide ((fldsOf c)[k]? = some f) && decide (c ∈ P.cl) && mE P e q x
  | P, .setI i e v, q, .Assign [.Subscript (.Name y _) ix _] x _ => decide (P.N[i]? = some y) && visB q.sc y && dbgB y && mE P e q ix && mE P v q x && plX ix
  | P, .augI i o e v, q, .AugAssign (.Subscript (.Name y _) ix _) op x _ => decide (P.N[i]? = some y) && visB q.sc y && dbgB y && decide (o.py = op) && !(decide (o = .pow)) && mE P e q ix && mE P v q x && plX ix
  | P, .iop i f c o e, q, .AugAssign (.Name y _) op x _ => decide (P.N[i]? = some y) && locB q y && decide (o.py = op) && isDun P f c (dunderI o.py.info.2) 2 && mE P e q x
  | P, .aug i o e, q, .AugAssign (.Name y _) op x _ => decide (P.N[i]? = some y) && locB q y && decide (o.py = op) && !(decide (o = .pow)) && mE P e q x
  | P, .app i e, q, .Expr (.Call (.Attribute (.Name y _) a apos) [x] [] cpos) _ => decide (a = ("append" : Str)) && decide (P.N[i]? = some y) && visB q.sc y && dbgB y && mE P e q x && plX x && (apos.endLine == cpos.line)
  | P, .expr e, q, .Expr x _ => mE P e q x && noLc x
  | P, .if_ c a b, q, .If x xs ys _ => mT P c q x && mSs P a q xs && mSs P b q ys
  | P, .while_ c b, q, .While x xs [] _ => !P.hot && mT P c q x && mSs P b q xs
  | P, .for_ t i b, q, .For tg iter xs [] _ => (!P.hot || rngB i iter) && mTg P t q tg && mI P i q iter && ntSet iter && mSs P b q xs && (match i with | .enum _ => (match tg with | .Tuple .. => true | _ => false) | _ => true)
  | P, .ret e, q, .Return (some x) _ => mE P e q x
  | P, .retN, _, .Return none _ => true
  | P, .raise c es, q, .Raise (some (.Call (.Name x _) (y :: ys) [] _)) none _ => !P.hot && decide (clNm c = x) && glB q.sc x && dbgB x &&
      ((noFs c && decide (c ∈ P.e0) && (match es, y, ys with | .cons (.c (.str m)) .nil, .Constant (.str m') _ _, [] => decide (m = m') | _, _, _ => false)) ||
       (!(noFs c) && decide (c ∈ P.e1) && mEs P es q (y :: ys) && decide (es.len = (fldsOf c).length) && decide (es.len ≤ 100)))
  | P, .brk, _, .Break _ => true
  | P, .cnt, _, .Continue _ => true
  | P, .pass, _, .Pass _ => true
  | P, .never, _, _ => true
  | P, .setD i e v, q, .Assign [.Subscript (.Name y _) ix _] x _ => decide (P.N[i]? = some y) && visB q.sc y && dbgB y && mE P e q ix && mE P v q x
  | P, .sdIf i k v w b, q, .If (.Compare (.Call (.Attribute (.Name y _) a apos) [x1, x2] [] cpos) [.NotEq] [z] _) xs [] _ => decide (a = ("setdefault" : Str)) && decide (P.N[i]? = some y) && visB q.sc y && dbgB y && mE P k q x1 && mE P v q x2 && plX x1 && plX x2 && mE P w q z && mSs P b q xs && (apos.endLine == cpos.line)
  | P, .insL i j e, q, .Expr (.Call (.Attribute (.Name y _) a apos) [x1, x2] [] cpos) _ => decide (a = ("insert" : Str)) && decide (P.N[i]? = some y) && visB q.sc y && dbgB y && mE P j q x1 && mE P e q x2 && plX x1 && plX x2 && (apos.endLine == cpos.line)
  | P, .popL i, q, .Expr (.Call (.Attribute (.Name y _) a apos) [] [] cpos) _ => decide (a = ("pop" : Str)) && decide (P.N[i]? = some y) && visB q.sc y && dbgB y && (apos.endLine == cpos.line)
  | P, .appE o e, q, .Expr (.Call (.Attribute y a apos) [x] [] cpos) _ => decide (a = ("append" : Str)) && plO y && mE P o q y && mE P e q x && plX x && (apos.endLine == cpos.line)
  | P, .tryc b hs, q, .Try xs (h :: hds) [] [] _ => !P.hot && mSs P b q xs && mHs P hs q (h :: hds)
  | _, _, _, _ => false
def mSs : Par → Ss → Scp → List Stmt → Bool
  | P, .nil, _, [] => true
  | P, .cons (.frz _) ss, q, xs => mSs P ss q xs
  | P, .cons (.shrO _) ss, q, xs => mSs P ss q xs
  | P, .cons (.wip _) ss, q, xs => mSs P ss q xs
  | P, .cons s ss, q, x :: xs => mS P s q x && mSs P ss q xs
  | _, _, _, _ => false
def mHs : Par → Hs → Scp → List ExceptHandler → Bool
  | _, .nil, _, [] => true
  | P, .cons c ks none b hs, q, .ExceptHandler (some (.Name x _)) none (s :: ss) _ :: hds => decide (clNm c = x) && glB q.sc x && dbgB x && decide (c ∈ P.xc) && ks.all (fun c => decide (c ∈ P.xc)) && mSs P.inHot b q (s :: ss) && mHs P hs q hds
  | P, .cons c ks (some i) b hs, q, .ExceptHandler (some (.Name x _)) (some n) (s :: ss) _ :: hds => decide (clNm c = x) && glB q.sc x && dbgB x && decide (c ∈ P.xc) && ks.all (fun c => decide (c ∈ P.xc)) && decide (P.N[i]? = some n) && decide (q.sc.names.lookup n = some .local) && mSs P.inHot b q (s :: ss) && mHs P hs q hds
  | _, _, _, _ => false
end
end

section
variable {T : Txc} {P : Par} {G : List Fn} {C : List Int}
theorem comp_parts {q : Scp} {W : WX} {X : Cx} {elt : E} {t : Tg} {i : I} {cs : Es} {own : List Nat} {x : Expr} (ok : XOk T P G C q W X) (m : mE P (.comp elt t i cs own) q x = true) :
    ∃ elx tg iter ifs scope pos, P.hot = false ∧ x = .ListComp elx [⟨tg, iter, ifs, 0⟩] scope pos ∧ (ownsOf P own).map (·.2) = own ∧ PI X tg iter (tIt X.K T G C W i) ∧ BlkOk X.N X.env.scope scope (ownsOf P own) ∧
    (∀ (s : Shared) (H : Hp) (Ca : Addr) (cl : List (Str × Addr)) (fp : List Addr), PG (X.blk s H scope (compEnvC scope cl Ca X.env) fp) tg (tG X.K T t)) ∧
    (∀ (s : Shared) (H : Hp) (Ca : Addr) (cl : List (Str × Addr)) (fp : List Addr), PTs (X.blk s H scope (compEnvC scope cl Ca X.env) fp) ifs (tBs X.K T G C W0 cs)) ∧
    (∀ (s : Shared) (H : Hp) (Ca : Addr) (cl : List (Str × Addr)) (fp : List Addr), PE (X.blk s H scope (compEnvC scope cl Ca X.env) fp) elx (tE X.K T G C W0 elt)) ∧
    (∀ j ∈ t.slots, j ∈ own) ∧ (∀ x, foldedSetIterable iter X.env x = pure x) := by
  unfold mE at m
  split at m <;> try (cases ‹E.comp elt t i cs own = _›; done)
  · rename_i e; cases e
    simp only [Bool.and_eq_true, decide_eq_true_eq, List.all_eq_true, Bool.not_eq_true'] at m
    obtain ⟨⟨⟨⟨⟨⟨⟨⟨⟨h0, h1⟩, h2⟩, h3⟩, h4⟩, h5⟩, h6⟩, h7⟩, h8⟩, h9⟩ := m
    rename_i tg iter ifs scope pos
    have hi : PI X tg iter (tIt X.K T G C W i) := (sndI i).val ok h1 (fun ⟨e, he⟩ => by
      subst he
      simp only at h9
      cases tg <;> simp only at h9 <;> first | exact ⟨_, _, _, rfl⟩ | cases h9)
    exact ⟨_, tg, iter, ifs, scope, pos, h0, rfl, h4, hi, by rw [ok.N, ok.sc]; exact blkOk_by h3,
      fun s H Ca cl fp => mTg_sound (ok.blk h0 (ok.cold h0) s H scope Ca cl fp) t tg h6, fun s H Ca cl fp => (sndEs cs).tst (ok.blk h0 (ok.cold h0) s H scope Ca cl fp) h7, fun s H Ca cl fp => (snd elt).val (ok.blk h0 (ok.cold h0) s H scope Ca cl fp) h8, h5, ntSet_ h2⟩
  · cases m
theorem comp2_parts {q : Scp} {W : WX} {X : Cx} {elt : E} {t t2 : Tg} {i i2 : I} {cs cs2 : Es} {own own2 : List Nat} {x : Expr} (ok : XOk T P G C q W X) (m : mE P (.comp2 elt t i cs t2 i2 cs2 own own2) q x = true) :
    ∃ elx tg iter ifs tg2 iter2 ifs2 scope pos, P.hot = false ∧ x = .ListComp elx [⟨tg, iter, ifs, 0⟩, ⟨tg2, iter2, ifs2, 0⟩] scope pos ∧ (ownsOf P own).map (·.2) = own ∧ PI X tg iter (tIt X.K T G C W i) ∧ BlkOk X.N X.env.scope scope (ownsOf P own) ∧ (∀ j ∈ own2, j ∈ own) ∧
    (∀ (s : Shared) (H : Hp) (Ca : Addr) (cl : List (Str × Addr)) (fp : List Addr), PG (X.blk s H scope (compEnvC scope cl Ca X.env) fp) tg (tG X.K T t)) ∧
    (∀ (s : Shared) (H : Hp) (Ca : Addr) (cl : List (Str × Addr)) (fp : List Addr), PTs (X.blk s H scope (compEnvC scope cl Ca X.env) fp) ifs (tBs X.K T G C W0 cs)) ∧
    (∀ (s : Shared) (H : Hp) (Ca : Addr) (cl : List (Str × Addr)) (fp : List Addr), PI (X.blk s H scope (compEnvC scope cl Ca X.env) fp) tg2 iter2 (tIt X.K T G C W0 i2)) ∧
    (∀ (s : Shared) (H : Hp) (Ca : Addr) (cl : List (Str × Addr)) (fp : List Addr), PG (X.blk s H scope (compEnvC scope cl Ca X.env) fp) tg2 (tG X.K T t2)) ∧
    (∀ (s : Shared) (H : Hp) (Ca : Addr) (cl : List (Str × Addr)) (fp : List Addr), PTs (X.blk s H scope (compEnvC scope cl Ca X.env) fp) ifs2 (tBs X.K T G C W0 cs2)) ∧
    (∀ (s : Shared) (H : Hp) (Ca : Addr) (cl : List (Str × Addr)) (fp : List Addr), PE (X.blk s H scope (compEnvC scope cl Ca X.env) fp) elx (tE X.K T G C W0 elt)) ∧
    (∀ j ∈ t.slots, j ∈ own) ∧ (∀ j ∈ t2.slots, j ∈ own2) ∧ (∀ x, foldedSetIterable iter X.env x = pure x) ∧ (∀ env x, foldedSetIterable iter2 env x = pure x) := by
  unfold mE at m
  split at m <;> try (cases ‹E.comp2 elt t i cs t2 i2 cs2 own own2 = _›; done)
  · rename_i e; cases e
    simp only [Bool.and_eq_true, decide_eq_true_eq, List.all_eq_true, Bool.not_eq_true'] at m
    obtain ⟨⟨⟨⟨⟨⟨⟨⟨⟨⟨h0, h1⟩, h2⟩, h3⟩, h4⟩, h5⟩, h6⟩, h7⟩, h8⟩, h9⟩, ⟨⟨⟨⟨⟨⟨k1, k2⟩, k3⟩, k4⟩, k5⟩, k6⟩, k7⟩⟩ := m
    rename_i tg iter ifs tg2 iter2 ifs2 scope pos
    exact ⟨_, tg, iter, ifs, tg2, iter2, ifs2, scope, pos, h0, rfl, h4, (sndI i).val ok h1 (enB_ h9), by rw [ok.N, ok.sc]; exact blkOk_by h3, k4,
      fun s H Ca cl fp => mTg_sound (ok.blk h0 (ok.cold h0) s H scope Ca cl fp) t tg h6, fun s H Ca cl fp => (sndEs cs).tst (ok.blk h0 (ok.cold h0) s H scope Ca cl fp) h7,
      fun s H Ca cl fp => (sndI i2).val (ok.blk h0 (ok.cold h0) s H scope Ca cl fp) k1 (enB_ k7), fun s H Ca cl fp => mTg_sound (ok.blk h0 (ok.cold h0) s H scope Ca cl fp) t2 tg2 k5, fun s H Ca cl fp => (sndEs cs2).tst (ok.blk h0 (ok.cold h0) s H scope Ca cl fp) k6,
      fun s H Ca cl fp => (snd elt).val (ok.blk h0 (ok.cold h0) s H scope Ca cl fp) h8, h5, k3, ntSet_ h2, fun env => ntSet_ k2⟩
  · cases m
theorem swB_loc {sc : Scope} {y : Str} {py : Pos} {scope : Scope} {vpos : Pos} (h : swB sc y py scope vpos = true) : sc.names.lookup y = some .local := by
  unfold swB at h
  simp only [Bool.and_eq_true, beq_iff_eq] at h
  exact h.1.1.2
theorem asgN_sound {q : Scp} {W : WX} {X : Cx} (ok : XOk T P G C q W X) {i : Nat} {y : Str} {py pos : Pos} {x : Expr} {e : E} (h1 : P.N[i]? = some y) (h2 : locB q y = true) (h3 : mE P e q x = true) (h4 : strOk' e x = true) :
    PS X (.Assign [.Name y py] x pos) (tS X.K T G C W (.asg (.n i) e)) := by
  have hN : X.N.Nodup := by rw [ok.N]; exact ok.nd
  have hi : X.N[i]? = some y := by rw [ok.N]; exact h1
  obtain ⟨l1, l2⟩ := ok.loc_ h2
  have pl : swapsWith x (some (.Name y py)) pos.line X.env = pure false → PS X (.Assign [.Name y py] x pos) (tS X.K T G C W (.asg (.n i) e)) := fun hs => ps_asgN' hN hi l1 l2 ((snd e).val ok h3) hs
  by_cases hn : noLc x = true
  · exact pl (noLc_sw hn _ _ _)
  · cases x <;> first | (exact absurd rfl hn) | (cases e <;> simp [strOk', noLc] at h4; done) | skip
    rename_i elx gs scope vpos
    cases hb : swB X.env.scope y py scope vpos with
    | false => exact pl (by rw [sw_lc, hb])
    | true =>
      cases e <;> first | (simp [strOk', noLc] at h4; done) | skip
      · rename_i elt t it cs own
        obtain ⟨_, tg, iter, ifs, scope', pos', hh, ex, e2, p1, p2, p3, p4, p5, p6, p7⟩ := comp_parts ok h3
        cases ex
        have := ps_lcN' (own := ownsOf P own) (ok.calm hh) hN hi (swB_loc hb) (by rw [sw_lc, hb]) p1 p2 p3 p4 p5 (by rw [e2]; exact p6) p7 (spos := pos)
        rw [e2] at this
        exact this
      · rename_i elt t it cs t2 it2 cs2 own own2
        obtain ⟨_, tg, iter, ifs, tg2, iter2, ifs2, scope', pos', hh, ex, e2, p1, p2, p0, p3, p4, p5, p6, p7, p8, p9, p10, p11, p12⟩ := comp2_parts ok h3
        cases ex
        have := ps_lcN2' (own := ownsOf P own) (own2 := own2) (ok.calm hh) hN hi (swB_loc hb) (by rw [sw_lc, hb]) p1 p2 (by rw [e2]; exact p0) p3 p4 p5 p6 p7 p8 (by rw [e2]; exact p9) p10 p11 p12 (spos := pos)
        rw [e2] at this
        exact this
theorem asgO_sound {q : Scp} {W : WX} {X : Cx} (ok : XOk T P G C q W X) {i : Nat} {y : Str} {py pos : Pos} {x : Expr} {e : E} (h1 : P.N[i]? = some y) (h2 : locB q y = true) (h3 : mE P e q x = true) (h4 : strOk' e x = true) (h5 : ownE e = true) :
    PS X (.Assign [.Name y py] x pos) (tS X.K T G C W (.asgO i e)) := by
  have hN : X.N.Nodup := by rw [ok.N]; exact ok.nd
  have hi : X.N[i]? = some y := by rw [ok.N]; exact h1
  obtain ⟨l1, l2⟩ := ok.loc_ h2
  have hd : ∀ t ks vs, e ≠ .dct t ks vs := fun t ks vs z => by
    subst z
    simp [ownE] at h5
  have hnew : isNew e = true := by
    cases e <;> first | exact h5 | (simp [ownE] at h5; done)
  have pl : swapsWith x (some (.Name y py)) pos.line X.env = pure false → PS X (.Assign [.Name y py] x pos) (tS X.K T G C W (.asgO i e)) := fun hs => ps_asgO' hN hi l1 l2 ((snd e).new hnew ok h3) hd hs
  by_cases hn : noLc x = true
  · exact pl (noLc_sw hn _ _ _)
  · cases x <;> first | (exact absurd rfl hn) | (cases e <;> simp [strOk', noLc] at h4; done) | skip
    rename_i elx gs scope vpos
    cases hb : swB X.env.scope y py scope vpos with
    | false => exact pl (by rw [sw_lc, hb])
    | true =>
      cases e <;> first | (simp [strOk', noLc] at h4; done) | skip
      · rename_i elt t it cs own
        obtain ⟨_, tg, iter, ifs, scope', pos', hh, ex, e2, p1, p2, p3, p4, p5, p6, p7⟩ := comp_parts ok h3
        cases ex
        have := ps_lcO' (own := ownsOf P own) (ok.calm hh) hN hi (swB_loc hb) (by rw [sw_lc, hb]) p1 p2 p3 p4 p5 (by rw [e2]; exact p6) p7 (spos := pos)
        rw [e2] at this
        exact this
      · rename_i elt t it cs t2 it2 cs2 own own2
        obtain ⟨_, tg, iter, ifs, tg2, iter2, ifs2, scope', pos', hh, ex, e2, p1, p2, p0, p3, p4, p5, p6, p7, p8, p9, p10, p11, p12⟩ := comp2_parts ok h3
        cases ex
        have := ps_lcO2' (own := ownsOf P own) (own2 := own2) (ok.calm hh) hN hi (swB_loc hb) (by rw [sw_lc, hb]) p1 p2 (by rw [e2]; exact p0) p3 p4 p5 p6 p7 p8 (by rw [e2]; exact p9) p10 p11 p12 (spos := pos)
        rw [e2] at this
        exact this
theorem dct_sound {q : Scp} {W : WX} {X : Cx} (ok : XOk T P G C q W X) {i : Nat} {y : Str} {py pos : Pos} {x : Expr} {e : E} (h1 : P.N[i]? = some y) (h2 : locB q y = true) (h3 : dctB P e q x = true) : PS X (.Assign [.Name y py] x pos) (tS X.K T G C W (.asgO i e)) := by
  have hN : X.N.Nodup := by rw [ok.N]; exact ok.nd
  have hi : X.N[i]? = some y := by rw [ok.N]; exact h1
  obtain ⟨l1, l2⟩ := ok.loc_ h2
  unfold dctB at h3
  split at h3
  · exact ps_asgD0' hN hi l1 l2 (noLc_sw rfl _ _ _)
  · simp only [Bool.and_eq_true] at h3
    exact ps_asgD1' rfl ok.hu hN hi l1 l2 ((snd _).val ok h3.1) ((snd _).val ok h3.2) (noLc_sw rfl _ _ _)
  · cases h3
theorem two_star {x y : Expr} (h1 : plX x = true) (h2 : plX y = true) : ∀ z ∈ [x, y], ∀ a p, z ≠ .Starred a p := fun z hz => by
  simp only [List.mem_cons, List.not_mem_nil, or_false] at hz
  rcases hz with rfl | rfl
  · exact plX_star h1
  · exact plX_star h2
theorem nm_ {q : Scp} {W : WX} {X : Cx} (ok : XOk T P G C q W X) {i : Nat} {y : Str} {py : Pos} (h1 : P.N[i]? = some y) (h2 : visB q.sc y = true) (h3 : dbgB y = true) : PE X (.Name y py) (tVar i) :=
  nm (by rw [ok.N]; exact h1) (ok.vis_ h2) (dbg_ h3).1 (dbg_ h3).2
theorem sub_assign {o ix : Expr} {tpos : Pos} {env : PySem.Env} (h : plX ix = true) : ∀ v, assign (.Subscript o ix tpos) env v = (do
      let ov ← holding [v] (eval o env)
      let iv ← holding [v, ov] (eval ix env)
      standAt tpos
      holding [v, ov, iv] (setItem ov iv v)
      release [v, ov, iv] []) := by
  intro v
  cases ix <;> first | (simp [plX] at h; done) | simp only [assign]
theorem aug_plX {ix : Expr} (h : plX ix = true) : ∀ ov iv new, augStore ix ov iv new = (do holding [new, ov, iv] (setItem ov iv new); release [new, ov, iv] []; pure .next) := by
  intro ov iv new
  cases ix <;> first | (simp [plX] at h; done) | rfl
theorem fl_len (c : Cl) : (fldsOf c).length < 100 := by cases c <;> decide
def Sur (P : Par) (X : Cx) : Prop := PassesOwn (model X.prog X.w) X.A X.env X.xe ∧ (P.hot = false → X.stack = X.env :: X.outer ∧ X.env.frame = some X.env.locals)
mutual
theorem sndS : ∀ (s : S) (T : Txc) (P : Par) (q : Scp) (W : WX) (X : Cx) (x : Stmt), XOk T P G C q W X → Sur P X → mS P s q x = true → PS X x (tS X.K T G C W s)
  | .asg (.n i) e => fun T P q W X x ok hp m => by
    unfold mS at m
    split at m <;> try (cases ‹S.asg (.n i) e = _›; done)
    · rename_i z; cases z
      simp only [Bool.and_eq_true, decide_eq_true_eq] at m
      exact asgN_sound ok m.1.1.1 m.1.1.2 m.1.2 m.2
    · cases m
  | .asg (.t ts) e => fun T P q W X x ok hp m => by
    unfold mS at m
    split at m <;> try (cases ‹S.asg (.t ts) e = _›; done)
    · rename_i z; cases z
      simp only [Bool.and_eq_true] at m
      exact ps_asg' ((snd e).val ok m.1.2) (mTg_sound ok _ _ m.1.1) sw_tup (ss_tup m.2) rfl
    · cases m
  | .asgO i e => fun T P q W X x ok hp m => by
    unfold mS at m
    split at m <;> try (cases ‹S.asgO i e = _›; done)
    · rename_i z; cases z
      simp only [Bool.and_eq_true, decide_eq_true_eq, Bool.or_eq_true] at m
      obtain ⟨⟨h1, h2⟩, h3 | ⟨⟨h3, h4⟩, h5⟩⟩ := m
      · exact dct_sound ok h1 h2 h3
      · exact asgO_sound ok h1 h2 h3 h4 h5
    · cases m
  | .setF i c k e => fun T P q W X x ok hp m => by
    unfold mS at m
    split at m <;> try (cases ‹S.setF i c k e = _›; done)
    · rename_i z; cases z
      simp only [Bool.and_eq_true, decide_eq_true_eq] at m
      obtain ⟨⟨⟨⟨⟨h1, h2⟩, h3⟩, h4⟩, h5⟩, h6⟩ := m
      exact ps_setF' rfl (ok.cl c h5) (by rw [ok.fl]; exact h4) (by rw [ok.fl]; exact fl_len c) (nm_ ok h1 h2 h3) ((snd e).val ok h6) sw_att
    · cases m
  | .setI i e v => fun T P q W X x ok hp m => by
    unfold mS at m
    split at m <;> try (cases ‹S.setI i e v = _›; done)
    · rename_i z; cases z
      simp only [Bool.and_eq_true, decide_eq_true_eq] at m
      obtain ⟨⟨⟨⟨⟨h1, h2⟩, h3⟩, h4⟩, h5⟩, h6⟩ := m
      exact ps_setI' rfl (nm_ ok h1 h2 h3) ((snd e).val ok h4) ((snd v).val ok h5) set_list (sub_assign h6) sw_sub ss_sub
    · cases m
  | .augI i o e v => fun T P q W X x ok hp m => by
    unfold mS at m
    split at m <;> try (cases ‹S.augI i o e v = _›; done)
    · rename_i z; cases z
      simp only [Bool.and_eq_true, decide_eq_true_eq, Bool.not_eq_true', decide_eq_false_iff_not] at m
      obtain ⟨⟨⟨⟨⟨⟨⟨h1, h2⟩, h3⟩, rfl⟩, h4⟩, h5⟩, h6⟩, h7⟩ := m
      exact ps_augI' rfl (nm_ ok h1 h2 h3) ((snd e).val ok h5) ((snd v).val ok h6) h4 (aug_plX h7)
    · cases m
  | .setD i e v => fun T P q W X x ok hp m => by
    unfold mS at m
    split at m <;> try (cases ‹S.setD i e v = _›; done)
    · rename_i z; cases z
      simp only [Bool.and_eq_true, decide_eq_true_eq] at m
      obtain ⟨⟨⟨⟨h1, h2⟩, h3⟩, h4⟩, h5⟩ := m
      exact ps_setD' rfl ok.hu (nm_ ok h1 h2 h3) ((snd e).val ok h4) ((snd v).val ok h5) sw_subD
    · cases m
  | .sdIf i k v w b => by
    have ihb := sndSs b
    refine fun T P q W X x ok hp m => ?_
    unfold mS at m
    split at m <;> try (cases ‹S.sdIf i k v w b = _›; done)
    · rename_i z; cases z
      simp only [Bool.and_eq_true, decide_eq_true_eq] at m
      obtain ⟨⟨⟨⟨⟨⟨⟨⟨⟨⟨rfl, h1⟩, h2⟩, h3⟩, h4⟩, h5⟩, h6⟩, h7⟩, h8⟩, h9⟩, h10⟩ := m
      exact ps_sdIf' rfl ok.hu (nm_ ok h1 h2 h3) (base_plain rfl) ((snd k).val ok h4) ((snd v).val ok h5) ((snd w).val ok h8) (ihb _ _ _ _ _ _ ok hp h9) (two_star h6 h7) h10
    · cases m
  | .insL i j e => fun T P q W X x ok hp m => by
    unfold mS at m
    split at m <;> try (cases ‹S.insL i j e = _›; done)
    · rename_i z; cases z
      simp only [Bool.and_eq_true, decide_eq_true_eq] at m
      obtain ⟨⟨⟨⟨⟨⟨⟨⟨rfl, h1⟩, h2⟩, h3⟩, h4⟩, h5⟩, h6⟩, h7⟩, h8⟩ := m
      exact ps_ins' rfl (nm_ ok h1 h2 h3) (base_plain rfl) ((snd j).val ok h4) ((snd e).val ok h5) (two_star h6 h7) h8
    · cases m
  | .popL i => fun T P q W X x ok hp m => by
    unfold mS at m
    split at m <;> try (cases ‹S.popL i = _›; done)
    · rename_i z; cases z
      simp only [Bool.and_eq_true, decide_eq_true_eq] at m
      obtain ⟨⟨⟨⟨rfl, h1⟩, h2⟩, h3⟩, h4⟩ := m
      exact ps_pop' rfl (nm_ ok h1 h2 h3) (base_plain rfl) h4
    · cases m
  | .appE a e => fun T P q W X x ok hp m => by
    unfold mS at m
    split at m <;> try (cases ‹S.appE a e = _›; done)
    · rename_i z; cases z
      simp only [Bool.and_eq_true, decide_eq_true_eq] at m
      obtain ⟨⟨⟨⟨⟨rfl, h2⟩, h3⟩, h4⟩, h5⟩, h6⟩ := m
      exact ps_appE' rfl ((snd a).val ok h3) (base_plain h2) ((snd e).val ok h4) (plX_star h5) h6
    · cases m
  | .frz _ => fun T P q W X x ok hp m => by simp only [mS] at m; cases m
  | .shrO _ => fun T P q W X x ok hp m => by simp only [mS] at m; cases m
  | .wip _ => fun T P q W X x ok hp m => by simp only [mS] at m; cases m
  | .iop i f c o e => fun T P q W X x ok hp m => by
    unfold mS at m
    split at m <;> try (cases ‹S.iop i f c o e = _›; done)
    · rename_i z; cases z
      simp only [Bool.and_eq_true, decide_eq_true_eq] at m
      obtain ⟨⟨⟨⟨h1, h2⟩, rfl⟩, h4⟩, h5⟩ := m
      obtain ⟨l1, l2⟩ := ok.loc_ h2
      obtain ⟨F, hf, ff⟩ := ok.dun h4
      exact ps_iop' (n := 0) rfl ok.tk (by rw [ok.N]; exact ok.nd) (by rw [ok.N]; exact h1) l1 l2 ff hf ((snd e).val ok h5)
    · cases m
  | .aug i o e => fun T P q W X x ok hp m => by
    unfold mS at m
    split at m <;> try (cases ‹S.aug i o e = _›; done)
    · rename_i z; cases z
      simp only [Bool.and_eq_true, decide_eq_true_eq, Bool.not_eq_true', decide_eq_false_iff_not] at m
      obtain ⟨⟨⟨⟨h1, h2⟩, rfl⟩, h4⟩, h5⟩ := m
      obtain ⟨l1, l2⟩ := ok.loc_ h2
      exact ps_aug' (by rw [ok.N]; exact ok.nd) (by rw [ok.N]; exact h1) l1 l2 h4 ((snd e).val ok h5)
    · cases m
  | .app i e => fun T P q W X x ok hp m => by
    unfold mS at m
    split at m <;> try (cases ‹S.app i e = _›; done)
    · rename_i z; cases z
      simp only [Bool.and_eq_true, decide_eq_true_eq] at m
      obtain ⟨⟨⟨⟨⟨⟨rfl, h1⟩, h2⟩, h3⟩, h4⟩, h5⟩, h6⟩ := m
      exact ps_app' rfl (nm_ ok h1 h2 h3) (base_plain rfl) ((snd e).val ok h4) (plX_star h5) h6
    · cases m
  | .expr e => fun T P q W X x ok hp m => by
    unfold mS at m
    split at m <;> try (cases ‹S.expr e = _›; done)
    · rename_i z; cases z
      simp only [Bool.and_eq_true] at m
      exact ps_expr' ((snd e).val ok m.1) (noLc_sw m.2 _ _ _)
    · cases m
  | .if_ c a b => by
    have iha := sndSs a
    have ihb := sndSs b
    refine fun T P q W X x ok hp m => ?_
    unfold mS at m
    split at m <;> try (cases ‹S.if_ c a b = _›; done)
    · rename_i z; cases z
      simp only [Bool.and_eq_true] at m
      exact ps_if' ((snd c).tst ok m.1.1) (iha _ _ _ _ _ _ ok hp m.1.2) (ihb _ _ _ _ _ _ ok hp m.2)
    · cases m
  | .while_ c b => by
    have ihb := sndSs b
    refine fun T P q W X x ok hp m => ?_
    unfold mS at m
    split at m <;> try (cases ‹S.while_ c b = _›; done)
    · rename_i z; cases z
      simp only [Bool.and_eq_true, Bool.not_eq_true'] at m
      exact ps_while' hp.1 ((snd c).tst ok m.1.2) (ihb _ _ _ _ _ _ ok hp m.2)
    · cases m
  | .for_ t i b => by
    have ihb := sndSs b
    refine fun T P q W X x ok hp m => ?_
    unfold mS at m
    split at m <;> try (cases ‹S.for_ t i b = _›; done)
    · rename_i z; cases z
      simp only [Bool.and_eq_true] at m
      obtain ⟨⟨⟨⟨⟨h0, h1⟩, h2⟩, h3⟩, h4⟩, h5⟩ := m
      rename_i tg iter xs pos
      rcases ok.hotOr with hh | hh
      · rw [hh] at h0
        obtain ⟨e', rfl, p, y, p2, rfl⟩ := rngB_ (by simpa using h0)
        unfold mI at h2
        split at h2 <;> try (cases ‹I.rng e' = _›; done)
        · rename_i e2 e3; cases e2; cases e3
          simp only [Bool.and_eq_true, decide_eq_true_eq] at h2
          obtain ⟨⟨⟨rfl, q2⟩, q3⟩, q4⟩ := h2
          exact ps_forH' hp.1 (ok.hc hh) (ok.gl_ q2) (ok.blt _ (by decide +kernel)) ((snd e').val ok q3) (plX_star q4) (mTg_sound ok t tg h1) (ihb _ _ _ _ _ _ ok hp h4) (ntSet_ h3)
        · cases h2
      have h0 := hh
      have hi : PI X tg iter (tIt X.K T G C W i) := (sndI i).val ok h2 (fun ⟨e, he⟩ => by
        subst he
        simp only at h5
        cases tg <;> simp only at h5 <;> first | exact ⟨_, _, _, rfl⟩ | cases h5)
      exact ps_for' hp.1 (ok.calm h0) hi (mTg_sound ok t tg h1) (ihb _ _ _ _ _ _ ok hp h4) (ntSet_ h3)
    · cases m
  | .ret e => fun T P q W X x ok hp m => by
    unfold mS at m
    split at m <;> try (cases ‹S.ret e = _›; done)
    · rename_i z; cases z
      exact ps_ret' ((snd e).val ok m)
    · cases m
  | .retN => fun T P q W X x ok hp m => by
    unfold mS at m
    split at m <;> try (cases ‹S.retN = _›; done)
    · exact ps_retN'
    · cases m
  | .raise c es => fun T P q W X x ok hp m => by
    unfold mS at m
    split at m <;> try (cases ‹S.raise c es = _›; done)
    · rename_i z; cases z
      simp only [Bool.and_eq_true, Bool.or_eq_true, decide_eq_true_eq, Bool.not_eq_true'] at m
      obtain ⟨⟨⟨⟨h0, rfl⟩, h2⟩, h3⟩, h4⟩ := m
      rcases h4 with ⟨⟨h4, h5⟩, h6⟩ | ⟨⟨⟨⟨h4, h5⟩, h6⟩, h7⟩, h8⟩
      · split at h6
        · simp only [decide_eq_true_eq] at h6
          subst h6
          exact ps_raise0' (ok.calm h0) ok.tk (ok.e0 c h5) (ok.gl_ h2) (dbg_ h3).1 (noFs_ h4)
        · cases h6
      · exact ps_raise1' (ok.calm h0) ok.tk (ok.e1 c h5) (ok.gl_ h2) (dbg_ h3).1 (fs_ h4) h7 (by rw [← h7]; exact h8) ((sndEs es).val ok h6) (mEs_star h6)
    · cases m
  | .brk => fun T P q W X x ok hp m => by
    unfold mS at m
    split at m <;> try (cases ‹S.brk = _›; done)
    · exact ps_brk'
    · cases m
  | .cnt => fun T P q W X x ok hp m => by
    unfold mS at m
    split at m <;> try (cases ‹S.cnt = _›; done)
    · exact ps_cnt'
    · cases m
  | .pass => fun T P q W X x ok hp m => by
    unfold mS at m
    split at m <;> try (cases ‹S.pass = _›; done)
    · exact ps_pass'
    · cases m
  | .never => fun T P q W X x ok hp m => ps_never'
  | .tryc b hs => by
    have ihb := sndSs b
    have ihh := sndHs hs
    refine fun T P q W X x ok hp m => ?_
    unfold mS at m
    split at m <;> try (cases ‹S.tryc b hs = _›; done)
    · rename_i z; cases z
      simp only [Bool.and_eq_true, Bool.not_eq_true'] at m
      obtain ⟨⟨h0, h1⟩, h2⟩ := m
      obtain ⟨p2, p3⟩ := hp.2 h0
      obtain ⟨k1, k2⟩ := ihh T _ _ W X _ ok h0 h2
      exact ps_try' (ok.ex h0) p2 p3 (by rw [ok.N]; exact ok.nd) rfl ok.tk k1 (fun W' pn xe tk' po => ihb T _ _ W' (X.tr pn xe) _ (ok.tr h0 (ok.cold h0) tk') ⟨po, fun _ => ⟨p2, p3⟩⟩ h1) k2
    · cases m
theorem sndSs : ∀ (s : Ss) (T : Txc) (P : Par) (q : Scp) (W : WX) (X : Cx) (xs : List Stmt), XOk T P G C q W X → Sur P X → mSs P s q xs = true → PSs X xs (tSs X.K T G C W s)
  | .nil => fun T P q W X xs ok hp m => by
    cases xs with
    | nil => exact ss_nil
    | cons _ _ => simp only [mSs] at m; cases m
  | .cons s ss => by
    have ih := sndS s
    have ihs := sndSs ss
    refine fun T P q W X xs ok hp m => ?_
    unfold mSs at m
    split at m
    · rename_i z; cases z
    · rename_i i ss' q' xs' z; cases z
      exact ss_frz (ihs _ _ _ _ _ _ ok hp m)
    · rename_i i ss' q' xs' z; cases z
      exact ss_shrO (ihs _ _ _ _ _ _ ok hp m)
    · rename_i i ss' q' xs' z; cases z
      exact ss_wip (ihs _ _ _ _ _ _ ok hp m)
    · rename_i z; cases z
      simp only [Bool.and_eq_true] at m
      exact ss_cons (ih _ _ _ _ _ _ ok hp m.1) (ihs _ _ _ _ _ _ ok hp m.2)
    · cases m
theorem sndHs : ∀ (hs : Hs) (T : Txc) (P : Par) (q : Scp) (W : WX) (X : Cx) (hds : List ExceptHandler), XOk T P G C q W X → P.hot = false → mHs P hs q hds = true → ExmOk X.K T hs ∧ HdG X hds (hs.wish X.K T G C)
  | .nil => fun T P q W X hds ok hh m => by
    cases hds with
    | nil => exact ⟨trivial, .nil⟩
    | cons _ _ => simp only [mHs] at m; cases m
  | .cons c ks i b hs => by
    have ihb := sndSs b
    have ihh := sndHs hs
    refine fun T P q W X hds ok hh m => ?_
    have ex : decide (c ∈ P.xc) = true → ks.all (fun c => decide (c ∈ P.xc)) = true → ∀ c' ∈ ks, PySem.W.exmOne X.K (.ref (T.cl c')) (.ref (T.cl c)) = some (catches c c') := fun h1 h2 c' hc => by
      simp only [decide_eq_true_eq, List.all_eq_true] at h1 h2
      exact exm_of (ok.xc c h1).1 (ok.xp c' (h2 c' hc) c h1)
    have su : ∀ {xs : List Stmt}, mSs P.inHot b q xs = true → ∀ (a : Addr) (oe : Obj) (cls : Value) (d : Option Addr) (pn : List (Addr × Obj)), L2N.Zn cls d oe → (∃ vs, oe.data = .fields vs) → PSs (X.suite a ((a, oe) :: pn)) xs (tSs X.K (T.at_ a cls d) G C noX b) := fun {xs} m a oe cls d pn hz hf =>
      ihb (T.at_ a cls d) P.inHot q noX (X.suite a ((a, oe) :: pn)) xs (ok.suite hh hz hf) ⟨PassesOwn.never, fun z => by cases z⟩ m
    unfold mHs at m
    split at m
    · rename_i z; cases z
    · rename_i z; cases z
      simp only [Bool.and_eq_true] at m
      obtain ⟨⟨⟨⟨⟨⟨h1, h2⟩, h3⟩, h4⟩, h5⟩, h6⟩, h7⟩ := m
      rw [decide_eq_true_eq] at h1
      subst h1
      obtain ⟨k1, k2⟩ := ihh T _ _ W X _ ok hh h7
      exact ⟨⟨ex h4 h5, k1⟩, .cons ⟨ok.gl_ h2, (dbg_ h3).1, .inl (ok.xc c (by simpa using h4)).2⟩ (su h6) k2⟩
    · rename_i z; cases z
      simp only [Bool.and_eq_true] at m
      obtain ⟨⟨⟨⟨⟨⟨⟨⟨h1, h2⟩, h3⟩, h4⟩, h5⟩, h6⟩, h7⟩, h8⟩, h9⟩ := m
      rw [decide_eq_true_eq] at h1 h6 h7
      subst h1
      obtain ⟨k1, k2⟩ := ihh T _ _ W X _ ok hh h9
      exact ⟨⟨ex h4 h5, k1⟩, .consA ⟨ok.gl_ h2, (dbg_ h3).1, .inl (ok.xc c (by simpa using h4)).2⟩ (by rw [ok.N]; exact h6) (by show X.env.scope.names.lookup _ = _; rw [ok.sc]; exact h7) (su h8) k2⟩
    · cases m
end
end
end Qk

set_option linter.all false
set_option maxHeartbeats 4000000
set_option maxRecDepth 100000
namespace Qk
open PySem L2 L2H PyProof.Rows

section
variable {K : PySem.W.Frag} {T : Txc} {w w' : Wd} {B H H' : Hp} {δ : Sls} {σ : L2.St} {st st' : Sto}
theorem env0_get {n : Nat} {ds : List D} {i : Nat} {x : Sl} (h : (env0 n ds)[i]? = some x) : (∃ d, ds[i]? = some d ∧ x = .val d) ∨ (x = .un ∧ ds.length ≤ i ∧ i < n) := by
  unfold env0 at h
  rw [List.getElem?_append, List.length_map] at h
  split at h
  · rw [List.getElem?_map] at h
    cases e : ds[i]? with
    | none => rw [e] at h; cases h
    | some d => rw [e] at h; cases h; exact .inl ⟨d, rfl, rfl⟩
  · rename_i c
    obtain ⟨hl, hx⟩ := List.getElem?_eq_some_iff.mp h
    rw [List.getElem_replicate] at hx
    rw [List.length_replicate] at hl
    exact .inr ⟨hx.symm, by omega, by omega⟩
theorem start_get {N : List Str} {vs : List V} {i : Nat} {v : V} (h : vs[i]? = some v) : (start N vs)[i]? = some (some v) := by
  unfold L2.start
  rw [List.getElem?_append, List.length_map, if_pos (List.getElem?_eq_some_iff.mp h).1, List.getElem?_map, h]
  rfl
theorem World.start {N : List Str} {ds : List D} {vs : List V} (so : StOk K T w st H) (rs : Reps K T w ds vs) (hl : vs.length ≤ N.length) : World K T B w (env0 N.length ds) st (L2.start N vs) H := by
  refine ⟨so, ?_, fun i x h => ?_, fun i j m m' a h1 _ _ _ => ?_⟩
  · have := rs.length
    unfold L2.start env0
    simp only [List.length_append, List.length_map, List.length_replicate]
    omega
  · rcases env0_get h with ⟨d, hd, rfl⟩ | ⟨rfl, _⟩
    · obtain ⟨v, hv, rv⟩ := rs.get hd
      exact ⟨v, start_get hv, rv⟩
    · trivial
  · rcases env0_get h1 with ⟨d, hd, z⟩ | ⟨z, _⟩ <;> cases z
end

def scB (N ps : List Str) (sc : Scope) : Bool :=
  decide (sc.kind = .function) && !sc.isCoroutine && (!sc.isGenerator && (decide N.Nodup && (decide (N.take ps.length = ps) && (ps.all (fun x => visB sc x && !decide (sc.names.lookup x = some .free)) && sc.names.all fun y => !decide (y.2 = .free)))))
theorem scB_ {N ps : List Str} {sc : Scope} (h : scB N ps sc = true) : FnScope N ps sc := by
  unfold scB visB at h
  simp only [Bool.and_eq_true, Bool.not_eq_true', decide_eq_true_eq, List.all_eq_true, Bool.or_eq_true, decide_eq_false_iff_not] at h
  obtain ⟨⟨h1, h2⟩, h3, h4, h5, h6, h7⟩ := h
  refine ⟨h1, h2, h3, h4, h5, fun x hx => ?_, h7⟩
  obtain ⟨(h | h) | h, z⟩ := h6 x hx
  · exact .inl h
  · exact .inr h
  · exact absurd h z

def CalF (P : Program) (w : PySem.World) (K : PySem.W.Frag) (mg : Str → Option Value) (base : Heap) (T : Txc) (k : Nat) : Cal → Fn → Prop
  | .fn x n, F => ∃ f fd ps, FnOk P w K mg base (L2N.CX P w) k f fd ps (spOf K T n F) ∧ mg x = some (.ref f) ∧ PySem.W.keepIn K (.ref f) = true ∧ Binds K fd ps []
  | .new c n, F => ∃ f fd ps j, j + 1 ≤ k ∧ Mk K (T.cl c) f ∧ FnOk P w K mg base (L2N.CX P w) j f fd ps (spNew K T c n F) ∧ mg (clNm c) = some (.ref (T.cl c)) ∧ Binds K fd ps []
  | .dun c m n, F => ∃ f fd ps j, j + 3 ≤ k ∧ Dun K (T.cl c) m f ∧ PySem.W.selfFirst K (T.cl c) = true ∧ FnOk P w K mg base (L2N.CX P w) j f fd ps (spOf K T n F) ∧ Binds K fd ps []
  | .met c m n, F => ∃ f fd ps, Cls K (T.cl c) ∧ Meth K (T.cl c) m f ∧ m ∉ T.flds c ∧ FnOk P w K mg base (L2N.CX P w) k f fd ps (spOf K T (n + 1) F) ∧ Binds K fd ps []
structure Ex0F (K : PySem.W.Frag) (mg : Str → Option Value) (T : Txc) (c : Cl) : Prop where
  q : PySem.W.excIn K (T.cl c) [.type "ValueError", .type "Exception", .type "BaseException", .type "object"] "ValueError.__new__" = true
  g : mg (clNm c) = some (.ref (T.cl c))
  k : PySem.W.keepIn K (.ref (T.cl c)) = true
  b : PySem.W.subIn K (.ref (T.cl c)) (.type "BaseException") = some true
  t : PySem.W.typeIn K (.ref (T.cl c)) = some (.type "type")
structure Ex1F (P : Program) (w : PySem.World) (K : PySem.W.Frag) (mg : Str → Option Value) (base : Heap) (T : Txc) (k : Nat) (c : Cl) : Prop where
  o : OexC K (T.cl c)
  g : mg (clNm c) = some (.ref (T.cl c))
  f : ∃ fI fd ps j, j + 1 ≤ k ∧ PySem.W.findIn K (.ref (T.cl c)) "__init__" = some (some (.ref fI)) ∧ PySem.W.typeIn K (.ref fI) = some (.type "function") ∧ FnOk P w K mg base (L2N.CX P w) j fI fd ps (spExc T c (fldsOf c).length) ∧ Binds K fd ps []
def CalH (P : Program) (w : PySem.World) (K : PySem.W.Frag) (mg : Str → Option Value) (base : Heap) (T : Txc) (k : Nat) (x : Str) (n : Nat) (F : Fn) : Prop :=
  ∃ f fd ps, FnH P w K mg base (L2N.CX P w) k f fd ps (spOf K T n F) ∧ mg x = some (.ref f) ∧ PySem.W.keepIn K (.ref f) = true ∧ Binds K fd ps []
theorem CalH.mono {P : Program} {w : PySem.World} {K : PySem.W.Frag} {mg : Str → Option Value} {base : Heap} {T : Txc} {j k : Nat} {x : Str} {n : Nat} {F : Fn} (h : j ≤ k) (c : CalH P w K mg base T j x n F) : CalH P w K mg base T k x n F := by
  obtain ⟨f, fd, ps, a, b⟩ := c
  exact ⟨f, fd, ps, ⟨a.len, fun A outer s H args us vs Q E p r => a.run A outer s H args us vs Q E p (r.mono h)⟩, b⟩
structure Mod (P : Program) (w : PySem.World) (K : PySem.W.Frag) (mg : Str → Option Value) (base : Heap) (T : Txc) (Pr : Par) (G : List Fn) (C : List Int) (k : Nat) : Prop where
  blt : ∀ x ∈ bltNms, mg x = none
  gl : ∀ (k : Nat) x, Pr.cs[k]? = some x → ∃ n t, C[k]? = some n ∧ mg x = some (.int n t)
  fs : ∀ (f : Nat) c, Pr.fs[f]? = some c → ∃ F, G[f]? = some F ∧ CalF P w K mg base T k c F
  fl : T.flds = fldsOf
  cl : ∀ c ∈ Pr.cl, ClOk K T c
  is : ∀ c ∈ Pr.is, IsF K T c ∧ mg (clNm c) = some (.ref (T.cl c))
  e0 : ∀ c ∈ Pr.e0, Ex0F K mg T c
  e1 : ∀ c ∈ Pr.e1, Ex1F P w K mg base T k c
  xc : ∀ c ∈ Pr.xc, XcF K T c ∧ mg (clNm c) = some (.ref (T.cl c))
  xp : ∀ c ∈ Pr.xc, ∀ c' ∈ Pr.xc, XpF K T c c'
  ex : T.ex = none
  hot : Pr.hot = false
  sx : Pr.sx = false
  fh : ∀ f ∈ Pr.fh, ∀ x n, Pr.fs[f]? = some (.fn x n) → ∃ F, G[f]? = some F ∧ CalH P w K mg base T k x n F
  it : ∀ p ∈ Pr.it, 4 ≤ k ∧ (fldsOf p.1).Nodup ∧ ∃ g fld, ItC K mg base P w (T.cl p.1) g fld ∧ (fldsOf p.1)[p.2]? = some fld

section
variable {P : Program} {w : PySem.World} {K : PySem.W.Frag} {mg : Str → Option Value} {base : Heap} {T : Txc} {Pr : Par} {G : List Fn} {C : List Int} {k : Nat}
theorem CalF.mono {j : Nat} {c : Cal} {F : Fn} (h : j ≤ k) (a : CalF P w K mg base T j c F) : CalF P w K mg base T k c F := by
  cases c with
  | fn x n =>
    obtain ⟨f, fd, ps, a, b⟩ := a
    exact ⟨f, fd, ps, a.mono h, b⟩
  | new c n =>
    obtain ⟨f, fd, ps, i, e, a⟩ := a
    exact ⟨f, fd, ps, i, by omega, a⟩
  | met c m n =>
    obtain ⟨f, fd, ps, a, b, d, e, g⟩ := a
    exact ⟨f, fd, ps, a, b, d, e.mono h, g⟩
  | dun c m n =>
    obtain ⟨f, fd, ps, i, e, a⟩ := a
    exact ⟨f, fd, ps, i, by omega, a⟩
theorem Ex1F.mono {j : Nat} {c : Cl} (h : j ≤ k) (a : Ex1F P w K mg base T j c) : Ex1F P w K mg base T k c := by
  obtain ⟨f, fd, ps, i, e, b⟩ := a.f
  exact ⟨a.o, a.g, f, fd, ps, i, by omega, b⟩
theorem Mod.ok (M : Mod P w K mg base T Pr G C k) {N : List Str} (hN : N.Nodup) {qual : Str} {scope : Scope} {f : Addr} {cd : Value} {A : Around} {outer : List Env} {s : Shared} {H : Hp} {E : XK} (hr : Room k (A.deeper (envOfC qual scope s.heap.objs.size f cd))) :
    XOk T { Pr with N := N } G C ⟨scope, fun _ => true⟩ (fun cls d _ H => E cls d H) (cxOf (L2N.CX P w) P w K mg base N qual scope f cd A outer s H E) where
  N := rfl
  nd := hN
  sc := rfl
  fnE := rfl
  calm := fun _ => rfl
  tk := L2N.takes_of rfl rfl rfl rfl
  hu := by
    have := hr.un
    show (A.deeper _).units + 65 < cLine
    omega
  blt := M.blt
  gl := M.gl
  fs := fun _ i c h => by
    obtain ⟨F, hF, a⟩ := M.fs i c h
    refine ⟨F, hF, ?_⟩
    cases c with
    | fn x n =>
      obtain ⟨g, fd, ps, a, b, d, e⟩ := a
      exact ⟨g, fd, ps, k, a, hr, b, d, e⟩
    | new c n =>
      obtain ⟨g, fd, ps, j, hj, a, b, d, e⟩ := a
      exact ⟨g, fd, ps, j, a, b, hr.mono hj, d, e⟩
    | met c m n =>
      obtain ⟨g, fd, ps, a, b, d, e, z⟩ := a
      exact ⟨g, fd, ps, k, a, b, d, e, hr, z⟩
    | dun c m n =>
      obtain ⟨g, fd, ps, j, hj, a, b, d, e⟩ := a
      exact ⟨g, fd, ps, j, a, b, d, hr.mono hj, e⟩
  fl := M.fl
  cl := M.cl
  is := M.is
  e0 := fun c h => ⟨(M.e0 c h).q, (M.e0 c h).g, (M.e0 c h).k, (M.e0 c h).b, (M.e0 c h).t⟩
  e1 := fun c h => by
    obtain ⟨a, b, fI, fd, ps, j, hj, d, e, f, g⟩ := M.e1 c h
    exact ⟨a, b, by rw [M.fl], fI, fd, ps, j, d, e, f, hr.mono hj, g⟩
  xc := M.xc
  xp := M.xp
  ex := fun _ => M.ex
  hx := fun h => by cases (M.sx.symm.trans h)
  fh := fun f h x n e => by
    obtain ⟨F, h1, g, fd, ps, a, b, d, e⟩ := M.fh f h x n e
    exact ⟨F, h1, g, fd, ps, k, a, roomH_of hr, b, d, e⟩
  hc := fun h => by cases (M.hot.symm.trans h)
  it := fun p h => by
    obtain ⟨a, b, g, fld, c, d⟩ := M.it p h
    exact ⟨b, hr.mono a, g, fld, c, d⟩
theorem fun_okN {x qual : Str} {st : Stmt} {f : Addr} {fd : FuncData} {N ps : List Str} {k : Nat} {sp : Sp} (F : Fun K x qual st f fd) (S : FnScope N ps (defScope st)) (len : ∀ vs H Q E, sp vs H Q E → vs.length = ps.length)
    (hbody : ∀ (cdv : Value) (A : Around) (outer : List Env) (s : Shared) (H : Hp) (vs : List V) (Q : VK) (E : XK), Room k (A.deeper (envOfC qual (defScope st) s.heap.objs.size f cdv)) → sp vs H Q E →
      ∃ t, PSs (cxOf (L2N.CX P w) P w K mg base N qual (defScope st) f cdv A outer s H E) (defBody st) t ∧ t { nx := fun _ H' => Q .non H', rt := Q } (L2.start N vs) H) : FnOk P w K mg base (L2N.CX P w) (k + 1) f fd ps sp := by
  obtain ⟨oc, od, kV, doc, pm, an, cdv, ct, osl, rfl, lk, hcd⟩ := F.ex
  exact fn_of lk hcd S len fun A outer s H vs Q E hr hsp => hbody cdv A outer s H vs Q E hr hsp
theorem fn_ok {x qual : Str} {st : Stmt} {f : Addr} {fd : FuncData} {N ps : List Str} {b : Ss} (M : Mod P w K mg base T Pr G C k) (F : Fun K x qual st f fd) (hS : scB N ps (defScope st) = true) (hm : mSs { Pr with N := N } b ⟨defScope st, fun _ => true⟩ (defBody st) = true) :
    FnOk P w K mg base (L2N.CX P w) (k + 1) f fd ps (spOf K T ps.length (runFn G C b N.length)) := by
  have S := scB_ hS
  have hpl : ps.length ≤ N.length := by have := congrArg List.length S.pre; rw [List.length_take] at this; omega
  refine fun_okN F S (fun vs H Q E h => h.1) (fun cdv A outer s H vs Q E hr h => ?_)
  obtain ⟨hl, wd, ds, sto, so, rs, h⟩ := h
  have ok := M.ok S.nd (scope := defScope st) (qual := qual) (f := f) (cd := cdv) (A := A) (outer := outer) (s := s) (H := H) (E := E) hr
  refine ⟨_, sndSs b _ _ _ _ _ _ ok ⟨passes_of rfl, fun _ => ⟨rfl, rfl⟩⟩ hm, wd, H, wd, env0 N.length ds, sto, Ext.refl, World.start so rs (by omega), ?_⟩
  unfold runFn at h
  cases e : execs G C b (env0 N.length ds) sto with
  | nx δ st' => rw [e] at h; exact fun w' σ' H' ex Wl => h w' H' _ ex Wl.st rfl
  | ret d st' => rw [e] at h; exact fun w' H' v ex so' r => h w' H' v ex so' r
  | exc c es δ st' => rw [e] at h; exact fun w' σ' H' dx ex Wl r => h w' H' dx ex Wl.st r
  | brk δ st' => rw [e] at h; exact h.elim
  | cnt δ st' => rw [e] at h; exact h.elim
  | stuck => rw [e] at h; exact h.elim
theorem Reps.same {w w' : Wd} {ds : List D} {xs : List V} (h : Reps K T w ds xs) (e1 : w'.F = w.F) (e2 : w'.ι = w.ι) : Reps K T w' ds xs := h.up ⟨by rw [e1]; exact Same.refl _, fun _ _ h => by rw [e2]; exact h⟩
theorem StOk.root {w : Wd} {st : Sto} {H : Hp} {r : Rt} (so : StOk K T w st H) : StOk K T { w with r := r } st H :=
  ⟨so.same, so.len, so.nd, fun l m a h1 h2 => by
    obtain ⟨q1, o, q2, q3⟩ := so.cell l m a h1 h2
    exact ⟨q1, o, q2, q3.up (w := w) (w' := { w with r := r }) ⟨Same.refl w.F, fun _ _ h => h⟩⟩⟩
theorem ExR.root {w : Wd} {c : Cl} {ds : List D} {d : Option Addr} {H0 H : Hp} {r : Rt} (h : ExR K T w c ds d H0 H) : ExR K T { w with r := r } c ds d H0 H := by
  rcases h with h | ⟨dx, xs, h0, h1, h2, h3, h4⟩
  · exact .inl h
  · exact .inr ⟨dx, xs, h0, h1, h2, h3, h4.same rfl rfl⟩
theorem Ext.root {w w' : Wd} {H H' : Hp} {r : Rt} (e : Ext { w with r := r } H w' H') : Ext w H { w' with r := w.r } H' where
  same := e.same
  pre := e.pre
  old := e.old
  keep := e.keep
  there := e.there
  new := e.new
  rt := rfl
theorem new_ok {x qual : Str} {c : Cl} {st : Stmt} {f : Addr} {fd : FuncData} {s0 : Str} {N ps : List Str} {b : Ss} (M : Mod P w K mg base T Pr G C k) (F : Fun K x qual st f fd) (hS : scB (s0 :: N) (s0 :: ps) (defScope st) = true) (hm : mSs { Pr with N := s0 :: N } b ⟨defScope st, fun _ => true⟩ (defBody st) = true) :
    FnOk P w K mg base (L2N.CX P w) (k + 1) f fd (s0 :: ps) (spNew K T c ps.length (runNew G C c b (N.length + 1))) := by
  have S := scB_ hS
  have hpl : ps.length ≤ N.length := by have := congrArg List.length S.pre; rw [List.length_take, List.length_cons, List.length_cons] at this; omega
  refine fun_okN F S (fun vs H Q E h => h.1) (fun cdv A outer s H vs Q E hr h => ?_)
  obtain ⟨hl, y, dx, us, H0, wd, ds, sto, rfl, hy, hd, ne, rfl, so, rs, h⟩ := h
  have ok := M.ok S.nd (scope := defScope st) (qual := qual) (f := f) (cd := cdv) (A := A) (outer := outer) (s := s) (H := upd (upd H0 dx (.own y)) y (.ins (T.cl c) dx [])) (E := E) hr
  rw [List.length_cons] at hl
  let w1 : Wd := { wd with r := ⟨y⟩ }
  have Wb : World K T H0 w1 (env0 N.length ds) sto (L2.start N us) H0 := World.start so.root (rs.same rfl rfl) (by omega)
  have hy1 : (upd H0 dx (.own y)) y = none := by rw [upd_ne ne.symm]; exact hy
  have Wc : World K T H0 w1 (env0 N.length ds) sto (L2.start N us) (upd (upd H0 dx (.own y)) y (.ins (T.cl c) dx [])) := (Wb.grow hd).grow hy1
  have ex1 : Ext w1 H0 w1 (upd (upd H0 dx (.own y)) y (.ins (T.cl c) dx [])) := (Ext.grow hd).trans (Ext.grow hy1)
  have st1 : L2.start (s0 :: N) (.ref y :: us) = some (.ref y) :: L2.start N us := by
    unfold L2.start
    simp only [List.map_cons, List.length_cons, List.cons_append, Nat.add_sub_add_right]
  have ni : y ∉ w1.ι := Wb.noIota hy
  have fy : w1.F y = none := so.same.free hy
  have W1 : World K T H0 w1 (Sl.own (.ins c []) :: env0 N.length ds) sto (L2.start (s0 :: N) (.ref y :: us)) (upd (upd H0 dx (.own y)) y (.ins (T.cl c) dx [])) := by
    rw [st1]
    refine ⟨Wc.st, by rw [List.length_cons, List.length_cons, Wc.len], fun i x h => ?_, fun i j m m' a h1 h2 _ _ => ?_⟩
    · cases i with
      | zero =>
        cases h
        exact ⟨y, rfl, ⟨hy, fun _ => rfl⟩, ni, fy, _, upd_same, dx, [], by rw [List.zip_nil_right], Nat.zero_le _, trivial⟩
      | succ i => exact Wc.sl i x h
    · have no : ∀ {i : Nat} {m : Qk.M}, (Sl.own (.ins c []) :: env0 N.length ds)[i]? = some (.own m) → i = 0 := fun {i m} h => by
        cases i with
        | zero => rfl
        | succ i =>
          rw [List.getElem?_cons_succ] at h
          rcases env0_get h with ⟨d, hd, z⟩ | ⟨z, _⟩ <;> cases z
      rw [no h1, no h2]
  refine ⟨_, sndSs b _ _ _ _ _ _ ok ⟨passes_of rfl, fun _ => ⟨rfl, rfl⟩⟩ hm, w1, H0, w1, _, sto, ex1, W1, ?_⟩
  unfold runNew at h
  simp only [Nat.add_sub_cancel] at h
  cases e : execs G C b (Sl.own (.ins c []) :: env0 N.length ds) sto with
  | nx δ st' =>
    rw [e] at h
    intro w' σ' H' ex Wl
    simp only at h
    cases e0 : (δ[0]? : Option Sl) with
    | none => rw [e0] at h; exact h.elim
    | some sl0 =>
      rw [e0] at h
      cases sl0 with
      | un => exact h.elim
      | val _ => exact h.elim
      | exo _ _ => exact h.elim
      | own m =>
        cases m with
        | lst _ => exact h.elim
        | dct _ _ => exact h.elim
        | ins c' es =>
          simp only at h
          by_cases ec : c' = c
          · rw [if_pos ec] at h
            subst ec
            obtain ⟨a, h1, h2, h3, h4, o, ho, dx', xs, rfl, hl', rx⟩ := Wl.sl 0 _ e0
            have ea : a = y := (h2.2 rfl).trans (congrArg Rt.a ex.rt)
            subst ea
            have up : Up w' (w'.put a (.ins (T.cl c') dx' ((T.flds c').zip xs))) := Up.put h4
            have wf : StOk K T (w'.put a (.ins (T.cl c') dx' ((T.flds c').zip xs))) st' H' := by
              refine ⟨fun b u eb => ?_, Wl.st.len, Wl.st.nd, fun l m b q1 q2 => ?_⟩
              · have e' : upd w'.F a (.ins (T.cl c') dx' ((T.flds c').zip xs)) b = some u := eb
                by_cases hb : b = a
                · subst hb
                  rw [upd_same] at e'
                  cases e'
                  exact ho
                · rw [upd_ne hb] at e'
                  exact Wl.st.same b u e'
              · obtain ⟨c1, c2, c3, c4⟩ := Wl.st.cell l m b q1 q2
                have hb : b ≠ a := fun z => h3 (z ▸ List.mem_of_getElem? q2)
                exact ⟨(upd_ne hb).trans c1, c2, c3, c4.up up⟩
            exact h { w'.put a (.ins (T.cl c') dx' ((T.flds c').zip xs)) with r := wd.r } H' (Ext.root (ex.frz hy h4)) wf.root
              ⟨a, dx', xs, rfl, upd_same, hl', Reps.up (K := K) (w' := { w'.put a (.ins (T.cl c') dx' ((T.flds c').zip xs)) with r := wd.r }) ⟨up.same, up.pre⟩ rx⟩
          · rw [if_neg ec] at h
            exact h.elim
  | ret d st' => rw [e] at h; exact h.elim
  | exc c' es δ st' => rw [e] at h; exact fun w' σ' H' dx ex Wl r => h { w' with r := wd.r } H' dx (Ext.root ex) Wl.st.root r.root
  | brk δ st' => rw [e] at h; exact h.elim
  | cnt δ st' => rw [e] at h; exact h.elim
  | stuck => rw [e] at h; exact h.elim

theorem StOk.share {w : Wd} {st : Sto} {H : Hp} {a : Addr} {m : M} (S : StOk K T w st H) (na : a ∉ w.ι) (c : CellOk K T w H a m) : StOk K T ⟨w.F, w.ι ++ [a], w.r⟩ (st ++ [m]) H := by
  have Wl : World K T H w [] st [] H := ⟨S, rfl, fun i x h => by simp at h, fun i j m m' a h1 => by simp at h1⟩
  exact (Wl.share na (fun i m' h => by simp at h) c).st
theorem new_okL {x qual : Str} {c : Cl} {st : Stmt} {f : Addr} {fd : FuncData} {s0 : Str} {N ps : List Str} {b : Ss} (M : Mod P w K mg base T Pr G C k) (F : Fun K x qual st f fd) (hS : scB (s0 :: N) (s0 :: ps) (defScope st) = true) (hm : mSs { Pr with N := s0 :: N } b ⟨defScope st, fun _ => true⟩ (defBody st) = true) :
    FnOk P w K mg base (L2N.CX P w) (k + 1) f fd (s0 :: ps) (spNew K T c ps.length (runNewL G C c b (N.length + 1))) := by
  have S := scB_ hS
  have hpl : ps.length ≤ N.length := by have := congrArg List.length S.pre; rw [List.length_take, List.length_cons, List.length_cons] at this; omega
  refine fun_okN F S (fun vs H Q E h => h.1) (fun cdv A outer s H vs Q E hr h => ?_)
  obtain ⟨hl, y, dx, us, H0, wd, ds, sto, rfl, hy, hd, ne, rfl, so, rs, h⟩ := h
  have ok := M.ok S.nd (scope := defScope st) (qual := qual) (f := f) (cd := cdv) (A := A) (outer := outer) (s := s) (H := upd (upd H0 dx (.own y)) y (.ins (T.cl c) dx [])) (E := E) hr
  rw [List.length_cons] at hl
  let w1 : Wd := { wd with r := ⟨y⟩ }
  have Wb : World K T H0 w1 (env0 N.length ds) sto (L2.start N us) H0 := World.start so.root (rs.same rfl rfl) (by omega)
  have hy1 : (upd H0 dx (.own y)) y = none := by rw [upd_ne ne.symm]; exact hy
  have Wc : World K T H0 w1 (env0 N.length ds) sto (L2.start N us) (upd (upd H0 dx (.own y)) y (.ins (T.cl c) dx [])) := (Wb.grow hd).grow hy1
  have ex1 : Ext w1 H0 w1 (upd (upd H0 dx (.own y)) y (.ins (T.cl c) dx [])) := (Ext.grow hd).trans (Ext.grow hy1)
  have st1 : L2.start (s0 :: N) (.ref y :: us) = some (.ref y) :: L2.start N us := by
    unfold L2.start
    simp only [List.map_cons, List.length_cons, List.cons_append, Nat.add_sub_add_right]
  have ni : y ∉ w1.ι := Wb.noIota hy
  have fy : w1.F y = none := so.same.free hy
  have W1 : World K T H0 w1 (Sl.own (.ins c []) :: env0 N.length ds) sto (L2.start (s0 :: N) (.ref y :: us)) (upd (upd H0 dx (.own y)) y (.ins (T.cl c) dx [])) := by
    rw [st1]
    refine ⟨Wc.st, by rw [List.length_cons, List.length_cons, Wc.len], fun i x h => ?_, fun i j m m' a h1 h2 _ _ => ?_⟩
    · cases i with
      | zero =>
        cases h
        exact ⟨y, rfl, ⟨hy, fun _ => rfl⟩, ni, fy, _, upd_same, dx, [], by rw [List.zip_nil_right], Nat.zero_le _, trivial⟩
      | succ i => exact Wc.sl i x h
    · have no : ∀ {i : Nat} {m : Qk.M}, (Sl.own (.ins c []) :: env0 N.length ds)[i]? = some (.own m) → i = 0 := fun {i m} h => by
        cases i with
        | zero => rfl
        | succ i =>
          rw [List.getElem?_cons_succ] at h
          rcases env0_get h with ⟨d, hd, z⟩ | ⟨z, _⟩ <;> cases z
      rw [no h1, no h2]
  refine ⟨_, sndSs b _ _ _ _ _ _ ok ⟨passes_of rfl, fun _ => ⟨rfl, rfl⟩⟩ hm, w1, H0, w1, _, sto, ex1, W1, ?_⟩
  unfold runNewL at h
  simp only [Nat.add_sub_cancel] at h
  cases e : execs G C b (Sl.own (.ins c []) :: env0 N.length ds) sto with
  | nx δ st' =>
    rw [e] at h
    intro w' σ' H' ex Wl
    simp only at h
    cases e0 : (δ[0]? : Option Sl) with
    | none => rw [e0] at h; exact h.elim
    | some sl0 =>
      rw [e0] at h
      cases sl0 with
      | un => exact h.elim
      | val _ => exact h.elim
      | exo _ _ => exact h.elim
      | own m =>
        cases m with
        | lst _ => exact h.elim
        | dct _ _ => exact h.elim
        | ins c' es =>
          simp only at h
          by_cases ec : c' = c
          · rw [if_pos ec] at h
            subst ec
            obtain ⟨a, h1, h2, h3, h4, o, ho, dx', xs, rfl, hl', rx⟩ := Wl.sl 0 _ e0
            have ea : a = y := (h2.2 rfl).trans (congrArg Rt.a ex.rt)
            subst ea
            have cell : CellOk K T w' H' a (.ins c' es) := ⟨h4, _, ho, dx', xs, rfl, hl', rx⟩
            have so2 := (Wl.st.share h3 cell).root (r := wd.r)
            exact h { (⟨w'.F, w'.ι ++ [a], w'.r⟩ : Wd) with r := wd.r } H' (Ext.root (ex.share hy)) so2 ⟨a, rfl, by
              show (w'.ι ++ [a])[st'.length]? = some a
              rw [← Wl.st.len]
              simp⟩
          · rw [if_neg ec] at h
            exact h.elim
  | ret d st' => rw [e] at h; exact h.elim
  | exc c' es δ st' => rw [e] at h; exact fun w' σ' H' dx ex Wl r => h { w' with r := wd.r } H' dx (Ext.root ex) Wl.st.root r.root
  | brk δ st' => rw [e] at h; exact h.elim
  | cnt δ st' => rw [e] at h; exact h.elim
  | stuck => rw [e] at h; exact h.elim

theorem get_snoc {α : Type} {l : List α} {x y : α} {i : Nat} (h : (l ++ [x])[i]? = some y) : l[i]? = some y ∨ (i = l.length ∧ y = x) := by
  rw [List.getElem?_append] at h
  split at h
  · exact .inl h
  · have : i - l.length = 0 := by
      have := (List.getElem?_eq_some_iff.mp h).1
      simp at this
      omega
    rw [this] at h
    cases h
    exact .inr ⟨by omega, rfl⟩
theorem Mod.push (M : Mod P w K mg base T Pr G C k) {c : Cal} {F : Fn} (hg : G.length = Pr.fs.length) (h : CalF P w K mg base T (k + 1) c F) (hn : ∀ x n, c = .fn x n → Pr.fs.length ∈ Pr.fh → CalH P w K mg base T (k + 1) x n F) : Mod P w K mg base T { Pr with fs := Pr.fs ++ [c] } (G ++ [F]) C (k + 1) where
  blt := M.blt
  gl := M.gl
  fs := fun i c' e => by
    rcases get_snoc e with q | ⟨rfl, rfl⟩
    · obtain ⟨F', a, b⟩ := M.fs i c' q
      exact ⟨F', by rw [List.getElem?_append, if_pos (List.getElem?_eq_some_iff.mp a).1]; exact a, b.mono (Nat.le_succ k)⟩
    · exact ⟨F, by rw [← hg, List.getElem?_append, if_neg (Nat.lt_irrefl _), Nat.sub_self]; rfl, h⟩
  fl := M.fl
  cl := M.cl
  is := M.is
  e0 := M.e0
  e1 := fun c h => (M.e1 c h).mono (Nat.le_succ k)
  xc := M.xc
  xp := M.xp
  ex := M.ex
  hot := M.hot
  sx := M.sx
  fh := fun i hi x n e => by
    rcases get_snoc e with q | ⟨rfl, e'⟩
    · obtain ⟨F', a, b⟩ := M.fh i hi x n q
      exact ⟨F', by rw [List.getElem?_append, if_pos (List.getElem?_eq_some_iff.mp a).1]; exact a, b.mono (Nat.le_succ k)⟩
    · exact ⟨F, by rw [← hg, List.getElem?_append, if_neg (Nat.lt_irrefl _), Nat.sub_self]; rfl, hn x n e'.symm hi⟩
  it := fun p h => ⟨Nat.le_trans (M.it p h).1 (Nat.le_succ k), (M.it p h).2⟩
theorem Mod.fn (M : Mod P w K mg base T Pr G C k) {x : Str} {st : Stmt} {f : Addr} {fd : FuncData} {N ps : List Str} {b : Ss} (F : Fun K x x st f fd) (hb : Binds K fd ps []) (hm : mg x = some (.ref f)) (hg : G.length = Pr.fs.length) (hS : scB N ps (defScope st) = true) (hc : mSs { Pr with N := N } b ⟨defScope st, fun _ => true⟩ (defBody st) = true) (hh : Pr.fs.length ∉ Pr.fh) :
    Mod P w K mg base T { Pr with fs := Pr.fs ++ [.fn x ps.length] } (G ++ [runFn G C b N.length]) C (k + 1) :=
  M.push hg ⟨f, fd, ps, fn_ok M F hS hc, hm, F.kp, hb⟩ (fun _ _ _ h => absurd h hh)
theorem Mod.bot (M : Mod P w K mg base T Pr G C k) {x : Str} {st : Stmt} {f : Addr} {fd : FuncData} {ps : List Str} (F : Fun K x x st f fd) (hb : Binds K fd ps []) (hm : mg x = some (.ref f)) (hg : G.length = Pr.fs.length) (hh : Pr.fs.length ∉ Pr.fh) :
    Mod P w K mg base T { Pr with fs := Pr.fs ++ [.fn x ps.length] } (G ++ [fun _ _ => .stuck]) C (k + 1) :=
  M.push hg ⟨f, fd, ps, ⟨fun _ _ _ _ h => by obtain ⟨_, _, _, _, _, _, z⟩ := h; exact z.elim, fun _ _ _ _ _ _ _ _ _ _ _ _ _ h => by obtain ⟨_, _, _, _, _, _, z⟩ := h; exact z.elim⟩, hm, F.kp, hb⟩ (fun _ _ _ h => absurd h hh)
theorem Mod.okH (M : Mod P w K mg base T Pr G C k) {N : List Str} (hN : N.Nodup) {qual : Str} {scope : Scope} {f : Addr} {cd : Value} {A : Around} {outer : List Env} {s : Shared} {H : Hp} {E : XK} {p : Addr × Obj} (hp : Hot1 A p) (hr : RoomH k (A.deeper (envOfC qual scope s.heap.objs.size f cd))) :
    XOk T { Pr with N := N, hot := true, e0 := [], e1 := [], it := [] } G C ⟨scope, fun _ => true⟩ (fun cls d _ H => E cls d H) (cxH (L2N.CX P w) P w K mg base N qual scope f cd A outer s H E p) where
  N := rfl
  nd := hN
  sc := rfl
  fnE := rfl
  calm := fun h => by cases h
  tk := L2N.takes_of rfl rfl rfl rfl
  hu := by
    have := hr.un
    show (A.deeper _).units + 65 < cLine
    omega
  blt := M.blt
  gl := M.gl
  fs := fun h => by cases h
  fh := fun f h x n e => by
    obtain ⟨F, h1, g, fd, ps, a, b, d, e⟩ := M.fh f h x n e
    exact ⟨F, h1, g, fd, ps, k, a, hr, b, d, e⟩
  hc := fun _ => ⟨p, ⟨hp.1, hp.2⟩, List.mem_singleton.mpr rfl⟩
  fl := M.fl
  cl := M.cl
  is := M.is
  e0 := fun c h => by cases h
  e1 := fun c h => by cases h
  xc := M.xc
  xp := M.xp
  ex := fun h => by cases h
  hx := fun h => by cases (M.sx.symm.trans h)
  it := fun c h => by cases h
theorem fn_okH {x qual : Str} {st : Stmt} {f : Addr} {fd : FuncData} {N ps : List Str} {b : Ss} (M : Mod P w K mg base T Pr G C k) (F : Fun K x qual st f fd) (hS : scB N ps (defScope st) = true) (hm : mSs { Pr with N := N, hot := true, e0 := [], e1 := [], it := [] } b ⟨defScope st, fun _ => true⟩ (defBody st) = true) :
    FnH P w K mg base (L2N.CX P w) (k + 1) f fd ps (spOf K T ps.length (runFn G C b N.length)) := by
  have S := scB_ hS
  have hpl : ps.length ≤ N.length := by have := congrArg List.length S.pre; rw [List.length_take] at this; omega
  obtain ⟨oc, od, kV, doc, pm, an, cdv, ct, osl, rfl, lk, hcd⟩ := F.ex
  refine fn_ofH lk hcd S (fun vs H Q E h => h.1) (fun A outer s H vs Q E p hp hr h => ?_)
  obtain ⟨hl, wd, ds, sto, so, rs, h⟩ := h
  have ok := M.okH S.nd (scope := defScope st) (qual := qual) (f := f) (cd := cdv) (A := A) (outer := outer) (s := s) (H := H) (E := E) hp hr
  refine ⟨_, sndSs b _ _ _ _ _ _ ok ⟨passes_of rfl, fun h => by cases h⟩ hm, wd, H, wd, env0 N.length ds, sto, Ext.refl, World.start so rs (by omega), ?_⟩
  unfold runFn at h
  cases e : execs G C b (env0 N.length ds) sto with
  | nx δ st' => rw [e] at h; exact fun w' σ' H' ex Wl => h w' H' _ ex Wl.st rfl
  | ret d st' => rw [e] at h; exact fun w' H' v ex so' r => h w' H' v ex so' r
  | exc c es δ st' => rw [e] at h; exact fun w' σ' H' dx ex Wl r => h w' H' dx ex Wl.st r
  | brk δ st' => rw [e] at h; exact h.elim
  | cnt δ st' => rw [e] at h; exact h.elim
  | stuck => rw [e] at h; exact h.elim
theorem Mod.fnH (M : Mod P w K mg base T Pr G C k) {x : Str} {st : Stmt} {f : Addr} {fd : FuncData} {N ps : List Str} {b : Ss} (F : Fun K x x st f fd) (hb : Binds K fd ps []) (hm : mg x = some (.ref f)) (hg : G.length = Pr.fs.length) (hS : scB N ps (defScope st) = true) (hc : mSs { Pr with N := N } b ⟨defScope st, fun _ => true⟩ (defBody st) = true)
    (hh : mSs { Pr with N := N, hot := true, e0 := [], e1 := [], it := [] } b ⟨defScope st, fun _ => true⟩ (defBody st) = true) :
    Mod P w K mg base T { Pr with fs := Pr.fs ++ [.fn x ps.length] } (G ++ [runFn G C b N.length]) C (k + 1) :=
  M.push hg ⟨f, fd, ps, fn_ok M F hS hc, hm, F.kp, hb⟩ (fun x' n z _ => by
    cases z
    exact ⟨f, fd, ps, fn_okH M F hS hh, hm, F.kp, hb⟩)
theorem Mod.met (M : Mod P w K mg base T Pr G C k) {m qual : Str} {c : Cl} {st : Stmt} {f : Addr} {fd : FuncData} {s0 : Str} {N ps : List Str} {b : Ss} (F : Fun K m qual st f fd) (hb : Binds K fd (s0 :: ps) []) (hC : Cls K (T.cl c)) (hm : Meth K (T.cl c) m f) (hn : m ∉ fldsOf c) (hg : G.length = Pr.fs.length) (hS : scB (s0 :: N) (s0 :: ps) (defScope st) = true) (hc : mSs { Pr with N := s0 :: N } b ⟨defScope st, fun _ => true⟩ (defBody st) = true) :
    Mod P w K mg base T { Pr with fs := Pr.fs ++ [.met c m ps.length] } (G ++ [runFn G C b (N.length + 1)]) C (k + 1) :=
  M.push hg ⟨f, fd, s0 :: ps, hC, hm, by rw [M.fl]; exact hn, fn_ok M F hS hc, hb⟩ (fun _ _ z => by cases z)
theorem Mod.dun (M : Mod P w K mg base T Pr G C k) {m qual : Str} {c : Cl} {st : Stmt} {f : Addr} {fd : FuncData} {N ps : List Str} {b : Ss} (F : Fun K m qual st f fd) (hb : Binds K fd ps []) (hm : Dun K (T.cl c) m f) (hs : PySem.W.selfFirst K (T.cl c) = true) (hg : G.length = Pr.fs.length) (hS : scB N ps (defScope st) = true) (hc : mSs { Pr with N := N } b ⟨defScope st, fun _ => true⟩ (defBody st) = true) :
    Mod P w K mg base T { Pr with fs := Pr.fs ++ [.dun c m ps.length] } (G ++ [runFn G C b N.length]) C (k + 4) := by
  have go : Mod P w K mg base T Pr G C (k + 3) := ⟨M.blt, M.gl, fun i c h => by
    obtain ⟨F, a, b⟩ := M.fs i c h
    exact ⟨F, a, b.mono (show k ≤ k + 3 by omega)⟩, M.fl, M.cl, M.is, M.e0, fun c h => (M.e1 c h).mono (show k ≤ k + 3 by omega), M.xc, M.xp, M.ex, M.hot, M.sx, fun f h x n e => by
    obtain ⟨F, a, b⟩ := M.fh f h x n e
    exact ⟨F, a, b.mono (show k ≤ k + 3 by omega)⟩, fun p h => ⟨Nat.le_trans (M.it p h).1 (show k ≤ k + 3 by omega), (M.it p h).2⟩⟩
  exact go.push hg ⟨f, fd, ps, k + 1, Nat.le_refl _, hm, hs, fn_ok M F hS hc, hb⟩ (fun _ _ z => by cases z)
theorem Mod.new (M : Mod P w K mg base T Pr G C k) {qual : Str} {c : Cl} {st : Stmt} {f : Addr} {fd : FuncData} {s0 : Str} {N ps : List Str} {b : Ss} (F : Fun K "__init__" qual st f fd) (hb : Binds K fd (s0 :: ps) []) (hM : Mk K (T.cl c) f) (hm : mg (clNm c) = some (.ref (T.cl c))) (hg : G.length = Pr.fs.length) (hS : scB (s0 :: N) (s0 :: ps) (defScope st) = true) (hc : mSs { Pr with N := s0 :: N } b ⟨defScope st, fun _ => true⟩ (defBody st) = true) :
    Mod P w K mg base T { Pr with fs := Pr.fs ++ [.new c ps.length] } (G ++ [runNew G C c b (N.length + 1)]) C (k + 2) := by
  have go : Mod P w K mg base T Pr G C (k + 1) := ⟨M.blt, M.gl, fun i c h => by
    obtain ⟨F, a, b⟩ := M.fs i c h
    exact ⟨F, a, b.mono (Nat.le_succ k)⟩, M.fl, M.cl, M.is, M.e0, fun c h => (M.e1 c h).mono (Nat.le_succ k), M.xc, M.xp, M.ex, M.hot, M.sx, fun f h x n e => by
    obtain ⟨F, a, b⟩ := M.fh f h x n e
    exact ⟨F, a, b.mono (Nat.le_succ k)⟩, fun p h => ⟨Nat.le_trans (M.it p h).1 (Nat.le_succ k), (M.it p h).2⟩⟩
  exact go.push hg ⟨f, fd, s0 :: ps, k + 1, Nat.le_refl _, hM, new_ok M F hS hc, hm, hb⟩ (fun _ _ z => by cases z)
theorem Mod.newL (M : Mod P w K mg base T Pr G C k) {qual : Str} {c : Cl} {st : Stmt} {f : Addr} {fd : FuncData} {s0 : Str} {N ps : List Str} {b : Ss} (F : Fun K "__init__" qual st f fd) (hb : Binds K fd (s0 :: ps) []) (hM : Mk K (T.cl c) f) (hm : mg (clNm c) = some (.ref (T.cl c))) (hg : G.length = Pr.fs.length) (hS : scB (s0 :: N) (s0 :: ps) (defScope st) = true) (hc : mSs { Pr with N := s0 :: N } b ⟨defScope st, fun _ => true⟩ (defBody st) = true) :
    Mod P w K mg base T { Pr with fs := Pr.fs ++ [.new c ps.length] } (G ++ [runNewL G C c b (N.length + 1)]) C (k + 2) := by
  have go : Mod P w K mg base T Pr G C (k + 1) := ⟨M.blt, M.gl, fun i c h => by
    obtain ⟨F, a, b⟩ := M.fs i c h
    exact ⟨F, a, b.mono (Nat.le_succ k)⟩, M.fl, M.cl, M.is, M.e0, fun c h => (M.e1 c h).mono (Nat.le_succ k), M.xc, M.xp, M.ex, M.hot, M.sx, fun f h x n e => by
    obtain ⟨F, a, b⟩ := M.fh f h x n e
    exact ⟨F, a, b.mono (Nat.le_succ k)⟩, fun p h => ⟨Nat.le_trans (M.it p h).1 (Nat.le_succ k), (M.it p h).2⟩⟩
  exact go.push hg ⟨f, fd, s0 :: ps, k + 1, Nat.le_refl _, hM, new_okL M F hS hc, hm, hb⟩ (fun _ _ z => by cases z)
end
end Qk

set_option linter.all false
set_option maxHeartbeats 4000000
set_option maxRecDepth 100000
namespace Qk
open PySem L2 PyProof.Rows

def stB (sc : Scope) (s0 f p : Str) : Stmt → Bool
  | .Assign [.Attribute (.Name x _) g _] (.Name y _) _ => decide (x = s0) && decide (g = f) && decide (y = p) && visB sc s0 && visB sc p && dbgB s0 && dbgB p
  | _ => false
def ex1B (sc : Scope) (s0 f p : Str) : List Stmt → Bool
  | [a] => stB sc s0 f p a
  | _ => false
def ex2B (sc : Scope) (s0 f1 p1 f2 p2 : Str) : List Stmt → Bool
  | [a, b] => stB sc s0 f1 p1 a && stB sc s0 f2 p2 b
  | _ => false
section
variable {P : Program} {w : PySem.World} {K : PySem.W.Frag} {mg : Str → Option Value} {base : Heap} {T : Txc}
theorem vis_sc {X : Cx} {sc : Scope} (e : X.env.scope = sc) {x : Str} (h : visB sc x = true) : Vis X.env.scope x := by
  unfold visB at h
  unfold Vis
  rw [e]
  simp only [Bool.or_eq_true, decide_eq_true_eq] at h
  rcases h with (h | h) | h
  · exact .inl h
  · exact .inr (.inl h)
  · exact .inr (.inr h)
theorem st_ok {X : Cx} {sc : Scope} (e : X.env.scope = sc) {s0 f p : Str} {i : Nat} (h0 : X.N[0]? = some s0) (hi : X.N[i]? = some p) {a : Stmt} (h : stB sc s0 f p a = true) : PS X a (tOst X.K f (tVar 0) (tVar i)) := by
  unfold stB at h
  split at h
  · simp only [Bool.and_eq_true, decide_eq_true_eq] at h
    obtain ⟨⟨⟨⟨⟨⟨rfl, rfl⟩, rfl⟩, h4⟩, h5⟩, h6⟩, h7⟩ := h
    exact ps_ost (pe_var h0 (vis_sc e h4) (dbg_ h6).1 (dbg_ h6).2) (pe_var hi (vis_sc e h5) (dbg_ h7).1 (dbg_ h7).2) rfl
  · cases h
theorem exi1 {qual : Str} {st : Stmt} {f : Addr} {fd : FuncData} {c : Cl} {s0 p g : Str} (F : Fun K "__init__" qual st f fd) (hS : scB [s0, p] [s0, p] (defScope st) = true) (hB : ex1B (defScope st) s0 g p (defBody st) = true) (O : OexC K (T.cl c)) (hf : T.flds c = [g]) (no : PySem.W.findIn K (.ref (T.cl c)) g = some none) :
    FnOk P w K mg base (L2N.CX P w) 1 f fd [s0, p] (spExc T c 1) := by
  have S := scB_ hS
  refine fun_okN F S (fun vs H Q E h => h.1) (fun cdv A outer s H vs Q E hr h => ?_)
  obtain ⟨hl, a, us, H0, rfl, ha, rfl, q⟩ := h
  match us, hl with
  | [u], _ =>
    unfold ex1B at hB
    split at hB
    · rename_i z eb
      rw [eb]
      refine ⟨_, pss_one (st_ok (X := cxOf (L2N.CX P w) P w K mg base [s0, p] qual (defScope st) f cdv A outer s _ E) rfl rfl (i := 1) rfl hB), ?_⟩
      refine ⟨u, rfl, .ref a, rfl, a, T.cl c, rfl, O, no, .inl ⟨upd_same, fun dx hd ne => ?_⟩⟩
      have hd0 : H0 dx = none := by rw [upd_ne ne] at hd; exact hd
      refine q dx _ hd0 ne upd_same ?_ (fun b h1 h2 => ?_)
      · rw [upd_ne ne, upd_same, hf]; rfl
      · rw [upd_ne h1, upd_ne h2, upd_ne h1]
    · cases hB
theorem exi2 {qual : Str} {st : Stmt} {f : Addr} {fd : FuncData} {c : Cl} {s0 p1 p2 g1 g2 : Str} (F : Fun K "__init__" qual st f fd) (hS : scB [s0, p1, p2] [s0, p1, p2] (defScope st) = true) (hB : ex2B (defScope st) s0 g1 p1 g2 p2 (defBody st) = true) (O : OexC K (T.cl c)) (hf : T.flds c = [g1, g2]) (no1 : PySem.W.findIn K (.ref (T.cl c)) g1 = some none) (no2 : PySem.W.findIn K (.ref (T.cl c)) g2 = some none) :
    FnOk P w K mg base (L2N.CX P w) 1 f fd [s0, p1, p2] (spExc T c 2) := by
  have S := scB_ hS
  refine fun_okN F S (fun vs H Q E h => h.1) (fun cdv A outer s H vs Q E hr h => ?_)
  obtain ⟨hl, a, us, H0, rfl, ha, rfl, q⟩ := h
  match us, hl with
  | [u, v], _ =>
    unfold ex2B at hB
    split at hB
    · rename_i z z2 eb
      rw [Bool.and_eq_true] at hB
      rw [eb]
      refine ⟨_, pss_cons (st_ok (X := cxOf (L2N.CX P w) P w K mg base [s0, p1, p2] qual (defScope st) f cdv A outer s _ E) rfl rfl (i := 1) rfl hB.1) (pss_one (st_ok (X := cxOf (L2N.CX P w) P w K mg base [s0, p1, p2] qual (defScope st) f cdv A outer s _ E) rfl rfl (i := 2) rfl hB.2)), ?_⟩
      refine ⟨u, rfl, .ref a, rfl, a, T.cl c, rfl, O, no1, .inl ⟨upd_same, fun dx hd ne => ?_⟩⟩
      have hd0 : H0 dx = none := by rw [upd_ne ne] at hd; exact hd
      refine ⟨v, rfl, .ref a, rfl, a, T.cl c, rfl, O, no2, .inr ⟨dx, [(g1, u)], upd_same, by rw [upd_ne ne, upd_same], by simp, ?_⟩⟩
      refine q dx _ hd0 ne (by rw [upd_ne ne.symm, upd_same]) ?_ (fun b h1 h2 => ?_)
      · rw [upd_same, hf]; rfl
      · rw [upd_ne h2, upd_ne h1, upd_ne h2, upd_ne h1]
    · cases hB
end
end Qk

set_option linter.all false
set_option maxHeartbeats 4000000
set_option maxRecDepth 100000
namespace Qk
open PySem L2 PyProof.Rows

theorem fl_nd (c : Cl) : (fldsOf c).Nodup := by cases c <;> decide +kernel
def spLaw (K : PySem.W.Frag) : Sp := fun vs H Q _ => ∃ (a : Addr) (ns : List Int), vs = [.ref a] ∧ SqL K H a (ns.map V.int) ∧ ns.length ≤ 63 ∧ ∀ H', Q (.bl true) H'
section
variable {P : Program} {w : PySem.World} {K : PySem.W.Frag} {mg : Str → Option Value} {base : Heap} {T : Txc} {Pr : Par} {G : List Fn} {C : List Int} {k : Nat}
theorem reps_ints {w : Wd} : ∀ ns : List Int, Reps K T w (ns.map .int) (ns.map V.int)
  | [] => trivial
  | n :: ns => ⟨rfl, reps_ints ns⟩
theorem law_ok {x qual : Str} {st : Stmt} {f : Addr} {fd : FuncData} {N : List Str} {s0 : Str} {b : Ss} (M : Mod P w K mg base T Pr G C k) (F : Fun K x qual st f fd) (hS : scB N [s0] (defScope st) = true) (hm : mSs { Pr with N := N } b ⟨defScope st, fun _ => true⟩ (defBody st) = true)
    (pure : ∀ ns : List Int, ns.length ≤ 63 → ∃ st', runFn G C b N.length [.scr (ns.map .int)] [] = .ok (.bl true, st')) : FnOk P w K mg base (L2N.CX P w) (k + 1) f fd [s0] (spLaw K) := by
  refine (fn_ok M F hS hm).imp fun vs H Q E ⟨a, ns, e, sq, hl, q⟩ => ?_
  subst e
  obtain ⟨st', e⟩ := pure ns hl
  refine ⟨rfl, ⟨H, [], {}⟩, [.scr (ns.map .int)], [], ⟨Same.refl _, rfl, List.nodup_nil, fun l m a h _ => by cases h⟩, ⟨⟨a, _, rfl, sq, reps_ints ns⟩, trivial⟩, ?_⟩
  rw [e]
  intro w' H' v _ _ rv
  cases rv
  exact q H'
theorem walk {k : Nat} {l : PySem.W.OpenLaw} {q : Program} {loose : List Str} {XP : (Str → Option Value) → Heap → Prop} {YP : PySem.World → Heap → Prop} {d : DefRec} {K : Params → PySem.W.Frag} (hk : Room k callerA) (hn : l.most = some 63) (hdf : d.params.defaults = [])
    (hY : ∀ (w : PySem.World) (h : Heap), YP w h → (K w.params).In h)
    (F : ∀ (w : PySem.World) (mg : Str → Option Value) (fa : Addr) (h : Heap), (K w.params).In h → h.Ns mainGlobals mg → mg d.name = some (.ref fa) →
      ∃ fd : FuncData, (∀ (s : Shared) (u : Value), BindsTo s fd ⟨[u], []⟩ [("_law_script", u)]) ∧ ∀ base : Heap, (K w.params).In base → base.Ns mainGlobals mg → FnOk l.prog w (K w.params) mg base (L2N.CX l.prog w) k fa fd ["_law_script"] (spLaw (K w.params))) :
    PySem.W.WalkO q loose XP YP l.row.toRowW d [] (fun f vs => PySem.call f vs) :=
  L2.walk_of (n := 63) (k := k) (x := "_law_script") (CX := fun w => L2N.CX l.prog w) (sp := fun w => spLaw (K w.params)) hn (by decide) hdf hk hY F (fun _ _ a ns hl _ hS => ⟨a, ns, rfl, hS, hl, fun _ => rfl⟩) fun _ _ _ _ _ ⟨_, _, _, _, _, _, _, _, _, _, _, _, z⟩ => z
end
theorem isF_mk {K : PySem.W.Frag} {T : Txc} {c : Cl} (hc : L2.Cls K (T.cl c)) (ha : PySem.W.findIn K (.ref (T.cl c)) "__class__" = some (some (.builtin "object.__class__"))) (hn : PySem.W.specialIn K (.builtin "object.__class__") "__get__" = some (some (.builtin "getset_descriptor.__get__")))
    (ht : PySem.W.takesIn K (.builtin "object.__class__") = some true) (hm : PySem.W.mroIn K (T.cl c) (.type "object") = some true) (hy : PySem.W.typeIn K (.ref (T.cl c)) = some (.type "type"))
    (s1 : PySem.W.subIn K (.ref (T.cl c)) (.type "int") = some false) (s2 : PySem.W.subIn K (.ref (T.cl c)) (.type "bool") = some false) (s3 : PySem.W.subIn K (.ref (T.cl c)) (.type "str") = some false) (s4 : PySem.W.subIn K (.ref (T.cl c)) (.type "list") = some false) (s5 : PySem.W.subIn K (.ref (T.cl c)) (.type "tuple") = some false) : IsF K T c := by
  have hcl : (PySem.W.clsIn K (T.cl c)).isSome = true := by
    have := hc.hd
    unfold PySem.W.hasDictIn at this
    cases e : PySem.W.clsIn K (T.cl c) with
    | none => rw [e] at this; cases this
    | some _ => rfl
  have ne1 : ∀ (a : Addr) (t : String), ¬ ((Value.ref a == Value.type t) = true) := fun a t h => by cases (beq_iff_eq.mp h)
  have ne2 : ∀ (a : Addr) (t : String), ¬ ((Value.type t == Value.ref a) = true) := fun a t h => by cases (beq_iff_eq.mp h)
  have to : ∀ t : String, PySem.W.kitMeta t = true → PySem.W.subIn K (.ref (T.cl c)) (.type t) = some false → PySem.W.kitOne K (.ref (T.cl c)) (.type t) = some false := fun t h1 h2 => by
    unfold PySem.W.kitOne PySem.W.kitCls
    rw [if_neg (ne1 _ _)]
    simp only [h1, h2, if_true]
  have fr : ∀ t : String, ((fastBuiltinMro t).map (·.all fun v => match v with | .ref _ => false | _ => true)) = some true → PySem.W.kitOne K (.type t) (.ref (T.cl c)) = some false := fun t h => by
    unfold PySem.W.kitOne PySem.W.kitCls
    rw [if_neg (ne2 _ _)]
    simp only [hcl, hy, beq_self_eq_true, Bool.and_self, if_true]
    unfold PySem.W.subIn
    cases e : fastBuiltinMro t with
    | none => rw [e] at h; cases h
    | some l =>
      rw [e] at h
      simp only [Option.map_some, Option.some.injEq, List.all_eq_true] at h ⊢
      cases e2 : l.contains (Value.ref (T.cl c)) with
      | false => show Option.map _ (fastBuiltinMro t) = _; rw [e]; exact congrArg some e2
      | true =>
        have := h _ (List.contains_iff_mem.mp e2)
        cases this
  refine ⟨hc, ha, hn, ht, hm, fun t h => ?_, fun t h => ?_⟩
  · simp only [List.mem_cons, List.not_mem_nil, or_false] at h
    rcases h with rfl | rfl | rfl | rfl | rfl
    · exact to _ (by decide +kernel) s1
    · exact to _ (by decide +kernel) s2
    · exact to _ (by decide +kernel) s3
    · exact to _ (by decide +kernel) s4
    · exact to _ (by decide +kernel) s5
  · simp only [List.mem_cons, List.not_mem_nil, or_false] at h
    rcases h with rfl | rfl | rfl | rfl | rfl | rfl <;> exact fr _ (by decide +kernel)
end Qk

set_option linter.all false
set_option maxHeartbeats 4000000
set_option maxRecDepth 100000
namespace Qk
open PySem
noncomputable section

theorem nr {α : Type} {a b : α} (h : a = b) : a = b := h
def onO {α β : Type} (z : β) (o : Option α) (f : α → β) : β := match o with | some a => f a | none => z
@[simp] theorem onO_some {α β : Type} {z : β} {a : α} {f : α → β} : onO z (some a) f = f a := nr rfl
@[simp] theorem onO_none {α β : Type} {z : β} {f : α → β} : onO z none f = z := nr rfl
def onB {β : Type} (b : Bool) (x y : β) : β := match b with | true => x | false => y
@[simp] theorem onB_t {β : Type} {x y : β} : onB true x y = x := nr rfl
@[simp] theorem onB_f {β : Type} {x y : β} : onB false x y = y := nr rfl
def dI : D → Option Int | .int i => some i | _ => none
@[simp] theorem dI_i {i : Int} : dI (.int i) = some i := nr rfl
def dB : D → Option Bool | .bl i => some i | _ => none
@[simp] theorem dB_b {i : Bool} : dB (.bl i) = some i := nr rfl
def dS (st : Sto) : D → Option (List D × Gd)
  | .lst ds => some (ds, none) | .scr ds => some (ds, none) | .tup ds => some (ds, none) | .ktup ds => some (ds, none)
  | .loc l => match st[l]? with | some (.lst ds) => some (ds, some (l, ds)) | _ => none
  | _ => none
section
variable {st : Sto} {a : List D}
@[simp] theorem dS_l : dS st (.lst a) = some (a, none) := nr rfl
@[simp] theorem dS_s : dS st (.scr a) = some (a, none) := nr rfl
@[simp] theorem dS_t : dS st (.tup a) = some (a, none) := nr rfl
@[simp] theorem dS_k : dS st (.ktup a) = some (a, none) := nr rfl
theorem dS_loc {l : Nat} (h : st[l]? = some (.lst a)) : dS st (.loc l) = some (a, some (l, a)) := by simp only [dS, h]
end
@[simp] theorem gdC_none {f : D → Sto → R (Option D × Sto)} : gdC none f = f := nr rfl
@[simp] theorem gdF_none {f : D → Sls → Sto → O} : gdF none f = f := nr rfl
def slV (δ : Sls) (i : Nat) : Option D := match δ[i]? with | some (.val d) => some d | _ => none
@[simp] theorem slV_0 {d : D} {δ : Sls} : slV (.val d :: δ) 0 = some d := nr rfl
@[simp] theorem slV_s {x : Sl} {δ : Sls} {i : Nat} : slV (x :: δ) (i + 1) = slV δ i := nr rfl
def slP (δ : Sls) (i : Nat) : Option Pl := match δ[i]? with | some (.val d) => some (.d d) | some (.own m) => some (.own m) | _ => none
@[simp] theorem slP_0 {d : D} {δ : Sls} : slP (.val d :: δ) 0 = some (.d d) := nr rfl
@[simp] theorem slP_0o {m : M} {δ : Sls} : slP (.own m :: δ) 0 = some (.own m) := nr rfl
@[simp] theorem slP_s {x : Sl} {δ : Sls} {i : Nat} : slP (x :: δ) (i + 1) = slP δ i := nr rfl
def slL (δ : Sls) (i : Nat) : Option (List D) := match δ[i]? with | some (.own (.lst ds)) => some ds | _ => none
@[simp] theorem slL_0 {ds : List D} {δ : Sls} : slL (.own (.lst ds) :: δ) 0 = some ds := nr rfl
@[simp] theorem slL_s {x : Sl} {δ : Sls} {i : Nat} : slL (x :: δ) (i + 1) = slL δ i := nr rfl
def slI (δ : Sls) (i : Nat) (c : Cl) : Option (List D) := match δ[i]? with | some (.own (.ins c' ds)) => if c' = c then some ds else none | _ => none
@[simp] theorem slI_0 {ds : List D} {δ : Sls} {c : Cl} : slI (.own (.ins c ds) :: δ) 0 c = some ds := by simp [slI]
@[simp] theorem slI_s {x : Sl} {δ : Sls} {i : Nat} {c : Cl} : slI (x :: δ) (i + 1) c = slI δ i c := nr rfl
def nth {α : Type} (l : List α) (i : Nat) : Option α := l[i]?
@[simp] theorem nth_0 {α : Type} {a : α} {l : List α} : nth (a :: l) 0 = some a := nr rfl
@[simp] theorem nth_s {α : Type} {a : α} {l : List α} {i : Nat} : nth (a :: l) (i + 1) = nth l i := nr rfl
@[simp] theorem nth_map {α β : Type} {f : α → β} {l : List α} {i : Nat} : nth (l.map f) i = (nth l i).map f := by simp [nth]
theorem nth_eq {α : Type} {l : List α} {i : Nat} : nth l i = l[i]? := nr rfl
def ixD (ds : List D) (i : Int) : Option D := match ixn ds.length i with | some j => nth ds j | none => none
theorem ixD_of {ds : List D} {i : Int} {d : D} {k : Nat} (h : ds[k]? = some d) (e : i = k) : ixD ds i = some d := by
  subst e
  have hk := (List.getElem?_eq_some_iff.mp h).1
  unfold ixD ixn
  rw [if_pos (by omega), if_pos (by omega)]
  exact h
@[simp] theorem ixD_0 {d : D} {ds : List D} : ixD (d :: ds) 0 = some d := ixD_of (k := 0) rfl rfl
@[simp] theorem ixD_1 {d e : D} {ds : List D} : ixD (d :: e :: ds) 1 = some e := ixD_of (k := 1) rfl rfl
@[simp] theorem ixD_2 {d e f : D} {ds : List D} : ixD (d :: e :: f :: ds) 2 = some f := ixD_of (k := 2) rfl rfl
@[simp] theorem ixD_3 {d e f g : D} {ds : List D} : ixD (d :: e :: f :: g :: ds) 3 = some g := ixD_of (k := 3) rfl rfl
@[simp] theorem ixD_4 {d e f g h : D} {ds : List D} : ixD (d :: e :: f :: g :: h :: ds) 4 = some h := ixD_of (k := 4) rfl rfl
@[simp] theorem ixD_5 {d e f g h i : D} {ds : List D} : ixD (d :: e :: f :: g :: h :: i :: ds) 5 = some i := ixD_of (k := 5) rfl rfl
theorem onIx {β : Type} {z : β} {ds : List D} {i : Int} {f : D → β} : (match ixn ds.length i with | some j => (match ds[j]? with | some d => f d | none => z) | none => z) = onO z (ixD ds i) f := by
  unfold ixD onO nth
  cases ixn ds.length i with
  | none => rfl
  | some j =>
    show (match ds[j]? with | some d => f d | none => z) = _
    cases h : ds[j]? with
    | none => simp only [h]
    | some d => simp only [h]
def slR (st : Sto) (p : Pl) (lo hi : Option Int) : Option D := match lstOf st p with
  | some ds => some (.lst (cut ds lo hi))
  | none => match seqOf st p with
    | some ds => if sIx ds.length 0 lo = 0 ∧ sIx ds.length ds.length hi = ds.length then none else some (.tup (cut ds lo hi))
    | none => none
section
variable {st : Sto} {ds : List D} {lo hi : Option Int}
@[simp] theorem slR_l : slR st (.d (.lst ds)) lo hi = some (.lst (cut ds lo hi)) := nr rfl
@[simp] theorem slR_s : slR st (.d (.scr ds)) lo hi = some (.lst (cut ds lo hi)) := nr rfl
@[simp] theorem slR_o : slR st (.own (.lst ds)) lo hi = some (.lst (cut ds lo hi)) := nr rfl
@[simp] theorem slR_t : slR st (.d (.tup ds)) lo hi = if sIx ds.length 0 lo = 0 ∧ sIx ds.length ds.length hi = ds.length then none else some (.tup (cut ds lo hi)) := nr rfl
end
abbrev Tag {α : Type} (a : α) : Type := Unit
def R.bt {α β : Type} (r : R α) (f : α → R β) (_ : Tag f) : R β := r.bind f
def R.tt {α : Type} (r : R α) (δ : Sls) (f : α → O) (_ : Tag f) : O := r.toO δ f
def O.sq (o : O) (f : Sls → Sto → O) (_ : Tag f) : O := o.seq f
def onOt {α β : Type} (z : β) (o : Option α) (f : α → β) (_ : Tag f) : β := onO z o f
def onBt {β : Type} (b : Bool) (x y : β) (_ : Tag (x, y)) : β := onB b x y
@[simp] theorem onOt_some {α β : Type} {z : β} {a : α} {f : α → β} {t : Tag f} : onOt z (some a) f t = f a := nr rfl
@[simp] theorem onOt_none {α β : Type} {z : β} {f : α → β} {t : Tag f} : onOt z none f t = z := nr rfl
@[simp] theorem onBt_t {β : Type} {x y : β} {t : Tag (x, y)} : onBt true x y t = x := nr rfl
@[simp] theorem onBt_f {β : Type} {x y : β} {t : Tag (x, y)} : onBt false x y t = y := nr rfl
section
variable {δ : Sls}
@[simp] theorem bt_ok {α β : Type} {a : α} {f : α → R β} {t : Tag f} : (R.ok a).bt f t = f a := nr rfl
@[simp] theorem bt_exc {α β : Type} {c : Cl} {ds : List D} {s : Sto} {f : α → R β} {t : Tag f} : (R.exc c ds s : R α).bt f t = .exc c ds s := nr rfl
@[simp] theorem bt_stuck {α β : Type} {f : α → R β} {t : Tag f} : (R.stuck : R α).bt f t = .stuck := nr rfl
@[simp] theorem tt_ok {α : Type} {a : α} {f : α → O} {t : Tag f} : (R.ok a).tt δ f t = f a := nr rfl
@[simp] theorem tt_exc {α : Type} {c : Cl} {ds : List D} {s : Sto} {f : α → O} {t : Tag f} : (R.exc c ds s : R α).tt δ f t = .exc c ds δ s := nr rfl
@[simp] theorem tt_stuck {α : Type} {f : α → O} {t : Tag f} : (R.stuck : R α).tt δ f t = .stuck := nr rfl
@[simp] theorem sq_nx {s : Sto} {f : Sls → Sto → O} {t : Tag f} : (O.nx δ s).sq f t = f δ s := nr rfl
@[simp] theorem sq_ret {s : Sto} {d : D} {f : Sls → Sto → O} {t : Tag f} : (O.ret d s).sq f t = .ret d s := nr rfl
@[simp] theorem sq_exc {s : Sto} {c : Cl} {ds : List D} {f : Sls → Sto → O} {t : Tag f} : (O.exc c ds δ s).sq f t = .exc c ds δ s := nr rfl
@[simp] theorem sq_brk {s : Sto} {f : Sls → Sto → O} {t : Tag f} : (O.brk δ s).sq f t = .brk δ s := nr rfl
@[simp] theorem sq_cnt {s : Sto} {f : Sls → Sto → O} {t : Tag f} : (O.cnt δ s).sq f t = .cnt δ s := nr rfl
end
section
variable {G : List Fn} {C : List Int} {δ : Sls} {st : Sto}
theorem ev_v_0 {i : Nat} : evalE G C (.v i) δ st = onO .stuck (slV δ i) fun d => .ok (d, st) := by
  simp only [evalE, slV]
  cases δ[i]? with
  | none => rfl
  | some x => cases x <;> rfl
@[simp] theorem ev_v {i : Nat} : evalE G C (.v i) δ st = onOt .stuck (slV δ i) (fun d => .ok (d, st)) () := ev_v_0
@[simp] theorem ev_c {d : D} : evalE G C (.c d) δ st = .ok (d, st) := by simp only [evalE]
theorem ev_g_0 {k : Nat} : evalE G C (.g k) δ st = onO .stuck (nth C k) fun n => .ok (.int n, st) := by
  simp only [evalE]
  show _ = onO R.stuck (C[k]?) _
  cases C[k]? <;> rfl
@[simp] theorem ev_g {k : Nat} : evalE G C (.g k) δ st = onOt .stuck (nth C k) (fun n => .ok (.int n, st)) () := ev_g_0
theorem ev_tup_0 {es : Es} : evalE G C (.tup es) δ st = (evalEs G C es δ st).bind fun r => .ok (.tup r.1, r.2) := by simp only [evalE]
@[simp] theorem ev_tup {es : Es} : evalE G C (.tup es) δ st = (evalEs G C es δ st).bt (fun r => .ok (.tup r.1, r.2)) () := ev_tup_0
theorem ev_lst_0 {es : Es} : evalE G C (.lst es) δ st = (evalEs G C es δ st).bind fun r => .ok (.lst r.1, r.2) := by simp only [evalE]
@[simp] theorem ev_lst {es : Es} : evalE G C (.lst es) δ st = (evalEs G C es δ st).bt (fun r => .ok (.lst r.1, r.2)) () := ev_lst_0
theorem ev_bin_0 {o : Bo} {a b : E} : evalE G C (.bin o a b) δ st = (evalE G C a δ st).bind fun r => (evalE G C b δ r.2).bind fun q => onO .stuck (binV o r.1 q.1) fun d => .ok (d, q.2) := by
  simp only [evalE]
  refine congrArg _ (funext fun r => ?_)
  refine congrArg _ (funext fun q => ?_)
  cases (binV o r.1 q.1) <;> rfl
@[simp] theorem ev_bin {o : Bo} {a b : E} : evalE G C (.bin o a b) δ st = (evalE G C a δ st).bt (fun r => (evalE G C b δ r.2).bt (fun q => onOt .stuck (binV o r.1 q.1) (fun d => .ok (d, q.2)) ()) ()) () := ev_bin_0
theorem ev_neg_0 {a : E} : evalE G C (.neg a) δ st = (evalE G C a δ st).bind fun r => onO .stuck (dI r.1) fun i => .ok (.int (-i), r.2) := by
  simp only [evalE]
  congr 1
  funext r
  cases r.1 <;> rfl
@[simp] theorem ev_neg {a : E} : evalE G C (.neg a) δ st = (evalE G C a δ st).bt (fun r => onOt .stuck (dI r.1) (fun i => .ok (.int (-i), r.2)) ()) () := ev_neg_0
theorem ev_not_0 {a : E} : evalE G C (.not a) δ st = (evalP G C a δ st).bind fun r => onO .stuck (truP r.2 r.1) fun b => .ok (.bl (!b), r.2) := by
  simp only [evalE]
  refine congrArg _ (funext fun r => ?_)
  cases (truP r.2 r.1) <;> rfl
@[simp] theorem ev_not {a : E} : evalE G C (.not a) δ st = (evalP G C a δ st).bt (fun r => onOt .stuck (truP r.2 r.1) (fun b => .ok (.bl (!b), r.2)) ()) () := ev_not_0
theorem ev_cmp_0 {o : Co} {a b : E} : evalE G C (.cmp o a b) δ st = (evalP G C a δ st).bind fun r => (evalP G C b δ r.2).bind fun q => onO .stuck (cmpP o q.2 r.1 q.1) fun d => .ok (.bl d, q.2) := by
  simp only [evalE]
  refine congrArg _ (funext fun r => ?_)
  refine congrArg _ (funext fun q => ?_)
  cases (cmpP o q.2 r.1 q.1) <;> rfl
@[simp] theorem ev_cmp {o : Co} {a b : E} : evalE G C (.cmp o a b) δ st = (evalP G C a δ st).bt (fun r => (evalP G C b δ r.2).bt (fun q => onOt .stuck (cmpP o q.2 r.1 q.1) (fun d => .ok (.bl d, q.2)) ()) ()) () := ev_cmp_0
theorem ev_chn_0 {o p : Co} {a b c : E} : evalE G C (.chn o p a b c) δ st = (evalE G C a δ st).bind fun r => (evalE G C b δ r.2).bind fun q => onO .stuck (cmpP o q.2 (.d r.1) (.d q.1)) fun x =>
    onB x ((evalE G C c δ q.2).bind fun u => onO .stuck (cmpP p u.2 (.d q.1) (.d u.1)) fun d => .ok (.bl d, u.2)) (.ok (.bl false, q.2)) := by
  simp only [evalE]
  congr 1
  funext r
  congr 1
  funext q
  cases cmpP o q.2 (.d r.1) (.d q.1) with
  | none => rfl
  | some x =>
    cases x with
    | false => rfl
    | true =>
      simp only [onO_some, onB_t]
      refine congrArg _ (funext fun u => ?_)
      cases cmpP p u.2 (.d q.1) (.d u.1) <;> rfl
@[simp] theorem ev_chn {o p : Co} {a b c : E} : evalE G C (.chn o p a b c) δ st = (evalE G C a δ st).bt (fun r => (evalE G C b δ r.2).bt (fun q => onOt .stuck (cmpP o q.2 (.d r.1) (.d q.1)) (fun x =>
    onBt x ((evalE G C c δ q.2).bt (fun u => onOt .stuck (cmpP p u.2 (.d q.1) (.d u.1)) (fun d => .ok (.bl d, u.2)) ()) ()) (.ok (.bl false, q.2)) ()) ()) ()) () := ev_chn_0
theorem ev_and_0 {a b : E} : evalE G C (.and a b) δ st = (evalE G C a δ st).bind fun r => onO .stuck (dB r.1) fun x => onB x (evalE G C b δ r.2) (.ok (.bl false, r.2)) := by
  simp only [evalE]
  congr 1
  funext r
  rcases r with ⟨d, s⟩
  cases d <;> first | rfl | (rename_i x; cases x <;> rfl)
@[simp] theorem ev_and {a b : E} : evalE G C (.and a b) δ st = (evalE G C a δ st).bt (fun r => onOt .stuck (dB r.1) (fun x => onBt x (evalE G C b δ r.2) (.ok (.bl false, r.2)) ()) ()) () := ev_and_0
theorem ev_or_0 {a b : E} : evalE G C (.or a b) δ st = (evalE G C a δ st).bind fun r => onO .stuck (dB r.1) fun x => onB x (.ok (.bl true, r.2)) (evalE G C b δ r.2) := by
  simp only [evalE]
  congr 1
  funext r
  rcases r with ⟨d, s⟩
  cases d <;> first | rfl | (rename_i x; cases x <;> rfl)
@[simp] theorem ev_or {a b : E} : evalE G C (.or a b) δ st = (evalE G C a δ st).bt (fun r => onOt .stuck (dB r.1) (fun x => onBt x (.ok (.bl true, r.2)) (evalE G C b δ r.2) ()) ()) () := ev_or_0
theorem ev_ife_0 {c a b : E} : evalE G C (.ife c a b) δ st = (evalT G C c δ st).bind fun r => onB r.1 (evalE G C a δ r.2) (evalE G C b δ r.2) := by
  simp only [evalE]
  refine congrArg _ (funext fun r => ?_)
  cases r.1 <;> rfl
@[simp] theorem ev_ife {c a b : E} : evalE G C (.ife c a b) δ st = (evalT G C c δ st).bt (fun r => onBt r.1 (evalE G C a δ r.2) (evalE G C b δ r.2) ()) () := ev_ife_0
theorem ev_ix_0 {a b : E} : evalE G C (.ix a b) δ st = (evalP G C a δ st).bind fun r => (evalE G C b δ r.2).bind fun q => onO .stuck (seqOf q.2 r.1) fun ds => onO .stuck (dI q.1) fun i => onO .stuck (ixD ds i) fun d => .ok (d, q.2) := by
  simp only [evalE]
  congr 1
  funext r
  congr 1
  funext q
  cases seqOf q.2 r.1 with
  | none => rfl
  | some ds =>
    rcases q with ⟨d, s⟩
    cases d <;> first | rfl | exact onIx
@[simp] theorem ev_ix {a b : E} : evalE G C (.ix a b) δ st = (evalP G C a δ st).bt (fun r => (evalE G C b δ r.2).bt (fun q => onOt .stuck (seqOf q.2 r.1) (fun ds => onOt .stuck (dI q.1) (fun i => onOt .stuck (ixD ds i) (fun d => .ok (d, q.2)) ()) ()) ()) ()) () := ev_ix_0
theorem ev_sl_0 {a : E} {lo hi : Eo} : evalE G C (.sl a lo hi) δ st = (evalP G C a δ st).bind fun r => (evalO G C lo δ r.2).bind fun q => (evalO G C hi δ q.2).bind fun u => onO .stuck (slR u.2 r.1 q.1 u.1) fun d => .ok (d, u.2) := by
  simp only [evalE]
  refine congrArg _ (funext fun r => ?_)
  refine congrArg _ (funext fun q => ?_)
  refine congrArg _ (funext fun u => ?_)
  unfold slR
  cases lstOf u.2 r.1 with
  | some ds => rfl
  | none =>
    cases seqOf u.2 r.1 with
    | none => rfl
    | some ds =>
      dsimp only
      by_cases h : sIx ds.length 0 q.1 = 0 ∧ sIx ds.length ds.length u.1 = ds.length
      · rw [if_pos h, if_pos h]; rfl
      · rw [if_neg h, if_neg h]; rfl
@[simp] theorem ev_sl {a : E} {lo hi : Eo} : evalE G C (.sl a lo hi) δ st = (evalP G C a δ st).bt (fun r => (evalO G C lo δ r.2).bt (fun q => (evalO G C hi δ q.2).bt (fun u => onOt .stuck (slR u.2 r.1 q.1 u.1) (fun d => .ok (d, u.2)) ()) ()) ()) () := ev_sl_0
theorem ev_fld_0 {a : E} {c : Cl} {k : Nat} : evalE G C (.fld a c k) δ st = (evalP G C a δ st).bind fun r => onO .stuck (insOf r.2 c r.1) fun ds => onO .stuck (nth ds k) fun d => .ok (d, r.2) := by
  simp only [evalE]
  refine congrArg _ (funext fun r => ?_)
  cases insOf r.2 c r.1 with
  | none => rfl
  | some ds =>
    simp only [onO_some]
    show _ = onO R.stuck (ds[k]?) _
    cases ds[k]? <;> rfl
@[simp] theorem ev_fld {a : E} {c : Cl} {k : Nat} : evalE G C (.fld a c k) δ st = (evalP G C a δ st).bt (fun r => onOt .stuck (insOf r.2 c r.1) (fun ds => onOt .stuck (nth ds k) (fun d => .ok (d, r.2)) ()) ()) () := ev_fld_0
theorem ev_call_0 {f : Nat} {es : Es} : evalE G C (.call f es) δ st = (evalEs G C es δ st).bind fun r => onO .stuck (nth G f) fun F => F r.1 r.2 := by
  simp only [evalE]
  refine congrArg _ (funext fun r => ?_)
  show _ = onO R.stuck (G[f]?) _
  cases G[f]? <;> rfl
@[simp] theorem ev_call {f : Nat} {es : Es} : evalE G C (.call f es) δ st = (evalEs G C es δ st).bt (fun r => onOt .stuck (nth G f) (fun F => F r.1 r.2) ()) () := ev_call_0
theorem ev_new_0 {f : Nat} {es : Es} : evalE G C (.new f es) δ st = (evalEs G C es δ st).bind fun r => onO .stuck (nth G f) fun F => F r.1 r.2 := by
  simp only [evalE]
  refine congrArg _ (funext fun r => ?_)
  show _ = onO R.stuck (G[f]?) _
  cases G[f]? <;> rfl
@[simp] theorem ev_new {f : Nat} {es : Es} : evalE G C (.new f es) δ st = (evalEs G C es δ st).bt (fun r => onOt .stuck (nth G f) (fun F => F r.1 r.2) ()) () := ev_new_0
theorem ev_meth_0 {f : Nat} {c : Cl} {a : E} {es : Es} : evalE G C (.meth f c a es) δ st = (evalE G C a δ st).bind fun r => onO .stuck (insOf r.2 c (.d r.1)) fun _ => (evalEs G C es δ r.2).bind fun q => onO .stuck (nth G f) fun F => F (r.1 :: q.1) q.2 := by
  simp only [evalE]
  refine congrArg _ (funext fun r => ?_)
  cases insOf r.2 c (.d r.1) with
  | none => rfl
  | some x =>
    simp only [onO_some]
    refine congrArg _ (funext fun q => ?_)
    show _ = onO R.stuck (G[f]?) _
    cases G[f]? <;> rfl
@[simp] theorem ev_meth {f : Nat} {c : Cl} {a : E} {es : Es} : evalE G C (.meth f c a es) δ st = (evalE G C a δ st).bt (fun r => onOt .stuck (insOf r.2 c (.d r.1)) (fun _ => (evalEs G C es δ r.2).bt (fun q => onOt .stuck (nth G f) (fun F => F (r.1 :: q.1) q.2) ()) ()) ()) () := ev_meth_0
theorem ev_blt_0 {b : Bl} {es : Es} : evalE G C (.blt b es) δ st = (evalPs G C es δ st).bind fun r => onO .stuck (bltV r.2 b r.1) fun d => .ok (d, r.2) := by
  simp only [evalE]
  refine congrArg _ (funext fun r => ?_)
  cases (bltV r.2 b r.1) <;> rfl
@[simp] theorem ev_blt {b : Bl} {es : Es} : evalE G C (.blt b es) δ st = (evalPs G C es δ st).bt (fun r => onOt .stuck (bltV r.2 b r.1) (fun d => .ok (d, r.2)) ()) () := ev_blt_0
theorem ev_isi_0 {a : E} {ts : List Ty} {cs : List Cl} : evalE G C (.isi a ts cs) δ st = (evalP G C a δ st).bind fun r => onO .stuck (kindP cs r.2 r.1) fun k => onO .stuck (tyAny cs k ts) fun b => .ok (.bl b, r.2) := by
  simp only [evalE]
  refine congrArg _ (funext fun r => ?_)
  cases kindP cs r.2 r.1 with
  | none => rfl
  | some k =>
    simp only [onO_some]
    cases tyAny cs k ts <;> rfl
@[simp] theorem ev_isi {a : E} {ts : List Ty} {cs : List Cl} : evalE G C (.isi a ts cs) δ st = (evalP G C a δ st).bt (fun r => onOt .stuck (kindP cs r.2 r.1) (fun k => onOt .stuck (tyAny cs k ts) (fun b => .ok (.bl b, r.2)) ()) ()) () := ev_isi_0
theorem ev_comp {elt : E} {tg : Tg} {it : I} {cs : Es} {own : List Nat} : evalE G C (.comp elt tg it cs own) δ st = (evalI G C it δ st).bind fun r => (compLoop (gdC r.1.2 (evalComp G C elt tg cs own δ)) r.1.1 [] r.2).bind fun q => .ok (.lst q.1, q.2) := by
  simp only [evalE]
  rfl
theorem ep_v_0 {i : Nat} : evalP G C (.v i) δ st = onO .stuck (slP δ i) fun p => .ok (p, st) := by
  simp only [evalP, slP]
  cases δ[i]? with
  | none => rfl
  | some x => cases x <;> rfl
@[simp] theorem ep_v {i : Nat} : evalP G C (.v i) δ st = onOt .stuck (slP δ i) (fun p => .ok (p, st)) () := ep_v_0
theorem ep_c_0 {d : D} : evalP G C (.c d) δ st = (evalE G C (.c d) δ st).bind fun r => .ok (.d r.1, r.2) := by simp only [evalP] <;> rfl
@[simp] theorem ep_c {d : D} : evalP G C (.c d) δ st = (evalE G C (.c d) δ st).bt (fun r => .ok (.d r.1, r.2)) () := ep_c_0
theorem ep_g_0 {k : Nat} : evalP G C (.g k) δ st = (evalE G C (.g k) δ st).bind fun r => .ok (.d r.1, r.2) := by simp only [evalP] <;> rfl
@[simp] theorem ep_g {k : Nat} : evalP G C (.g k) δ st = (evalE G C (.g k) δ st).bt (fun r => .ok (.d r.1, r.2)) () := ep_g_0
theorem ep_tup_0 {es : Es} : evalP G C (.tup es) δ st = (evalE G C (.tup es) δ st).bind fun r => .ok (.d r.1, r.2) := by simp only [evalP] <;> rfl
@[simp] theorem ep_tup {es : Es} : evalP G C (.tup es) δ st = (evalE G C (.tup es) δ st).bt (fun r => .ok (.d r.1, r.2)) () := ep_tup_0
theorem ep_lst_0 {es : Es} : evalP G C (.lst es) δ st = (evalE G C (.lst es) δ st).bind fun r => .ok (.d r.1, r.2) := by simp only [evalP] <;> rfl
@[simp] theorem ep_lst {es : Es} : evalP G C (.lst es) δ st = (evalE G C (.lst es) δ st).bt (fun r => .ok (.d r.1, r.2)) () := ep_lst_0
theorem ep_bin_0 {o : Bo} {a b : E} : evalP G C (.bin o a b) δ st = (evalE G C (.bin o a b) δ st).bind fun r => .ok (.d r.1, r.2) := by simp only [evalP] <;> rfl
@[simp] theorem ep_bin {o : Bo} {a b : E} : evalP G C (.bin o a b) δ st = (evalE G C (.bin o a b) δ st).bt (fun r => .ok (.d r.1, r.2)) () := ep_bin_0
theorem ep_neg_0 {a : E} : evalP G C (.neg a) δ st = (evalE G C (.neg a) δ st).bind fun r => .ok (.d r.1, r.2) := by simp only [evalP] <;> rfl
@[simp] theorem ep_neg {a : E} : evalP G C (.neg a) δ st = (evalE G C (.neg a) δ st).bt (fun r => .ok (.d r.1, r.2)) () := ep_neg_0
theorem ep_cmp_0 {o : Co} {a b : E} : evalP G C (.cmp o a b) δ st = (evalE G C (.cmp o a b) δ st).bind fun r => .ok (.d r.1, r.2) := by simp only [evalP] <;> rfl
@[simp] theorem ep_cmp {o : Co} {a b : E} : evalP G C (.cmp o a b) δ st = (evalE G C (.cmp o a b) δ st).bt (fun r => .ok (.d r.1, r.2)) () := ep_cmp_0
theorem ep_chn_0 {o p : Co} {a b c : E} : evalP G C (.chn o p a b c) δ st = (evalE G C (.chn o p a b c) δ st).bind fun r => .ok (.d r.1, r.2) := by simp only [evalP] <;> rfl
@[simp] theorem ep_chn {o p : Co} {a b c : E} : evalP G C (.chn o p a b c) δ st = (evalE G C (.chn o p a b c) δ st).bt (fun r => .ok (.d r.1, r.2)) () := ep_chn_0
theorem ep_ix_0 {a b : E} : evalP G C (.ix a b) δ st = (evalE G C (.ix a b) δ st).bind fun r => .ok (.d r.1, r.2) := by simp only [evalP] <;> rfl
@[simp] theorem ep_ix {a b : E} : evalP G C (.ix a b) δ st = (evalE G C (.ix a b) δ st).bt (fun r => .ok (.d r.1, r.2)) () := ep_ix_0
theorem ep_sl_0 {a : E} {lo hi : Eo} : evalP G C (.sl a lo hi) δ st = (evalE G C (.sl a lo hi) δ st).bind fun r => .ok (.d r.1, r.2) := by simp only [evalP] <;> rfl
@[simp] theorem ep_sl {a : E} {lo hi : Eo} : evalP G C (.sl a lo hi) δ st = (evalE G C (.sl a lo hi) δ st).bt (fun r => .ok (.d r.1, r.2)) () := ep_sl_0
theorem ep_fld_0 {a : E} {c : Cl} {k : Nat} : evalP G C (.fld a c k) δ st = (evalE G C (.fld a c k) δ st).bind fun r => .ok (.d r.1, r.2) := by simp only [evalP] <;> rfl
@[simp] theorem ep_fld {a : E} {c : Cl} {k : Nat} : evalP G C (.fld a c k) δ st = (evalE G C (.fld a c k) δ st).bt (fun r => .ok (.d r.1, r.2)) () := ep_fld_0
theorem ep_call_0 {f : Nat} {es : Es} : evalP G C (.call f es) δ st = (evalE G C (.call f es) δ st).bind fun r => .ok (.d r.1, r.2) := by simp only [evalP] <;> rfl
@[simp] theorem ep_call {f : Nat} {es : Es} : evalP G C (.call f es) δ st = (evalE G C (.call f es) δ st).bt (fun r => .ok (.d r.1, r.2)) () := ep_call_0
theorem ep_blt_0 {b : Bl} {es : Es} : evalP G C (.blt b es) δ st = (evalE G C (.blt b es) δ st).bind fun r => .ok (.d r.1, r.2) := by simp only [evalP] <;> rfl
@[simp] theorem ep_blt {b : Bl} {es : Es} : evalP G C (.blt b es) δ st = (evalE G C (.blt b es) δ st).bt (fun r => .ok (.d r.1, r.2)) () := ep_blt_0
theorem ep_isi_0 {a : E} {ts : List Ty} {cs : List Cl} : evalP G C (.isi a ts cs) δ st = (evalE G C (.isi a ts cs) δ st).bind fun r => .ok (.d r.1, r.2) := by simp only [evalP] <;> rfl
@[simp] theorem ep_isi {a : E} {ts : List Ty} {cs : List Cl} : evalP G C (.isi a ts cs) δ st = (evalE G C (.isi a ts cs) δ st).bt (fun r => .ok (.d r.1, r.2)) () := ep_isi_0
theorem ep_comp_0 {elt : E} {tg : Tg} {it : I} {cs : Es} {own : List Nat} : evalP G C (.comp elt tg it cs own) δ st = (evalE G C (.comp elt tg it cs own) δ st).bind fun r => .ok (.d r.1, r.2) := by simp only [evalP] <;> rfl
@[simp] theorem ep_comp {elt : E} {tg : Tg} {it : I} {cs : Es} {own : List Nat} : evalP G C (.comp elt tg it cs own) δ st = (evalE G C (.comp elt tg it cs own) δ st).bt (fun r => .ok (.d r.1, r.2)) () := ep_comp_0
theorem ep_new_0 {f : Nat} {es : Es} : evalP G C (.new f es) δ st = (evalE G C (.new f es) δ st).bind fun r => .ok (.d r.1, r.2) := by simp only [evalP] <;> rfl
@[simp] theorem ep_new {f : Nat} {es : Es} : evalP G C (.new f es) δ st = (evalE G C (.new f es) δ st).bt (fun r => .ok (.d r.1, r.2)) () := ep_new_0
theorem ep_meth_0 {f : Nat} {c : Cl} {a : E} {es : Es} : evalP G C (.meth f c a es) δ st = (evalE G C (.meth f c a es) δ st).bind fun r => .ok (.d r.1, r.2) := by simp only [evalP] <;> rfl
@[simp] theorem ep_meth {f : Nat} {c : Cl} {a : E} {es : Es} : evalP G C (.meth f c a es) δ st = (evalE G C (.meth f c a es) δ st).bt (fun r => .ok (.d r.1, r.2)) () := ep_meth_0
theorem ep_ife_0 {c a b : E} : evalP G C (.ife c a b) δ st = (evalE G C (.ife c a b) δ st).bind fun r => .ok (.d r.1, r.2) := by simp only [evalP] <;> rfl
@[simp] theorem ep_ife {c a b : E} : evalP G C (.ife c a b) δ st = (evalE G C (.ife c a b) δ st).bt (fun r => .ok (.d r.1, r.2)) () := ep_ife_0
theorem ep_not_0 {a : E} : evalP G C (.not a) δ st = (evalE G C (.not a) δ st).bind fun r => .ok (.d r.1, r.2) := by simp only [evalP] <;> rfl
@[simp] theorem ep_not {a : E} : evalP G C (.not a) δ st = (evalE G C (.not a) δ st).bt (fun r => .ok (.d r.1, r.2)) () := ep_not_0
theorem ep_and_0 {a b : E} : evalP G C (.and a b) δ st = (evalE G C (.and a b) δ st).bind fun r => .ok (.d r.1, r.2) := by simp only [evalP] <;> rfl
@[simp] theorem ep_and {a b : E} : evalP G C (.and a b) δ st = (evalE G C (.and a b) δ st).bt (fun r => .ok (.d r.1, r.2)) () := ep_and_0
theorem ep_or_0 {a b : E} : evalP G C (.or a b) δ st = (evalE G C (.or a b) δ st).bind fun r => .ok (.d r.1, r.2) := by simp only [evalP] <;> rfl
@[simp] theorem ep_or {a b : E} : evalP G C (.or a b) δ st = (evalE G C (.or a b) δ st).bt (fun r => .ok (.d r.1, r.2)) () := ep_or_0
theorem et_c_0 {d : D} : evalT G C (.c d) δ st = (evalP G C (.c d) δ st).bind fun r => onO .stuck (truP r.2 r.1) fun b => .ok (b, r.2) := by
  simp only [evalT]
  refine congrArg _ (funext fun r => ?_)
  cases (truP r.2 r.1) <;> rfl
@[simp] theorem et_c {d : D} : evalT G C (.c d) δ st = (evalP G C (.c d) δ st).bt (fun r => onOt .stuck (truP r.2 r.1) (fun b => .ok (b, r.2)) ()) () := et_c_0
theorem et_g_0 {k : Nat} : evalT G C (.g k) δ st = (evalP G C (.g k) δ st).bind fun r => onO .stuck (truP r.2 r.1) fun b => .ok (b, r.2) := by
  simp only [evalT]
  refine congrArg _ (funext fun r => ?_)
  cases (truP r.2 r.1) <;> rfl
@[simp] theorem et_g {k : Nat} : evalT G C (.g k) δ st = (evalP G C (.g k) δ st).bt (fun r => onOt .stuck (truP r.2 r.1) (fun b => .ok (b, r.2)) ()) () := et_g_0
theorem et_tup_0 {es : Es} : evalT G C (.tup es) δ st = (evalP G C (.tup es) δ st).bind fun r => onO .stuck (truP r.2 r.1) fun b => .ok (b, r.2) := by
  simp only [evalT]
  refine congrArg _ (funext fun r => ?_)
  cases (truP r.2 r.1) <;> rfl
@[simp] theorem et_tup {es : Es} : evalT G C (.tup es) δ st = (evalP G C (.tup es) δ st).bt (fun r => onOt .stuck (truP r.2 r.1) (fun b => .ok (b, r.2)) ()) () := et_tup_0
theorem et_lst_0 {es : Es} : evalT G C (.lst es) δ st = (evalP G C (.lst es) δ st).bind fun r => onO .stuck (truP r.2 r.1) fun b => .ok (b, r.2) := by
  simp only [evalT]
  refine congrArg _ (funext fun r => ?_)
  cases (truP r.2 r.1) <;> rfl
@[simp] theorem et_lst {es : Es} : evalT G C (.lst es) δ st = (evalP G C (.lst es) δ st).bt (fun r => onOt .stuck (truP r.2 r.1) (fun b => .ok (b, r.2)) ()) () := et_lst_0
theorem et_bin_0 {o : Bo} {a b : E} : evalT G C (.bin o a b) δ st = (evalP G C (.bin o a b) δ st).bind fun r => onO .stuck (truP r.2 r.1) fun b => .ok (b, r.2) := by
  simp only [evalT]
  refine congrArg _ (funext fun r => ?_)
  cases (truP r.2 r.1) <;> rfl
@[simp] theorem et_bin {o : Bo} {a b : E} : evalT G C (.bin o a b) δ st = (evalP G C (.bin o a b) δ st).bt (fun r => onOt .stuck (truP r.2 r.1) (fun b => .ok (b, r.2)) ()) () := et_bin_0
theorem et_neg_0 {a : E} : evalT G C (.neg a) δ st = (evalP G C (.neg a) δ st).bind fun r => onO .stuck (truP r.2 r.1) fun b => .ok (b, r.2) := by
  simp only [evalT]
  refine congrArg _ (funext fun r => ?_)
  cases (truP r.2 r.1) <;> rfl
@[simp] theorem et_neg {a : E} : evalT G C (.neg a) δ st = (evalP G C (.neg a) δ st).bt (fun r => onOt .stuck (truP r.2 r.1) (fun b => .ok (b, r.2)) ()) () := et_neg_0
theorem et_cmp_0 {o : Co} {a b : E} : evalT G C (.cmp o a b) δ st = (evalP G C (.cmp o a b) δ st).bind fun r => onO .stuck (truP r.2 r.1) fun b => .ok (b, r.2) := by
  simp only [evalT]
  refine congrArg _ (funext fun r => ?_)
  cases (truP r.2 r.1) <;> rfl
@[simp] theorem et_cmp {o : Co} {a b : E} : evalT G C (.cmp o a b) δ st = (evalP G C (.cmp o a b) δ st).bt (fun r => onOt .stuck (truP r.2 r.1) (fun b => .ok (b, r.2)) ()) () := et_cmp_0
theorem et_chn_0 {o p : Co} {a b c : E} : evalT G C (.chn o p a b c) δ st = (evalP G C (.chn o p a b c) δ st).bind fun r => onO .stuck (truP r.2 r.1) fun b => .ok (b, r.2) := by
  simp only [evalT]
  refine congrArg _ (funext fun r => ?_)
  cases (truP r.2 r.1) <;> rfl
@[simp] theorem et_chn {o p : Co} {a b c : E} : evalT G C (.chn o p a b c) δ st = (evalP G C (.chn o p a b c) δ st).bt (fun r => onOt .stuck (truP r.2 r.1) (fun b => .ok (b, r.2)) ()) () := et_chn_0
theorem et_ix_0 {a b : E} : evalT G C (.ix a b) δ st = (evalP G C (.ix a b) δ st).bind fun r => onO .stuck (truP r.2 r.1) fun b => .ok (b, r.2) := by
  simp only [evalT]
  refine congrArg _ (funext fun r => ?_)
  cases (truP r.2 r.1) <;> rfl
@[simp] theorem et_ix {a b : E} : evalT G C (.ix a b) δ st = (evalP G C (.ix a b) δ st).bt (fun r => onOt .stuck (truP r.2 r.1) (fun b => .ok (b, r.2)) ()) () := et_ix_0
theorem et_sl_0 {a : E} {lo hi : Eo} : evalT G C (.sl a lo hi) δ st = (evalP G C (.sl a lo hi) δ st).bind fun r => onO .stuck (truP r.2 r.1) fun b => .ok (b, r.2) := by
  simp only [evalT]
  refine congrArg _ (funext fun r => ?_)
  cases (truP r.2 r.1) <;> rfl
@[simp] theorem et_sl {a : E} {lo hi : Eo} : evalT G C (.sl a lo hi) δ st = (evalP G C (.sl a lo hi) δ st).bt (fun r => onOt .stuck (truP r.2 r.1) (fun b => .ok (b, r.2)) ()) () := et_sl_0
theorem et_fld_0 {a : E} {c : Cl} {k : Nat} : evalT G C (.fld a c k) δ st = (evalP G C (.fld a c k) δ st).bind fun r => onO .stuck (truP r.2 r.1) fun b => .ok (b, r.2) := by
  simp only [evalT]
  refine congrArg _ (funext fun r => ?_)
  cases (truP r.2 r.1) <;> rfl
@[simp] theorem et_fld {a : E} {c : Cl} {k : Nat} : evalT G C (.fld a c k) δ st = (evalP G C (.fld a c k) δ st).bt (fun r => onOt .stuck (truP r.2 r.1) (fun b => .ok (b, r.2)) ()) () := et_fld_0
theorem et_call_0 {f : Nat} {es : Es} : evalT G C (.call f es) δ st = (evalP G C (.call f es) δ st).bind fun r => onO .stuck (truP r.2 r.1) fun b => .ok (b, r.2) := by
  simp only [evalT]
  refine congrArg _ (funext fun r => ?_)
  cases (truP r.2 r.1) <;> rfl
@[simp] theorem et_call {f : Nat} {es : Es} : evalT G C (.call f es) δ st = (evalP G C (.call f es) δ st).bt (fun r => onOt .stuck (truP r.2 r.1) (fun b => .ok (b, r.2)) ()) () := et_call_0
theorem et_blt_0 {b : Bl} {es : Es} : evalT G C (.blt b es) δ st = (evalP G C (.blt b es) δ st).bind fun r => onO .stuck (truP r.2 r.1) fun b => .ok (b, r.2) := by
  simp only [evalT]
  refine congrArg _ (funext fun r => ?_)
  cases (truP r.2 r.1) <;> rfl
@[simp] theorem et_blt {b : Bl} {es : Es} : evalT G C (.blt b es) δ st = (evalP G C (.blt b es) δ st).bt (fun r => onOt .stuck (truP r.2 r.1) (fun b => .ok (b, r.2)) ()) () := et_blt_0
theorem et_isi_0 {a : E} {ts : List Ty} {cs : List Cl} : evalT G C (.isi a ts cs) δ st = (evalP G C (.isi a ts cs) δ st).bind fun r => onO .stuck (truP r.2 r.1) fun b => .ok (b, r.2) := by
  simp only [evalT]
  refine congrArg _ (funext fun r => ?_)
  cases (truP r.2 r.1) <;> rfl
@[simp] theorem et_isi {a : E} {ts : List Ty} {cs : List Cl} : evalT G C (.isi a ts cs) δ st = (evalP G C (.isi a ts cs) δ st).bt (fun r => onOt .stuck (truP r.2 r.1) (fun b => .ok (b, r.2)) ()) () := et_isi_0
theorem et_comp_0 {elt : E} {tg : Tg} {it : I} {cs : Es} {own : List Nat} : evalT G C (.comp elt tg it cs own) δ st = (evalP G C (.comp elt tg it cs own) δ st).bind fun r => onO .stuck (truP r.2 r.1) fun b => .ok (b, r.2) := by
  simp only [evalT]
  refine congrArg _ (funext fun r => ?_)
  cases (truP r.2 r.1) <;> rfl
@[simp] theorem et_comp {elt : E} {tg : Tg} {it : I} {cs : Es} {own : List Nat} : evalT G C (.comp elt tg it cs own) δ st = (evalP G C (.comp elt tg it cs own) δ st).bt (fun r => onOt .stuck (truP r.2 r.1) (fun b => .ok (b, r.2)) ()) () := et_comp_0
theorem et_new_0 {f : Nat} {es : Es} : evalT G C (.new f es) δ st = (evalP G C (.new f es) δ st).bind fun r => onO .stuck (truP r.2 r.1) fun b => .ok (b, r.2) := by
  simp only [evalT]
  refine congrArg _ (funext fun r => ?_)
  cases (truP r.2 r.1) <;> rfl
@[simp] theorem et_new {f : Nat} {es : Es} : evalT G C (.new f es) δ st = (evalP G C (.new f es) δ st).bt (fun r => onOt .stuck (truP r.2 r.1) (fun b => .ok (b, r.2)) ()) () := et_new_0
theorem et_meth_0 {f : Nat} {c : Cl} {a : E} {es : Es} : evalT G C (.meth f c a es) δ st = (evalP G C (.meth f c a es) δ st).bind fun r => onO .stuck (truP r.2 r.1) fun b => .ok (b, r.2) := by
  simp only [evalT]
  refine congrArg _ (funext fun r => ?_)
  cases (truP r.2 r.1) <;> rfl
@[simp] theorem et_meth {f : Nat} {c : Cl} {a : E} {es : Es} : evalT G C (.meth f c a es) δ st = (evalP G C (.meth f c a es) δ st).bt (fun r => onOt .stuck (truP r.2 r.1) (fun b => .ok (b, r.2)) ()) () := et_meth_0
theorem et_ife_0 {c a b : E} : evalT G C (.ife c a b) δ st = (evalP G C (.ife c a b) δ st).bind fun r => onO .stuck (truP r.2 r.1) fun b => .ok (b, r.2) := by
  simp only [evalT]
  refine congrArg _ (funext fun r => ?_)
  cases (truP r.2 r.1) <;> rfl
@[simp] theorem et_ife {c a b : E} : evalT G C (.ife c a b) δ st = (evalP G C (.ife c a b) δ st).bt (fun r => onOt .stuck (truP r.2 r.1) (fun b => .ok (b, r.2)) ()) () := et_ife_0
theorem et_v_0 {i : Nat} : evalT G C (.v i) δ st = (evalP G C (.v i) δ st).bind fun r => onO .stuck (truP r.2 r.1) fun b => .ok (b, r.2) := by
  simp only [evalT]
  refine congrArg _ (funext fun r => ?_)
  cases (truP r.2 r.1) <;> rfl
@[simp] theorem et_v {i : Nat} : evalT G C (.v i) δ st = (evalP G C (.v i) δ st).bt (fun r => onOt .stuck (truP r.2 r.1) (fun b => .ok (b, r.2)) ()) () := et_v_0
theorem et_and_0 {a b : E} : evalT G C (.and a b) δ st = (evalT G C a δ st).bind fun r => onB r.1 (evalT G C b δ r.2) (.ok (false, r.2)) := by
  simp only [evalT]
  refine congrArg _ (funext fun r => ?_)
  cases r.1 <;> rfl
@[simp] theorem et_and {a b : E} : evalT G C (.and a b) δ st = (evalT G C a δ st).bt (fun r => onBt r.1 (evalT G C b δ r.2) (.ok (false, r.2)) ()) () := et_and_0
theorem et_or_0 {a b : E} : evalT G C (.or a b) δ st = (evalT G C a δ st).bind fun r => onB r.1 (.ok (true, r.2)) (evalT G C b δ r.2) := by
  simp only [evalT]
  refine congrArg _ (funext fun r => ?_)
  cases r.1 <;> rfl
@[simp] theorem et_or {a b : E} : evalT G C (.or a b) δ st = (evalT G C a δ st).bt (fun r => onBt r.1 (.ok (true, r.2)) (evalT G C b δ r.2) ()) () := et_or_0
theorem et_not_0 {a : E} : evalT G C (.not a) δ st = (evalT G C a δ st).bind fun r => .ok (!r.1, r.2) := by simp only [evalT]
@[simp] theorem et_not {a : E} : evalT G C (.not a) δ st = (evalT G C a δ st).bt (fun r => .ok (!r.1, r.2)) () := et_not_0
@[simp] theorem es_nil : evalEs G C .nil δ st = .ok ([], st) := by simp only [evalEs]
theorem es_cons_0 {e : E} {es : Es} : evalEs G C (.cons e es) δ st = (evalE G C e δ st).bind fun r => (evalEs G C es δ r.2).bind fun q => .ok (r.1 :: q.1, q.2) := by simp only [evalEs]
@[simp] theorem es_cons {e : E} {es : Es} : evalEs G C (.cons e es) δ st = (evalE G C e δ st).bt (fun r => (evalEs G C es δ r.2).bt (fun q => .ok (r.1 :: q.1, q.2)) ()) () := es_cons_0
@[simp] theorem eps_nil : evalPs G C .nil δ st = .ok ([], st) := by simp only [evalPs]
theorem eps_cons_0 {e : E} {es : Es} : evalPs G C (.cons e es) δ st = (evalP G C e δ st).bind fun r => (evalPs G C es δ r.2).bind fun q => .ok (r.1 :: q.1, q.2) := by simp only [evalPs]
@[simp] theorem eps_cons {e : E} {es : Es} : evalPs G C (.cons e es) δ st = (evalP G C e δ st).bt (fun r => (evalPs G C es δ r.2).bt (fun q => .ok (r.1 :: q.1, q.2)) ()) () := eps_cons_0
@[simp] theorem ets_nil : evalTs G C .nil δ st = .ok (true, st) := by simp only [evalTs]
@[simp] theorem ets_one {e : E} : evalTs G C (.cons e .nil) δ st = evalT G C e δ st := by simp only [evalTs]
@[simp] theorem eo_no : evalO G C .no δ st = .ok (none, st) := by simp only [evalO]
theorem eo_some_0 {e : E} : evalO G C (.some e) δ st = (evalE G C e δ st).bind fun r => onO .stuck (dI r.1) fun i => .ok (some i, r.2) := by
  simp only [evalO]
  congr 1
  funext r
  cases r.1 <;> rfl
@[simp] theorem eo_some {e : E} : evalO G C (.some e) δ st = (evalE G C e δ st).bt (fun r => onOt .stuck (dI r.1) (fun i => .ok (some i, r.2)) ()) () := eo_some_0
theorem ei_seq_0 {e : E} : evalI G C (.seq e) δ st = (evalE G C e δ st).bind fun r => onO .stuck (dS r.2 r.1) fun p => .ok (p, r.2) := by
  simp only [evalI]
  refine congrArg _ (funext fun r => ?_)
  rcases r with ⟨d, s⟩
  cases d <;> first | rfl | skip
  rename_i l
  simp only [dS]
  cases s[l]? with
  | none => rfl
  | some m => cases m <;> rfl
@[simp] theorem ei_seq {e : E} : evalI G C (.seq e) δ st = (evalE G C e δ st).bt (fun r => onOt .stuck (dS r.2 r.1) (fun p => .ok (p, r.2)) ()) () := ei_seq_0
def rng (n : Nat) : List D := (List.range n).map fun k => D.int (k : Nat)
def rngO (n : Int) : Option (List D) := if -Lim < n ∧ n < Lim then some (rng n.toNat) else none
theorem rngO_nat {n : Nat} (h : n < 1000000) : rngO (n : Int) = some (rng n) := by
  unfold rngO
  rw [if_pos ⟨by unfold Lim; omega, by unfold Lim; omega⟩]
  rfl
theorem ei_rng_0 {e : E} : evalI G C (.rng e) δ st = (evalE G C e δ st).bind fun r => onO .stuck (dI r.1) fun n => onO .stuck (rngO n) fun ds => .ok ((ds, none), r.2) := by
  simp only [evalI]
  congr 1
  funext r
  rcases r with ⟨d, s⟩
  cases d <;> first | rfl | skip
  rename_i n
  show _ = onO R.stuck (rngO n) _
  unfold rngO
  by_cases h : -(Lim : Int) < n ∧ n < Lim
  · simp only [h]; rfl
  · simp only [h]; rfl
@[simp] theorem ei_rng {e : E} : evalI G C (.rng e) δ st = (evalE G C e δ st).bt (fun r => onOt .stuck (dI r.1) (fun n => onOt .stuck (rngO n) (fun ds => .ok ((ds, none), r.2)) ()) ()) () := ei_rng_0
def rngO2 (m n : Int) : Option (List D) := if -Lim < m ∧ m < Lim ∧ n < Lim ∧ -Lim < n then some ((List.range (n - m).toNat).map fun k => D.int (m + (k : Nat))) else none
theorem ei_rng2_0 {a b : E} : evalI G C (.rng2 a b) δ st = (evalE G C a δ st).bind fun r => (evalE G C b δ r.2).bind fun q => onO .stuck (dI r.1) fun m => onO .stuck (dI q.1) fun n => onO .stuck (rngO2 m n) fun ds => .ok ((ds, none), q.2) := by
  simp only [evalI]
  congr 1
  funext r
  congr 1
  funext q
  rcases r with ⟨d, s⟩
  rcases q with ⟨e, s'⟩
  cases d <;> cases e <;> first | rfl | skip
  rename_i m n
  show _ = onO R.stuck (rngO2 m n) _
  unfold rngO2
  by_cases h : -(Lim : Int) < m ∧ m < Lim ∧ n < Lim ∧ -(Lim : Int) < n
  · simp only [h]; rfl
  · simp only [h]; rfl
@[simp] theorem ei_rng2 {a b : E} : evalI G C (.rng2 a b) δ st = (evalE G C a δ st).bt (fun r => (evalE G C b δ r.2).bt (fun q => onOt .stuck (dI r.1) (fun m => onOt .stuck (dI q.1) (fun n => onOt .stuck (rngO2 m n) (fun ds => .ok ((ds, none), q.2)) ()) ()) ()) ()) () := ei_rng2_0
def rI : R (D × Sto) → R (D × Sto) | .ok (.int n, st') => if 0 ≤ n ∧ n < 9223372036854775808 then .ok (.int n, st') else .stuck | _ => .stuck
@[simp] theorem rI_ok {n : Int} {st : Sto} : rI (.ok (.int n, st)) = if 0 ≤ n ∧ n < 9223372036854775808 then .ok (.int n, st) else .stuck := nr rfl
def rB (neg : Bool) : R (D × Sto) → R (D × Sto) | .ok (.bl x, st') => .ok (.bl (if neg then !x else x), st') | _ => .stuck
@[simp] theorem rB_f {x : Bool} {st : Sto} : rB false (.ok (.bl x, st)) = .ok (.bl x, st) := nr rfl
@[simp] theorem rB_t {x : Bool} {st : Sto} : rB true (.ok (.bl x, st)) = .ok (.bl (!x), st) := nr rfl
def rN : R (D × Sto) → R (D × Sto) | .ok (d, st') => .ok (d, st') | _ => .stuck
@[simp] theorem rN_ok {d : D} {st : Sto} : rN (.ok (d, st)) = .ok (d, st) := nr rfl
def dL : D → Option (List D) | .lst ds => some ds | _ => none
@[simp] theorem dL_l {ds : List D} : dL (.lst ds) = some ds := nr rfl
def dTp : D → Option (List D) | .tup ds => some ds | _ => none
@[simp] theorem dTp_t {ds : List D} : dTp (.tup ds) = some ds := nr rfl
theorem ev_dlen_0 {f : Nat} {c : Cl} {a : E} : evalE G C (.dlen f c a) δ st = (evalE G C a δ st).bind fun r => onO .stuck (insOf r.2 c (.d r.1)) fun _ => onO .stuck (nth G f) fun F => rI (F [r.1] r.2) := by
  simp only [evalE]
  refine congrArg _ (funext fun r => ?_)
  cases insOf r.2 c (.d r.1) with
  | none => rfl
  | some x =>
    simp only [onO_some]
    show _ = onO R.stuck (G[f]?) _
    cases G[f]? with
    | none => rfl
    | some F => rfl
@[simp] theorem ev_dlen {f : Nat} {c : Cl} {a : E} : evalE G C (.dlen f c a) δ st = (evalE G C a δ st).bt (fun r => onOt .stuck (insOf r.2 c (.d r.1)) (fun _ => onOt .stuck (nth G f) (fun F => rI (F [r.1] r.2)) ()) ()) () := ev_dlen_0
theorem ev_din2_0 {f : Nat} {c : Cl} {neg : Bool} {a b : E} : evalE G C (.din2 f c neg a b) δ st = (evalE G C a δ st).bind fun r => (evalE G C b δ r.2).bind fun q => onO .stuck (insOf q.2 c (.d q.1)) fun _ => onO .stuck (nth G f) fun F => rB neg (F [q.1, r.1] q.2) := by
  simp only [evalE]
  refine congrArg _ (funext fun r => ?_)
  refine congrArg _ (funext fun q => ?_)
  cases insOf q.2 c (.d q.1) with
  | none => rfl
  | some x =>
    simp only [onO_some]
    show _ = onO R.stuck (G[f]?) _
    cases G[f]? with
    | none => rfl
    | some F => rfl
@[simp] theorem ev_din2 {f : Nat} {c : Cl} {neg : Bool} {a b : E} : evalE G C (.din2 f c neg a b) δ st = (evalE G C a δ st).bt (fun r => (evalE G C b δ r.2).bt (fun q => onOt .stuck (insOf q.2 c (.d q.1)) (fun _ => onOt .stuck (nth G f) (fun F => rB neg (F [q.1, r.1] q.2)) ()) ()) ()) () := ev_din2_0
theorem ev_dop_0 {f : Nat} {c : Cl} {o : Dop} {a b : E} : evalE G C (.dop f c o a b) δ st = (evalE G C a δ st).bind fun r => (evalE G C b δ r.2).bind fun q => onO .stuck (insOf q.2 c (.d r.1)) fun _ => onO .stuck (insOf q.2 c (.d q.1)) fun _ => onO .stuck (nth G f) fun F => rN (F [r.1, q.1] q.2) := by
  simp only [evalE]
  refine congrArg _ (funext fun r => ?_)
  refine congrArg _ (funext fun q => ?_)
  cases insOf q.2 c (.d r.1) with
  | none => rfl
  | some x =>
    simp only [onO_some]
    cases insOf q.2 c (.d q.1) with
    | none => rfl
    | some x =>
      simp only [onO_some]
      show _ = onO R.stuck (G[f]?) _
      cases G[f]? with
      | none => rfl
      | some F => rfl
@[simp] theorem ev_dop {f : Nat} {c : Cl} {o : Dop} {a b : E} : evalE G C (.dop f c o a b) δ st = (evalE G C a δ st).bt (fun r => (evalE G C b δ r.2).bt (fun q => onOt .stuck (insOf q.2 c (.d r.1)) (fun _ => onOt .stuck (insOf q.2 c (.d q.1)) (fun _ => onOt .stuck (nth G f) (fun F => rN (F [r.1, q.1] q.2)) ()) ()) ()) ()) () := ev_dop_0
theorem ev_shr_0 {e : E} : evalE G C (.shr e) δ st = (evalE G C e δ st).bind fun r => onO .stuck (dL r.1) fun ds => .ok (.loc r.2.length, r.2 ++ [.lst ds]) := by
  simp only [evalE]
  refine congrArg _ (funext fun r => ?_)
  rcases r with ⟨d, s⟩
  cases d <;> rfl
@[simp] theorem ev_shr {e : E} : evalE G C (.shr e) δ st = (evalE G C e δ st).bt (fun r => onOt .stuck (dL r.1) (fun ds => .ok (.loc r.2.length, r.2 ++ [.lst ds])) ()) () := ev_shr_0
theorem ev_rev_0 {e : E} : evalE G C (.rev e) δ st = (evalE G C e δ st).bind fun r => onO .stuck (lstOf r.2 (.d r.1)) fun ds => .ok (.lst ds.reverse, r.2) := by
  simp only [evalE]
  refine congrArg _ (funext fun r => ?_)
  cases lstOf r.2 (.d r.1) <;> rfl
@[simp] theorem ev_rev {e : E} : evalE G C (.rev e) δ st = (evalE G C e δ st).bt (fun r => onOt .stuck (lstOf r.2 (.d r.1)) (fun ds => .ok (.lst ds.reverse, r.2)) ()) () := ev_rev_0
theorem ev_din_0 {neg : Bool} {k d : E} : evalE G C (.din neg k d) δ st = (evalE G C k δ st).bind fun r => (evalP G C d δ r.2).bind fun q => onO .stuck (dinV q.2 r.1 q.1) fun b => .ok (.bl (if neg then !b else b), q.2) := by
  simp only [evalE]
  refine congrArg _ (funext fun r => ?_)
  refine congrArg _ (funext fun q => ?_)
  cases dinV q.2 r.1 q.1 <;> rfl
@[simp] theorem ev_din {neg : Bool} {k d : E} : evalE G C (.din neg k d) δ st = (evalE G C k δ st).bt (fun r => (evalP G C d δ r.2).bt (fun q => onOt .stuck (dinV q.2 r.1 q.1) (fun b => .ok (.bl (if neg then !b else b), q.2)) ()) ()) () := ev_din_0
theorem ev_dget_0 {d k : E} : evalE G C (.dget d k) δ st = (evalP G C d δ st).bind fun q => (evalE G C k δ q.2).bind fun r => onO .stuck (dgetV r.2 r.1 q.1) fun v => .ok (v, r.2) := by
  simp only [evalE]
  refine congrArg _ (funext fun q => ?_)
  refine congrArg _ (funext fun r => ?_)
  cases dgetV r.2 r.1 q.1 <;> rfl
@[simp] theorem ev_dget {d k : E} : evalE G C (.dget d k) δ st = (evalP G C d δ st).bt (fun q => (evalE G C k δ q.2).bt (fun r => onOt .stuck (dgetV r.2 r.1 q.1) (fun v => .ok (v, r.2)) ()) ()) () := ev_dget_0
def idxV (ds : List D) (d : D) : Option Int := if d.shp 9 && ds.all (D.shp 8) then (ds.findIdx? fun z => PyData.eqv z.toP d.toP).map fun j => (j : Int) else none
theorem ev_idx_0 {a b : E} : evalE G C (.idx a b) δ st = (evalP G C a δ st).bind fun r => onO .stuck (idxOf r.2 r.1) fun _ => (evalE G C b δ r.2).bind fun q => onO .stuck (idxOf q.2 r.1) fun ds => onO .stuck (idxV ds q.1) fun j => .ok (.int j, q.2) := by
  simp only [evalE]
  refine congrArg _ (funext fun r => ?_)
  cases idxOf r.2 r.1 with
  | none => rfl
  | some _ =>
    simp only [onO_some]
    refine congrArg _ (funext fun q => ?_)
    cases idxOf q.2 r.1 with
    | none => rfl
    | some ds =>
      simp only [onO_some, idxV]
      split
      · cases ds.findIdx? (fun z => PyData.eqv z.toP q.1.toP) <;> rfl
      · rfl
@[simp] theorem ev_idx {a b : E} : evalE G C (.idx a b) δ st = (evalP G C a δ st).bt (fun r => onOt .stuck (idxOf r.2 r.1) (fun _ => (evalE G C b δ r.2).bt (fun q => onOt .stuck (idxOf q.2 r.1) (fun ds => onOt .stuck (idxV ds q.1) (fun j => .ok (.int j, q.2)) ()) ()) ()) ()) () := ev_idx_0
theorem ev_comp2 {elt : E} {tg tg2 : Tg} {it it2 : I} {cs cs2 : Es} {own own2 : List Nat} : evalE G C (.comp2 elt tg it cs tg2 it2 cs2 own own2) δ st = (evalI G C it δ st).bind fun r => (compLoop2 (gdC2 r.1.2 (evalComp2 G C elt tg cs tg2 it2 cs2 own own2 δ)) r.1.1 [] r.2).bind fun q => .ok (.lst q.1, q.2) := by
  simp only [evalE]
  rfl
theorem ei_own_0 {c : Cl} {k : Nat} {e : E} : evalI G C (.own c k e) δ st = (evalE G C e δ st).bind fun r => onO .stuck (insOf r.2 c (.d r.1)) fun fs => onO .stuck (nth fs k) fun d => onO .stuck (dTp d) fun ds => .ok ((ds, none), r.2) := by
  simp only [evalI]
  refine congrArg _ (funext fun r => ?_)
  cases insOf r.2 c (.d r.1) with
  | none => rfl
  | some fs =>
    simp only [onO_some]
    show _ = onO R.stuck (fs[k]?) _
    cases fs[k]? with
    | none => rfl
    | some d => cases d <;> rfl
@[simp] theorem ei_own {c : Cl} {k : Nat} {e : E} : evalI G C (.own c k e) δ st = (evalE G C e δ st).bt (fun r => onOt .stuck (insOf r.2 c (.d r.1)) (fun fs => onOt .stuck (nth fs k) (fun d => onOt .stuck (dTp d) (fun ds => .ok ((ds, none), r.2)) ()) ()) ()) () := ei_own_0
theorem ep_dlen_0 {f : Nat} {c : Cl} {a : E} : evalP G C (.dlen f c a) δ st = (evalE G C (.dlen f c a) δ st).bind fun r => .ok (.d r.1, r.2) := by simp only [evalP] <;> rfl
@[simp] theorem ep_dlen {f : Nat} {c : Cl} {a : E} : evalP G C (.dlen f c a) δ st = (evalE G C (.dlen f c a) δ st).bt (fun r => .ok (.d r.1, r.2)) () := ep_dlen_0
theorem et_dlen_0 {f : Nat} {c : Cl} {a : E} : evalT G C (.dlen f c a) δ st = (evalP G C (.dlen f c a) δ st).bind fun r => onO .stuck (truP r.2 r.1) fun b => .ok (b, r.2) := by
  simp only [evalT]
  refine congrArg _ (funext fun r => ?_)
  cases (truP r.2 r.1) <;> rfl
@[simp] theorem et_dlen {f : Nat} {c : Cl} {a : E} : evalT G C (.dlen f c a) δ st = (evalP G C (.dlen f c a) δ st).bt (fun r => onOt .stuck (truP r.2 r.1) (fun b => .ok (b, r.2)) ()) () := et_dlen_0
theorem ep_din2_0 {f : Nat} {c : Cl} {neg : Bool} {a b : E} : evalP G C (.din2 f c neg a b) δ st = (evalE G C (.din2 f c neg a b) δ st).bind fun r => .ok (.d r.1, r.2) := by simp only [evalP] <;> rfl
@[simp] theorem ep_din2 {f : Nat} {c : Cl} {neg : Bool} {a b : E} : evalP G C (.din2 f c neg a b) δ st = (evalE G C (.din2 f c neg a b) δ st).bt (fun r => .ok (.d r.1, r.2)) () := ep_din2_0
theorem et_din2_0 {f : Nat} {c : Cl} {neg : Bool} {a b : E} : evalT G C (.din2 f c neg a b) δ st = (evalP G C (.din2 f c neg a b) δ st).bind fun r => onO .stuck (truP r.2 r.1) fun b => .ok (b, r.2) := by
  simp only [evalT]
  refine congrArg _ (funext fun r => ?_)
  cases (truP r.2 r.1) <;> rfl
@[simp] theorem et_din2 {f : Nat} {c : Cl} {neg : Bool} {a b : E} : evalT G C (.din2 f c neg a b) δ st = (evalP G C (.din2 f c neg a b) δ st).bt (fun r => onOt .stuck (truP r.2 r.1) (fun b => .ok (b, r.2)) ()) () := et_din2_0
theorem ep_dop_0 {f : Nat} {c : Cl} {o : Dop} {a b : E} : evalP G C (.dop f c o a b) δ st = (evalE G C (.dop f c o a b) δ st).bind fun r => .ok (.d r.1, r.2) := by simp only [evalP] <;> rfl
@[simp] theorem ep_dop {f : Nat} {c : Cl} {o : Dop} {a b : E} : evalP G C (.dop f c o a b) δ st = (evalE G C (.dop f c o a b) δ st).bt (fun r => .ok (.d r.1, r.2)) () := ep_dop_0
theorem et_dop_0 {f : Nat} {c : Cl} {o : Dop} {a b : E} : evalT G C (.dop f c o a b) δ st = (evalP G C (.dop f c o a b) δ st).bind fun r => onO .stuck (truP r.2 r.1) fun b => .ok (b, r.2) := by
  simp only [evalT]
  refine congrArg _ (funext fun r => ?_)
  cases (truP r.2 r.1) <;> rfl
@[simp] theorem et_dop {f : Nat} {c : Cl} {o : Dop} {a b : E} : evalT G C (.dop f c o a b) δ st = (evalP G C (.dop f c o a b) δ st).bt (fun r => onOt .stuck (truP r.2 r.1) (fun b => .ok (b, r.2)) ()) () := et_dop_0
theorem ep_shr_0 {e : E} : evalP G C (.shr e) δ st = (evalE G C (.shr e) δ st).bind fun r => .ok (.d r.1, r.2) := by simp only [evalP] <;> rfl
@[simp] theorem ep_shr {e : E} : evalP G C (.shr e) δ st = (evalE G C (.shr e) δ st).bt (fun r => .ok (.d r.1, r.2)) () := ep_shr_0
theorem et_shr_0 {e : E} : evalT G C (.shr e) δ st = (evalP G C (.shr e) δ st).bind fun r => onO .stuck (truP r.2 r.1) fun b => .ok (b, r.2) := by
  simp only [evalT]
  refine congrArg _ (funext fun r => ?_)
  cases (truP r.2 r.1) <;> rfl
@[simp] theorem et_shr {e : E} : evalT G C (.shr e) δ st = (evalP G C (.shr e) δ st).bt (fun r => onOt .stuck (truP r.2 r.1) (fun b => .ok (b, r.2)) ()) () := et_shr_0
theorem ep_rev_0 {e : E} : evalP G C (.rev e) δ st = (evalE G C (.rev e) δ st).bind fun r => .ok (.d r.1, r.2) := by simp only [evalP] <;> rfl
@[simp] theorem ep_rev {e : E} : evalP G C (.rev e) δ st = (evalE G C (.rev e) δ st).bt (fun r => .ok (.d r.1, r.2)) () := ep_rev_0
theorem et_rev_0 {e : E} : evalT G C (.rev e) δ st = (evalP G C (.rev e) δ st).bind fun r => onO .stuck (truP r.2 r.1) fun b => .ok (b, r.2) := by
  simp only [evalT]
  refine congrArg _ (funext fun r => ?_)
  cases (truP r.2 r.1) <;> rfl
@[simp] theorem et_rev {e : E} : evalT G C (.rev e) δ st = (evalP G C (.rev e) δ st).bt (fun r => onOt .stuck (truP r.2 r.1) (fun b => .ok (b, r.2)) ()) () := et_rev_0
theorem ep_din_0 {neg : Bool} {k d : E} : evalP G C (.din neg k d) δ st = (evalE G C (.din neg k d) δ st).bind fun r => .ok (.d r.1, r.2) := by simp only [evalP] <;> rfl
@[simp] theorem ep_din {neg : Bool} {k d : E} : evalP G C (.din neg k d) δ st = (evalE G C (.din neg k d) δ st).bt (fun r => .ok (.d r.1, r.2)) () := ep_din_0
theorem et_din_0 {neg : Bool} {k d : E} : evalT G C (.din neg k d) δ st = (evalP G C (.din neg k d) δ st).bind fun r => onO .stuck (truP r.2 r.1) fun b => .ok (b, r.2) := by
  simp only [evalT]
  refine congrArg _ (funext fun r => ?_)
  cases (truP r.2 r.1) <;> rfl
@[simp] theorem et_din {neg : Bool} {k d : E} : evalT G C (.din neg k d) δ st = (evalP G C (.din neg k d) δ st).bt (fun r => onOt .stuck (truP r.2 r.1) (fun b => .ok (b, r.2)) ()) () := et_din_0
theorem ep_dget_0 {d k : E} : evalP G C (.dget d k) δ st = (evalE G C (.dget d k) δ st).bind fun r => .ok (.d r.1, r.2) := by simp only [evalP] <;> rfl
@[simp] theorem ep_dget {d k : E} : evalP G C (.dget d k) δ st = (evalE G C (.dget d k) δ st).bt (fun r => .ok (.d r.1, r.2)) () := ep_dget_0
theorem et_dget_0 {d k : E} : evalT G C (.dget d k) δ st = (evalP G C (.dget d k) δ st).bind fun r => onO .stuck (truP r.2 r.1) fun b => .ok (b, r.2) := by
  simp only [evalT]
  refine congrArg _ (funext fun r => ?_)
  cases (truP r.2 r.1) <;> rfl
@[simp] theorem et_dget {d k : E} : evalT G C (.dget d k) δ st = (evalP G C (.dget d k) δ st).bt (fun r => onOt .stuck (truP r.2 r.1) (fun b => .ok (b, r.2)) ()) () := et_dget_0
theorem ep_idx_0 {a b : E} : evalP G C (.idx a b) δ st = (evalE G C (.idx a b) δ st).bind fun r => .ok (.d r.1, r.2) := by simp only [evalP] <;> rfl
@[simp] theorem ep_idx {a b : E} : evalP G C (.idx a b) δ st = (evalE G C (.idx a b) δ st).bt (fun r => .ok (.d r.1, r.2)) () := ep_idx_0
theorem et_idx_0 {a b : E} : evalT G C (.idx a b) δ st = (evalP G C (.idx a b) δ st).bind fun r => onO .stuck (truP r.2 r.1) fun b => .ok (b, r.2) := by
  simp only [evalT]
  refine congrArg _ (funext fun r => ?_)
  cases (truP r.2 r.1) <;> rfl
@[simp] theorem et_idx {a b : E} : evalT G C (.idx a b) δ st = (evalP G C (.idx a b) δ st).bt (fun r => onOt .stuck (truP r.2 r.1) (fun b => .ok (b, r.2)) ()) () := et_idx_0
theorem ep_comp2_0 {elt : E} {tg tg2 : Tg} {it it2 : I} {cs cs2 : Es} {own own2 : List Nat} : evalP G C (.comp2 elt tg it cs tg2 it2 cs2 own own2) δ st = (evalE G C (.comp2 elt tg it cs tg2 it2 cs2 own own2) δ st).bind fun r => .ok (.d r.1, r.2) := by simp only [evalP] <;> rfl
@[simp] theorem ep_comp2 {elt : E} {tg tg2 : Tg} {it it2 : I} {cs cs2 : Es} {own own2 : List Nat} : evalP G C (.comp2 elt tg it cs tg2 it2 cs2 own own2) δ st = (evalE G C (.comp2 elt tg it cs tg2 it2 cs2 own own2) δ st).bt (fun r => .ok (.d r.1, r.2)) () := ep_comp2_0
theorem et_comp2_0 {elt : E} {tg tg2 : Tg} {it it2 : I} {cs cs2 : Es} {own own2 : List Nat} : evalT G C (.comp2 elt tg it cs tg2 it2 cs2 own own2) δ st = (evalP G C (.comp2 elt tg it cs tg2 it2 cs2 own own2) δ st).bind fun r => onO .stuck (truP r.2 r.1) fun b => .ok (b, r.2) := by
  simp only [evalT]
  refine congrArg _ (funext fun r => ?_)
  cases (truP r.2 r.1) <;> rfl
@[simp] theorem et_comp2 {elt : E} {tg tg2 : Tg} {it it2 : I} {cs cs2 : Es} {own own2 : List Nat} : evalT G C (.comp2 elt tg it cs tg2 it2 cs2 own own2) δ st = (evalP G C (.comp2 elt tg it cs tg2 it2 cs2 own own2) δ st).bt (fun r => onOt .stuck (truP r.2 r.1) (fun b => .ok (b, r.2)) ()) () := et_comp2_0
theorem ep_lstS_0 {e : E} {es : Es} : evalP G C (.lstS e es) δ st = (evalE G C (.lstS e es) δ st).bind fun r => .ok (.d r.1, r.2) := by simp only [evalP] <;> rfl
@[simp] theorem ep_lstS {e : E} {es : Es} : evalP G C (.lstS e es) δ st = (evalE G C (.lstS e es) δ st).bt (fun r => .ok (.d r.1, r.2)) () := ep_lstS_0
theorem et_lstS_0 {e : E} {es : Es} : evalT G C (.lstS e es) δ st = (evalP G C (.lstS e es) δ st).bind fun r => onO .stuck (truP r.2 r.1) fun b => .ok (b, r.2) := by
  simp only [evalT]
  refine congrArg _ (funext fun r => ?_)
  cases (truP r.2 r.1) <;> rfl
@[simp] theorem et_lstS {e : E} {es : Es} : evalT G C (.lstS e es) δ st = (evalP G C (.lstS e es) δ st).bt (fun r => onOt .stuck (truP r.2 r.1) (fun b => .ok (b, r.2)) ()) () := et_lstS_0
theorem ep_tupS_0 {e : E} {es : Es} : evalP G C (.tupS e es) δ st = (evalE G C (.tupS e es) δ st).bind fun r => .ok (.d r.1, r.2) := by simp only [evalP] <;> rfl
@[simp] theorem ep_tupS {e : E} {es : Es} : evalP G C (.tupS e es) δ st = (evalE G C (.tupS e es) δ st).bt (fun r => .ok (.d r.1, r.2)) () := ep_tupS_0
theorem et_tupS_0 {e : E} {es : Es} : evalT G C (.tupS e es) δ st = (evalP G C (.tupS e es) δ st).bind fun r => onO .stuck (truP r.2 r.1) fun b => .ok (b, r.2) := by
  simp only [evalT]
  refine congrArg _ (funext fun r => ?_)
  cases (truP r.2 r.1) <;> rfl
@[simp] theorem et_tupS {e : E} {es : Es} : evalT G C (.tupS e es) δ st = (evalP G C (.tupS e es) δ st).bt (fun r => onOt .stuck (truP r.2 r.1) (fun b => .ok (b, r.2)) ()) () := et_tupS_0
def slE (δ : Sls) (i : Nat) : Option (Cl × List D) := match δ[i]? with | some (.exo c ds) => some (c, ds) | _ => none
@[simp] theorem slE_0 {c : Cl} {ds : List D} {δ : Sls} : slE (.exo c ds :: δ) 0 = some (c, ds) := nr rfl
@[simp] theorem slE_s {x : Sl} {δ : Sls} {i : Nat} : slE (x :: δ) (i + 1) = slE δ i := nr rfl
@[simp] theorem unX_val {d : D} : Sl.unX (.val d) = .val d := nr rfl
@[simp] theorem unX_own {m : M} : Sl.unX (.own m) = .own m := nr rfl
@[simp] theorem unX_un : Sl.unX .un = .un := nr rfl
@[simp] theorem unX_exo {c : Cl} {ds : List D} : Sl.unX (.exo c ds) = .un := nr rfl
theorem ev_xfl_0 {i : Nat} {c : Cl} {k : Nat} : evalE G C (.xfl i c k) δ st = onO .stuck (slE δ i) fun p => if p.1 = c then onO .stuck (nth p.2 k) fun d => .ok (d, st) else .stuck := by
  simp only [evalE, slE]
  cases δ[i]? with
  | none => rfl
  | some x =>
    cases x <;> first | rfl | skip
    rename_i c' ds
    simp only [onO_some]
    split
    · show _ = onO R.stuck (ds[k]?) _
      cases ds[k]? <;> rfl
    · rfl
@[simp] theorem ev_xfl {i : Nat} {c : Cl} {k : Nat} : evalE G C (.xfl i c k) δ st = onOt .stuck (slE δ i) (fun p => if p.1 = c then onOt .stuck (nth p.2 k) (fun d => .ok (d, st)) () else .stuck) () := ev_xfl_0
theorem ev_xis_0 {i : Nat} {ks : List Cl} {t : Xt} : evalE G C (.xis i ks t) δ st = onO .stuck (slE δ i) fun p => if p.1 ∈ ks then .ok (.bl (xtIs t p.1), st) else .stuck := by
  simp only [evalE, slE]
  cases δ[i]? with
  | none => rfl
  | some x => cases x <;> rfl
@[simp] theorem ev_xis {i : Nat} {ks : List Cl} {t : Xt} : evalE G C (.xis i ks t) δ st = onOt .stuck (slE δ i) (fun p => if p.1 ∈ ks then .ok (.bl (xtIs t p.1), st) else .stuck) () := ev_xis_0
theorem ep_xfl_0 {i : Nat} {c : Cl} {k : Nat} : evalP G C (.xfl i c k) δ st = (evalE G C (.xfl i c k) δ st).bind fun r => .ok (.d r.1, r.2) := by simp only [evalP] <;> rfl
@[simp] theorem ep_xfl {i : Nat} {c : Cl} {k : Nat} : evalP G C (.xfl i c k) δ st = (evalE G C (.xfl i c k) δ st).bt (fun r => .ok (.d r.1, r.2)) () := ep_xfl_0
theorem et_xfl_0 {i : Nat} {c : Cl} {k : Nat} : evalT G C (.xfl i c k) δ st = (evalP G C (.xfl i c k) δ st).bind fun r => onO .stuck (truP r.2 r.1) fun b => .ok (b, r.2) := by
  simp only [evalT]
  refine congrArg _ (funext fun r => ?_)
  cases (truP r.2 r.1) <;> rfl
@[simp] theorem et_xfl {i : Nat} {c : Cl} {k : Nat} : evalT G C (.xfl i c k) δ st = (evalP G C (.xfl i c k) δ st).bt (fun r => onOt .stuck (truP r.2 r.1) (fun b => .ok (b, r.2)) ()) () := et_xfl_0
theorem ep_xis_0 {i : Nat} {ks : List Cl} {t : Xt} : evalP G C (.xis i ks t) δ st = (evalE G C (.xis i ks t) δ st).bind fun r => .ok (.d r.1, r.2) := by simp only [evalP] <;> rfl
@[simp] theorem ep_xis {i : Nat} {ks : List Cl} {t : Xt} : evalP G C (.xis i ks t) δ st = (evalE G C (.xis i ks t) δ st).bt (fun r => .ok (.d r.1, r.2)) () := ep_xis_0
theorem et_xis_0 {i : Nat} {ks : List Cl} {t : Xt} : evalT G C (.xis i ks t) δ st = (evalP G C (.xis i ks t) δ st).bind fun r => onO .stuck (truP r.2 r.1) fun b => .ok (b, r.2) := by
  simp only [evalT]
  refine congrArg _ (funext fun r => ?_)
  cases (truP r.2 r.1) <;> rfl
@[simp] theorem et_xis {i : Nat} {ks : List Cl} {t : Xt} : evalT G C (.xis i ks t) δ st = (evalP G C (.xis i ks t) δ st).bt (fun r => onOt .stuck (truP r.2 r.1) (fun b => .ok (b, r.2)) ()) () := et_xis_0
@[simp] theorem bind_ok {α β : Type} {a : α} {f : α → R β} : (R.ok a).bind f = f a := nr rfl
@[simp] theorem bind_exc {α β : Type} {c : Cl} {ds : List D} {s : Sto} {f : α → R β} : (R.exc c ds s : R α).bind f = .exc c ds s := nr rfl
@[simp] theorem bind_stuck {α β : Type} {f : α → R β} : (R.stuck : R α).bind f = .stuck := nr rfl
@[simp] theorem toO_ok {α : Type} {a : α} {f : α → O} : (R.ok a).toO δ f = f a := nr rfl
@[simp] theorem toO_exc {α : Type} {c : Cl} {ds : List D} {s : Sto} {f : α → O} : (R.exc c ds s : R α).toO δ f = .exc c ds δ s := nr rfl
@[simp] theorem toO_stuck {α : Type} {f : α → O} : (R.stuck : R α).toO δ f = .stuck := nr rfl
@[simp] theorem seq_nx {s : Sto} {f : Sls → Sto → O} : (O.nx δ s).seq f = f δ s := nr rfl
@[simp] theorem seq_ret {s : Sto} {d : D} {f : Sls → Sto → O} : (O.ret d s).seq f = .ret d s := nr rfl
@[simp] theorem seq_exc {s : Sto} {c : Cl} {ds : List D} {f : Sls → Sto → O} : (O.exc c ds δ s).seq f = .exc c ds δ s := nr rfl
@[simp] theorem seq_brk {s : Sto} {f : Sls → Sto → O} : (O.brk δ s).seq f = .brk δ s := nr rfl
@[simp] theorem seq_cnt {s : Sto} {f : Sls → Sto → O} : (O.cnt δ s).seq f = .cnt δ s := nr rfl

def forF (G : List Fn) (C : List Int) (t : Tg) (b : Ss) : D → Sls → Sto → O := fun x δ' st' => match t.bind x δ' with | some δ2 => execs G C b δ2 st' | none => .stuck
@[simp] theorem ex_nil : execs G C .nil δ st = .nx δ st := by simp only [execs]
theorem ex_cons_0 {s : S} {ss : Ss} : execs G C (.cons s ss) δ st = (exec G C s δ st).seq fun δ' st' => execs G C ss δ' st' := by simp only [execs]
@[simp] theorem ex_cons {s : S} {ss : Ss} : execs G C (.cons s ss) δ st = (exec G C s δ st).sq (fun δ' st' => execs G C ss δ' st') () := ex_cons_0
theorem ex_asg_0 {t : Tg} {e : E} : exec G C (.asg t e) δ st = (evalE G C e δ st).toO δ fun r => onO .stuck (t.bind r.1 δ) fun δ' => .nx δ' r.2 := by
  simp only [exec]
  refine congrArg _ (funext fun r => ?_)
  cases (t.bind r.1 δ) <;> rfl
@[simp] theorem ex_asg {t : Tg} {e : E} : exec G C (.asg t e) δ st = (evalE G C e δ st).tt δ (fun r => onOt .stuck (t.bind r.1 δ) (fun δ' => .nx δ' r.2) ()) () := ex_asg_0
def slF (δ : Sls) (i : Nat) : Option D := match δ[i]? with | some (.own (.lst ds)) => some (.lst ds) | some (.own (.ins c ds)) => some (.obj c ds) | some (.own (.dct t kvs)) => some (.dct t (kvs.map (·.1)) (kvs.map (·.2))) | _ => none
@[simp] theorem slF_0 {ds : List D} {δ : Sls} : slF (.own (.lst ds) :: δ) 0 = some (.lst ds) := nr rfl
@[simp] theorem slF_0i {ds : List D} {c : Cl} {δ : Sls} : slF (.own (.ins c ds) :: δ) 0 = some (.obj c ds) := nr rfl
@[simp] theorem slF_0d {t : Bool} {kvs : List (Ky × D)} {δ : Sls} : slF (.own (.dct t kvs) :: δ) 0 = some (.dct t (kvs.map (·.1)) (kvs.map (·.2))) := nr rfl
@[simp] theorem slF_s {x : Sl} {δ : Sls} {i : Nat} : slF (x :: δ) (i + 1) = slF δ i := nr rfl
theorem ex_frz_0 {i : Nat} : exec G C (.frz i) δ st = onO .stuck (slF δ i) fun d => .nx (δ.set i (.val d)) st := by
  simp only [exec, slF]
  cases δ[i]? with
  | none => rfl
  | some x =>
    cases x <;> first | rfl | skip
    rename_i m
    cases m <;> rfl
@[simp] theorem ex_frz {i : Nat} : exec G C (.frz i) δ st = onOt .stuck (slF δ i) (fun d => .nx (δ.set i (.val d)) st) () := ex_frz_0
theorem ex_appL {i : Nat} {e : E} {ds : List D} (h : slL δ i = some ds) : exec G C (.app i e) δ st = (evalE G C e δ st).toO δ fun r => if ds.length < Lim then .nx (δ.set i (.own (.lst (ds ++ [r.1])))) r.2 else .stuck := by
  simp only [exec]
  unfold slL at h
  split at h
  · rename_i e; cases h; rw [e]
  · cases h
def appLoc (G : List Fn) (C : List Int) (i : Nat) (e : E) (δ : Sls) (st : Sto) : O := exec G C (.app i e) δ st
theorem ex_app_0 {i : Nat} {e : E} : exec G C (.app i e) δ st = onO (appLoc G C i e δ st) (slL δ i) fun ds => (evalE G C e δ st).toO δ fun r => if ds.length < Lim then .nx (δ.set i (.own (.lst (ds ++ [r.1])))) r.2 else .stuck := by
  cases h : slL δ i with
  | none => rfl
  | some ds => rw [ex_appL h]; rfl
@[simp] theorem ex_app {i : Nat} {e : E} : exec G C (.app i e) δ st = onOt (appLoc G C i e δ st) (slL δ i) (fun ds => (evalE G C e δ st).tt δ (fun r => if ds.length < Lim then .nx (δ.set i (.own (.lst (ds ++ [r.1])))) r.2 else .stuck) ()) () := ex_app_0
end
section
variable {G : List Fn} {C : List Int} {δ : Sls} {st : Sto}
theorem ex_aug_0 {i : Nat} {o : Bo} {e : E} : exec G C (.aug i o e) δ st = onO .stuck (slV δ i) fun d => onO .stuck (dI d) fun x => (evalE G C e δ st).toO δ fun r => onO .stuck (dI r.1) fun y => onO .stuck (binV o (.int x) (.int y)) fun d => .nx (δ.set i (.val d)) r.2 := by
  simp only [exec, slV]
  cases hδ : δ[i]? with
  | none => rfl
  | some x =>
    cases x <;> first | rfl | skip
    rename_i d
    cases d <;> first | rfl | skip
    rename_i x
    simp only [onO, dI]
    congr 1
    funext r
    rcases r with ⟨d, s⟩
    cases d <;> first | rfl | skip
    rename_i y
    dsimp only
    cases binV o (.int x) (.int y) <;> rfl
@[simp] theorem ex_aug {i : Nat} {o : Bo} {e : E} : exec G C (.aug i o e) δ st = onOt .stuck (slV δ i) (fun d => onOt .stuck (dI d) (fun x => (evalE G C e δ st).tt δ (fun r => onOt .stuck (dI r.1) (fun y => onOt .stuck (binV o (.int x) (.int y)) (fun d => .nx (δ.set i (.val d)) r.2) ()) ()) ()) ()) () := ex_aug_0
theorem ex_setFo {i k : Nat} {c : Cl} {e : E} {ds : List D} (h : slI δ i c = some ds) : exec G C (.setF i c k e) δ st = (evalE G C e δ st).toO δ fun r => onO .stuck (setAt ds k r.1) fun ds' => .nx (δ.set i (.own (.ins c ds'))) r.2 := by
  simp only [exec]
  unfold slI at h
  congr 1
  funext r
  split at h
  · rename_i c' ds' e
    split at h
    · rename_i ec
      cases h
      subst ec
      rw [e]
      simp only [if_true]
      cases setAt ds k r.1 <;> rfl
    · cases h
  · cases h
def setFLoc (G : List Fn) (C : List Int) (i : Nat) (c : Cl) (k : Nat) (e : E) (δ : Sls) (st : Sto) : O := exec G C (.setF i c k e) δ st
theorem ex_setF_0 {i k : Nat} {c : Cl} {e : E} : exec G C (.setF i c k e) δ st = onO (setFLoc G C i c k e δ st) (slI δ i c) fun ds => (evalE G C e δ st).toO δ fun r => onO .stuck (setAt ds k r.1) fun ds' => .nx (δ.set i (.own (.ins c ds'))) r.2 := by
  cases h : slI δ i c with
  | none => rfl
  | some ds => rw [ex_setFo h]; rfl
@[simp] theorem ex_setF {i k : Nat} {c : Cl} {e : E} : exec G C (.setF i c k e) δ st = onOt (setFLoc G C i c k e δ st) (slI δ i c) (fun ds => (evalE G C e δ st).tt δ (fun r => onOt .stuck (setAt ds k r.1) (fun ds' => .nx (δ.set i (.own (.ins c ds'))) r.2) ()) ()) () := ex_setF_0
theorem ex_expr_0 {e : E} : exec G C (.expr e) δ st = (evalE G C e δ st).toO δ fun r => .nx δ r.2 := by simp only [exec]
@[simp] theorem ex_expr {e : E} : exec G C (.expr e) δ st = (evalE G C e δ st).tt δ (fun r => .nx δ r.2) () := ex_expr_0
theorem ex_if_0 {c : E} {a b : Ss} : exec G C (.if_ c a b) δ st = (evalT G C c δ st).toO δ fun r => onB r.1 (execs G C a δ r.2) (execs G C b δ r.2) := by
  simp only [exec]
  refine congrArg _ (funext fun r => ?_)
  cases r.1 <;> rfl
@[simp] theorem ex_if {c : E} {a b : Ss} : exec G C (.if_ c a b) δ st = (evalT G C c δ st).tt δ (fun r => onBt r.1 (execs G C a δ r.2) (execs G C b δ r.2) ()) () := ex_if_0
@[simp] theorem ex_while {c : E} {b : Ss} : exec G C (.while_ c b) δ st = whileLoop (evalT G C c) (execs G C b) Lim δ st := by simp only [exec]
theorem ex_for_0 {t : Tg} {it : I} {b : Ss} : exec G C (.for_ t it b) δ st = (evalI G C it δ st).toO δ fun r => forLoop (gdF r.1.2 (forF G C t b)) r.1.1 δ r.2 := by
  simp only [exec]
  rfl
@[simp] theorem ex_for {t : Tg} {it : I} {b : Ss} : exec G C (.for_ t it b) δ st = (evalI G C it δ st).tt δ (fun r => forLoop (gdF r.1.2 (forF G C t b)) r.1.1 δ r.2) () := ex_for_0
theorem ex_ret_0 {e : E} : exec G C (.ret e) δ st = (evalE G C e δ st).toO δ fun r => .ret r.1 r.2 := by simp only [exec]
@[simp] theorem ex_ret {e : E} : exec G C (.ret e) δ st = (evalE G C e δ st).tt δ (fun r => .ret r.1 r.2) () := ex_ret_0
@[simp] theorem ex_retN : exec G C .retN δ st = .ret .non st := by simp only [exec]
theorem ex_raise_0 {c : Cl} {es : Es} : exec G C (.raise c es) δ st = (evalEs G C es δ st).toO δ fun r => .exc c (excFs c r.1) δ r.2 := by simp only [exec]
@[simp] theorem ex_raise {c : Cl} {es : Es} : exec G C (.raise c es) δ st = (evalEs G C es δ st).tt δ (fun r => .exc c (excFs c r.1) δ r.2) () := ex_raise_0
@[simp] theorem ex_brk : exec G C .brk δ st = .brk δ st := by simp only [exec]
@[simp] theorem ex_cnt : exec G C .cnt δ st = .cnt δ st := by simp only [exec]
@[simp] theorem ex_pass : exec G C .pass δ st = .nx δ st := by simp only [exec]
@[simp] theorem forF_n {i : Nat} {b : Ss} {x : D} : forF G C (.n i) b x δ st = execs G C b (δ.set i (.val x)) st := nr rfl
theorem ex_asgO {i : Nat} {e : E} (h : ∀ t ks vs, e ≠ .dct t ks vs) : exec G C (.asgO i e) δ st = (evalE G C e δ st).toO δ fun r => onO .stuck (ownOf e r.1) fun m => .nx (δ.set i (.own m)) r.2 := by
  cases e <;> first | exact absurd rfl (h _ _ _) | (simp only [exec]; refine congrArg _ (funext fun r => ?_); rename_i a; cases ownOf _ r.1 <;> rfl) | (simp only [exec]; refine congrArg _ (funext fun r => ?_); unfold onO; split <;> simp_all)
theorem ex_asgO_lst_0 {i : Nat} {es : Es} : exec G C (.asgO i (.lst es)) δ st = (evalEs G C es δ st).toO δ fun r => .nx (δ.set i (.own (.lst r.1))) r.2 := by
  rw [ex_asgO (by intro _ _ _ h; cases h), ev_lst]
  cases evalEs G C es δ st <;> rfl
@[simp] theorem ex_asgO_lst {i : Nat} {es : Es} : exec G C (.asgO i (.lst es)) δ st = (evalEs G C es δ st).tt δ (fun r => .nx (δ.set i (.own (.lst r.1))) r.2) () := ex_asgO_lst_0
def O.tr (o : O) (f : Cl → List D → Sls → Sto → O) (_ : Tag f) : O := match o with | .exc c ds δ st => f c ds δ st | o => o
def O.cl (o : O) : O := match o with | .exc .. => .stuck | o => o
def O.clN (o : O) (j : Nat) : O := match o with
  | .nx δ st => .nx (δ.set j .un) st
  | .brk δ st => .brk (δ.set j .un) st
  | .cnt δ st => .cnt (δ.set j .un) st
  | .ret d st => .ret d st
  | _ => .stuck
section
variable {f : Cl → List D → Sls → Sto → O} {t : Tag f} {j : Nat} {d : D} {c : Cl} {ds : List D}
@[simp] theorem tr_nx : (O.nx δ st).tr f t = .nx δ st := nr rfl
@[simp] theorem tr_ret : (O.ret d st).tr f t = .ret d st := nr rfl
@[simp] theorem tr_brk : (O.brk δ st).tr f t = .brk δ st := nr rfl
@[simp] theorem tr_cnt : (O.cnt δ st).tr f t = .cnt δ st := nr rfl
@[simp] theorem tr_exc : (O.exc c ds δ st).tr f t = f c ds δ st := nr rfl
@[simp] theorem cl_nx : (O.nx δ st).cl = .nx δ st := nr rfl
@[simp] theorem cl_ret : (O.ret d st).cl = .ret d st := nr rfl
@[simp] theorem cl_brk : (O.brk δ st).cl = .brk δ st := nr rfl
@[simp] theorem cl_cnt : (O.cnt δ st).cl = .cnt δ st := nr rfl
@[simp] theorem clN_nx : (O.nx δ st).clN j = .nx (δ.set j .un) st := nr rfl
@[simp] theorem clN_ret : (O.ret d st).clN j = .ret d st := nr rfl
@[simp] theorem clN_brk : (O.brk δ st).clN j = .brk (δ.set j .un) st := nr rfl
@[simp] theorem clN_cnt : (O.cnt δ st).clN j = .cnt (δ.set j .un) st := nr rfl
@[simp] theorem ex_tryc {b : Ss} {hs : Hs} : exec G C (.tryc b hs) δ st = (execs G C b δ st).tr (fun c ds δ' st' => execH G C hs c ds δ' st') () := by
  simp only [exec, O.tr] <;> (cases execs G C b δ st <;> rfl)
@[simp] theorem exH_nil : execH G C .nil c ds δ st = .exc c ds δ st := by simp only [execH]
@[simp] theorem exH_none {c' : Cl} {ks : List Cl} {b : Ss} {hs : Hs} : execH G C (.cons c' ks none b hs) c ds δ st = if c ∉ ks then .stuck else onBt (catches c' c) (execs G C b (δ.map Sl.unX) st).cl (execH G C hs c ds δ st) () := by
  simp only [execH]
  split
  · rfl
  · cases catches c' c with
    | false => rfl
    | true =>
      simp only [onBt_t]
      cases execs G C b (δ.map Sl.unX) st <;> rfl
@[simp] theorem exH_some {c' : Cl} {ks : List Cl} {b : Ss} {hs : Hs} : execH G C (.cons c' ks (some j) b hs) c ds δ st = if c ∉ ks then .stuck else onBt (catches c' c) ((execs G C b ((δ.map Sl.unX).set j (.exo c ds)) st).clN j) (execH G C hs c ds δ st) () := by
  simp only [execH]
  split
  · rfl
  · cases catches c' c with
    | false => rfl
    | true =>
      simp only [onBt_t]
      cases execs G C b ((δ.map Sl.unX).set j (.exo c ds)) st <;> rfl
end
def O.fin (o : O) : R (D × Sto) := match o with
  | .nx _ st' => .ok (.non, st')
  | .ret d st' => .ok (d, st')
  | .exc c ds _ st' => .exc c ds st'
  | _ => .stuck
@[simp] theorem fin_nx : (O.nx δ st).fin = .ok (.non, st) := nr rfl
@[simp] theorem fin_ret {d : D} : (O.ret d st).fin = .ok (d, st) := nr rfl
@[simp] theorem fin_exc {c : Cl} {ds : List D} : (O.exc c ds δ st).fin = .exc c ds st := nr rfl
@[simp] theorem run_fn {b : Ss} {n : Nat} {args : List D} : runFn G C b n args st = (execs G C b (env0 n args) st).fin := nr rfl
end

def Sm (i : Int) : Prop := -2 ^ 64 < i ∧ i < 2 ^ 64
instance (i : Int) : Decidable (Sm i) := inferInstanceAs (Decidable (_ ∧ _))
theorem sm_of {i : Int} (h1 : -1000000000000 < i) (h2 : i < 1000000000000) : Sm i := ⟨by omega, by omega⟩
@[simp] theorem sm_0 : Sm 0 := by decide
@[simp] theorem sm_1 : Sm 1 := by decide
@[simp] theorem sm_2 : Sm 2 := by decide
@[simp] theorem sm_3 : Sm 3 := by decide
@[simp] theorem sm_4 : Sm 4 := by decide
@[simp] theorem sm_5 : Sm 5 := by decide
@[simp] theorem sm_6 : Sm 6 := by decide
@[simp] theorem sm_7 : Sm 7 := by decide
@[simp] theorem sm_8 : Sm 8 := by decide
@[simp] theorem sm_10 : Sm 10 := by decide
@[simp] theorem sm_16 : Sm 16 := by decide
@[simp] theorem sm_31 : Sm 31 := by decide
@[simp] theorem sm_32 : Sm 32 := by decide
@[simp] theorem sm_48271 : Sm 48271 := by decide
section
variable {st : Sto} {i j : Int} {a b : List D}
@[simp] theorem bv_add : binV .add (.int i) (.int j) = some (.int (i + j)) := nr rfl
@[simp] theorem bv_sub : binV .sub (.int i) (.int j) = some (.int (i - j)) := nr rfl
@[simp] theorem bv_mul : binV .mul (.int i) (.int j) = if Sm i ∨ Sm j then some (.int (i * j)) else none := nr rfl
@[simp] theorem bv_fdiv : binV .fdiv (.int i) (.int j) = if 0 < j ∧ j < 1073741824 then some (.int (i / j)) else none := nr rfl
@[simp] theorem bv_mod : binV .mod (.int i) (.int j) = if 0 < j then some (.int (i % j)) else none := nr rfl
@[simp] theorem bv_pow : binV .pow (.int i) (.int j) = if 0 ≤ j ∧ j ≤ 1000 ∧ i.natAbs < 18446744073709551616 then some (.int (i ^ j.toNat)) else none := nr rfl
@[simp] theorem bv_shl : binV .shl (.int i) (.int j) = if 0 ≤ j ∧ j ≤ 1000 ∧ i.natAbs < 18446744073709551616 then some (.int (i * 2 ^ j.toNat)) else none := nr rfl
@[simp] theorem bv_shr : binV .shr (.int i) (.int j) = if 0 ≤ j then some (.int (i / 2 ^ j.toNat)) else none := nr rfl
@[simp] theorem bv_addL : binV .add (.lst a) (.lst b) = if a.length + b.length ≤ Lim then some (.lst (a ++ b)) else none := nr rfl
@[simp] theorem bv_addT : binV .add (.tup a) (.tup b) = if a.length + b.length ≤ Lim ∧ a ≠ [] ∧ b ≠ [] then some (.tup (a ++ b)) else none := nr rfl
@[simp] theorem bv_mulL : binV .mul (.lst a) (.int j) = if 0 ≤ j ∧ a.length * j.toNat ≤ Lim ∧ j ≤ Lim then some (.lst ((List.replicate j.toNat a).flatten)) else none := nr rfl
@[simp] theorem cp_lt : cmpP .lt st (.d (.int i)) (.d (.int j)) = some (decide (i < j)) := nr rfl
@[simp] theorem cp_le : cmpP .le st (.d (.int i)) (.d (.int j)) = some (decide (i ≤ j)) := nr rfl
@[simp] theorem cp_gt : cmpP .gt st (.d (.int i)) (.d (.int j)) = some (decide (j < i)) := nr rfl
@[simp] theorem cp_ge : cmpP .ge st (.d (.int i)) (.d (.int j)) = some (decide (j ≤ i)) := nr rfl
@[simp] theorem cp_eq : cmpP .eq st (.d (.int i)) (.d (.int j)) = some (decide (i = j)) := by
  simp [cmpP, datOf, eqD, D.shp, D.toP, PyData.eqv]
  exact Bool.eq_iff_iff.mpr (by simp)
@[simp] theorem cp_ne : cmpP .ne st (.d (.int i)) (.d (.int j)) = some (!decide (i = j)) := by
  simp [cmpP, datOf, eqD, D.shp, D.toP, PyData.eqv]
  exact Bool.eq_iff_iff.mpr (by simp)
theorem cp_in {p : Pl} {ns : List Int} (h : seqOf st p = some (ns.map .int)) : cmpP .in_ st (.d (.int i)) p = some (decide (i ∈ ns)) := by
  have e : ∀ ns : List Int, ((ns.map D.int).any fun z => PyData.eqv z.toP (D.int i).toP) = decide (i ∈ ns) := by
    intro ns
    induction ns with
    | nil => rfl
    | cons n ns ih =>
      rw [List.map_cons, List.any_cons, ih]
      by_cases q : n = i
      · subst q; simp [D.toP, PyData.eqv]
      · have q' : ¬ i = n := fun z => q z.symm
        simp [D.toP, PyData.eqv, q, q']
  have c : ((D.int i).shp 9 && (ns.map D.int).all (D.shp 8)) = true := by simp [D.shp]
  simp only [cmpP, h, anyEq, c, if_true, e]
theorem cp_nin {p : Pl} {ns : List Int} (h : seqOf st p = some (ns.map .int)) : cmpP .nin st (.d (.int i)) p = some (!decide (i ∈ ns)) := by
  have q := cp_in (i := i) h
  simp only [cmpP, h] at q ⊢
  rw [q]
  rfl
@[simp] theorem cp_inT2 {a b : Int} : cmpP .in_ st (.d (.int i)) (.d (.tup [.int a, .int b])) = some (decide (i = a ∨ i = b)) := by
  rw [cp_in (ns := [a, b]) rfl]; simp
@[simp] theorem cp_inT3 {a b c : Int} : cmpP .in_ st (.d (.int i)) (.d (.tup [.int a, .int b, .int c])) = some (decide (i = a ∨ i = b ∨ i = c)) := by
  rw [cp_in (ns := [a, b, c]) rfl]; simp
@[simp] theorem cp_inL {ns : List Int} : cmpP .in_ st (.d (.int i)) (.d (.lst (ns.map .int))) = some (decide (i ∈ ns)) := cp_in rfl
@[simp] theorem cp_inO {ns : List Int} : cmpP .in_ st (.d (.int i)) (.own (.lst (ns.map .int))) = some (decide (i ∈ ns)) := cp_in rfl
@[simp] theorem cp_inT {ns : List Int} : cmpP .in_ st (.d (.int i)) (.d (.tup (ns.map .int))) = some (decide (i ∈ ns)) := cp_in rfl
@[simp] theorem cp_ninL {ns : List Int} : cmpP .nin st (.d (.int i)) (.d (.lst (ns.map .int))) = some (!decide (i ∈ ns)) := cp_nin rfl
@[simp] theorem cp_ninO {ns : List Int} : cmpP .nin st (.d (.int i)) (.own (.lst (ns.map .int))) = some (!decide (i ∈ ns)) := cp_nin rfl
@[simp] theorem cp_ninT {ns : List Int} : cmpP .nin st (.d (.int i)) (.d (.tup (ns.map .int))) = some (!decide (i ∈ ns)) := cp_nin rfl
@[simp] theorem so_lst : seqOf st (.d (.lst a)) = some a := nr rfl
@[simp] theorem so_scr : seqOf st (.d (.scr a)) = some a := nr rfl
@[simp] theorem so_tup : seqOf st (.d (.tup a)) = some a := nr rfl
@[simp] theorem so_ktup : seqOf st (.d (.ktup a)) = some a := nr rfl
@[simp] theorem lo_ktup : lstOf st (.d (.ktup a)) = none := nr rfl
@[simp] theorem xo_ktup : idxOf st (.d (.ktup a)) = some a := nr rfl
@[simp] theorem xo_lst : idxOf st (.d (.lst a)) = some a := nr rfl
@[simp] theorem xo_own : idxOf st (.own (.lst a)) = some a := nr rfl
@[simp] theorem tr_ktup : truP st (.d (.ktup a)) = some (!a.isEmpty) := nr rfl
@[simp] theorem so_own : seqOf st (.own (.lst a)) = some a := nr rfl
@[simp] theorem lo_lst : lstOf st (.d (.lst a)) = some a := nr rfl
@[simp] theorem lo_scr : lstOf st (.d (.scr a)) = some a := nr rfl
@[simp] theorem lo_tup : lstOf st (.d (.tup a)) = none := nr rfl
@[simp] theorem lo_own : lstOf st (.own (.lst a)) = some a := nr rfl
@[simp] theorem io_obj {c : Cl} : insOf st c (.d (.obj c a)) = some a := by simp [insOf]
@[simp] theorem io_own {c : Cl} : insOf st c (.own (.ins c a)) = some a := by simp [insOf]
@[simp] theorem tr_bl {b : Bool} : truP st (.d (.bl b)) = some b := nr rfl
@[simp] theorem tr_int : truP st (.d (.int i)) = some (i != 0) := nr rfl
@[simp] theorem tr_lst : truP st (.d (.lst a)) = some (!a.isEmpty) := nr rfl
@[simp] theorem tr_tup : truP st (.d (.tup a)) = some (!a.isEmpty) := nr rfl
@[simp] theorem tr_own : truP st (.own (.lst a)) = some (!a.isEmpty) := nr rfl
@[simp] theorem bl_int : bltV st .int [.d (.int i)] = some (.int i) := nr rfl
@[simp] theorem bl_abs : bltV st .abs [.d (.int i)] = some (.int (if i < 0 then -i else i)) := nr rfl
@[simp] theorem bl_min : bltV st .min [.d (.int i), .d (.int j)] = some (.int (if j < i then j else i)) := nr rfl
@[simp] theorem bl_max : bltV st .max [.d (.int i), .d (.int j)] = some (.int (if j > i then j else i)) := nr rfl
@[simp] theorem bl_len {p : Pl} : bltV st .len [p] = onO none (seqOf st p) fun ds => some (.int ds.length) := by
  simp only [bltV]
  cases seqOf st p <;> rfl
def tupV (st : Sto) : Pl → Option D
  | .d (.ktup ds) => some (.ktup ds)
  | p => onO none (seqOf st p) fun ds => some (.tup ds)
@[simp] theorem bl_tuple {p : Pl} : bltV st .tuple [p] = tupV st p := by
  unfold tupV
  split
  · rfl
  · rename_i p' h
    cases p with
    | own m => simp only [bltV]; cases seqOf st (.own m) <;> rfl
    | d d => cases d <;> first | exact absurd rfl (h _) | (simp only [bltV]; cases seqOf st _ <;> rfl)
@[simp] theorem tupV_l {a : List D} : tupV st (.d (.lst a)) = some (.tup a) := nr rfl
@[simp] theorem tupV_s {a : List D} : tupV st (.d (.scr a)) = some (.tup a) := nr rfl
@[simp] theorem tupV_t {a : List D} : tupV st (.d (.tup a)) = some (.tup a) := nr rfl
@[simp] theorem tupV_k {a : List D} : tupV st (.d (.ktup a)) = some (.ktup a) := nr rfl
@[simp] theorem tupV_o {a : List D} : tupV st (.own (.lst a)) = some (.tup a) := nr rfl
@[simp] theorem tupV_loc {l : Nat} : tupV st (.d (.loc l)) = onO none (seqOf st (.d (.loc l))) fun ds => some (.tup ds) := nr rfl
@[simp] theorem bl_list {p : Pl} : bltV st .list [p] = onO none (seqOf st p) fun ds => some (.lst ds) := by
  simp only [bltV]
  cases seqOf st p <;> rfl
@[simp] theorem tg_n {k : Nat} {d : D} {δ : Sls} : (Tg.n k).bind d δ = some (δ.set k (.val d)) := nr rfl
@[simp] theorem env0_eq {n : Nat} {args : List D} : env0 n args = args.map .val ++ List.replicate (n - args.length) .un := nr rfl
theorem ixn_pos {n : Nat} {i : Int} (h0 : 0 ≤ i) (h1 : i < n) : ixn n i = some i.toNat := by
  unfold ixn
  rw [if_pos h0, if_pos h1]
@[simp] theorem rep_s {α : Type} {n : Nat} {a : α} : List.replicate (n + 1) a = a :: List.replicate n a := rfl
end

theorem for_cons {f : D → Sls → Sto → O} {x : D} {xs : List D} {δ δ' : Sls} {st st' : Sto} {o : O} (t : forLoop f xs δ' st' = o) (h : f x δ st = .nx δ' st') : forLoop f (x :: xs) δ st = o := by
  simp only [forLoop, h]
  exact t
theorem for_map {α A : Type} {f : D → Sls → Sto → O} {inj : α → D} {mk : A → Sls} {g : A → α → A} {P : A → Prop} {st : Sto} : ∀ (xs : List α) (a : A), (∀ a x, P a → x ∈ xs → f (inj x) (mk a) st = .nx (mk (g a x)) st ∧ P (g a x)) → P a →
    forLoop f (xs.map inj) (mk a) st = .nx (mk (xs.foldl g a)) st ∧ P (xs.foldl g a)
  | [], a, h, p => ⟨rfl, p⟩
  | x :: xs, a, h, p => by
    obtain ⟨e, p'⟩ := h a x p List.mem_cons_self
    have ih := for_map xs (g a x) (fun a y pa hy => h a y pa (List.mem_cons_of_mem _ hy)) p'
    simp only [List.map_cons, forLoop, e, List.foldl_cons]
    exact ih
theorem for_inv {f : D → Sls → Sto → O} {I : Nat → Sls → Sto → Prop} : ∀ (xs : List D) (k : Nat) (δ : Sls) (st : Sto), (∀ i x δ st, xs[i]? = some x → I (k + i) δ st → ∃ δ' st', f x δ st = .nx δ' st' ∧ I (k + i + 1) δ' st') → I k δ st →
    ∃ δ' st', forLoop f xs δ st = .nx δ' st' ∧ I (k + xs.length) δ' st'
  | [], k, δ, st, _, p => ⟨δ, st, rfl, p⟩
  | x :: xs, k, δ, st, h, p => by
    obtain ⟨δ', st', e, p'⟩ := h 0 x δ st rfl p
    obtain ⟨δ2, st2, e2, p2⟩ := for_inv xs (k + 1) δ' st' (fun i y δ st hi pi => by
      have := h (i + 1) y δ st hi (by rw [Nat.add_comm i 1, ← Nat.add_assoc]; exact pi)
      rw [show k + (i + 1) + 1 = k + 1 + i + 1 by omega] at this
      exact this) p'
    refine ⟨δ2, st2, ?_, by rw [List.length_cons, show k + (xs.length + 1) = k + 1 + xs.length by omega]; exact p2⟩
    simp only [forLoop, e]
    exact e2
theorem comp_map {α : Type} {f : D → Sto → R (Option D × Sto)} {inj : α → D} {g : α → D} {st : Sto} : ∀ (xs : List α) (acc : List D), (∀ x ∈ xs, f (inj x) st = .ok (some (g x), st)) → xs.length + acc.length ≤ Lim → compLoop f (xs.map inj) acc st = .ok (acc ++ xs.map g, st)
  | [], acc, h, hl => by simp [compLoop]
  | x :: xs, acc, h, hl => by
    simp only [List.length_cons] at hl
    simp only [List.map_cons, compLoop, h x List.mem_cons_self]
    rw [if_pos (by omega), comp_map xs _ (fun y hy => h y (List.mem_cons_of_mem _ hy)) (by simp only [List.length_append, List.length_singleton]; omega)]
    simp
theorem comp_all {α : Type} {G : List Fn} {C : List Int} {δ : Sls} {st : Sto} {elt : E} {tg : Tg} {it : I} {own : List Nat} {inj : α → D} {g : α → D} {xs : List α} (hi : evalI G C it δ st = .ok ((xs.map inj, none), st)) (hl : xs.length ≤ Lim)
    (h : ∀ x ∈ xs, evalComp G C elt tg .nil own δ (inj x) st = .ok (some (g x), st)) : evalE G C (.comp elt tg it .nil own) δ st = .ok (.lst (xs.map g), st) := by
  rw [ev_comp, hi, bind_ok, gdC_none, comp_map xs [] h (by simpa using hl)]
  rfl
theorem comp_n {G : List Fn} {C : List Int} {δ : Sls} {st : Sto} {elt : E} {i : Nat} {own : List Nat} {x : D} : evalComp G C elt (.n i) .nil own δ x st = (evalE G C elt ((wipeE δ own).set i (.val x)) st).bt (fun u => .ok (some u.1, u.2)) () := by
  simp only [evalComp, Tg.bind, ets_nil, bind_ok]
  rfl
theorem while_map {A : Type} {c : Sls → Sto → R (Bool × Sto)} {f : Sls → Sto → O} {mk : A → Sls} {go : A → Bool} {g : A → A} {P : A → Prop} {μ : A → Nat} {st : Sto} (hc : ∀ a, P a → c (mk a) st = .ok (go a, st)) (hf : ∀ a, P a → go a = true → f (mk a) st = .nx (mk (g a)) st ∧ P (g a) ∧ μ (g a) < μ a) :
    ∀ (n : Nat) (a : A), P a → μ a < n → ∃ k, whileLoop c f n (mk a) st = .nx (mk (Nat.repeat g k a)) st ∧ P (Nat.repeat g k a) ∧ go (Nat.repeat g k a) = false := by
  intro n
  induction n with
  | zero => intro a _ h; omega
  | succ n ih =>
    intro a p hn
    simp only [whileLoop, hc a p]
    cases hg : go a with
    | false => exact ⟨0, rfl, p, hg⟩
    | true =>
      obtain ⟨e, p', hm⟩ := hf a p hg
      obtain ⟨k, e2, p2, g2⟩ := ih (g a) p' (by omega)
      have er : ∀ k a, Nat.repeat g k (g a) = Nat.repeat g (k + 1) a := by
        intro k
        induction k with
        | zero => intro a; rfl
        | succ k ihk => intro a; show g (Nat.repeat g k (g a)) = g (Nat.repeat g (k + 1) a); rw [ihk]
      refine ⟨k + 1, ?_, ?_, ?_⟩
      · simp only [e]
        rw [e2, er]
      · rw [← er]; exact p2
      · rw [← er]; exact g2
end
end Qk

set_option linter.all false
set_option maxHeartbeats 4000000
set_option maxRecDepth 100000
namespace Qk
open PySem
section
variable {G : List Fn} {C : List Int} {δ : Sls} {st : Sto}
@[simp] theorem ex_wip {ws : List Nat} : exec G C (.wip ws) δ st = .nx (wipeE δ ws) st := by simp only [exec]
@[simp] theorem wipeE_nil : wipeE δ [] = δ := rfl
@[simp] theorem wipeE_cons {v : Nat} {vs : List Nat} : wipeE δ (v :: vs) = (wipeE δ vs).set v .un := rfl
end
def O.finN (c : Cl) (o : O) : R (D × Sto) := match o with
  | .nx δ st' => (match (δ[0]? : Option Sl) with | some (Sl.own (M.ins c' ds)) => if c' = c then .ok (.obj c ds, st') else .stuck | _ => .stuck)
  | .exc c ds _ st' => .exc c ds st'
  | _ => .stuck
section
variable {G : List Fn} {C : List Int} {δ : Sls} {st : Sto}
@[simp] theorem finN_nx {c : Cl} : (O.nx δ st).finN c = onOt .stuck (slI δ 0 c) (fun ds => .ok (.obj c ds, st)) () := by
  simp only [O.finN, slI, onOt]
  cases δ[0]? with
  | none => rfl
  | some x =>
    cases x <;> first | rfl | skip
    rename_i m
    cases m with
    | lst _ => rfl
    | dct _ _ => rfl
    | ins c' ds =>
      dsimp only
      by_cases h : c' = c
      · rw [if_pos h, if_pos h]; rfl
      · rw [if_neg h, if_neg h]; rfl
@[simp] theorem finN_exc {c c' : Cl} {ds : List D} : (O.exc c' ds δ st).finN c = .exc c' ds st := nr rfl
@[simp] theorem run_new {c : Cl} {b : Ss} {n : Nat} {args : List D} : runNew G C c b n args st = (execs G C b (Sl.own (.ins c []) :: env0 (n - 1) args) st).finN c := by
  simp only [runNew, O.finN] <;> (cases execs G C b (Sl.own (.ins c []) :: env0 (n - 1) args) st <;> rfl)
end
structure Fm (n : Nat) {α : Type} (f : α → D) : Prop where
  shp : ∀ a, (f a).shp n = true
  eqv : ∀ a b, PyData.eqv (f a).toP (f b).toP = true ↔ a = b
theorem dec_of {p : Prop} [Decidable p] {b : Bool} (h : b = true ↔ p) : b = decide p := by
  cases b with
  | true => exact (decide_eq_true (h.mp rfl)).symm
  | false => exact (decide_eq_false fun q => by cases h.mpr q).symm
section
variable {α β γ : Type} {f : α → D} {g : β → D} {h : γ → D} {n m : Nat} {st : Sto}
theorem shp_le {d : D} {n m : Nat} (h : n ≤ m) (s : d.shp n = true) : d.shp m = true := shp_mono h s
theorem Fm.mono (F : Fm n f) (h : n ≤ m) : Fm m f := ⟨fun a => shp_le h (F.shp a), F.eqv⟩
theorem fm_int : Fm 0 D.int := ⟨fun _ => rfl, fun a b => by simp [D.toP, PyData.eqv]⟩
theorem fm_bl : Fm 0 D.bl := ⟨fun _ => rfl, fun a b => by cases a <;> cases b <;> simp [D.toP, PyData.eqv]⟩
theorem eqvs_map (F : Fm n f) : ∀ xs ys : List α, PyData.eqvAll (Ds.toP (xs.map f)) (Ds.toP (ys.map f)) = true ↔ xs = ys
  | [], [] => by simp [Ds.toP, PyData.eqvAll]
  | [], _ :: _ => by simp [Ds.toP, PyData.eqvAll]
  | _ :: _, [] => by simp [Ds.toP, PyData.eqvAll]
  | x :: xs, y :: ys => by
    simp only [List.map_cons, Ds.toP, PyData.eqvAll, Bool.and_eq_true, F.eqv, eqvs_map F xs ys, List.cons.injEq]
theorem fm_lst (F : Fm n f) : Fm (n + 1) fun xs : List α => D.lst (xs.map f) :=
  ⟨fun xs => by simp [D.shp, F.shp], fun xs ys => by simp only [D.toP, PyData.eqv]; exact eqvs_map F xs ys⟩
theorem fm_tup (F : Fm n f) : Fm (n + 1) fun xs : List α => D.tup (xs.map f) :=
  ⟨fun xs => by simp [D.shp, F.shp], fun xs ys => by simp only [D.toP, PyData.eqv]; exact eqvs_map F xs ys⟩
theorem fm_pr (F : Fm n f) (G : Fm n g) : Fm (n + 1) fun p : α × β => D.tup [f p.1, g p.2] :=
  ⟨fun p => by simp [D.shp, F.shp, G.shp], fun p q => by
    simp only [D.toP, PyData.eqv, Ds.toP, PyData.eqvAll, Bool.and_true, Bool.and_eq_true, F.eqv, G.eqv]
    rw [Prod.ext_iff]⟩
theorem fm_tr (F : Fm n f) (G : Fm n g) (K : Fm n h) : Fm (n + 1) fun p : α × β × γ => D.tup [f p.1, g p.2.1, h p.2.2] :=
  ⟨fun p => by simp [D.shp, F.shp, G.shp, K.shp], fun p q => by
    simp only [D.toP, PyData.eqv, Ds.toP, PyData.eqvAll, Bool.and_true, Bool.and_eq_true, F.eqv, G.eqv, K.eqv]
    rw [Prod.ext_iff, Prod.ext_iff]⟩
theorem Fm.inj (F : Fm n f) {a b : α} (e : f a = f b) : a = b := (F.eqv a b).mp (by rw [e]; exact (F.eqv b b).mpr rfl)
theorem Fm.any (F : Fm n f) (x : α) (xs : List α) : ((xs.map f).any fun z => PyData.eqv z.toP (f x).toP) = true ↔ x ∈ xs := by
  rw [List.any_map, List.any_eq_true]
  constructor
  · rintro ⟨y, hy, e⟩
    rw [(F.eqv y x).mp e] at hy
    exact hy
  · exact fun hx => ⟨x, hx, (F.eqv x x).mpr rfl⟩
theorem Fm.in_ (F : Fm 8 f) {p : Pl} {x : α} {xs : List α} [Decidable (x ∈ xs)] (h : seqOf st p = some (xs.map f)) : cmpP .in_ st (.d (f x)) p = some (decide (x ∈ xs)) := by
  have c : ((f x).shp 9 && (xs.map f).all (D.shp 8)) = true := by
    rw [Bool.and_eq_true]
    exact ⟨shp_le (by omega) (F.shp x), by simp [F.shp]⟩
  simp only [cmpP, h, anyEq, c, if_true]
  rw [dec_of (F.any x xs)]
theorem Fm.nin (F : Fm 8 f) {p : Pl} {x : α} {xs : List α} [Decidable (x ∈ xs)] (h : seqOf st p = some (xs.map f)) : cmpP .nin st (.d (f x)) p = some (!decide (x ∈ xs)) := by
  have c : ((f x).shp 9 && (xs.map f).all (D.shp 8)) = true := by
    rw [Bool.and_eq_true]
    exact ⟨shp_le (by omega) (F.shp x), by simp [F.shp]⟩
  simp only [cmpP, h, anyEq, c, if_true, Option.map_some]
  rw [dec_of (F.any x xs)]
theorem Fm.eq (F : Fm 9 f) {p q : Pl} {x y : α} [Decidable (x = y)] (hp : datOf st p = some (f x)) (hq : datOf st q = some (f y)) : cmpP .eq st p q = some (decide (x = y)) := by
  have c : ((f x).shp 9 && (f y).shp 9) = true := by rw [F.shp, F.shp]; rfl
  simp only [cmpP, hp, hq, eqD, c, if_true]
  rw [dec_of (F.eqv x y)]
theorem Fm.ne (F : Fm 9 f) {p q : Pl} {x y : α} [Decidable (x = y)] (hp : datOf st p = some (f x)) (hq : datOf st q = some (f y)) : cmpP .ne st p q = some (!decide (x = y)) := by
  have c : ((f x).shp 9 && (f y).shp 9) = true := by rw [F.shp, F.shp]; rfl
  simp only [cmpP, hp, hq, eqD, c, if_true, Option.map_some]
  rw [dec_of (F.eqv x y)]
end
@[simp] theorem rngO_0 : rngO 0 = some (rng 0) := rngO_nat (n := 0) (by omega)
@[simp] theorem rngO_1 : rngO 1 = some (rng 1) := rngO_nat (n := 1) (by omega)
@[simp] theorem rngO_2 : rngO 2 = some (rng 2) := rngO_nat (n := 2) (by omega)
@[simp] theorem rngO_3 : rngO 3 = some (rng 3) := rngO_nat (n := 3) (by omega)
@[simp] theorem rngO_4 : rngO 4 = some (rng 4) := rngO_nat (n := 4) (by omega)
@[simp] theorem rngO_5 : rngO 5 = some (rng 5) := rngO_nat (n := 5) (by omega)
@[simp] theorem rngO_6 : rngO 6 = some (rng 6) := rngO_nat (n := 6) (by omega)
@[simp] theorem rngO_7 : rngO 7 = some (rng 7) := rngO_nat (n := 7) (by omega)
@[simp] theorem rngO_8 : rngO 8 = some (rng 8) := rngO_nat (n := 8) (by omega)
@[simp] theorem rngO_9 : rngO 9 = some (rng 9) := rngO_nat (n := 9) (by omega)
@[simp] theorem rngO_10 : rngO 10 = some (rng 10) := rngO_nat (n := 10) (by omega)
@[simp] theorem rngO_12 : rngO 12 = some (rng 12) := rngO_nat (n := 12) (by omega)
@[simp] theorem rngO_24 : rngO 24 = some (rng 24) := rngO_nat (n := 24) (by omega)
@[simp] theorem rngO_32 : rngO 32 = some (rng 32) := rngO_nat (n := 32) (by omega)
@[simp] theorem rngO_99 : rngO 99 = some (rng 99) := rngO_nat (n := 99) (by omega)
@[simp] theorem rngO_100 : rngO 100 = some (rng 100) := rngO_nat (n := 100) (by omega)
abbrev prD (p : Int × Int) : D := .tup [.int p.1, .int p.2]
abbrev trD (p : Int × Int × Int) : D := .tup [.int p.1, .int p.2.1, .int p.2.2]
theorem fm_prD : Fm 1 prD := fm_pr fm_int fm_int
theorem fm_trD : Fm 1 trD := fm_tr fm_int fm_int fm_int
section
variable {st : Sto} {a b c d e f : Int} {xs ys : List (Int × Int)} {zs ws : List (Int × Int × Int)} {is js : List Int}
@[simp] theorem in_prL : cmpP .in_ st (.d (.tup [.int a, .int b])) (.d (.lst (xs.map prD))) = some (decide ((a, b) ∈ xs)) := (fm_prD.mono (by omega)).in_ (x := (a, b)) rfl
@[simp] theorem in_prO : cmpP .in_ st (.d (.tup [.int a, .int b])) (.own (.lst (xs.map prD))) = some (decide ((a, b) ∈ xs)) := (fm_prD.mono (by omega)).in_ (x := (a, b)) rfl
@[simp] theorem in_prT : cmpP .in_ st (.d (.tup [.int a, .int b])) (.d (.tup (xs.map prD))) = some (decide ((a, b) ∈ xs)) := (fm_prD.mono (by omega)).in_ (x := (a, b)) rfl
@[simp] theorem nin_prL : cmpP .nin st (.d (.tup [.int a, .int b])) (.d (.lst (xs.map prD))) = some (!decide ((a, b) ∈ xs)) := (fm_prD.mono (by omega)).nin (x := (a, b)) rfl
@[simp] theorem nin_prO : cmpP .nin st (.d (.tup [.int a, .int b])) (.own (.lst (xs.map prD))) = some (!decide ((a, b) ∈ xs)) := (fm_prD.mono (by omega)).nin (x := (a, b)) rfl
@[simp] theorem nin_prT : cmpP .nin st (.d (.tup [.int a, .int b])) (.d (.tup (xs.map prD))) = some (!decide ((a, b) ∈ xs)) := (fm_prD.mono (by omega)).nin (x := (a, b)) rfl
@[simp] theorem eq_prL : cmpP .eq st (.d (.lst (xs.map prD))) (.d (.lst (ys.map prD))) = some (decide (xs = ys)) := ((fm_lst fm_prD).mono (by omega)).eq (x := xs) (y := ys) rfl rfl
@[simp] theorem eq_prT : cmpP .eq st (.d (.tup (xs.map prD))) (.d (.tup (ys.map prD))) = some (decide (xs = ys)) := ((fm_tup fm_prD).mono (by omega)).eq (x := xs) (y := ys) rfl rfl
@[simp] theorem ne_prL : cmpP .ne st (.d (.lst (xs.map prD))) (.d (.lst (ys.map prD))) = some (!decide (xs = ys)) := ((fm_lst fm_prD).mono (by omega)).ne (x := xs) (y := ys) rfl rfl
@[simp] theorem ne_prT : cmpP .ne st (.d (.tup (xs.map prD))) (.d (.tup (ys.map prD))) = some (!decide (xs = ys)) := ((fm_tup fm_prD).mono (by omega)).ne (x := xs) (y := ys) rfl rfl
@[simp] theorem eq_prLn : cmpP .eq st (.d (.lst (xs.map prD))) (.d (.lst [])) = some (decide (xs = [])) := ((fm_lst fm_prD).mono (by omega)).eq (x := xs) (y := []) rfl rfl
@[simp] theorem ne_prLn : cmpP .ne st (.d (.lst (xs.map prD))) (.d (.lst [])) = some (!decide (xs = [])) := ((fm_lst fm_prD).mono (by omega)).ne (x := xs) (y := []) rfl rfl
@[simp] theorem eq_pr : cmpP .eq st (.d (.tup [.int a, .int b])) (.d (.tup [.int c, .int d])) = some (decide (a = c ∧ b = d)) := by
  rw [(fm_prD.mono (by omega)).eq (x := (a, b)) (y := (c, d)) rfl rfl]; simp
@[simp] theorem ne_pr : cmpP .ne st (.d (.tup [.int a, .int b])) (.d (.tup [.int c, .int d])) = some (!decide (a = c ∧ b = d)) := by
  rw [(fm_prD.mono (by omega)).ne (x := (a, b)) (y := (c, d)) rfl rfl]; simp
@[simp] theorem eq_isL : cmpP .eq st (.d (.lst (is.map .int))) (.d (.lst (js.map .int))) = some (decide (is = js)) := ((fm_lst fm_int).mono (by omega)).eq (x := is) (y := js) rfl rfl
@[simp] theorem ne_isL : cmpP .ne st (.d (.lst (is.map .int))) (.d (.lst (js.map .int))) = some (!decide (is = js)) := ((fm_lst fm_int).mono (by omega)).ne (x := is) (y := js) rfl rfl
@[simp] theorem eq_isT : cmpP .eq st (.d (.tup (is.map .int))) (.d (.tup (js.map .int))) = some (decide (is = js)) := ((fm_tup fm_int).mono (by omega)).eq (x := is) (y := js) rfl rfl
@[simp] theorem ne_isT : cmpP .ne st (.d (.tup (is.map .int))) (.d (.tup (js.map .int))) = some (!decide (is = js)) := ((fm_tup fm_int).mono (by omega)).ne (x := is) (y := js) rfl rfl
@[simp] theorem in_trL : cmpP .in_ st (.d (.tup [.int a, .int b, .int c])) (.d (.lst (zs.map trD))) = some (decide ((a, b, c) ∈ zs)) := (fm_trD.mono (by omega)).in_ (x := (a, b, c)) rfl
@[simp] theorem in_trT : cmpP .in_ st (.d (.tup [.int a, .int b, .int c])) (.d (.tup (zs.map trD))) = some (decide ((a, b, c) ∈ zs)) := (fm_trD.mono (by omega)).in_ (x := (a, b, c)) rfl
@[simp] theorem nin_trL : cmpP .nin st (.d (.tup [.int a, .int b, .int c])) (.d (.lst (zs.map trD))) = some (!decide ((a, b, c) ∈ zs)) := (fm_trD.mono (by omega)).nin (x := (a, b, c)) rfl
@[simp] theorem nin_trT : cmpP .nin st (.d (.tup [.int a, .int b, .int c])) (.d (.tup (zs.map trD))) = some (!decide ((a, b, c) ∈ zs)) := (fm_trD.mono (by omega)).nin (x := (a, b, c)) rfl
@[simp] theorem eq_trL : cmpP .eq st (.d (.lst (zs.map trD))) (.d (.lst (ws.map trD))) = some (decide (zs = ws)) := ((fm_lst fm_trD).mono (by omega)).eq (x := zs) (y := ws) rfl rfl
@[simp] theorem eq_trT : cmpP .eq st (.d (.tup (zs.map trD))) (.d (.tup (ws.map trD))) = some (decide (zs = ws)) := ((fm_tup fm_trD).mono (by omega)).eq (x := zs) (y := ws) rfl rfl
@[simp] theorem ne_trL : cmpP .ne st (.d (.lst (zs.map trD))) (.d (.lst (ws.map trD))) = some (!decide (zs = ws)) := ((fm_lst fm_trD).mono (by omega)).ne (x := zs) (y := ws) rfl rfl
@[simp] theorem ne_trT : cmpP .ne st (.d (.tup (zs.map trD))) (.d (.tup (ws.map trD))) = some (!decide (zs = ws)) := ((fm_tup fm_trD).mono (by omega)).ne (x := zs) (y := ws) rfl rfl
@[simp] theorem eq_trLn : cmpP .eq st (.d (.lst (zs.map trD))) (.d (.lst [])) = some (decide (zs = [])) := ((fm_lst fm_trD).mono (by omega)).eq (x := zs) (y := []) rfl rfl
@[simp] theorem ne_trLn : cmpP .ne st (.d (.lst (zs.map trD))) (.d (.lst [])) = some (!decide (zs = [])) := ((fm_lst fm_trD).mono (by omega)).ne (x := zs) (y := []) rfl rfl
@[simp] theorem eq_tr : cmpP .eq st (.d (.tup [.int a, .int b, .int c])) (.d (.tup [.int d, .int e, .int f])) = some (decide ((a, b, c) = (d, e, f))) := (fm_trD.mono (by omega)).eq (x := (a, b, c)) (y := (d, e, f)) rfl rfl
@[simp] theorem ne_tr : cmpP .ne st (.d (.tup [.int a, .int b, .int c])) (.d (.tup [.int d, .int e, .int f])) = some (!decide ((a, b, c) = (d, e, f))) := (fm_trD.mono (by omega)).ne (x := (a, b, c)) (y := (d, e, f)) rfl rfl
end
theorem for_fold {α A : Type} {f : D → Sls → Sto → O} {inj : α → D} {mk : A → Sls} {g : A → α → A} {st : Sto} : ∀ (xs : List α) (a : A), (∀ a x, x ∈ xs → f (inj x) (mk a) st = .nx (mk (g a x)) st) →
    forLoop f (xs.map inj) (mk a) st = .nx (mk (xs.foldl g a)) st
  | [], a, h => rfl
  | x :: xs, a, h => by
    simp only [List.map_cons, forLoop, h a x List.mem_cons_self, List.foldl_cons]
    exact for_fold xs (g a x) fun a y hy => h a y (List.mem_cons_of_mem _ hy)
def O.ends : O → Bool
  | .ret _ _ => true
  | .exc _ _ _ _ => true
  | _ => false
theorem for_find {α : Type} {f : D → Sls → Sto → O} {inj : α → D} {δ : Sls} {st : Sto} {p : α → Bool} {o : α → O} : ∀ (xs : List α), (∀ x ∈ xs, p x = false → f (inj x) δ st = .nx δ st) → (∀ x ∈ xs, p x = true → f (inj x) δ st = o x) → (∀ x ∈ xs, (o x).ends = true) →
    forLoop f (xs.map inj) δ st = onO (.nx δ st) (xs.find? p) o
  | [], _, _, _ => rfl
  | x :: xs, h1, h2, h3 => by
    cases hp : p x with
    | false =>
      simp only [List.map_cons, forLoop, h1 x List.mem_cons_self hp, List.find?_cons, hp]
      exact for_find xs (fun y hy => h1 y (List.mem_cons_of_mem _ hy)) (fun y hy => h2 y (List.mem_cons_of_mem _ hy)) (fun y hy => h3 y (List.mem_cons_of_mem _ hy))
    | true =>
      have e := h3 x List.mem_cons_self
      simp only [List.map_cons, forLoop, h2 x List.mem_cons_self hp, List.find?_cons, hp, onO_some]
      cases ho : o x <;> rw [ho] at e <;> first | rfl | cases e
theorem for_pre {α : Type} {f : D → Sls → Sto → O} {inj : α → D} {S : List α → Sls} {st : Sto} {xs : List α} (h : ∀ pre x post, xs = pre ++ x :: post → f (inj x) (S pre) st = .nx (S (pre ++ [x])) st) : forLoop f (xs.map inj) (S []) st = .nx (S xs) st := by
  have go : ∀ (post pre : List α), xs = pre ++ post → forLoop f (post.map inj) (S pre) st = .nx (S xs) st := by
    intro post
    induction post with
    | nil => intro pre e; rw [e, List.append_nil]; rfl
    | cons x post ih =>
      intro pre e
      simp only [List.map_cons, forLoop, h pre x post e]
      exact ih (pre ++ [x]) (by rw [e]; simp)
  exact go xs [] rfl
theorem for_preS {α : Type} {f : D → Sls → Sto → O} {inj : α → D} {S : List α → Sls} {Z : List α → Sto} {xs : List α} (h : ∀ pre x post, xs = pre ++ x :: post → f (inj x) (S pre) (Z pre) = .nx (S (pre ++ [x])) (Z (pre ++ [x]))) : forLoop f (xs.map inj) (S []) (Z []) = .nx (S xs) (Z xs) := by
  have go : ∀ (post pre : List α), xs = pre ++ post → forLoop f (post.map inj) (S pre) (Z pre) = .nx (S xs) (Z xs) := by
    intro post
    induction post with
    | nil => intro pre e; rw [e, List.append_nil]; rfl
    | cons x post ih =>
      intro pre e
      simp only [List.map_cons, forLoop, h pre x post e]
      exact ih (pre ++ [x]) (by rw [e]; simp)
  exact go xs [] rfl
theorem for_pre_end {α : Type} {f : D → Sls → Sto → O} {inj : α → D} {S : List α → Sls} {st : Sto} {pre0 post0 : List α} {x0 : α} {o : O} (ho : o.ends = true) (h : ∀ pre x post, pre0 = pre ++ x :: post → f (inj x) (S pre) st = .nx (S (pre ++ [x])) st)
    (hx : f (inj x0) (S pre0) st = o) : forLoop f ((pre0 ++ x0 :: post0).map inj) (S []) st = o := by
  have go : ∀ (post pre : List α), pre0 = pre ++ post → forLoop f ((post ++ x0 :: post0).map inj) (S pre) st = o := by
    intro post
    induction post with
    | nil =>
      intro pre e
      rw [List.append_nil] at e
      subst e
      simp only [List.nil_append, List.map_cons, forLoop, hx]
      cases o <;> first | rfl | cases ho
    | cons x post ih =>
      intro pre e
      simp only [List.cons_append, List.map_cons, forLoop, h pre x post e]
      exact ih (pre ++ [x]) (by rw [e]; simp)
  exact go pre0 [] rfl
theorem rng_map {n : Nat} : rng n = (List.range n).map fun k => D.int (k : Nat) := rfl
theorem for_all_ok {α : Type} {f : D → Sls → Sto → O} {inj : α → D} {δ : Sls} {st : Sto} : ∀ (xs : List α), (∀ x ∈ xs, f (inj x) δ st = .nx δ st) → forLoop f (xs.map inj) δ st = .nx δ st
  | [], _ => rfl
  | x :: xs, h => by
    simp only [List.map_cons, forLoop, h x List.mem_cons_self]
    exact for_all_ok xs fun y hy => h y (List.mem_cons_of_mem _ hy)
theorem for_rng_ok {f : D → Sls → Sto → O} {δ : Sls} {st : Sto} {n : Nat} (h : ∀ k < n, f (.int k) δ st = .nx δ st) : forLoop f (rng n) δ st = .nx δ st :=
  for_all_ok (inj := fun k : Nat => D.int k) (List.range n) fun k hk => h k (List.mem_range.mp hk)
theorem for_rng {f : D → Sls → Sto → O} {st : Sto} {mk : Nat → Sls} {n : Nat} (h : ∀ k < n, f (.int k) (mk k) st = .nx (mk (k + 1)) st) : forLoop f (rng n) (mk 0) st = .nx (mk n) st := by
  have go : ∀ (m k : Nat), k + m = n → forLoop f ((List.range' k m).map fun k => D.int (k : Nat)) (mk k) st = .nx (mk n) st := by
    intro m
    induction m with
    | zero => intro k hk; rw [show k = n by omega]; rfl
    | succ m ih =>
      intro k hk
      simp only [List.range'_succ, List.map_cons, forLoop, h k (by omega)]
      exact ih (k + 1) (by omega)
  have := go n 0 (by omega)
  rw [rng, List.range_eq_range']
  exact this
theorem comp_flt {α : Type} {f : D → Sto → R (Option D × Sto)} {inj : α → D} {g : α → D} {p : α → Bool} {st : Sto} : ∀ (xs : List α) (acc : List D), (∀ x ∈ xs, p x = true → f (inj x) st = .ok (some (g x), st)) → (∀ x ∈ xs, p x = false → f (inj x) st = .ok (none, st)) → xs.length + acc.length ≤ Lim →
    compLoop f (xs.map inj) acc st = .ok (acc ++ (xs.filter p).map g, st)
  | [], acc, h, h2, hl => by simp [compLoop]
  | x :: xs, acc, h, h2, hl => by
    simp only [List.length_cons] at hl
    cases hp : p x with
    | true =>
      simp only [List.map_cons, compLoop, h x List.mem_cons_self hp]
      rw [if_pos (by omega), comp_flt xs _ (fun y hy => h y (List.mem_cons_of_mem _ hy)) (fun y hy => h2 y (List.mem_cons_of_mem _ hy)) (by simp only [List.length_append, List.length_singleton]; omega)]
      simp [List.filter_cons, hp]
    | false =>
      simp only [List.map_cons, compLoop, h2 x List.mem_cons_self hp]
      rw [comp_flt xs _ (fun y hy => h y (List.mem_cons_of_mem _ hy)) (fun y hy => h2 y (List.mem_cons_of_mem _ hy)) (by omega)]
      simp [List.filter_cons, hp]
theorem comp_if {α : Type} {G : List Fn} {C : List Int} {δ : Sls} {st : Sto} {elt : E} {tg : Tg} {it : I} {cs : Es} {own : List Nat} {inj : α → D} {g : α → D} {p : α → Bool} {xs : List α} (hi : evalI G C it δ st = .ok ((xs.map inj, none), st)) (hl : xs.length ≤ Lim)
    (h : ∀ x ∈ xs, evalComp G C elt tg cs own δ (inj x) st = .ok (if p x then some (g x) else none, st)) : evalE G C (.comp elt tg it cs own) δ st = .ok (.lst ((xs.filter p).map g), st) := by
  rw [ev_comp, hi, bind_ok, gdC_none, comp_flt xs [] (p := p) (g := g) (fun x hx hp => by rw [h x hx, hp]; rfl) (fun x hx hp => by rw [h x hx, hp]; rfl) (by simpa using hl)]
  rfl
theorem comp_c {G : List Fn} {C : List Int} {δ : Sls} {st : Sto} {elt : E} {i : Nat} {cs : Es} {own : List Nat} {x : D} : evalComp G C elt (.n i) cs own δ x st = (evalTs G C cs ((wipeE δ own).set i (.val x)) st).bt (fun q => onBt q.1 ((evalE G C elt ((wipeE δ own).set i (.val x)) q.2).bt (fun u => .ok (some u.1, u.2)) ()) (.ok (none, q.2)) ()) () := by
  simp only [evalComp, Tg.bind]
  refine congrArg (R.bind _) (funext fun q => ?_)
  cases q.1 <;> rfl
end Qk

set_option linter.all false
set_option maxHeartbeats 4000000
set_option maxRecDepth 100000
namespace Qk
open PySem
def InB (ds bs : List Int) : Prop := ds.length = bs.length ∧ ∀ (i : Nat) d b, ds[i]? = some d → bs[i]? = some b → 0 ≤ d ∧ d < b
theorem InB.cons {d b : Int} {ds bs : List Int} (h : 0 ≤ d ∧ d < b) (t : InB ds bs) : InB (d :: ds) (b :: bs) := by
  refine ⟨by simp [t.1], fun i x y hx hy => ?_⟩
  cases i with
  | zero => cases hx; cases hy; exact h
  | succ i => exact t.2 i x y hx hy
abbrev Tb := List (List (Int × Int))
abbrev rowL (r : List (Int × Int)) : D := .lst (r.map prD)
abbrev tbL (t : Tb) : D := .lst (t.map rowL)
abbrev rowT (r : List (Int × Int)) : D := .tup (r.map prD)
abbrev tbT (t : Tb) : D := .tup (t.map rowT)
def PrOk (s : Nat) (p : Int × Int) : Prop := 0 ≤ p.1 ∧ p.1 < s ∧ 0 ≤ p.2 ∧ p.2 < 4
def RowOk (s o : Nat) (r : List (Int × Int)) : Prop := r.length = o ∧ ∀ p ∈ r, PrOk s p
def Good (s o : Nat) (t : Tb) : Prop := t.length = s ∧ ∀ r ∈ t, RowOk s o r
theorem rng_get {n i : Nat} {x : D} (h : (rng n)[i]? = some x) : x = .int i ∧ i < n := by
  unfold rng at h
  rw [List.getElem?_map] at h
  by_cases hi : i < n
  · rw [List.getElem?_range hi] at h
    cases h
    exact ⟨rfl, hi⟩
  · rw [List.getElem?_eq_none (by simpa using hi)] at h
    cases h
theorem rng_len {n : Nat} : (rng n).length = n := by simp [rng]
theorem ixn_nat {n i : Nat} (h : i < n) : ixn n (i : Int) = some i := by
  unfold ixn
  rw [if_pos (by omega), if_pos (by omega)]
  rfl
theorem ixn_of {n : Nat} {i : Int} {k : Nat} (e : i = k) (h : k < n) : ixn n i = some k := by rw [e, ixn_nat h]
theorem flat_ints (n : Nat) (a : List Int) : (List.replicate n (a.map D.int)).flatten = ((List.replicate n a).flatten).map .int := by
  induction n with
  | zero => rfl
  | succ n ih => rw [List.replicate_succ, List.flatten_cons, ih, List.replicate_succ, List.flatten_cons, List.map_append]
theorem flat2 {a b : Int} : ∀ (n k : Nat), k < n → ((List.replicate n [a, b]).flatten)[2 * k]? = some a ∧ ((List.replicate n [a, b]).flatten)[2 * k + 1]? = some b
  | 0, k, h => by omega
  | n + 1, 0, h => by simp [List.replicate_succ]
  | n + 1, k + 1, h => by
    obtain ⟨h1, h2⟩ := flat2 (a := a) (b := b) n k (by omega)
    rw [show 2 * (k + 1) = (2 * k) + 1 + 1 by omega]
    simp only [List.replicate_succ, List.flatten_cons, List.cons_append, List.nil_append, List.getElem?_cons_succ]
    exact ⟨h1, h2⟩
theorem flat1 {a : Int} : ∀ (n : Nat), (List.replicate n [a]).flatten = List.replicate n a
  | 0 => rfl
  | n + 1 => by simp [List.replicate_succ, flat1 n]
def bases (s o : Nat) : List Int := List.replicate o 6 ++ (List.replicate (s * o) [(s : Int), 4]).flatten
theorem bases_len (s o : Nat) : (bases s o).length = o + 2 * (s * o) := by
  unfold bases
  have : ∀ n : Nat, ((List.replicate n [(s : Int), 4]).flatten).length = 2 * n := by
    intro n
    induction n with
    | zero => rfl
    | succ n ih => simp only [List.replicate_succ, List.flatten_cons, List.length_append, ih, List.length_cons, List.length_nil]; omega
  rw [List.length_append, List.length_replicate, this]
theorem dig {s o : Nat} {ds : List Int} (h : InB ds (bases s o)) : ds.length = o + 2 * (s * o) ∧ (∀ i, i < o → ∃ d, ds[i]? = some d ∧ 0 ≤ d ∧ d < 6) ∧
    ∀ k, k < s * o → (∃ d, ds[o + 2 * k]? = some d ∧ 0 ≤ d ∧ d < s) ∧ ∃ d, ds[o + 2 * k + 1]? = some d ∧ 0 ≤ d ∧ d < 4 := by
  have hl := h.1.trans (bases_len s o)
  have get : ∀ (i : Nat) (b : Int), (bases s o)[i]? = some b → ∃ d, ds[i]? = some d ∧ 0 ≤ d ∧ d < b := fun i b e => by
    have hi : i < ds.length := by rw [h.1]; exact (List.getElem?_eq_some_iff.mp e).1
    exact ⟨ds[i], List.getElem?_eq_getElem hi, h.2 i _ _ (List.getElem?_eq_getElem hi) e⟩
  refine ⟨hl, fun i hi => get i 6 ?_, fun k hk => ⟨get _ _ ?_, get _ _ ?_⟩⟩
  · unfold bases
    rw [List.getElem?_append, List.length_replicate, if_pos hi, List.getElem?_replicate, if_pos hi]
  · unfold bases
    rw [List.getElem?_append, List.length_replicate, if_neg (by omega), show o + 2 * k - o = 2 * k by omega]
    exact (flat2 _ k hk).1
  · unfold bases
    rw [List.getElem?_append, List.length_replicate, if_neg (by omega), show o + 2 * k + 1 - o = 2 * k + 1 by omega]
    exact (flat2 _ k hk).2
theorem small6 {d : Int} (h1 : 0 ≤ d) (h2 : d < 6) : d = 0 ∨ d = 1 ∨ d = 2 ∨ d = 3 ∨ d = 4 ∨ d = 5 := by omega
theorem pick8 {a0 a1 a2 a3 a4 a5 a6 a7 : Int} {i : Int} (h0 : 0 ≤ i) (h1 : i < 8) (P : Int → Prop) (h : P a0 ∧ P a1 ∧ P a2 ∧ P a3 ∧ P a4 ∧ P a5 ∧ P a6 ∧ P a7) :
    ∃ x, ixD [.int a0, .int a1, .int a2, .int a3, .int a4, .int a5, .int a6, .int a7] i = some (.int x) ∧ P x := by
  obtain ⟨p0, p1, p2, p3, p4, p5, p6, p7⟩ := h
  have : i = 0 ∨ i = 1 ∨ i = 2 ∨ i = 3 ∨ i = 4 ∨ i = 5 ∨ i = 6 ∨ i = 7 := by omega
  rcases this with rfl | rfl | rfl | rfl | rfl | rfl | rfl | rfl
  · exact ⟨_, ixD_of (k := 0) rfl rfl, p0⟩
  · exact ⟨_, ixD_of (k := 1) rfl rfl, p1⟩
  · exact ⟨_, ixD_of (k := 2) rfl rfl, p2⟩
  · exact ⟨_, ixD_of (k := 3) rfl rfl, p3⟩
  · exact ⟨_, ixD_of (k := 4) rfl rfl, p4⟩
  · exact ⟨_, ixD_of (k := 5) rfl rfl, p5⟩
  · exact ⟨_, ixD_of (k := 6) rfl rfl, p6⟩
  · exact ⟨_, ixD_of (k := 7) rfl rfl, p7⟩
theorem len_le {s o : Nat} {t : Tb} (h : Good s o t) (hs : s ≤ 4) (ho : o ≤ 4) : t.length ≤ Lim ∧ ∀ r ∈ t, r.length ≤ Lim :=
  ⟨by rw [h.1]; unfold Lim; omega, fun r hr => by rw [(h.2 r hr).1]; unfold Lim; omega⟩
def mapT (f : Int × Int → Int × Int) (t : Tb) : Tb := t.map fun r => r.map f
theorem mapT_good {s o : Nat} {t : Tb} {f : Int × Int → Int × Int} (h : Good s o t) (hf : ∀ p, PrOk s p → PrOk s (f p)) : Good s o (mapT f t) := by
  refine ⟨by simp [mapT, h.1], fun r hr => ?_⟩
  obtain ⟨r0, h0, rfl⟩ := List.mem_map.mp hr
  refine ⟨by rw [List.length_map]; exact (h.2 r0 h0).1, fun p hp => ?_⟩
  obtain ⟨p0, q0, rfl⟩ := List.mem_map.mp hp
  exact hf p0 ((h.2 r0 h0).2 p0 q0)
def addNew (acc : List Int) (r : List (Int × Int)) : List Int := r.foldl (fun acc p => if p.1 ∈ acc then acc else acc ++ [p.1]) acc
structure Rch (s : Nat) (acc : List Int) : Prop where
  nd : acc.Nodup
  lt : ∀ x ∈ acc, 0 ≤ x ∧ x < s
theorem nodup_len : ∀ (s : Nat) (acc : List Int), Rch s acc → acc.length ≤ s
  | 0, [], _ => Nat.zero_le _
  | 0, x :: _, h => by have := h.lt x List.mem_cons_self; omega
  | s + 1, acc, h => by
    have h2 : Rch s (acc.filter fun x => x ≠ (s : Int)) := ⟨h.nd.filter _, fun x hx => by
      obtain ⟨h1, h3⟩ := List.mem_filter.mp hx
      have := h.lt x h1
      simp at h3
      omega⟩
    have ih := nodup_len s _ h2
    by_cases hm : (s : Int) ∈ acc
    · have : acc.length = (acc.filter fun x => x ≠ (s : Int)).length + 1 := by
        have := h.nd.erase_eq_filter (s : Int)
        have l := List.length_erase_of_mem hm
        rw [this] at l
        have : 0 < acc.length := List.length_pos_of_mem hm
        have e : (acc.filter fun x => x != (s : Int)).length = (acc.filter fun x => x ≠ (s : Int)).length := by
          congr 1
          apply List.filter_congr
          intro x _
          by_cases q : x = (s : Int) <;> simp [q]
        omega
      omega
    · have : acc.filter (fun x => x ≠ (s : Int)) = acc := List.filter_eq_self.mpr fun x hx => by simp; intro e; exact hm (e ▸ hx)
      rw [this] at ih
      omega
theorem addNew_ok {s o : Nat} : ∀ {r : List (Int × Int)} {acc : List Int}, (∀ p ∈ r, PrOk s p) → Rch s acc → Rch s (addNew acc r) ∧ acc.length ≤ (addNew acc r).length
  | [], acc, _, h => ⟨h, Nat.le_refl _⟩
  | p :: r, acc, hp, h => by
    unfold addNew
    rw [List.foldl_cons]
    by_cases c : p.1 ∈ acc
    · rw [if_pos c]
      exact addNew_ok (o := o) (fun q hq => hp q (List.mem_cons_of_mem _ hq)) h
    · rw [if_neg c]
      have h2 : Rch s (acc ++ [p.1]) := ⟨by
        rw [List.nodup_append]
        refine ⟨h.nd, by simp, fun x hx y hy => ?_⟩
        rw [List.mem_singleton.mp hy]
        intro e
        exact c (e ▸ hx), fun x hx => by
        rcases List.mem_append.mp hx with q | q
        · exact h.lt x q
        · rw [List.mem_singleton.mp q]
          obtain ⟨a, b, _⟩ := hp p List.mem_cons_self
          exact ⟨a, b⟩⟩
      obtain ⟨q1, q2⟩ := addNew_ok (o := o) (fun q hq => hp q (List.mem_cons_of_mem _ hq)) h2
      refine ⟨q1, ?_⟩
      rw [List.length_append] at q2
      exact Nat.le_trans (Nat.le_add_right _ _) q2
def turn (t : Tb) (k : Nat) (acc : List Int) : List Int := match acc[k]? with | some x => addNew acc (t.getD x.toNat []) | none => acc
theorem turn_ok {s o : Nat} {t : Tb} (h : Good s o t) {acc : List Int} (ha : Rch s acc) (k : Nat) : Rch s (turn t k acc) ∧ acc.length ≤ (turn t k acc).length := by
  unfold turn
  cases e : acc[k]? with
  | none => exact ⟨ha, Nat.le_refl _⟩
  | some x =>
    have hx := ha.lt x (List.mem_of_getElem? e)
    have hl : x.toNat < t.length := by rw [h.1]; omega
    refine addNew_ok (o := o) (fun p hp => ?_) ha
    rw [List.getD_eq_getElem?_getD, List.getElem?_eq_getElem hl] at hp
    exact (h.2 _ (List.getElem_mem hl)).2 p hp
def turns (t : Tb) : Nat → Nat → List Int → List Int
  | 0, _, acc => acc
  | n + 1, k, acc => turns t n (k + 1) (turn t k acc)
def reachS (t : Tb) : List Int := turns t t.length 0 [0]
theorem turns_ok {s o : Nat} {t : Tb} (h : Good s o t) : ∀ (n k : Nat) (acc : List Int), Rch s acc → Rch s (turns t n k acc) ∧ acc.length ≤ (turns t n k acc).length
  | 0, _, acc, ha => ⟨ha, Nat.le_refl _⟩
  | n + 1, k, acc, ha => by
    obtain ⟨h1, h2⟩ := turn_ok h ha k
    obtain ⟨h3, h4⟩ := turns_ok h n (k + 1) _ h1
    exact ⟨h3, Nat.le_trans h2 h4⟩
theorem turns_end {t : Tb} : ∀ (n k : Nat) (acc : List Int), acc.length ≤ k → turns t n k acc = acc
  | 0, _, _, _ => rfl
  | n + 1, k, acc, h => by
    have e : turn t k acc = acc := by
      unfold turn
      rw [List.getElem?_eq_none h]
    show turns t n (k + 1) (turn t k acc) = acc
    rw [e]
    exact turns_end n (k + 1) acc (by omega)
theorem turns_snoc {t : Tb} : ∀ (n k : Nat) (acc : List Int), turns t (n + 1) k acc = turn t (k + n) (turns t n k acc)
  | 0, _, _ => rfl
  | n + 1, k, acc => by
    show turns t (n + 1) (k + 1) (turn t k acc) = turn t (k + (n + 1)) (turns t n (k + 1) (turn t k acc))
    rw [turns_snoc n (k + 1), show k + 1 + n = k + (n + 1) by omega]
theorem rch0 {s : Nat} (hs1 : 1 ≤ s) : Rch s [0] := ⟨by simp, fun x hx => by rw [List.mem_singleton.mp hx]; omega⟩
theorem row_at {s o : Nat} {t : Tb} (h : Good s o t) {x : Int} (hx : 0 ≤ x ∧ x < s) : ∃ r, t[x.toNat]? = some r ∧ t.getD x.toNat [] = r ∧ RowOk s o r := by
  have hl : x.toNat < t.length := by rw [h.1]; omega
  refine ⟨t[x.toNat], List.getElem?_eq_getElem hl, ?_, h.2 _ (List.getElem_mem hl)⟩
  rw [List.getD_eq_getElem?_getD, List.getElem?_eq_getElem hl]
  rfl
theorem reach_ok {s o : Nat} {t : Tb} (h : Good s o t) (hs1 : 1 ≤ s) : Rch s (reachS t) := (turns_ok h _ _ _ (rch0 hs1)).1
def at_ (t : Tb) (x : Int) (op : Nat) : Int × Int := (t.getD x.toNat []).getD op (0, 0)
theorem at_ok {s o : Nat} {t : Tb} (h : Good s o t) {x : Int} (hx : 0 ≤ x ∧ x < s) {op : Nat} (ho : op < o) : ∃ r, t[x.toNat]? = some r ∧ r[op]? = some (at_ t x op) ∧ RowOk s o r ∧ PrOk s (at_ t x op) := by
  obtain ⟨r, h1, h2, h3⟩ := row_at h hx
  have hl : op < r.length := by rw [h3.1]; exact ho
  have e : r[op]? = some (at_ t x op) := by
    unfold at_
    rw [h2, List.getD_eq_getElem?_getD, List.getElem?_eq_getElem hl]
    rfl
  exact ⟨r, h1, e, h3, h3.2 _ (List.mem_of_getElem? e)⟩
def ansS (t : Tb) (op : Nat) : List Int := (reachS t).map fun x => (at_ t x op).2
def kindsAt (ans : List Int) (op : Nat) (n : Nat) : List (Int × Int) := ((List.range n).filter fun (a : Nat) => decide ((a : Int) ∈ ans)).map fun (a : Nat) => ((op : Int), (a : Int))
def kindsTo (t : Tb) (n : Nat) : List (Int × Int) := (List.range n).flatMap fun op => kindsAt (ansS t op) op 4
def opsS (t : Tb) : Nat := (t.headD []).length
def kindsS (t : Tb) : List (Int × Int) := kindsTo t (opsS t)
theorem ops_good {s o : Nat} {t : Tb} (h : Good s o t) (hs1 : 1 ≤ s) : opsS t = o ∧ ∃ r t', t = r :: t' ∧ RowOk s o r := by
  cases t with
  | nil => have := h.1; simp at this; omega
  | cons r t' => exact ⟨(h.2 r List.mem_cons_self).1, r, t', rfl, h.2 r List.mem_cons_self⟩
theorem kindsAt_len (ans : List Int) (op n : Nat) : (kindsAt ans op n).length ≤ n := by
  unfold kindsAt
  rw [List.length_map]
  exact Nat.le_trans (List.length_filter_le _ _) (by simp)
theorem kindsAt_succ (ans : List Int) (op n : Nat) : kindsAt ans op (n + 1) = kindsAt ans op n ++ if (n : Int) ∈ ans then [((op : Int), (n : Int))] else [] := by
  unfold kindsAt
  rw [List.range_succ, List.filter_append, List.map_append]
  by_cases c : (n : Int) ∈ ans <;> simp [c]
theorem kindsTo_succ (t : Tb) (n : Nat) : kindsTo t (n + 1) = kindsTo t n ++ kindsAt (ansS t n) n 4 := by
  unfold kindsTo
  rw [List.range_succ, List.flatMap_append]
  simp
theorem kindsTo_len (t : Tb) : ∀ n, (kindsTo t n).length ≤ 4 * n
  | 0 => by simp [kindsTo]
  | n + 1 => by
    rw [kindsTo_succ, List.length_append]
    have := kindsTo_len t n
    have := kindsAt_len (ansS t n) n 4
    omega
theorem kindsAt_span {ans : List Int} {op m : Nat} (h : ∀ a ∈ ans, a < (m : Int)) : ∀ n, (kindsAt ans op n).length ≤ m
  | 0 => by simp [kindsAt]
  | n + 1 => by
    rw [kindsAt_succ, List.length_append]
    by_cases c : (n : Int) ∈ ans
    · have := h _ c
      have := kindsAt_len ans op n
      rw [if_pos c]
      simp
      omega
    · rw [if_neg c]
      have := kindsAt_span (op := op) h n
      simpa using this
theorem kindsTo_span {s o m : Nat} {t : Tb} (h : Good s o t) (hs1 : 1 ≤ s) (ha : ∀ r ∈ t, ∀ p ∈ r, p.2 < (m : Int)) : ∀ n, n ≤ o → (kindsTo t n).length ≤ m * n
  | 0, _ => by simp [kindsTo]
  | n + 1, hn => by
    rw [kindsTo_succ, List.length_append]
    have := kindsTo_span h hs1 ha n (by omega)
    have := kindsAt_span (ans := ansS t n) (op := n) (m := m) (fun a h2 => by
      obtain ⟨x, hx, rfl⟩ := List.mem_map.mp h2
      obtain ⟨r, h3, h4, _, _⟩ := at_ok h ((reach_ok h hs1).lt x hx) (op := n) (by omega)
      exact ha r (List.mem_of_getElem? h3) _ (List.mem_of_getElem? h4)) 4
    rw [Nat.mul_succ]
    omega
structure SqE (e : List D → D) : Prop where
  so : ∀ (st : Sto) ds, seqOf st (.d (e ds)) = some ds
  ds : ∀ (st : Sto) ds, dS st (e ds) = some (ds, none)
theorem sq_lst : SqE D.lst := ⟨fun _ _ => rfl, fun _ _ => rfl⟩
theorem sq_tup : SqE D.tup := ⟨fun _ _ => rfl, fun _ _ => rfl⟩
abbrev prE (e3 : List D → D) (p : Int × Int) : D := e3 [.int p.1, .int p.2]
abbrev rowE (e2 e3 : List D → D) (r : List (Int × Int)) : D := e2 (r.map (prE e3))
abbrev tbE (e1 e2 e3 : List D → D) (t : Tb) : D := e1 (t.map (rowE e2 e3))
end Qk

set_option linter.all false
set_option maxHeartbeats 4000000
set_option maxRecDepth 100000
namespace Qk
open PySem
noncomputable section
@[simp] theorem gdC2_none {f : D → List D → Sto → R (List D × Sto)} : gdC2 none f = f := nr rfl
theorem comp2_flt {α β : Type} {f : D → List D → Sto → R (List D × Sto)} {inj : α → D} {ys : α → List D} {st : Sto} : ∀ (xs : List α) (acc : List D), (∀ x ∈ xs, ∀ acc : List D, acc.length + (ys x).length ≤ Lim → f (inj x) acc st = .ok (acc ++ ys x, st)) → (xs.map fun x => (ys x).length).sum + acc.length ≤ Lim →
    compLoop2 f (xs.map inj) acc st = .ok (acc ++ xs.flatMap ys, st)
  | [], acc, h, hl => by simp [compLoop2]
  | x :: xs, acc, h, hl => by
    simp only [List.map_cons, List.sum_cons] at hl
    simp only [List.map_cons, compLoop2, h x List.mem_cons_self acc (by omega)]
    rw [comp2_flt (β := β) xs _ (fun y hy => h y (List.mem_cons_of_mem _ hy)) (by simp only [List.length_append]; omega)]
    simp [List.flatMap_cons]
theorem comp2_if {α β : Type} {G : List Fn} {C : List Int} {δ : Sls} {st : Sto} {elt : E} {tg tg2 : Tg} {it it2 : I} {cs cs2 : Es} {own own2 : List Nat} {inj : α → D} {inj2 : β → D} {g : α → β → D} {p : α → Bool} {q : α → β → Bool} {xs : List α} {ys : α → List β} {δ' : α → Sls}
    (hi : evalI G C it δ st = .ok ((xs.map inj, none), st)) (hl : (xs.map fun x => (ys x).length).sum ≤ Lim)
    (hb : ∀ x ∈ xs, tg.bind (inj x) (wipeE δ own) = some (δ' x)) (ht : ∀ x ∈ xs, evalTs G C cs (δ' x) st = .ok (p x, st)) (hi2 : ∀ x ∈ xs, p x = true → evalI G C it2 (δ' x) st = .ok (((ys x).map inj2, none), st))
    (h : ∀ x ∈ xs, p x = true → ∀ y ∈ ys x, evalComp G C elt tg2 cs2 own2 (δ' x) (inj2 y) st = .ok (if q x y then some (g x y) else none, st)) :
    evalE G C (.comp2 elt tg it cs tg2 it2 cs2 own own2) δ st = .ok (.lst (xs.flatMap fun x => if p x then ((ys x).filter (q x)).map (g x) else []), st) := by
  have h1 : ∀ x ∈ xs, ∀ acc : List D, acc.length + (if p x then ((ys x).filter (q x)).map (g x) else []).length ≤ Lim → evalComp2 G C elt tg cs tg2 it2 cs2 own own2 δ (inj x) acc st = .ok (acc ++ (if p x then ((ys x).filter (q x)).map (g x) else []), st) := by
    intro x hx acc ha
    simp only [evalComp2, hb x hx, ht x hx, bind_ok]
    cases hp : p x with
    | false => simp
    | true =>
      simp only [hp, if_true, List.length_map] at ha ⊢
      rw [hi2 x hx hp, bind_ok, gdC_none]
      have : ∀ (ys' : List β) (acc : List D), (∀ y ∈ ys', evalComp G C elt tg2 cs2 own2 (δ' x) (inj2 y) st = .ok (if q x y then some (g x y) else none, st)) → acc.length + (ys'.filter (q x)).length ≤ Lim →
          compLoop (evalComp G C elt tg2 cs2 own2 (δ' x)) (ys'.map inj2) acc st = .ok (acc ++ (ys'.filter (q x)).map (g x), st) := by
        intro ys'
        induction ys' with
        | nil => intro acc _ _; simp [compLoop]
        | cons y ys' ih =>
          intro acc h' hl'
          have hy := h' y List.mem_cons_self
          cases hq : q x y with
          | false =>
            rw [hq] at hy
            simp only [List.filter_cons, hq, if_false, Bool.false_eq_true] at hl' ⊢
            simp only [List.map_cons, compLoop, hy, if_false, Bool.false_eq_true]
            exact ih acc (fun z hz => h' z (List.mem_cons_of_mem _ hz)) hl'
          | true =>
            rw [hq] at hy
            simp only [List.filter_cons, hq, if_true, List.length_cons] at hl' ⊢
            simp only [List.map_cons, compLoop, hy, if_true]
            rw [if_pos (by omega), ih _ (fun z hz => h' z (List.mem_cons_of_mem _ hz)) (by simp only [List.length_append, List.length_singleton]; omega)]
            simp
      exact this (ys x) acc (h x hx hp) ha
  have h2 : (xs.map fun x => (if p x then ((ys x).filter (q x)).map (g x) else []).length).sum + ([] : List D).length ≤ Lim := by
    have : ∀ xs : List α, (xs.map fun x => (if p x then ((ys x).filter (q x)).map (g x) else []).length).sum ≤ (xs.map fun x => (ys x).length).sum := by
        intro xs
        induction xs with
        | nil => simp
        | cons x xs ih =>
          simp only [List.map_cons, List.sum_cons]
          have h1 : (if p x then ((ys x).filter (q x)).map (g x) else []).length ≤ (ys x).length := by
            cases p x with
            | false => simp
            | true => simp only [if_true, List.length_map]; exact List.length_filter_le _ _
          omega
    have := this xs
    simp only [List.length_nil]
    omega
  rw [ev_comp2, hi, bind_ok, gdC2_none, comp2_flt (β := β) xs [] h1 h2]
  rfl
@[simp] theorem blsOf_map {α : Type} {f : α → Bool} : ∀ xs : List α, blsOf (xs.map fun x => D.bl (f x)) = some (xs.map f)
  | [] => rfl
  | x :: xs => by simp only [List.map_cons, blsOf, blsOf_map xs]
def lstAt (st : Sto) (l : Nat) : Option (List D) := match st[l]? with | some (.lst ds) => some ds | _ => none
theorem at_last {st : Sto} {m : M} : (st ++ [m])[st.length]? = some m := by
  rw [List.getElem?_append_right (Nat.le_refl _), Nat.sub_self]; rfl
@[simp] theorem lstAt_last {st : Sto} {ds : List D} : lstAt (st ++ [.lst ds]) st.length = some ds := by simp only [lstAt, at_last]
@[simp] theorem set_last {st : Sto} {m m' : M} : (st ++ [m]).set st.length m' = st ++ [m'] := by
  rw [List.set_append_right _ _ (Nat.le_refl _), Nat.sub_self]; rfl
theorem appLoc_eq {G : List Fn} {C : List Int} {i l : Nat} {e : E} {δ : Sls} {st : Sto} (h : δ[i]? = some (.val (.loc l))) : appLoc G C i e δ st = onOt .stuck (lstAt st l) (fun _ => (evalE G C e δ st).tt δ (fun r => onOt .stuck (lstAt r.2 l) (fun ds => if ds.length < Lim then .nx δ (r.2.set l (.lst (ds ++ [r.1]))) else .stuck) ()) ()) () := by
  have e1 : appLoc G C i e δ st = onO .stuck (lstAt st l) (fun _ => (evalE G C e δ st).toO δ (fun r => onO .stuck (lstAt r.2 l) (fun ds => if ds.length < Lim then .nx δ (r.2.set l (.lst (ds ++ [r.1]))) else .stuck))) := by
    unfold appLoc
    simp only [exec, h, lstAt]
    cases st[l]? with
    | none => rfl
    | some m =>
      cases m with
      | lst ds =>
        simp only [onO_some]
        refine congrArg _ (funext fun r => ?_)
        cases r.2[l]? with
        | none => rfl
        | some m => cases m <;> rfl
      | dct _ _ => rfl
      | ins _ _ => rfl
  exact e1
@[simp] theorem slL_0v {d : D} {δ : Sls} : slL (.val d :: δ) 0 = none := nr rfl
theorem so_loc {st : Sto} {l : Nat} {ds : List D} (h : lstAt st l = some ds) : seqOf st (.d (.loc l)) = some ds := by
  unfold lstAt at h
  unfold seqOf
  cases e : st[l]? with
  | none => rw [e] at h; cases h
  | some m => rw [e] at h; cases m <;> first | (cases h; simp only [e]; done) | cases h
theorem kd_loc {st : Sto} {l : Nat} {ds : List D} {cs : List Cl} (h : lstAt st l = some ds) : kindP cs st (.d (.loc l)) = some .list := by
  unfold lstAt at h
  unfold kindP
  cases e : st[l]? with
  | none => rw [e] at h; cases h
  | some m => rw [e] at h; cases m <;> first | (cases h; simp only [e]; done) | cases h
def O.turn (o : O) (k : Sls → Sto → O) (_ : Tag k) : O := match o with | .nx δ st => k δ st | .cnt δ st => k δ st | .brk δ st => .nx δ st | o => o
section
variable {δ : Sls} {st : Sto} {k : Sls → Sto → O} {t : Tag k}
@[simp] theorem turn_nx : (O.nx δ st).turn k t = k δ st := nr rfl
@[simp] theorem turn_cnt : (O.cnt δ st).turn k t = k δ st := nr rfl
@[simp] theorem turn_brk : (O.brk δ st).turn k t = .nx δ st := nr rfl
@[simp] theorem turn_ret {d : D} : (O.ret d st).turn k t = .ret d st := nr rfl
@[simp] theorem turn_exc {c : Cl} {ds : List D} : (O.exc c ds δ st).turn k t = .exc c ds δ st := nr rfl
end
theorem for_turn {f : D → Sls → Sto → O} {x : D} {xs : List D} {δ : Sls} {st : Sto} : forLoop f (x :: xs) δ st = (f x δ st).turn (fun δ st => forLoop f xs δ st) () := by
  simp only [forLoop, O.turn] <;> (cases f x δ st <;> rfl)
theorem for_nil {f : D → Sls → Sto → O} {δ : Sls} {st : Sto} : forLoop f [] δ st = .nx δ st := rfl
theorem rng_1 : rng 1 = [.int 0] := rfl
theorem rng_2 : rng 2 = [.int 0, .int 1] := rfl
theorem rng_3 : rng 3 = [.int 0, .int 1, .int 2] := rfl
theorem rng_4 : rng 4 = [.int 0, .int 1, .int 2, .int 3] := rfl
theorem rng_5 : rng 5 = [.int 0, .int 1, .int 2, .int 3, .int 4] := rfl
theorem rng_8 : rng 8 = [.int 0, .int 1, .int 2, .int 3, .int 4, .int 5, .int 6, .int 7] := rfl
end
theorem limN : Lim = 1000000 := rfl
@[simp] theorem eq_bl {st : Sto} {a b : Bool} : cmpP .eq st (.d (.bl a)) (.d (.bl b)) = some (decide (a = b)) := (fm_bl.mono (by omega)).eq (x := a) (y := b) rfl rfl
@[simp] theorem ne_bl {st : Sto} {a b : Bool} : cmpP .ne st (.d (.bl a)) (.d (.bl b)) = some (!decide (a = b)) := (fm_bl.mono (by omega)).ne (x := a) (y := b) rfl rfl
abbrev Pr := Int × Int
def pairN (k : Nat) : Pr := ((k / 8 : Nat), (k % 8 : Nat))
def allP : List Pr := (List.range 32).map pairN
theorem mem_allP {p : Pr} : p ∈ allP ↔ 0 ≤ p.1 ∧ p.1 < 4 ∧ 0 ≤ p.2 ∧ p.2 < 8 := by
  unfold allP
  rw [List.mem_map]
  constructor
  · rintro ⟨k, hk, rfl⟩
    have := List.mem_range.mp hk
    simp only [pairN]
    omega
  · rintro ⟨h1, h2, h3, h4⟩
    refine ⟨(p.1 * 8 + p.2).toNat, List.mem_range.mpr (by omega), ?_⟩
    obtain ⟨a, b⟩ := p
    simp only [pairN, Prod.mk.injEq] at *
    omega
theorem allP_two : ((List.range 4).flatMap fun a => (List.range 8).map fun b => prD ((a : Nat), (b : Nat))) = allP.map prD := by
  unfold allP
  rw [List.map_map]
  rfl
def norm (xs : List Pr) : List Pr := allP.filter fun p => decide (p ∈ xs)
def InR (xs : List Pr) : Prop := ∀ p ∈ xs, p ∈ allP
theorem mem_norm {xs : List Pr} (h : InR xs) {p : Pr} : p ∈ norm xs ↔ p ∈ xs := by
  unfold norm
  rw [List.mem_filter, decide_eq_true_eq]
  exact ⟨fun q => q.2, fun q => ⟨h p q, q⟩⟩
theorem norm_le {xs : List Pr} : (norm xs).length ≤ 32 := Nat.le_trans (List.length_filter_le _ _) (by decide)
theorem norm_congr {xs ys : List Pr} (h : ∀ p ∈ allP, (p ∈ xs ↔ p ∈ ys)) : norm xs = norm ys := by
  unfold norm
  exact List.filter_congr fun p hp => by simp only [h p hp]
theorem norm_eq {xs ys : List Pr} (hx : InR xs) (hy : InR ys) : norm xs = norm ys ↔ ((∀ p ∈ xs, p ∈ ys) ∧ ∀ p ∈ ys, p ∈ xs) := by
  constructor
  · intro h
    exact ⟨fun p hp => (mem_norm hy).mp (h ▸ (mem_norm hx).mpr hp), fun p hp => (mem_norm hx).mp (h ▸ (mem_norm hy).mpr hp)⟩
  · intro h
    exact norm_congr fun p _ => ⟨h.1 p, h.2 p⟩
theorem norm_norm {xs : List Pr} (h : InR xs) : norm (norm xs) = norm xs := norm_congr fun p _ => mem_norm h
theorem inR_norm {xs : List Pr} : InR (norm xs) := fun p hp => (List.mem_filter.mp hp).1
theorem inR_nil : InR [] := fun p hp => by cases hp
theorem InR.append {xs ys : List Pr} (hx : InR xs) (hy : InR ys) : InR (xs ++ ys) := fun p hp => (List.mem_append.mp hp).elim (hx p) (hy p)
theorem InR.filter {xs : List Pr} {q : Pr → Bool} (hx : InR xs) : InR (xs.filter q) := fun p hp => hx p (List.mem_filter.mp hp).1
theorem InR.sub {xs ys : List Pr} (hx : InR xs) (h : ∀ p ∈ ys, p ∈ xs) : InR ys := fun p hp => hx p (h p hp)
theorem norm_flt {q : Pr → Bool} : norm (allP.filter q) = allP.filter q := by
  unfold norm
  exact List.filter_congr fun p hp => by
    cases e : q p with
    | true => exact decide_eq_true (List.mem_filter.mpr ⟨hp, e⟩)
    | false => exact decide_eq_false fun h => by rw [(List.mem_filter.mp h).2] at e; cases e
abbrev relD (xs : List Pr) : D := .obj .Relation [.tup ((norm xs).map prD)]
end Qk

set_option linter.all false
set_option maxHeartbeats 4000000
set_option maxRecDepth 100000
namespace Qk
open PySem
noncomputable section
section
variable {G : List Fn} {C : List Int} {δ : Sls} {st : Sto}
def rL (ds : List D) : R (D × Sto) → R (D × Sto) | .ok (.int n, st') => if 0 ≤ n ∧ n ≤ 1000000 then .ok (.lst ds, st') else .stuck | _ => .stuck
@[simp] theorem rL_ok {ds : List D} {n : Int} {st : Sto} : rL ds (.ok (.int n, st)) = if 0 ≤ n ∧ n ≤ 1000000 then .ok (.lst ds, st) else .stuck := nr rfl
theorem ev_lstO_0 {f k : Nat} {c : Cl} {a : E} : evalE G C (.lstO f c k a) δ st = (evalE G C a δ st).bind fun r => onO .stuck (insOf r.2 c (.d r.1)) fun fs => onO .stuck (nth fs k) fun d => onO .stuck (dTp d) fun ds => onO .stuck (nth G f) fun F => rL ds (F [r.1] r.2) := by
  simp only [evalE]
  refine congrArg _ (funext fun r => ?_)
  cases insOf r.2 c (.d r.1) with
  | none => rfl
  | some fs =>
    simp only [onO_some]
    show _ = onO R.stuck (fs[k]?) _
    cases fs[k]? with
    | none => rfl
    | some d =>
      cases d <;> first | rfl | skip
      simp only [onO_some]
      show _ = onO R.stuck (G[f]?) _
      cases G[f]? with
      | none => rfl
      | some F =>
        simp only [onO_some, rL] <;> rfl
@[simp] theorem ev_lstO {f k : Nat} {c : Cl} {a : E} : evalE G C (.lstO f c k a) δ st = (evalE G C a δ st).bt (fun r => onOt .stuck (insOf r.2 c (.d r.1)) (fun fs => onOt .stuck (nth fs k) (fun d => onOt .stuck (dTp d) (fun ds => onOt .stuck (nth G f) (fun F => rL ds (F [r.1] r.2)) ()) ()) ()) ()) () := ev_lstO_0
theorem ep_lstO_0 {f k : Nat} {c : Cl} {a : E} : evalP G C (.lstO f c k a) δ st = (evalE G C (.lstO f c k a) δ st).bind fun r => .ok (.d r.1, r.2) := by simp only [evalP] <;> rfl
@[simp] theorem ep_lstO {f k : Nat} {c : Cl} {a : E} : evalP G C (.lstO f c k a) δ st = (evalE G C (.lstO f c k a) δ st).bt (fun r => .ok (.d r.1, r.2)) () := ep_lstO_0
theorem ev_tupK_0 {a : E} : evalE G C (.tupK a) δ st = (evalP G C a δ st).bind fun r => onO .stuck (lstOf r.2 r.1) fun ds => .ok (.ktup ds, r.2) := by
  simp only [evalE]
  refine congrArg _ (funext fun r => ?_)
  cases lstOf r.2 r.1 <;> rfl
@[simp] theorem ev_tupK {a : E} : evalE G C (.tupK a) δ st = (evalP G C a δ st).bt (fun r => onOt .stuck (lstOf r.2 r.1) (fun ds => .ok (.ktup ds, r.2)) ()) () := ev_tupK_0
theorem ep_tupK_0 {a : E} : evalP G C (.tupK a) δ st = (evalE G C (.tupK a) δ st).bind fun r => .ok (.d r.1, r.2) := by simp only [evalP] <;> rfl
@[simp] theorem ep_tupK {a : E} : evalP G C (.tupK a) δ st = (evalE G C (.tupK a) δ st).bt (fun r => .ok (.d r.1, r.2)) () := ep_tupK_0
theorem ev_addP_0 {a b : E} : evalE G C (.addP a b) δ st = (evalE G C a δ st).bind fun r => (evalE G C b δ r.2).bind fun q => onO .stuck (datL q.2 r.1) fun xs => onO .stuck (datL q.2 q.1) fun ys => if xs.length + ys.length ≤ Lim then .ok (.lst (xs ++ ys), q.2) else .stuck := by
  simp only [evalE]
  refine congrArg _ (funext fun r => congrArg _ (funext fun q => ?_))
  cases datL q.2 r.1 with
  | none => rfl
  | some xs => cases datL q.2 q.1 <;> rfl
@[simp] theorem ev_addP {a b : E} : evalE G C (.addP a b) δ st = (evalE G C a δ st).bt (fun r => (evalE G C b δ r.2).bt (fun q => onOt .stuck (datL q.2 r.1) (fun xs => onOt .stuck (datL q.2 q.1) (fun ys => if xs.length + ys.length ≤ Lim then .ok (.lst (xs ++ ys), q.2) else .stuck) ()) ()) ()) () := ev_addP_0
theorem ep_addP_0 {a b : E} : evalP G C (.addP a b) δ st = (evalE G C (.addP a b) δ st).bind fun r => .ok (.d r.1, r.2) := by simp only [evalP] <;> rfl
@[simp] theorem ep_addP {a b : E} : evalP G C (.addP a b) δ st = (evalE G C (.addP a b) δ st).bt (fun r => .ok (.d r.1, r.2)) () := ep_addP_0
@[simp] theorem dl_lst {st : Sto} {ds : List D} : datL st (.lst ds) = some ds := nr rfl
theorem dl_loc {st : Sto} {l : Nat} : datL st (.loc l) = lstAt st l := rfl
@[simp] theorem is_nil : intsOf [] = some [] := nr rfl
@[simp] theorem is_cons {i : Int} {ds : List D} : intsOf (.int i :: ds) = (intsOf ds).map (i :: ·) := by
  simp only [intsOf]
  cases intsOf ds <;> rfl
@[simp] theorem is_map {ns : List Int} : intsOf (ns.map .int) = some ns := by
  induction ns with
  | nil => rfl
  | cons n ns ih => simp only [List.map_cons, is_cons, ih, Option.map_some]
@[simp] theorem key_i {n : Int} : keyOf (.int n) = some (.i n) := nr rfl
theorem key_t_0 {ds : List D} : keyOf (.tup ds) = (intsOf ds).map .t := by
  simp only [keyOf]
  cases intsOf ds <;> rfl
@[simp] theorem key_t {ds : List D} : keyOf (.tup ds) = (intsOf ds).map .t := key_t_0
@[simp] theorem isT_i {n : Int} : (Ky.i n).isT = false := nr rfl
@[simp] theorem isT_t {ns : List Int} : (Ky.t ns).isT = true := nr rfl
theorem dinV_eq {k : D} {p : Pl} : dinV st k p = onO none (keyOf k) fun key => onO none (dctOf st key p) fun kvs => some (lookK key kvs).isSome := by
  unfold dinV
  cases keyOf k with
  | none => rfl
  | some key =>
    simp only [onO_some]
    cases dctOf st key p <;> rfl
theorem dgetV_eq {k : D} {p : Pl} : dgetV st k p = onO none (keyOf k) fun key => onO none (dctOf st key p) fun kvs => lookK key kvs := by
  unfold dgetV
  cases keyOf k with
  | none => rfl
  | some key =>
    simp only [onO_some]
    cases dctOf st key p <;> rfl
abbrev dctD (t : Bool) (kvs : List (Ky × D)) : D := .dct t (kvs.map (·.1)) (kvs.map (·.2))
theorem zip_fs {α β : Type} : ∀ l : List (α × β), (l.map (·.1)).zip (l.map (·.2)) = l
  | [] => rfl
  | _ :: l => by simp [zip_fs l]
@[simp] theorem do_own {k : Ky} {t : Bool} {kvs : List (Ky × D)} : dctOf st k (.own (.dct t kvs)) = if t = k.isT then some kvs else none := nr rfl
@[simp] theorem do_dct {k : Ky} {t : Bool} {kvs : List (Ky × D)} : dctOf st k (.d (.dct t (kvs.map (·.1)) (kvs.map (·.2)))) = if t = k.isT then some kvs else none := by
  show (if t = k.isT then some ((kvs.map (·.1)).zip (kvs.map (·.2))) else none) = _
  rw [zip_fs]
@[simp] theorem din_i {n : Int} {p : Pl} : dinV st (.int n) p = onO none (dctOf st (.i n) p) fun kvs => some (lookK (.i n) kvs).isSome := dinV_eq
@[simp] theorem dget_i {n : Int} {p : Pl} : dgetV st (.int n) p = onO none (dctOf st (.i n) p) fun kvs => lookK (.i n) kvs := dgetV_eq
@[simp] theorem din_t {ds : List D} {p : Pl} : dinV st (.tup ds) p = onO none (intsOf ds) fun ns => onO none (dctOf st (.t ns) p) fun kvs => some (lookK (.t ns) kvs).isSome := by
  rw [dinV_eq, key_t]
  cases intsOf ds <;> rfl
@[simp] theorem dget_t {ds : List D} {p : Pl} : dgetV st (.tup ds) p = onO none (intsOf ds) fun ns => onO none (dctOf st (.t ns) p) fun kvs => lookK (.t ns) kvs := by
  rw [dgetV_eq, key_t]
  cases intsOf ds <;> rfl
theorem look_put {k j : Ky} {d : D} {kvs : List (Ky × D)} : lookK j (putK k d kvs) = if j = k then some d else lookK j kvs := by
  have app : ∀ kvs : List (Ky × D), lookK k kvs = none → lookK j (kvs ++ [(k, d)]) = if j = k then some d else lookK j kvs := by
    intro kvs
    induction kvs with
    | nil =>
      intro _
      by_cases c : j = k
      · subst c; simp [lookK]
      · have c2 : ¬ k = j := fun z => c z.symm
        simp [lookK, c, c2]
    | cons p ps ih =>
      intro h
      simp only [lookK] at h
      split at h
      · cases h
      · rename_i n
        simp only [List.cons_append, lookK, ih h]
        by_cases c : j = k
        · subst c; simp [n]
        · simp only [if_neg c]
  have rep : ∀ kvs : List (Ky × D), (lookK k kvs).isSome = true → lookK j (kvs.map fun p => if p.1 = k then (p.1, d) else p) = if j = k then some d else lookK j kvs := by
    intro kvs
    induction kvs with
    | nil => intro h; cases h
    | cons p ps ih =>
      intro h
      simp only [List.map_cons]
      by_cases c : p.1 = k
      · rw [if_pos c]
        simp only [lookK]
        by_cases c2 : p.1 = j
        · rw [if_pos c2, if_pos (c2.symm.trans c)]
        · have c3 : ¬ j = k := fun z => c2 (c.trans z.symm)
          rw [if_neg c2, if_neg c3, if_neg c2]
          have : ∀ ps : List (Ky × D), lookK j (ps.map fun p => if p.1 = k then (p.1, d) else p) = lookK j ps := by
            intro ps
            induction ps with
            | nil => rfl
            | cons q qs ih2 =>
              simp only [List.map_cons]
              by_cases e : q.1 = k
              · rw [if_pos e]
                have e2 : ¬ q.1 = j := fun z => c3 (z.symm.trans e)
                simp only [lookK, if_neg e2, ih2]
              · rw [if_neg e]
                simp only [lookK, ih2]
          exact this ps
      · rw [if_neg c]
        simp only [lookK, if_neg c] at h ⊢
        rw [ih h]
        by_cases c2 : p.1 = j
        · have c3 : ¬ j = k := fun z => c (c2.trans z)
          rw [if_pos c2, if_pos c2, if_neg c3]
        · rw [if_neg c2, if_neg c2]
  unfold putK
  by_cases c : (lookK k kvs).isSome = true
  · rw [if_pos c, rep kvs c]
  · rw [if_neg c, app kvs (by cases e : lookK k kvs with | none => rfl | some _ => rw [e] at c; exact absurd rfl c)]
theorem put_len {k : Ky} {d : D} {kvs : List (Ky × D)} : (putK k d kvs).length ≤ kvs.length + 1 := by
  unfold putK
  split
  · simp
  · simp
def slD (δ : Sls) (i : Nat) : Option (Bool × List (Ky × D)) := match δ[i]? with | some (.own (.dct t kvs)) => some (t, kvs) | _ => none
@[simp] theorem slD_0 {t : Bool} {kvs : List (Ky × D)} {δ : Sls} : slD (.own (.dct t kvs) :: δ) 0 = some (t, kvs) := nr rfl
@[simp] theorem slD_s {x : Sl} {δ : Sls} {i : Nat} : slD (x :: δ) (i + 1) = slD δ i := nr rfl
theorem slD_at {i : Nat} {p : Bool × List (Ky × D)} (h : slD δ i = some p) : δ[i]? = some (.own (.dct p.1 p.2)) := by
  unfold slD at h
  split at h
  · rename_i e; cases h; exact e
  · cases h
@[simp] theorem ex_asgD0 {i : Nat} {t : Bool} : exec G C (.asgO i (.dct t .nil .nil)) δ st = .nx (δ.set i (.own (.dct t []))) st := by simp only [exec, dctNew]
def R.sk {α : Type} (r : R α) (f : α → O) (_ : Tag f) : O := match r with | .ok a => f a | _ => .stuck
@[simp] theorem sk_ok {α : Type} {a : α} {f : α → O} {t : Tag f} : (R.ok a).sk f t = f a := nr rfl
@[simp] theorem ex_asgD1 {i : Nat} {t : Bool} {k v : E} : exec G C (.asgO i (.dct t (.cons k .nil) (.cons v .nil))) δ st = (evalE G C k δ st).sk (fun r => (evalE G C v δ r.2).sk (fun q => onOt .stuck (keyOf r.1) (fun key => if key.isT = t then .nx (δ.set i (.own (.dct t [(key, q.1)]))) q.2 else .stuck) ()) ()) () := by
  simp only [exec, dctNew]
  cases evalE G C k δ st with
  | exc _ _ _ => rfl
  | stuck => rfl
  | ok r =>
    simp only [R.bind, sk_ok]
    cases evalE G C v δ r.2 with
    | exc _ _ _ => rfl
    | stuck => rfl
    | ok q =>
      simp only [sk_ok]
      cases keyOf r.1 with
      | none => rfl
      | some key =>
        simp only [onOt_some]
        by_cases c : key.isT = t
        · simp only [if_pos c]
        · simp only [if_neg c]
def setDx (G : List Fn) (C : List Int) (i : Nat) (e v : E) (δ : Sls) (st : Sto) : O := exec G C (.setD i e v) δ st
theorem ex_setD_0 {i : Nat} {e v : E} : exec G C (.setD i e v) δ st = onO (setDx G C i e v δ st) (slD δ i) fun p => (evalE G C v δ st).toO δ fun r => (evalE G C e δ r.2).toO δ fun q => onO .stuck (keyOf q.1) fun key => if key.isT = p.1 ∧ p.2.length < Lim then .nx (δ.set i (.own (.dct p.1 (putK key r.1 p.2)))) q.2 else .stuck := by
  cases h : slD δ i with
  | none => rfl
  | some p =>
    have e := slD_at h
    simp only [exec, onO_some]
    rw [if_neg (by unfold hasAt; rw [e]; simp)]
    refine congrArg _ (funext fun r => ?_)
    refine congrArg _ (funext fun q => ?_)
    rw [e]
    simp only
    cases keyOf q.1 <;> rfl
@[simp] theorem ex_setD {i : Nat} {e v : E} : exec G C (.setD i e v) δ st = onOt (setDx G C i e v δ st) (slD δ i) (fun p => (evalE G C v δ st).tt δ (fun r => (evalE G C e δ r.2).tt δ (fun q => onOt .stuck (keyOf q.1) (fun key => if key.isT = p.1 ∧ p.2.length < Lim then .nx (δ.set i (.own (.dct p.1 (putK key r.1 p.2)))) q.2 else .stuck) ()) ()) ()) () := ex_setD_0
def sdV (k : Ky) (d : D) (kvs : List (Ky × D)) : D := (lookK k kvs).getD d
def sdM (k : Ky) (d : D) (kvs : List (Ky × D)) : List (Ky × D) := match lookK k kvs with | some _ => kvs | none => putK k d kvs
theorem set_self {i : Nat} {x : Sl} (h : δ[i]? = some x) : δ.set i x = δ := by
  apply List.ext_getElem?
  intro j
  rw [getElem?_set_cases]
  split
  · rename_i c; rw [← c.1, h]
  · rfl
theorem ex_sdIf_0 {i : Nat} {k v w : E} {b : Ss} : exec G C (.sdIf i k v w b) δ st = onO .stuck (slD δ i) fun p => (evalE G C k δ st).toO δ fun r => (evalE G C v δ r.2).toO δ fun q => onO .stuck (keyOf r.1) fun key => if key.isT = p.1 ∧ p.1 = false ∧ p.2.length < Lim then
    (evalE G C w (δ.set i (.own (.dct p.1 (sdM key q.1 p.2)))) q.2).toO (δ.set i (.own (.dct p.1 (sdM key q.1 p.2)))) fun u => onO .stuck (cmpP .ne u.2 (.d (sdV key q.1 p.2)) (.d u.1)) fun x => onB x (execs G C b (δ.set i (.own (.dct p.1 (sdM key q.1 p.2)))) u.2) (.nx (δ.set i (.own (.dct p.1 (sdM key q.1 p.2)))) u.2) else .stuck := by
  cases h : slD δ i with
  | none =>
    simp only [exec]
    unfold slD at h
    cases hδ : δ[i]? with
    | none => rfl
    | some x =>
      rw [hδ] at h
      cases x <;> first | rfl | skip
      rename_i m
      cases m <;> first | rfl | (cases h; done)
  | some p =>
    have e := slD_at h
    simp only [exec, onO_some, e]
    refine congrArg _ (funext fun r => ?_)
    refine congrArg _ (funext fun q => ?_)
    cases keyOf r.1 with
    | none => rfl
    | some key =>
      simp only [onO_some]
      split
      · unfold sdM sdV
        cases hl : lookK key p.2 with
        | some d =>
          simp only [Option.getD_some]
          rw [set_self e]
          refine congrArg _ (funext fun u => ?_)
          cases cmpP .ne u.2 (.d d) (.d u.1) with
          | none => rfl
          | some x => cases x <;> rfl
        | none =>
          simp only [Option.getD_none]
          refine congrArg _ (funext fun u => ?_)
          cases cmpP .ne u.2 (.d q.1) (.d u.1) with
          | none => rfl
          | some x => cases x <;> rfl
      · rfl
@[simp] theorem ex_sdIf {i : Nat} {k v w : E} {b : Ss} : exec G C (.sdIf i k v w b) δ st = onOt .stuck (slD δ i) (fun p => (evalE G C k δ st).tt δ (fun r => (evalE G C v δ r.2).tt δ (fun q => onOt .stuck (keyOf r.1) (fun key => if key.isT = p.1 ∧ p.1 = false ∧ p.2.length < Lim then
    (evalE G C w (δ.set i (.own (.dct p.1 (sdM key q.1 p.2)))) q.2).tt (δ.set i (.own (.dct p.1 (sdM key q.1 p.2)))) (fun u => onOt .stuck (cmpP .ne u.2 (.d (sdV key q.1 p.2)) (.d u.1)) (fun x => onBt x (execs G C b (δ.set i (.own (.dct p.1 (sdM key q.1 p.2)))) u.2) (.nx (δ.set i (.own (.dct p.1 (sdM key q.1 p.2)))) u.2) ()) ()) () else .stuck) ()) ()) ()) () := ex_sdIf_0
def insX (G : List Fn) (C : List Int) (i : Nat) (j e : E) (δ : Sls) (st : Sto) : O := exec G C (.insL i j e) δ st
theorem slL_at {i : Nat} {ds : List D} (h : slL δ i = some ds) : δ[i]? = some (.own (.lst ds)) := by
  unfold slL at h
  split at h
  · rename_i e; cases h; exact e
  · cases h
theorem ex_ins_0 {i : Nat} {j e : E} : exec G C (.insL i j e) δ st = onO (insX G C i j e δ st) (slL δ i) fun ds => (evalE G C j δ st).toO δ fun q => (evalE G C e δ q.2).toO δ fun r => onO .stuck (dI q.1) fun k => if 0 ≤ k ∧ k < 1000000000 ∧ ds.length < Lim then .nx (δ.set i (.own (.lst (ds.take k.toNat ++ [r.1] ++ ds.drop k.toNat)))) r.2 else .stuck := by
  cases h : slL δ i with
  | none => rfl
  | some ds =>
    simp only [exec, onO_some, slL_at h]
    refine congrArg _ (funext fun q => ?_)
    refine congrArg _ (funext fun r => ?_)
    rcases q with ⟨d, s⟩
    cases d <;> rfl
@[simp] theorem ex_ins {i : Nat} {j e : E} : exec G C (.insL i j e) δ st = onOt (insX G C i j e δ st) (slL δ i) (fun ds => (evalE G C j δ st).tt δ (fun q => (evalE G C e δ q.2).tt δ (fun r => onOt .stuck (dI q.1) (fun k => if 0 ≤ k ∧ k < 1000000000 ∧ ds.length < Lim then .nx (δ.set i (.own (.lst (ds.take k.toNat ++ [r.1] ++ ds.drop k.toNat)))) r.2 else .stuck) ()) ()) ()) () := ex_ins_0
def popX (G : List Fn) (C : List Int) (i : Nat) (δ : Sls) (st : Sto) : O := exec G C (.popL i) δ st
theorem ex_pop_0 {i : Nat} : exec G C (.popL i) δ st = onO (popX G C i δ st) (slL δ i) fun ds => if ds = [] then .stuck else .nx (δ.set i (.own (.lst ds.dropLast))) st := by
  cases h : slL δ i with
  | none => rfl
  | some ds => simp only [exec, onO_some, slL_at h]
@[simp] theorem ex_pop {i : Nat} : exec G C (.popL i) δ st = onOt (popX G C i δ st) (slL δ i) (fun ds => if ds = [] then .stuck else .nx (δ.set i (.own (.lst ds.dropLast))) st) () := ex_pop_0
theorem popX_eq {i l : Nat} (h : δ[i]? = some (.val (.loc l))) : popX G C i δ st = onOt .stuck (lstAt st l) (fun ds => if ds = [] then .stuck else .nx δ (st.set l (.lst ds.dropLast))) () := by
  have e : popX G C i δ st = onO .stuck (lstAt st l) (fun ds => if ds = [] then .stuck else .nx δ (st.set l (.lst ds.dropLast))) := by
    unfold popX lstAt
    simp only [exec, h]
    cases st[l]? with
    | none => rfl
    | some m => cases m <;> rfl
  exact e
theorem insX_eq {i l : Nat} {j e : E} (h : δ[i]? = some (.val (.loc l))) : insX G C i j e δ st = onOt .stuck (lstAt st l) (fun _ => (evalE G C j δ st).tt δ (fun q => (evalE G C e δ q.2).tt δ (fun r => onOt .stuck (lstAt r.2 l) (fun ds => onOt .stuck (dI q.1) (fun k => if 0 ≤ k ∧ k < 1000000000 ∧ ds.length < Lim then .nx δ (r.2.set l (.lst (ds.take k.toNat ++ [r.1] ++ ds.drop k.toNat))) else .stuck) ()) ()) ()) ()) () := by
  have e : insX G C i j e δ st = onO .stuck (lstAt st l) (fun _ => (evalE G C j δ st).toO δ (fun q => (evalE G C e δ q.2).toO δ (fun r => onO .stuck (lstAt r.2 l) (fun ds => onO .stuck (dI q.1) (fun k => if 0 ≤ k ∧ k < 1000000000 ∧ ds.length < Lim then .nx δ (r.2.set l (.lst (ds.take k.toNat ++ [r.1] ++ ds.drop k.toNat))) else .stuck))))) := by
    unfold insX
    simp only [exec, h, lstAt]
    cases st[l]? with
    | none => rfl
    | some m =>
      cases m <;> first | rfl | skip
      simp only [onO_some]
      refine congrArg _ (funext fun q => ?_)
      refine congrArg _ (funext fun r => ?_)
      cases r.2[l]? with
      | none => rfl
      | some m =>
        cases m <;> first | rfl | skip
        simp only [onO_some]
        rcases q with ⟨d, s⟩
        cases d <;> rfl
  exact e
def setIX (G : List Fn) (C : List Int) (i : Nat) (e v : E) (δ : Sls) (st : Sto) : O := exec G C (.setI i e v) δ st
theorem ex_setI_0 {i : Nat} {e v : E} : exec G C (.setI i e v) δ st = onO (setIX G C i e v δ st) (slL δ i) fun ds => (evalE G C v δ st).toO δ fun r => (evalE G C e δ r.2).toO δ fun q => onO .stuck (dI q.1) fun k => onO .stuck (ixn ds.length k) fun j => .nx (δ.set i (.own (.lst (ds.set j r.1)))) q.2 := by
  cases h : slL δ i with
  | none => rfl
  | some ds =>
    have e := slL_at h
    simp only [exec, onO_some]
    rw [if_neg (by unfold hasAt; rw [e]; simp)]
    refine congrArg _ (funext fun r => ?_)
    refine congrArg _ (funext fun q => ?_)
    rw [e]
    simp only
    rcases q with ⟨d, s⟩
    cases d <;> first | rfl | skip
    rename_i k
    simp only [dI_i, onO_some]
    cases ixn ds.length k <;> rfl
@[simp] theorem ex_setI {i : Nat} {e v : E} : exec G C (.setI i e v) δ st = onOt (setIX G C i e v δ st) (slL δ i) (fun ds => (evalE G C v δ st).tt δ (fun r => (evalE G C e δ r.2).tt δ (fun q => onOt .stuck (dI q.1) (fun k => onOt .stuck (ixn ds.length k) (fun j => .nx (δ.set i (.own (.lst (ds.set j r.1)))) q.2) ()) ()) ()) ()) () := ex_setI_0
theorem setIX_eq {i l : Nat} {e v : E} (h : δ[i]? = some (.val (.loc l))) : setIX G C i e v δ st = (evalE G C v δ st).tt δ (fun r => (evalE G C e δ r.2).tt δ (fun q => onOt .stuck (lstAt q.2 l) (fun ds => onOt .stuck (dI q.1) (fun k => onOt .stuck (ixn ds.length k) (fun j => .nx δ (q.2.set l (.lst (ds.set j r.1)))) ()) ()) ()) ()) () := by
  have e1 : setIX G C i e v δ st = (evalE G C v δ st).toO δ (fun r => (evalE G C e δ r.2).toO δ (fun q => onO .stuck (lstAt q.2 l) (fun ds => onO .stuck (dI q.1) (fun k => onO .stuck (ixn ds.length k) (fun j => .nx δ (q.2.set l (.lst (ds.set j r.1)))))))) := by
    unfold setIX
    simp only [exec]
    rw [if_neg (by unfold hasAt; rw [h]; simp)]
    refine congrArg _ (funext fun r => ?_)
    refine congrArg _ (funext fun q => ?_)
    rw [h]
    simp only [lstAt]
    cases q.2[l]? with
    | none => rfl
    | some m =>
      cases m <;> first | rfl | skip
      rename_i ds
      simp only [onO_some]
      rcases q with ⟨d, s⟩
      cases d <;> first | rfl | skip
      rename_i k
      simp only [dI_i, onO_some]
      cases ixn ds.length k <;> rfl
  exact e1
def dLoc : D → Option Nat | .loc l => some l | _ => none
@[simp] theorem dLoc_l {l : Nat} : dLoc (.loc l) = some l := nr rfl
theorem ex_appE_0 {a e : E} : exec G C (.appE a e) δ st = (evalE G C a δ st).toO δ fun q => onO .stuck (dLoc q.1) fun l => onO .stuck (lstAt q.2 l) fun _ => (evalE G C e δ q.2).toO δ fun r => onO .stuck (lstAt r.2 l) fun ds => if ds.length < Lim then .nx δ (r.2.set l (.lst (ds ++ [r.1]))) else .stuck := by
  simp only [exec]
  refine congrArg _ (funext fun q => ?_)
  rcases q with ⟨d, s⟩
  cases d <;> first | rfl | skip
  rename_i l
  simp only [dLoc_l, onO_some, lstAt]
  cases s[l]? with
  | none => rfl
  | some m =>
    cases m <;> first | rfl | skip
    simp only [onO_some]
    refine congrArg _ (funext fun r => ?_)
    cases r.2[l]? with
    | none => rfl
    | some m => cases m <;> rfl
@[simp] theorem ex_appE {a e : E} : exec G C (.appE a e) δ st = (evalE G C a δ st).tt δ (fun q => onOt .stuck (dLoc q.1) (fun l => onOt .stuck (lstAt q.2 l) (fun _ => (evalE G C e δ q.2).tt δ (fun r => onOt .stuck (lstAt r.2 l) (fun ds => if ds.length < Lim then .nx δ (r.2.set l (.lst (ds ++ [r.1]))) else .stuck) ()) ()) ()) ()) () := ex_appE_0
end
section
variable {G : List Fn} {C : List Int} {δ : Sls} {st : Sto}
theorem ex_asgO_blt_0 {i : Nat} {es : Es} : exec G C (.asgO i (.blt .list es)) δ st = (evalE G C (.blt .list es) δ st).toO δ fun r => onO .stuck (dL r.1) fun ds => .nx (δ.set i (.own (.lst ds))) r.2 := by
  rw [ex_asgO (by intro _ _ _ h; cases h)]
  refine congrArg _ (funext fun r => ?_)
  rcases r with ⟨d, s⟩
  cases d <;> rfl
@[simp] theorem ex_asgO_blt {i : Nat} {es : Es} : exec G C (.asgO i (.blt .list es)) δ st = (evalE G C (.blt .list es) δ st).tt δ (fun r => onOt .stuck (dL r.1) (fun ds => .nx (δ.set i (.own (.lst ds))) r.2) ()) () := ex_asgO_blt_0
theorem ex_asgO_add_0 {i : Nat} {a b : E} : exec G C (.asgO i (.bin .add a b)) δ st = (evalE G C (.bin .add a b) δ st).toO δ fun r => onO .stuck (dL r.1) fun ds => .nx (δ.set i (.own (.lst ds))) r.2 := by
  rw [ex_asgO (by intro _ _ _ h; cases h)]
  refine congrArg _ (funext fun r => ?_)
  rcases r with ⟨d, s⟩
  cases d <;> rfl
@[simp] theorem ex_asgO_add {i : Nat} {a b : E} : exec G C (.asgO i (.bin .add a b)) δ st = (evalE G C (.bin .add a b) δ st).tt δ (fun r => onOt .stuck (dL r.1) (fun ds => .nx (δ.set i (.own (.lst ds))) r.2) ()) () := ex_asgO_add_0
theorem ex_asgO_mul_0 {i : Nat} {a b : E} : exec G C (.asgO i (.bin .mul a b)) δ st = (evalE G C (.bin .mul a b) δ st).toO δ fun r => onO .stuck (dL r.1) fun ds => .nx (δ.set i (.own (.lst ds))) r.2 := by
  rw [ex_asgO (by intro _ _ _ h; cases h)]
  refine congrArg _ (funext fun r => ?_)
  rcases r with ⟨d, s⟩
  cases d <;> rfl
@[simp] theorem ex_asgO_mul {i : Nat} {a b : E} : exec G C (.asgO i (.bin .mul a b)) δ st = (evalE G C (.bin .mul a b) δ st).tt δ (fun r => onOt .stuck (dL r.1) (fun ds => .nx (δ.set i (.own (.lst ds))) r.2) ()) () := ex_asgO_mul_0
theorem ex_asgO_sl_0 {i : Nat} {a : E} {lo hi : Eo} : exec G C (.asgO i (.sl a lo hi)) δ st = (evalE G C (.sl a lo hi) δ st).toO δ fun r => onO .stuck (dL r.1) fun ds => .nx (δ.set i (.own (.lst ds))) r.2 := by
  rw [ex_asgO (by intro _ _ _ h; cases h)]
  refine congrArg _ (funext fun r => ?_)
  rcases r with ⟨d, s⟩
  cases d <;> rfl
@[simp] theorem ex_asgO_sl {i : Nat} {a : E} {lo hi : Eo} : exec G C (.asgO i (.sl a lo hi)) δ st = (evalE G C (.sl a lo hi) δ st).tt δ (fun r => onOt .stuck (dL r.1) (fun ds => .nx (δ.set i (.own (.lst ds))) r.2) ()) () := ex_asgO_sl_0
theorem ex_asgO_comp_0 {i : Nat} {elt : E} {tg : Tg} {it : I} {cs : Es} {own : List Nat} : exec G C (.asgO i (.comp elt tg it cs own)) δ st = (evalE G C (.comp elt tg it cs own) δ st).toO δ fun r => onO .stuck (dL r.1) fun ds => .nx (δ.set i (.own (.lst ds))) r.2 := by
  rw [ex_asgO (by intro _ _ _ h; cases h)]
  refine congrArg _ (funext fun r => ?_)
  rcases r with ⟨d, s⟩
  cases d <;> rfl
@[simp] theorem ex_asgO_comp {i : Nat} {elt : E} {tg : Tg} {it : I} {cs : Es} {own : List Nat} : exec G C (.asgO i (.comp elt tg it cs own)) δ st = (evalE G C (.comp elt tg it cs own) δ st).tt δ (fun r => onOt .stuck (dL r.1) (fun ds => .nx (δ.set i (.own (.lst ds))) r.2) ()) () := ex_asgO_comp_0
theorem ex_asgO_comp2_0 {i : Nat} {elt : E} {tg tg2 : Tg} {it it2 : I} {cs cs2 : Es} {own own2 : List Nat} : exec G C (.asgO i (.comp2 elt tg it cs tg2 it2 cs2 own own2)) δ st = (evalE G C (.comp2 elt tg it cs tg2 it2 cs2 own own2) δ st).toO δ fun r => onO .stuck (dL r.1) fun ds => .nx (δ.set i (.own (.lst ds))) r.2 := by
  rw [ex_asgO (by intro _ _ _ h; cases h)]
  refine congrArg _ (funext fun r => ?_)
  rcases r with ⟨d, s⟩
  cases d <;> rfl
@[simp] theorem ex_asgO_comp2 {i : Nat} {elt : E} {tg tg2 : Tg} {it it2 : I} {cs cs2 : Es} {own own2 : List Nat} : exec G C (.asgO i (.comp2 elt tg it cs tg2 it2 cs2 own own2)) δ st = (evalE G C (.comp2 elt tg it cs tg2 it2 cs2 own own2) δ st).tt δ (fun r => onOt .stuck (dL r.1) (fun ds => .nx (δ.set i (.own (.lst ds))) r.2) ()) () := ex_asgO_comp2_0
theorem ex_asgO_rev_0 {i : Nat} {a : E} : exec G C (.asgO i (.rev a)) δ st = (evalE G C (.rev a) δ st).toO δ fun r => onO .stuck (dL r.1) fun ds => .nx (δ.set i (.own (.lst ds))) r.2 := by
  rw [ex_asgO (by intro _ _ _ h; cases h)]
  refine congrArg _ (funext fun r => ?_)
  rcases r with ⟨d, s⟩
  cases d <;> rfl
@[simp] theorem ex_asgO_rev {i : Nat} {a : E} : exec G C (.asgO i (.rev a)) δ st = (evalE G C (.rev a) δ st).tt δ (fun r => onOt .stuck (dL r.1) (fun ds => .nx (δ.set i (.own (.lst ds))) r.2) ()) () := ex_asgO_rev_0
theorem ex_asgO_addP_0 {i : Nat} {a b : E} : exec G C (.asgO i (.addP a b)) δ st = (evalE G C (.addP a b) δ st).toO δ fun r => onO .stuck (dL r.1) fun ds => .nx (δ.set i (.own (.lst ds))) r.2 := by
  rw [ex_asgO (by intro _ _ _ h; cases h)]
  refine congrArg _ (funext fun r => ?_)
  rcases r with ⟨d, s⟩
  cases d <;> rfl
@[simp] theorem ex_asgO_addP {i : Nat} {a b : E} : exec G C (.asgO i (.addP a b)) δ st = (evalE G C (.addP a b) δ st).tt δ (fun r => onOt .stuck (dL r.1) (fun ds => .nx (δ.set i (.own (.lst ds))) r.2) ()) () := ex_asgO_addP_0
theorem ex_augI_0 {i : Nat} {o : Bo} {e v : E} : exec G C (.augI i o e v) δ st = onO .stuck (slL δ i) fun ds => (evalE G C e δ st).toO δ fun q => onO .stuck (dI q.1) fun k => onO .stuck (ixn ds.length k) fun j => onO .stuck (nth ds j) fun x0 => onO .stuck (dI x0) fun x => (evalE G C v δ q.2).toO δ fun r => onO .stuck (dI r.1) fun y => onO .stuck (binV o (.int x) (.int y)) fun d => .nx (δ.set i (.own (.lst (ds.set j d)))) r.2 := by
  simp only [exec, slL]
  cases δ[i]? with
  | none => rfl
  | some x =>
    cases x <;> first | rfl | skip
    rename_i m
    cases m <;> first | rfl | skip
    rename_i ds
    simp only [onO_some]
    refine congrArg _ (funext fun q => ?_)
    rcases q with ⟨d, s⟩
    cases d <;> first | rfl | skip
    rename_i k
    simp only [dI_i, onO_some, nth]
    cases ixn ds.length k with
    | none => rfl
    | some j =>
      simp only [onO_some]
      cases ds[j]? with
      | none => rfl
      | some x0 =>
        cases x0 <;> first | rfl | skip
        simp only [dI_i, onO_some]
        refine congrArg _ (funext fun r => ?_)
        rcases r with ⟨d, s⟩
        cases d <;> first | rfl | skip
        simp only [dI_i, onO_some]
        rename_i x y
        cases binV o (.int x) (.int y) <;> rfl
@[simp] theorem ex_augI {i : Nat} {o : Bo} {e v : E} : exec G C (.augI i o e v) δ st = onOt .stuck (slL δ i) (fun ds => (evalE G C e δ st).tt δ (fun q => onOt .stuck (dI q.1) (fun k => onOt .stuck (ixn ds.length k) (fun j => onOt .stuck (nth ds j) (fun x0 => onOt .stuck (dI x0) (fun x => (evalE G C v δ q.2).tt δ (fun r => onOt .stuck (dI r.1) (fun y => onOt .stuck (binV o (.int x) (.int y)) (fun d => .nx (δ.set i (.own (.lst (ds.set j d)))) r.2) ()) ()) ()) ()) ()) ()) ()) ()) () := ex_augI_0
theorem ex_asgO_lstO_0 {i : Nat} {f k : Nat} {c : Cl} {a : E} : exec G C (.asgO i (.lstO f c k a)) δ st = (evalE G C (.lstO f c k a) δ st).toO δ fun r => onO .stuck (dL r.1) fun ds => .nx (δ.set i (.own (.lst ds))) r.2 := by
  rw [ex_asgO (by intro _ _ _ h; cases h)]
  refine congrArg _ (funext fun r => ?_)
  rcases r with ⟨d, s⟩
  cases d <;> rfl
@[simp] theorem ex_asgO_lstO {i : Nat} {f k : Nat} {c : Cl} {a : E} : exec G C (.asgO i (.lstO f c k a)) δ st = (evalE G C (.lstO f c k a) δ st).tt δ (fun r => onOt .stuck (dL r.1) (fun ds => .nx (δ.set i (.own (.lst ds))) r.2) ()) () := ex_asgO_lstO_0
end
@[simp] theorem eq_nn {st : Sto} : cmpP .eq st (.d (.lst [])) (.d (.lst [])) = some true := rfl
@[simp] theorem ne_nn {st : Sto} : cmpP .ne st (.d (.lst [])) (.d (.lst [])) = some false := rfl
theorem gd_nx {g : Gd} {f : D → Sls → Sto → O} {x : D} {δ δ' : Sls} {st st' : Sto} (hg : GdOk g st') (h : f x δ st = .nx δ' st') : gdF g f x δ st = .nx δ' st' := by
  unfold gdF
  cases g with
  | none => exact h
  | some p => simp only [h, hg p rfl, if_true]
theorem gd_end {g : Gd} {f : D → Sls → Sto → O} {x : D} {δ : Sls} {st : Sto} {o : O} (ho : o.ends = true) (h : f x δ st = o) : gdF g f x δ st = o := by
  unfold gdF
  cases g with
  | none => exact h
  | some p =>
    simp only [h]
    cases o <;> first | rfl | cases ho
theorem gdOk_none {st : Sto} : GdOk none st := fun _ h => by cases h
theorem gdOk_loc {st : Sto} {l : Nat} {ds : List D} (h : st[l]? = some (.lst ds)) : GdOk (some (l, ds)) st := fun p hp => by cases hp; exact h
@[simp] theorem rngO2_1_100 : rngO2 1 100 = some ((List.range 99).map fun k => D.int (1 + (k : Nat))) := by
  unfold rngO2
  rw [if_pos (by decide)]
  rfl
theorem cut_from (xs : List D) (n : Nat) : cut xs (some (n : Int)) none = xs.drop n := by
  simp only [cut, sIx]
  rw [if_neg (by omega), Int.toNat_natCast]
  by_cases h : xs.length ≤ n
  · rw [List.drop_eq_nil_of_le (show xs.length ≤ min n xs.length by omega), List.drop_eq_nil_of_le h, List.take_nil]
  · rw [Nat.min_eq_left (by omega)]
    exact List.take_of_length_le (by rw [List.length_drop]; exact Nat.le_refl _)
theorem cut_to (xs : List D) (n : Nat) : cut xs none (some (n : Int)) = xs.take n := by
  simp only [cut, sIx, List.drop_zero, Nat.sub_zero]
  rw [if_neg (by omega), Int.toNat_natCast]
  by_cases h : xs.length ≤ n
  · rw [Nat.min_eq_right h, List.take_of_length_le (Nat.le_refl _), List.take_of_length_le h]
  · rw [Nat.min_eq_left (by omega)]
theorem cut_fromI (xs : List D) {i : Int} (h : 0 ≤ i) : cut xs (some i) none = xs.drop i.toNat := by
  have := cut_from xs i.toNat
  rw [Int.toNat_of_nonneg h] at this
  exact this
theorem cut_toI (xs : List D) {i : Int} (h : 0 ≤ i) : cut xs none (some i) = xs.take i.toNat := by
  have := cut_to xs i.toNat
  rw [Int.toNat_of_nonneg h] at this
  exact this
theorem Fm.idx {α : Type} {f : α → D} [DecidableEq α] (F : Fm 8 f) {x : α} {xs : List α} (h : x ∈ xs) : idxV (xs.map f) (f x) = some ((xs.idxOf x : Nat) : Int) := by
  have c : ((f x).shp 9 && (xs.map f).all (D.shp 8)) = true := by
    rw [Bool.and_eq_true]
    exact ⟨shp_le (by omega) (F.shp x), by simp [F.shp]⟩
  unfold idxV
  rw [if_pos c, List.findIdx?_map]
  have e : (xs.findIdx? ((fun z => PyData.eqv z.toP (f x).toP) ∘ f)) = some (xs.idxOf x) := by
    rw [List.findIdx?_eq_some_iff_getElem]
    refine ⟨List.idxOf_lt_length_iff.mpr h, ?_, fun j hj => ?_⟩
    · show PyData.eqv (f _).toP (f x).toP = true
      rw [F.eqv]
      exact List.getElem_idxOf _
    · show ¬ PyData.eqv (f _).toP (f x).toP = true
      rw [F.eqv]
      intro z
      have := List.not_of_lt_findIdx (p := (· == x)) (xs := xs) (i := j) hj
      have h1 : xs[j]'(Nat.lt_trans hj (List.idxOf_lt_length_iff.mpr h)) = x := z
      rw [h1] at this
      simp at this
  rw [e]
  rfl
section
variable {α : Type} {f : α → D} {n : Nat} {st : Sto}
theorem fm_ktup (F : Fm n f) : Fm (n + 1) fun xs : List α => D.ktup (xs.map f) :=
  ⟨fun xs => by simp [D.shp, F.shp], fun xs ys => by simp only [D.toP, PyData.eqv]; exact eqvs_map F xs ys⟩
@[simp] theorem in_prK {a b : Int} {xs : List (Int × Int)} : cmpP .in_ st (.d (.tup [.int a, .int b])) (.d (.ktup (xs.map prD))) = some (decide ((a, b) ∈ xs)) := (fm_prD.mono (by omega)).in_ (x := (a, b)) rfl
end
end
end Qk

set_option linter.all false
set_option maxHeartbeats 4000000
set_option maxRecDepth 100000
namespace Qk
open PySem
theorem snocRec {α : Type} {P : List α → Prop} (nil : P []) (snoc : ∀ (xs : List α) (x : α), P xs → P (xs ++ [x])) : ∀ xs, P xs := by
  intro xs
  have : ∀ ys : List α, P ys.reverse := by
    intro ys
    induction ys with
    | nil => exact nil
    | cons y ys ih => rw [List.reverse_cons]; exact snoc _ _ ih
  have h := this xs.reverse
  rw [List.reverse_reverse] at h
  exact h
abbrev En := Int × Int × Int
def OkE (e : En) : Prop := (1 ≤ e.1 ∧ e.1 ≤ 99) ∧ (0 ≤ e.2.1 ∧ e.2.1 ≤ 3) ∧ (0 ≤ e.2.2 ∧ e.2.2 ≤ 3)
instance (e : En) : Decidable (OkE e) := inferInstanceAs (Decidable (_ ∧ _))
def fstE (xs : List En) (s : Int) : Option En := xs.find? fun e => decide (e.1 = s)
def lstE (xs : List En) (s : Int) : Option En := fstE xs.reverse s
def clashB (xs : List En) (s : Int) : Bool := xs.any fun e => decide (e.1 = s) && !decide (fstE xs s = some e)
def Agree (xs : List En) : Prop := ∀ e ∈ xs, ∀ f ∈ xs, e.1 = f.1 → e = f
def ordL (xs : List En) : List En := (List.range 99).filterMap fun (k : Nat) => fstE xs (1 + (k : Int))
theorem fst_mem {xs : List En} {s : Int} {e : En} (h : fstE xs s = some e) : e ∈ xs ∧ e.1 = s := by
  have h1 := List.mem_of_find?_eq_some h
  have h2 := List.find?_some h
  exact ⟨h1, by simpa using h2⟩
theorem fst_some {xs : List En} {e : En} (h : e ∈ xs) : ∃ f, fstE xs e.1 = some f := by
  unfold fstE
  cases q : xs.find? (fun f => decide (f.1 = e.1)) with
  | some f => exact ⟨f, rfl⟩
  | none =>
    have := List.find?_eq_none.mp q e h
    simp at this
theorem fst_agree {xs : List En} (ha : Agree xs) {e : En} (h : e ∈ xs) : fstE xs e.1 = some e := by
  obtain ⟨f, hf⟩ := fst_some h
  obtain ⟨h1, h2⟩ := fst_mem hf
  rw [hf, ha f h1 e h h2]
theorem fst_snoc (xs : List En) (x : En) (s : Int) : fstE (xs ++ [x]) s = (fstE xs s).or (if x.1 = s then some x else none) := by
  unfold fstE
  rw [List.find?_append]
  congr 1
  by_cases c : x.1 = s <;> simp [List.find?_cons, c]
theorem clash_snoc (xs : List En) (x : En) (s : Int) : clashB (xs ++ [x]) s = (clashB xs s || (decide (x.1 = s) && (match fstE xs s with | some y => !decide (y = x) | none => false))) := by
  unfold clashB
  rw [List.any_append]
  have e1 : xs.any (fun e => decide (e.1 = s) && !decide (fstE (xs ++ [x]) s = some e)) = xs.any (fun e => decide (e.1 = s) && !decide (fstE xs s = some e)) := by
    rw [Bool.eq_iff_iff, List.any_eq_true, List.any_eq_true]
    have key : ∀ e ∈ xs, e.1 = s → fstE (xs ++ [x]) s = fstE xs s := fun e he es => by
      obtain ⟨f, hf⟩ := fst_some he
      rw [es] at hf
      rw [fst_snoc, hf]; rfl
    constructor
    · rintro ⟨e, he, h⟩
      simp only [Bool.and_eq_true, decide_eq_true_eq] at h
      rw [key e he h.1] at h
      exact ⟨e, he, by simp only [Bool.and_eq_true, decide_eq_true_eq]; exact h⟩
    · rintro ⟨e, he, h⟩
      simp only [Bool.and_eq_true, decide_eq_true_eq] at h
      rw [← key e he h.1] at h
      exact ⟨e, he, by simp only [Bool.and_eq_true, decide_eq_true_eq]; exact h⟩
  rw [e1]
  congr 1
  simp only [List.any_cons, List.any_nil, Bool.or_false]
  by_cases c : x.1 = s
  · rw [fst_snoc]
    cases q : fstE xs s with
    | none => simp [c]
    | some y => simp [c]
  · simp [c]
theorem clash_agree {xs : List En} (ha : Agree xs) (s : Int) : clashB xs s = false := by
  unfold clashB
  rw [List.any_eq_false]
  intro e he h
  simp only [Bool.and_eq_true, decide_eq_true_eq, Bool.not_eq_true', decide_eq_false_iff_not] at h
  obtain ⟨rfl, h⟩ := h
  exact h (fst_agree ha he)
theorem clash_iff {xs : List En} {s : Int} : clashB xs s = true ↔ ∃ e ∈ xs, ∃ f ∈ xs, e.1 = s ∧ f.1 = s ∧ e ≠ f := by
  unfold clashB
  rw [List.any_eq_true]
  constructor
  · rintro ⟨e, he, h⟩
    simp only [Bool.and_eq_true, decide_eq_true_eq, Bool.not_eq_true', decide_eq_false_iff_not] at h
    obtain ⟨f, hf⟩ := fst_some he
    rw [h.1] at hf
    obtain ⟨f1, f2⟩ := fst_mem hf
    exact ⟨e, he, f, f1, h.1, f2, fun z => h.2 (by rw [hf, z])⟩
  · rintro ⟨e, he, f, hf, h1, h2, ne⟩
    by_cases c : fstE xs s = some e
    · refine ⟨f, hf, ?_⟩
      simp only [Bool.and_eq_true, decide_eq_true_eq, Bool.not_eq_true', decide_eq_false_iff_not]
      exact ⟨h2, fun z => ne (by rw [c] at z; exact Option.some.inj z)⟩
    · exact ⟨e, he, by simp only [Bool.and_eq_true, decide_eq_true_eq, Bool.not_eq_true', decide_eq_false_iff_not]; exact ⟨h1, c⟩⟩
theorem ord_len (xs : List En) : (ordL xs).length ≤ 99 := Nat.le_trans (List.length_filterMap_le _ _) (by simp)
theorem mem_ord {xs : List En} (hk : ∀ e ∈ xs, OkE e) {e : En} : e ∈ ordL xs ↔ fstE xs e.1 = some e := by
  unfold ordL
  rw [List.mem_filterMap]
  constructor
  · rintro ⟨k, hk, h⟩
    have := (fst_mem h).2
    rw [this]
    exact h
  · intro h
    have h1 := hk e (fst_mem h).1
    refine ⟨(e.1 - 1).toNat, ?_, ?_⟩
    · rw [List.mem_range]
      have := h1.1
      omega
    · have : (1 : Int) + ((e.1 - 1).toNat : Nat) = e.1 := by
        have := h1.1
        omega
      rw [this]
      exact h
theorem mem_ord_agree {xs : List En} (hk : ∀ e ∈ xs, OkE e) (ha : Agree xs) {e : En} : e ∈ ordL xs ↔ e ∈ xs := by
  rw [mem_ord hk]
  exact ⟨fun h => (fst_mem h).1, fun h => fst_agree ha h⟩
theorem ord_sub {xs : List En} {e : En} (h : e ∈ ordL xs) : e ∈ xs := by
  obtain ⟨k, _, h⟩ := List.mem_filterMap.mp h
  exact (fst_mem h).1
theorem ord_agree {xs : List En} : Agree (ordL xs) := fun e he f hf h => by
  obtain ⟨k, _, h1⟩ := List.mem_filterMap.mp he
  obtain ⟨j, _, h2⟩ := List.mem_filterMap.mp hf
  rw [← (fst_mem h1).2, ← (fst_mem h2).2] at *
  have e1 := (fst_mem h1).2
  have e2 := (fst_mem h2).2
  rw [h, h2] at h1
  exact (Option.some.inj h1).symm
theorem ord_congr {xs ys : List En} (h : ∀ s, fstE xs s = fstE ys s) : ordL xs = ordL ys := by
  unfold ordL
  simp only [h]
theorem fst_eq_of_mem {xs ys : List En} (hx : Agree xs) (hy : Agree ys) (h : ∀ e, e ∈ xs ↔ e ∈ ys) (s : Int) : fstE xs s = fstE ys s := by
  cases q : fstE xs s with
  | some e =>
    obtain ⟨h1, rfl⟩ := fst_mem q
    exact (fst_agree hy ((h e).mp h1)).symm
  | none =>
    cases q2 : fstE ys s with
    | none => rfl
    | some e =>
      obtain ⟨h1, rfl⟩ := fst_mem q2
      rw [fst_agree hx ((h e).mpr h1)] at q
      cases q
theorem ord_ext {xs ys : List En} (hx : Agree xs) (hy : Agree ys) (h : ∀ e, e ∈ xs ↔ e ∈ ys) : ordL xs = ordL ys := ord_congr (fst_eq_of_mem hx hy h)
theorem Agree.sub {xs ys : List En} (h : Agree xs) (hs : ∀ e ∈ ys, e ∈ xs) : Agree ys := fun e he f hf => h e (hs e he) f (hs f hf)
theorem ord_ord {xs : List En} (hk : ∀ e ∈ xs, OkE e) (ha : Agree xs) : ordL (ordL xs) = ordL xs := ord_ext ord_agree ha fun e => mem_ord_agree hk ha
theorem ord_ok {xs : List En} (hk : ∀ e ∈ xs, OkE e) : ∀ e ∈ ordL xs, OkE e := fun e he => hk e (ord_sub he)
def cls? (xs : List En) : Option Nat := (List.range 99).find? fun (k : Nat) => clashB xs (1 + (k : Int))
theorem cls_none {xs : List En} (ha : Agree xs) : cls? xs = none := List.find?_eq_none.mpr fun k _ => by rw [clash_agree ha]; simp
theorem cls_some {xs : List En} {s : Int} (h1 : 1 ≤ s) (h2 : s ≤ 99) (hc : clashB xs s = true) (hm : ∀ t, 1 ≤ t → t < s → clashB xs t = false) : cls? xs = some (s - 1).toNat := by
  unfold cls?
  rw [List.find?_eq_some_iff_getElem]
  have e : (1 : Int) + ((s - 1).toNat : Nat) = s := by omega
  refine ⟨by rw [e]; exact hc, (s - 1).toNat, by simp; omega, by simp, fun j hj => ?_⟩
  simp only [List.getElem_range]
  rw [hm (1 + (j : Int)) (by omega) (by omega)]
  rfl
def fndD (xs : List En) : List (Ky × D) := xs.foldl (fun kvs e => sdM (.i e.1) (trD e) kvs) []
def clsD (xs : List En) : List (Ky × D) := (xs.foldl (fun (p : List En × List (Ky × D)) e => (p.1 ++ [e], match fstE p.1 e.1 with | some y => if y = e then p.2 else putK (.i e.1) (.bl true) p.2 | none => p.2)) ([], [])).2
theorem fnd_snoc (xs : List En) (e : En) : fndD (xs ++ [e]) = sdM (.i e.1) (trD e) (fndD xs) := by simp [fndD]
theorem cls_fst (xs : List En) : ∀ (p : List En × List (Ky × D)), (xs.foldl (fun (p : List En × List (Ky × D)) e => (p.1 ++ [e], match fstE p.1 e.1 with | some y => if y = e then p.2 else putK (.i e.1) (.bl true) p.2 | none => p.2)) p).1 = p.1 ++ xs := by
  induction xs with
  | nil => intro p; simp
  | cons x xs ih => intro p; rw [List.foldl_cons, ih]; simp
theorem cls_snoc (xs : List En) (e : En) : clsD (xs ++ [e]) = match fstE xs e.1 with | some y => if y = e then clsD xs else putK (.i e.1) (.bl true) (clsD xs) | none => clsD xs := by
  unfold clsD
  rw [List.foldl_append, List.foldl_cons, List.foldl_nil]
  have h := cls_fst xs ([], [])
  simp only [List.nil_append] at h
  simp only [h]
theorem look_fnd : ∀ (xs : List En) (s : Int), lookK (.i s) (fndD xs) = (fstE xs s).map trD := by
  intro xs
  induction xs using snocRec with
  | nil => intro s; rfl
  | snoc xs x ih =>
    intro s
    rw [fnd_snoc, fst_snoc]
    unfold sdM
    cases q : lookK (.i x.1) (fndD xs) with
    | some d =>
      rw [ih] at q
      rw [ih]
      by_cases c : x.1 = s
      · subst c
        cases q2 : fstE xs x.1 with
        | none => rw [q2] at q; cases q
        | some y => rfl
      · rw [if_neg c]; simp
    | none =>
      rw [ih] at q
      have qn : fstE xs x.1 = none := by
        cases q2 : fstE xs x.1 with
        | none => rfl
        | some y => rw [q2] at q; cases q
      simp only [look_put, ih]
      by_cases c : x.1 = s
      · subst c
        rw [qn]; simp
      · have c2 : ¬ Ky.i s = Ky.i x.1 := fun z => by cases z; exact c rfl
        rw [if_neg c2, if_neg c]; simp
theorem look_cls : ∀ (xs : List En) (s : Int), (lookK (.i s) (clsD xs)).isSome = clashB xs s := by
  intro xs
  induction xs using snocRec with
  | nil => intro s; rfl
  | snoc xs x ih =>
    intro s
    rw [cls_snoc, clash_snoc]
    cases q : fstE xs x.1 with
    | none =>
      simp only [ih]
      by_cases c : x.1 = s
      · subst c; simp [q]
      · simp [c]
    | some y =>
      by_cases e : y = x
      · simp only [if_pos e, ih]
        by_cases c : x.1 = s
        · subst c; simp [q, e]
        · simp [c]
      · simp only [if_neg e, look_put]
        by_cases c : x.1 = s
        · subst c; simp [q, e]
        · have c2 : ¬ Ky.i s = Ky.i x.1 := fun z => by cases z; exact c rfl
          rw [if_neg c2, ih]
          simp [c]
theorem sdM_len {k : Ky} {d : D} {kvs : List (Ky × D)} : (sdM k d kvs).length ≤ kvs.length + 1 := by
  unfold sdM
  split
  · omega
  · exact put_len
theorem fnd_len : ∀ xs : List En, (fndD xs).length ≤ xs.length := by
  intro xs
  induction xs using snocRec with
  | nil => simp [fndD]
  | snoc xs x ih =>
    rw [fnd_snoc, List.length_append]
    exact Nat.le_trans sdM_len (by simp; exact ih)
theorem clsD_len : ∀ xs : List En, (clsD xs).length ≤ xs.length := by
  intro xs
  induction xs using snocRec with
  | nil => simp [clsD]
  | snoc xs x ih =>
    rw [cls_snoc, List.length_append]
    have hp := put_len (k := .i x.1) (d := .bl true) (kvs := clsD xs)
    simp only [List.length_singleton]
    split
    · split
      · omega
      · omega
    · omega
theorem sdV_fnd (xs : List En) (e : En) : sdV (.i e.1) (trD e) (fndD xs) = trD ((fstE xs e.1).getD e) := by
  unfold sdV
  rw [look_fnd]
  cases fstE xs e.1 <;> rfl
def putD (xs : List En) : List (Ky × D) := xs.foldl (fun kvs e => putK (.i e.1) (trD e) kvs) []
theorem put_snoc (xs : List En) (e : En) : putD (xs ++ [e]) = putK (.i e.1) (trD e) (putD xs) := by simp [putD]
theorem look_putD : ∀ (xs : List En) (s : Int), lookK (.i s) (putD xs) = (lstE xs s).map trD := by
  intro xs
  induction xs using snocRec with
  | nil => intro s; rfl
  | snoc xs x ih =>
    intro s
    rw [put_snoc, look_put, ih]
    unfold lstE
    rw [List.reverse_append]
    simp only [List.reverse_cons, List.reverse_nil, List.nil_append, List.singleton_append]
    unfold fstE
    rw [List.find?_cons]
    by_cases c : x.1 = s
    · subst c; simp
    · have c2 : ¬ Ky.i s = Ky.i x.1 := fun z => by cases z; exact c rfl
      rw [if_neg c2]; simp [c]
theorem putD_len : ∀ xs : List En, (putD xs).length ≤ xs.length := by
  intro xs
  induction xs using snocRec with
  | nil => simp [putD]
  | snoc xs x ih =>
    rw [put_snoc, List.length_append]
    exact Nat.le_trans put_len (by simp; exact ih)
theorem lst_agree {xs : List En} (ha : Agree xs) (s : Int) : lstE xs s = fstE xs s := by
  unfold lstE
  exact fst_eq_of_mem (fun e he f hf => ha e (List.mem_reverse.mp he) f (List.mem_reverse.mp hf)) ha (fun e => List.mem_reverse) s
def untL (xs : List En) : List En := (List.range 99).filterMap fun (k : Nat) => lstE xs (1 + (k : Int))
theorem unt_agree {xs : List En} (ha : Agree xs) : untL xs = ordL xs := by
  unfold untL ordL
  simp only [lst_agree ha]
theorem unt_len (xs : List En) : (untL xs).length ≤ 99 := Nat.le_trans (List.length_filterMap_le _ _) (by simp)
end Qk

set_option linter.all false
set_option maxHeartbeats 4000000
set_option maxRecDepth 100000
namespace Qk
open PySem
theorem sub_filter {α : Type} [DecidableEq α] {xs l : List α} (h : xs.Sublist l) (n : l.Nodup) : (l.filter fun p => decide (p ∈ xs)) = xs := by
  induction h with
  | slnil => rfl
  | @cons xs l a h ih =>
    have n2 := List.nodup_cons.mp n
    have ha : a ∉ xs := fun q => n2.1 (h.subset q)
    rw [List.filter_cons, if_neg (by simpa using ha)]
    exact ih n2.2
  | @cons_cons xs l a h ih =>
    have n2 := List.nodup_cons.mp n
    rw [List.filter_cons, if_pos (by simp)]
    refine congrArg (List.cons a) ?_
    rw [← ih n2.2]
    refine List.filter_congr fun p hp => ?_
    have : p ≠ a := fun e => n2.1 (e ▸ hp)
    rw [ih n2.2]
    simp [this]
theorem allP_nodup : allP.Nodup := by decide +kernel
theorem norm_sub {xs : List Pr} (h : xs.Sublist allP) : norm xs = xs := by
  have := sub_filter h allP_nodup
  unfold norm
  exact Eq.trans (List.filter_congr fun p _ => by congr) this
def prAt (k : Nat) (a : Nat) : Pr := ((a / k : Nat), (a % k : Nat))
def prsT (n k : Nat) : List Pr := (List.range (n * k)).map (prAt k)
theorem prsT_sub {n k : Nat} (hn : n ≤ 4) (hk : k ≤ 8) : (prsT n k).Sublist allP := by
  have : ∀ n < 5, ∀ k < 9, (prsT n k).Sublist allP := by decide +kernel
  exact this n (by omega) k (by omega)
theorem prsT_mem {n k : Nat} {p : Pr} (h : p ∈ prsT n k) : 0 ≤ p.1 ∧ p.1 < n ∧ 0 ≤ p.2 ∧ p.2 < k := by
  obtain ⟨a, ha, rfl⟩ := List.mem_map.mp h
  have ha := List.mem_range.mp ha
  have hk : 0 < k := by
    rcases Nat.eq_zero_or_pos k with h | h
    · subst h; simp at ha
    · exact h
  have h1 : a / k < n := Nat.div_lt_of_lt_mul (by rw [Nat.mul_comm]; exact ha)
  have h2 : a % k < k := Nat.mod_lt _ hk
  refine ⟨Int.natCast_nonneg _, Int.ofNat_lt.mpr h1, Int.natCast_nonneg _, Int.ofNat_lt.mpr h2⟩
def RelOk (n k : Nat) (xs : List Pr) : Prop := xs.Sublist (prsT n k)
theorem RelOk.norm {n k : Nat} {xs : List Pr} (h : RelOk n k xs) (hn : n ≤ 4) (hk : k ≤ 8) : norm xs = xs := norm_sub (List.Sublist.trans h (prsT_sub hn hk))
theorem RelOk.inR {n k : Nat} {xs : List Pr} (h : RelOk n k xs) (hn : n ≤ 4) (hk : k ≤ 8) : InR xs := fun p hp => (List.Sublist.trans h (prsT_sub hn hk)).subset hp
theorem RelOk.mem {n k : Nat} {xs : List Pr} (h : RelOk n k xs) {p : Pr} (hp : p ∈ xs) : 0 ≤ p.1 ∧ p.1 < n ∧ 0 ≤ p.2 ∧ p.2 < k := prsT_mem (h.subset hp)
theorem RelOk.len {n k : Nat} {xs : List Pr} (h : RelOk n k xs) (hn : n ≤ 4) (hk : k ≤ 8) : xs.length ≤ 32 := (List.Sublist.trans h (prsT_sub hn hk)).length_le
theorem addNew_pre (r : List (Int × Int)) : ∀ acc : List Int, ∃ l, addNew acc r = acc ++ l := by
  induction r with
  | nil => exact fun acc => ⟨[], by simp [addNew]⟩
  | cons p r ih =>
    intro acc
    have e : addNew acc (p :: r) = addNew (if p.1 ∈ acc then acc else acc ++ [p.1]) r := rfl
    rw [e]
    by_cases c : p.1 ∈ acc
    · rw [if_pos c]; exact ih acc
    · rw [if_neg c]
      obtain ⟨l, h⟩ := ih (acc ++ [p.1])
      exact ⟨p.1 :: l, by rw [h, List.append_assoc]; rfl⟩
theorem addNew_has (r : List (Int × Int)) : ∀ (acc : List Int), ∀ p ∈ r, p.1 ∈ addNew acc r := by
  induction r with
  | nil => intro _ p hp; cases hp
  | cons q r ih =>
    intro acc p hp
    have e : addNew acc (q :: r) = addNew (if q.1 ∈ acc then acc else acc ++ [q.1]) r := rfl
    rw [e]
    rcases List.mem_cons.mp hp with rfl | hp
    · obtain ⟨l, h⟩ := addNew_pre r (if p.1 ∈ acc then acc else acc ++ [p.1])
      rw [h]
      refine List.mem_append_left _ ?_
      by_cases c : p.1 ∈ acc
      · rw [if_pos c]; exact c
      · rw [if_neg c]; simp
    · exact ih _ p hp
theorem turn_pre (t : Tb) (k : Nat) (acc : List Int) : ∃ l, turn t k acc = acc ++ l := by
  unfold turn
  cases acc[k]? with
  | none => exact ⟨[], by simp⟩
  | some x => exact addNew_pre _ _
theorem turns_pre (t : Tb) : ∀ (n k : Nat) (acc : List Int), ∃ l, turns t n k acc = acc ++ l
  | 0, _, acc => ⟨[], by simp [turns]⟩
  | n + 1, k, acc => by
    obtain ⟨l1, h1⟩ := turn_pre t k acc
    obtain ⟨l2, h2⟩ := turns_pre t n (k + 1) (turn t k acc)
    exact ⟨l1 ++ l2, by show turns t n (k + 1) (turn t k acc) = _; rw [h2, h1, List.append_assoc]⟩
theorem reach_zero (t : Tb) : (0 : Int) ∈ reachS t := by
  obtain ⟨l, h⟩ := turns_pre t t.length 0 [0]
  unfold reachS
  rw [h]
  simp
def Clo (t : Tb) (k : Nat) (acc : List Int) : Prop := ∀ (i : Nat) (x : Int), i < k → acc[i]? = some x → ∀ p ∈ t.getD x.toNat [], p.1 ∈ acc
theorem clo_turns (t : Tb) : ∀ (n k : Nat) (acc : List Int), k ≤ acc.length ∨ acc.length ≤ k → Clo t k acc → Clo t (k + n) (turns t n k acc)
  | 0, k, acc, _, h => h
  | n + 1, k, acc, _, h => by
    have h1 : Clo t (k + 1) (turn t k acc) := by
      obtain ⟨l, el⟩ := turn_pre t k acc
      intro i x hi hx p hp
      by_cases hk : i < k
      · by_cases c : i < acc.length
        · rw [el, List.getElem?_append_left c] at hx
          rw [el]
          exact List.mem_append_left _ (h i x hk hx p hp)
        · have : turn t k acc = acc := by unfold turn; rw [List.getElem?_eq_none (by omega)]
          rw [this, List.getElem?_eq_none (by omega)] at hx
          cases hx
      · have e : i = k := by omega
        subst e
        cases ek : acc[i]? with
        | none =>
          have e2 : turn t i acc = acc := by unfold turn; rw [ek]
          rw [e2, ek] at hx
          cases hx
        | some y =>
          have hl : i < acc.length := (List.getElem?_eq_some_iff.mp ek).1
          rw [el, List.getElem?_append_left hl, ek] at hx
          cases hx
          have e2 : turn t i acc = addNew acc (t.getD x.toNat []) := by unfold turn; rw [ek]
          rw [e2]
          exact addNew_has _ acc p hp
    have h2 := clo_turns t n (k + 1) (turn t k acc) (by omega) h1
    rw [show k + (n + 1) = k + 1 + n by omega]
    exact h2
theorem reach_clo {s o : Nat} {t : Tb} (h : Good s o t) (hs1 : 1 ≤ s) {x : Int} (hx : x ∈ reachS t) {op : Nat} (ho : op < o) : (at_ t x op).1 ∈ reachS t := by
  have R := reach_ok h hs1
  have hl := nodup_len s _ R
  have c : Clo t (0 + t.length) (reachS t) := clo_turns t t.length 0 [0] (.inl (Nat.zero_le _)) (fun i x hi => by omega)
  obtain ⟨i, hi, e⟩ := List.getElem_of_mem hx
  obtain ⟨r, h1, h2, _⟩ := row_at h (R.lt x hx)
  obtain ⟨r', h3, h4, _, _⟩ := at_ok h (R.lt x hx) ho
  have : r' = r := by rw [h1] at h3; cases h3; rfl
  subst this
  refine c i x (by rw [h.1]; omega) (by rw [List.getElem?_eq_getElem hi, e]) _ ?_
  rw [h2]
  exact List.mem_of_getElem? h4
theorem kindsTo_mem {t : Tb} {p : Pr} : ∀ {n : Nat}, p ∈ kindsTo t n ↔ ∃ k : Nat, k < n ∧ ∃ a : Nat, a < 4 ∧ (a : Int) ∈ ansS t k ∧ p = ((k : Int), (a : Int))
  | 0 => by simp [kindsTo]
  | n + 1 => by
    rw [kindsTo_succ, List.mem_append, kindsTo_mem]
    unfold kindsAt
    constructor
    · rintro (⟨k, hk, a, ha, h1, h2⟩ | h)
      · exact ⟨k, by omega, a, ha, h1, h2⟩
      · obtain ⟨a, ha, rfl⟩ := List.mem_map.mp h
        obtain ⟨h1, h2⟩ := List.mem_filter.mp ha
        exact ⟨n, by omega, a, List.mem_range.mp h1, by simpa using h2, rfl⟩
    · rintro ⟨k, hk, a, ha, h1, rfl⟩
      by_cases e : k = n
      · subst e
        exact .inr (List.mem_map.mpr ⟨a, List.mem_filter.mpr ⟨List.mem_range.mpr ha, by simpa using h1⟩, rfl⟩)
      · exact .inl ⟨k, by omega, a, ha, h1, rfl⟩
theorem kinds_has {s o : Nat} {t : Tb} (h : Good s o t) (hs1 : 1 ≤ s) {x : Int} (hx : x ∈ reachS t) {op : Nat} (ho : op < o) : ((op : Int), (at_ t x op).2) ∈ kindsS t := by
  obtain ⟨eo, _⟩ := ops_good h hs1
  unfold kindsS
  rw [eo, kindsTo_mem]
  obtain ⟨r, _, _, _, h4⟩ := at_ok h ((reach_ok h hs1).lt x hx) ho
  obtain ⟨_, _, h5, h6⟩ := h4
  refine ⟨op, ho, (at_ t x op).2.toNat, by omega, ?_, ?_⟩
  · rw [Int.toNat_of_nonneg h5]
    exact List.mem_map.mpr ⟨x, hx, rfl⟩
  · rw [Int.toNat_of_nonneg h5]
theorem kinds_in {s o : Nat} {t : Tb} (h : Good s o t) (hs1 : 1 ≤ s) {p : Pr} (hp : p ∈ kindsS t) : ∃ k : Nat, k < o ∧ ∃ a : Nat, a < 4 ∧ p = ((k : Int), (a : Int)) := by
  obtain ⟨eo, _⟩ := ops_good h hs1
  unfold kindsS at hp
  rw [eo, kindsTo_mem] at hp
  obtain ⟨k, hk, a, ha, _, e⟩ := hp
  exact ⟨k, hk, a, ha, e⟩
def kindN (t : Tb) (x : Int) (op : Nat) : Nat := @List.idxOf (Int × Int) instBEqOfDecidableEq ((op : Int), (at_ t x op).2) (kindsS t)
theorem kindN_lt {s o : Nat} {t : Tb} (h : Good s o t) (hs1 : 1 ≤ s) {x : Int} (hx : x ∈ reachS t) {op : Nat} (ho : op < o) : kindN t x op < (kindsS t).length := by
  unfold kindN
  exact @List.idxOf_lt_length_of_mem (Int × Int) _ instBEqOfDecidableEq inferInstance _ (kinds_has h hs1 hx ho)
theorem band_nat (a b : Nat) : Builtin.bitAnd (a : Int) (b : Int) = ((a &&& b : Nat) : Int) := by
  unfold Builtin.bitAnd
  rw [show decide ((0 : Int) ≤ a) = true by simp, show decide ((0 : Int) ≤ b) = true by simp]
  simp
theorem bor_nat (a b : Nat) : Builtin.bitOr (a : Int) (b : Int) = ((a ||| b : Nat) : Int) := by
  unfold Builtin.bitOr Builtin.bitAnd
  rw [show decide ((0 : Int) ≤ Builtin.bitNot a) = false by simp [Builtin.bitNot]; omega, show decide ((0 : Int) ≤ Builtin.bitNot b) = false by simp [Builtin.bitNot]; omega]
  have e : ∀ x : Int, Builtin.bitNot (Builtin.bitNot x) = x := fun x => by unfold Builtin.bitNot; omega
  simp [e]
theorem shl_nat (k : Nat) : (1 : Int) * 2 ^ k = ((2 ^ k : Nat) : Int) := by rw [Int.one_mul]; simp
theorem shr_nat (m k : Nat) : (m : Int) / 2 ^ k = ((m >>> k : Nat) : Int) := by rw [Nat.shiftRight_eq_div_pow]; simp
def bitsN (P : Nat → Bool) : Nat → Nat
  | 0 => 0
  | n + 1 => bitsN P n + if P n then 2 ^ n else 0
theorem bitsN_lt (P : Nat → Bool) : ∀ n, bitsN P n < 2 ^ n
  | 0 => by simp [bitsN]
  | n + 1 => by
    have := bitsN_lt P n
    rw [Nat.pow_succ]
    unfold bitsN
    split <;> omega
theorem bitsN_bit (P : Nat → Bool) (j : Nat) : ∀ n, (bitsN P n).testBit j = (decide (j < n) && P j)
  | 0 => by simp [bitsN]
  | n + 1 => by
    have l := bitsN_lt P n
    have ih := bitsN_bit P j n
    unfold bitsN
    by_cases c : P n = true
    · rw [if_pos c, Nat.add_comm, show 2 ^ n + bitsN P n = 2 ^ n * 1 + bitsN P n by rw [Nat.mul_one], Nat.two_pow_add_eq_or_of_lt l, Nat.mul_one, Nat.testBit_or, ih, Nat.testBit_two_pow]
      by_cases e : n = j
      · subst e; simp [c]
      · by_cases h : j < n
        · simp [h, show j < n + 1 by omega, e]
        · simp [h, show ¬ j < n + 1 by omega, e]
    · rw [if_neg c, Nat.add_zero, ih]
      by_cases e : n = j
      · subst e; simp [c]
      · by_cases h : j < n
        · simp [h, show j < n + 1 by omega]
        · simp [h, show ¬ j < n + 1 by omega]
theorem bitsN_or {P Q : Nat → Bool} {n k : Nat} (hk : k < n) (h : ∀ j < n, Q j = (P j || decide (j = k))) : bitsN P n ||| 2 ^ k = bitsN Q n := by
  apply Nat.eq_of_testBit_eq
  intro j
  rw [Nat.testBit_or, bitsN_bit, bitsN_bit, Nat.testBit_two_pow]
  by_cases c : j < n
  · rw [h j c]
    by_cases e : k = j
    · subst e; simp [c]
    · have e2 : ¬ j = k := fun q => e q.symm
      simp [c, e, e2]
  · have : ¬ k = j := by omega
    simp [c, this]
theorem bitsN_and0 {P Q : Nat → Bool} {n m : Nat} : bitsN P n &&& bitsN Q m = 0 ↔ ∀ j, j < n → j < m → ¬ (P j = true ∧ Q j = true) := by
  constructor
  · intro h j hn hm ⟨h1, h2⟩
    have := congrArg (fun x => Nat.testBit x j) h
    simp [Nat.testBit_and, bitsN_bit, hn, hm, h1, h2] at this
  · intro h
    apply Nat.eq_of_testBit_eq
    intro j
    rw [Nat.testBit_and, bitsN_bit, bitsN_bit, Nat.zero_testBit]
    by_cases hn : j < n
    · by_cases hm : j < m
      · have := h j hn hm
        cases hp : P j <;> cases hq : Q j <;> simp_all
      · simp [hm]
    · simp [hn]
theorem bitsN_shr0 {P : Nat → Bool} {n k : Nat} : bitsN P n >>> k = 0 ↔ ∀ j, k ≤ j → j < n → P j = false := by
  constructor
  · intro h j hk hn
    have := congrArg (fun x => Nat.testBit x (j - k)) h
    simp only [Nat.testBit_shiftRight, bitsN_bit, Nat.zero_testBit] at this
    rw [show k + (j - k) = j by omega] at this
    simpa [hn] using this
  · intro h
    apply Nat.eq_of_testBit_eq
    intro j
    rw [Nat.testBit_shiftRight, bitsN_bit, Nat.zero_testBit]
    by_cases hn : k + j < n
    · rw [h (k + j) (by omega) hn]; simp
    · simp [hn]
theorem bitsN_one {P : Nat → Bool} {n k : Nat} : (bitsN P n >>> k) &&& 1 = 1 ↔ k < n ∧ P k = true := by
  have e : (bitsN P n >>> k) &&& 1 = ((bitsN P n).testBit k).toNat := by
    rw [Nat.and_one_is_mod, Nat.testBit, Nat.one_and_eq_mod_two]
    rcases Nat.mod_two_eq_zero_or_one (bitsN P n >>> k) with h | h <;> simp [h]
  rw [e, bitsN_bit]
  by_cases h : k < n <;> cases P k <;> simp [h]
structure Wk where
  one : Int
  two : Int
  left : List Nat
abbrev St := Nat × Bool
def wk0 : Wk := ⟨0, 0, []⟩
def stepW (t : Tb) (w : Wk) (s : St) : Wk :=
  if s.2 then ⟨(at_ t w.one s.1).1, (at_ t w.two s.1).1, w.left⟩ else ⟨(at_ t w.one s.1).1, w.two, w.left ++ [kindN t w.one s.1]⟩
def barred (rel : List Pr) (op : Nat) (left : List Nat) : List Nat := left.filter fun (k : Nat) => decide (((op : Int), (k : Int)) ∈ rel)
def okStep (t : Tb) (rel : List Pr) (o : Nat) (w : Wk) (s : St) : Prop := s.1 < o ∧ (s.2 = true → barred rel s.1 w.left = [] ∧ (at_ t w.two s.1).2 = (at_ t w.one s.1).2)
def okSteps (t : Tb) (rel : List Pr) (o : Nat) : Wk → List St → Prop
  | _, [] => True
  | w, s :: ss => okStep t rel o w s ∧ okSteps t rel o (stepW t w s) ss
def walkW (t : Tb) (w : Wk) (ss : List St) : Wk := ss.foldl (stepW t) w
structure WkOk (t : Tb) (w : Wk) : Prop where
  one : w.one ∈ reachS t
  two : w.two ∈ reachS t
  left : ∀ k ∈ w.left, k < (kindsS t).length
theorem wk0_ok (t : Tb) : WkOk t wk0 := ⟨reach_zero t, reach_zero t, fun k hk => by cases hk⟩
theorem stepW_ok {s o : Nat} {t : Tb} (h : Good s o t) (hs1 : 1 ≤ s) {w : Wk} (hw : WkOk t w) {x : St} (hx : x.1 < o) : WkOk t (stepW t w x) := by
  unfold stepW
  split
  · exact ⟨reach_clo h hs1 hw.one hx, reach_clo h hs1 hw.two hx, hw.left⟩
  · refine ⟨reach_clo h hs1 hw.one hx, hw.two, fun k hk => ?_⟩
    rcases List.mem_append.mp hk with q | q
    · exact hw.left k q
    · rw [List.mem_singleton.mp q]
      exact kindN_lt h hs1 hw.one hx
theorem okSteps_append {t : Tb} {rel : List Pr} {o : Nat} : ∀ {w : Wk} {xs ys : List St}, okSteps t rel o w (xs ++ ys) ↔ okSteps t rel o w xs ∧ okSteps t rel o (walkW t w xs) ys
  | w, [], ys => by simp [okSteps, walkW]
  | w, x :: xs, ys => by
    show okStep t rel o w x ∧ okSteps t rel o (stepW t w x) (xs ++ ys) ↔ (okStep t rel o w x ∧ okSteps t rel o (stepW t w x) xs) ∧ okSteps t rel o (walkW t (stepW t w x) xs) ys
    rw [okSteps_append, and_assoc]
def leftM (left : List Nat) : Nat := bitsN (fun k => decide (k ∈ left)) 8
def boundM (rel : List Pr) (nk : Nat) (op : Nat) : Nat := bitsN (fun k => decide (((op : Int), (k : Int)) ∈ rel)) nk
theorem bound_left {rel : List Pr} {nk op : Nat} {left : List Nat} (hl : ∀ k ∈ left, k < nk) (hk : nk ≤ 8) : boundM rel nk op &&& leftM left = 0 ↔ barred rel op left = [] := by
  unfold boundM leftM barred
  rw [bitsN_and0, List.filter_eq_nil_iff]
  constructor
  · intro h k hkl
    have := h k (hl k hkl) (by have := hl k hkl; omega)
    simpa [hkl] using this
  · intro h j h1 h2 ⟨h3, h4⟩
    exact h j (by simpa using h4) h3
theorem left_add {left : List Nat} {k : Nat} (hk : k < 8) : leftM left ||| 2 ^ k = leftM (left ++ [k]) := by
  unfold leftM
  refine bitsN_or hk fun j hj => ?_
  by_cases h1 : j ∈ left <;> by_cases h2 : j = k <;> simp [h1, h2]
theorem leftM_lt (left : List Nat) : leftM left < 256 := bitsN_lt _ 8
theorem boundM_lt (rel : List Pr) {nk : Nat} (op : Nat) (hk : nk ≤ 8) : boundM rel nk op < 256 := by
  have := bitsN_lt (fun (k : Nat) => decide (((op : Int), (k : Int)) ∈ rel)) nk
  have : 2 ^ nk ≤ 2 ^ 8 := Nat.pow_le_pow_right (by decide) hk
  unfold boundM
  omega
theorem gdC_okP {g : Gd} {f : D → Sto → R (Option D × Sto)} {x : D} {d : Option D} {st : Sto} (hg : GdOk g st) (h : f x st = .ok (d, st)) : gdC g f x st = .ok (d, st) := by
  unfold gdC
  cases g with
  | none => exact h
  | some p => simp only [h, hg p rfl, if_true]
theorem comp_ifG {α : Type} {G : List Fn} {C : List Int} {δ : Sls} {st : Sto} {elt : E} {tg : Tg} {it : I} {cs : Es} {own : List Nat} {inj : α → D} {g : α → D} {p : α → Bool} {xs : List α} {gd : Gd} (hi : evalI G C it δ st = .ok ((xs.map inj, gd), st)) (hg : GdOk gd st) (hl : xs.length ≤ Lim)
    (h : ∀ x ∈ xs, evalComp G C elt tg cs own δ (inj x) st = .ok (if p x then some (g x) else none, st)) : evalE G C (.comp elt tg it cs own) δ st = .ok (.lst ((xs.filter p).map g), st) := by
  rw [ev_comp, hi, bind_ok, comp_flt xs [] (p := p) (g := g) (fun x hx hp => gdC_okP hg (by rw [h x hx, hp]; rfl)) (fun x hx hp => gdC_okP hg (by rw [h x hx, hp]; rfl)) (by simpa using hl)]
  rfl
def natD (k : Nat) : D := .int k
theorem fm_nat : Fm 0 natD := ⟨fun _ => rfl, fun a b => by simp [natD, D.toP, PyData.eqv]; omega⟩
theorem natD_eq (k : Nat) : D.int (k : Int) = natD k := rfl
def stD (s : St) : D := .tup [.int s.1, .bl s.2]
theorem fm_st : Fm 1 stD := by
  have := fm_pr fm_nat fm_bl
  exact this
section
variable {st : Sto} {ks js : List Nat} {k : Nat}
theorem eq_natN : cmpP .eq st (.d (.lst (ks.map natD))) (.d (.lst [])) = some (decide (ks = [])) := ((fm_lst fm_nat).mono (by omega)).eq (x := ks) (y := []) rfl rfl
theorem ne_natN : cmpP .ne st (.d (.lst (ks.map natD))) (.d (.lst [])) = some (!decide (ks = [])) := ((fm_lst fm_nat).mono (by omega)).ne (x := ks) (y := []) rfl rfl
theorem in_nat {p : Pl} (h : seqOf st p = some (ks.map natD)) : cmpP .in_ st (.d (.int (k : Int))) p = some (decide (k ∈ ks)) := (fm_nat.mono (by omega)).in_ (x := k) h
theorem nin_nat {p : Pl} (h : seqOf st p = some (ks.map natD)) : cmpP .nin st (.d (.int (k : Int))) p = some (!decide (k ∈ ks)) := (fm_nat.mono (by omega)).nin (x := k) h
theorem gdOk_at {l : Nat} {ds : List D} (h : lstAt st l = some ds) : GdOk (some (l, ds)) st := by
  intro p hp
  cases hp
  unfold lstAt at h
  split at h
  · cases h; assumption
  · cases h
theorem dS_at {l : Nat} {ds : List D} (h : lstAt st l = some ds) : dS st (.loc l) = some (ds, some (l, ds)) := dS_loc (gdOk_at h _ rfl)
end
theorem for_typ {α A : Type} {f : D → Sls → Sto → O} {inj : α → D} {mk : A → Sls} {sm : A → Sto} {P : List α → A → Prop} (xs : List α)
    (step : ∀ don x rest a, xs = don ++ x :: rest → P don a → ∃ a', P (don ++ [x]) a' ∧ f (inj x) (mk a) (sm a) = .nx (mk a') (sm a')) {a : A} (h : P [] a) :
    ∃ a', P xs a' ∧ forLoop f (xs.map inj) (mk a) (sm a) = .nx (mk a') (sm a') := by
  have go : ∀ (ys don : List α) (a : A), xs = don ++ ys → P don a → ∃ a', P (don ++ ys) a' ∧ forLoop f (ys.map inj) (mk a) (sm a) = .nx (mk a') (sm a') := by
    intro ys
    induction ys with
    | nil => exact fun don a _ h => ⟨a, by simpa using h, rfl⟩
    | cons y ys ih =>
      intro don a hy h
      obtain ⟨a1, h1, e1⟩ := step don y ys a hy h
      obtain ⟨a2, h2, e2⟩ := ih (don ++ [y]) a1 (by simpa using hy) h1
      exact ⟨a2, by simpa using h2, for_cons e2 e1⟩
  obtain ⟨a', h1, e⟩ := go xs [] a rfl h
  exact ⟨a', h1, e⟩
theorem len_of {α : Type} {xs don rest : List α} {x : α} (h : xs = don ++ x :: rest) : don.length < xs.length := by rw [h]; simp
theorem mem_of {α : Type} {xs don rest : List α} {x : α} (h : xs = don ++ x :: rest) : x ∈ xs := by rw [h]; simp
theorem rng_of {n : Nat} {don rest : List Nat} {k : Nat} (h : List.range n = don ++ k :: rest) : k = don.length ∧ k < n ∧ don = List.range k := by
  have hl := len_of h
  rw [List.length_range] at hl
  have e : (List.range n)[don.length]? = some k := by rw [h]; simp
  rw [List.getElem?_range hl] at e
  have ek : k = don.length := by cases e; rfl
  refine ⟨ek, by omega, ?_⟩
  have := congrArg (List.take k) h
  rw [List.take_range, ek, List.take_left' rfl, ← ek, Nat.min_eq_left (by omega)] at this
  exact this.symm
theorem rng_nat (n : Nat) : rng n = (List.range n).map natD := rfl
def enD (ds : List D) : List D := ds.zipIdx.map fun p => .tup [.int (p.2 : Nat), p.1]
def dSe (st : Sto) : D → Option (List D × Gd)
  | .lst ds => some (ds, none)
  | .scr ds => some (ds, none)
  | .loc l => match st[l]? with | some (.lst ds) => some (ds, some (l, ds)) | _ => none
  | _ => none
@[simp] theorem dSe_l {st : Sto} {ds : List D} : dSe st (.lst ds) = some (ds, none) := nr rfl
theorem ei_enum_0 {G : List Fn} {C : List Int} {δ : Sls} {st : Sto} {e : E} : evalI G C (.enum e) δ st = (evalE G C e δ st).bind fun r => onO .stuck (dSe r.2 r.1) fun p => .ok ((enD p.1, p.2), r.2) := by
  simp only [evalI]
  refine congrArg _ (funext fun r => ?_)
  rcases r with ⟨d, s⟩
  cases d <;> first | rfl | skip
  rename_i l
  simp only [dSe]
  cases s[l]? with
  | none => rfl
  | some m => cases m <;> rfl
@[simp] theorem ei_enum {G : List Fn} {C : List Int} {δ : Sls} {st : Sto} {e : E} : evalI G C (.enum e) δ st = (evalE G C e δ st).bt (fun r => onOt .stuck (dSe r.2 r.1) (fun p => .ok ((enD p.1, p.2), r.2)) ()) () := ei_enum_0
theorem enD_map {α : Type} {f : α → D} (xs : List α) : enD (xs.map f) = xs.zipIdx.map fun p => .tup [.int (p.2 : Nat), f p.1] := by
  unfold enD
  rw [List.zipIdx_map, List.map_map]
  rfl
theorem forF_t {G : List Fn} {C : List Int} {δ : Sls} {st : Sto} {ts : Tgs} {b : Ss} {x : D} : forF G C (.t ts) b x δ st = onOt .stuck ((Tg.t ts).bind x δ) (fun δ2 => execs G C b δ2 st) () := by
  unfold forF onOt
  cases (Tg.t ts).bind x δ <;> rfl
@[simp] theorem bv_band {i j : Int} : binV .band (.int i) (.int j) = some (.int (Builtin.bitAnd i j)) := nr rfl
@[simp] theorem bv_bor {i j : Int} : binV .bor (.int i) (.int j) = some (.int (Builtin.bitOr i j)) := nr rfl
section
variable {G : List Fn} {C : List Int} {δ : Sls} {st : Sto}
theorem ev_lstS_0 {e : E} {es : Es} : evalE G C (.lstS e es) δ st = (evalP G C e δ st).bind fun r => onO .stuck (seqOf r.2 r.1) fun ds => (evalEs G C es δ r.2).bind fun q => if (ds ++ q.1).length ≤ Lim then .ok (.lst (ds ++ q.1), q.2) else .stuck := by
  simp only [evalE]
  refine congrArg _ (funext fun r => ?_)
  cases seqOf r.2 r.1 <;> rfl
@[simp] theorem ev_lstS {e : E} {es : Es} : evalE G C (.lstS e es) δ st = (evalP G C e δ st).bt (fun r => onOt .stuck (seqOf r.2 r.1) (fun ds => (evalEs G C es δ r.2).bt (fun q => if (ds ++ q.1).length ≤ Lim then .ok (.lst (ds ++ q.1), q.2) else .stuck) ()) ()) () := ev_lstS_0
theorem ev_tupS_0 {e : E} {es : Es} : evalE G C (.tupS e es) δ st = (evalP G C e δ st).bind fun r => onO .stuck (seqOf r.2 r.1) fun ds => (evalEs G C es δ r.2).bind fun q => if (ds ++ q.1).length ≤ Lim then .ok (.tup (ds ++ q.1), q.2) else .stuck := by
  simp only [evalE]
  refine congrArg _ (funext fun r => ?_)
  cases seqOf r.2 r.1 <;> rfl
@[simp] theorem ev_tupS {e : E} {es : Es} : evalE G C (.tupS e es) δ st = (evalP G C e δ st).bt (fun r => onOt .stuck (seqOf r.2 r.1) (fun ds => (evalEs G C es δ r.2).bt (fun q => if (ds ++ q.1).length ≤ Lim then .ok (.tup (ds ++ q.1), q.2) else .stuck) ()) ()) () := ev_tupS_0
theorem ex_iop_0 {i f : Nat} {c : Cl} {o : Bo} {e : E} : exec G C (.iop i f c o e) δ st = onO .stuck (slV δ i) fun d => (evalE G C e δ st).toO δ fun r => onO .stuck (insOf r.2 c (.d d)) fun _ => onO .stuck (nth G f) fun F => (F [d, r.1] r.2).toO δ fun q => .nx (δ.set i (.val q.1)) q.2 := by
  simp only [exec, slV]
  cases δ[i]? with
  | none => rfl
  | some x =>
    cases x <;> first | rfl | skip
    simp only [onO_some]
    refine congrArg _ (funext fun r => ?_)
    cases insOf r.2 c _ with
    | none => rfl
    | some _ => simp only [onO_some, nth]; cases G[f]? <;> rfl
@[simp] theorem ex_iop {i f : Nat} {c : Cl} {o : Bo} {e : E} : exec G C (.iop i f c o e) δ st = onOt .stuck (slV δ i) (fun d => (evalE G C e δ st).tt δ (fun r => onOt .stuck (insOf r.2 c (.d d)) (fun _ => onOt .stuck (nth G f) (fun F => (F [d, r.1] r.2).tt δ (fun q => .nx (δ.set i (.val q.1)) q.2) ()) ()) ()) ()) () := ex_iop_0
end
def O.finL (c : Cl) (o : O) : R (D × Sto) := match o with
  | .nx δ st' => (match (δ[0]? : Option Sl) with | some (Sl.own (M.ins c' ds)) => if c' = c then .ok (.loc st'.length, st' ++ [.ins c ds]) else .stuck | _ => .stuck)
  | .exc c ds _ st' => .exc c ds st'
  | _ => .stuck
section
variable {G : List Fn} {C : List Int} {δ : Sls} {st : Sto}
@[simp] theorem finL_nx {c : Cl} : (O.nx δ st).finL c = onOt .stuck (slI δ 0 c) (fun ds => .ok (.loc st.length, st ++ [.ins c ds])) () := by
  simp only [O.finL, slI, onOt]
  cases δ[0]? with
  | none => rfl
  | some x =>
    cases x <;> first | rfl | skip
    rename_i m
    cases m with
    | lst _ => rfl
    | dct _ _ => rfl
    | ins c' ds =>
      dsimp only
      by_cases h : c' = c
      · rw [if_pos h, if_pos h]; rfl
      · rw [if_neg h, if_neg h]; rfl
@[simp] theorem finL_exc {c c' : Cl} {ds : List D} : (O.exc c' ds δ st).finL c = .exc c' ds st := nr rfl
@[simp] theorem run_newL {c : Cl} {b : Ss} {n : Nat} {args : List D} : runNewL G C c b n args st = (execs G C b (Sl.own (.ins c []) :: env0 (n - 1) args) st).finL c := by
  simp only [runNewL, O.finL] <;> (cases execs G C b (Sl.own (.ins c []) :: env0 (n - 1) args) st <;> rfl)
end
theorem insOf_at {st : Sto} {l : Nat} {c : Cl} {ds : List D} (h : st[l]? = some (.ins c ds)) : insOf st c (.d (.loc l)) = some ds := by
  simp only [insOf, h, if_true]
theorem setFLoc_eq {G : List Fn} {C : List Int} {δ : Sls} {st : Sto} {i l k : Nat} {c : Cl} {e : E} (h : δ[i]? = some (.val (.loc l))) : setFLoc G C i c k e δ st = (evalE G C e δ st).tt δ (fun r => onOt .stuck (insOf r.2 c (.d (.loc l))) (fun ds => onOt .stuck (setAt ds k r.1) (fun ds' => .nx δ (r.2.set l (.ins c ds'))) ()) ()) () := by
  have e1 : setFLoc G C i c k e δ st = (evalE G C e δ st).toO δ fun r => onO .stuck (insOf r.2 c (.d (.loc l))) fun ds => onO .stuck (setAt ds k r.1) fun ds' => .nx δ (r.2.set l (.ins c ds')) := by
    unfold setFLoc
    simp only [exec, h]
    refine congrArg _ (funext fun r => ?_)
    simp only [insOf]
    cases r.2[l]? with
    | none => rfl
    | some m =>
      cases m <;> first | rfl | skip
      rename_i c' ds
      simp only
      by_cases q : c' = c
      · subst q
        simp only [if_true, onO_some]
        cases setAt ds k r.1 <;> rfl
      · simp only [if_neg q]; rfl
  exact e1
@[simp] theorem slI_0v {d : D} {δ : Sls} {c : Cl} : slI (.val d :: δ) 0 c = none := by simp [slI]
theorem kd_ins {cs : List Cl} {st : Sto} {l : Nat} {c : Cl} {ds : List D} (h : st[l]? = some (.ins c ds)) (hc : c ∈ cs) : kindP cs st (.d (.loc l)) = some (.cls c) := by
  simp only [kindP, h, if_pos hc]
def Asc (xs : List En) : Prop := xs.Pairwise fun e f => e.1 < f.1
theorem asc_ext : ∀ {xs ys : List En}, Asc xs → Asc ys → (∀ e, e ∈ xs ↔ e ∈ ys) → xs = ys
  | [], [], _, _, _ => rfl
  | [], y :: _, _, _, h => by have := (h y).mpr List.mem_cons_self; cases this
  | x :: _, [], _, _, h => by have := (h x).mp List.mem_cons_self; cases this
  | x :: xs, y :: ys, hx, hy, h => by
    obtain ⟨hx1, hx2⟩ := List.pairwise_cons.mp hx
    obtain ⟨hy1, hy2⟩ := List.pairwise_cons.mp hy
    have e : x = y := by
      rcases List.mem_cons.mp ((h x).mp List.mem_cons_self) with q | q
      · exact q
      · rcases List.mem_cons.mp ((h y).mpr List.mem_cons_self) with r | r
        · exact r.symm
        · have := hy1 x q
          have := hx1 y r
          omega
    subst e
    refine congrArg _ (asc_ext hx2 hy2 fun e => ⟨fun he => ?_, fun he => ?_⟩)
    · rcases List.mem_cons.mp ((h e).mp (List.mem_cons_of_mem _ he)) with q | q
      · have := hx1 e he
        rw [q] at this
        omega
      · exact q
    · rcases List.mem_cons.mp ((h e).mpr (List.mem_cons_of_mem _ he)) with q | q
      · have := hy1 e he
        rw [q] at this
        omega
      · exact q
theorem asc_agree : ∀ {xs : List En}, Asc xs → Agree xs
  | [], _ => fun e he => by cases he
  | x :: xs, h => fun e he f hf ef => by
    obtain ⟨h1, h2⟩ := List.pairwise_cons.mp h
    rcases List.mem_cons.mp he with q | q <;> rcases List.mem_cons.mp hf with r | r
    · rw [q, r]
    · have := h1 f r; rw [q] at ef; omega
    · have := h1 e q; rw [r] at ef; omega
    · exact asc_agree h2 e q f r ef
theorem asc_ord (xs : List En) : Asc (ordL xs) := by
  unfold Asc ordL
  rw [List.pairwise_filterMap]
  refine List.Pairwise.imp (fun {a b} hab => ?_) List.pairwise_lt_range
  intro e he f hf
  have h1 := (fst_mem he).2
  have h2 := (fst_mem hf).2
  omega
theorem ord_asc {xs : List En} (h : Asc xs) (hk : ∀ e ∈ xs, OkE e) : ordL xs = xs := asc_ext (asc_ord xs) h fun _ => mem_ord_agree hk (asc_agree h)
theorem Asc.sub {xs ys : List En} (h : Asc xs) (hs : ys.Sublist xs) : Asc ys := List.Pairwise.sublist hs h
theorem asc_len {xs : List En} (h : Asc xs) (hk : ∀ e ∈ xs, OkE e) : xs.length ≤ 99 := by
  rw [← ord_asc h hk]
  exact ord_len xs
def wldL (ds : List Int) : List En := (List.range ds.length).map fun (k : Nat) => ((k : Int) + 1, ds.getD k 0 % 4, ds.getD k 0 / 4)
theorem wld_asc (ds : List Int) : Asc (wldL ds) := by
  unfold Asc wldL
  rw [List.pairwise_map]
  exact List.Pairwise.imp (fun {a b} hab => by simp only; omega) List.pairwise_lt_range
theorem wld_len (ds : List Int) : (wldL ds).length = ds.length := by simp [wldL]
theorem wld_ok {ds : List Int} (hl : ds.length ≤ 99) (hd : ∀ d ∈ ds, 0 ≤ d ∧ d < 16) : ∀ e ∈ wldL ds, OkE e ∧ e.1 ≤ ds.length := fun e he => by
  obtain ⟨k, hk, rfl⟩ := List.mem_map.mp he
  have hk := List.mem_range.mp hk
  have h := hd (ds.getD k 0) (by
    rw [List.getD_eq_getElem?_getD, List.getElem?_eq_getElem hk]
    exact List.getElem_mem hk)
  generalize ds.getD k 0 = d at *
  refine ⟨⟨⟨?_, ?_⟩, ⟨?_, ?_⟩, ?_, ?_⟩, ?_⟩ <;> simp only <;> omega
section
variable {G : List Fn} {C : List Int} {δ : Sls} {st : Sto}
theorem ev_orL_0 {f : Nat} {c : Cl} {a b : E} : evalE G C (.orL f c a b) δ st = (evalE G C a δ st).bind fun r => (evalE G C b δ r.2).bind fun q => onO .stuck (insOf q.2 c (.d r.1)) fun _ => onB (seqLT q.2 q.1 || (insOf q.2 c (.d q.1)).isSome) (onO .stuck (nth G f) fun F => F [r.1, q.1] q.2) .stuck := by
  simp only [evalE]
  refine congrArg _ (funext fun r => congrArg _ (funext fun q => ?_))
  cases insOf q.2 c (.d r.1) with
  | none => rfl
  | some _ =>
    simp only [onO_some, nth]
    cases (seqLT q.2 q.1 || (insOf q.2 c (.d q.1)).isSome)
    · rfl
    · cases G[f]? <;> rfl
@[simp] theorem ev_orL {f : Nat} {c : Cl} {a b : E} : evalE G C (.orL f c a b) δ st = (evalE G C a δ st).bt (fun r => (evalE G C b δ r.2).bt (fun q => onOt .stuck (insOf q.2 c (.d r.1)) (fun _ => onBt (seqLT q.2 q.1 || (insOf q.2 c (.d q.1)).isSome) (onOt .stuck (nth G f) (fun F => F [r.1, q.1] q.2) ()) .stuck ()) ()) ()) () := ev_orL_0
theorem ev_orR_0 {f g : Nat} {c : Cl} {a b : E} : evalE G C (.orR f g c a b) δ st = (evalE G C a δ st).bind fun r => (evalE G C b δ r.2).bind fun q => onO .stuck (insOf q.2 c (.d q.1)) fun _ => onB (seqLT q.2 r.1) (onO .stuck (nth G f) fun F => F [q.1, r.1] q.2) .stuck := by
  simp only [evalE]
  refine congrArg _ (funext fun r => congrArg _ (funext fun q => ?_))
  cases insOf q.2 c (.d q.1) with
  | none => rfl
  | some _ =>
    simp only [onO_some, nth]
    cases seqLT q.2 r.1
    · rfl
    · cases G[f]? <;> rfl
@[simp] theorem ev_orR {f g : Nat} {c : Cl} {a b : E} : evalE G C (.orR f g c a b) δ st = (evalE G C a δ st).bt (fun r => (evalE G C b δ r.2).bt (fun q => onOt .stuck (insOf q.2 c (.d q.1)) (fun _ => onBt (seqLT q.2 r.1) (onOt .stuck (nth G f) (fun F => F [q.1, r.1] q.2) ()) .stuck ()) ()) ()) () := ev_orR_0
@[simp] theorem slt_l {ds : List D} : seqLT st (.lst ds) = true := nr rfl
@[simp] theorem slt_t {ds : List D} : seqLT st (.tup ds) = true := nr rfl
@[simp] theorem insOf_lst {c : Cl} {ds : List D} : insOf st c (.d (.lst ds)) = none := nr rfl
@[simp] theorem insOf_tup {c : Cl} {ds : List D} : insOf st c (.d (.tup ds)) = none := nr rfl
end
theorem ex_shrO_0 {G : List Fn} {C : List Int} {δ : Sls} {st : Sto} {i : Nat} : exec G C (.shrO i) δ st = onO .stuck (slL δ i) fun ds => .nx (δ.set i (.val (.loc st.length))) (st ++ [.lst ds]) := by
  simp only [exec, slL]
  cases δ[i]? with
  | none => rfl
  | some x =>
    cases x <;> first | rfl | skip
    rename_i m
    cases m <;> rfl
@[simp] theorem ex_shrO {G : List Fn} {C : List Int} {δ : Sls} {st : Sto} {i : Nat} : exec G C (.shrO i) δ st = onOt .stuck (slL δ i) (fun ds => .nx (δ.set i (.val (.loc st.length))) (st ++ [.lst ds])) () := ex_shrO_0
end Qk

set_option linter.all false
set_option maxHeartbeats 4000000
set_option maxRecDepth 100000
namespace Qk
open PySem
theorem for_post {α A : Type} {f : D → Sls → Sto → O} {inj : α → D} {mk : A → Sls} {sm : A → Sto} {P : List α → A → Prop} {Q : O → Prop} (xs : List α)
    (step : ∀ don x rest a, xs = don ++ x :: rest → P don a → (∃ a', P (don ++ [x]) a' ∧ f (inj x) (mk a) (sm a) = .nx (mk a') (sm a')) ∨ (∃ o, f (inj x) (mk a) (sm a) = o ∧ o.ends = true ∧ Q o) ∨ ∃ δ s, f (inj x) (mk a) (sm a) = .brk δ s ∧ Q (.nx δ s)) {a : A} (h : P [] a) :
    (∃ a', P xs a' ∧ forLoop f (xs.map inj) (mk a) (sm a) = .nx (mk a') (sm a')) ∨ ∃ o, forLoop f (xs.map inj) (mk a) (sm a) = o ∧ Q o := by
  have go : ∀ (ys don : List α) (a : A), xs = don ++ ys → P don a → (∃ a', P xs a' ∧ forLoop f (ys.map inj) (mk a) (sm a) = .nx (mk a') (sm a')) ∨ ∃ o, forLoop f (ys.map inj) (mk a) (sm a) = o ∧ Q o := by
    intro ys
    induction ys with
    | nil => exact fun don a e h => .inl ⟨a, by rw [e]; simpa using h, rfl⟩
    | cons y ys ih =>
      intro don a hy h
      rcases step don y ys a hy h with ⟨a1, h1, e1⟩ | ⟨o, e1, h1, h2⟩ | ⟨δ, s, e1, h2⟩
      · rcases ih (don ++ [y]) a1 (by simpa using hy) h1 with ⟨a2, h2, e2⟩ | ⟨o, e2, h2⟩
        · exact .inl ⟨a2, h2, for_cons e2 e1⟩
        · exact .inr ⟨o, for_cons e2 e1, h2⟩
      · refine .inr ⟨o, ?_, h2⟩
        rw [List.map_cons]
        simp only [forLoop, e1]
        cases o <;> first | rfl | cases h1
      · refine .inr ⟨.nx δ s, ?_, h2⟩
        rw [List.map_cons]
        simp only [forLoop, e1]
  exact go xs [] a rfl h
theorem while_post {A : Type} {c : Sls → Sto → R (Bool × Sto)} {f : Sls → Sto → O} {mk : A → Sls} {sm : A → Sto} {P : A → Prop} {μ : A → Nat} {Q : O → Prop}
    (step : ∀ a, P a → (c (mk a) (sm a) = .ok (false, sm a) ∧ Q (.nx (mk a) (sm a))) ∨ c (mk a) (sm a) = .ok (true, sm a) ∧ ((∃ a', f (mk a) (sm a) = .nx (mk a') (sm a') ∧ P a' ∧ μ a' < μ a) ∨ ∃ o, f (mk a) (sm a) = o ∧ o.ends = true ∧ Q o)) :
    ∀ (n : Nat) (a : A), P a → μ a < n → ∃ o, whileLoop c f n (mk a) (sm a) = o ∧ Q o := by
  intro n
  induction n with
  | zero => intro a _ h; omega
  | succ n ih =>
    intro a p hn
    rcases step a p with ⟨e, h⟩ | ⟨e, ⟨a', e2, p', hm⟩ | ⟨o, e2, h1, h2⟩⟩
    · exact ⟨_, by simp only [whileLoop, e], h⟩
    · obtain ⟨o, e3, h3⟩ := ih a' p' (by omega)
      exact ⟨o, by simp only [whileLoop, e, e2, e3], h3⟩
    · refine ⟨o, ?_, h2⟩
      simp only [whileLoop, e, e2]
      cases o <;> first | rfl | cases h1
section
variable {α ρ : Type} [DecidableEq α] {ky : α → Ky} {dr : ρ → D}
def kvsQ (ky : α → Ky) (dr : ρ → D) (Q : List (α × ρ)) : List (Ky × D) := Q.map fun p => (ky p.1, dr p.2)
@[simp] theorem kvsQ_nil : kvsQ ky dr [] = [] := rfl
@[simp] theorem kvsQ_len {Q : List (α × ρ)} : (kvsQ ky dr Q).length = Q.length := by simp [kvsQ]
theorem lkQ_none (hk : ∀ a b, ky a = ky b → a = b) {x : α} : ∀ {Q : List (α × ρ)}, x ∉ Q.map (·.1) → lookK (ky x) (kvsQ ky dr Q) = none
  | [], _ => rfl
  | p :: Q, h => by
    simp only [List.map_cons, List.mem_cons, not_or] at h
    have : ¬ ky p.1 = ky x := fun e => h.1 (hk _ _ e).symm
    simp only [kvsQ, List.map_cons, lookK, if_neg this]
    exact lkQ_none hk h.2
theorem lkQ_some (hk : ∀ a b, ky a = ky b → a = b) {p : α × ρ} : ∀ {Q : List (α × ρ)}, (Q.map (·.1)).Nodup → p ∈ Q → lookK (ky p.1) (kvsQ ky dr Q) = some (dr p.2)
  | [], _, h => by cases h
  | q :: Q, hn, h => by
    rw [List.map_cons, List.nodup_cons] at hn
    simp only [kvsQ, List.map_cons, lookK]
    rcases List.mem_cons.mp h with rfl | h
    · rw [if_pos rfl]
    · have : ¬ ky q.1 = ky p.1 := fun e => hn.1 (by rw [hk _ _ e]; exact List.mem_map_of_mem h)
      rw [if_neg this]
      exact lkQ_some hk hn.2 h
theorem lkQ_is (hk : ∀ a b, ky a = ky b → a = b) {x : α} {Q : List (α × ρ)} : (lookK (ky x) (kvsQ ky dr Q)).isSome = decide (x ∈ Q.map (·.1)) := by
  by_cases h : x ∈ Q.map (·.1)
  · rw [decide_eq_true h]
    induction Q with
    | nil => cases h
    | cons q Q ih =>
      simp only [kvsQ, List.map_cons, lookK]
      by_cases c : ky q.1 = ky x
      · rw [if_pos c]; rfl
      · rw [if_neg c]
        simp only [List.map_cons, List.mem_cons] at h
        rcases h with rfl | h
        · exact absurd rfl c
        · exact ih h
  · rw [decide_eq_false h, lkQ_none hk h]; rfl
theorem lkQ_in (hk : ∀ a b, ky a = ky b → a = b) {x : α} {Q : List (α × ρ)} (h : x ∈ Q.map (·.1)) : (lookK (ky x) (kvsQ ky dr Q)).isSome = true := by rw [lkQ_is hk]; exact decide_eq_true h
theorem lkQ_out (hk : ∀ a b, ky a = ky b → a = b) {x : α} {Q : List (α × ρ)} (h : x ∉ Q.map (·.1)) : (lookK (ky x) (kvsQ ky dr Q)).isSome = false := by rw [lkQ_none hk h]; rfl
theorem ptQ_new (hk : ∀ a b, ky a = ky b → a = b) {p : α × ρ} {Q : List (α × ρ)} (h : p.1 ∉ Q.map (·.1)) : putK (ky p.1) (dr p.2) (kvsQ ky dr Q) = kvsQ ky dr (Q ++ [p]) := by
  unfold putK
  rw [lkQ_none hk h]
  simp [kvsQ]
end
section
variable {α ρ : Type} [DecidableEq α]
def pushB (Q : List (α × ρ)) (p : α × ρ) : List (α × ρ) := if p.1 ∈ Q.map (·.1) then Q else Q ++ [p]
def pushes (Q : List (α × ρ)) (l : List (α × ρ)) : List (α × ρ) := l.foldl pushB Q
@[simp] theorem pushes_nil (Q : List (α × ρ)) : pushes Q [] = Q := rfl
theorem pushes_cons (Q : List (α × ρ)) (p : α × ρ) (l : List (α × ρ)) : pushes Q (p :: l) = pushes (pushB Q p) l := rfl
theorem pushes_append (Q : List (α × ρ)) (l m : List (α × ρ)) : pushes Q (l ++ m) = pushes (pushes Q l) m := List.foldl_append
theorem pushB_pre (Q : List (α × ρ)) (p : α × ρ) : ∃ l, pushB Q p = Q ++ l ∧ ∀ q ∈ l, q = p := by
  unfold pushB
  split
  · exact ⟨[], by simp, fun q hq => by cases hq⟩
  · exact ⟨[p], rfl, fun q hq => List.mem_singleton.mp hq⟩
theorem pushes_pre : ∀ (l Q : List (α × ρ)), ∃ m, pushes Q l = Q ++ m ∧ ∀ q ∈ m, q ∈ l
  | [], Q => ⟨[], by simp, fun q hq => by cases hq⟩
  | p :: l, Q => by
    obtain ⟨m1, h1, h2⟩ := pushB_pre Q p
    obtain ⟨m2, h3, h4⟩ := pushes_pre l (pushB Q p)
    refine ⟨m1 ++ m2, by rw [pushes_cons, h3, h1, List.append_assoc], fun q hq => ?_⟩
    rcases List.mem_append.mp hq with h | h
    · rw [h2 q h]; exact List.mem_cons_self
    · exact List.mem_cons_of_mem _ (h4 q h)
theorem pushB_nd {Q : List (α × ρ)} {p : α × ρ} (h : (Q.map (·.1)).Nodup) : ((pushB Q p).map (·.1)).Nodup := by
  unfold pushB
  split
  · exact h
  · rename_i c
    rw [List.map_append, List.nodup_append]
    refine ⟨h, by simp, fun x hx y hy => ?_⟩
    simp only [List.map_cons, List.map_nil, List.mem_singleton] at hy
    subst hy
    intro e
    exact c (e ▸ hx)
theorem pushes_nd : ∀ {l Q : List (α × ρ)}, (Q.map (·.1)).Nodup → ((pushes Q l).map (·.1)).Nodup
  | [], _, h => h
  | p :: l, Q, h => pushes_nd (l := l) (pushB_nd h)
theorem pushes_sub {Q l : List (α × ρ)} {q : α × ρ} (h : q ∈ pushes Q l) : q ∈ Q ∨ q ∈ l := by
  obtain ⟨m, e, hm⟩ := pushes_pre l Q
  rw [e] at h
  exact (List.mem_append.mp h).imp id (hm q)
theorem pushes_has : ∀ {l Q : List (α × ρ)} {y : α × ρ}, y ∈ l → ∃ q ∈ pushes Q l, q.1 = y.1 ∧ (q ∈ Q ∨ q ∈ l)
  | [], _, _, h => by cases h
  | p :: l, Q, y, h => by
    rcases List.mem_cons.mp h with rfl | h
    · obtain ⟨m, e, _⟩ := pushes_pre l (pushB Q y)
      have : ∃ q ∈ pushB Q y, q.1 = y.1 := by
        unfold pushB
        split
        · rename_i c
          obtain ⟨q, hq, e⟩ := List.mem_map.mp c
          exact ⟨q, hq, e⟩
        · exact ⟨y, by simp, rfl⟩
      obtain ⟨q, hq, e2⟩ := this
      have hm : q ∈ pushes Q (y :: l) := by rw [pushes_cons, e]; exact List.mem_append_left _ hq
      exact ⟨q, hm, e2, pushes_sub hm⟩
    · obtain ⟨q, hq, e, _⟩ := pushes_has (Q := pushB Q p) h
      exact ⟨q, hq, e, pushes_sub (l := p :: l) hq⟩
theorem nd_len {β : Type} [DecidableEq β] : ∀ {l U : List β}, l.Nodup → (∀ x ∈ l, x ∈ U) → l.length ≤ U.length
  | [], _, _, _ => Nat.zero_le _
  | x :: l, U, hn, hs => by
    have hx := hs x List.mem_cons_self
    have h1 := nd_len (l := l) (U := U.erase x) (List.nodup_cons.mp hn).2 fun y hy => by
      have hne : y ≠ x := fun e => (List.nodup_cons.mp hn).1 (e ▸ hy)
      exact (List.mem_erase_of_ne hne).mpr (hs y (List.mem_cons_of_mem _ hy))
    rw [List.length_erase_of_mem hx] at h1
    have := List.length_pos_of_mem hx
    simp only [List.length_cons]
    omega
theorem pushB_old {Q : List (α × ρ)} {p : α × ρ} (h : p.1 ∈ Q.map (·.1)) : pushB Q p = Q := if_pos h
theorem pushB_new {Q : List (α × ρ)} {p : α × ρ} (h : p.1 ∉ Q.map (·.1)) : pushB Q p = Q ++ [p] := if_neg h
theorem pushB_len (Q : List (α × ρ)) (p : α × ρ) : (pushB Q p).length ≤ Q.length + 1 := by
  unfold pushB
  split
  · omega
  · simp
theorem pushes_len : ∀ (l Q : List (α × ρ)), (pushes Q l).length ≤ Q.length + l.length
  | [], Q => by simp
  | p :: l, Q => by
    have := pushes_len l (pushB Q p)
    have := pushB_len Q p
    rw [pushes_cons, List.length_cons]
    omega
structure Bfs (mv : α → ρ → List (α × ρ)) (ln : ρ → Nat) (q0 : α × ρ) (P D : α × ρ → Prop) (Q : List (α × ρ)) (i : Nat) : Prop where
  nd : (Q.map (·.1)).Nodup
  hd : Q[0]? = some q0
  le : i ≤ Q.length
  inv : ∀ p ∈ Q, P p
  asc : ∀ (j k : Nat) p q, j ≤ k → Q[j]? = some p → Q[k]? = some q → ln p.2 ≤ ln q.2
  near : ∀ p q, Q[i]? = some p → q ∈ Q → ln q.2 ≤ ln p.2 + 1
  dn : ∀ (j : Nat) p, j < i → Q[j]? = some p → D p
  clo : ∀ (j : Nat) p, j < i → Q[j]? = some p → ∀ y ∈ mv p.1 p.2, ∃ q ∈ Q, q.1 = y.1 ∧ ln q.2 ≤ ln y.2
variable {mv : α → ρ → List (α × ρ)} {ln : ρ → Nat} {q0 : α × ρ} {P D : α × ρ → Prop} {Q : List (α × ρ)} {i : Nat}
theorem Bfs.start (h0 : P q0) : Bfs mv ln q0 P D [q0] 0 := by
  refine ⟨by simp, rfl, by simp, fun p hp => by rw [List.mem_singleton.mp hp]; exact h0, fun j k p q _ hp hq => ?_, fun p q hp hq => ?_, fun j p hj => absurd hj (Nat.not_lt_zero _), fun j p hj => absurd hj (Nat.not_lt_zero _)⟩
  · cases j with
    | zero => cases k with
      | zero => cases hp; cases hq; exact Nat.le_refl _
      | succ k => cases hq
    | succ j => cases hp
  · cases hp
    rw [List.mem_singleton.mp hq]
    exact Nat.le_succ _
theorem Bfs.step (hl : ∀ x r, ∀ y ∈ mv x r, ln y.2 = ln r + 1) (B : Bfs mv ln q0 P D Q i) {p : α × ρ} (hp : Q[i]? = some p) (hd : D p) (hv : ∀ y ∈ mv p.1 p.2, P y) : Bfs mv ln q0 P D (pushes Q (mv p.1 p.2)) (i + 1) := by
  obtain ⟨m, em, hm⟩ := pushes_pre (mv p.1 p.2) Q
  have hi : i < Q.length := (List.getElem?_eq_some_iff.mp hp).1
  have lm : ∀ q ∈ m, ln q.2 = ln p.2 + 1 := fun q hq => hl _ _ q (hm q hq)
  have old : ∀ {j : Nat} {q}, j < Q.length → (Q ++ m)[j]? = some q → Q[j]? = some q := fun hj h => by rwa [List.getElem?_append_left hj] at h
  have new : ∀ {j : Nat} {q}, ¬ j < Q.length → (Q ++ m)[j]? = some q → q ∈ m := fun hj h => by
    rw [List.getElem?_append_right (by omega)] at h
    exact List.mem_of_getElem? h
  refine ⟨pushes_nd B.nd, ?_, ?_, ?_, ?_, ?_, ?_, ?_⟩
  · rw [em, List.getElem?_append_left (by omega)]; exact B.hd
  · rw [em, List.length_append]; omega
  · intro q hq
    rcases pushes_sub hq with h | h
    · exact B.inv q h
    · exact hv q h
  · intro j k a b hjk ha hb
    rw [em] at ha hb
    by_cases h1 : k < Q.length
    · exact B.asc j k a b hjk (old (by omega) ha) (old h1 hb)
    · have e1 := lm b (new h1 hb)
      by_cases h2 : j < Q.length
      · have := B.near p a hp (List.mem_of_getElem? (old h2 ha))
        omega
      · have := lm a (new h2 ha)
        omega
  · intro a b ha hb
    rw [em] at ha hb
    have h1 : ln p.2 ≤ ln a.2 := by
      by_cases h2 : i + 1 < Q.length
      · exact B.asc i (i + 1) p a (by omega) hp (old h2 ha)
      · have := lm a (new h2 ha)
        omega
    rcases List.mem_append.mp hb with h | h
    · have := B.near p b hp h
      omega
    · have := lm b h
      omega
  · intro j a hj ha
    rw [em] at ha
    by_cases h : j = i
    · subst h
      rw [old (by omega) ha] at hp
      cases hp
      exact hd
    · exact B.dn j a (by omega) (old (by omega) ha)
  · intro j a hj ha y hy
    rw [em] at ha
    by_cases h : j = i
    · subst h
      have ea : a = p := by
        have := old (by omega) ha
        rw [hp] at this
        exact (Option.some.inj this).symm
      subst ea
      obtain ⟨q, h1, h2, h3⟩ := pushes_has (Q := Q) hy
      refine ⟨q, h1, h2, ?_⟩
      rw [hl _ _ y hy]
      rcases h3 with h3 | h3
      · exact B.near a q (old (by omega) ha) h3
      · rw [hl _ _ q h3]; exact Nat.le_refl _
    · obtain ⟨q, h1, h2, h3⟩ := B.clo j a (by omega) (old (by omega) ha) y hy
      exact ⟨q, by rw [em]; exact List.mem_append_left _ h1, h2, h3⟩
inductive Far (sc : α → α → Prop) (x0 : α) : Nat → α → Prop where
  | zero : Far sc x0 0 x0
  | succ {k : Nat} {x y : α} : Far sc x0 k x → sc x y → Far sc x0 (k + 1) y
theorem Bfs.far {sc : α → α → Prop} (hl : ∀ x r, ∀ y ∈ mv x r, ln y.2 = ln r + 1) (h0 : ln q0.2 = 0) (B : Bfs mv ln q0 P D Q i) (hm : ∀ p, D p → ∀ y, sc p.1 y → ∃ r, (y, r) ∈ mv p.1 p.2) {k : Nat} {y : α} (h : Far sc q0.1 k y) :
    (∃ (j : Nat) (q : α × ρ), j < i ∧ Q[j]? = some q ∧ q.1 = y ∧ ln q.2 ≤ k) ∨ ∃ (j : Nat) (q : α × ρ), i ≤ j ∧ Q[j]? = some q ∧ ln q.2 ≤ k := by
  have any : ∀ {q : α × ρ} {k : Nat}, q ∈ Q → ln q.2 ≤ k → (∃ (j : Nat) (q' : α × ρ), j < i ∧ Q[j]? = some q' ∧ q'.1 = q.1 ∧ ln q'.2 ≤ k) ∨ ∃ (j : Nat) (q : α × ρ), i ≤ j ∧ Q[j]? = some q ∧ ln q.2 ≤ k := fun {q k} hq hk => by
    obtain ⟨j, hj⟩ := List.getElem?_of_mem hq
    by_cases c : j < i
    · exact .inl ⟨j, q, c, hj, rfl, hk⟩
    · exact .inr ⟨j, q, by omega, hj, hk⟩
  induction h with
  | zero =>
    have := any (List.mem_of_getElem? B.hd) (Nat.le_of_eq h0)
    exact this
  | succ h1 h2 ih =>
    rename_i k x y
    rcases ih with ⟨j, q, c1, c2, c3, c4⟩ | ⟨j, q, c1, c2, c4⟩
    · subst c3
      obtain ⟨r, hr⟩ := hm q (B.dn j q c1 c2) y h2
      obtain ⟨q', d1, d2, d3⟩ := B.clo j q c1 c2 _ hr
      have := hl _ _ _ hr
      simp only at d2 d3 this
      have := any d1 (k := k + 1) (by omega)
      rw [d2] at this
      exact this
    · exact .inr ⟨j, q, c1, c2, by omega⟩
theorem Bfs.all {sc : α → α → Prop} (hl : ∀ x r, ∀ y ∈ mv x r, ln y.2 = ln r + 1) (h0 : ln q0.2 = 0) (B : Bfs mv ln q0 P D Q i) (hi : Q[i]? = none) (hm : ∀ p, D p → ∀ y, sc p.1 y → ∃ r, (y, r) ∈ mv p.1 p.2) {k : Nat} {y : α} (h : Far sc q0.1 k y) :
    ∃ q ∈ Q, q.1 = y ∧ ln q.2 ≤ k ∧ D q := by
  rcases B.far hl h0 hm h with ⟨j, q, c1, c2, c3, c4⟩ | ⟨j, q, c1, c2, c4⟩
  · exact ⟨q, List.mem_of_getElem? c2, c3, c4, B.dn j q c1 c2⟩
  · have := (List.getElem?_eq_some_iff.mp c2).1
    rw [List.getElem?_eq_none_iff] at hi
    omega
theorem Bfs.least {sc : α → α → Prop} (hl : ∀ x r, ∀ y ∈ mv x r, ln y.2 = ln r + 1) (h0 : ln q0.2 = 0) (B : Bfs mv ln q0 P D Q i) {p : α × ρ} (hi : Q[i]? = some p) (hm : ∀ p, D p → ∀ y, sc p.1 y → ∃ r, (y, r) ∈ mv p.1 p.2) {k : Nat} {y : α} (h : Far sc q0.1 k y) (hy : ∀ q ∈ Q, q.1 = y → ¬ D q) :
    ln p.2 ≤ k := by
  rcases B.far hl h0 hm h with ⟨j, q, c1, c2, c3, c4⟩ | ⟨j, q, c1, c2, c4⟩
  · exact absurd (B.dn j q c1 c2) (hy q (List.mem_of_getElem? c2) c3)
  · have := B.asc i j p q c1 hi c2
    omega
end
end Qk

set_option linter.all false
set_option maxHeartbeats 4000000
set_option maxRecDepth 100000
namespace Qk
def runS (t : Tb) (x : Int) (ops : List Nat) : Int := ops.foldl (fun x op => (at_ t x op).1) x
@[simp] theorem runS_nil (t : Tb) (x : Int) : runS t x [] = x := rfl
@[simp] theorem runS_cons (t : Tb) (x : Int) (op : Nat) (ops : List Nat) : runS t x (op :: ops) = runS t (at_ t x op).1 ops := rfl
theorem runS_append (t : Tb) (x : Int) (a b : List Nat) : runS t x (a ++ b) = runS t (runS t x a) b := List.foldl_append
abbrev sn (op : Nat) : St := (op, true)
def frStep (rel : List Pr) (o : Nat) (w : Wk) (s : St) : Prop := s.1 < o ∧ (s.2 = true → barred rel s.1 w.left = [])
def frSteps (t : Tb) (rel : List Pr) (o : Nat) : Wk → List St → Prop
  | _, [] => True
  | w, s :: ss => frStep rel o w s ∧ frSteps t rel o (stepW t w s) ss
def Differ (t : Tb) (w : Wk) (op : Nat) : Prop := (at_ t w.one op).2 ≠ (at_ t w.two op).2
instance (t : Tb) (w : Wk) (op : Nat) : Decidable (Differ t w op) := inferInstanceAs (Decidable (_ ≠ _))
def Wrong (t : Tb) (rel : List Pr) (o : Nat) (S : List St) (op : Nat) : Prop := okSteps t rel o wk0 S ∧ op < o ∧ barred rel op (walkW t wk0 S).left = [] ∧ Differ t (walkW t wk0 S) op
def unseen (S : List St) : Nat := (S.filter fun x => !x.2).length
theorem unseen_append (S T : List St) : unseen (S ++ T) = unseen S + unseen T := by simp [unseen]
theorem unseen_sn (A : List Nat) : unseen (A.map sn) = 0 := by
  unfold unseen
  rw [List.length_eq_zero_iff, List.filter_eq_nil_iff]
  intro x hx
  obtain ⟨a, _, rfl⟩ := List.mem_map.mp hx
  simp
theorem frSteps_append {t : Tb} {rel : List Pr} {o : Nat} : ∀ {w : Wk} {xs ys : List St}, frSteps t rel o w (xs ++ ys) ↔ frSteps t rel o w xs ∧ frSteps t rel o (walkW t w xs) ys
  | w, [], ys => by simp [frSteps, walkW]
  | w, x :: xs, ys => by
    show frStep rel o w x ∧ frSteps t rel o (stepW t w x) (xs ++ ys) ↔ (frStep rel o w x ∧ frSteps t rel o (stepW t w x) xs) ∧ frSteps t rel o (walkW t (stepW t w x) xs) ys
    rw [frSteps_append, and_assoc]
theorem ok_fr {t : Tb} {rel : List Pr} {o : Nat} : ∀ {w : Wk} {xs : List St}, okSteps t rel o w xs → frSteps t rel o w xs
  | _, [], _ => trivial
  | _, _ :: _, ⟨⟨h1, h2⟩, h3⟩ => ⟨⟨h1, fun e => (h2 e).1⟩, ok_fr h3⟩
theorem walkW_append (t : Tb) (w : Wk) (a b : List St) : walkW t w (a ++ b) = walkW t (walkW t w a) b := List.foldl_append
@[simp] theorem walkW_nil (t : Tb) (w : Wk) : walkW t w [] = w := rfl
@[simp] theorem walkW_cons (t : Tb) (w : Wk) (s : St) (ss : List St) : walkW t w (s :: ss) = walkW t (stepW t w s) ss := rfl
theorem walk_sn (t : Tb) : ∀ (B : List Nat) (w : Wk), walkW t w (B.map sn) = ⟨runS t w.one B, runS t w.two B, w.left⟩
  | [], _ => rfl
  | b :: B, w => by
    rw [List.map_cons, walkW_cons, walk_sn t B]
    rfl
theorem fr_sn {t : Tb} {rel : List Pr} {o : Nat} : ∀ {B : List Nat} {w : Wk}, frSteps t rel o w (B.map sn) ↔ ∀ b ∈ B, b < o ∧ barred rel b w.left = []
  | [], w => by simp [frSteps]
  | b :: B, w => by
    show frStep rel o w (sn b) ∧ frSteps t rel o (stepW t w (sn b)) (B.map sn) ↔ _
    rw [fr_sn]
    simp [frStep, stepW]
theorem barred_sub {rel : List Pr} {b : Nat} {L L' : List Nat} (hs : ∀ k ∈ L', k ∈ L) (h : barred rel b L = []) : barred rel b L' = [] := by
  unfold barred at *
  rw [List.filter_eq_nil_iff] at *
  exact fun k hk => h k (hs k hk)
theorem barred_nil {rel : List Pr} {b : Nat} : barred rel b [] = [] := rfl
theorem barred_one {rel : List Pr} {b k : Nat} : barred rel b [k] = [] ↔ ((b : Int), (k : Int)) ∉ rel := by simp [barred]
theorem last_unseen : ∀ S : List St, (∃ A : List Nat, S = A.map sn) ∨ ∃ (A : List St) (u : Nat) (B : List Nat), S = A ++ (u, false) :: B.map sn := by
  refine snocRec (.inl ⟨[], rfl⟩) fun S x ih => ?_
  obtain ⟨op, b⟩ := x
  cases b with
  | false => exact .inr ⟨S, op, [], rfl⟩
  | true =>
    rcases ih with ⟨A, rfl⟩ | ⟨A, u, B, rfl⟩
    · exact .inl ⟨A ++ [op], by simp⟩
    · exact .inr ⟨A, u, B ++ [op], by simp⟩
abbrev hist (A : List Nat) (u : Nat) (B : List Nat) : List St := A.map sn ++ (u, false) :: B.map sn
theorem hist_len (A : List Nat) (u : Nat) (B : List Nat) : (hist A u B).length = A.length + 1 + B.length := by simp [hist]; omega
theorem hist_unseen (A : List Nat) (u : Nat) (B : List Nat) : unseen (hist A u B) = 1 := by
  unfold hist
  rw [unseen_append, unseen_sn]
  show 0 + unseen ([(u, false)] ++ B.map sn) = 1
  rw [unseen_append, unseen_sn]
  rfl
theorem hist_walk (t : Tb) (A : List Nat) (u : Nat) (B : List Nat) : walkW t wk0 (hist A u B) = ⟨runS t (at_ t (runS t 0 A) u).1 B, runS t (runS t 0 A) B, [kindN t (runS t 0 A) u]⟩ := by
  unfold hist
  rw [walkW_append, walk_sn, walkW_cons, walk_sn]
  rfl
theorem walk_fr {t : Tb} {o : Nat} {rel : List Pr} {w : Wk} {S : List St} (h : frSteps t rel o w S) : ∀ x ∈ S, x.1 < o := by
  induction S generalizing w with
  | nil => intro x hx; cases hx
  | cons s S ih =>
    intro x hx
    rcases List.mem_cons.mp hx with rfl | hx
    · exact h.1.1
    · exact ih h.2 x hx
theorem one_left {t : Tb} {rel : List Pr} {o : Nat} : ∀ (n : Nat) (S : List St) (op : Nat), unseen S ≤ n → frSteps t rel o wk0 S → op < o → barred rel op (walkW t wk0 S).left = [] → Differ t (walkW t wk0 S) op →
    ∃ (A : List Nat) (u : Nat) (B : List Nat), A.length + 1 + B.length ≤ S.length ∧ frSteps t rel o wk0 (hist A u B) ∧ barred rel op (walkW t wk0 (hist A u B)).left = [] ∧ Differ t (walkW t wk0 (hist A u B)) op := by
  intro n
  induction n with
  | zero =>
    intro S op hn _ _ _ hd
    rcases last_unseen S with ⟨A, rfl⟩ | ⟨A, u, B, rfl⟩
    · rw [walk_sn] at hd
      exact absurd rfl hd
    · rw [unseen_append] at hn
      have : unseen ((u, false) :: B.map sn) = unseen [(u, false)] + unseen (B.map sn) := unseen_append [(u, false)] (B.map sn)
      have h1 : unseen [(u, false)] = 1 := rfl
      omega
  | succ n ih =>
    intro S op hn hf ho hb hd
    rcases last_unseen S with ⟨A, rfl⟩ | ⟨A, u, B, rfl⟩
    · rw [walk_sn] at hd
      exact absurd rfl hd
    · obtain ⟨f1, f2⟩ := frSteps_append.mp hf
      have f3 : u < o := f2.1.1
      have f4 : frSteps t rel o (stepW t (walkW t wk0 A) (u, false)) (B.map sn) := f2.2
      rw [fr_sn] at f4
      have eS : walkW t wk0 (A ++ (u, false) :: B.map sn) = ⟨runS t (at_ t (walkW t wk0 A).one u).1 B, runS t (walkW t wk0 A).two B, (walkW t wk0 A).left ++ [kindN t (walkW t wk0 A).one u]⟩ := by
        rw [walkW_append, walkW_cons, walk_sn]
        rfl
      rw [eS] at hb hd
      have eT : walkW t wk0 (A ++ B.map sn) = ⟨runS t (walkW t wk0 A).one B, runS t (walkW t wk0 A).two B, (walkW t wk0 A).left⟩ := by rw [walkW_append, walk_sn]
      have eO : ∀ (A : List St) (w : Wk), (walkW t w A).one = runS t w.one (A.map (·.1)) := by
        intro A
        induction A with
        | nil => intro w; rfl
        | cons a A ih =>
          intro w
          rw [walkW_cons, ih]
          have : (stepW t w a).one = (at_ t w.one a.1).1 := by unfold stepW; split <;> rfl
          rw [this]
          rfl
      have eO1 : (walkW t wk0 A).one = runS t 0 (A.map (·.1)) := eO A wk0
      by_cases hx : (at_ t (runS t (at_ t (walkW t wk0 A).one u).1 B) op).2 = (at_ t (runS t (walkW t wk0 A).one B) op).2
      · -- the step can go
        obtain ⟨A', u', B', h1, h2⟩ := ih (A ++ B.map sn) op (by
          rw [unseen_append] at hn ⊢
          have : unseen ((u, false) :: B.map sn) = unseen [(u, false)] + unseen (B.map sn) := unseen_append [(u, false)] (B.map sn)
          have h1 : unseen [(u, false)] = 1 := rfl
          omega) (frSteps_append.mpr ⟨f1, fr_sn.mpr fun b hb' => ⟨(f4 b hb').1, barred_sub (fun k hk => List.mem_append_left _ hk) (f4 b hb').2⟩⟩) ho (by
          rw [eT]
          exact barred_sub (fun k hk => List.mem_append_left _ hk) hb) (by
          rw [eT]
          intro e
          exact hd (hx.trans e))
        refine ⟨A', u', B', ?_, h2⟩
        simp only [List.length_append, List.length_cons] at h1 ⊢
        omega
      · -- all others can be seen
        refine ⟨A.map (·.1), u, B, by simp only [List.length_append, List.length_cons, List.length_map]; omega, ?_, ?_, ?_⟩
        · refine frSteps_append.mpr ⟨fr_sn.mpr fun b hb' => ?_, ?_⟩
          · obtain ⟨x, hx', rfl⟩ := List.mem_map.mp hb'
            exact ⟨walk_fr f1 x hx', rfl⟩
          · rw [walk_sn]
            refine ⟨⟨f3, fun e => by cases e⟩, fr_sn.mpr fun b hb' => ⟨(f4 b hb').1, ?_⟩⟩
            refine barred_sub (L := (walkW t wk0 A).left ++ [kindN t (walkW t wk0 A).one u]) (fun k hk => ?_) (f4 b hb').2
            have hk : k ∈ ([] : List Nat) ++ [kindN t (runS t 0 (A.map (·.1))) u] := hk
            rw [eO1]
            simp at hk
            simp [hk]
        · rw [hist_walk, ← eO1]
          exact barred_sub (fun k hk => List.mem_append_right _ hk) hb
        · rw [hist_walk, ← eO1]
          exact hx
theorem agree_or {t : Tb} {rel : List Pr} {o : Nat} : ∀ (B : List Nat) (w : Wk), frSteps t rel o w (B.map sn) → okSteps t rel o w (B.map sn) ∨ ∃ (B1 : List Nat) (b : Nat) (B2 : List Nat), B = B1 ++ b :: B2 ∧ okSteps t rel o w (B1.map sn) ∧ Differ t (walkW t w (B1.map sn)) b
  | [], _, _ => .inl trivial
  | b :: B, w, h => by
    by_cases hx : (at_ t w.two b).2 = (at_ t w.one b).2
    · have h1 : okStep t rel o w (sn b) := ⟨h.1.1, fun e => ⟨h.1.2 e, hx⟩⟩
      rcases agree_or B (stepW t w (sn b)) h.2 with h2 | ⟨B1, c, B2, rfl, h3, h4⟩
      · exact .inl ⟨h1, h2⟩
      · exact .inr ⟨b :: B1, c, B2, rfl, ⟨h1, h3⟩, h4⟩
    · exact .inr ⟨[], b, B, rfl, trivial, fun e => hx e.symm⟩
theorem ok_sn {t : Tb} {rel : List Pr} {o : Nat} : ∀ {A : List Nat} {w : Wk}, w.one = w.two → w.left = [] → (∀ a ∈ A, a < o) → okSteps t rel o w (A.map sn)
  | [], _, _, _, _ => trivial
  | a :: A, w, h1, h2, h3 => by
    refine ⟨⟨h3 a List.mem_cons_self, fun _ => ⟨by rw [h2]; rfl, by rw [h1]⟩⟩, ok_sn ?_ ?_ fun b hb => h3 b (List.mem_cons_of_mem _ hb)⟩
    · show (at_ t w.one a).1 = (at_ t w.two a).1
      rw [h1]
    · exact h2
theorem hist_wrong {t : Tb} {rel : List Pr} {o : Nat} {A : List Nat} {u : Nat} {B : List Nat} {op : Nat} (ho : op < o) (hf : frSteps t rel o wk0 (hist A u B)) (hb : barred rel op (walkW t wk0 (hist A u B)).left = []) (hd : Differ t (walkW t wk0 (hist A u B)) op) :
    ∃ (B' : List Nat) (op' : Nat), B'.length ≤ B.length ∧ Wrong t rel o (hist A u B') op' := by
  obtain ⟨f1, f2⟩ := frSteps_append.mp hf
  have k1 : ∀ a ∈ A, a < o := fun a ha => (fr_sn.mp f1 a ha).1
  have k2 : okSteps t rel o wk0 (A.map sn) := ok_sn rfl rfl k1
  have k3 : ∀ {B' : List Nat}, okSteps t rel o (stepW t (walkW t wk0 (A.map sn)) (u, false)) (B'.map sn) → okSteps t rel o wk0 (hist A u B') := fun h => okSteps_append.mpr ⟨k2, ⟨f2.1.1, fun e => by cases e⟩, h⟩
  rcases agree_or B _ f2.2 with h | ⟨B1, b, B2, rfl, h3, h4⟩
  · exact ⟨B, op, Nat.le_refl _, k3 h, ho, hb, hd⟩
  · refine ⟨B1, b, by simp, k3 h3, ?_, ?_, ?_⟩
    · exact (fr_sn.mp f2.2 b (by simp)).1
    · have := (fr_sn.mp f2.2 b (by simp)).2
      rw [hist_walk]
      rw [walk_sn] at this
      exact this
    · have e : walkW t wk0 (hist A u B1) = walkW t (stepW t (walkW t wk0 (A.map sn)) (u, false)) (B1.map sn) := by rw [walkW_append, walkW_cons]
      rw [e]
      exact h4
theorem wrong_one {t : Tb} {rel : List Pr} {o : Nat} {S : List St} {op : Nat} (hf : frSteps t rel o wk0 S) (ho : op < o) (hb : barred rel op (walkW t wk0 S).left = []) (hd : Differ t (walkW t wk0 S) op) :
    ∃ (A : List Nat) (u : Nat) (B : List Nat) (op' : Nat), (hist A u B).length ≤ S.length ∧ Wrong t rel o (hist A u B) op' := by
  obtain ⟨A, u, B, h1, h2, h3, h4⟩ := one_left _ S op (Nat.le_refl _) hf ho hb hd
  obtain ⟨B', op', h5, h6⟩ := hist_wrong ho h2 h3 h4
  exact ⟨A, u, B', op', by rw [hist_len]; omega, h6⟩
def LeastW (t : Tb) (rel : List Pr) (o : Nat) (n : Nat) : Prop := (∃ S op, Wrong t rel o S op ∧ S.length = n) ∧ ∀ S op, Wrong t rel o S op → n ≤ S.length
theorem LeastW.uniq {t : Tb} {rel : List Pr} {o n m : Nat} (h1 : LeastW t rel o n) (h2 : LeastW t rel o m) : n = m := by
  obtain ⟨⟨S, op, a1, a2⟩, a3⟩ := h1
  obtain ⟨⟨S', op', b1, b2⟩, b3⟩ := h2
  have := a3 _ _ b1
  have := b3 _ _ a1
  omega
end Qk

set_option linter.all false
set_option maxHeartbeats 4000000
set_option maxRecDepth 100000
namespace Qk
abbrev Rw := Int × Int × Int
abbrev nx (t : Tb) (x : Int) (op : Nat) : Int := (at_ t x op).1
def mvS1 (t : Tb) (rel : List Pr) (p : Rw) (S : List St) (op : Nat) : List (Rw × List St) :=
  if p.2.2 < 0 then [((nx t p.1 op, nx t p.1 op, -1), S ++ [(op, true)]), ((nx t p.1 op, p.2.1, (kindN t p.1 op : Nat)), S ++ [(op, false)])]
  else if ((op : Int), p.2.2) ∈ rel then [] else [((nx t p.1 op, nx t p.2.1 op, p.2.2), S ++ [(op, true)])]
def mvS (t : Tb) (rel : List Pr) (o : Nat) (p : Rw) (S : List St) : List (Rw × List St) := (List.range o).flatMap (mvS1 t rel p S)
def goalS (t : Tb) (rel : List Pr) (p : Rw) (op : Nat) : Prop := (at_ t p.1 op).2 ≠ (at_ t p.2.1 op).2 ∧ ((op : Int), p.2.2) ∉ rel
instance (t : Tb) (rel : List Pr) (p : Rw) (op : Nat) : Decidable (goalS t rel p op) := inferInstanceAs (Decidable (_ ∧ _))
def D_S (t : Tb) (rel : List Pr) (o : Nat) (q : Rw × List St) : Prop := ∀ op < o, ¬ goalS t rel q.1 op
def P_S (t : Tb) (rel : List Pr) (o : Nat) (q : Rw × List St) : Prop := okSteps t rel o wk0 q.2 ∧ ∃ L, walkW t wk0 q.2 = ⟨q.1.1, q.1.2.1, L⟩ ∧ unseen q.2 = L.length ∧ ((q.1.2.2 = -1 ∧ L = [] ∧ q.1.1 = q.1.2.1) ∨ ∃ k : Nat, q.1.2.2 = k ∧ L = [k])
inductive ScS (t : Tb) (rel : List Pr) (o : Nat) : Rw → Rw → Prop where
  | seen {x : Int} {op : Nat} : op < o → ScS t rel o (x, x, -1) (nx t x op, nx t x op, -1)
  | out {x : Int} {op : Nat} : op < o → ScS t rel o (x, x, -1) (nx t x op, x, (kindN t x op : Nat))
  | on {x y : Int} {k op : Nat} : op < o → ((op : Int), (k : Int)) ∉ rel → ScS t rel o (x, y, (k : Nat)) (nx t x op, nx t y op, (k : Nat))
theorem mvS_len {t : Tb} {rel : List Pr} {o : Nat} (p : Rw) (S : List St) : ∀ y ∈ mvS t rel o p S, y.2.length = S.length + 1 := by
  intro y hy
  obtain ⟨op, _, hy⟩ := List.mem_flatMap.mp hy
  unfold mvS1 at hy
  split at hy
  · simp only [List.mem_cons, List.not_mem_nil, or_false] at hy
    rcases hy with rfl | rfl <;> simp
  · split at hy
    · cases hy
    · simp only [List.mem_cons, List.not_mem_nil, or_false] at hy
      subst hy; simp
theorem scS_mv {t : Tb} {rel : List Pr} {o : Nat} {p y : Rw} (S : List St) (h : ScS t rel o p y) : ∃ r, (y, r) ∈ mvS t rel o p S := by
  cases h with
  | seen ho => exact ⟨_, List.mem_flatMap.mpr ⟨_, List.mem_range.mpr ho, by unfold mvS1; rw [if_pos (by simp)]; exact List.mem_cons_self⟩⟩
  | out ho => exact ⟨_, List.mem_flatMap.mpr ⟨_, List.mem_range.mpr ho, by unfold mvS1; rw [if_pos (by simp)]; exact List.mem_cons_of_mem _ List.mem_cons_self⟩⟩
  | on ho hr => exact ⟨_, List.mem_flatMap.mpr ⟨_, List.mem_range.mpr ho, by unfold mvS1; rw [if_neg (by simp only; omega), if_neg hr]; exact List.mem_cons_self⟩⟩
theorem P_S0 (t : Tb) (rel : List Pr) (o : Nat) : P_S t rel o ((0, 0, -1), []) := ⟨trivial, [], rfl, rfl, .inl ⟨rfl, rfl, rfl⟩⟩
theorem P_S_mv {t : Tb} {rel : List Pr} {o : Nat} {q : Rw × List St} (h : P_S t rel o q) (d : D_S t rel o q) : ∀ y ∈ mvS t rel o q.1 q.2, P_S t rel o y := by
  intro y hy
  obtain ⟨⟨a, b, k⟩, S⟩ := q
  obtain ⟨h1, L, h2, h3, h4⟩ := h
  simp only at h1 h2 h3 h4
  obtain ⟨op, ho, hy⟩ := List.mem_flatMap.mp hy
  have ho := List.mem_range.mp ho
  unfold mvS1 at hy
  rcases h4 with ⟨rfl, rfl, rfl⟩ | ⟨k, rfl, rfl⟩
  · rw [if_pos (by simp)] at hy
    simp only [List.mem_cons, List.not_mem_nil, or_false] at hy
    rcases hy with rfl | rfl
    · refine ⟨okSteps_append.mpr ⟨h1, ⟨ho, fun _ => ⟨by rw [h2]; rfl, by rw [h2]⟩⟩, trivial⟩, [], ?_, ?_, .inl ⟨rfl, rfl, rfl⟩⟩
      · rw [walkW_append, h2]; rfl
      · rw [unseen_append, h3]; rfl
    · refine ⟨okSteps_append.mpr ⟨h1, ⟨ho, fun e => by cases e⟩, trivial⟩, [kindN t a op], ?_, ?_, .inr ⟨_, rfl, rfl⟩⟩
      · rw [walkW_append, h2]; rfl
      · rw [unseen_append, h3]; rfl
  · rw [if_neg (by simp only; omega)] at hy
    split at hy
    · cases hy
    · rename_i hr
      simp only [List.mem_cons, List.not_mem_nil, or_false] at hy
      subst hy
      have hd := d op ho
      unfold goalS at hd
      simp only at hd hr
      have he : (at_ t a op).2 = (at_ t b op).2 := Classical.byContradiction fun z => hd ⟨z, hr⟩
      refine ⟨okSteps_append.mpr ⟨h1, ⟨ho, fun _ => ⟨by rw [h2]; exact barred_one.mpr hr, by rw [h2]; exact he.symm⟩⟩, trivial⟩, [k], ?_, ?_, .inr ⟨k, rfl, rfl⟩⟩
      · rw [walkW_append, h2]; rfl
      · rw [unseen_append, h3]; rfl
theorem goalS_wrong {t : Tb} {rel : List Pr} {o : Nat} {q : Rw × List St} (h : P_S t rel o q) {op : Nat} (ho : op < o) (g : goalS t rel q.1 op) : Wrong t rel o q.2 op ∧ unseen q.2 = 1 ∧ 0 ≤ q.1.2.2 := by
  obtain ⟨⟨a, b, k⟩, S⟩ := q
  obtain ⟨h1, L, h2, h3, h4⟩ := h
  simp only at h1 h2 h3 h4
  obtain ⟨g1, g2⟩ := g
  simp only at g1 g2
  rcases h4 with ⟨rfl, rfl, rfl⟩ | ⟨k, rfl, rfl⟩
  · exact absurd rfl g1
  · refine ⟨⟨h1, ho, by rw [h2]; exact barred_one.mpr g2, by rw [h2]; exact g1⟩, h3, ?_⟩
    simp
theorem far_seen {t : Tb} {rel : List Pr} {o : Nat} : ∀ (A : List Nat), (∀ a ∈ A, a < o) → Far (ScS t rel o) (0, 0, -1) A.length (runS t 0 A, runS t 0 A, -1) := by
  refine snocRec (fun _ => .zero) fun A a ih h => ?_
  have h1 := ih fun b hb => h b (List.mem_append_left _ hb)
  have h2 := Far.succ h1 (ScS.seen (h a (by simp)))
  rw [List.length_append, runS_append]
  exact h2
theorem far_hist {t : Tb} {rel : List Pr} {o : Nat} {A : List Nat} {u : Nat} (hA : ∀ a ∈ A, a < o) (hu : u < o) : ∀ (B : List Nat), (∀ b ∈ B, b < o ∧ ((b : Int), (kindN t (runS t 0 A) u : Int)) ∉ rel) →
    Far (ScS t rel o) (0, 0, -1) (A.length + 1 + B.length) (runS t (nx t (runS t 0 A) u) B, runS t (runS t 0 A) B, (kindN t (runS t 0 A) u : Nat)) := by
  refine snocRec (fun _ => Far.succ (far_seen A hA) (.out hu)) fun B b ih h => ?_
  have h1 := ih fun c hc => h c (List.mem_append_left _ hc)
  obtain ⟨h2, h3⟩ := h b (by simp)
  have h4 := Far.succ h1 (.on h2 h3)
  rw [List.length_append, runS_append, runS_append]
  exact h4
theorem wrong_far {t : Tb} {rel : List Pr} {o : Nat} {S : List St} {op : Nat} (h : Wrong t rel o S op) : ∃ (y : Rw) (op' : Nat) (k : Nat), k ≤ S.length ∧ op' < o ∧ Far (ScS t rel o) (0, 0, -1) k y ∧ goalS t rel y op' := by
  obtain ⟨h1, h2, h3, h4⟩ := h
  obtain ⟨A, u, B, op', hl, w1, w2, w3, w4⟩ := wrong_one (ok_fr h1) h2 h3 h4
  obtain ⟨f1, f2⟩ := frSteps_append.mp (ok_fr w1)
  have k1 := fr_sn.mp f1
  have k2 : u < o := f2.1.1
  have k3 := fr_sn.mp (show frSteps t rel o (stepW t (walkW t wk0 (A.map sn)) (u, false)) (B.map sn) from f2.2)
  rw [hist_walk] at w3 w4
  refine ⟨_, op', _, ?_, w2, far_hist (rel := rel) (fun a ha => (k1 a ha).1) k2 B fun b hb => ⟨(k3 b hb).1, ?_⟩, w4, barred_one.mp w3⟩
  · rw [hist_len] at hl; exact hl
  · have := (k3 b hb).2
    rw [walk_sn] at this
    exact barred_one.mp this
def univS (t : Tb) : List Rw := (reachS t).flatMap fun a => (reachS t).flatMap fun b => [-1, 0, 1, 2, 3, 4, 5, 6, 7].map fun k => (a, b, k)
theorem flat_len {α β : Type} {f : α → List β} {n : Nat} : ∀ (l : List α), (∀ x ∈ l, (f x).length ≤ n) → (l.flatMap f).length ≤ l.length * n
  | [], _ => by simp
  | x :: l, h => by
    have := flat_len l fun y hy => h y (List.mem_cons_of_mem _ hy)
    have := h x List.mem_cons_self
    simp only [List.flatMap_cons, List.length_append, List.length_cons, Nat.succ_mul]
    omega
theorem univS_len {s o : Nat} {t : Tb} (h : Good s o t) (hs1 : 1 ≤ s) (hs : s ≤ 4) : (univS t).length ≤ 144 := by
  have h1 : (reachS t).length ≤ 4 := Nat.le_trans (nodup_len s _ (reach_ok h hs1)) hs
  have h2 : ∀ a ∈ reachS t, ((reachS t).flatMap fun b => ([-1, 0, 1, 2, 3, 4, 5, 6, 7] : List Int).map fun k => (a, b, k)).length ≤ 4 * 9 := fun a _ =>
    Nat.le_trans (flat_len (n := 9) _ fun b _ => by simp) (Nat.mul_le_mul_right 9 h1)
  exact Nat.le_trans (flat_len _ h2) (Nat.mul_le_mul_right (4 * 9) h1)
theorem P_S_ok {s o : Nat} {t : Tb} {rel : List Pr} (h : Good s o t) (hs1 : 1 ≤ s) : ∀ {S : List St} {w : Wk}, okSteps t rel o w S → WkOk t w → WkOk t (walkW t w S)
  | [], _, _, hw => hw
  | x :: S, w, hS, hw => P_S_ok (S := S) h hs1 hS.2 (stepW_ok h hs1 hw hS.1.1)
theorem P_S_in {s o : Nat} {t : Tb} {rel : List Pr} {q : Rw × List St} (h : Good s o t) (hs1 : 1 ≤ s) (hk8 : (kindsS t).length ≤ 8) (hp : P_S t rel o q) : q.1.1 ∈ reachS t ∧ q.1.2.1 ∈ reachS t ∧ (q.1.2.2 = -1 ∨ ∃ k : Nat, q.1.2.2 = k ∧ k < (kindsS t).length) := by
  obtain ⟨h1, L, h2, h3, h4⟩ := hp
  have := P_S_ok h hs1 h1 (wk0_ok t)
  rw [h2] at this
  refine ⟨this.one, this.two, ?_⟩
  rcases h4 with ⟨e, _, _⟩ | ⟨k, e, rfl⟩
  · exact .inl e
  · exact .inr ⟨k, e, this.left k (by simp)⟩
theorem P_S_univ {s o : Nat} {t : Tb} {rel : List Pr} {q : Rw × List St} (h : Good s o t) (hs1 : 1 ≤ s) (hk8 : (kindsS t).length ≤ 8) (hp : P_S t rel o q) : q.1 ∈ univS t := by
  obtain ⟨h1, h2, h3⟩ := P_S_in h hs1 hk8 hp
  refine List.mem_flatMap.mpr ⟨_, h1, List.mem_flatMap.mpr ⟨_, h2, List.mem_map.mpr ⟨q.1.2.2, ?_, rfl⟩⟩⟩
  simp only [List.mem_cons, List.not_mem_nil, or_false]
  rcases h3 with h3 | ⟨k, h3, h4⟩ <;> omega
def ToldS (t : Tb) (rel : List Pr) (o : Nat) : Option (List St × Nat) → Prop
  | none => ∀ S op, ¬ Wrong t rel o S op
  | some (S, op) => Wrong t rel o S op ∧ unseen S = 1 ∧ ∀ S' op', Wrong t rel o S' op' → S.length ≤ S'.length
abbrev BfsS (t : Tb) (rel : List Pr) (o : Nat) := Bfs (mvS t rel o) List.length (((0, 0, -1), []) : Rw × List St) (P_S t rel o) (D_S t rel o)
theorem toldS_none {t : Tb} {rel : List Pr} {o : Nat} {Q : List (Rw × List St)} {i : Nat} (B : BfsS t rel o Q i) (hi : Q[i]? = none) : ToldS t rel o none := by
  intro S op hw
  obtain ⟨y, op', k, _, ho, hf, hg⟩ := wrong_far hw
  obtain ⟨q, _, e, _, hd⟩ := B.all mvS_len rfl hi (fun p _ y => scS_mv p.2) hf
  subst e
  exact hd op' ho hg
theorem toldS_some {t : Tb} {rel : List Pr} {o : Nat} {Q : List (Rw × List St)} {i : Nat} (B : BfsS t rel o Q i) {p : Rw × List St} (hi : Q[i]? = some p) {op : Nat} (ho : op < o) (hg : goalS t rel p.1 op) : ToldS t rel o (some (p.2, op)) := by
  obtain ⟨h1, h2, _⟩ := goalS_wrong (B.inv p (List.mem_of_getElem? hi)) ho hg
  refine ⟨h1, h2, fun S' op' hw => ?_⟩
  obtain ⟨y, op2, k, hk, ho2, hf, hg2⟩ := wrong_far hw
  have := B.least mvS_len rfl hi (fun p _ y => scS_mv p.2) hf (fun q _ e hd => by subst e; exact hd op2 ho2 hg2)
  omega
def freeM (t : Tb) (rel : List Pr) (m : Nat) (op : Nat) : Bool := decide (boundM rel (kindsS t).length op &&& m = 0)
abbrev Rm := Int × Int × Nat
def mvA1 (t : Tb) (rel : List Pr) (p : Rm) (n : Nat) (op : Nat) : List (Rm × Nat) :=
  ((nx t p.1 op, p.2.1, p.2.2 ||| 2 ^ kindN t p.1 op), n + 1) :: if freeM t rel p.2.2 op then [((nx t p.1 op, nx t p.2.1 op, p.2.2), n + 1)] else []
def mvA (t : Tb) (rel : List Pr) (o : Nat) (p : Rm) (n : Nat) : List (Rm × Nat) := (List.range o).flatMap (mvA1 t rel p n)
def goalA (t : Tb) (rel : List Pr) (p : Rm) (op : Nat) : Prop := (at_ t p.1 op).2 ≠ (at_ t p.2.1 op).2 ∧ freeM t rel p.2.2 op = true
instance (t : Tb) (rel : List Pr) (p : Rm) (op : Nat) : Decidable (goalA t rel p op) := inferInstanceAs (Decidable (_ ∧ _))
def D_A (t : Tb) (rel : List Pr) (o : Nat) (q : Rm × Nat) : Prop := ∀ op < o, ¬ goalA t rel q.1 op
def rowM (w : Wk) : Rm := (w.one, w.two, leftM w.left)
def P_A (t : Tb) (rel : List Pr) (o : Nat) (q : Rm × Nat) : Prop := ∃ S, okSteps t rel o wk0 S ∧ S.length = q.2 ∧ rowM (walkW t wk0 S) = q.1
inductive ScA (t : Tb) (rel : List Pr) (o : Nat) : Rm → Rm → Prop where
  | out {x y : Int} {m op : Nat} : op < o → ScA t rel o (x, y, m) (nx t x op, y, m ||| 2 ^ kindN t x op)
  | seen {x y : Int} {m op : Nat} : op < o → freeM t rel m op = true → ScA t rel o (x, y, m) (nx t x op, nx t y op, m)
theorem mvA_len {t : Tb} {rel : List Pr} {o : Nat} (p : Rm) (n : Nat) : ∀ y ∈ mvA t rel o p n, y.2 = n + 1 := by
  intro y hy
  obtain ⟨op, _, hy⟩ := List.mem_flatMap.mp hy
  unfold mvA1 at hy
  rcases List.mem_cons.mp hy with rfl | hy
  · rfl
  · split at hy
    · rw [List.mem_singleton.mp hy]
    · cases hy
theorem scA_mv {t : Tb} {rel : List Pr} {o : Nat} {p y : Rm} (n : Nat) (h : ScA t rel o p y) : ∃ r, (y, r) ∈ mvA t rel o p n := by
  cases h with
  | out ho => exact ⟨_, List.mem_flatMap.mpr ⟨_, List.mem_range.mpr ho, List.mem_cons_self⟩⟩
  | seen ho hf => exact ⟨_, List.mem_flatMap.mpr ⟨_, List.mem_range.mpr ho, List.mem_cons_of_mem _ (by rw [if_pos hf]; exact List.mem_cons_self)⟩⟩
theorem P_A0 (t : Tb) (rel : List Pr) (o : Nat) : P_A t rel o ((0, 0, 0), 0) := ⟨[], trivial, rfl, by simp [rowM, wk0]; decide⟩
section
variable {s o : Nat} {t : Tb} {rel : List Pr}
theorem freeM_iff {w : Wk} (hw : WkOk t w) (hk8 : (kindsS t).length ≤ 8) (op : Nat) : freeM t rel (leftM w.left) op = true ↔ barred rel op w.left = [] := by
  unfold freeM
  rw [decide_eq_true_eq, bound_left hw.left hk8]
theorem rowM_out (h : Good s o t) (hs1 : 1 ≤ s) (hk8 : (kindsS t).length ≤ 8) {w : Wk} (hw : WkOk t w) {op : Nat} (ho : op < o) : rowM (stepW t w (op, false)) = (nx t w.one op, w.two, leftM w.left ||| 2 ^ kindN t w.one op) := by
  have := kindN_lt h hs1 hw.one ho
  rw [left_add (by omega)]
  rfl
theorem P_A_mv (h : Good s o t) (hs1 : 1 ≤ s) (hk8 : (kindsS t).length ≤ 8) {q : Rm × Nat} (hp : P_A t rel o q) (d : D_A t rel o q) : ∀ y ∈ mvA t rel o q.1 q.2, P_A t rel o y := by
  intro y hy
  obtain ⟨r, n⟩ := q
  obtain ⟨S, h1, rfl, rfl⟩ := hp
  have hw := P_S_ok h hs1 h1 (wk0_ok t)
  obtain ⟨op, ho, hy⟩ := List.mem_flatMap.mp hy
  have ho := List.mem_range.mp ho
  unfold mvA1 at hy
  rcases List.mem_cons.mp hy with rfl | hy
  · refine ⟨S ++ [(op, false)], okSteps_append.mpr ⟨h1, ⟨ho, fun e => by cases e⟩, trivial⟩, by simp, ?_⟩
    rw [walkW_append]
    exact rowM_out h hs1 hk8 hw ho
  · split at hy
    · rename_i hf
      rw [List.mem_singleton.mp hy]
      have hd := d op ho
      unfold goalA at hd
      have he : (at_ t (walkW t wk0 S).one op).2 = (at_ t (walkW t wk0 S).two op).2 := Classical.byContradiction fun z => hd ⟨z, hf⟩
      refine ⟨S ++ [(op, true)], okSteps_append.mpr ⟨h1, ⟨ho, fun _ => ⟨(freeM_iff hw hk8 op).mp hf, he.symm⟩⟩, trivial⟩, by simp, ?_⟩
      rw [walkW_append]
      rfl
    · cases hy
theorem far_all (h : Good s o t) (hs1 : 1 ≤ s) (hk8 : (kindsS t).length ≤ 8) : ∀ (S : List St), okSteps t rel o wk0 S → Far (ScA t rel o) (0, 0, 0) S.length (rowM (walkW t wk0 S)) := by
  refine snocRec (fun _ => by
    have e : rowM (walkW t wk0 []) = (0, 0, 0) := by simp [rowM, wk0]; decide
    rw [e]
    exact .zero) fun S x ih hS => ?_
  obtain ⟨h1, h2⟩ := okSteps_append.mp hS
  have hw := P_S_ok h hs1 h1 (wk0_ok t)
  have hf := ih h1
  obtain ⟨op, b⟩ := x
  have ho : op < o := h2.1.1
  rw [List.length_append, walkW_append]
  refine Far.succ hf ?_
  cases b with
  | false =>
    have e : rowM (walkW t (walkW t wk0 S) [(op, false)]) = _ := rowM_out h hs1 hk8 hw ho
    rw [e]
    exact .out ho
  | true => exact .seen ho ((freeM_iff hw hk8 op).mpr (h2.1.2 rfl).1)
def univA (t : Tb) : List Rm := (reachS t).flatMap fun a => (reachS t).flatMap fun b => (List.range 256).map fun k => (a, b, k)
theorem univA_len (h : Good s o t) (hs1 : 1 ≤ s) (hs : s ≤ 4) : (univA t).length ≤ 4096 := by
  have h1 : (reachS t).length ≤ 4 := Nat.le_trans (nodup_len s _ (reach_ok h hs1)) hs
  have h2 : ∀ a ∈ reachS t, ((reachS t).flatMap fun b => (List.range 256).map fun k => (a, b, k)).length ≤ 4 * 256 := fun a _ =>
    Nat.le_trans (flat_len (n := 256) _ fun b _ => by simp) (Nat.mul_le_mul_right 256 h1)
  exact Nat.le_trans (flat_len _ h2) (Nat.mul_le_mul_right (4 * 256) h1)
theorem P_A_univ (h : Good s o t) (hs1 : 1 ≤ s) {q : Rm × Nat} (hp : P_A t rel o q) : q.1 ∈ univA t := by
  obtain ⟨S, h1, _, e⟩ := hp
  have hw := P_S_ok h hs1 h1 (wk0_ok t)
  rw [← e]
  exact List.mem_flatMap.mpr ⟨_, hw.one, List.mem_flatMap.mpr ⟨_, hw.two, List.mem_map.mpr ⟨_, List.mem_range.mpr (leftM_lt _), rfl⟩⟩⟩
abbrev BfsA (t : Tb) (rel : List Pr) (o : Nat) := Bfs (mvA t rel o) id (((0, 0, 0), 0) : Rm × Nat) (P_A t rel o) (D_A t rel o)
def IsRow (t : Tb) (rel : List Pr) (o : Nat) (r : Rm) : Prop := ∃ S, okSteps t rel o wk0 S ∧ rowM (walkW t wk0 S) = r
theorem goalA_wrong (h : Good s o t) (hs1 : 1 ≤ s) (hk8 : (kindsS t).length ≤ 8) {q : Rm × Nat} (hp : P_A t rel o q) {op : Nat} (ho : op < o) (g : goalA t rel q.1 op) : ∃ S, Wrong t rel o S op ∧ S.length = q.2 := by
  obtain ⟨r, n⟩ := q
  obtain ⟨S, h1, rfl, rfl⟩ := hp
  have hw := P_S_ok h hs1 h1 (wk0_ok t)
  exact ⟨S, ⟨h1, ho, (freeM_iff hw hk8 op).mp g.2, g.1⟩, rfl⟩
theorem wrong_goalA (h : Good s o t) (hs1 : 1 ≤ s) (hk8 : (kindsS t).length ≤ 8) {S : List St} {op : Nat} (hw : Wrong t rel o S op) : Far (ScA t rel o) (0, 0, 0) S.length (rowM (walkW t wk0 S)) ∧ goalA t rel (rowM (walkW t wk0 S)) op := by
  obtain ⟨h1, h2, h3, h4⟩ := hw
  exact ⟨far_all h hs1 hk8 S h1, h4, (freeM_iff (P_S_ok h hs1 h1 (wk0_ok t)) hk8 op).mpr h3⟩
theorem toldA_none (h : Good s o t) (hs1 : 1 ≤ s) (hk8 : (kindsS t).length ≤ 8) {Q : List (Rm × Nat)} {i : Nat} (B : BfsA t rel o Q i) (hi : Q[i]? = none) : (∀ S op, ¬ Wrong t rel o S op) ∧ ∀ r, r ∈ Q.map (·.1) ↔ IsRow t rel o r := by
  refine ⟨fun S op hw => ?_, fun r => ⟨fun hr => ?_, fun ⟨S, h1, e⟩ => ?_⟩⟩
  · obtain ⟨h1, h2⟩ := wrong_goalA h hs1 hk8 hw
    obtain ⟨q, _, e, _, hd⟩ := B.all mvA_len rfl hi (fun p _ y => scA_mv p.2) h1
    rw [← e] at h2
    exact hd op hw.2.1 h2
  · obtain ⟨q, hq, rfl⟩ := List.mem_map.mp hr
    obtain ⟨S, h1, _, h2⟩ := B.inv q hq
    exact ⟨S, h1, h2⟩
  · obtain ⟨q, hq, e2, _⟩ := B.all mvA_len rfl hi (fun p _ y => scA_mv p.2) (far_all h hs1 hk8 S h1)
    rw [← e, ← e2]
    exact List.mem_map_of_mem hq
theorem toldA_some (h : Good s o t) (hs1 : 1 ≤ s) (hk8 : (kindsS t).length ≤ 8) {Q : List (Rm × Nat)} {i : Nat} (B : BfsA t rel o Q i) {p : Rm × Nat} (hi : Q[i]? = some p) {op : Nat} (ho : op < o) (hg : goalA t rel p.1 op) : LeastW t rel o p.2 := by
  obtain ⟨S, h1, h2⟩ := goalA_wrong h hs1 hk8 (B.inv p (List.mem_of_getElem? hi)) ho hg
  refine ⟨⟨S, op, h1, h2⟩, fun S' op' hw => ?_⟩
  obtain ⟨h3, h4⟩ := wrong_goalA h hs1 hk8 hw
  exact B.least mvA_len rfl hi (fun p _ y => scA_mv p.2) h3 (fun q _ e hd => hd op' hw.2.1 (e ▸ h4))
end
end Qk

set_option linter.all false
set_option maxHeartbeats 4000000
set_option maxRecDepth 100000
namespace Qk
open PySem
section
variable {st : Sto} {a b : Bool} {i : Int} {ds : List D} {c : Cl} {l : Nat} {z : Str}
@[simp] theorem is_nn : cmpP .is_ st (.d .non) (.d .non) = some true := nr rfl
@[simp] theorem isn_nn : cmpP .isn st (.d .non) (.d .non) = some false := nr rfl
@[simp] theorem is_bb : cmpP .is_ st (.d (.bl a)) (.d (.bl b)) = some (decide (a = b)) := nr rfl
@[simp] theorem isn_bb : cmpP .isn st (.d (.bl a)) (.d (.bl b)) = some (!decide (a = b)) := nr rfl
@[simp] theorem is_bn : cmpP .is_ st (.d (.bl a)) (.d .non) = some false := nr rfl
@[simp] theorem isn_bn : cmpP .isn st (.d (.bl a)) (.d .non) = some true := nr rfl
@[simp] theorem is_in : cmpP .is_ st (.d (.int i)) (.d .non) = some false := nr rfl
@[simp] theorem isn_in : cmpP .isn st (.d (.int i)) (.d .non) = some true := nr rfl
@[simp] theorem is_tn : cmpP .is_ st (.d (.tup ds)) (.d .non) = some false := nr rfl
@[simp] theorem isn_tn : cmpP .isn st (.d (.tup ds)) (.d .non) = some true := nr rfl
@[simp] theorem is_ln : cmpP .is_ st (.d (.lst ds)) (.d .non) = some false := nr rfl
@[simp] theorem isn_ln : cmpP .isn st (.d (.lst ds)) (.d .non) = some true := nr rfl
@[simp] theorem is_on : cmpP .is_ st (.d (.obj c ds)) (.d .non) = some false := nr rfl
@[simp] theorem isn_on : cmpP .isn st (.d (.obj c ds)) (.d .non) = some true := nr rfl
@[simp] theorem is_locn : cmpP .is_ st (.d (.loc l)) (.d .non) = some false := nr rfl
@[simp] theorem isn_locn : cmpP .isn st (.d (.loc l)) (.d .non) = some true := nr rfl
@[simp] theorem tr_non : truP st (.d .non) = some false := nr rfl
theorem bl_sum {p : Pl} : bltV st .sum [p] = onO none (lstOf st p) fun ds => (intsOf ds).map fun bs => .int bs.sum := by
  simp only [bltV]
  cases lstOf st p <;> rfl
end
theorem bitsN_add {P Q : Nat → Bool} {k : Nat} (hP : P k = false) : ∀ {n : Nat}, (∀ j < n, Q j = (P j || decide (j = k))) → bitsN Q n = bitsN P n + if k < n then 2 ^ k else 0
  | 0, _ => by simp [bitsN]
  | n + 1, h => by
    have ih := bitsN_add (P := P) (Q := Q) hP (n := n) fun j hj => h j (by omega)
    have hn := h n (by omega)
    simp only [bitsN, ih]
    by_cases e : n = k
    · subst e
      rw [hn, hP]
      simp
    · have : (k < n + 1) ↔ k < n := by omega
      simp only [this]
      rw [hn]
      simp only [e, decide_false, Bool.or_false]
      split <;> split <;> omega
theorem bitsN_sum : ∀ {L : List Nat} {n : Nat}, L.Nodup → (∀ k ∈ L, k < n) → (L.map fun k => 2 ^ k).sum = bitsN (fun k => decide (k ∈ L)) n
  | [], n, _, _ => by
    have : ∀ n, bitsN (fun k => decide (k ∈ ([] : List Nat))) n = 0 := by
      intro n
      induction n with
      | zero => rfl
      | succ n ih => simp only [bitsN, ih]; simp
    rw [this]; rfl
  | k :: L, n, hn, hl => by
    rw [List.nodup_cons] at hn
    rw [List.map_cons, List.sum_cons, bitsN_sum (n := n) hn.2 fun j hj => hl j (List.mem_cons_of_mem _ hj)]
    rw [bitsN_add (P := fun j => decide (j ∈ L)) (Q := fun j => decide (j ∈ k :: L)) (k := k) (decide_eq_false hn.1) (n := n) (fun j _ => by simp [Bool.or_comm])]
    rw [if_pos (hl k List.mem_cons_self)]
    omega
theorem bitsN_ext {P Q : Nat → Bool} : ∀ {n : Nat}, (∀ j < n, P j = Q j) → bitsN P n = bitsN Q n
  | 0, _ => rfl
  | n + 1, h => by simp only [bitsN, bitsN_ext (n := n) fun j hj => h j (by omega), h n (by omega)]
end Qk

set_option linter.all false
set_option maxHeartbeats 4000000
set_option maxRecDepth 100000
namespace Qk
def pt (t : Tb) (ops : List Nat) : Nat → Int → Int → Prop
  | 0, _, _ => False
  | i + 1, x, y => ∃ op ∈ ops, (at_ t x op).2 ≠ (at_ t y op).2 ∨ pt t ops i (nx t x op) (nx t y op)
noncomputable instance (t : Tb) (ops : List Nat) (i : Nat) (x y : Int) : Decidable (pt t ops i x y) := Classical.propDecidable _
def Parted (t : Tb) (ops : List Nat) (x y : Int) : Prop := ∃ i, pt t ops i x y
section
variable {t : Tb} {ops : List Nat}
theorem pt_mono : ∀ {i : Nat} {x y : Int}, pt t ops i x y → pt t ops (i + 1) x y
  | 0, _, _, h => h.elim
  | _ + 1, _, _, ⟨op, ho, h⟩ => ⟨op, ho, h.imp id pt_mono⟩
theorem pt_le {i j : Nat} {x y : Int} (hij : i ≤ j) (h : pt t ops i x y) : pt t ops j x y := by
  obtain ⟨k, rfl⟩ := Nat.exists_eq_add_of_le hij
  clear hij
  induction k with
  | zero => exact h
  | succ k ih => exact pt_mono ih
theorem pt_symm : ∀ {i : Nat} {x y : Int}, pt t ops i x y → pt t ops i y x
  | 0, _, _, h => h.elim
  | _ + 1, _, _, ⟨op, ho, h⟩ => ⟨op, ho, h.imp (fun e q => e q.symm) pt_symm⟩
theorem pt_irr : ∀ {i : Nat} {x : Int}, ¬ pt t ops i x x
  | 0, _, h => h
  | _ + 1, _, ⟨op, _, h⟩ => h.elim (fun e => e rfl) pt_irr
theorem pt_third : ∀ {i : Nat} {x z : Int} (y : Int), pt t ops i x z → pt t ops i x y ∨ pt t ops i y z
  | 0, _, _, _, h => h.elim
  | i + 1, x, z, y, ⟨op, ho, h⟩ => by
    rcases h with h | h
    · by_cases c : (at_ t x op).2 = (at_ t y op).2
      · exact .inr ⟨op, ho, .inl fun e => h (c.trans e)⟩
      · exact .inl ⟨op, ho, .inl c⟩
    · rcases pt_third (nx t y op) h with h | h
      · exact .inl ⟨op, ho, .inr h⟩
      · exact .inr ⟨op, ho, .inr h⟩
theorem Parted.symm {x y : Int} (h : Parted t ops x y) : Parted t ops y x := h.imp fun _ => pt_symm
theorem parted_irr {x : Int} : ¬ Parted t ops x x := fun ⟨_, h⟩ => pt_irr h
def Stb (t : Tb) (ops : List Nat) (s i : Nat) : Prop := ∀ x y : Int, 0 ≤ x → x < s → 0 ≤ y → y < s → pt t ops (i + 1) x y → pt t ops i x y
variable {s o : Nat}
theorem stb_all (h : Good s o t) (hop : ∀ op ∈ ops, op < o) {i : Nat} (hs : Stb t ops s i) : ∀ (j : Nat) (x y : Int), 0 ≤ x → x < s → 0 ≤ y → y < s → pt t ops j x y → pt t ops i x y := by
  intro j
  induction j with
  | zero => intro _ _ _ _ _ _ h; exact h.elim
  | succ j ih =>
    intro x y hx1 hx2 hy1 hy2 ⟨op, ho, hh⟩
    refine hs x y hx1 hx2 hy1 hy2 ⟨op, ho, hh.imp id fun q => ?_⟩
    obtain ⟨_, _, _, _, a⟩ := at_ok h ⟨hx1, hx2⟩ (hop op ho)
    obtain ⟨_, _, _, _, b⟩ := at_ok h ⟨hy1, hy2⟩ (hop op ho)
    exact ih _ _ a.1 a.2.1 b.1 b.2.1 q
noncomputable def reps (t : Tb) (ops : List Nat) (s i : Nat) : List Nat := (List.range s).filter fun x => decide (∀ y : Nat, y < x → pt t ops i y x)
theorem reps_len (i : Nat) : (reps t ops s i).length ≤ s := by
  unfold reps
  exact Nat.le_trans (List.length_filter_le _ _) (by simp)
theorem mem_reps {i x : Nat} : x ∈ reps t ops s i ↔ x < s ∧ ∀ y : Nat, y < x → pt t ops i y x := by
  unfold reps
  rw [List.mem_filter, List.mem_range, decide_eq_true_eq]
theorem rep_of (i : Nat) : ∀ x : Nat, x < s → ∃ r ∈ reps t ops s i, r ≤ x ∧ ¬ pt t ops i r x := by
  intro x
  induction x using Nat.strongRecOn with
  | _ x ih =>
    intro hx
    by_cases c : ∀ y : Nat, y < x → pt t ops i y x
    · exact ⟨x, mem_reps.mpr ⟨hx, c⟩, Nat.le_refl _, pt_irr⟩
    · obtain ⟨y, hy⟩ := Classical.not_forall.mp c
      obtain ⟨hy1, hy2⟩ := Classical.not_imp.mp hy
      obtain ⟨r, h1, h2, h3⟩ := ih y hy1 (by omega)
      refine ⟨r, h1, by omega, fun q => ?_⟩
      rcases pt_third (y : Int) q with q | q
      · exact h3 q
      · exact hy2 q
theorem sub_len {α : Type} [DecidableEq α] {xs ys : List α} (h : xs.Sublist ys) {a : α} (ha : a ∈ ys) (hn : a ∉ xs) : xs.length < ys.length := by
  rcases Nat.lt_or_ge xs.length ys.length with q | q
  · exact q
  · have := h.eq_of_length_le q
    subst this
    exact absurd ha hn
theorem reps_grow {i : Nat} (h : ¬ Stb t ops s i) : (reps t ops s i).length < (reps t ops s (i + 1)).length := by
  have sub : (reps t ops s i).Sublist (reps t ops s (i + 1)) := by
    have e : reps t ops s i = (reps t ops s (i + 1)).filter (fun x => decide (x ∈ reps t ops s i)) := by
      unfold reps
      rw [List.filter_filter]
      refine List.filter_congr fun x hx => ?_
      have hx := List.mem_range.mp hx
      by_cases c : ∀ y : Nat, y < x → pt t ops i y x
      · have c2 : ∀ y : Nat, y < x → pt t ops (i + 1) y x := fun y hy => pt_mono (c y hy)
        have c3 : x ∈ List.filter (fun x => decide (∀ y : Nat, y < x → pt t ops i y x)) (List.range s) := List.mem_filter.mpr ⟨List.mem_range.mpr hx, decide_eq_true c⟩
        rw [decide_eq_true c, decide_eq_true c2, decide_eq_true c3]; rfl
      · have c3 : ¬ x ∈ List.filter (fun x => decide (∀ y : Nat, y < x → pt t ops i y x)) (List.range s) := fun q => c (of_decide_eq_true (List.mem_filter.mp q).2)
        rw [decide_eq_false c, decide_eq_false c3]; rfl
    rw [e]
    exact List.filter_sublist
  obtain ⟨x, hx⟩ := Classical.not_forall.mp h
  obtain ⟨y, hy⟩ := Classical.not_forall.mp hx
  obtain ⟨x0, hy⟩ := Classical.not_imp.mp hy
  obtain ⟨x1, hy⟩ := Classical.not_imp.mp hy
  obtain ⟨y0, hy⟩ := Classical.not_imp.mp hy
  obtain ⟨y1, hy⟩ := Classical.not_imp.mp hy
  obtain ⟨hp, hn⟩ := Classical.not_imp.mp hy
  obtain ⟨x, rfl⟩ : ∃ n : Nat, x = n := ⟨x.toNat, by omega⟩
  obtain ⟨y, rfl⟩ : ∃ n : Nat, y = n := ⟨y.toNat, by omega⟩
  have hxs : x < s := by omega
  have hys : y < s := by omega
  obtain ⟨r, r1, r2, r3⟩ := rep_of (t := t) (ops := ops) i x hxs
  have r4 : ¬ pt t ops i r y := fun q => by
    rcases pt_third (x : Int) q with q | q
    · exact r3 q
    · exact hn q
  have go : ∀ z : Nat, z < s → ¬ pt t ops i r z → pt t ops (i + 1) r z → ∃ r' ∈ reps t ops s (i + 1), r' ∉ reps t ops s i := fun z hz h1 h2 => by
    obtain ⟨r', q1, q2, q3⟩ := rep_of (t := t) (ops := ops) (i + 1) z hz
    refine ⟨r', q1, fun q => ?_⟩
    have hne : r' ≠ r := fun e => by subst e; exact q3 h2
    have e1 : ¬ pt t ops i r r' := fun k => by
      rcases pt_third (z : Int) k with k | k
      · exact h1 k
      · exact q3 (pt_mono (pt_symm k))
    rcases Nat.lt_or_gt_of_ne hne with k | k
    · exact e1 (pt_symm ((mem_reps.mp r1).2 r' k))
    · exact e1 ((mem_reps.mp q).2 r k)
  have : ∃ r' ∈ reps t ops s (i + 1), r' ∉ reps t ops s i := by
    rcases pt_third (r : Int) hp with q | q
    · exact go x hxs r3 (pt_symm q)
    · exact go y hys r4 q
  obtain ⟨r', q1, q2⟩ := this
  exact sub_len sub q1 q2
theorem pt_states (h : Good s o t) (hop : ∀ op ∈ ops, op < o) {x y : Int} (hx : 0 ≤ x ∧ x < s) (hy : 0 ≤ y ∧ y < s) (hp : Parted t ops x y) : pt t ops s x y := by
  have : ∃ i, i ≤ s ∧ Stb t ops s i := by
    refine Classical.byContradiction fun hn => ?_
    have hg : ∀ i, i ≤ s → ¬ Stb t ops s i := fun i hi hs => hn ⟨i, hi, hs⟩
    have : ∀ i, i ≤ s + 1 → i ≤ (reps t ops s i).length := by
      intro i
      induction i with
      | zero => intro _; exact Nat.zero_le _
      | succ i ih =>
        intro hi
        have := ih (by omega)
        have := reps_grow (hg i (by omega))
        omega
    have h1 := this (s + 1) (Nat.le_refl _)
    have h2 := reps_len (t := t) (ops := ops) (s := s) (s + 1)
    omega
  obtain ⟨i, hi, hs⟩ := this
  obtain ⟨j, hj⟩ := hp
  exact pt_le hi (stb_all h hop hs j x y hx.1 hx.2 hy.1 hy.2 hj)
theorem parted_iff {x y : Int} : Parted t ops x y ↔ ∃ (B : List Nat) (op : Nat), (∀ b ∈ B, b ∈ ops) ∧ op ∈ ops ∧ (at_ t (runS t x B) op).2 ≠ (at_ t (runS t y B) op).2 := by
  constructor
  · rintro ⟨i, h⟩
    induction i generalizing x y with
    | zero => exact h.elim
    | succ i ih =>
      obtain ⟨op, ho, h⟩ := h
      rcases h with h | h
      · exact ⟨[], op, fun b hb => (by cases hb), ho, h⟩
      · obtain ⟨B, op', h1, h2, h3⟩ := ih h
        refine ⟨op :: B, op', fun b hb => ?_, h2, h3⟩
        rcases List.mem_cons.mp hb with rfl | hb
        · exact ho
        · exact h1 b hb
  · rintro ⟨B, op, h1, h2, h3⟩
    induction B generalizing x y with
    | nil => exact ⟨1, op, h2, .inl h3⟩
    | cons b B ih =>
      obtain ⟨i, hi⟩ := ih (fun c hc => h1 c (List.mem_cons_of_mem _ hc)) h3
      exact ⟨i + 1, b, h1 b List.mem_cons_self, .inr hi⟩
theorem Parted.sub {ops' : List Nat} {x y : Int} (hs : ∀ op ∈ ops, op ∈ ops') (h : Parted t ops x y) : Parted t ops' x y := by
  obtain ⟨B, op, h1, h2, h3⟩ := parted_iff.mp h
  exact parted_iff.mpr ⟨B, op, fun b hb => hs b (h1 b hb), hs op h2, h3⟩
def othersR (rel : List Pr) (o k : Nat) : List Nat := (List.range o).filter fun op => !decide (((op : Int), (k : Int)) ∈ rel)
theorem mem_others {rel : List Pr} {k op : Nat} : op ∈ othersR rel o k ↔ op < o ∧ ((op : Int), (k : Int)) ∉ rel := by
  unfold othersR
  rw [List.mem_filter, List.mem_range]
  simp
def EnoughO (t : Tb) (o k : Nat) (others : List Nat) : Prop := ∀ x ∈ reachS t, ∀ u < o, kindN t x u = k → ¬ Parted t others x (nx t x u)
theorem reach_run (h : Good s o t) (hs1 : 1 ≤ s) : ∀ x ∈ reachS t, ∃ A : List Nat, (∀ a ∈ A, a < o) ∧ runS t 0 A = x := by
  have add : ∀ (r : List (Int × Int)) (acc : List Int) (y : Int), RowOk s o r → t.getD y.toNat [] = r → (∃ A : List Nat, (∀ a ∈ A, a < o) ∧ runS t 0 A = y) → (∀ x ∈ acc, ∃ A : List Nat, (∀ a ∈ A, a < o) ∧ runS t 0 A = x) → ∀ x ∈ addNew acc r, ∃ A : List Nat, (∀ a ∈ A, a < o) ∧ runS t 0 A = x := by
    intro r acc y hr hy ⟨A, hA, eA⟩ hacc
    have sub : ∀ (r' : List (Int × Int)) (acc : List Int), (∀ p ∈ r', p ∈ r) → ∀ x ∈ addNew acc r', x ∈ acc ∨ ∃ p ∈ r, p.1 = x := by
      intro r'
      induction r' with
      | nil => intro acc _ x hx; exact .inl hx
      | cons p r' ih =>
        intro acc hs x hx
        have e : addNew acc (p :: r') = addNew (if p.1 ∈ acc then acc else acc ++ [p.1]) r' := rfl
        rw [e] at hx
        rcases ih _ (fun q hq => hs q (List.mem_cons_of_mem _ hq)) x hx with q | q
        · by_cases c : p.1 ∈ acc
          · rw [if_pos c] at q; exact .inl q
          · rw [if_neg c] at q
            rcases List.mem_append.mp q with q | q
            · exact .inl q
            · exact .inr ⟨p, hs p List.mem_cons_self, (List.mem_singleton.mp q).symm⟩
        · exact .inr q
    intro x hx
    rcases sub r acc (fun _ h => h) x hx with q | ⟨p, hp, rfl⟩
    · exact hacc x q
    · obtain ⟨op, hop, e⟩ := List.getElem_of_mem hp
      refine ⟨A ++ [op], fun a ha => ?_, ?_⟩
      · rcases List.mem_append.mp ha with q | q
        · exact hA a q
        · rw [List.mem_singleton.mp q, ← hr.1]; exact hop
      · rw [runS_append, eA]
        show (at_ t y op).1 = p.1
        unfold at_
        rw [hy, List.getD_eq_getElem?_getD, List.getElem?_eq_getElem hop, e]
        rfl
  have one : ∀ (k : Nat) (acc : List Int), Rch s acc → (∀ x ∈ acc, ∃ A : List Nat, (∀ a ∈ A, a < o) ∧ runS t 0 A = x) → ∀ x ∈ turn t k acc, ∃ A : List Nat, (∀ a ∈ A, a < o) ∧ runS t 0 A = x := by
    intro k acc ha hacc
    unfold turn
    cases e : acc[k]? with
    | none => exact hacc
    | some y =>
      have hy := ha.lt y (List.mem_of_getElem? e)
      obtain ⟨r, r1, r2, r3⟩ := row_at h hy
      simp only
      rw [r2]
      exact add r acc y r3 r2 (hacc y (List.mem_of_getElem? e)) hacc
  have all : ∀ (n k : Nat) (acc : List Int), Rch s acc → (∀ x ∈ acc, ∃ A : List Nat, (∀ a ∈ A, a < o) ∧ runS t 0 A = x) → ∀ x ∈ turns t n k acc, ∃ A : List Nat, (∀ a ∈ A, a < o) ∧ runS t 0 A = x := by
    intro n
    induction n with
    | zero => intro k acc _ h; exact h
    | succ n ih => intro k acc ha hacc; exact ih (k + 1) _ (turn_ok h ha k).1 (one k acc ha hacc)
  exact all _ _ _ (rch0 hs1) fun x hx => ⟨[], fun a ha => (by cases ha), (List.mem_singleton.mp hx).symm⟩
theorem run_reach (h : Good s o t) (hs1 : 1 ≤ s) : ∀ (A : List Nat) (x : Int), x ∈ reachS t → (∀ a ∈ A, a < o) → runS t x A ∈ reachS t
  | [], _, hx, _ => hx
  | a :: A, x, hx, hA => run_reach h hs1 A _ (reach_clo h hs1 hx (hA a List.mem_cons_self)) fun b hb => hA b (List.mem_cons_of_mem _ hb)
theorem dep_iff {rel : List Pr} (h : Good s o t) (hs1 : 1 ≤ s) : (∀ S op, ¬ Wrong t rel o S op) ↔ ∀ k, EnoughO t o k (othersR rel o k) := by
  constructor
  · intro hno k x hx u hu hk hp
    obtain ⟨A, hA, rfl⟩ := reach_run h hs1 x hx
    obtain ⟨B, op, h1, h2, h3⟩ := parted_iff.mp hp
    have hf : frSteps t rel o wk0 (hist A u B) := by
      refine frSteps_append.mpr ⟨fr_sn.mpr fun b hb => ⟨hA b hb, rfl⟩, ?_⟩
      rw [walk_sn]
      refine ⟨⟨hu, fun e => by cases e⟩, fr_sn.mpr fun b hb => ?_⟩
      obtain ⟨q1, q2⟩ := mem_others.mp (h1 b hb)
      refine ⟨q1, ?_⟩
      show barred rel b ([] ++ [kindN t (runS t 0 A) u]) = []
      rw [List.nil_append, hk]
      exact barred_one.mpr q2
    obtain ⟨q1, q2⟩ := mem_others.mp h2
    obtain ⟨B', op', _, hw⟩ := hist_wrong q1 hf (by rw [hist_walk, hk]; exact barred_one.mpr q2) (by rw [hist_walk]; exact fun e => h3 e.symm)
    exact hno _ _ hw
  · intro hen S op hw
    obtain ⟨h1, h2, h3, h4⟩ := hw
    obtain ⟨A, u, B, op', _, w1, w2, w3, w4⟩ := wrong_one (ok_fr h1) h2 h3 h4
    obtain ⟨f1, f2⟩ := frSteps_append.mp (ok_fr w1)
    have k1 := fr_sn.mp f1
    have k2 : u < o := f2.1.1
    have k3 := fr_sn.mp (show frSteps t rel o (stepW t (walkW t wk0 (A.map sn)) (u, false)) (B.map sn) from f2.2)
    rw [hist_walk] at w3 w4
    have hx := run_reach h hs1 A 0 (reach_zero t) fun a ha => (k1 a ha).1
    refine hen (kindN t (runS t 0 A) u) _ hx u k2 rfl (parted_iff.mpr ⟨B, op', fun b hb => ?_, mem_others.mpr ⟨w2, barred_one.mp w3⟩, fun e => w4 e.symm⟩)
    have := (k3 b hb).2
    rw [walk_sn] at this
    exact mem_others.mpr ⟨(k3 b hb).1, barred_one.mp this⟩
end
end Qk

set_option linter.all false
set_option maxHeartbeats 4000000
set_option maxRecDepth 100000
namespace Qk
open PySem
theorem kindsAt_nodup (ans : List Int) (op n : Nat) : (kindsAt ans op n).Nodup := by
  induction n with
  | zero => simp [kindsAt]
  | succ n ih =>
    rw [kindsAt_succ, List.nodup_append]
    refine ⟨ih, by split <;> simp, fun x hx y hy => ?_⟩
    split at hy
    · rw [List.mem_singleton.mp hy]
      intro e
      subst e
      unfold kindsAt at hx
      obtain ⟨a, ha, e⟩ := List.mem_map.mp hx
      have := List.mem_range.mp (List.mem_filter.mp ha).1
      simp only [Prod.mk.injEq] at e
      omega
    · cases hy
theorem kindsTo_nodup (t : Tb) : ∀ n, (kindsTo t n).Nodup
  | 0 => by simp [kindsTo]
  | n + 1 => by
    rw [kindsTo_succ, List.nodup_append]
    refine ⟨kindsTo_nodup t n, kindsAt_nodup _ _ _, fun x hx y hy => ?_⟩
    obtain ⟨k, hk, a, _, _, e⟩ := kindsTo_mem.mp hx
    unfold kindsAt at hy
    obtain ⟨b, _, e2⟩ := List.mem_map.mp hy
    intro e3
    rw [e, ← e2] at e3
    simp only [Prod.mk.injEq] at e3
    omega
theorem kinds_nodup (t : Tb) : (kindsS t).Nodup := kindsTo_nodup t _
section
variable {s o : Nat} {t : Tb}
theorem idx_iff {α : Type} [DecidableEq α] {l : List α} (nd : l.Nodup) {x : α} (hm : x ∈ l) {n : Nat} : l.idxOf x = n ↔ l[n]? = some x := by
  constructor
  · intro e
    subst e
    have hl := List.idxOf_lt_length_iff.mpr hm
    rw [List.getElem?_eq_getElem hl]
    exact congrArg some (List.getElem_idxOf hl)
  · intro e
    obtain ⟨hn, e2⟩ := List.getElem?_eq_some_iff.mp e
    rw [← e2]
    exact nd.idxOf_getElem n hn
theorem kindN_iff (h : Good s o t) (hs1 : 1 ≤ s) {x : Int} (hx : x ∈ reachS t) {u : Nat} (hu : u < o) {n : Nat} : kindN t x u = n ↔ (kindsS t)[n]? = some ((u : Int), (at_ t x u).2) := idx_iff (kinds_nodup t) (kinds_has h hs1 hx hu)
theorem kind_at (h : Good s o t) (hs1 : 1 ≤ s) {n : Nat} (hn : n < (kindsS t).length) : ∃ (u : Nat) (a : Int), u < o ∧ (kindsS t)[n]? = some ((u : Int), a) ∧ ∀ x ∈ reachS t, ∀ v < o, kindN t x v = n ↔ v = u ∧ (at_ t x v).2 = a := by
  obtain ⟨u, hu, a, _, e⟩ := kinds_in h hs1 (List.getElem_mem hn)
  refine ⟨u, a, hu, by rw [List.getElem?_eq_getElem hn, e], fun x hx v hv => ?_⟩
  rw [kindN_iff h hs1 hx hv, List.getElem?_eq_getElem hn, e]
  simp only [Option.some.injEq, Prod.mk.injEq]
  constructor
  · rintro ⟨h1, h2⟩; exact ⟨by omega, h2.symm⟩
  · rintro ⟨h1, h2⟩; exact ⟨by omega, h2.symm⟩
end
def RelSet (o nk : Nat) (L : List Pr) : Prop := L.Nodup ∧ ∀ p ∈ L, 0 ≤ p.1 ∧ p.1 < o ∧ 0 ≤ p.2 ∧ p.2 < nk
theorem prsT_nodup (o nk : Nat) : (prsT o nk).Nodup := by
  unfold prsT
  have one : ∀ a b, prAt nk a = prAt nk b → a = b := fun a b e => by
    simp only [prAt, Prod.mk.injEq] at e
    have h1 : a / nk = b / nk := by omega
    have h2 : a % nk = b % nk := by omega
    rw [← Nat.div_add_mod a nk, ← Nat.div_add_mod b nk, h1, h2]
  have gen : ∀ l : List Nat, l.Nodup → (l.map (prAt nk)).Nodup := by
    intro l
    induction l with
    | nil => simp
    | cons a l ih =>
      intro h2
      rw [List.nodup_cons] at h2
      rw [List.map_cons, List.nodup_cons]
      refine ⟨fun hm => ?_, ih h2.2⟩
      obtain ⟨b, hb, e⟩ := List.mem_map.mp hm
      exact h2.1 (one b a e ▸ hb)
  exact gen _ List.nodup_range
theorem RelOk.set {o nk : Nat} {L : List Pr} (h : RelOk o nk L) : RelSet o nk L := ⟨List.Nodup.sublist h (prsT_nodup o nk), fun p hp => h.mem hp⟩
theorem relOk_of' {rel : List Pr} {o nk : Nat} (ho : o ≤ 4) (hk : nk ≤ 8) (hn : norm rel = rel) (h : ∀ p ∈ rel, p.1 < o ∧ p.2 < nk) : RelOk o nk rel := by
  have e : ∀ o : Nat, o < 5 → ∀ nk : Nat, nk < 9 → (allP.filter fun p => decide (p.1 < (o : Int)) && decide (p.2 < (nk : Int))) = prsT o nk := by decide +kernel
  unfold RelOk
  rw [← e o (by omega) nk (by omega)]
  have : rel = (allP.filter fun p => decide (p.1 < (o : Int)) && decide (p.2 < (nk : Int))).filter fun p => decide (p ∈ rel) := by
    rw [List.filter_filter]
    conv => lhs; rw [← hn]
    unfold norm
    refine List.filter_congr fun p _ => ?_
    by_cases c : p ∈ rel
    · have := h p c
      simp [c, this.1, this.2]
    · simp [c]
  rw [this]
  exact List.filter_sublist
section
variable {o nk : Nat} {L : List Pr}
theorem RelSet.inR (h : RelSet o nk L) (ho : o ≤ 4) (hk : nk ≤ 8) : InR L := fun p hp => by
  have := h.2 p hp
  exact mem_allP.mpr ⟨this.1, by omega, this.2.2.1, by omega⟩
theorem RelSet.ok (h : RelSet o nk L) (ho : o ≤ 4) (hk : nk ≤ 8) : RelOk o nk (norm L) := relOk_of' ho hk (norm_norm (h.inR ho hk)) fun p hp => by
  have := h.2 p ((mem_norm (h.inR ho hk)).mp hp)
  exact ⟨this.2.1, this.2.2.2⟩
theorem RelSet.len (h : RelSet o nk L) (ho : o ≤ 4) (hk : nk ≤ 8) : L.length ≤ 32 := by
  have := nd_len h.1 (U := allP) fun p hp => h.inR ho hk p hp
  have e : allP.length = 32 := by decide +kernel
  omega
theorem RelSet.rel (h : RelSet o nk L) (ho : o ≤ 4) (hk : nk ≤ 8) : relD (norm L) = relD L := by
  unfold relD
  rw [norm_norm (h.inR ho hk)]
theorem RelSet.mem (h : RelSet o nk L) (ho : o ≤ 4) (hk : nk ≤ 8) {p : Pr} : p ∈ norm L ↔ p ∈ L := mem_norm (h.inR ho hk)
end
section
variable {t : Tb} {o : Nat} {rel rel' : List Pr}
theorem barred_congr (h : ∀ p, p ∈ rel ↔ p ∈ rel') (op : Nat) (left : List Nat) : barred rel op left = barred rel' op left := by
  unfold barred
  refine List.filter_congr fun k _ => ?_
  simp only [h]
theorem okSteps_congr (h : ∀ p, p ∈ rel ↔ p ∈ rel') : ∀ (S : List St) (w : Wk), okSteps t rel o w S ↔ okSteps t rel' o w S
  | [], _ => Iff.rfl
  | x :: S, w => by
    show okStep t rel o w x ∧ okSteps t rel o _ S ↔ okStep t rel' o w x ∧ okSteps t rel' o _ S
    rw [okSteps_congr h S]
    unfold okStep
    rw [barred_congr h]
theorem Wrong_congr (h : ∀ p, p ∈ rel ↔ p ∈ rel') {S : List St} {op : Nat} : Wrong t rel o S op ↔ Wrong t rel' o S op := by
  unfold Wrong
  rw [okSteps_congr h, barred_congr h]
theorem LeastW_congr (h : ∀ p, p ∈ rel ↔ p ∈ rel') {n : Nat} : LeastW t rel o n ↔ LeastW t rel' o n := by
  unfold LeastW
  simp only [Wrong_congr h]
theorem IsRow_congr (h : ∀ p, p ∈ rel ↔ p ∈ rel') {r : Rm} : IsRow t rel o r ↔ IsRow t rel' o r := by
  unfold IsRow
  simp only [okSteps_congr h]
theorem ToldS_congr (h : ∀ p, p ∈ rel ↔ p ∈ rel') {r : Option (List St × Nat)} : ToldS t rel o r ↔ ToldS t rel' o r := by
  cases r with
  | none => simp only [ToldS, Wrong_congr h]
  | some p => simp only [ToldS, Wrong_congr h]
end
abbrev kvP (Q : List (Int × Int)) : List (Ky × D) := Q.map fun p => (.t [p.1, p.2], .bl true)
def dctT (Q : List (Int × Int)) : D := .dct true (Q.map fun p => .t [p.1, p.2]) (Q.map fun _ => .bl true)
def insP (Q : List (Int × Int)) (p : Int × Int) : List (Int × Int) := if p ∈ Q then Q else Q ++ [p]
theorem look_kvP {a b : Int} : ∀ {Q : List (Int × Int)}, (lookK (.t [a, b]) (kvP Q)).isSome = decide ((a, b) ∈ Q)
  | [] => rfl
  | p :: Q => by
    simp only [kvP, List.map_cons, lookK]
    by_cases c : p = (a, b)
    · subst c; simp
    · have c2 : ¬ (Ky.t [p.1, p.2] = Ky.t [a, b]) := fun e => c (by
        simp only [Ky.t.injEq, List.cons.injEq, and_true] at e
        exact Prod.ext e.1 e.2)
      have c3 : ¬ (a, b) = p := fun e => c e.symm
      rw [if_neg c2]
      have ih := look_kvP (a := a) (b := b) (Q := Q)
      rw [ih]
      simp [c3]
theorem put_kvP {a b : Int} {Q : List (Int × Int)} : putK (.t [a, b]) (.bl true) (kvP Q) = kvP (insP Q (a, b)) := by
  unfold putK insP
  rw [look_kvP]
  by_cases c : (a, b) ∈ Q
  · rw [decide_eq_true c, if_pos rfl, if_pos c]
    unfold kvP
    rw [List.map_map]
    refine List.map_congr_left fun p _ => ?_
    simp only [Function.comp_def]
    split <;> rfl
  · rw [decide_eq_false c, if_neg (by simp), if_neg c]
    simp [kvP]
section
variable {st : Sto} {a b : Int} {Q : List (Int × Int)}
theorem din_kvP : dinV st (.tup [.int a, .int b]) (.own (.dct true (kvP Q))) = some (decide ((a, b) ∈ Q)) := by
  rw [← look_kvP]; rfl
theorem zip_dctT : (Q.map fun p => Ky.t [p.1, p.2]).zip (Q.map fun _ => D.bl true) = kvP Q := by
  induction Q with
  | nil => rfl
  | cons p Q ih => simp only [List.map_cons, List.zip_cons_cons, ih, kvP]
theorem din_dctT : dinV st (.tup [.int a, .int b]) (.d (dctT Q)) = some (decide ((a, b) ∈ Q)) := by
  rw [← look_kvP, ← zip_dctT]; rfl
theorem frz_kvP : D.dct true ((kvP Q).map (·.1)) ((kvP Q).map (·.2)) = dctT Q := by
  unfold dctT kvP
  rw [List.map_map, List.map_map]; rfl
end
theorem insP_mem {Q : List (Int × Int)} {p q : Int × Int} : q ∈ insP Q p ↔ q ∈ Q ∨ q = p := by
  unfold insP
  split
  · rename_i h
    constructor
    · exact .inl
    · rintro (h2 | rfl)
      · exact h2
      · exact h
  · simp
theorem insP_nodup {Q : List (Int × Int)} {p : Int × Int} (h : Q.Nodup) : (insP Q p).Nodup := by
  unfold insP
  split
  · exact h
  · rename_i c
    rw [List.nodup_append]
    exact ⟨h, by simp, fun x hx y hy => by rw [List.mem_singleton.mp hy]; intro e; exact c (e ▸ hx)⟩
def sqP (s : Nat) : List (Int × Int) := (List.range s).flatMap fun (a : Nat) => (List.range s).map fun (b : Nat) => ((a : Int), (b : Int))
theorem sqP_len (s : Nat) : (sqP s).length ≤ s * s := by
  have := flat_len (n := s) (f := fun a : Nat => (List.range s).map fun b : Nat => ((a : Int), (b : Int))) (List.range s) fun a _ => by simp
  rw [List.length_range] at this
  exact this
theorem pairs_len {s : Nat} {Q : List (Int × Int)} (hn : Q.Nodup) (h : ∀ p ∈ Q, (0 ≤ p.1 ∧ p.1 < s) ∧ 0 ≤ p.2 ∧ p.2 < s) : Q.length ≤ s * s :=
  Nat.le_trans (nd_len hn (U := sqP s) fun p hp => by
    have := h p hp
    exact List.mem_flatMap.mpr ⟨p.1.toNat, List.mem_range.mpr (by omega), List.mem_map.mpr ⟨p.2.toNat, List.mem_range.mpr (by omega), Prod.ext (by simp only; omega) (by simp only; omega)⟩⟩) (sqP_len s)
end Qk

set_option linter.all false
set_option maxHeartbeats 4000000
set_option maxRecDepth 100000
namespace Qk
open PySem
theorem bl_any {st : Sto} {p : Pl} : bltV st .any [p] = onO none (lstOf st p) fun ds => (blsOf ds).map fun bs => .bl (bs.any id) := by
  simp only [bltV]
  cases lstOf st p <;> rfl
theorem bl_allV {st : Sto} {p : Pl} : bltV st .all [p] = onO none (lstOf st p) fun ds => (blsOf ds).map fun bs => .bl (bs.all id) := by
  simp only [bltV]
  cases lstOf st p <;> rfl
theorem bit_and (m k : Nat) : Builtin.bitAnd ((m : Int) / 2 ^ k) 1 = if m.testBit k then 1 else 0 := by
  have e : ((m : Int) / 2 ^ k) = ((m >>> k : Nat) : Int) := shr_nat _ _
  have b : Builtin.bitAnd ((m >>> k : Nat) : Int) 1 = (((m >>> k) &&& 1 : Nat) : Int) := band_nat _ 1
  rw [e, b]
  have h : (m >>> k) &&& 1 = (m >>> k) % 2 := Nat.and_one_is_mod _
  rw [h]
  have t : m.testBit k = decide ((m >>> k) % 2 = 1) := by
    unfold Nat.testBit
    rw [Nat.and_comm, Nat.and_one_is_mod]
    rcases Nat.mod_two_eq_zero_or_one (m >>> k) with q | q <;> simp [q]
  rw [t]
  rcases Nat.mod_two_eq_zero_or_one (m >>> k) with q | q <;> simp [q]
def othersM (o m : Nat) : List Nat := (List.range o).filter fun op => !m.testBit op
theorem mem_othersM {o m op : Nat} : op ∈ othersM o m ↔ op < o ∧ m.testBit op = false := by
  unfold othersM
  rw [List.mem_filter, List.mem_range]
  simp
def membersM (o m : Nat) : List Nat := (List.range o).filter fun op => m.testBit op
theorem mem_membersM {o m op : Nat} : op ∈ membersM o m ↔ op < o ∧ m.testBit op = true := by
  unfold membersM
  rw [List.mem_filter, List.mem_range]
def smallerM (o m : Nat) : List Nat := (membersM o m).map fun op => m - 2 ^ op
theorem bit_pow {m op : Nat} (h : m.testBit op = true) : 2 ^ op ≤ m := Nat.ge_two_pow_of_testBit h
theorem less_bit : ∀ m < 16, ∀ op < 4, m.testBit op = true → ∀ j < 4, (m - 2 ^ op).testBit j = (m.testBit j && !decide (j = op)) := by decide +kernel
theorem full_bit : ∀ o < 5, ∀ j < o, (2 ^ o - 1).testBit j = true := by decide +kernel
theorem pow_le16 {o : Nat} (h : o ≤ 4) : 2 ^ o ≤ 16 := Nat.le_trans (Nat.pow_le_pow_right (by decide) h) (by decide)
theorem othersM_less {o m op : Nat} (ho : o ≤ 4) (hm : m < 2 ^ o) (hop : op < o) (hb : m.testBit op = true) (j : Nat) : j ∈ othersM o (m - 2 ^ op) ↔ j ∈ othersM o m ∨ j = op := by
  have := pow_le16 ho
  rw [mem_othersM, mem_othersM]
  constructor
  · rintro ⟨h1, h2⟩
    rw [less_bit m (by omega) op (by omega) hb j (by omega)] at h2
    by_cases c : j = op
    · exact .inr c
    · simp [c] at h2; exact .inl ⟨h1, h2⟩
  · rintro (⟨h1, h2⟩ | rfl)
    · refine ⟨h1, ?_⟩
      rw [less_bit m (by omega) op (by omega) hb j (by omega), h2]; rfl
    · refine ⟨hop, ?_⟩
      rw [less_bit m (by omega) j (by omega) hb j (by omega)]; simp
def leastM (o : Nat) (G : List Nat) : List Nat := G.filter fun m => (smallerM o m).all fun k => !decide (k ∈ G)
theorem mem_leastM {o m : Nat} {G : List Nat} : m ∈ leastM o G ↔ m ∈ G ∧ ∀ op < o, m.testBit op = true → m - 2 ^ op ∉ G := by
  unfold leastM smallerM
  rw [List.mem_filter, List.all_eq_true]
  constructor
  · rintro ⟨h1, h2⟩
    refine ⟨h1, fun op ho hb => ?_⟩
    have := h2 _ (List.mem_map.mpr ⟨op, mem_membersM.mpr ⟨ho, hb⟩, rfl⟩)
    simpa using this
  · rintro ⟨h1, h2⟩
    refine ⟨h1, fun k hk => ?_⟩
    obtain ⟨op, ho, rfl⟩ := List.mem_map.mp hk
    obtain ⟨h3, h4⟩ := mem_membersM.mp ho
    simpa using h2 op h3 h4
theorem leastM_ne {o : Nat} {G : List Nat} (h : ∃ m, m ∈ G) : leastM o G ≠ [] := by
  obtain ⟨m, hm⟩ := h
  induction m using Nat.strongRecOn with
  | _ m ih =>
    by_cases c : ∃ op, op < o ∧ m.testBit op = true ∧ m - 2 ^ op ∈ G
    · obtain ⟨op, h1, h2, h3⟩ := c
      have := bit_pow h2
      have := Nat.two_pow_pos op
      exact ih (m - 2 ^ op) (by omega) h3
    · intro e
      have : m ∈ leastM o G := mem_leastM.mpr ⟨hm, fun op h1 h2 h3 => c ⟨op, h1, h2, h3⟩⟩
      rw [e] at this
      cases this
theorem least_in {o : Nat} {G : List Nat} {m : Nat} (ho : o ≤ 4) (hm : m < 2 ^ o) (h : m ∈ G) : ∃ l ∈ leastM o G, l < 2 ^ o ∧ ∀ j < o, l.testBit j = true → m.testBit j = true := by
  induction m using Nat.strongRecOn with
  | _ m ih =>
    by_cases c : ∃ op, op < o ∧ m.testBit op = true ∧ m - 2 ^ op ∈ G
    · obtain ⟨op, h1, h2, h3⟩ := c
      have := bit_pow h2
      have := Nat.two_pow_pos op
      have hp := pow_le16 ho
      obtain ⟨l, l1, l2, l3⟩ := ih (m - 2 ^ op) (by omega) (by omega) h3
      refine ⟨l, l1, l2, fun j hj hb => ?_⟩
      have := l3 j hj hb
      rw [less_bit m (by omega) op (by omega) h2 j (by omega)] at this
      simp at this
      exact this.1
    · exact ⟨m, mem_leastM.mpr ⟨h, fun op h1 h2 h3 => c ⟨op, h1, h2, h3⟩⟩, hm, fun _ _ hb => hb⟩
theorem EnoughO.none {t : Tb} {o k : Nat} : EnoughO t o k [] := fun x _ u _ _ hp => by
  obtain ⟨_, op, _, h, _⟩ := parted_iff.mp hp
  cases h
theorem EnoughO.sub {t : Tb} {o k : Nat} {A B : List Nat} (h : EnoughO t o k A) (hs : ∀ x ∈ B, x ∈ A) : EnoughO t o k B := fun x hx u hu hk hp => h x hx u hu hk (hp.sub hs)
theorem EnoughO.congr {t : Tb} {o k : Nat} {A B : List Nat} (h : ∀ x, x ∈ A ↔ x ∈ B) : EnoughO t o k A ↔ EnoughO t o k B := ⟨fun e => e.sub fun x hx => (h x).mpr hx, fun e => e.sub fun x hx => (h x).mp hx⟩
theorem enough_full {t : Tb} {o k : Nat} (ho : o ≤ 4) : EnoughO t o k (othersM o (2 ^ o - 1)) := EnoughO.none.sub fun x hx => by
  obtain ⟨h1, h2⟩ := mem_othersM.mp hx
  rw [full_bit o (by omega) x h1] at h2
  cases h2
def GoodM (t : Tb) (o n : Nat) (G : List Nat) : Prop := (∀ m, m ∈ G ↔ m < 2 ^ o ∧ EnoughO t o n (othersM o m)) ∧ G.Nodup
theorem GoodM.ne {t : Tb} {o n : Nat} {G : List Nat} (h : GoodM t o n G) (ho : o ≤ 4) : leastM o G ≠ [] := leastM_ne ⟨2 ^ o - 1, (h.1 _).mpr ⟨by have := Nat.two_pow_pos o; omega, enough_full ho⟩⟩
def relM (o nk : Nat) (M : Nat → Nat) : List Pr := (prsT o nk).filter fun p => (M p.2.toNat).testBit p.1.toNat
theorem relM_ok (o nk : Nat) (M : Nat → Nat) : RelOk o nk (relM o nk M) := List.filter_sublist
theorem mem_relM {o nk : Nat} {M : Nat → Nat} {op k : Nat} (ho : op < o) (hk : k < nk) : ((op : Int), (k : Int)) ∈ relM o nk M ↔ (M k).testBit op = true := by
  unfold relM
  rw [List.mem_filter]
  simp only [Int.toNat_natCast]
  constructor
  · exact fun h => h.2
  · refine fun h => ⟨?_, h⟩
    unfold prsT
    refine List.mem_map.mpr ⟨op * nk + k, List.mem_range.mpr ?_, ?_⟩
    · have : (op + 1) * nk ≤ o * nk := Nat.mul_le_mul_right nk ho
      rw [Nat.succ_mul] at this
      omega
    · have h1 : (op * nk + k) / nk = op := by rw [Nat.mul_comm, Nat.mul_add_div (by omega), Nat.div_eq_of_lt hk, Nat.add_zero]
      have h2 : (op * nk + k) % nk = k := by rw [Nat.mul_comm, Nat.mul_add_mod, Nat.mod_eq_of_lt hk]
      simp only [prAt, h1, h2]
theorem othersR_M {o nk k : Nat} {M : Nat → Nat} (hk : k < nk) (j : Nat) : j ∈ othersR (relM o nk M) o k ↔ j ∈ othersM o (M k) := by
  rw [mem_others, mem_othersM]
  constructor
  · rintro ⟨h1, h2⟩
    refine ⟨h1, ?_⟩
    rw [mem_relM h1 hk] at h2
    simpa using h2
  · rintro ⟨h1, h2⟩
    refine ⟨h1, ?_⟩
    rw [mem_relM h1 hk, h2]; simp
section
variable {s o : Nat} {t : Tb}
theorem relM_dep (h : Good s o t) (hs1 : 1 ≤ s) {M : Nat → Nat} (hM : ∀ k < (kindsS t).length, EnoughO t o k (othersM o (M k))) : ∀ S op, ¬ Wrong t (relM o (kindsS t).length M) o S op :=
  (dep_iff h hs1).mpr fun k => by
    by_cases c : k < (kindsS t).length
    · exact (EnoughO.congr (othersR_M c)).mpr (hM k c)
    · intro x hx u hu hk
      have := kindN_lt h hs1 hx hu
      omega
end
end Qk

set_option maxHeartbeats 1000000

namespace Qk.K50
open PySem L2 PyProof.Rows
noncomputable section
abbrev top (i : Nat) : Stmt := PySem.Challenge.pw_quorumkinds_k50_log_added.main.body.getD i (.Pass ⟨0, 0, 0, 0⟩)
def C : List Int := [99, 3, 3]
abbrev gi_MOST_STAMP : Nat := 0
abbrev gi_MOST_OPERATION : Nat := 1
abbrev gi_MOST_ANSWER : Nat := 2
@[simp] theorem C_0 : nth C 0 = some 99 := rfl
@[simp] theorem C_1 : nth C 1 = some 3 := rfl
@[simp] theorem C_2 : nth C 2 = some 3 := rfl
abbrev par (fs : List Cal) (N : List Str) : Par := { N := N, cs := ["MOST_STAMP", "MOST_OPERATION", "MOST_ANSWER"], fs := fs, cl := [.Log], is := [.Log], e0 := [], e1 := [.InvalidEntry, .StampConflict], it := [(.Log, 0)], xc := [.InvalidEntry, .StampConflict], fh := [] }
abbrev s_law_digits : Stmt := top 15
abbrev n_law_digits : List Str := ["_law_cell_here", "_law_bases", "_law_row", "_law_rest", "_law_great", "_law_base"]
abbrev c0 : List Cal := []
abbrev g0 : List Fn := []
abbrev g_law_digits : List Fn := g0
def l_law_digits_1 : Ss :=
 (.cons (.if_ (.v 4)
 ((.cons (.app 2 (.bin .mod (.blt .int (.cons (.v 3) .nil)) (.v 5)))
 (.cons (.asg (.n 3) (.bin .fdiv (.v 3) (.v 5)))
 .nil)))
 ((.cons (.asg (.n 3) (.bin .mod (.blt .int (.cons (.bin .add (.bin .mul (.v 3) (.c (.int 48271))) (.c (.int 12345))) .nil)) (.c (.int 2147483647))))
 (.cons (.app 2 (.bin .mod (.bin .mod (.blt .int (.cons (.bin .add (.bin .mul (.v 3) (.v 3)) (.bin .mul (.c (.int 7)) (.v 3))) .nil)) (.c (.int 1000003))) (.v 5)))
 .nil))))
 .nil)
abbrev ix_law_digits : Nat := 0
def b_law_digits : Ss :=
 (.cons (.asgO 2 (.lst .nil))
 (.cons (.asg (.n 3) (.blt .abs (.cons (.v 0) .nil)))
 (.cons (.asg (.n 4) (.cmp .ge (.v 3) (.bin .pow (.c (.int 10)) (.c (.int 18)))))
 (.cons (.for_ (.n 5) (.seq (.v 1)) l_law_digits_1)
 (.cons (.frz 2)
 (.cons (.ret (.v 2))
 .nil))))))
def f_law_digits : Fn := runFn g_law_digits C b_law_digits 6
theorem sc_law_digits : scB n_law_digits ["_law_cell_here", "_law_bases"] (defScope s_law_digits) = true := by decide +kernel
theorem ck_law_digits : mSs (par c0 n_law_digits) b_law_digits ⟨defScope s_law_digits, fun _ => true⟩ (defBody s_law_digits) = true := by decide +kernel
abbrev s_law_world : Stmt := top 17
abbrev n_law_world : List Str := ["_law_cell_here", "_law_count", "_law_digits_here", "_law_at"]
abbrev c1 : List Cal := [.fn "_law_digits" 2]
abbrev g1 : List Fn := [f_law_digits]
abbrev g_law_world : List Fn := g1
def e_law_world_1 : E :=
 (.tup (.cons (.bin .add (.v 3) (.c (.int 1))) (.cons (.bin .mod (.blt .int (.cons (.ix (.v 2) (.v 3)) .nil)) (.c (.int 4))) (.cons (.bin .fdiv (.ix (.v 2) (.v 3)) (.c (.int 4))) .nil))))
abbrev ix_law_world : Nat := 1
def b_law_world : Ss :=
 (.cons (.asg (.n 2) (.call 0 (.cons (.v 0) (.cons (.bin .mul (.lst (.cons (.c (.int 16)) .nil)) (.v 1)) .nil))))
 (.cons (.ret (.comp e_law_world_1 (.n 3) (.rng (.v 1)) .nil [3]))
 .nil))
def f_law_world : Fn := runFn g_law_world C b_law_world 4
theorem sc_law_world : scB n_law_world ["_law_cell_here", "_law_count"] (defScope s_law_world) = true := by decide +kernel
theorem ck_law_world : mSs (par c1 n_law_world) b_law_world ⟨defScope s_law_world, fun _ => true⟩ (defBody s_law_world) = true := by decide +kernel
abbrev s_law_cell : Stmt := top 14
abbrev n_law_cell : List Str := ["_law_script", "_law_k"]
abbrev c2 : List Cal := [.fn "_law_digits" 2, .fn "_law_world" 2]
abbrev g2 : List Fn := [f_law_digits, f_law_world]
abbrev g_law_cell : List Fn := g2
abbrev ix_law_cell : Nat := 2
def b_law_cell : Ss :=
 (.cons (.if_ (.cmp .lt (.v 1) (.blt .len (.cons (.v 0) .nil)))
 ((.cons (.ret (.ix (.v 0) (.v 1)))
 .nil))
 (.nil))
 (.cons (.ret (.c (.int 0)))
 .nil))
def f_law_cell : Fn := runFn g_law_cell C b_law_cell 2
theorem sc_law_cell : scB n_law_cell ["_law_script", "_law_k"] (defScope s_law_cell) = true := by decide +kernel
theorem ck_law_cell : mSs (par c2 n_law_cell) b_law_cell ⟨defScope s_law_cell, fun _ => true⟩ (defBody s_law_cell) = true := by decide +kernel
abbrev s_law_part : Stmt := top 18
abbrev n_law_part : List Str := ["_law_cell_here", "_law_world_here", "_law_digits_here", "_law_at"]
abbrev c3 : List Cal := [.fn "_law_digits" 2, .fn "_law_world" 2, .fn "_law_cell" 2]
abbrev g3 : List Fn := [f_law_digits, f_law_world, f_law_cell]
abbrev g_law_part : List Fn := g3
def e_law_part_1 : E :=
 (.ix (.v 1) (.v 3))
abbrev ix_law_part : Nat := 3
def b_law_part : Ss :=
 (.cons (.asg (.n 2) (.call 0 (.cons (.v 0) (.cons (.bin .add (.lst (.cons (.c (.int 3)) .nil)) (.bin .mul (.lst (.cons (.c (.int 4)) .nil)) (.blt .len (.cons (.v 1) .nil)))) .nil))))
 (.cons (.ret (.comp e_law_part_1 (.n 3) (.rng (.blt .len (.cons (.v 1) .nil))) (.cons (.cmp .le (.ix (.v 2) (.bin .add (.c (.int 1)) (.v 3))) (.ix (.v 2) (.c (.int 0)))) .nil) [3]))
 .nil))
def f_law_part : Fn := runFn g_law_part C b_law_part 4
theorem sc_law_part : scB n_law_part ["_law_cell_here", "_law_world_here"] (defScope s_law_part) = true := by decide +kernel
theorem ck_law_part : mSs (par c3 n_law_part) b_law_part ⟨defScope s_law_part, fun _ => true⟩ (defBody s_law_part) = true := by decide +kernel
abbrev s_law_turned : Stmt := top 21
abbrev n_law_turned : List Str := ["_law_part_here", "_law_at", "_law_here", "_law_turned_here"]
abbrev c4 : List Cal := [.fn "_law_digits" 2, .fn "_law_world" 2, .fn "_law_cell" 2, .fn "_law_part" 2]
abbrev g4 : List Fn := [f_law_digits, f_law_world, f_law_cell, f_law_part]
abbrev g_law_turned : List Fn := g4
abbrev ix_law_turned : Nat := 4
def b_law_turned : Ss :=
 (.cons (.asg (.n 2) (.bin .mod (.blt .int (.cons (.v 1) .nil)) (.bin .add (.blt .len (.cons (.v 0) .nil)) (.c (.int 1)))))
 (.cons (.asg (.n 3) (.rev (.blt .list (.cons (.v 0) .nil))))
 (.cons (.ret (.shr (.bin .add (.bin .add (.sl (.v 3) (.some (.v 2)) .no) (.sl (.v 3) .no (.some (.v 2)))) (.sl (.v 3) .no (.some (.c (.int 2)))))))
 .nil)))
def f_law_turned : Fn := runFn g_law_turned C b_law_turned 4
theorem sc_law_turned : scB n_law_turned ["_law_part_here", "_law_at"] (defScope s_law_turned) = true := by decide +kernel
theorem ck_law_turned : mSs (par c4 n_law_turned) b_law_turned ⟨defScope s_law_turned, fun _ => true⟩ (defBody s_law_turned) = true := by decide +kernel
abbrev s_law_spoiled_row : Stmt := top 22
abbrev n_law_spoiled_row : List Str := ["_law_part_here", "_law_first", "_law_digits_here", "_law_form", "_law_row", "_law_far", "_law_near", "_law_bad", "_law_entry"]
abbrev c5 : List Cal := [.fn "_law_digits" 2, .fn "_law_world" 2, .fn "_law_cell" 2, .fn "_law_part" 2, .fn "_law_turned" 2]
abbrev g5 : List Fn := [f_law_digits, f_law_world, f_law_cell, f_law_part, f_law_turned]
abbrev g_law_spoiled_row : List Fn := g5
def i_law_spoiled_row_1 : S :=
 (.if_ (.cmp .eq (.ix (.v 2) (.c (.int 0))) (.c (.int 2)))
 ((.cons (.asg (.n 6) (.ix (.v 1) (.bin .mod (.blt .int (.cons (.ix (.v 2) (.c (.int 3))) .nil)) (.blt .len (.cons (.v 1) .nil)))))
 .nil))
 (.nil))
def e_law_spoiled_row_1 : E :=
 (.v 8)
def i_law_spoiled_row_2 : S :=
 (.if_ (.cmp .ne (.ix (.v 6) (.c (.int 0))) (.ix (.v 5) (.c (.int 0))))
 ((.cons (.app 4 (.tup (.cons (.ix (.v 6) (.c (.int 0))) (.cons (.bin .sub (.c (.int 3)) (.ix (.v 6) (.c (.int 1)))) (.cons (.ix (.v 6) (.c (.int 2))) .nil)))))
 .nil))
 (.nil))
def i_law_spoiled_row_3 : S :=
 (.if_ (.and (.cmp .in_ (.ix (.v 2) (.c (.int 0))) (.tup (.cons (.c (.int 1)) (.cons (.c (.int 2)) .nil)))) (.cmp .ne (.v 1) (.lst .nil)))
 ((.cons (.asg (.n 5) (.ix (.v 1) (.bin .mod (.blt .int (.cons (.ix (.v 2) (.c (.int 2))) .nil)) (.blt .len (.cons (.v 1) .nil)))))
 (.cons (.asg (.n 6) (.v 5))
 (.cons i_law_spoiled_row_1
 (.cons (.asgO 4 (.comp e_law_spoiled_row_1 (.n 8) (.seq (.v 4)) (.cons (.cmp .nin (.ix (.v 8) (.c (.int 0))) (.tup (.cons (.ix (.v 6) (.c (.int 0))) (.cons (.ix (.v 5) (.c (.int 0))) .nil)))) .nil) [8]))
 (.cons (.shrO 4)
 (.cons (.insL 4 (.bin .mod (.blt .int (.cons (.ix (.v 2) (.c (.int 4))) .nil)) (.bin .add (.blt .len (.cons (.v 4) .nil)) (.c (.int 1)))) (.tup (.cons (.ix (.v 5) (.c (.int 0))) (.cons (.ix (.v 5) (.c (.int 1))) (.cons (.bin .sub (.c (.int 3)) (.ix (.v 5) (.c (.int 2)))) .nil)))))
 (.cons i_law_spoiled_row_2
 .nil))))))))
 (.nil))
def i_law_spoiled_row_4 : S :=
 (.if_ (.and (.cmp .gt (.v 3) (.c (.int 0))) (.cmp .eq (.ix (.v 2) (.c (.int 0))) (.c (.int 3))))
 ((.cons (.insL 4 (.bin .mod (.blt .int (.cons (.ix (.v 2) (.c (.int 4))) .nil)) (.bin .add (.blt .len (.cons (.v 4) .nil)) (.c (.int 1)))) (.tup (.cons (.bin .add (.c (.int 1)) (.ix (.v 2) (.c (.int 2)))) (.cons (.c (.int 1)) (.cons (.c (.int 0)) .nil)))))
 (.cons (.app 4 (.tup (.cons (.bin .add (.c (.int 1)) (.ix (.v 2) (.c (.int 2)))) (.cons (.c (.int 1)) (.cons (.c (.int 3)) .nil)))))
 .nil)))
 (.nil))
def i_law_spoiled_row_5 : S :=
 (.if_ (.and (.cmp .gt (.v 3) (.c (.int 0))) (.cmp .eq (.ix (.v 2) (.c (.int 5))) (.c (.int 1))))
 ((.cons (.asg (.n 7) (.lst (.cons (.tup (.cons (.c (.int 0)) (.cons (.c (.int 1)) (.cons (.c (.int 2)) .nil)))) (.cons (.tup (.cons (.c (.int 100)) (.cons (.c (.int 0)) (.cons (.c (.int 0)) .nil)))) (.cons (.tup (.cons (.c (.int 7)) (.cons (.c (.int 4)) (.cons (.c (.int 1)) .nil)))) (.cons (.tup (.cons (.c (.int 7)) (.cons (.neg (.c (.int 1))) (.cons (.c (.int 1)) .nil)))) (.cons (.tup (.cons (.c (.int 99)) (.cons (.c (.int 3)) (.cons (.c (.int 4)) .nil)))) (.cons (.tup (.cons (.c (.int 1)) (.cons (.c (.int 0)) (.cons (.neg (.c (.int 1))) .nil)))) (.cons (.tup (.cons (.neg (.c (.int 1))) (.cons (.c (.int 2)) (.cons (.c (.int 2)) .nil)))) .nil)))))))))
 (.cons (.insL 4 (.bin .mod (.blt .int (.cons (.ix (.v 2) (.c (.int 7))) .nil)) (.bin .add (.blt .len (.cons (.v 4) .nil)) (.c (.int 1)))) (.ix (.v 7) (.ix (.v 2) (.c (.int 6)))))
 (.cons (.app 4 (.tup (.cons (.c (.int 0)) (.cons (.c (.int 0)) (.cons (.c (.int 9)) .nil)))))
 .nil))))
 (.nil))
abbrev ix_law_spoiled_row : Nat := 5
def b_law_spoiled_row : Ss :=
 (.cons (.asg (.n 4) (.call 4 (.cons (.v 0) (.cons (.ix (.v 2) (.c (.int 1))) .nil))))
 (.cons i_law_spoiled_row_3
 (.cons i_law_spoiled_row_4
 (.cons i_law_spoiled_row_5
 (.cons (.ret (.v 4))
 .nil)))))
def f_law_spoiled_row : Fn := runFn g_law_spoiled_row C b_law_spoiled_row 9
theorem sc_law_spoiled_row : scB n_law_spoiled_row ["_law_part_here", "_law_first", "_law_digits_here", "_law_form"] (defScope s_law_spoiled_row) = true := by decide +kernel
theorem ck_law_spoiled_row : mSs (par c5 n_law_spoiled_row) b_law_spoiled_row ⟨defScope s_law_spoiled_row, fun _ => true⟩ (defBody s_law_spoiled_row) = true := by decide +kernel
abbrev s_law_merged : Stmt := top 23
abbrev n_law_merged : List Str := ["_law_entries", "_law_met", "_law_clashes", "_law_entry", "_law_stamp"]
abbrev c6 : List Cal := [.fn "_law_digits" 2, .fn "_law_world" 2, .fn "_law_cell" 2, .fn "_law_part" 2, .fn "_law_turned" 2, .fn "_law_spoiled_row" 4]
abbrev g6 : List Fn := [f_law_digits, f_law_world, f_law_cell, f_law_part, f_law_turned, f_law_spoiled_row]
abbrev g_law_merged : List Fn := g6
def l_law_merged_1 : Ss :=
 (.cons (.if_ (.or (.not (.chn .le .le (.c (.int 1)) (.ix (.v 3) (.c (.int 0))) (.c (.int 99)))) (.or (.not (.chn .le .le (.c (.int 0)) (.ix (.v 3) (.c (.int 1))) (.c (.int 3)))) (.not (.chn .le .le (.c (.int 0)) (.ix (.v 3) (.c (.int 2))) (.c (.int 3))))))
 ((.cons (.ret (.tup (.cons (.c (.str "entry")) (.cons (.v 3) .nil))))
 .nil))
 (.nil))
 (.cons (.if_ (.din true (.ix (.v 3) (.c (.int 0))) (.v 1))
 ((.cons (.setD 1 (.ix (.v 3) (.c (.int 0))) (.v 3))
 .nil))
 (.nil))
 (.cons (.if_ (.cmp .ne (.dget (.v 1) (.ix (.v 3) (.c (.int 0)))) (.v 3))
 ((.cons (.app 2 (.ix (.v 3) (.c (.int 0))))
 .nil))
 (.nil))
 (.cons (.wip [3])
 .nil))))
def e_law_merged_1 : E :=
 (.blt .int (.cons (.v 4) .nil))
def e_law_merged_2 : E :=
 (.dget (.v 1) (.v 4))
abbrev ix_law_merged : Nat := 6
def b_law_merged : Ss :=
 (.cons (.asgO 1 (.dct false .nil .nil))
 (.cons (.asgO 2 (.lst .nil))
 (.cons (.for_ (.n 3) (.seq (.v 0)) l_law_merged_1)
 (.cons (.if_ (.cmp .ne (.v 2) (.lst .nil))
 ((.cons (.frz 2)
 (.cons (.ret (.tup (.cons (.c (.str "stamp")) (.cons (.blt .min (.cons (.comp e_law_merged_1 (.n 4) (.seq (.v 2)) .nil [4]) .nil)) .nil))))
 .nil)))
 (.nil))
 (.cons (.ret (.tup (.cons (.c (.str "log")) (.cons (.comp e_law_merged_2 (.n 4) (.rng2 (.c (.int 1)) (.c (.int 100))) (.cons (.din false (.v 4) (.v 1)) .nil) [4]) .nil))))
 .nil)))))
def f_law_merged : Fn := runFn g_law_merged C b_law_merged 5
theorem sc_law_merged : scB n_law_merged ["_law_entries"] (defScope s_law_merged) = true := by decide +kernel
theorem ck_law_merged : mSs (par c6 n_law_merged) b_law_merged ⟨defScope s_law_merged, fun _ => true⟩ (defBody s_law_merged) = true := by decide +kernel
abbrev s_is_entry : Stmt := top 9
abbrev n_is_entry : List Str := ["numbers"]
abbrev c7 : List Cal := [.fn "_law_digits" 2, .fn "_law_world" 2, .fn "_law_cell" 2, .fn "_law_part" 2, .fn "_law_turned" 2, .fn "_law_spoiled_row" 4, .fn "_law_merged" 1]
abbrev g7 : List Fn := [f_law_digits, f_law_world, f_law_cell, f_law_part, f_law_turned, f_law_spoiled_row, f_law_merged]
abbrev g_is_entry : List Fn := g7
abbrev ix_is_entry : Nat := 7
def b_is_entry : Ss :=
 (.cons (.if_ (.not (.chn .le .le (.c (.int 1)) (.ix (.v 0) (.c (.int 0))) (.g 0)))
 ((.cons (.ret (.c (.bl false)))
 .nil))
 (.nil))
 (.cons (.ret (.and (.chn .le .le (.c (.int 0)) (.ix (.v 0) (.c (.int 1))) (.g 1)) (.chn .le .le (.c (.int 0)) (.ix (.v 0) (.c (.int 2))) (.g 2))))
 .nil))
def f_is_entry : Fn := runFn g_is_entry C b_is_entry 1
theorem sc_is_entry : scB n_is_entry ["numbers"] (defScope s_is_entry) = true := by decide +kernel
theorem ck_is_entry : mSs (par c7 n_is_entry) b_is_entry ⟨defScope s_is_entry, fun _ => true⟩ (defBody s_is_entry) = true := by decide +kernel
abbrev s_ordered : Stmt := top 10
abbrev n_ordered : List Str := ["entries", "found", "clashes", "entry", "row", "stamp", "copied"]
abbrev c8 : List Cal := [.fn "_law_digits" 2, .fn "_law_world" 2, .fn "_law_cell" 2, .fn "_law_part" 2, .fn "_law_turned" 2, .fn "_law_spoiled_row" 4, .fn "_law_merged" 1, .fn "is_entry" 1]
abbrev g8 : List Fn := [f_law_digits, f_law_world, f_law_cell, f_law_part, f_law_turned, f_law_spoiled_row, f_law_merged, f_is_entry]
abbrev g_ordered : List Fn := g8
def l_ordered_1 : Ss :=
 (.cons (.if_ (.not (.call 7 (.cons (.v 3) .nil)))
 ((.cons (.raise .InvalidEntry (.cons (.tup (.cons (.ix (.v 3) (.c (.int 0))) (.cons (.ix (.v 3) (.c (.int 1))) (.cons (.ix (.v 3) (.c (.int 2))) .nil)))) .nil))
 .nil))
 (.nil))
 (.cons (.wip [3])
 .nil))
def l_ordered_2 : Ss :=
 (.cons (.asg (.n 6) (.tup (.cons (.ix (.v 3) (.c (.int 0))) (.cons (.ix (.v 3) (.c (.int 1))) (.cons (.ix (.v 3) (.c (.int 2))) .nil)))))
 (.cons (.sdIf 1 (.ix (.v 6) (.c (.int 0))) (.v 6) (.v 6)
 ((.cons (.setD 2 (.ix (.v 6) (.c (.int 0))) (.c (.bl true)))
 .nil)))
 (.cons (.wip [3, 6])
 .nil)))
def l_ordered_3 : Ss :=
 (.cons (.if_ (.din false (.v 5) (.v 2))
 ((.cons (.raise .StampConflict (.cons (.v 5) .nil))
 .nil))
 (.nil))
 (.cons (.if_ (.din false (.v 5) (.v 1))
 ((.cons (.app 4 (.dget (.v 1) (.v 5)))
 .nil))
 (.nil))
 (.cons (.wip [5])
 .nil)))
abbrev ix_ordered : Nat := 8
def b_ordered : Ss :=
 (.cons (.asgO 1 (.dct false .nil .nil))
 (.cons (.asgO 2 (.dct false .nil .nil))
 (.cons (.for_ (.n 3) (.seq (.v 0)) l_ordered_1)
 (.cons (.wip [3])
 (.cons (.for_ (.n 3) (.seq (.v 0)) l_ordered_2)
 (.cons (.asgO 4 (.lst .nil))
 (.cons (.for_ (.n 5) (.rng2 (.c (.int 1)) (.bin .add (.g 0) (.c (.int 1)))) l_ordered_3)
 (.cons (.ret (.blt .tuple (.cons (.v 4) .nil)))
 .nil))))))))
def f_ordered : Fn := runFn g_ordered C b_ordered 7
theorem sc_ordered : scB n_ordered ["entries"] (defScope s_ordered) = true := by decide +kernel
theorem ck_ordered : mSs (par c8 n_ordered) b_ordered ⟨defScope s_ordered, fun _ => true⟩ (defBody s_ordered) = true := by decide +kernel
abbrev s_Log_init : Stmt := inClass (top 12) 0
abbrev n_Log_init : List Str := ["self", "entries"]
abbrev c9 : List Cal := [.fn "_law_digits" 2, .fn "_law_world" 2, .fn "_law_cell" 2, .fn "_law_part" 2, .fn "_law_turned" 2, .fn "_law_spoiled_row" 4, .fn "_law_merged" 1, .fn "is_entry" 1, .fn "ordered" 1]
abbrev g9 : List Fn := [f_law_digits, f_law_world, f_law_cell, f_law_part, f_law_turned, f_law_spoiled_row, f_law_merged, f_is_entry, f_ordered]
abbrev g_Log_init : List Fn := g9
abbrev ix_Log_init : Nat := 9
def b_Log_init : Ss :=
 (.cons (.setF 0 .Log 0 (.call 8 (.cons (.v 1) .nil)))
 .nil)
def f_Log_init : Fn := runNewL g_Log_init C .Log b_Log_init 2
theorem sc_Log_init : scB n_Log_init ["self", "entries"] (defScope s_Log_init) = true := by decide +kernel
theorem ck_Log_init : mSs (par c9 n_Log_init) b_Log_init ⟨defScope s_Log_init, fun _ => true⟩ (defBody s_Log_init) = true := by decide +kernel
abbrev s_law_is_number : Stmt := top 16
abbrev n_law_is_number : List Str := ["_law_x", "_law_least", "_law_most"]
abbrev c10 : List Cal := [.fn "_law_digits" 2, .fn "_law_world" 2, .fn "_law_cell" 2, .fn "_law_part" 2, .fn "_law_turned" 2, .fn "_law_spoiled_row" 4, .fn "_law_merged" 1, .fn "is_entry" 1, .fn "ordered" 1, .new .Log 1]
abbrev g10 : List Fn := [f_law_digits, f_law_world, f_law_cell, f_law_part, f_law_turned, f_law_spoiled_row, f_law_merged, f_is_entry, f_ordered, f_Log_init]
abbrev g_law_is_number : List Fn := g10
abbrev ix_law_is_number : Nat := 10
def b_law_is_number : Ss :=
 (.cons (.ret (.and (.isi (.v 0) [.int] []) (.and (.not (.isi (.v 0) [.bool] [])) (.chn .le .le (.v 1) (.v 0) (.v 2)))))
 .nil)
def f_law_is_number : Fn := runFn g_law_is_number C b_law_is_number 3
theorem sc_law_is_number : scB n_law_is_number ["_law_x", "_law_least", "_law_most"] (defScope s_law_is_number) = true := by decide +kernel
theorem ck_law_is_number : mSs (par c10 n_law_is_number) b_law_is_number ⟨defScope s_law_is_number, fun _ => true⟩ (defBody s_law_is_number) = true := by decide +kernel
abbrev s_law_same_entries : Stmt := top 19
abbrev n_law_same_entries : List Str := ["_law_actual", "_law_due", "_law_at", "_law_part_here"]
abbrev c11 : List Cal := [.fn "_law_digits" 2, .fn "_law_world" 2, .fn "_law_cell" 2, .fn "_law_part" 2, .fn "_law_turned" 2, .fn "_law_spoiled_row" 4, .fn "_law_merged" 1, .fn "is_entry" 1, .fn "ordered" 1, .new .Log 1, .fn "_law_is_number" 3]
abbrev g11 : List Fn := [f_law_digits, f_law_world, f_law_cell, f_law_part, f_law_turned, f_law_spoiled_row, f_law_merged, f_is_entry, f_ordered, f_Log_init, f_law_is_number]
abbrev g_law_same_entries : List Fn := g11
def l_law_same_entries_1 : Ss :=
 (.cons (.if_ (.not (.call 10 (.cons (.ix (.ix (.v 0) (.v 2)) (.v 3)) (.cons (.ix (.ix (.v 1) (.v 2)) (.v 3)) (.cons (.ix (.ix (.v 1) (.v 2)) (.v 3)) .nil)))))
 ((.cons (.ret (.c (.bl false)))
 .nil))
 (.nil))
 (.cons (.wip [3])
 .nil))
def l_law_same_entries_2 : Ss :=
 (.cons (.if_ (.or (.not (.isi (.ix (.v 0) (.v 2)) [.tuple] [])) (.cmp .ne (.blt .len (.cons (.ix (.v 0) (.v 2)) .nil)) (.c (.int 3))))
 ((.cons (.ret (.c (.bl false)))
 .nil))
 (.nil))
 (.cons (.wip [3])
 (.cons (.for_ (.n 3) (.rng (.c (.int 3))) l_law_same_entries_1)
 (.cons (.wip [2, 3])
 .nil))))
abbrev ix_law_same_entries : Nat := 11
def b_law_same_entries : Ss :=
 (.cons (.if_ (.or (.not (.isi (.v 0) [.tuple] [])) (.cmp .ne (.blt .len (.cons (.v 0) .nil)) (.blt .len (.cons (.v 1) .nil))))
 ((.cons (.ret (.c (.bl false)))
 .nil))
 (.nil))
 (.cons (.for_ (.n 2) (.rng (.blt .len (.cons (.v 1) .nil))) l_law_same_entries_2)
 (.cons (.ret (.c (.bl true)))
 .nil)))
def f_law_same_entries : Fn := runFn g_law_same_entries C b_law_same_entries 4
theorem sc_law_same_entries : scB n_law_same_entries ["_law_actual", "_law_due"] (defScope s_law_same_entries) = true := by decide +kernel
theorem ck_law_same_entries : mSs (par c11 n_law_same_entries) b_law_same_entries ⟨defScope s_law_same_entries, fun _ => true⟩ (defBody s_law_same_entries) = true := by decide +kernel
abbrev s_Log___len__ : Stmt := inClass (top 12) 2
abbrev n_Log___len__ : List Str := ["self"]
abbrev c12 : List Cal := [.fn "_law_digits" 2, .fn "_law_world" 2, .fn "_law_cell" 2, .fn "_law_part" 2, .fn "_law_turned" 2, .fn "_law_spoiled_row" 4, .fn "_law_merged" 1, .fn "is_entry" 1, .fn "ordered" 1, .new .Log 1, .fn "_law_is_number" 3, .fn "_law_same_entries" 2]
abbrev g12 : List Fn := [f_law_digits, f_law_world, f_law_cell, f_law_part, f_law_turned, f_law_spoiled_row, f_law_merged, f_is_entry, f_ordered, f_Log_init, f_law_is_number, f_law_same_entries]
abbrev g_Log___len__ : List Fn := g12
abbrev ix_Log___len__ : Nat := 12
def b_Log___len__ : Ss :=
 (.cons (.ret (.blt .len (.cons (.fld (.v 0) .Log 0) .nil)))
 .nil)
def f_Log___len__ : Fn := runFn g_Log___len__ C b_Log___len__ 1
theorem sc_Log___len__ : scB n_Log___len__ ["self"] (defScope s_Log___len__) = true := by decide +kernel
theorem ck_Log___len__ : mSs (par c12 n_Log___len__) b_Log___len__ ⟨defScope s_Log___len__, fun _ => true⟩ (defBody s_Log___len__) = true := by decide +kernel
abbrev s_law_same_log : Stmt := top 20
abbrev n_law_same_log : List Str := ["_law_log", "_law_due"]
abbrev c13 : List Cal := [.fn "_law_digits" 2, .fn "_law_world" 2, .fn "_law_cell" 2, .fn "_law_part" 2, .fn "_law_turned" 2, .fn "_law_spoiled_row" 4, .fn "_law_merged" 1, .fn "is_entry" 1, .fn "ordered" 1, .new .Log 1, .fn "_law_is_number" 3, .fn "_law_same_entries" 2, .dun .Log "__len__" 1]
abbrev g13 : List Fn := [f_law_digits, f_law_world, f_law_cell, f_law_part, f_law_turned, f_law_spoiled_row, f_law_merged, f_is_entry, f_ordered, f_Log_init, f_law_is_number, f_law_same_entries, f_Log___len__]
abbrev g_law_same_log : List Fn := g13
abbrev ix_law_same_log : Nat := 13
def b_law_same_log : Ss :=
 (.cons (.if_ (.or (.not (.isi (.v 0) [(.cls .Log)] [.Log])) (.not (.call 11 (.cons (.fld (.v 0) .Log 0) (.cons (.v 1) .nil)))))
 ((.cons (.ret (.c (.bl false)))
 .nil))
 (.nil))
 (.cons (.ret (.and (.cmp .eq (.dlen 12 .Log (.v 0)) (.blt .len (.cons (.v 1) .nil))) (.cmp .eq (.lstO 12 .Log 0 (.v 0)) (.v 1))))
 .nil))
def f_law_same_log : Fn := runFn g_law_same_log C b_law_same_log 2
theorem sc_law_same_log : scB n_law_same_log ["_law_log", "_law_due"] (defScope s_law_same_log) = true := by decide +kernel
theorem ck_law_same_log : mSs (par c13 n_law_same_log) b_law_same_log ⟨defScope s_law_same_log, fun _ => true⟩ (defBody s_law_same_log) = true := by decide +kernel
abbrev s_law_as_due : Stmt := top 24
abbrev n_law_as_due : List Str := ["_law_told", "_law_due"]
abbrev c14 : List Cal := [.fn "_law_digits" 2, .fn "_law_world" 2, .fn "_law_cell" 2, .fn "_law_part" 2, .fn "_law_turned" 2, .fn "_law_spoiled_row" 4, .fn "_law_merged" 1, .fn "is_entry" 1, .fn "ordered" 1, .new .Log 1, .fn "_law_is_number" 3, .fn "_law_same_entries" 2, .dun .Log "__len__" 1, .fn "_law_same_log" 2]
abbrev g14 : List Fn := [f_law_digits, f_law_world, f_law_cell, f_law_part, f_law_turned, f_law_spoiled_row, f_law_merged, f_is_entry, f_ordered, f_Log_init, f_law_is_number, f_law_same_entries, f_Log___len__, f_law_same_log]
abbrev g_law_as_due : List Fn := g14
abbrev ix_law_as_due : Nat := 14
def b_law_as_due : Ss :=
 (.cons (.if_ (.cmp .ne (.ix (.v 0) (.c (.int 0))) (.ix (.v 1) (.c (.int 0))))
 ((.cons (.ret (.c (.bl false)))
 .nil))
 (.nil))
 (.cons (.if_ (.cmp .eq (.ix (.v 1) (.c (.int 0))) (.c (.str "entry")))
 ((.cons (.ret (.call 11 (.cons (.tup (.cons (.ix (.v 0) (.c (.int 1))) .nil)) (.cons (.lst (.cons (.ix (.v 1) (.c (.int 1))) .nil)) .nil))))
 .nil))
 (.nil))
 (.cons (.if_ (.cmp .eq (.ix (.v 1) (.c (.int 0))) (.c (.str "stamp")))
 ((.cons (.ret (.call 10 (.cons (.ix (.v 0) (.c (.int 1))) (.cons (.ix (.v 1) (.c (.int 1))) (.cons (.ix (.v 1) (.c (.int 1))) .nil)))))
 .nil))
 (.nil))
 (.cons (.ret (.call 13 (.cons (.ix (.v 0) (.c (.int 1))) (.cons (.ix (.v 1) (.c (.int 1))) .nil))))
 .nil))))
def f_law_as_due : Fn := runFn g_law_as_due C b_law_as_due 2
theorem sc_law_as_due : scB n_law_as_due ["_law_told", "_law_due"] (defScope s_law_as_due) = true := by decide +kernel
theorem ck_law_as_due : mSs (par c14 n_law_as_due) b_law_as_due ⟨defScope s_law_as_due, fun _ => true⟩ (defBody s_law_as_due) = true := by decide +kernel
abbrev s_entries_of : Stmt := top 11
abbrev n_entries_of : List Str := ["thing"]
abbrev c15 : List Cal := [.fn "_law_digits" 2, .fn "_law_world" 2, .fn "_law_cell" 2, .fn "_law_part" 2, .fn "_law_turned" 2, .fn "_law_spoiled_row" 4, .fn "_law_merged" 1, .fn "is_entry" 1, .fn "ordered" 1, .new .Log 1, .fn "_law_is_number" 3, .fn "_law_same_entries" 2, .dun .Log "__len__" 1, .fn "_law_same_log" 2, .fn "_law_as_due" 2]
abbrev g15 : List Fn := [f_law_digits, f_law_world, f_law_cell, f_law_part, f_law_turned, f_law_spoiled_row, f_law_merged, f_is_entry, f_ordered, f_Log_init, f_law_is_number, f_law_same_entries, f_Log___len__, f_law_same_log, f_law_as_due]
abbrev g_entries_of : List Fn := g15
abbrev ix_entries_of : Nat := 15
def b_entries_of : Ss :=
 (.cons (.if_ (.isi (.v 0) [(.cls .Log)] [.Log])
 ((.cons (.ret (.blt .list (.cons (.fld (.v 0) .Log 0) .nil)))
 .nil))
 (.nil))
 (.cons (.ret (.blt .list (.cons (.v 0) .nil)))
 .nil))
def f_entries_of : Fn := runFn g_entries_of C b_entries_of 1
theorem sc_entries_of : scB n_entries_of ["thing"] (defScope s_entries_of) = true := by decide +kernel
theorem ck_entries_of : mSs (par c15 n_entries_of) b_entries_of ⟨defScope s_entries_of, fun _ => true⟩ (defBody s_entries_of) = true := by decide +kernel
abbrev s_Log___ior__ : Stmt := inClass (top 12) 7
abbrev n_Log___ior__ : List Str := ["self", "other"]
abbrev c16 : List Cal := [.fn "_law_digits" 2, .fn "_law_world" 2, .fn "_law_cell" 2, .fn "_law_part" 2, .fn "_law_turned" 2, .fn "_law_spoiled_row" 4, .fn "_law_merged" 1, .fn "is_entry" 1, .fn "ordered" 1, .new .Log 1, .fn "_law_is_number" 3, .fn "_law_same_entries" 2, .dun .Log "__len__" 1, .fn "_law_same_log" 2, .fn "_law_as_due" 2, .fn "entries_of" 1]
abbrev g16 : List Fn := [f_law_digits, f_law_world, f_law_cell, f_law_part, f_law_turned, f_law_spoiled_row, f_law_merged, f_is_entry, f_ordered, f_Log_init, f_law_is_number, f_law_same_entries, f_Log___len__, f_law_same_log, f_law_as_due, f_entries_of]
abbrev g_Log___ior__ : List Fn := g16
abbrev ix_Log___ior__ : Nat := 16
def b_Log___ior__ : Ss :=
 (.cons (.if_ (.not (.isi (.v 1) [(.cls .Log), .list, .tuple] [.Log]))
 ((.cons .never
 .nil))
 (.nil))
 (.cons (.setF 0 .Log 0 (.call 8 (.cons (.bin .add (.blt .list (.cons (.fld (.v 0) .Log 0) .nil)) (.call 15 (.cons (.v 1) .nil))) .nil)))
 (.cons (.ret (.v 0))
 .nil)))
def f_Log___ior__ : Fn := runFn g_Log___ior__ C b_Log___ior__ 2
theorem sc_Log___ior__ : scB n_Log___ior__ ["self", "other"] (defScope s_Log___ior__) = true := by decide +kernel
theorem ck_Log___ior__ : mSs (par c16 n_Log___ior__) b_Log___ior__ ⟨defScope s_Log___ior__, fun _ => true⟩ (defBody s_Log___ior__) = true := by decide +kernel
abbrev s_law_adding : Stmt := top 25
abbrev n_law_adding : List Str := ["_law_log", "_law_other", "e"]
abbrev c17 : List Cal := [.fn "_law_digits" 2, .fn "_law_world" 2, .fn "_law_cell" 2, .fn "_law_part" 2, .fn "_law_turned" 2, .fn "_law_spoiled_row" 4, .fn "_law_merged" 1, .fn "is_entry" 1, .fn "ordered" 1, .new .Log 1, .fn "_law_is_number" 3, .fn "_law_same_entries" 2, .dun .Log "__len__" 1, .fn "_law_same_log" 2, .fn "_law_as_due" 2, .fn "entries_of" 1, .dun .Log "__ior__" 2]
abbrev g17 : List Fn := [f_law_digits, f_law_world, f_law_cell, f_law_part, f_law_turned, f_law_spoiled_row, f_law_merged, f_is_entry, f_ordered, f_Log_init, f_law_is_number, f_law_same_entries, f_Log___len__, f_law_same_log, f_law_as_due, f_entries_of, f_Log___ior__]
abbrev g_law_adding : List Fn := g17
def t_law_adding_1 : Ss :=
 (.cons (.iop 0 16 .Log .bor (.v 1))
 .nil)
def x_law_adding_1 : Ss :=
 (.cons (.ret (.tup (.cons (.c (.str "entry")) (.cons (.xfl 2 .InvalidEntry 0) .nil))))
 .nil)
def x_law_adding_2 : Ss :=
 (.cons (.ret (.tup (.cons (.c (.str "stamp")) (.cons (.xfl 2 .StampConflict 0) .nil))))
 .nil)
abbrev ix_law_adding : Nat := 17
def b_law_adding : Ss :=
 (.cons (.tryc t_law_adding_1 (.cons .InvalidEntry [.InvalidEntry, .StampConflict] (some 2) x_law_adding_1 (.cons .StampConflict [.InvalidEntry, .StampConflict] (some 2) x_law_adding_2 .nil)))
 (.cons (.ret (.tup (.cons (.c (.str "log")) (.cons (.v 0) .nil))))
 .nil))
def f_law_adding : Fn := runFn g_law_adding C b_law_adding 3
theorem sc_law_adding : scB n_law_adding ["_law_log", "_law_other"] (defScope s_law_adding) = true := by decide +kernel
theorem ck_law_adding : mSs (par c17 n_law_adding) b_law_adding ⟨defScope s_law_adding, fun _ => true⟩ (defBody s_law_adding) = true := by decide +kernel
abbrev s_law : Stmt := top 26
abbrev n_law : List Str := ["_law_script", "_law_world_here", "_law_first", "_law_source", "_law_part_here", "_law_form", "_law_row", "_law_due", "_law_second", "_law_log", "_law_other", "_law_good", "_law_entry"]
abbrev c18 : List Cal := [.fn "_law_digits" 2, .fn "_law_world" 2, .fn "_law_cell" 2, .fn "_law_part" 2, .fn "_law_turned" 2, .fn "_law_spoiled_row" 4, .fn "_law_merged" 1, .fn "is_entry" 1, .fn "ordered" 1, .new .Log 1, .fn "_law_is_number" 3, .fn "_law_same_entries" 2, .dun .Log "__len__" 1, .fn "_law_same_log" 2, .fn "_law_as_due" 2, .fn "entries_of" 1, .dun .Log "__ior__" 2, .fn "_law_adding" 2]
abbrev g18 : List Fn := [f_law_digits, f_law_world, f_law_cell, f_law_part, f_law_turned, f_law_spoiled_row, f_law_merged, f_is_entry, f_ordered, f_Log_init, f_law_is_number, f_law_same_entries, f_Log___len__, f_law_same_log, f_law_as_due, f_entries_of, f_Log___ior__, f_law_adding]
abbrev g_law : List Fn := g18
def i_law_1 : S :=
 (.if_ (.cmp .eq (.bin .mod (.bin .fdiv (.blt .int (.cons (.call 2 (.cons (.v 0) (.cons (.c (.int 4)) .nil))) .nil)) (.c (.int 3))) (.c (.int 4))) (.c (.int 1)))
 ((.cons (.asg (.n 3) (.call 1 (.cons (.call 2 (.cons (.v 0) (.cons (.c (.int 6)) .nil))) (.cons (.blt .len (.cons (.v 1) .nil)) .nil))))
 .nil))
 (.nil))
def i_law_2 : S :=
 (.if_ (.cmp .eq (.v 5) (.c (.int 0)))
 ((.cons (.asg (.n 10) (.new 9 (.cons (.blt .list (.cons (.v 6) .nil)) .nil)))
 .nil))
 (.nil))
def i_law_3 : S :=
 (.if_ (.cmp .eq (.v 5) (.c (.int 2)))
 ((.cons (.asg (.n 10) (.blt .tuple (.cons (.v 6) .nil)))
 .nil))
 (.nil))
def i_law_4 : S :=
 (.if_ (.not (.call 14 (.cons (.call 17 (.cons (.v 9) (.cons (.v 10) .nil))) (.cons (.v 7) .nil))))
 ((.cons (.ret (.c (.bl false)))
 .nil))
 (.nil))
def i_law_5 : S :=
 (.if_ (.not (.call 13 (.cons (.v 9) (.cons (.v 2) .nil))))
 ((.cons (.ret (.c (.bl false)))
 .nil))
 (.nil))
def e_law_1 : E :=
 (.v 12)
def i_law_6 : S :=
 (.if_ (.not (.call 14 (.cons (.call 17 (.cons (.v 9) (.cons (.v 11) .nil))) (.cons (.v 7) .nil))))
 ((.cons (.ret (.c (.bl false)))
 .nil))
 (.nil))
def i_law_7 : S :=
 (.if_ (.cmp .ne (.ix (.v 7) (.c (.int 0))) (.c (.str "log")))
 ((.cons i_law_5
 (.cons (.asg (.n 11) (.comp e_law_1 (.n 12) (.seq (.v 6)) (.cons (.cmp .in_ (.v 12) (.v 1)) .nil) [12]))
 (.cons (.asg (.n 7) (.call 6 (.cons (.bin .add (.v 2) (.v 11)) .nil)))
 (.cons i_law_6
 .nil)))))
 (.nil))
def i_law_8 : S :=
 (.if_ (.or (.not (.call 13 (.cons (.v 9) (.cons (.ix (.v 7) (.c (.int 1))) .nil)))) (.and (.cmp .gt (.v 5) (.c (.int 0))) (.cmp .ne (.blt .list (.cons (.v 10) .nil)) (.v 6))))
 ((.cons (.ret (.c (.bl false)))
 .nil))
 (.nil))
def i_law_9 : S :=
 (.if_ (.cmp .gt (.v 5) (.c (.int 0)))
 ((.cons (.ret (.c (.bl true)))
 .nil))
 (.nil))
def i_law_10 : S :=
 (.if_ (.not (.call 13 (.cons (.v 10) (.cons (.v 8) .nil))))
 ((.cons (.ret (.c (.bl false)))
 .nil))
 (.nil))
def i_law_11 : S :=
 (.if_ (.or (.not (.call 13 (.cons (.v 10) (.cons (.v 8) .nil)))) (.not (.call 13 (.cons (.v 9) (.cons (.bin .add (.ix (.v 7) (.c (.int 1))) (.lst (.cons (.tup (.cons (.c (.int 99)) (.cons (.c (.int 1)) (.cons (.c (.int 2)) .nil)))) .nil))) .nil)))))
 ((.cons (.ret (.c (.bl false)))
 .nil))
 (.nil))
abbrev ix_law : Nat := 18
def b_law : Ss :=
 (.cons (.asg (.n 1) (.call 1 (.cons (.call 2 (.cons (.v 0) (.cons (.c (.int 1)) .nil))) (.cons (.bin .mod (.blt .int (.cons (.call 2 (.cons (.v 0) (.cons (.c (.int 0)) .nil))) .nil)) (.c (.int 99))) .nil))))
 (.cons (.asg (.n 2) (.call 3 (.cons (.call 2 (.cons (.v 0) (.cons (.c (.int 2)) .nil))) (.cons (.v 1) .nil))))
 (.cons (.asg (.n 3) (.v 1))
 (.cons i_law_1
 (.cons (.asg (.n 4) (.call 3 (.cons (.call 2 (.cons (.v 0) (.cons (.c (.int 3)) .nil))) (.cons (.v 3) .nil))))
 (.cons (.asg (.n 5) (.bin .mod (.blt .int (.cons (.call 2 (.cons (.v 0) (.cons (.c (.int 4)) .nil))) .nil)) (.c (.int 3))))
 (.cons (.asg (.n 6) (.call 5 (.cons (.v 4) (.cons (.v 2) (.cons (.call 0 (.cons (.call 2 (.cons (.v 0) (.cons (.c (.int 5)) .nil))) (.cons (.lst (.cons (.c (.int 4)) (.cons (.c (.int 99)) (.cons (.c (.int 98)) (.cons (.c (.int 98)) (.cons (.c (.int 99)) (.cons (.c (.int 4)) (.cons (.c (.int 7)) (.cons (.c (.int 99)) .nil))))))))) .nil))) (.cons (.v 5) .nil))))))
 (.cons (.asg (.n 7) (.call 6 (.cons (.addP (.v 2) (.v 6)) .nil)))
 (.cons (.asg (.n 8) (.ix (.call 6 (.cons (.v 6) .nil)) (.c (.int 1))))
 (.cons (.asg (.n 9) (.new 9 (.cons (.blt .list (.cons (.v 2) .nil)) .nil)))
 (.cons (.asg (.n 10) (.blt .list (.cons (.v 6) .nil)))
 (.cons i_law_2
 (.cons i_law_3
 (.cons i_law_4
 (.cons i_law_7
 (.cons i_law_8
 (.cons i_law_9
 (.cons i_law_10
 (.cons (.iop 9 16 .Log .bor (.lst (.cons (.tup (.cons (.c (.int 99)) (.cons (.c (.int 1)) (.cons (.c (.int 2)) .nil)))) .nil)))
 (.cons i_law_11
 (.cons (.iop 10 16 .Log .bor (.lst (.cons (.tup (.cons (.c (.int 99)) (.cons (.c (.int 2)) (.cons (.c (.int 1)) .nil)))) .nil)))
 (.cons (.ret (.and (.call 13 (.cons (.v 9) (.cons (.bin .add (.ix (.v 7) (.c (.int 1))) (.lst (.cons (.tup (.cons (.c (.int 99)) (.cons (.c (.int 1)) (.cons (.c (.int 2)) .nil)))) .nil))) .nil))) (.call 13 (.cons (.v 10) (.cons (.bin .add (.v 8) (.lst (.cons (.tup (.cons (.c (.int 99)) (.cons (.c (.int 2)) (.cons (.c (.int 1)) .nil)))) .nil))) .nil)))))
 .nil))))))))))))))))))))))
def f_law : Fn := runFn g_law C b_law 13
theorem sc_law : scB n_law ["_law_script"] (defScope s_law) = true := by decide +kernel
theorem ck_law : mSs (par c18 n_law) b_law ⟨defScope s_law, fun _ => true⟩ (defBody s_law) = true := by decide +kernel
end

end Qk.K50
namespace Qk.K50
open PySem

section
variable {st : Sto}
theorem st_eq {x y : Str} (hx : PyData.strOk x = true) (hy : PyData.strOk y = true) (b : Bool) (h : (x == y) = b) : cmpP .eq st (.d (.str x)) (.d (.str y)) = some b := by
  subst h
  simp [cmpP, datOf, eqD, D.shp, D.toP, PyData.eqv, hx, hy]
theorem st_ne {x y : Str} (hx : PyData.strOk x = true) (hy : PyData.strOk y = true) (b : Bool) (h : (x == y) = b) : cmpP .ne st (.d (.str x)) (.d (.str y)) = some !b := by
  subst h
  simp [cmpP, datOf, eqD, D.shp, D.toP, PyData.eqv, hx, hy]
end

inductive Due where
  | entry (e : En) | stamp (k : Nat) | log (L : List En)
def Due.dd : Due → D
  | .entry e => .tup [.str "entry", trD e]
  | .stamp k => .tup [.str "stamp", .int (1 + (k : Int))]
  | .log L => .tup [.str "log", .lst (L.map trD)]
def DueOk (xs : List En) : Due → Prop
  | .entry e => ∃ zs ws, xs = zs ++ e :: ws ∧ (∀ z ∈ zs, OkE z) ∧ ¬ OkE e
  | .stamp k => (∀ z ∈ xs, OkE z) ∧ cls? xs = some k
  | .log L => (∀ z ∈ xs, OkE z) ∧ cls? xs = none ∧ L = ordL xs
theorem clash_none_agree {xs : List En} (hk : ∀ e ∈ xs, OkE e) (h : ∀ s, clashB xs s = false) : cls? xs = none := List.find?_eq_none.mpr fun k _ => by rw [h]; simp
theorem min_lst {st : Sto} (i : Int) (is : List Int) : ∃ m, bltV st .min [.d (.lst ((i :: is).map .int))] = some (.int m) ∧ m ∈ i :: is ∧ ∀ y ∈ i :: is, m ≤ y := by
  obtain ⟨h1, h2⟩ := minI_ok is i
  refine ⟨_, ?_, h1, h2⟩
  have e : ∀ l : List Int, intsOf (l.map .int) = some l := by
    intro l
    induction l with
    | nil => rfl
    | cons a l ih => simp [intsOf, ih]
  show (match lstOf st (.d (.lst ((i :: is).map .int))) with | some ds => (intsOf ds).bind minI | none => none) = _
  simp only [lstOf, e]
  rfl
theorem merged_ok (xs : List En) (d : D) (g : Gd) (st : Sto) (hd : dS st d = some (xs.map trD, g)) (hg : GdOk g st) (hl : xs.length < 1000) : ∃ u, DueOk xs u ∧ f_law_merged [d] st = .ok (u.dd, st) := by
  have el := for_post (f := gdF g (forF g_law_merged C (.n 3) l_law_merged_1)) (inj := trD) (A := List En × List Int) (sm := fun _ => st)
    (mk := fun a => [.val d, .own (.dct false (fndD a.1)), .own (.lst (a.2.map .int)), .un, .un])
    (P := fun don a => a.1 = don ∧ (∀ z ∈ don, OkE z) ∧ a.2.length ≤ don.length ∧ ∀ s, s ∈ a.2 ↔ clashB don s = true)
    (Q := fun x => ∃ e zs ws, x = .ret (Due.dd (.entry e)) st ∧ xs = zs ++ e :: ws ∧ (∀ z ∈ zs, OkE z) ∧ ¬ OkE e) xs
    (fun don x rest a hx ⟨h1, h2, h3, h4⟩ => by
      obtain ⟨M, c⟩ := a
      simp only at h1 h3 h4
      subst h1
      have hlen := len_of hx
      have l1 : (fndD M).length < Lim := Nat.lt_of_le_of_lt (fnd_len M) (by unfold Lim; omega)
      have l2 : c.length < 1000000 := by omega
      by_cases ok : OkE x
      · have hs := fnd_snoc M x
        have hlk := look_fnd M x.1
        have hcs := clash_snoc M x
        have okd : (1 ≤ x.1 ∧ x.1 ≤ 99) ∧ (0 ≤ x.2.1 ∧ x.2.1 ≤ 3) ∧ (0 ≤ x.2.2 ∧ x.2.2 ≤ 3) := ok
        obtain ⟨⟨o1, o2⟩, ⟨o3, o4⟩, o5, o6⟩ := okd
        have hM : ∀ z ∈ M ++ [x], OkE z := fun z hz => by
          rcases List.mem_append.mp hz with q | q
          · exact h2 z q
          · rw [List.mem_singleton.mp q]; exact ok
        cases q : fstE M x.1 with
        | none =>
          rw [q] at hlk
          have e1 : fndD (M ++ [x]) = putK (.i x.1) (trD x) (fndD M) := by rw [hs]; unfold sdM; rw [hlk]; rfl
          have hl2 : lookK (.i x.1) (putK (.i x.1) (trD x) (fndD M)) = some (trD x) := by
            have := look_fnd (M ++ [x]) x.1
            rw [e1, fst_snoc, q] at this
            simpa using this
          refine .inl ⟨(M ++ [x], c), ⟨rfl, hM, by simp only [List.length_append, List.length_singleton]; omega, fun s => ?_⟩, gd_nx hg ?_⟩
          · rw [hcs, h4 s]
            by_cases cs : x.1 = s
            · subst cs; rw [q]; simp
            · simp [cs]
          · rw [forF_n]
            simp only [e1]
            simp -dsimp [l_law_merged_1, o1, o2, o3, o4, o5, o6, hlk, l1, hl2, trD] at hl2 ⊢
        | some y =>
          rw [q] at hlk
          have e1 : fndD (M ++ [x]) = fndD M := by rw [hs]; unfold sdM; rw [hlk]; rfl
          by_cases cy : y = x
          · subst cy
            refine .inl ⟨(M ++ [y], c), ⟨rfl, hM, by simp only [List.length_append, List.length_singleton]; omega, fun s => ?_⟩, gd_nx hg ?_⟩
            · rw [hcs, h4 s]
              by_cases cs : y.1 = s
              · subst cs; rw [q]; simp
              · simp [cs]
            · rw [forF_n]
              simp only [e1]
              simp -dsimp [l_law_merged_1, o1, o2, o3, o4, o5, o6, hlk, trD]
          · have c2 : ¬ (y.1 = x.1 ∧ y.2.1 = x.2.1 ∧ y.2.2 = x.2.2) := fun z => cy (Prod.ext z.1 (Prod.ext z.2.1 z.2.2))
            refine .inl ⟨(M ++ [x], c ++ [x.1]), ⟨rfl, hM, by rw [List.length_append, List.length_append]; simp only [List.length_singleton]; omega, fun s => ?_⟩, gd_nx hg ?_⟩
            · rw [hcs, List.mem_append, h4 s, List.mem_singleton]
              by_cases cs : x.1 = s
              · subst cs; rw [q]; simp [cy]
              · have cs' : ¬ s = x.1 := fun e => cs e.symm
                simp [cs, cs']
            · rw [forF_n, List.map_append]
              simp only [e1]
              simp -dsimp [l_law_merged_1, o1, o2, o3, o4, o5, o6, hlk, c2, limN, l2, trD]
      · refine .inr (.inl ⟨.ret (Due.dd (.entry x)) st, gd_end (g := g) rfl ?_, rfl, x, M, rest, rfl, hx, h2, ok⟩)
        rw [forF_n]
        have ok' : ¬ ((1 ≤ x.1 ∧ x.1 ≤ 99) ∧ (0 ≤ x.2.1 ∧ x.2.1 ≤ 3) ∧ (0 ≤ x.2.2 ∧ x.2.2 ≤ 3)) := ok
        simp only [Due.dd]
        by_cases a1 : 1 ≤ x.1
        · by_cases a2 : x.1 ≤ 99
          · by_cases a3 : 0 ≤ x.2.1
            · by_cases a4 : x.2.1 ≤ 3
              · by_cases a5 : 0 ≤ x.2.2
                · by_cases a6 : x.2.2 ≤ 3
                  · exact absurd ⟨⟨a1, a2⟩, ⟨a3, a4⟩, a5, a6⟩ ok'
                  · simp -dsimp [l_law_merged_1, a1, a2, a3, a4, a5, a6, trD]
                · simp -dsimp [l_law_merged_1, a1, a2, a3, a4, a5, trD]
              · simp -dsimp [l_law_merged_1, a1, a2, a3, a4, trD]
            · simp -dsimp [l_law_merged_1, a1, a2, a3, trD]
          · simp -dsimp [l_law_merged_1, a1, a2, trD]
        · simp -dsimp [l_law_merged_1, a1, trD]) (a := ([], [])) ⟨rfl, fun z hz => (by cases hz), Nat.le_refl _, fun s => by simp [clashB]⟩
  rcases el with ⟨⟨M, c⟩, ⟨h1, h2, h3, h4⟩, e⟩ | ⟨o, e, x, zs, ws, rfl, h1, h2, h3⟩
  · simp only at h1 h3 h4
    subst h1
    have e0 : fndD [] = [] := rfl
    simp only [e0, List.map_nil] at e
    cases c with
    | nil =>
      refine ⟨.log (ordL M), ⟨h2, clash_none_agree h2 (fun s => by cases q : clashB M s with | false => rfl | true => exact absurd ((h4 s).mpr q) (by simp)), rfl⟩, ?_⟩
      have ec : ∀ (d0 d2 d3 : Sl), evalE g_law_merged C (.comp e_law_merged_2 (.n 4) (.rng2 (.c (.int 1)) (.c (.int 100))) (.cons (.din false (.v 4) (.v 1)) .nil) [4]) [d0, .own (.dct false (fndD M)), d2, d3, .un] st = .ok (.lst ((ordL M).map trD), st) := fun d0 d2 d3 => by
        have e1 : (ordL M).map trD = ((List.range 99).filter fun (k : Nat) => (fstE M (1 + (k : Int))).isSome).map fun (k : Nat) => (((fstE M (1 + (k : Int))).map trD).getD .non) := by
          unfold ordL
          generalize List.range 99 = l
          induction l with
          | nil => rfl
          | cons k l ih =>
            rw [List.filterMap_cons, List.filter_cons]
            cases h : fstE M (1 + (k : Int)) with
            | none => simp [ih]
            | some e => simp [ih, h]
        rw [e1]
        refine comp_if (inj := fun k : Nat => D.int (1 + (k : Nat))) (by simp -dsimp) (by decide) fun k _ => ?_
        rw [comp_c]
        have h1 := look_fnd M (1 + (k : Int))
        cases h : fstE M (1 + (k : Int)) with
        | none =>
          rw [h] at h1
          simp -dsimp [e_law_merged_2, h1]
        | some e =>
          rw [h] at h1
          simp -dsimp [e_law_merged_2, h1]
      have ne : ∀ st, cmpP .ne st (.own (.lst [])) (.d (.lst [])) = some false := fun st => by
        have := ((fm_lst fm_int).mono (show 1 ≤ 9 by decide)).ne (st := st) (p := .own (.lst (([] : List Int).map .int))) (q := .d (.lst [])) (x := []) (y := []) rfl rfl
        simpa using this
      simp only [Due.dd]
      simp only [List.map_nil] at e
      generalize (ordL M).map trD = X at *
      generalize fndD M = F at *
      simp -dsimp [f_law_merged, b_law_merged, hd, e, ne, ec]
    | cons i is =>
      obtain ⟨m, e5, hm, hmin⟩ := min_lst (st := st) i is
      have hc := (h4 m).mp hm
      obtain ⟨x, hx, _, _, hxm, _⟩ := clash_iff.mp hc
      have okx := (h2 x hx).1
      rw [hxm] at okx
      have hcs := cls_some okx.1 okx.2 hc (fun t h1 h5 => by
        cases q : clashB M t with
        | false => rfl
        | true => have := hmin t ((h4 t).mpr q); omega)
      refine ⟨.stamp (m - 1).toNat, ⟨h2, hcs⟩, ?_⟩
      have em : (1 + ((m - 1).toNat : Int)) = m := by omega
      have ne : ∀ st, cmpP .ne st (.own (.lst ((i :: is).map .int))) (.d (.lst [])) = some true := fun st => by
        have := ((fm_lst fm_int).mono (show 1 ≤ 9 by decide)).ne (st := st) (p := .own (.lst ((i :: is).map .int))) (q := .d (.lst [])) (x := i :: is) (y := []) rfl rfl
        simpa using this
      have li : (i :: is).length ≤ Lim := by unfold Lim; omega
      obtain ⟨cc, ecc⟩ : ∃ cc, cc = i :: is := ⟨_, rfl⟩
      rw [← ecc] at e ne e5 li
      have ec : ∀ (d0 d1 d3 : Sl), evalE g_law_merged C (.comp e_law_merged_1 (.n 4) (.seq (.v 2)) .nil [4]) [d0, d1, .val (.lst (cc.map .int)), d3, .un] st = .ok (.lst (cc.map .int), st) := fun d0 d1 d3 => by
        refine comp_all (inj := D.int) (by simp -dsimp) li fun k _ => ?_
        rw [comp_c]
        simp -dsimp [e_law_merged_1]
      simp only [Due.dd, em]
      generalize cc.map D.int = X at *
      generalize fndD M = F at *
      simp -dsimp [f_law_merged, b_law_merged, hd, e, ne, ec, e5]
  · refine ⟨.entry x, ⟨zs, ws, h1, h2, h3⟩, ?_⟩
    simp only [Due.dd] at e ⊢
    have e0 : fndD [] = [] := rfl
    simp only [e0, List.map_nil] at e
    simp -dsimp [f_law_merged, b_law_merged, hd, e]

theorem is_number (n a b : Int) (st : Sto) : f_law_is_number [.int n, .int a, .int b] st = .ok (.bl (decide (a ≤ n ∧ n ≤ b)), st) := by
  by_cases h : a ≤ n <;> simp -dsimp [f_law_is_number, b_law_is_number, kindP, tyAny, tyIs, h]

theorem same_entries (xs : List En) (st : Sto) (hl : xs.length < 1000000) : f_law_same_entries [.tup (xs.map trD), .lst (xs.map trD)] st = .ok (.bl true, st) := by
  have el := for_rng_ok (f := forF g_law_same_entries C (.n 2) l_law_same_entries_2) (st := st) (n := xs.length) (δ := [.val (.tup (xs.map trD)), .val (.lst (xs.map trD)), .un, .un]) (fun k hk => by
    have x1 : ixD (xs.map trD) (k : Int) = some (trD xs[k]) := ixD_of (k := k) (by simp -dsimp [hk]) rfl
    rw [forF_n]
    simp -dsimp [l_law_same_entries_2, l_law_same_entries_1, x1, kindP, tyAny, tyIs, is_number, rng_3, for_turn, for_nil])
  simp -dsimp [f_law_same_entries, b_law_same_entries, kindP, tyAny, tyIs, rngO_nat hl, el]

theorem is_entry_ok (e : En) (st : Sto) : f_is_entry [trD e] st = .ok (.bl (decide (OkE e)), st) := by
  obtain ⟨a, b, c⟩ := e
  by_cases h1 : 1 ≤ a
  · by_cases h2 : a ≤ 99
    · by_cases h3 : 0 ≤ b
      · by_cases h4 : b ≤ 3
        · by_cases h5 : 0 ≤ c
          · by_cases h6 : c ≤ 3 <;> simp -dsimp [f_is_entry, b_is_entry, OkE, h1, h2, h3, h4, h5, h6]
          · simp -dsimp [f_is_entry, b_is_entry, OkE, h1, h2, h3, h4, h5]
        · simp -dsimp [f_is_entry, b_is_entry, OkE, h1, h2, h3, h4]
      · simp -dsimp [f_is_entry, b_is_entry, OkE, h1, h2, h3]
    · simp -dsimp [f_is_entry, b_is_entry, OkE, h1, h2]
  · simp -dsimp [f_is_entry, b_is_entry, OkE, h1]

theorem o1_ok (e : En) (δ1 δ2 : Sl) (d : D) (st : Sto) (h : OkE e) : forF g_ordered C (.n 3) l_ordered_1 (trD e) [.val d, δ1, δ2, .un, .un, .un, .un] st = .nx [.val d, δ1, δ2, .un, .un, .un, .un] st := by
  have := is_entry_ok e st
  rw [forF_n]
  simp -dsimp [l_ordered_1, this, h]
theorem o1_loop (δ1 δ2 : Sl) (d : D) (st : Sto) (g : Gd) (hg : GdOk g st) (tl : List D) : ∀ xs : List En, (∀ e ∈ xs, OkE e) → forLoop (gdF g (forF g_ordered C (.n 3) l_ordered_1)) (xs.map trD ++ tl) [.val d, δ1, δ2, .un, .un, .un, .un] st = forLoop (gdF g (forF g_ordered C (.n 3) l_ordered_1)) tl [.val d, δ1, δ2, .un, .un, .un, .un] st
  | [], _ => rfl
  | x :: xs, h => for_cons (o1_loop δ1 δ2 d st g hg tl xs fun e he => h e (List.mem_cons_of_mem _ he)) (gd_nx hg (o1_ok x δ1 δ2 d st (h x List.mem_cons_self)))
theorem o2_turn (pre : List En) (e : En) (d : D) (st : Sto) (hl : pre.length < 1000000) : forF g_ordered C (.n 3) l_ordered_2 (trD e) [.val d, .own (.dct false (fndD pre)), .own (.dct false (clsD pre)), .un, .un, .un, .un] st
    = .nx [.val d, .own (.dct false (fndD (pre ++ [e]))), .own (.dct false (clsD (pre ++ [e]))), .un, .un, .un, .un] st := by
  have l1 : (fndD pre).length < Lim := Nat.lt_of_le_of_lt (fnd_len pre) hl
  have l2 : (clsD pre).length < Lim := Nat.lt_of_le_of_lt (clsD_len pre) hl
  have hv : sdV (.i e.1) (.tup [.int e.1, .int e.2.1, .int e.2.2]) (fndD pre) = trD ((fstE pre e.1).getD e) := sdV_fnd pre e
  have hs := fnd_snoc pre e
  have hc := cls_snoc pre e
  rw [forF_n, hs, hc]
  cases q : fstE pre e.1 with
  | none =>
    rw [q] at hv
    simp only [Option.getD_none] at hv
    simp -dsimp [l_ordered_2, l1, l2, hv, trD]
  | some y =>
    rw [q] at hv
    simp only [Option.getD_some] at hv
    by_cases c : y = e
    · subst c
      simp -dsimp [l_ordered_2, l1, l2, hv, trD]
    · have c2 : ¬ (y.1 = e.1 ∧ y.2.1 = e.2.1 ∧ y.2.2 = e.2.2) := fun z => c (Prod.ext z.1 (Prod.ext z.2.1 z.2.2))
      simp -dsimp [l_ordered_2, l1, l2, hv, c, c2, trD]
theorem o2_loop (d : D) (st : Sto) (g : Gd) (hg : GdOk g st) (xs : List En) (hl : xs.length < 1000000) : forLoop (gdF g (forF g_ordered C (.n 3) l_ordered_2)) (xs.map trD) [.val d, .own (.dct false []), .own (.dct false []), .un, .un, .un, .un] st = .nx [.val d, .own (.dct false (fndD xs)), .own (.dct false (clsD xs)), .un, .un, .un, .un] st :=
  for_pre (f := gdF g (forF g_ordered C (.n 3) l_ordered_2)) (inj := trD) (xs := xs) (st := st) (S := fun pre => [.val d, .own (.dct false (fndD pre)), .own (.dct false (clsD pre)), .un, .un, .un, .un]) fun pre x post e => gd_nx hg (o2_turn pre x d st (by rw [e, List.length_append] at hl; omega))
theorem o3_turn (xs : List En) (acc : List En) (k : Nat) (d : D) (st : Sto) (hc : clashB xs (1 + (k : Int)) = false) (hl : acc.length < 1000000) : forF g_ordered C (.n 5) l_ordered_3 (.int (1 + (k : Int))) [.val d, .own (.dct false (fndD xs)), .own (.dct false (clsD xs)), .un, .own (.lst (acc.map trD)), .un, .un] st
    = .nx [.val d, .own (.dct false (fndD xs)), .own (.dct false (clsD xs)), .un, .own (.lst ((acc ++ (fstE xs (1 + (k : Int))).toList).map trD)), .un, .un] st := by
  have h1 := look_fnd xs (1 + (k : Int))
  have h2 := look_cls xs (1 + (k : Int))
  rw [hc] at h2
  have h3 : acc.length < Lim := hl
  rw [forF_n]
  cases q : fstE xs (1 + (k : Int)) with
  | none =>
    rw [q] at h1
    simp -dsimp [l_ordered_3, h1, h2]
  | some y =>
    rw [q] at h1
    simp -dsimp [l_ordered_3, h1, h2, h3]
theorem filterMap_snoc {α β : Type} (f : α → Option β) (xs : List α) (x : α) : (xs ++ [x]).filterMap f = xs.filterMap f ++ (f x).toList := by
  rw [List.filterMap_append]
  refine congrArg _ ?_
  cases h : f x <;> simp [List.filterMap, h]
theorem o3_loop (xs : List En) (d : D) (st : Sto) (pre : List Nat) (hc : ∀ k ∈ pre, clashB xs (1 + (k : Int)) = false) (hl : pre.length < 1000) (tl : List D) : forLoop (forF g_ordered C (.n 5) l_ordered_3) ((pre.map fun k => D.int (1 + (k : Nat))) ++ tl) [.val d, .own (.dct false (fndD xs)), .own (.dct false (clsD xs)), .un, .own (.lst []), .un, .un] st
    = forLoop (forF g_ordered C (.n 5) l_ordered_3) tl [.val d, .own (.dct false (fndD xs)), .own (.dct false (clsD xs)), .un, .own (.lst ((pre.filterMap fun (k : Nat) => fstE xs (1 + (k : Int))).map trD)), .un, .un] st := by
  have go : ∀ (post done : List Nat), (∀ k ∈ post, clashB xs (1 + (k : Int)) = false) → done.length + post.length < 1000 → forLoop (forF g_ordered C (.n 5) l_ordered_3) ((post.map fun k => D.int (1 + (k : Nat))) ++ tl) [.val d, .own (.dct false (fndD xs)), .own (.dct false (clsD xs)), .un, .own (.lst ((done.filterMap fun (k : Nat) => fstE xs (1 + (k : Int))).map trD)), .un, .un] st
      = forLoop (forF g_ordered C (.n 5) l_ordered_3) tl [.val d, .own (.dct false (fndD xs)), .own (.dct false (clsD xs)), .un, .own (.lst (((done ++ post).filterMap fun (k : Nat) => fstE xs (1 + (k : Int))).map trD)), .un, .un] st := by
    intro post
    induction post with
    | nil => intro done _ _; rw [List.append_nil]; rfl
    | cons k post ih =>
      intro done h hl
      simp only [List.length_cons] at hl
      have t := o3_turn xs (done.filterMap fun (k : Nat) => fstE xs (1 + (k : Int))) k d st (h k List.mem_cons_self) (Nat.lt_of_le_of_lt (List.length_filterMap_le _ _) (by omega))
      rw [← filterMap_snoc] at t
      have := ih (done ++ [k]) (fun j hj => h j (List.mem_cons_of_mem _ hj)) (by simp; omega)
      rw [List.append_assoc] at this
      exact for_cons this t
  exact go pre [] hc (by simpa using hl)
theorem ordered_ok (xs : List En) (d : D) (g : Gd) (st : Sto) (hd : dS st d = some (xs.map trD, g)) (hg : GdOk g st) (hk : ∀ e ∈ xs, OkE e) (hc : cls? xs = none) (hl : xs.length < 1000000) : f_ordered [d] st = .ok (.tup ((ordL xs).map trD), st) := by
  have e1 := o1_loop (.own (.dct false [])) (.own (.dct false [])) d st g hg [] xs hk
  simp only [List.append_nil, forLoop] at e1
  have e2 := o2_loop d st g hg xs hl
  have e3 := o3_loop xs d st (List.range 99) (fun k hk => by
    have := List.find?_eq_none.mp hc k hk
    simpa using this) (by simp) []
  simp only [List.append_nil, forLoop] at e3
  have e4 : (List.range 99).filterMap (fun (k : Nat) => fstE xs (1 + (k : Int))) = ordL xs := rfl
  rw [e4] at e3
  simp -dsimp [f_ordered, b_ordered, hd, e1, e2, e3]

abbrev logM (ys : List En) : M := .ins .Log [.tup (ys.map trD)]
theorem log_okL (xs : List En) (d : D) (g : Gd) (st : Sto) (hd : dS st d = some (xs.map trD, g)) (hg : GdOk g st) (hk : ∀ e ∈ xs, OkE e) (hc : cls? xs = none) (hl : xs.length < 1000000) : f_Log_init [d] st = .ok (.loc st.length, st ++ [logM (ordL xs)]) := by
  have := ordered_ok xs d g st hd hg hk hc hl
  simp -dsimp [f_Log_init, b_Log_init, this, setAt]

theorem llen_loc {l : Nat} {xs : List En} {st : Sto} (h : st[l]? = some (logM xs)) : f_Log___len__ [.loc l] st = .ok (.int xs.length, st) := by
  have hi := insOf_at h
  simp -dsimp [f_Log___len__, b_Log___len__, hi]

theorem same_logL {l : Nat} {xs : List En} {st : Sto} (h : st[l]? = some (logM xs)) (hl : xs.length < 1000000) : f_law_same_log [.loc l, .lst (xs.map trD)] st = .ok (.bl true, st) := by
  have e := same_entries xs st hl
  have hi := insOf_at h
  have hk := kd_ins (cs := [.Log]) h (by simp)
  have ln := llen_loc h
  have k1 : 0 ≤ (xs.length : Int) ∧ (xs.length : Int) < 9223372036854775808 := by omega
  have k2 : 0 ≤ (xs.length : Int) ∧ (xs.length : Int) ≤ 1000000 := by omega
  simp -dsimp [f_law_same_log, b_law_same_log, hi, hk, tyAny, tyIs, e, ln, k1, k2]

section
variable {st : Sto}
theorem qe_e : cmpP .eq st (.d (.str "entry")) (.d (.str "entry")) = some true := st_eq (by decide +kernel) (by decide +kernel) _ (by decide +kernel)
theorem qs_e : cmpP .eq st (.d (.str "stamp")) (.d (.str "entry")) = some false := st_eq (by decide +kernel) (by decide +kernel) _ (by decide +kernel)
theorem ql_e : cmpP .eq st (.d (.str "log")) (.d (.str "entry")) = some false := st_eq (by decide +kernel) (by decide +kernel) _ (by decide +kernel)
theorem qs_s : cmpP .eq st (.d (.str "stamp")) (.d (.str "stamp")) = some true := st_eq (by decide +kernel) (by decide +kernel) _ (by decide +kernel)
theorem ql_s : cmpP .eq st (.d (.str "log")) (.d (.str "stamp")) = some false := st_eq (by decide +kernel) (by decide +kernel) _ (by decide +kernel)
theorem ne_e : cmpP .ne st (.d (.str "entry")) (.d (.str "entry")) = some false := st_ne (by decide +kernel) (by decide +kernel) true (by decide +kernel)
theorem ne_s : cmpP .ne st (.d (.str "stamp")) (.d (.str "stamp")) = some false := st_ne (by decide +kernel) (by decide +kernel) true (by decide +kernel)
theorem ne_l : cmpP .ne st (.d (.str "log")) (.d (.str "log")) = some false := st_ne (by decide +kernel) (by decide +kernel) true (by decide +kernel)
theorem ne_el : cmpP .ne st (.d (.str "entry")) (.d (.str "log")) = some true := st_ne (by decide +kernel) (by decide +kernel) false (by decide +kernel)
theorem ne_sl : cmpP .ne st (.d (.str "stamp")) (.d (.str "log")) = some true := st_ne (by decide +kernel) (by decide +kernel) false (by decide +kernel)
end
def Due.told (l : Nat) : Due → D
  | .entry e => .tup [.str "entry", trD e]
  | .stamp k => .tup [.str "stamp", .int (1 + (k : Int))]
  | .log _ => .tup [.str "log", .loc l]
theorem as_due_ok {l : Nat} {u : Due} {st : Sto} (h : ∀ L, u = .log L → st[l]? = some (logM L) ∧ L.length < 1000000) : f_law_as_due [u.told l, u.dd] st = .ok (.bl true, st) := by
  cases u with
  | entry e =>
    have e1 := same_entries [e] st (by simp)
    simp only [List.map_cons, List.map_nil] at e1
    simp only [Due.told, Due.dd]
    generalize trD e = x at *
    simp -dsimp [f_law_as_due, b_law_as_due, ne_e, qe_e, e1]
  | stamp k =>
    have en := is_number (1 + (k : Int)) (1 + (k : Int)) (1 + (k : Int)) st
    rw [decide_eq_true (by omega)] at en
    simp -dsimp [f_law_as_due, b_law_as_due, Due.told, Due.dd, ne_s, qs_e, qs_s, en]
  | log L =>
    obtain ⟨h1, h2⟩ := h L rfl
    have e1 := same_logL h1 h2
    simp -dsimp [f_law_as_due, b_law_as_due, Due.told, Due.dd, ne_l, ql_e, ql_s, e1]
theorem due_split {X ys : List En} {e : En} {zs ws : List En} (hX : ∀ z ∈ X, OkE z) (h : X ++ ys = zs ++ e :: ws) (he : ¬ OkE e) : ∃ zs', zs = X ++ zs' ∧ ys = zs' ++ e :: ws := by
  rcases List.append_eq_append_iff.mp h with ⟨a, h1, h2⟩ | ⟨a, h1, h2⟩
  · exact ⟨a, h1, h2⟩
  · cases a with
    | nil => exact ⟨[], by rw [h1, List.append_nil, List.append_nil], by rw [List.nil_append] at h2 ⊢; exact h2.symm⟩
    | cons x a =>
      rw [List.cons_append, List.cons.injEq] at h2
      exact absurd (hX e (by rw [h1, h2.1]; simp)) he
theorem fst_append (A B : List En) (s : Int) : fstE (A ++ B) s = (fstE A s).or (fstE B s) := by
  unfold fstE
  rw [List.find?_append]
theorem due_same {X A B : List En} {u : Due} (hA : Agree A) (hB : Agree B) (hX : ∀ z ∈ X, OkE z) (kA : ∀ e ∈ A, OkE e) (m : ∀ e, e ∈ A ↔ e ∈ B) (h : DueOk (X ++ A) u) : DueOk (X ++ B) u := by
  have kXB : ∀ z ∈ X ++ B, OkE z := fun z hz => (List.mem_append.mp hz).elim (hX z) fun q => kA z ((m z).mpr q)
  have ec : cls? (X ++ A) = cls? (X ++ B) := by
    unfold cls?
    congr 1
    funext k
    have : clashB (X ++ A) (1 + (k : Int)) = true ↔ clashB (X ++ B) (1 + (k : Int)) = true := by
      rw [clash_iff, clash_iff]
      simp only [List.mem_append, m]
    cases q : clashB (X ++ A) (1 + (k : Int)) with
    | true => rw [this.mp q]
    | false => cases q2 : clashB (X ++ B) (1 + (k : Int)) with
      | false => rfl
      | true => rw [this.mpr q2] at q; cases q
  cases u with
  | entry e =>
    obtain ⟨zs, ws, h1, h2, h3⟩ := h
    have : e ∈ X ++ A := by rw [h1]; simp
    exact absurd ((List.mem_append.mp this).elim (hX e) (kA e)) h3
  | stamp k => exact ⟨kXB, by rw [← ec]; exact h.2⟩
  | log L => exact ⟨kXB, by rw [← ec]; exact h.2.1, h.2.2.trans (ord_congr fun s => by rw [fst_append, fst_append, fst_eq_of_mem hA hB m])⟩

def EntAt (st : Sto) (d : D) (ys : List En) : Prop := d = .lst (ys.map trD) ∨ d = .tup (ys.map trD) ∨ (∃ l, d = .loc l ∧ st[l]? = some (logM ys)) ∨ ∃ l, d = .loc l ∧ lstAt st l = some (ys.map trD)
theorem ent_ok {st : Sto} {d : D} {ys : List En} (h : EntAt st d ys) (hl : ys.length < 1000000) : f_entries_of [d] st = .ok (.lst (ys.map trD), st) := by
  have l1 : (ys.length : Int) ≤ 1000000 := by omega
  have l2 : ys.length ≤ 1000000 := by omega
  rcases h with rfl | rfl | ⟨l, rfl, h⟩ | ⟨l, rfl, h⟩
  · simp -dsimp [f_entries_of, b_entries_of, kindP, tyAny, tyIs, limN, l1, l2]
  · simp -dsimp [f_entries_of, b_entries_of, kindP, tyAny, tyIs, limN, l1, l2]
  · have hi := insOf_at h
    have hk := kd_ins (cs := [.Log]) h (by simp)
    simp -dsimp [f_entries_of, b_entries_of, hk, hi, tyAny, tyIs, limN, l1, l2]
  · have hk := kd_loc (cs := [.Log]) h
    have so := so_loc h
    have hb : bltV st .list [.d (.loc l)] = some (.lst (ys.map trD)) := by simp only [bltV, so]
    simp -dsimp [f_entries_of, b_entries_of, hk, hb, tyAny, tyIs, limN, l1, l2]
theorem ent_kind {st : Sto} {d : D} {ys : List En} (h : EntAt st d ys) : kindP [.Log] st (.d d) = some .list ∨ kindP [.Log] st (.d d) = some .tuple ∨ kindP [.Log] st (.d d) = some (.cls .Log) := by
  rcases h with rfl | rfl | ⟨l2, rfl, h2⟩ | ⟨l2, rfl, h2⟩
  · exact .inl rfl
  · exact .inr (.inl rfl)
  · exact .inr (.inr (kd_ins h2 (by simp)))
  · exact .inl (kd_loc h2)

section
variable {l : Nat} {xs ys : List En} {st : Sto} {d : D}
theorem ior_ok (h : st[l]? = some (logM xs)) (he : EntAt st d ys) (hk : ∀ e ∈ xs ++ ys, OkE e) (hc : cls? (xs ++ ys) = none) (hl : (xs ++ ys).length < 1000000) : f_Log___ior__ [.loc l, d] st = .ok (.loc l, st.set l (logM (ordL (xs ++ ys)))) := by
  have hl2 : xs.length + ys.length < 1000000 := by rw [List.length_append] at hl; exact hl
  have hi := insOf_at h
  have en := ent_ok he (by omega)
  have l1 : (xs.length : Int) ≤ 1000000 := by omega
  have l2 : xs.length ≤ 1000000 := by omega
  have l3 : xs.length + ys.length ≤ 1000000 := by omega
  have e0 : ∀ (e : E) (δ : Sls), setFLoc g_Log___ior__ C 0 .Log 0 e (.val (.loc l) :: δ) st = _ := fun e δ => setFLoc_eq (l := l) rfl
  have eo := ordered_ok (xs ++ ys) (.lst ((xs ++ ys).map trD)) none st rfl gdOk_none hk hc hl
  rw [List.map_append] at eo
  rcases ent_kind he with q | q | q <;> simp -dsimp [f_Log___ior__, b_Log___ior__, q, tyAny, tyIs, e0, hi, en, limN, l1, l2, l3, eo, setAt]
end

theorem o1_bad (e : En) (δ1 δ2 : Sl) (d : D) (st : Sto) (h : ¬ OkE e) : forF g_ordered C (.n 3) l_ordered_1 (trD e) [.val d, δ1, δ2, .un, .un, .un, .un] st = .exc .InvalidEntry [trD e] [.val d, δ1, δ2, .val (trD e), .un, .un, .un] st := by
  have := is_entry_ok e st
  rw [forF_n]
  simp -dsimp [l_ordered_1, this, h, excFs]
theorem ordered_bad (xs : List En) (bad : En) (rest : List D) (d : D) (g : Gd) (st : Sto) (hd : dS st d = some (xs.map trD ++ trD bad :: rest, g)) (hg : GdOk g st) (hk : ∀ e ∈ xs, OkE e) (hb : ¬ OkE bad) : f_ordered [d] st = .exc .InvalidEntry [trD bad] st := by
  have e1 := o1_loop (.own (.dct false [])) (.own (.dct false [])) d st g hg (trD bad :: rest) xs hk
  have e2 := gd_end (g := g) rfl (o1_bad bad (.own (.dct false [])) (.own (.dct false [])) d st hb)
  rw [for_turn, e2] at e1
  simp only [turn_exc] at e1
  simp -dsimp [f_ordered, b_ordered, hd, e1]
theorem ordered_clash (xs : List En) (k : Nat) (d : D) (g : Gd) (st : Sto) (hd : dS st d = some (xs.map trD, g)) (hg : GdOk g st) (hk : ∀ e ∈ xs, OkE e) (hc : cls? xs = some k) (hl : xs.length < 1000000) : f_ordered [d] st = .exc .StampConflict [.int (1 + (k : Int))] st := by
  have e1 := o1_loop (.own (.dct false [])) (.own (.dct false [])) d st g hg [] xs hk
  simp only [List.append_nil, forLoop] at e1
  have e2 := o2_loop d st g hg xs hl
  obtain ⟨h1, as, bs, h2, h3⟩ := List.find?_eq_some_iff_append.mp hc
  have la : as.length < 1000 := by
    have := congrArg List.length h2
    simp only [List.length_range, List.length_append, List.length_cons] at this
    omega
  have e3 := o3_loop xs d st as (fun j hj => by simpa using h3 j hj) la ((k :: bs).map fun k => D.int (1 + (k : Nat)))
  rw [← List.map_append, ← h2] at e3
  have e4 : forF g_ordered C (.n 5) l_ordered_3 (.int (1 + (k : Int))) [.val d, .own (.dct false (fndD xs)), .own (.dct false (clsD xs)), .un, .own (.lst ((as.filterMap fun (k : Nat) => fstE xs (1 + (k : Int))).map trD)), .un, .un] st = .exc .StampConflict [.int (1 + (k : Int))] [.val d, .own (.dct false (fndD xs)), .own (.dct false (clsD xs)), .un, .own (.lst ((as.filterMap fun (k : Nat) => fstE xs (1 + (k : Int))).map trD)), .val (.int (1 + (k : Int))), .un] st := by
    have h4 := look_cls xs (1 + (k : Int))
    rw [h1] at h4
    rw [forF_n]
    simp -dsimp [l_ordered_3, h4, excFs]
  rw [List.map_cons, for_turn, e4] at e3
  simp only [turn_exc] at e3
  simp -dsimp [f_ordered, b_ordered, hd, e1, e2, e3]

section
variable {l : Nat} {xs ys : List En} {st : Sto} {d : D}
theorem ior_clash {k : Nat} (h : st[l]? = some (logM xs)) (he : EntAt st d ys) (hk : ∀ e ∈ xs ++ ys, OkE e) (hc : cls? (xs ++ ys) = some k) (hl : (xs ++ ys).length < 1000000) : f_Log___ior__ [.loc l, d] st = .exc .StampConflict [.int (1 + (k : Int))] st := by
  have hl2 : xs.length + ys.length < 1000000 := by rw [List.length_append] at hl; exact hl
  have hi := insOf_at h
  have en := ent_ok he (by omega)
  have l1 : (xs.length : Int) ≤ 1000000 := by omega
  have l2 : xs.length ≤ 1000000 := by omega
  have l3 : xs.length + ys.length ≤ 1000000 := by omega
  have e0 : ∀ (e : E) (δ : Sls), setFLoc g_Log___ior__ C 0 .Log 0 e (.val (.loc l) :: δ) st = _ := fun e δ => setFLoc_eq (l := l) rfl
  have eo := ordered_clash (xs ++ ys) k (.lst ((xs ++ ys).map trD)) none st rfl gdOk_none hk hc hl
  rw [List.map_append] at eo
  rcases ent_kind he with q | q | q <;> simp -dsimp [f_Log___ior__, b_Log___ior__, q, tyAny, tyIs, e0, hi, en, limN, l1, l2, l3, eo]
theorem ior_bad {zs : List En} {bad : En} (h : st[l]? = some (logM xs)) (he : EntAt st d (zs ++ [bad])) (hk : ∀ e ∈ xs ++ zs, OkE e) (hb : ¬ OkE bad) (hl : (xs ++ zs).length < 900000) : f_Log___ior__ [.loc l, d] st = .exc .InvalidEntry [trD bad] st := by
  have hl2 : xs.length + zs.length < 900000 := by rw [List.length_append] at hl; exact hl
  have hi := insOf_at h
  have en := ent_ok he (by rw [List.length_append]; simp; omega)
  have l1 : (xs.length : Int) ≤ 1000000 := by omega
  have l2 : xs.length ≤ 1000000 := by omega
  have l3 : xs.length + (zs.length + 1) ≤ 1000000 := by omega
  have e0 : ∀ (e : E) (δ : Sls), setFLoc g_Log___ior__ C 0 .Log 0 e (.val (.loc l) :: δ) st = _ := fun e δ => setFLoc_eq (l := l) rfl
  have eo := ordered_bad (xs ++ zs) bad [] (.lst ((xs ++ zs).map trD ++ trD bad :: [])) none st rfl gdOk_none hk hb
  rw [List.map_append, List.append_assoc] at eo
  rw [List.map_append, List.map_cons, List.map_nil] at en
  rcases ent_kind he with q | q | q <;> simp -dsimp [f_Log___ior__, b_Log___ior__, q, tyAny, tyIs, e0, hi, en, limN, l1, l2, l3, eo]
end

section
variable {l : Nat} {xs ys : List En} {st : Sto} {d : D}
theorem ior_badR {zs ws : List En} {bad : En} (h : st[l]? = some (logM xs)) (he : EntAt st d (zs ++ bad :: ws)) (hk : ∀ e ∈ xs ++ zs, OkE e) (hb : ¬ OkE bad) (hl : xs.length + (zs.length + (ws.length + 1)) < 900000) : f_Log___ior__ [.loc l, d] st = .exc .InvalidEntry [trD bad] st := by
  have hi := insOf_at h
  have en := ent_ok he (by rw [List.length_append, List.length_cons]; omega)
  have l1 : (xs.length : Int) ≤ 1000000 := by omega
  have l2 : xs.length ≤ 1000000 := by omega
  have l3 : xs.length + (zs.length + (ws.length + 1)) ≤ 1000000 := by omega
  have e0 : ∀ (e : E) (δ : Sls), setFLoc g_Log___ior__ C 0 .Log 0 e (.val (.loc l) :: δ) st = _ := fun e δ => setFLoc_eq (l := l) rfl
  have eo := ordered_bad (xs ++ zs) bad (ws.map trD) (.lst ((xs ++ zs).map trD ++ trD bad :: ws.map trD)) none st rfl gdOk_none hk hb
  rw [List.map_append, List.append_assoc] at eo
  rw [List.map_append, List.map_cons] at en
  rcases ent_kind he with q | q | q <;> simp -dsimp [f_Log___ior__, b_Log___ior__, q, tyAny, tyIs, e0, hi, en, limN, l1, l2, l3, eo]
def Due.sto (l : Nat) (st : Sto) : Due → Sto
  | .log L => st.set l (logM L)
  | _ => st
theorem adding_ok {u : Due} (h : st[l]? = some (logM xs)) (he : EntAt st d ys) (hk : ∀ e ∈ xs, OkE e) (hu : DueOk (xs ++ ys) u) (hl : (xs ++ ys).length < 900000) : f_law_adding [.loc l, d] st = .ok (u.told l, u.sto l st) := by
  have hi := insOf_at h
  cases u with
  | entry e =>
    obtain ⟨zs, ws, h1, h2, h3⟩ := hu
    obtain ⟨zs', rfl, rfl⟩ := due_split hk h1 h3
    have e1 := ior_badR h he h2 h3 (by simp only [List.length_append, List.length_cons] at hl; omega)
    simp -dsimp [f_law_adding, b_law_adding, t_law_adding_1, x_law_adding_1, x_law_adding_2, hi, e1, catches, xtIs, Due.told, Due.sto]
  | stamp k =>
    have e1 := ior_clash h he hu.1 hu.2 (by omega)
    simp -dsimp [f_law_adding, b_law_adding, t_law_adding_1, x_law_adding_1, x_law_adding_2, hi, e1, catches, xtIs, Due.told, Due.sto]
  | log L =>
    have e1 := ior_ok h he hu.1 hu.2.1 (by omega)
    rw [← hu.2.2] at e1
    simp -dsimp [f_law_adding, b_law_adding, t_law_adding_1, x_law_adding_1, x_law_adding_2, hi, e1, Due.told, Due.sto]
end

theorem turned_ok (Y : List En) (a : Int) (st : Sto) (hl : Y.length ≤ 200) : ∃ R : List En, (∀ e ∈ R, e ∈ Y) ∧ R.length ≤ Y.length + 2 ∧ f_law_turned [.lst (Y.map trD), .int a] st = .ok (.loc st.length, st ++ [.lst (R.map trD)]) := by
  obtain ⟨n, hn⟩ : ∃ n : Nat, a % ((Y.length : Int) + 1) = n := ⟨(a % ((Y.length : Int) + 1)).toNat, by have := Int.emod_nonneg a (b := (Y.length : Int) + 1) (by omega); omega⟩
  have hn2 : n ≤ Y.length := by have := Int.emod_lt_of_pos a (b := (Y.length : Int) + 1) (by omega); omega
  obtain ⟨Z, eZ⟩ : ∃ Z, Z = Y.reverse := ⟨_, rfl⟩
  have lZ : Z.length = Y.length := by rw [eZ, List.length_reverse]
  have er : (Y.map trD).reverse = Z.map trD := by rw [eZ, List.map_reverse]
  have c1 : cut (Z.map trD) (some (n : Int)) none = (Z.drop n).map trD := by rw [cut_from, List.map_drop]
  have c2 : cut (Z.map trD) none (some (n : Int)) = (Z.take n).map trD := by rw [cut_to, List.map_take]
  have c3 : cut (Z.map trD) none (some 2) = (Z.take 2).map trD := by have := cut_to (Z.map trD) 2; rw [List.map_take]; exact this
  have l1 : (Z.drop n).length + (Z.take n).length ≤ 1000000 := by rw [List.length_drop, List.length_take]; omega
  have l2 : (Z.drop n).length + ((Z.take n).length + (Z.take 2).length) ≤ 1000000 := by rw [List.length_drop, List.length_take, List.length_take]; omega
  have l3 : (Z.drop n).length + (Z.take n).length + (Z.take 2).length ≤ 1000000 := by omega
  refine ⟨Z.drop n ++ (Z.take n ++ Z.take 2), fun e he => ?_, ?_, ?_⟩
  · have : e ∈ Z := by
      rcases List.mem_append.mp he with q | q
      · exact List.mem_of_mem_drop q
      · rcases List.mem_append.mp q with q | q
        · exact List.mem_of_mem_take q
        · exact List.mem_of_mem_take q
    rw [eZ] at this
    exact List.mem_reverse.mp this
  · rw [List.length_append, List.length_append, List.length_drop, List.length_take, List.length_take]; omega
  · have p1 : (0 : Int) < (Y.length : Int) + 1 := by omega
    have p2 : 0 < Y.length + 1 := by omega
    have lY1 : (Y.length : Int) ≤ 1000000 := by omega
    have lY2 : Y.length ≤ 1000000 := by omega
    rw [List.map_append, List.map_append]
    generalize Z.drop n = A at *
    generalize Z.take n = B at *
    generalize Z.take 2 = E at *
    simp -dsimp [f_law_turned, b_law_turned, hn, p1, p2, lY1, lY2, er, c1, c2, c3, limN, l1, l2, l3]

def insR (R : List En) (z : Int) (x y : En) : List En := R.take (z % ((R.length : Int) + 1)).toNat ++ x :: (R.drop (z % ((R.length : Int) + 1)).toNat ++ [y])
theorem insR_map (R : List En) (z : Int) (x y : En) : (insR R z x y).map trD = (R.map trD).take (z % ((R.length : Int) + 1)).toNat ++ trD x :: ((R.map trD).drop (z % ((R.length : Int) + 1)).toNat ++ [trD y]) := by
  unfold insR
  rw [List.map_append, List.map_cons, List.map_append, List.map_take, List.map_drop]
  rfl
theorem insR_len (R : List En) (z : Int) (x y : En) : (insR R z x y).length = R.length + 2 := by
  unfold insR
  rw [List.length_append, List.length_cons, List.length_append, List.length_take, List.length_drop]
  simp only [List.length_singleton]
  omega
theorem mem_insR {R : List En} {z : Int} {x y e : En} (h : e ∈ insR R z x y) : e ∈ R ∨ e = x ∨ e = y := by
  unfold insR at h
  rcases List.mem_append.mp h with q | q
  · exact .inl (List.mem_of_mem_take q)
  · rcases List.mem_cons.mp q with q | q
    · exact .inr (.inl q)
    · rcases List.mem_append.mp q with q | q
      · exact .inl (List.mem_of_mem_drop q)
      · exact .inr (.inr (List.mem_singleton.mp q))
def insO (R : List En) (z : Int) (x : En) : List En := R.take (z % ((R.length : Int) + 1)).toNat ++ x :: R.drop (z % ((R.length : Int) + 1)).toNat
theorem insO_map (R : List En) (z : Int) (x : En) : (insO R z x).map trD = (R.map trD).take (z % ((R.length : Int) + 1)).toNat ++ trD x :: (R.map trD).drop (z % ((R.length : Int) + 1)).toNat := by
  unfold insO
  rw [List.map_append, List.map_cons, List.map_take, List.map_drop]
theorem mem_insO {R : List En} {z : Int} {x e : En} (h : e ∈ insO R z x) : e ∈ R ∨ e = x := by
  unfold insO at h
  rcases List.mem_append.mp h with q | q
  · exact .inl (List.mem_of_mem_take q)
  · rcases List.mem_cons.mp q with q | q
    · exact .inr q
    · exact .inl (List.mem_of_mem_drop q)
theorem insO_len (R : List En) (z : Int) (x : En) : (insO R z x).length = R.length + 1 := by
  unfold insO
  rw [List.length_append, List.length_cons, List.length_take, List.length_drop]
  omega
section
variable {T : Sto} {R : List En} {v0 v1 v5 v6 v7 : Sl} {d0 d1 d2 d3 d4 d5 d6 d7 form : Int}
theorem sp_four (lR : R.length ≤ 500) : ∃ R' : List En, R'.length ≤ R.length + 2 ∧ (form ≤ 0 → R' = R) ∧
    exec g_law_spoiled_row C i_law_spoiled_row_4 [v0, v1, .val (.lst [.int d0, .int d1, .int d2, .int d3, .int d4, .int d5, .int d6, .int d7]), .val (.int form), .val (.loc T.length), v5, v6, v7, .un] (T ++ [.lst (R.map trD)])
    = .nx [v0, v1, .val (.lst [.int d0, .int d1, .int d2, .int d3, .int d4, .int d5, .int d6, .int d7]), .val (.int form), .val (.loc T.length), v5, v6, v7, .un] (T ++ [.lst (R'.map trD)]) := by
  have q0 : 0 ≤ d4 % ((R.length : Int) + 1) := Int.emod_nonneg _ (by omega)
  have q1 : d4 % ((R.length : Int) + 1) < (R.length : Int) + 1 := Int.emod_lt_of_pos _ (by omega)
  have q2 : d4 % ((R.length : Int) + 1) < 1000000000 := by omega
  have lm : min (d4 % ((R.length : Int) + 1)).toNat R.length + (R.length - (d4 % ((R.length : Int) + 1)).toNat + 1) < 1000000 := by omega
  have q3 : 0 < (R.length : Int) + 1 := by omega
  have lR9 : R.length < 1000000 := by omega
  have lR8 : R.length + 1 < 1000000 := by omega
  have so : seqOf (T ++ [.lst (R.map trD)]) (.d (.loc T.length)) = some (R.map trD) := so_loc lstAt_last
  have inF : ∀ (j e : E) (d0 d1 d2 d3 : Sl) (δ : Sls) (st : Sto), insX g_law_spoiled_row C 4 j e (d0 :: d1 :: d2 :: d3 :: .val (.loc T.length) :: δ) st = _ := fun j e d0 d1 d2 d3 δ st => insX_eq (l := T.length) rfl
  have apF : ∀ (e : E) (d0 d1 d2 d3 : Sl) (δ : Sls) (st : Sto), appLoc g_law_spoiled_row C 4 e (d0 :: d1 :: d2 :: d3 :: .val (.loc T.length) :: δ) st = _ := fun e d0 d1 d2 d3 δ st => appLoc_eq (l := T.length) rfl
  by_cases c : 0 < form
  · by_cases c2 : d0 = 3
    · refine ⟨insR R d4 (1 + d2, 1, 0) (1 + d2, 1, 3), by rw [insR_len]; omega, fun h => absurd c (by omega), ?_⟩
      rw [insR_map]
      simp -dsimp [i_law_spoiled_row_4, lm, c, c2, so, inF, apF, q0, q2, q3, lR9, lR8, limN, trD]
    · exact ⟨R, by omega, fun _ => rfl, by simp -dsimp [i_law_spoiled_row_4, c, c2]⟩
  · exact ⟨R, by omega, fun _ => rfl, by simp -dsimp [i_law_spoiled_row_4, c]⟩
theorem sp_five (lR : R.length ≤ 500) (h6 : 0 ≤ d6 ∧ d6 < 7) : ∃ (R' : List En) (v7' : Sl), R'.length ≤ R.length + 2 ∧ (form ≤ 0 → R' = R) ∧
    exec g_law_spoiled_row C i_law_spoiled_row_5 [v0, v1, .val (.lst [.int d0, .int d1, .int d2, .int d3, .int d4, .int d5, .int d6, .int d7]), .val (.int form), .val (.loc T.length), v5, v6, v7, .un] (T ++ [.lst (R.map trD)])
    = .nx [v0, v1, .val (.lst [.int d0, .int d1, .int d2, .int d3, .int d4, .int d5, .int d6, .int d7]), .val (.int form), .val (.loc T.length), v5, v6, v7', .un] (T ++ [.lst (R'.map trD)]) := by
  have q0 : 0 ≤ d7 % ((R.length : Int) + 1) := Int.emod_nonneg _ (by omega)
  have q1 : d7 % ((R.length : Int) + 1) < (R.length : Int) + 1 := Int.emod_lt_of_pos _ (by omega)
  have q2 : d7 % ((R.length : Int) + 1) < 1000000000 := by omega
  have lm : min (d7 % ((R.length : Int) + 1)).toNat R.length + (R.length - (d7 % ((R.length : Int) + 1)).toNat + 1) < 1000000 := by omega
  have q3 : 0 < (R.length : Int) + 1 := by omega
  have lR9 : R.length < 1000000 := by omega
  have lR8 : R.length + 1 < 1000000 := by omega
  have so : seqOf (T ++ [.lst (R.map trD)]) (.d (.loc T.length)) = some (R.map trD) := so_loc lstAt_last
  have inF : ∀ (j e : E) (d0 d1 d2 d3 : Sl) (δ : Sls) (st : Sto), insX g_law_spoiled_row C 4 j e (d0 :: d1 :: d2 :: d3 :: .val (.loc T.length) :: δ) st = _ := fun j e d0 d1 d2 d3 δ st => insX_eq (l := T.length) rfl
  have apF : ∀ (e : E) (d0 d1 d2 d3 : Sl) (δ : Sls) (st : Sto), appLoc g_law_spoiled_row C 4 e (d0 :: d1 :: d2 :: d3 :: .val (.loc T.length) :: δ) st = _ := fun e d0 d1 d2 d3 δ st => appLoc_eq (l := T.length) rfl
  obtain ⟨bad, eb⟩ : ∃ bad : En, ixD [.tup [.int 0, .int 1, .int 2], .tup [.int 100, .int 0, .int 0], .tup [.int 7, .int 4, .int 1], .tup [.int 7, .int (-1), .int 1], .tup [.int 99, .int 3, .int 4], .tup [.int 1, .int 0, .int (-1)], .tup [.int (-1), .int 2, .int 2]] d6 = some (.tup [.int bad.1, .int bad.2.1, .int bad.2.2]) := by
    rcases (by omega : d6 = 0 ∨ d6 = 1 ∨ d6 = 2 ∨ d6 = 3 ∨ d6 = 4 ∨ d6 = 5 ∨ d6 = 6) with rfl | rfl | rfl | rfl | rfl | rfl | rfl
    · exact ⟨(0, 1, 2), rfl⟩
    · exact ⟨(100, 0, 0), rfl⟩
    · exact ⟨(7, 4, 1), rfl⟩
    · exact ⟨(7, -1, 1), rfl⟩
    · exact ⟨(99, 3, 4), rfl⟩
    · exact ⟨(1, 0, -1), rfl⟩
    · exact ⟨(-1, 2, 2), rfl⟩
  by_cases c : 0 < form
  · by_cases c2 : d5 = 1
    · refine ⟨insR R d7 bad (0, 0, 9), .val (.lst [.tup [.int 0, .int 1, .int 2], .tup [.int 100, .int 0, .int 0], .tup [.int 7, .int 4, .int 1], .tup [.int 7, .int (-1), .int 1], .tup [.int 99, .int 3, .int 4], .tup [.int 1, .int 0, .int (-1)], .tup [.int (-1), .int 2, .int 2]]), by rw [insR_len]; omega, fun h => absurd c (by omega), ?_⟩
      rw [insR_map]
      subst c2
      have x7 : ixD [.int d0, .int d1, .int d2, .int d3, .int d4, .int 1, .int d6, .int d7] 7 = some (.int d7) := rfl
      have x6 : ixD [.int d0, .int d1, .int d2, .int d3, .int d4, .int 1, .int d6, .int d7] 6 = some (.int d6) := rfl
      simp -dsimp [i_law_spoiled_row_5, lm, x6, x7, c, so, inF, apF, q0, q2, q3, lR9, lR8, limN, eb, trD]
    · exact ⟨R, v7, by omega, fun _ => rfl, by simp -dsimp [i_law_spoiled_row_5, c, c2]⟩
  · exact ⟨R, v7, by omega, fun _ => rfl, by simp -dsimp [i_law_spoiled_row_5, c]⟩
end
section
variable {R X : List En} {v0 v3 : Sl} {d0 d1 d2 d3 d4 d5 d6 d7 : Int}
theorem sp_three {P : Int → Prop} (pX : ∀ e ∈ X, P e.1) (pR : ∀ e ∈ R, P e.1) (hX : ∀ e ∈ X, OkE e) (hR : ∀ e ∈ R, OkE e) (aR : Agree R) (lR : R.length ≤ 300) (lX : X.length ≤ 300) : ∃ (T' : Sto) (R' : List En) (v5 v6 : Sl), R'.length ≤ R.length + 2 ∧ (∀ e ∈ R', OkE e) ∧ Agree R' ∧ (∀ e ∈ R', P e.1) ∧
    exec g_law_spoiled_row C i_law_spoiled_row_3 [v0, .val (.lst (X.map trD)), .val (.lst [.int d0, .int d1, .int d2, .int d3, .int d4, .int d5, .int d6, .int d7]), v3, .val (.loc 0), .un, .un, .un, .un] [.lst (R.map trD)]
    = .nx [v0, .val (.lst (X.map trD)), .val (.lst [.int d0, .int d1, .int d2, .int d3, .int d4, .int d5, .int d6, .int d7]), v3, .val (.loc T'.length), v5, v6, .un, .un] (T' ++ [.lst (R'.map trD)]) := by
  have hin : ∀ st, cmpP .in_ st (.d (.int d0)) (.d (.tup [.int 1, .int 2])) = some (decide (d0 ∈ [(1 : Int), 2])) := fun st => (fm_int.mono (by decide)).in_ (x := d0) (xs := [1, 2]) rfl
  have hne : ∀ st, cmpP .ne st (.d (.lst (X.map trD))) (.d (.lst [])) = some (!decide (X = [])) := fun st => by
    have := ((fm_lst fm_trD).mono (show 2 ≤ 9 by decide)).ne (st := st) (p := .d (.lst (X.map trD))) (q := .d (.lst [])) (x := X) (y := []) rfl rfl
    simpa using this
  by_cases c : d0 ∈ [(1 : Int), 2]
  · rw [decide_eq_true c] at hin
    by_cases cX : X = []
    · rw [decide_eq_true cX] at hne
      exact ⟨[], R, .un, .un, by omega, hR, aR, pR, by simp -dsimp [i_law_spoiled_row_3, hin, hne]⟩
    · rw [decide_eq_false cX] at hne
      have hp : 0 < X.length := List.length_pos_iff.mpr cX
      have pick : ∀ z : Int, ∃ o0 o1 o2, (o0, o1, o2) ∈ X ∧ ixD (X.map trD) (z % (X.length : Int)) = some (.tup [.int o0, .int o1, .int o2]) := fun z => by
        have q0 : 0 ≤ z % (X.length : Int) := Int.emod_nonneg _ (by omega)
        have q1 : z % (X.length : Int) < X.length := Int.emod_lt_of_pos _ (by omega)
        obtain ⟨j, ej⟩ : ∃ j : Nat, z % (X.length : Int) = j := ⟨(z % (X.length : Int)).toNat, by omega⟩
        have hj : j < X.length := by omega
        exact ⟨X[j].1, X[j].2.1, X[j].2.2, List.getElem_mem hj, by rw [ej]; exact ixD_of (k := j) (by simp -dsimp [List.getElem?_eq_getElem hj, trD]) rfl⟩
      obtain ⟨f0, f1, f2, mf, xf⟩ := pick d2
      obtain ⟨n0, n1, n2, mn, e1⟩ : ∃ n0 n1 n2, (n0, n1, n2) ∈ X ∧ exec g_law_spoiled_row C i_law_spoiled_row_1 [v0, .val (.lst (X.map trD)), .val (.lst [.int d0, .int d1, .int d2, .int d3, .int d4, .int d5, .int d6, .int d7]), v3, .val (.loc 0), .val (.tup [.int f0, .int f1, .int f2]), .val (.tup [.int f0, .int f1, .int f2]), .un, .un] [.lst (R.map trD)]
          = .nx [v0, .val (.lst (X.map trD)), .val (.lst [.int d0, .int d1, .int d2, .int d3, .int d4, .int d5, .int d6, .int d7]), v3, .val (.loc 0), .val (.tup [.int f0, .int f1, .int f2]), .val (.tup [.int n0, .int n1, .int n2]), .un, .un] [.lst (R.map trD)] := by
        by_cases c2 : d0 = 2
        · obtain ⟨n0, n1, n2, mn, xn⟩ := pick d3
          exact ⟨n0, n1, n2, mn, by simp -dsimp [i_law_spoiled_row_1, c2, xn, hp]⟩
        · exact ⟨f0, f1, f2, mf, by simp -dsimp [i_law_spoiled_row_1, c2]⟩
      have kf := hX _ mf
      have kn := hX _ mn
      have kf' : OkE (f0, f1, 3 - f2) := by obtain ⟨a, b, c⟩ := kf; exact ⟨a, b, by simp only at c ⊢; omega⟩
      have kn' : OkE (n0, 3 - n1, n2) := by obtain ⟨a, b, c⟩ := kn; exact ⟨a, by simp only at b ⊢; omega, c⟩
      obtain ⟨R1, eR1⟩ : ∃ R1, R1 = R.filter (fun e => !decide (e.1 ∈ [n0, f0])) := ⟨_, rfl⟩
      have mR1 : ∀ e ∈ R1, e ∈ R ∧ e.1 ≠ n0 ∧ e.1 ≠ f0 := fun e he => by
        rw [eR1] at he
        obtain ⟨h1, h2⟩ := List.mem_filter.mp he
        simp only [List.mem_cons, List.not_mem_nil, or_false, not_or, Bool.not_eq_true', decide_eq_false_iff_not] at h2
        exact ⟨h1, h2⟩
      have lR1 : R1.length ≤ R.length := by rw [eR1]; exact List.length_filter_le _ _
      have ec : evalE g_law_spoiled_row C (.comp e_law_spoiled_row_1 (.n 8) (.seq (.v 4)) (.cons (.cmp .nin (.ix (.v 8) (.c (.int 0))) (.tup (.cons (.ix (.v 6) (.c (.int 0))) (.cons (.ix (.v 5) (.c (.int 0))) .nil)))) .nil) [8])
          [v0, .val (.lst (X.map trD)), .val (.lst [.int d0, .int d1, .int d2, .int d3, .int d4, .int d5, .int d6, .int d7]), v3, .val (.loc 0), .val (.tup [.int f0, .int f1, .int f2]), .val (.tup [.int n0, .int n1, .int n2]), .un, .un] [.lst (R.map trD)] = .ok (.lst (R1.map trD), [.lst (R.map trD)]) := by
        have at0 : lstAt [.lst (R.map trD)] 0 = some (R.map trD) := rfl
        rw [eR1]
        refine comp_ifG (inj := trD) (gd := some (0, R.map trD)) (by simp -dsimp [dS_at at0]) (gdOk_at at0) (by unfold Lim; omega) fun e _ => ?_
        have hnin : ∀ st (z : Int), cmpP .nin st (.d (.int z)) (.d (.tup [.int n0, .int f0])) = some (!decide (z ∈ [n0, f0])) := fun st z => (fm_int.mono (by decide)).nin (x := z) (xs := [n0, f0]) rfl
        obtain ⟨ea, eb, ed⟩ := e
        rw [comp_c]
        by_cases c1 : ea = n0
        · simp -dsimp [e_law_spoiled_row_1, trD, hnin, c1]
        · by_cases c2 : ea = f0
          · simp -dsimp [e_law_spoiled_row_1, trD, hnin, c1, c2]
          · simp -dsimp [e_law_spoiled_row_1, trD, hnin, c1, c2]
      have q0 : 0 ≤ d4 % ((R1.length : Int) + 1) := Int.emod_nonneg _ (by omega)
      have q1 : d4 % ((R1.length : Int) + 1) < (R1.length : Int) + 1 := Int.emod_lt_of_pos _ (by omega)
      have q2 : d4 % ((R1.length : Int) + 1) < 1000000000 := by omega
      have q3 : 0 < (R1.length : Int) + 1 := by omega
      have lm : min (d4 % ((R1.length : Int) + 1)).toNat R1.length + (R1.length - (d4 % ((R1.length : Int) + 1)).toNat + 1) < 1000000 := by omega
      have lR9 : R1.length < 1000000 := by omega
      have so : ∀ ds, seqOf [.lst (R.map trD), .lst ds] (.d (.loc 1)) = some ds := fun ds => so_loc rfl
      have at1 : ∀ ds, lstAt [.lst (R.map trD), .lst ds] 1 = some ds := fun ds => rfl
      have inF : ∀ (j e : E) (d0 d1 d2 d3 : Sl) (δ : Sls) (st : Sto), insX g_law_spoiled_row C 4 j e (d0 :: d1 :: d2 :: d3 :: .val (.loc 1) :: δ) st = _ := fun j e d0 d1 d2 d3 δ st => insX_eq (l := 1) rfl
      have apF : ∀ (e : E) (d0 d1 d2 d3 : Sl) (δ : Sls) (st : Sto), appLoc g_law_spoiled_row C 4 e (d0 :: d1 :: d2 :: d3 :: .val (.loc 1) :: δ) st = _ := fun e d0 d1 d2 d3 δ st => appLoc_eq (l := 1) rfl
      by_cases cn : n0 = f0
      · refine ⟨[.lst (R.map trD)], insO R1 d4 (f0, f1, 3 - f2), .val (.tup [.int f0, .int f1, .int f2]), .val (.tup [.int n0, .int n1, .int n2]), by rw [insO_len]; omega, fun e he => ?_, fun e he g hg eg => ?_, fun e he => ?_, ?_⟩
        · rcases mem_insO he with q | rfl
          · exact hR e (mR1 e q).1
          · exact kf'
        · rcases mem_insO he with q | rfl <;> rcases mem_insO hg with r | rfl
          · exact aR e (mR1 e q).1 g (mR1 g r).1 eg
          · exact absurd eg (mR1 e q).2.2
          · exact absurd eg.symm (mR1 g r).2.2
          · rfl
        · rcases mem_insO he with q | rfl
          · exact pR e (mR1 e q).1
          · have := pX _ mf; exact this
        · rw [insO_map]
          subst cn
          simp -dsimp [i_law_spoiled_row_3, i_law_spoiled_row_2, hin, hne, xf, hp, e1, ec, so, at1, inF, apF, q0, q2, q3, lm, lR9, limN, trD]
      · have cn' : ¬ f0 = n0 := fun e => cn e.symm
        refine ⟨[.lst (R.map trD)], insR R1 d4 (f0, f1, 3 - f2) (n0, 3 - n1, n2), .val (.tup [.int f0, .int f1, .int f2]), .val (.tup [.int n0, .int n1, .int n2]), by rw [insR_len]; omega, fun e he => ?_, fun e he g hg eg => ?_, fun e he => ?_, ?_⟩
        · rcases mem_insR he with q | rfl | rfl
          · exact hR e (mR1 e q).1
          · exact kf'
          · exact kn'
        · rcases mem_insR he with q | rfl | rfl <;> rcases mem_insR hg with r | rfl | rfl
          · exact aR e (mR1 e q).1 g (mR1 g r).1 eg
          · exact absurd eg (mR1 e q).2.2
          · exact absurd eg (mR1 e q).2.1
          · exact absurd eg.symm (mR1 g r).2.2
          · rfl
          · exact absurd eg cn'
          · exact absurd eg.symm (mR1 g r).2.1
          · exact absurd eg cn
          · rfl
        · rcases mem_insR he with q | rfl | rfl
          · exact pR e (mR1 e q).1
          · have := pX _ mf; exact this
          · have := pX _ mn; exact this
        · rw [insR_map]
          simp -dsimp [i_law_spoiled_row_3, i_law_spoiled_row_2, hin, hne, xf, hp, e1, ec, so, at1, inF, apF, q0, q2, q3, lm, lR9, limN, cn, cn', trD]
  · rw [decide_eq_false c] at hin
    exact ⟨[], R, .un, .un, by omega, hR, aR, pR, by simp -dsimp [i_law_spoiled_row_3, hin]⟩
theorem spoiled_row_ok {P : Int → Prop} {Y : List En} {form : Int} (pX : ∀ e ∈ X, P e.1) (pY : ∀ e ∈ Y, P e.1) (hX : ∀ e ∈ X, OkE e) (hY : ∀ e ∈ Y, OkE e) (aY : Agree Y) (lY : Y.length ≤ 200) (lX : X.length ≤ 200) (h6 : 0 ≤ d6 ∧ d6 < 7) : ∃ (T : Sto) (R : List En), R.length ≤ 250 ∧ (form ≤ 0 → (∀ e ∈ R, OkE e) ∧ Agree R ∧ ∀ e ∈ R, P e.1) ∧
    f_law_spoiled_row [.lst (Y.map trD), .lst (X.map trD), .lst [.int d0, .int d1, .int d2, .int d3, .int d4, .int d5, .int d6, .int d7], .int form] [] = .ok (.loc T.length, T ++ [.lst (R.map trD)]) := by
  obtain ⟨R0, m0, l0, e0⟩ := turned_ok Y d1 [] lY
  obtain ⟨T, R1, v5, v6, l1, k1, a1, p1, e1⟩ := sp_three (P := P) (R := R0) (X := X) (v0 := .val (.lst (Y.map trD))) (v3 := .val (.int form)) (d0 := d0) (d1 := d1) (d2 := d2) (d3 := d3) (d4 := d4) (d5 := d5) (d6 := d6) (d7 := d7) pX (fun e he => pY e (m0 e he)) hX (fun e he => hY e (m0 e he)) (aY.sub m0) (by omega) (by omega)
  obtain ⟨R2, l2, s2, e2⟩ := sp_four (T := T) (R := R1) (v0 := .val (.lst (Y.map trD))) (v1 := .val (.lst (X.map trD))) (v5 := v5) (v6 := v6) (v7 := .un) (d0 := d0) (d1 := d1) (d2 := d2) (d3 := d3) (d4 := d4) (d5 := d5) (d6 := d6) (d7 := d7) (form := form) (by omega)
  obtain ⟨R3, v7, l3, s3, e3⟩ := sp_five (T := T) (R := R2) (v0 := .val (.lst (Y.map trD))) (v1 := .val (.lst (X.map trD))) (v5 := v5) (v6 := v6) (v7 := .un) (d0 := d0) (d1 := d1) (d2 := d2) (d3 := d3) (d4 := d4) (d5 := d5) (d6 := d6) (d7 := d7) (form := form) (by omega) h6
  refine ⟨T, R3, by omega, fun h => ?_, ?_⟩
  · rw [s3 h, s2 h]; exact ⟨k1, a1, p1⟩
  · simp -dsimp [f_law_spoiled_row, b_law_spoiled_row, e0, e1, e2, e3]
end

theorem cell_scr (ns : List Int) (k : Nat) (st : Sto) : f_law_cell [.scr (ns.map .int), .int k] st = .ok (.int (ns.getD k 0), st) := by
  by_cases h : k < ns.length
  · have e : ixD (ns.map .int) (k : Int) = some (.int ns[k]) := ixD_of (k := k) (by simp -dsimp [h]) rfl
    simp -dsimp [f_law_cell, b_law_cell, h, e]
  · simp -dsimp [f_law_cell, b_law_cell, h]
theorem cell_ex (ns : List Int) (st : Sto) (k : Int) (hk : 0 ≤ k := by decide) : ∃ a, f_law_cell [.scr (ns.map .int), .int k] st = .ok (.int a, st) := by
  have := cell_scr ns k.toNat st
  rw [Int.toNat_of_nonneg hk] at this
  exact ⟨_, this⟩

theorem digits_loop (c : Int) (bs0 : D) (gr : Bool) (st : Sto) : ∀ (bs : List Int) (acc : List D) (rest : Int) (x : Sl), 0 ≤ rest → (∀ b ∈ bs, 0 < b ∧ b < 1000000) → acc.length + bs.length ≤ 1000 →
    ∃ (ds : List Int) (rest' : Int) (x' : Sl), forLoop (forF g_law_digits C (.n 5) l_law_digits_1) (bs.map .int) [.val (.int c), .val bs0, .own (.lst acc), .val (.int rest), .val (.bl gr), x] st
      = .nx [.val (.int c), .val bs0, .own (.lst (acc ++ ds.map .int)), .val (.int rest'), .val (.bl gr), x'] st ∧ InB ds bs
  | [], acc, rest, x, _, _, _ => ⟨[], rest, x, by simp -dsimp [forLoop], rfl, by simp⟩
  | b :: bs, acc, rest, x, hr, hb, hl => by
    have h0 := hb b List.mem_cons_self
    simp only [List.length_cons] at hl
    have hl' : acc.length < Lim := by unfold Lim; omega
    cases gr with
    | true =>
      obtain ⟨ds, r', x', e, ib⟩ := digits_loop c bs0 true st bs (acc ++ [.int (rest % b)]) (rest / b) (.val (.int b)) (Int.ediv_nonneg hr (by omega)) (fun y hy => hb y (List.mem_cons_of_mem _ hy)) (by simp; omega)
      refine ⟨rest % b :: ds, r', x', ?_, InB.cons ⟨Int.emod_nonneg _ (by omega), Int.emod_lt_of_pos _ h0.1⟩ ib⟩
      have c1 : b < 1073741824 := by omega
      rw [List.append_assoc] at e
      exact for_cons e (by simp -dsimp [l_law_digits_1, h0.1, hl', c1])
    | false =>
      have q1 : 0 ≤ (rest * 48271 + 12345) % 2147483647 := Int.emod_nonneg _ (by omega)
      have q2 : (rest * 48271 + 12345) % 2147483647 < 2147483647 := Int.emod_lt_of_pos _ (by omega)
      obtain ⟨r, er⟩ : ∃ r, r = (rest * 48271 + 12345) % 2147483647 := ⟨_, rfl⟩
      rw [← er] at q1 q2
      obtain ⟨ds, r', x', e, ib⟩ := digits_loop c bs0 false st bs (acc ++ [.int ((r * r + 7 * r) % 1000003 % b)]) r (.val (.int b)) q1 (fun y hy => hb y (List.mem_cons_of_mem _ hy)) (by simp; omega)
      refine ⟨(r * r + 7 * r) % 1000003 % b :: ds, r', x', ?_, InB.cons ⟨Int.emod_nonneg _ (by omega), Int.emod_lt_of_pos _ h0.1⟩ ib⟩
      have c1 : Sm r := sm_of (by omega) (by omega)
      rw [List.append_assoc] at e
      exact for_cons e (by simp -dsimp [l_law_digits_1, h0.1, hl', ← er, c1])
theorem digits (c : Int) (bs : List Int) (st : Sto) (hb : ∀ b ∈ bs, 0 < b ∧ b < 1000000) (hl : bs.length ≤ 1000) : ∃ ds : List Int, f_law_digits [.int c, .lst (bs.map .int)] st = .ok (.lst (ds.map .int), st) ∧ InB ds bs := by
  have hr : 0 ≤ (if c < 0 then -c else c) := by split <;> omega
  obtain ⟨r, er⟩ : ∃ r, r = (if c < 0 then -c else c) := ⟨_, rfl⟩
  rw [← er] at hr
  obtain ⟨ds, r', x', e, ib⟩ := digits_loop c (.lst (bs.map .int)) (decide (1000000000000000000 ≤ r)) st bs [] r .un hr hb (by simpa using hl)
  refine ⟨ds, ?_, ib⟩
  simp only [List.nil_append] at e
  simp -dsimp [f_law_digits, b_law_digits, ← er, e]


theorem world_ok (c : Int) (n : Nat) (st : Sto) (hn : n ≤ 99) : ∃ W : List En, f_law_world [.int c, .int n] st = .ok (.lst (W.map trD), st) ∧ W.length = n ∧ Asc W ∧ (∀ e ∈ W, OkE e) ∧ ∀ e ∈ W, e.1 ≤ n := by
  obtain ⟨ds, ed, hd⟩ := digits c (List.replicate n 16) st (fun b hb => by rw [List.eq_of_mem_replicate hb]; decide) (by rw [List.length_replicate]; omega)
  have eb : (List.replicate n (16 : Int)).map D.int = List.replicate n (D.int 16) := List.map_replicate
  rw [eb] at ed
  have dl : ds.length = n := by rw [hd.1, List.length_replicate]
  have hds : ∀ d ∈ ds, 0 ≤ d ∧ d < 16 := fun d hm => by
    obtain ⟨i, hi, rfl⟩ := List.getElem_of_mem hm
    exact hd.2 i _ 16 (List.getElem?_eq_getElem hi) (by rw [List.getElem?_replicate, if_pos (by omega)])
  have m1 : n ≤ 1000000 := by omega
  have m2 : (n : Int) ≤ 1000000 := by omega
  have ec : evalE g_law_world C (.comp e_law_world_1 (.n 3) (.rng (.v 1)) .nil [3]) [.val (.int c), .val (.int n), .val (.lst (ds.map .int)), .un] st = .ok (.lst ((wldL ds).map trD), st) := by
    have e1 : (wldL ds).map trD = (List.range n).map fun (k : Nat) => trD ((k : Int) + 1, ds.getD k 0 % 4, ds.getD k 0 / 4) := by
      unfold wldL
      rw [List.map_map, dl]
      rfl
    rw [e1]
    refine comp_all (inj := natD) (by simp -dsimp [rngO_nat (show n < 1000000 by omega), rng_nat]) (by simp; unfold Lim; omega) fun k hk => ?_
    have hk := List.mem_range.mp hk
    have x1 : ixD (ds.map .int) (k : Int) = some (.int (ds.getD k 0)) := ixD_of (k := k) (by simp -dsimp [List.getElem?_eq_getElem (show k < ds.length by omega), List.getD]) rfl
    rw [comp_n]
    simp -dsimp [e_law_world_1, natD, x1, trD]
  have hw := wld_ok (ds := ds) (by omega) hds
  refine ⟨wldL ds, by simp -dsimp [f_law_world, b_law_world, m1, m2, limN, ed, ec], by rw [wld_len, dl], wld_asc ds, fun e he => (hw e he).1, fun e he => by have := (hw e he).2; omega⟩

theorem part_ok (c : Int) (W : List En) (st : Sto) (hn : W.length ≤ 99) : ∃ P : List En, f_law_part [.int c, .lst (W.map trD)] st = .ok (.lst (P.map trD), st) ∧ P.Sublist W := by
  obtain ⟨ds, ed, hd⟩ := digits c (3 :: List.replicate W.length 4) st (fun b hb => by
    rcases List.mem_cons.mp hb with rfl | hb
    · decide
    · rw [List.eq_of_mem_replicate hb]; decide) (by simp; omega)
  have eb : (3 :: List.replicate W.length (4 : Int)).map D.int = .int 3 :: List.replicate W.length (D.int 4) := by simp
  rw [eb] at ed
  have dl : ds.length = W.length + 1 := by rw [hd.1]; simp
  have m1 : W.length ≤ 1000000 := by omega
  have m2 : (W.length : Int) ≤ 1000000 := by omega
  have m3 : W.length + 1 ≤ 1000000 := by omega
  have m4 : 1 + W.length ≤ 1000000 := by omega
  obtain ⟨v, ex⟩ : ∃ v : Nat → Int, ∀ k : Nat, k < W.length + 1 → ixD (ds.map .int) (k : Int) = some (.int (v k)) := ⟨fun k => ds.getD k 0, fun k hk => ixD_of (k := k) (by simp -dsimp [List.getElem?_eq_getElem (show k < ds.length by omega), List.getD]) rfl⟩
  have x0 : ixD (ds.map .int) 0 = some (.int (v 0)) := ex 0 (by omega)
  refine ⟨((List.range W.length).filter fun k => decide (v (1 + k) ≤ v 0)).filterMap fun k => W[k]?, ?_, ?_⟩
  · have ec : evalE g_law_part C (.comp e_law_part_1 (.n 3) (.rng (.blt .len (.cons (.v 1) .nil))) (.cons (.cmp .le (.ix (.v 2) (.bin .add (.c (.int 1)) (.v 3))) (.ix (.v 2) (.c (.int 0)))) .nil) [3]) [.val (.int c), .val (.lst (W.map trD)), .val (.lst (ds.map .int)), .un] st = .ok (.lst ((((List.range W.length).filter fun k => decide (v (1 + k) ≤ v 0)).filterMap fun k => W[k]?).map trD), st) := by
      have e1 : (((List.range W.length).filter fun k => decide (v (1 + k) ≤ v 0)).filterMap fun k => W[k]?).map trD = ((List.range W.length).filter fun k => decide (v (1 + k) ≤ v 0)).map fun k => ((W[k]?).map trD).getD .non := by
        have : ∀ l : List Nat, (∀ k ∈ l, k < W.length) → (l.filterMap fun k => W[k]?).map trD = l.map fun k => ((W[k]?).map trD).getD .non := by
          intro l
          induction l with
          | nil => intro _; rfl
          | cons k l ih =>
            intro h
            have hk := h k List.mem_cons_self
            rw [List.filterMap_cons, List.getElem?_eq_getElem hk, List.map_cons, List.map_cons, ih fun j hj => h j (List.mem_cons_of_mem _ hj), List.getElem?_eq_getElem hk]
            rfl
        exact this _ fun k hk => List.mem_range.mp (List.mem_filter.mp hk).1
      rw [e1]
      refine comp_if (inj := natD) (by simp -dsimp [rngO_nat (show W.length < 1000000 by omega), rng_nat]) (by simp; unfold Lim; omega) fun k hk => ?_
      have hk := List.mem_range.mp hk
      have x1 : ixD (ds.map .int) (1 + (k : Int)) = some (.int (v (1 + k))) := by rw [← ex (1 + k) (by omega)]; congr 1
      have x2 : ixD (W.map trD) (k : Int) = some (trD W[k]) := ixD_of (k := k) (by simp -dsimp [List.getElem?_eq_getElem hk]) rfl
      rw [comp_c, List.getElem?_eq_getElem hk]
      by_cases h : v (1 + k) ≤ v 0 <;> simp -dsimp [e_law_part_1, natD, x0, x1, x2, h]
    simp -dsimp [f_law_part, b_law_part, m1, m2, m3, m4, limN, ed, ec]
  · have e2 : W = (List.range W.length).filterMap fun k => W[k]? := by
      apply List.ext_getElem?
      intro i
      have : ∀ (n : Nat), n ≤ W.length → (List.range n).filterMap (fun k => W[k]?) = W.take n := by
        intro n
        induction n with
        | zero => intro _; rfl
        | succ n ih =>
          intro h
          rw [List.range_succ, List.filterMap_append, ih (by omega), List.take_succ]
          simp [List.getElem?_eq_getElem (show n < W.length by omega)]
      rw [this _ (Nat.le_refl _), List.take_length]
    have := (List.filter_sublist (p := fun k => decide (v (1 + k) ≤ v 0)) (l := List.range W.length)).filterMap (fun k => W[k]?)
    rw [← e2] at this
    exact this

theorem execs_two {G : List Fn} {C : List Int} {a b : S} {δ δ' : Sls} {st st' : Sto} (h : execs G C (.cons a (.cons b .nil)) δ st = .nx δ' st') : ∃ δ1 st1, exec G C a δ st = .nx δ1 st1 ∧ exec G C b δ1 st1 = .nx δ' st' := by
  simp only [execs] at h
  cases ea : exec G C a δ st with
  | nx δ1 st1 =>
    rw [ea] at h
    refine ⟨δ1, st1, rfl, ?_⟩
    simp only [O.seq] at h
    cases eb : exec G C b δ1 st1 with
    | nx δ2 st2 => rw [eb] at h; exact h
    | _ => rw [eb] at h; cases h
  | _ => rw [ea] at h; cases h
theorem asc_snoc {L : List En} {e : En} (aL : Asc L) (h : ∀ x ∈ L, x.1 < e.1) : Asc (L ++ [e]) := by
  unfold Asc
  rw [List.pairwise_append]
  exact ⟨aL, List.pairwise_singleton _ _, fun x hx y hy => by rw [List.mem_singleton.mp hy]; exact h x hx⟩
theorem ior_last {l : Nat} {L : List En} {e : En} {st : Sto} (h : st[l]? = some (logM L)) (aL : Asc L) (kL : ∀ x ∈ L, OkE x) (lt : ∀ x ∈ L, x.1 < e.1) (he : OkE e) : f_Log___ior__ [.loc l, .lst [trD e]] st = .ok (.loc l, st.set l (logM (L ++ [e]))) := by
  have a2 := asc_snoc aL lt
  have k2 : ∀ x ∈ L ++ [e], OkE x := fun x hx => by
    rcases List.mem_append.mp hx with q | q
    · exact kL x q
    · rw [List.mem_singleton.mp q]; exact he
  have := ior_ok (ys := [e]) h (.inl rfl) k2 (cls_none (asc_agree a2)) (by have := asc_len a2 k2; omega)
  rw [ord_asc a2 k2] at this
  exact this
theorem pure_law : ∀ ns : List Int, ns.length ≤ 63 → ∃ st', f_law [.scr (ns.map .int)] [] = .ok (.bl true, st') := by
  intro ns hn
  have cell : ∀ (k : Int) (hk : 0 ≤ k), ∃ a, ∀ st, f_law_cell [.scr (ns.map .int), .int k] st = .ok (.int a, st) := fun k hk => ⟨ns.getD k.toNat 0, fun st => by
    have := cell_scr ns k.toNat st
    rw [Int.toNat_of_nonneg hk] at this
    exact this⟩
  obtain ⟨a0, c0⟩ := cell 0 (by decide)
  obtain ⟨a1, c1⟩ := cell 1 (by decide)
  obtain ⟨a2, c2⟩ := cell 2 (by decide)
  obtain ⟨a3, c3⟩ := cell 3 (by decide)
  obtain ⟨a4, c4⟩ := cell 4 (by decide)
  obtain ⟨a5, c5⟩ := cell 5 (by decide)
  obtain ⟨a6, c6⟩ := cell 6 (by decide)
  obtain ⟨m, em⟩ : ∃ m : Nat, a0 % 99 = m := ⟨(a0 % 99).toNat, by omega⟩
  obtain ⟨W, ew, lW, aW, kW, uW⟩ := world_ok a1 m [] (by omega)
  obtain ⟨X, e1, sX⟩ := part_ok a2 W [] (by omega)
  have aX := aW.sub sX
  have kX : ∀ e ∈ X, OkE e := fun e he => kW e (sX.subset he)
  have lX := sX.length_le
  have oX := ord_asc aX kX
  have pX : ∀ e ∈ X, e.1 ≤ m := fun e he => uW e (sX.subset he)
  obtain ⟨W2, lW2, aW2, kW2, uW2, ei1⟩ : ∃ W2 : List En, W2.length = m ∧ Asc W2 ∧ (∀ e ∈ W2, OkE e) ∧ (∀ e ∈ W2, e.1 ≤ m) ∧ exec g_law C i_law_1 [.val (.scr (ns.map .int)), .val (.lst (W.map trD)), .val (.lst (X.map trD)), .val (.lst (W.map trD)), .un, .un, .un, .un, .un, .un, .un, .un, .un] []
      = .nx [.val (.scr (ns.map .int)), .val (.lst (W.map trD)), .val (.lst (X.map trD)), .val (.lst (W2.map trD)), .un, .un, .un, .un, .un, .un, .un, .un, .un] [] := by
    by_cases c : a4 / 3 % 4 = 1
    · obtain ⟨W2, ew2, lW2, aW2, kW2, uW2⟩ := world_ok a6 m [] (by omega)
      have lWi : (W.length : Int) = m := by omega
      exact ⟨W2, lW2, aW2, kW2, uW2, by simp -dsimp [i_law_1, c4, c6, c, lWi, ew2]⟩
    · exact ⟨W, lW, aW, kW, uW, by simp -dsimp [i_law_1, c4, c]⟩
  obtain ⟨Y, e2, sY⟩ := part_ok a3 W2 [] (by omega)
  have aY := aW2.sub sY
  have kY : ∀ e ∈ Y, OkE e := fun e he => kW2 e (sY.subset he)
  have lY := sY.length_le
  have pY : ∀ e ∈ Y, e.1 ≤ m := fun e he => uW2 e (sY.subset he)
  obtain ⟨ds, ed, hd⟩ := digits a5 [4, 99, 98, 98, 99, 4, 7, 99] [] (by decide) (by decide)
  obtain ⟨d0, d1, d2, d3, d4, d5, d6, d7, rfl⟩ : ∃ d0 d1 d2 d3 d4 d5 d6 d7, ds = [d0, d1, d2, d3, d4, d5, d6, d7] := by
    have := hd.1
    match ds, this with
    | [d0, d1, d2, d3, d4, d5, d6, d7], _ => exact ⟨d0, d1, d2, d3, d4, d5, d6, d7, rfl⟩
  have h6 := hd.2 6 d6 7 rfl rfl
  simp only [List.map_cons, List.map_nil] at ed
  obtain ⟨f, ef, hf⟩ : ∃ f : Int, a4 % 3 = f ∧ (f = 0 ∨ f = 1 ∨ f = 2) := ⟨_, rfl, by omega⟩
  obtain ⟨T, R, lR, hR, e3⟩ := spoiled_row_ok (P := fun z => z ≤ (m : Int)) (X := X) (Y := Y) (form := f) (d0 := d0) (d1 := d1) (d2 := d2) (d3 := d3) (d4 := d4) (d5 := d5) (d6 := d6) (d7 := d7) pX pY kX kY (asc_agree aY) (by omega) (by omega) h6
  obtain ⟨S, N, eS, hat⟩ : ∃ (S : Sto) (N : Nat), R.length ≤ 250 ∧ (f_law_spoiled_row [.lst (Y.map trD), .lst (X.map trD), .lst [.int d0, .int d1, .int d2, .int d3, .int d4, .int d5, .int d6, .int d7], .int f] [] = .ok (.loc N, S) ∧ ∀ B : Sto, (S ++ B)[N]? = some (.lst (R.map trD))) := ⟨T ++ [.lst (R.map trD)], T.length, lR, e3, fun B => by
    rw [List.append_assoc, List.getElem?_append_right (Nat.le_refl _), Nat.sub_self]; rfl⟩
  obtain ⟨e3, hat⟩ := hat
  have at0 : ∀ B : Sto, lstAt (S ++ B) N = some (R.map trD) := fun B => by unfold lstAt; rw [hat B]
  have at1 : lstAt S N = some (R.map trD) := by have := at0 []; rwa [List.append_nil] at this
  have so : ∀ B : Sto, seqOf (S ++ B) (.d (.loc N)) = some (R.map trD) := fun B => so_loc (at0 B)
  have so1 : seqOf S (.d (.loc N)) = some (R.map trD) := so_loc at1
  have dl1 : datL S (.loc N) = some (R.map trD) := by rw [dl_loc]; exact at1
  have lXR : X.length + R.length ≤ 1000000 := by omega
  obtain ⟨u, hu, eu⟩ := merged_ok (X ++ R) (.lst ((X ++ R).map trD)) none S rfl gdOk_none (by rw [List.length_append]; omega)
  rw [List.map_append] at eu
  obtain ⟨u2, hu2, eu2⟩ := merged_ok R (.loc N) (some (N, R.map trD)) S (dS_at at1) (gdOk_at at1) (by omega)
  obtain ⟨z2, v2, ez2⟩ : ∃ z2 v2, u2.dd = .tup [.str z2, v2] := by cases u2 <;> exact ⟨_, _, rfl⟩
  have nL := log_okL X (.lst (X.map trD)) none S rfl gdOk_none kX (cls_none (asc_agree aX)) (by omega)
  rw [oX] at nL
  obtain ⟨B, d10, R', en, hu', lR', ei23, hB⟩ : ∃ (B : Sto) (d10 : D) (R' : List En), (∀ V, EntAt (S ++ logM V :: B) d10 R') ∧ DueOk (X ++ R') u ∧ R'.length ≤ 300 ∧ (∀ (v7 v8 : Sl), execs g_law C (.cons i_law_2 (.cons i_law_3 .nil)) [.val (.scr (ns.map .int)), .val (.lst (W.map trD)), .val (.lst (X.map trD)), .val (.lst (W2.map trD)), .val (.lst (Y.map trD)), .val (.int f), .val (.loc N), v7, v8, .val (.loc S.length), .val (.lst (R.map trD)), .un, .un] (S ++ [logM X])
      = .nx [.val (.scr (ns.map .int)), .val (.lst (W.map trD)), .val (.lst (X.map trD)), .val (.lst (W2.map trD)), .val (.lst (Y.map trD)), .val (.int f), .val (.loc N), v7, v8, .val (.loc S.length), .val d10, .un, .un] (S ++ logM X :: B)) ∧
      ((f = 0 ∧ B = [logM (ordL R)] ∧ d10 = .loc (S.length + 1) ∧ (∀ e ∈ R, OkE e) ∧ Agree R ∧ ∀ e ∈ R, e.1 ≤ (m : Int)) ∨ (0 < f ∧ (d10 = .lst (R.map trD) ∨ d10 = .tup (R.map trD)))) := by
    have bl : bltV (S ++ [logM X]) .list [.d (.loc N)] = some (.lst (R.map trD)) := by simp only [bltV, so]
    have bt : bltV (S ++ [logM X]) .tuple [.d (.loc N)] = some (.tup (R.map trD)) := by simp only [bltV, so]
    have l1 : (R.length : Int) ≤ 1000000 := by omega
    have l2 : R.length ≤ 1000000 := by omega
    rcases hf with rfl | rfl | rfl
    · obtain ⟨kR, aR, pR⟩ := hR (Int.le_refl _)
      have n2 := log_okL R (.lst (R.map trD)) none (S ++ [logM X]) rfl gdOk_none kR (cls_none aR) (by omega)
      rw [List.length_append, List.append_assoc] at n2
      simp only [List.length_singleton, List.singleton_append] at n2
      refine ⟨[logM (ordL R)], .loc (S.length + 1), ordL R, fun V => .inr (.inr (.inl ⟨S.length + 1, rfl, ?_⟩)), due_same aR ord_agree kX kR (fun e => (mem_ord_agree kR aR).symm) hu, by have := ord_len R; omega, fun v7 v8 => ?_, .inl ⟨rfl, rfl, rfl, kR, aR, pR⟩⟩
      · rw [List.getElem?_append_right (by omega), show S.length + 1 - S.length = 1 by omega]; rfl
      · simp -dsimp [i_law_2, i_law_3, bl, n2, limN, l1, l2]
    · exact ⟨[], .lst (R.map trD), R, fun V => .inl rfl, hu, by omega, fun v7 v8 => by simp -dsimp [i_law_2, i_law_3], .inr ⟨by decide, .inl rfl⟩⟩
    · exact ⟨[], .tup (R.map trD), R, fun V => .inr (.inl rfl), hu, by omega, fun v7 v8 => by simp -dsimp [i_law_2, i_law_3, bt, limN, l1, l2], .inr ⟨by decide, .inr rfl⟩⟩
  have ge : ∀ V, (S ++ logM V :: B)[S.length]? = some (logM V) := fun V => by rw [List.getElem?_append_right (Nat.le_refl _), Nat.sub_self]; rfl
  have gs : ∀ (V : List En) (x : M), (S ++ logM V :: B).set S.length x = S ++ x :: B := fun V x => by rw [List.set_append_right _ _ (Nat.le_refl _), Nat.sub_self]; rfl
  have lXR' : (X ++ R').length < 900000 := by rw [List.length_append]; omega
  have ad := adding_ok (ge X) (en X) kX hu' lXR'
  obtain ⟨L, v11, hL1, hL2, hL3, eu7⟩ : ∃ (L : List En) (v11 : Sl), Asc L ∧ (∀ e ∈ L, OkE e) ∧ ((∀ e ∈ R, e.1 ≤ (m : Int)) → ∀ e ∈ L, e.1 ≤ (m : Int)) ∧
      execs g_law C (.cons i_law_4 (.cons i_law_7 .nil)) [.val (.scr (ns.map .int)), .val (.lst (W.map trD)), .val (.lst (X.map trD)), .val (.lst (W2.map trD)), .val (.lst (Y.map trD)), .val (.int f), .val (.loc N), .val u.dd, .val v2, .val (.loc S.length), .val d10, .un, .un] (S ++ logM X :: B)
      = .nx [.val (.scr (ns.map .int)), .val (.lst (W.map trD)), .val (.lst (X.map trD)), .val (.lst (W2.map trD)), .val (.lst (Y.map trD)), .val (.int f), .val (.loc N), .val (Due.log L).dd, .val v2, .val (.loc S.length), .val d10, v11, .un] (S ++ logM L :: B) := by
    obtain ⟨G, eG⟩ : ∃ G, G = R.filter (fun e => decide (e ∈ W)) := ⟨_, rfl⟩
    have mG : ∀ e ∈ G, e ∈ R ∧ e ∈ W := fun e he => by
      rw [eG] at he
      obtain ⟨h1, h2⟩ := List.mem_filter.mp he
      exact ⟨h1, of_decide_eq_true h2⟩
    have lG : G.length ≤ 300 := by rw [eG]; have := List.length_filter_le (fun e => decide (e ∈ W)) R; omega
    have ec : ∀ v7 v10 : Sl, evalE g_law C (.comp e_law_1 (.n 12) (.seq (.v 6)) (.cons (.cmp .in_ (.v 12) (.v 1)) .nil) [12]) [.val (.scr (ns.map .int)), .val (.lst (W.map trD)), .val (.lst (X.map trD)), .val (.lst (W2.map trD)), .val (.lst (Y.map trD)), .val (.int f), .val (.loc N), v7, .val v2, .val (.loc S.length), v10, .un, .un] (S ++ logM X :: B) = .ok (.lst (G.map trD), S ++ logM X :: B) := fun v7 v10 => by
      rw [eG]
      refine comp_ifG (inj := trD) (gd := some (N, R.map trD)) (by simp -dsimp [dS_at (at0 _)]) (gdOk_at (at0 _)) (by unfold Lim; omega) fun e _ => ?_
      rw [comp_c]
      have hin : ∀ st, cmpP .in_ st (.d (trD e)) (.d (.lst (W.map trD))) = some (decide (e ∈ W)) := fun st => (fm_trD.mono (by decide)).in_ (x := e) rfl
      obtain ⟨te, ete⟩ : ∃ te, te = trD e := ⟨_, rfl⟩
      rw [← ete] at hin ⊢
      by_cases c : e ∈ W
      · rw [decide_eq_true c] at hin ⊢
        simp -dsimp [e_law_1, hin]
      · rw [decide_eq_false c] at hin ⊢
        simp -dsimp [e_law_1, hin]
    have kG : ∀ e ∈ X ++ G, OkE e := fun e he => (List.mem_append.mp he).elim (kX e) fun q => kW e (mG e q).2
    have gG : Agree (X ++ G) := (asc_agree aW).sub fun e he => (List.mem_append.mp he).elim (fun q => sX.subset q) fun q => (mG e q).2
    have hu3 : DueOk (X ++ G) (.log (ordL (X ++ G))) := ⟨kG, cls_none gG, rfl⟩
    obtain ⟨u3, hu3', eu3⟩ := merged_ok (X ++ G) (.lst ((X ++ G).map trD)) none (S ++ logM X :: B) rfl gdOk_none (by rw [List.length_append]; omega)
    have eu33 : u3 = .log (ordL (X ++ G)) := by
      cases u3 with
      | entry e =>
        obtain ⟨zs, ws, h1, _, h3⟩ := hu3'
        exact absurd (kG e (by rw [h1]; simp)) h3
      | stamp k => have := hu3'.2; rw [cls_none gG] at this; cases this
      | log L => rw [hu3'.2.2]
    rw [eu33, List.map_append] at eu3
    have ad3 := adding_ok (d := .lst (G.map trD)) (ge X) (.inl rfl) kX hu3 (by rw [List.length_append]; omega)
    have lo3 : (ordL (X ++ G)).length ≤ 99 := ord_len _
    have as3 := as_due_ok (l := S.length) (u := .log (ordL (X ++ G))) (st := S ++ logM (ordL (X ++ G)) :: B) (fun L e => by cases e; exact ⟨ge _, by omega⟩)
    have lXG : X.length + (G.map trD).length ≤ 1000000 := by rw [List.length_map]; omega
    have sl := same_logL (ge X) (by omega)
    have fin3 : Asc (ordL (X ++ G)) ∧ (∀ e ∈ ordL (X ++ G), OkE e) ∧ ((∀ e ∈ R, e.1 ≤ (m : Int)) → ∀ e ∈ ordL (X ++ G), e.1 ≤ (m : Int)) := ⟨asc_ord _, ord_ok kG, fun h e he => (List.mem_append.mp (ord_sub he)).elim (pX e) fun q => h e (mG e q).1⟩
    simp only [Due.told, Due.sto, gs] at ad3 as3
    generalize ordL (X ++ G) = L3 at *
    cases u with
    | entry e =>
      have as1 := as_due_ok (l := S.length) (u := .entry e) (st := S ++ logM X :: B) (fun L e => by cases e)
      refine ⟨L3, .val (.lst (G.map trD)), fin3.1, fin3.2.1, fin3.2.2, ?_⟩
      simp only [Due.told, Due.dd, Due.sto] at ad as1 as3 eu3 ⊢
      generalize trD e = te at *
      generalize G.map trD = GG at *
      generalize L3.map trD = LL at *
      simp -dsimp [i_law_4, i_law_7, i_law_5, i_law_6, ad, as1, ne_el, sl, ec, limN, lXG, eu3, ad3, as3]
    | stamp k =>
      have as1 := as_due_ok (l := S.length) (u := .stamp k) (st := S ++ logM X :: B) (fun L e => by cases e)
      refine ⟨L3, .val (.lst (G.map trD)), fin3.1, fin3.2.1, fin3.2.2, ?_⟩
      simp only [Due.told, Due.dd, Due.sto] at ad as1 as3 eu3 ⊢
      generalize G.map trD = GG at *
      generalize L3.map trD = LL at *
      simp -dsimp [i_law_4, i_law_7, i_law_5, i_law_6, ad, as1, ne_sl, sl, ec, limN, lXG, eu3, ad3, as3]
    | log L =>
      have lL : L.length ≤ 99 := by rw [hu.2.2]; exact ord_len _
      have as1 := as_due_ok (l := S.length) (u := .log L) (st := S ++ logM L :: B) (fun L e => by cases e; exact ⟨ge _, by omega⟩)
      refine ⟨L, .un, by rw [hu.2.2]; exact asc_ord _, by rw [hu.2.2]; exact ord_ok hu.1, fun h e he => ?_, ?_⟩
      · rw [hu.2.2] at he
        exact (List.mem_append.mp (ord_sub he)).elim (pX e) (h e)
      · simp only [Due.told, Due.dd, Due.sto, gs] at ad as1 ⊢
        generalize L.map trD = LL at *
        simp -dsimp [i_law_4, i_law_7, ad, as1, ne_l]
  have lL : L.length ≤ 99 := asc_len hL1 hL2
  have sl1 := same_logL (ge L) (by omega)
  have l1 : (X.length : Int) ≤ 1000000 := by omega
  have l2 : X.length ≤ 1000000 := by omega
  have l3 : (R.length : Int) ≤ 1000000 := by omega
  have l4 : R.length ≤ 1000000 := by omega
  have bl0 : bltV (S ++ [logM X]) .list [.d (.loc N)] = some (.lst (R.map trD)) := by simp only [bltV, so]
  obtain ⟨δ1, st1, ei2, ei3⟩ := execs_two (ei23 (.val u.dd) (.val v2))
  obtain ⟨δ2, st2, ei4, ei7⟩ := execs_two eu7
  have edd : (Due.log L).dd = .tup [.str "log", .lst (L.map trD)] := rfl
  rw [edd] at ei7
  rcases hB with ⟨rfl, rfl, rfl, kR, aR, pR⟩ | ⟨hf0, hd10⟩
  · have ev2 : v2 = .lst ((ordL R).map trD) := by
      cases u2 with
      | entry e =>
        obtain ⟨zs, ws, h1, _, h3⟩ := hu2
        exact absurd (kR e (by rw [h1]; simp)) h3
      | stamp k => have := hu2.2; rw [cls_none aR] at this; cases this
      | log L2 =>
        rw [hu2.2.2] at ez2
        simp only [Due.dd, D.tup.injEq, List.cons.injEq, and_true] at ez2
        exact ez2.2.symm
    subst ev2
    have aO := asc_ord R
    have kO := ord_ok kR
    have lO := ord_len R
    have pO : ∀ e ∈ ordL R, e.1 ≤ (m : Int) := fun e he => pR e (ord_sub he)
    have pL := hL3 pR
    generalize ordL R = O at *
    have g1 : ∀ V, (S ++ [logM V, logM O])[S.length + 1]? = some (logM O) := fun V => by rw [List.getElem?_append_right (by omega), show S.length + 1 - S.length = 1 by omega]; rfl
    have g2 : ∀ V O', (S ++ [logM V, logM O'])[S.length + 1]? = some (logM O') := fun V O' => by rw [List.getElem?_append_right (by omega), show S.length + 1 - S.length = 1 by omega]; rfl
    have g0 : ∀ V O', (S ++ [logM V, logM O'])[S.length]? = some (logM V) := fun V O' => by rw [List.getElem?_append_right (Nat.le_refl _), Nat.sub_self]; rfl
    have s1 : ∀ V O' x, (S ++ [logM V, logM O']).set (S.length + 1) x = S ++ [logM V, x] := fun V O' x => by rw [List.set_append_right _ _ (by omega), show S.length + 1 - S.length = 1 by omega]; rfl
    have s0 : ∀ V O' x, (S ++ [logM V, logM O']).set S.length x = S ++ [x, logM O'] := fun V O' x => by rw [List.set_append_right _ _ (Nat.le_refl _), Nat.sub_self]; rfl
    have sm : ∀ V, f_law_same_log [.loc (S.length + 1), .lst (O.map trD)] (S ++ [logM V, logM O]) = _ := fun V => same_logL (g1 V) (by omega)
    have lt1 : ∀ x ∈ L, x.1 < 99 := fun x hx => by have := pL x hx; omega
    have lt2 : ∀ x ∈ O, x.1 < 99 := fun x hx => by have := pO x hx; omega
    have ok1 : OkE (99, 1, 2) := by refine ⟨⟨?_, ?_⟩, ⟨?_, ?_⟩, ?_, ?_⟩ <;> decide
    have ok2 : OkE (99, 2, 1) := by refine ⟨⟨?_, ?_⟩, ⟨?_, ?_⟩, ?_, ?_⟩ <;> decide
    have j1 := ior_last (e := (99, 1, 2)) (g0 L O) hL1 hL2 lt1 ok1
    have j2 := ior_last (e := (99, 2, 1)) (g2 (L ++ [(99, 1, 2)]) O) aO kO lt2 ok2
    rw [s0] at j1
    rw [s1] at j2
    have m1 := same_logL (g0 (L ++ [(99, 1, 2)]) O) (by rw [List.length_append, List.length_singleton]; omega)
    have m2 := same_logL (g0 (L ++ [(99, 1, 2)]) (O ++ [(99, 2, 1)])) (by rw [List.length_append, List.length_singleton]; omega)
    have m3 := same_logL (g2 (L ++ [(99, 1, 2)]) (O ++ [(99, 2, 1)])) (by rw [List.length_append, List.length_singleton]; omega)
    have t1 : trD (99, 1, 2) = .tup [.int 99, .int 1, .int 2] := rfl
    have t2 : trD (99, 2, 1) = .tup [.int 99, .int 2, .int 1] := rfl
    rw [List.map_append, List.map_singleton, t1] at m1 m2
    rw [List.map_append, List.map_singleton, t2] at m3
    rw [t1] at j1
    rw [t2] at j2
    have x1 := sm L
    have x2 := sm (L ++ [(99, 1, 2)])
    have hi1 := insOf_at (g0 L O)
    have hi2 := insOf_at (g2 (L ++ [(99, 1, 2)]) O)
    have ll1 : (L.map trD).length + 1 ≤ 1000000 := by rw [List.length_map]; omega
    have ll2 : (O.map trD).length + 1 ≤ 1000000 := by rw [List.length_map]; omega
    generalize logM (L ++ [(99, 1, 2)]) = ML at *
    generalize logM (O ++ [(99, 2, 1)]) = MO at *
    generalize logM L = ML0 at *
    generalize logM O = MO0 at *
    generalize L.map trD = LL at *
    generalize O.map trD = OO at *
    refine ⟨S ++ [ML, MO], ?_⟩
    simp -dsimp [f_law, b_law, c0, c1, c2, c3, c4, c5, em, ew, e1, ei1, e2, ed, ef, e3, dl1, limN, lXR, eu, eu2, ez2, l1, l2, l3, l4, nL, bl0, ei2, ei3, ei4, ei7, i_law_8, i_law_9, i_law_10, i_law_11, sl1, x1, hi1, j1, x2, ll1, m1, hi2, j2, m2, ll2, m3]
  · have hne : cmpP .ne (S ++ logM L :: B) (.d (.lst (R.map trD))) (.d (.loc N)) = some false := by
      have := ((fm_lst fm_trD).mono (show 2 ≤ 9 by decide)).ne (st := S ++ logM L :: B) (p := .d (.lst (R.map trD))) (q := .d (.loc N)) (x := R) (y := R) rfl (by simp only [datOf, hat])
      simpa using this
    refine ⟨S ++ logM L :: B, ?_⟩
    generalize L.map trD = LL at *
    rcases hd10 with rfl | rfl <;> simp -dsimp [f_law, b_law, c0, c1, c2, c3, c4, c5, em, ew, e1, ei1, e2, ed, ef, e3, dl1, limN, lXR, eu, eu2, ez2, l1, l2, l3, l4, nL, bl0, ei2, ei3, ei4, ei7, i_law_8, i_law_9, sl1, hf0, hne]

end Qk.K50
namespace Qk.K50
open PySem L2 PyProof.Rows


def tx (aLog aInvalidEntry aStampConflict : Addr) : Txc := { cl := fun c => match c with | .Log => aLog | .InvalidEntry => aInvalidEntry | .StampConflict => aStampConflict | _ => 0, flds := fldsOf }
set_option maxHeartbeats 4000000 in
theorem all_mk {l : PySem.W.OpenLaw} {w : PySem.World} {K : PySem.W.Frag} {h : Heap} {mg : Str → Option Value} {fa aLog aInvalidEntry aStampConflict a0 a1 a2 a3 a4 a5 a6 a7 a8 a9 a10 a11 a12 a13 a14 a15 a16 a17 a18 bLog dInvalidEntry dStampConflict : Addr} (X : K.In h) (G : h.Ns mainGlobals mg) (hfa : mg "law" = some (.ref fa))
    {od0 an0 od1 an1 od2 an2 od3 an3 od4 an4 od5 an5 od6 an6 od7 an7 od8 an8 od9 an9 od10 an10 od11 an11 od12 an12 od13 an13 od14 an14 od15 an15 od16 an16 od17 an17 od18 an18 odXInvalidEntry anXInvalidEntry odXStampConflict anXStampConflict odILog anILog : Option Addr} {sl0 sl1 sl2 sl3 sl4 sl5 sl6 sl7 sl8 sl9 sl10 sl11 sl12 sl13 sl14 sl15 sl16 sl17 sl18 slXInvalidEntry slXStampConflict slILog : Array (Option Value)} {oc0 kV0 dc0 pm0 cd0 ct0 oc1 kV1 dc1 pm1 cd1 ct1 oc2 kV2 dc2 pm2 cd2 ct2 oc3 kV3 dc3 pm3 cd3 ct3 oc4 kV4 dc4 pm4 cd4 ct4 oc5 kV5 dc5 pm5 cd5 ct5 oc6 kV6 dc6 pm6 cd6 ct6 oc7 kV7 dc7 pm7 cd7 ct7 oc8 kV8 dc8 pm8 cd8 ct8 oc9 kV9 dc9 pm9 cd9 ct9 oc10 kV10 dc10 pm10 cd10 ct10 oc11 kV11 dc11 pm11 cd11 ct11 oc12 kV12 dc12 pm12 cd12 ct12 oc13 kV13 dc13 pm13 cd13 ct13 oc14 kV14 dc14 pm14 cd14 ct14 oc15 kV15 dc15 pm15 cd15 ct15 oc16 kV16 dc16 pm16 cd16 ct16 oc17 kV17 dc17 pm17 cd17 ct17 oc18 kV18 dc18 pm18 cd18 ct18 ocXInvalidEntry kVXInvalidEntry dcXInvalidEntry pmXInvalidEntry cdXInvalidEntry ctXInvalidEntry ocXStampConflict kVXStampConflict dcXStampConflict pmXStampConflict cdXStampConflict ctXStampConflict ocILog kVILog dcILog pmILog cdILog ctILog : Value} {t0 t1 t2 : Tok} {nmXInvalidEntry qnXInvalidEntry nmXStampConflict qnXStampConflict : Str} {nnXInvalidEntry nnXStampConflict : Addr} {bsXInvalidEntry bmXInvalidEntry sbXInvalidEntry bsXStampConflict bmXStampConflict sbXStampConflict : List Value} {snXInvalidEntry snXStampConflict : List Str} {abXInvalidEntry abXStampConflict : Bool} {clXInvalidEntry clXStampConflict : Option Bool} {ddXInvalidEntry ddXStampConflict : Option Addr} {k0XInvalidEntry k1XInvalidEntry k2XInvalidEntry k3XInvalidEntry k5XInvalidEntry k0XStampConflict k1XStampConflict k2XStampConflict k3XStampConflict k5XStampConflict : Option Value}
    (nCLog : PySem.W.nsIn K mainGlobals "Log" = some (some (.ref aLog)))
    (kCLog : PySem.W.keepIn K (.ref aLog) = true)
    (nCInvalidEntry : PySem.W.nsIn K mainGlobals "InvalidEntry" = some (some (.ref aInvalidEntry)))
    (kCInvalidEntry : PySem.W.keepIn K (.ref aInvalidEntry) = true)
    (nCStampConflict : PySem.W.nsIn K mainGlobals "StampConflict" = some (some (.ref aStampConflict)))
    (kCStampConflict : PySem.W.keepIn K (.ref aStampConflict) = true)
    (pgLog : PySem.W.plainGet K aLog Str.empty = true)
    (hdLog : PySem.W.hasDictIn K aLog = true)
    (poLog : PySem.W.plainOver K aLog = true)
    (saLog : PySem.W.findIn K (.ref aLog) "__setattr__" = some (some (.builtin "object.__setattr__")))
    (noLog_entries : PySem.W.findIn K (.ref aLog) "entries" = some none)
    (gHn : PySem.W.specialIn K (.builtin "object.__class__") "__get__" = some (some (.builtin "getset_descriptor.__get__")))
    (gHt : PySem.W.takesIn K (.builtin "object.__class__") = some true)
    (haLog : PySem.W.findIn K (.ref aLog) "__class__" = some (some (.builtin "object.__class__")))
    (hmLog : PySem.W.mroIn K aLog (.type "object") = some true)
    (tyLog : PySem.W.typeIn K (.ref aLog) = some (.type "type"))
    (stLog_int : PySem.W.subIn K (.ref aLog) (.type "int") = some false)
    (stLog_bool : PySem.W.subIn K (.ref aLog) (.type "bool") = some false)
    (stLog_str : PySem.W.subIn K (.ref aLog) (.type "str") = some false)
    (stLog_list : PySem.W.subIn K (.ref aLog) (.type "list") = some false)
    (stLog_tuple : PySem.W.subIn K (.ref aLog) (.type "tuple") = some false)
    (xbInvalidEntry : PySem.W.subIn K (.ref aInvalidEntry) (.type "BaseException") = some true)
    (xtInvalidEntry : PySem.W.typeIn K (.ref aInvalidEntry) = some (.type "type"))
    (xbStampConflict : PySem.W.subIn K (.ref aStampConflict) (.type "BaseException") = some true)
    (xtStampConflict : PySem.W.typeIn K (.ref aStampConflict) = some (.type "type"))
    (xnInvalidEntry_entry : PySem.W.findIn K (.ref aInvalidEntry) "entry" = some none)
    (xnStampConflict_stamp : PySem.W.findIn K (.ref aStampConflict) "stamp" = some none)
    (xaInvalidEntry : PySem.W.findIn K (.ref aInvalidEntry) "__getattribute__" = some (some (.builtin "BaseException.__getattribute__")))
    (xkInvalidEntry : PySem.W.findIn K (.ref aInvalidEntry) "__getattr__" = some none)
    (xdInvalidEntry : PySem.W.hasDictIn K aInvalidEntry = true)
    (xhInvalidEntry : PySem.W.findIn K (.ref aInvalidEntry) "__class__" = some (some (.builtin "object.__class__")))
    (xmInvalidEntry : PySem.W.mroIn K aInvalidEntry (.type "object") = some true)
    (xvInvalidEntry : PySem.W.subIn K (.ref aInvalidEntry) (.type "ValueError") = some true)
    (xpInvalidEntry_InvalidEntry : PySem.W.subIn K (.ref aInvalidEntry) (.ref aInvalidEntry) = some true)
    (xpInvalidEntry_StampConflict : PySem.W.subIn K (.ref aInvalidEntry) (.ref aStampConflict) = some false)
    (xaStampConflict : PySem.W.findIn K (.ref aStampConflict) "__getattribute__" = some (some (.builtin "BaseException.__getattribute__")))
    (xkStampConflict : PySem.W.findIn K (.ref aStampConflict) "__getattr__" = some none)
    (xdStampConflict : PySem.W.hasDictIn K aStampConflict = true)
    (xhStampConflict : PySem.W.findIn K (.ref aStampConflict) "__class__" = some (some (.builtin "object.__class__")))
    (xmStampConflict : PySem.W.mroIn K aStampConflict (.type "object") = some true)
    (xvStampConflict : PySem.W.subIn K (.ref aStampConflict) (.type "ValueError") = some true)
    (xpStampConflict_InvalidEntry : PySem.W.subIn K (.ref aStampConflict) (.ref aInvalidEntry) = some false)
    (xpStampConflict_StampConflict : PySem.W.subIn K (.ref aStampConflict) (.ref aStampConflict) = some true)
    (mFXInvalidEntry : PySem.W.findIn K (.ref aInvalidEntry) "__init__" = some (some (.ref dInvalidEntry)))
    (yFXInvalidEntry : PySem.W.typeIn K (.ref dInvalidEntry) = some (.type "function"))
    (sFXInvalidEntry : PySem.W.findIn K (.ref aInvalidEntry) "__setattr__" = some (some (.builtin "object.__setattr__")))
    (mFXStampConflict : PySem.W.findIn K (.ref aStampConflict) "__init__" = some (some (.ref dStampConflict)))
    (yFXStampConflict : PySem.W.typeIn K (.ref dStampConflict) = some (.type "function"))
    (sFXStampConflict : PySem.W.findIn K (.ref aStampConflict) "__setattr__" = some (some (.builtin "object.__setattr__")))
    (nF0 : PySem.W.nsIn K mainGlobals "_law_digits" = some (some (.ref a0)))
    (lF0 : K.lookup a0 = some ⟨oc0, od0, .func (PySem.W.fnOf "_law_digits" "_law_digits" (defArgs s_law_digits) (defBody s_law_digits) (defScope s_law_digits) .none kV0 dc0 pm0 an0 cd0 ct0), sl0⟩)
    (cF0 : PySem.W.codeIn K cd0 "_law_digits" = true)
    (kF0 : PySem.W.keepIn K (.ref a0) = true)
    (nF1 : PySem.W.nsIn K mainGlobals "_law_world" = some (some (.ref a1)))
    (lF1 : K.lookup a1 = some ⟨oc1, od1, .func (PySem.W.fnOf "_law_world" "_law_world" (defArgs s_law_world) (defBody s_law_world) (defScope s_law_world) .none kV1 dc1 pm1 an1 cd1 ct1), sl1⟩)
    (cF1 : PySem.W.codeIn K cd1 "_law_world" = true)
    (kF1 : PySem.W.keepIn K (.ref a1) = true)
    (nF2 : PySem.W.nsIn K mainGlobals "_law_cell" = some (some (.ref a2)))
    (lF2 : K.lookup a2 = some ⟨oc2, od2, .func (PySem.W.fnOf "_law_cell" "_law_cell" (defArgs s_law_cell) (defBody s_law_cell) (defScope s_law_cell) .none kV2 dc2 pm2 an2 cd2 ct2), sl2⟩)
    (cF2 : PySem.W.codeIn K cd2 "_law_cell" = true)
    (kF2 : PySem.W.keepIn K (.ref a2) = true)
    (nF3 : PySem.W.nsIn K mainGlobals "_law_part" = some (some (.ref a3)))
    (lF3 : K.lookup a3 = some ⟨oc3, od3, .func (PySem.W.fnOf "_law_part" "_law_part" (defArgs s_law_part) (defBody s_law_part) (defScope s_law_part) .none kV3 dc3 pm3 an3 cd3 ct3), sl3⟩)
    (cF3 : PySem.W.codeIn K cd3 "_law_part" = true)
    (kF3 : PySem.W.keepIn K (.ref a3) = true)
    (nF4 : PySem.W.nsIn K mainGlobals "_law_turned" = some (some (.ref a4)))
    (lF4 : K.lookup a4 = some ⟨oc4, od4, .func (PySem.W.fnOf "_law_turned" "_law_turned" (defArgs s_law_turned) (defBody s_law_turned) (defScope s_law_turned) .none kV4 dc4 pm4 an4 cd4 ct4), sl4⟩)
    (cF4 : PySem.W.codeIn K cd4 "_law_turned" = true)
    (kF4 : PySem.W.keepIn K (.ref a4) = true)
    (nF5 : PySem.W.nsIn K mainGlobals "_law_spoiled_row" = some (some (.ref a5)))
    (lF5 : K.lookup a5 = some ⟨oc5, od5, .func (PySem.W.fnOf "_law_spoiled_row" "_law_spoiled_row" (defArgs s_law_spoiled_row) (defBody s_law_spoiled_row) (defScope s_law_spoiled_row) .none kV5 dc5 pm5 an5 cd5 ct5), sl5⟩)
    (cF5 : PySem.W.codeIn K cd5 "_law_spoiled_row" = true)
    (kF5 : PySem.W.keepIn K (.ref a5) = true)
    (nF6 : PySem.W.nsIn K mainGlobals "_law_merged" = some (some (.ref a6)))
    (lF6 : K.lookup a6 = some ⟨oc6, od6, .func (PySem.W.fnOf "_law_merged" "_law_merged" (defArgs s_law_merged) (defBody s_law_merged) (defScope s_law_merged) .none kV6 dc6 pm6 an6 cd6 ct6), sl6⟩)
    (cF6 : PySem.W.codeIn K cd6 "_law_merged" = true)
    (kF6 : PySem.W.keepIn K (.ref a6) = true)
    (nF7 : PySem.W.nsIn K mainGlobals "is_entry" = some (some (.ref a7)))
    (lF7 : K.lookup a7 = some ⟨oc7, od7, .func (PySem.W.fnOf "is_entry" "is_entry" (defArgs s_is_entry) (defBody s_is_entry) (defScope s_is_entry) .none kV7 dc7 pm7 an7 cd7 ct7), sl7⟩)
    (cF7 : PySem.W.codeIn K cd7 "is_entry" = true)
    (kF7 : PySem.W.keepIn K (.ref a7) = true)
    (nF8 : PySem.W.nsIn K mainGlobals "ordered" = some (some (.ref a8)))
    (lF8 : K.lookup a8 = some ⟨oc8, od8, .func (PySem.W.fnOf "ordered" "ordered" (defArgs s_ordered) (defBody s_ordered) (defScope s_ordered) .none kV8 dc8 pm8 an8 cd8 ct8), sl8⟩)
    (cF8 : PySem.W.codeIn K cd8 "ordered" = true)
    (kF8 : PySem.W.keepIn K (.ref a8) = true)
    (mF9 : PySem.W.findIn K (.ref aLog) "__init__" = some (some (.ref a9)))
    (iF9 : PySem.W.isFn K (.ref a9) = true)
    (mkLog : PySem.W.makesIn K aLog = true)
    (lF9 : K.lookup a9 = some ⟨oc9, od9, .func (PySem.W.fnOf "__init__" "Log.__init__" (defArgs s_Log_init) (defBody s_Log_init) (defScope s_Log_init) .none kV9 dc9 pm9 an9 cd9 ct9), sl9⟩)
    (cF9 : PySem.W.codeIn K cd9 "Log.__init__" = true)
    (kF9 : PySem.W.keepIn K (.ref a9) = true)
    (nF10 : PySem.W.nsIn K mainGlobals "_law_is_number" = some (some (.ref a10)))
    (lF10 : K.lookup a10 = some ⟨oc10, od10, .func (PySem.W.fnOf "_law_is_number" "_law_is_number" (defArgs s_law_is_number) (defBody s_law_is_number) (defScope s_law_is_number) .none kV10 dc10 pm10 an10 cd10 ct10), sl10⟩)
    (cF10 : PySem.W.codeIn K cd10 "_law_is_number" = true)
    (kF10 : PySem.W.keepIn K (.ref a10) = true)
    (nF11 : PySem.W.nsIn K mainGlobals "_law_same_entries" = some (some (.ref a11)))
    (lF11 : K.lookup a11 = some ⟨oc11, od11, .func (PySem.W.fnOf "_law_same_entries" "_law_same_entries" (defArgs s_law_same_entries) (defBody s_law_same_entries) (defScope s_law_same_entries) .none kV11 dc11 pm11 an11 cd11 ct11), sl11⟩)
    (cF11 : PySem.W.codeIn K cd11 "_law_same_entries" = true)
    (kF11 : PySem.W.keepIn K (.ref a11) = true)
    (sfLog : PySem.W.selfFirst K aLog = true)
    (mF12 : PySem.W.findIn K (.ref aLog) "__len__" = some (some (.ref a12)))
    (iF12 : PySem.W.isFn K (.ref a12) = true)
    (lF12 : K.lookup a12 = some ⟨oc12, od12, .func (PySem.W.fnOf "__len__" "Log.__len__" (defArgs s_Log___len__) (defBody s_Log___len__) (defScope s_Log___len__) .none kV12 dc12 pm12 an12 cd12 ct12), sl12⟩)
    (cF12 : PySem.W.codeIn K cd12 "Log.__len__" = true)
    (kF12 : PySem.W.keepIn K (.ref a12) = true)
    (nF13 : PySem.W.nsIn K mainGlobals "_law_same_log" = some (some (.ref a13)))
    (lF13 : K.lookup a13 = some ⟨oc13, od13, .func (PySem.W.fnOf "_law_same_log" "_law_same_log" (defArgs s_law_same_log) (defBody s_law_same_log) (defScope s_law_same_log) .none kV13 dc13 pm13 an13 cd13 ct13), sl13⟩)
    (cF13 : PySem.W.codeIn K cd13 "_law_same_log" = true)
    (kF13 : PySem.W.keepIn K (.ref a13) = true)
    (nF14 : PySem.W.nsIn K mainGlobals "_law_as_due" = some (some (.ref a14)))
    (lF14 : K.lookup a14 = some ⟨oc14, od14, .func (PySem.W.fnOf "_law_as_due" "_law_as_due" (defArgs s_law_as_due) (defBody s_law_as_due) (defScope s_law_as_due) .none kV14 dc14 pm14 an14 cd14 ct14), sl14⟩)
    (cF14 : PySem.W.codeIn K cd14 "_law_as_due" = true)
    (kF14 : PySem.W.keepIn K (.ref a14) = true)
    (nF15 : PySem.W.nsIn K mainGlobals "entries_of" = some (some (.ref a15)))
    (lF15 : K.lookup a15 = some ⟨oc15, od15, .func (PySem.W.fnOf "entries_of" "entries_of" (defArgs s_entries_of) (defBody s_entries_of) (defScope s_entries_of) .none kV15 dc15 pm15 an15 cd15 ct15), sl15⟩)
    (cF15 : PySem.W.codeIn K cd15 "entries_of" = true)
    (kF15 : PySem.W.keepIn K (.ref a15) = true)
    (mF16 : PySem.W.findIn K (.ref aLog) "__ior__" = some (some (.ref a16)))
    (iF16 : PySem.W.isFn K (.ref a16) = true)
    (lF16 : K.lookup a16 = some ⟨oc16, od16, .func (PySem.W.fnOf "__ior__" "Log.__ior__" (defArgs s_Log___ior__) (defBody s_Log___ior__) (defScope s_Log___ior__) .none kV16 dc16 pm16 an16 cd16 ct16), sl16⟩)
    (cF16 : PySem.W.codeIn K cd16 "Log.__ior__" = true)
    (kF16 : PySem.W.keepIn K (.ref a16) = true)
    (nF17 : PySem.W.nsIn K mainGlobals "_law_adding" = some (some (.ref a17)))
    (lF17 : K.lookup a17 = some ⟨oc17, od17, .func (PySem.W.fnOf "_law_adding" "_law_adding" (defArgs s_law_adding) (defBody s_law_adding) (defScope s_law_adding) .none kV17 dc17 pm17 an17 cd17 ct17), sl17⟩)
    (cF17 : PySem.W.codeIn K cd17 "_law_adding" = true)
    (kF17 : PySem.W.keepIn K (.ref a17) = true)
    (nF18 : PySem.W.nsIn K mainGlobals "law" = some (some (.ref a18)))
    (lF18 : K.lookup a18 = some ⟨oc18, od18, .func (PySem.W.fnOf "law" "law" (defArgs s_law) (defBody s_law) (defScope s_law) .none kV18 dc18 pm18 an18 cd18 ct18), sl18⟩)
    (cF18 : PySem.W.codeIn K cd18 "law" = true)
    (kF18 : PySem.W.keepIn K (.ref a18) = true)
    (lFXInvalidEntry : K.lookup dInvalidEntry = some ⟨ocXInvalidEntry, odXInvalidEntry, .func (PySem.W.fnOf "__init__" "InvalidEntry.__init__" (defArgs (inClass (top 3) 0)) (defBody (inClass (top 3) 0)) (defScope (inClass (top 3) 0)) .none kVXInvalidEntry dcXInvalidEntry pmXInvalidEntry anXInvalidEntry cdXInvalidEntry ctXInvalidEntry), slXInvalidEntry⟩)
    (cFXInvalidEntry : PySem.W.codeIn K cdXInvalidEntry "InvalidEntry.__init__" = true)
    (kFXInvalidEntry : PySem.W.keepIn K (.ref dInvalidEntry) = true)
    (xlInvalidEntry : K.lookup aInvalidEntry = some (excClassObj nmXInvalidEntry qnXInvalidEntry aInvalidEntry nnXInvalidEntry bsXInvalidEntry bmXInvalidEntry true snXInvalidEntry sbXInvalidEntry abXInvalidEntry clXInvalidEntry ddXInvalidEntry k0XInvalidEntry k1XInvalidEntry k2XInvalidEntry k3XInvalidEntry k5XInvalidEntry "ValueError.__new__"))
    (xrInvalidEntry : PySem.HandSPX.refsVE bmXInvalidEntry = true)
    (lFXStampConflict : K.lookup dStampConflict = some ⟨ocXStampConflict, odXStampConflict, .func (PySem.W.fnOf "__init__" "StampConflict.__init__" (defArgs (inClass (top 4) 0)) (defBody (inClass (top 4) 0)) (defScope (inClass (top 4) 0)) .none kVXStampConflict dcXStampConflict pmXStampConflict anXStampConflict cdXStampConflict ctXStampConflict), slXStampConflict⟩)
    (cFXStampConflict : PySem.W.codeIn K cdXStampConflict "StampConflict.__init__" = true)
    (kFXStampConflict : PySem.W.keepIn K (.ref dStampConflict) = true)
    (xlStampConflict : K.lookup aStampConflict = some (excClassObj nmXStampConflict qnXStampConflict aStampConflict nnXStampConflict bsXStampConflict bmXStampConflict true snXStampConflict sbXStampConflict abXStampConflict clXStampConflict ddXStampConflict k0XStampConflict k1XStampConflict k2XStampConflict k3XStampConflict k5XStampConflict "ValueError.__new__"))
    (xrStampConflict : PySem.HandSPX.refsVE bmXStampConflict = true)
    (mFILog : PySem.W.findIn K (.ref aLog) "__iter__" = some (some (.ref bLog)))
    (iFILog : PySem.W.isFn K (.ref bLog) = true)
    (lFILog : K.lookup bLog = some ⟨ocILog, odILog, .func (PySem.W.fnOf "__iter__" "Log.__iter__" (defArgs (inClass (top 12) 3)) (defBody (inClass (top 12) 3)) (defScope (inClass (top 12) 3)) .none kVILog dcILog pmILog anILog cdILog ctILog), slILog⟩)
    (cFILog : PySem.W.codeIn K cdILog "Log.__iter__" = true)
    (kFILog : PySem.W.keepIn K (.ref bLog) = true)
    (gC0 : PySem.W.nsIn K mainGlobals "MOST_STAMP" = some (some (.int 99 t0)))
    (gC1 : PySem.W.nsIn K mainGlobals "MOST_OPERATION" = some (some (.int 3 t1)))
    (gC2 : PySem.W.nsIn K mainGlobals "MOST_ANSWER" = some (some (.int 3 t2)))
    (zBlen : PySem.W.nsIn K mainGlobals "len" = some none)
    (zBint : PySem.W.nsIn K mainGlobals "int" = some none)
    (zBabs : PySem.W.nsIn K mainGlobals "abs" = some none)
    (zBmin : PySem.W.nsIn K mainGlobals "min" = some none)
    (zBmax : PySem.W.nsIn K mainGlobals "max" = some none)
    (zBtuple : PySem.W.nsIn K mainGlobals "tuple" = some none)
    (zBlist : PySem.W.nsIn K mainGlobals "list" = some none)
    (zBall : PySem.W.nsIn K mainGlobals "all" = some none)
    (zBany : PySem.W.nsIn K mainGlobals "any" = some none)
    (zBsum : PySem.W.nsIn K mainGlobals "sum" = some none)
    (zBisinstance : PySem.W.nsIn K mainGlobals "isinstance" = some none)
    (zBrange : PySem.W.nsIn K mainGlobals "range" = some none)
    (zBenumerate : PySem.W.nsIn K mainGlobals "enumerate" = some none)
    (zBzip : PySem.W.nsIn K mainGlobals "zip" = some none)
    (zBbool : PySem.W.nsIn K mainGlobals "bool" = some none)
    (zBstr : PySem.W.nsIn K mainGlobals "str" = some none)
    (zBreversed : PySem.W.nsIn K mainGlobals "reversed" = some none)
    (zBValueError : PySem.W.nsIn K mainGlobals "ValueError" = some none)
    (zBiter : PySem.W.nsIn K mainGlobals "iter" = some none)
    : ∃ fd : FuncData, (∀ (s : Shared) (v : Value), BindsTo s fd ⟨[v], []⟩ [("_law_script", v)]) ∧ ∀ base : Heap, K.In base → base.Ns mainGlobals mg → FnOk l.prog w K mg base (L2N.CX l.prog w) 30 fa fd ["_law_script"] (spLaw K) := by
  have e := hfa.symm.trans (PySem.W.mg_of X G nF18)
  cases e
  have F0 := fun_mk (st := s_law_digits) lF0 cF0 kF0
  have B0 := F0.binds (ps := ["_law_cell_here", "_law_bases"]) fun _ _ _ _ _ _ us hl => match us, hl with | [_, _], _ => rfl
  have F1 := fun_mk (st := s_law_world) lF1 cF1 kF1
  have B1 := F1.binds (ps := ["_law_cell_here", "_law_count"]) fun _ _ _ _ _ _ us hl => match us, hl with | [_, _], _ => rfl
  have F2 := fun_mk (st := s_law_cell) lF2 cF2 kF2
  have B2 := F2.binds (ps := ["_law_script", "_law_k"]) fun _ _ _ _ _ _ us hl => match us, hl with | [_, _], _ => rfl
  have F3 := fun_mk (st := s_law_part) lF3 cF3 kF3
  have B3 := F3.binds (ps := ["_law_cell_here", "_law_world_here"]) fun _ _ _ _ _ _ us hl => match us, hl with | [_, _], _ => rfl
  have F4 := fun_mk (st := s_law_turned) lF4 cF4 kF4
  have B4 := F4.binds (ps := ["_law_part_here", "_law_at"]) fun _ _ _ _ _ _ us hl => match us, hl with | [_, _], _ => rfl
  have F5 := fun_mk (st := s_law_spoiled_row) lF5 cF5 kF5
  have B5 := F5.binds (ps := ["_law_part_here", "_law_first", "_law_digits_here", "_law_form"]) fun _ _ _ _ _ _ us hl => match us, hl with | [_, _, _, _], _ => rfl
  have F6 := fun_mk (st := s_law_merged) lF6 cF6 kF6
  have B6 := F6.binds (ps := ["_law_entries"]) fun _ _ _ _ _ _ us hl => match us, hl with | [_], _ => rfl
  have F7 := fun_mk (st := s_is_entry) lF7 cF7 kF7
  have B7 := F7.binds (ps := ["numbers"]) fun _ _ _ _ _ _ us hl => match us, hl with | [_], _ => rfl
  have F8 := fun_mk (st := s_ordered) lF8 cF8 kF8
  have B8 := F8.binds (ps := ["entries"]) fun _ _ _ _ _ _ us hl => match us, hl with | [_], _ => rfl
  have F9 := fun_mk (st := s_Log_init) lF9 cF9 kF9
  have B9 := F9.binds (ps := ["self", "entries"]) fun _ _ _ _ _ _ us hl => match us, hl with | [_, _], _ => rfl
  have F10 := fun_mk (st := s_law_is_number) lF10 cF10 kF10
  have B10 := F10.binds (ps := ["_law_x", "_law_least", "_law_most"]) fun _ _ _ _ _ _ us hl => match us, hl with | [_, _, _], _ => rfl
  have F11 := fun_mk (st := s_law_same_entries) lF11 cF11 kF11
  have B11 := F11.binds (ps := ["_law_actual", "_law_due"]) fun _ _ _ _ _ _ us hl => match us, hl with | [_, _], _ => rfl
  have F12 := fun_mk (st := s_Log___len__) lF12 cF12 kF12
  have B12 := F12.binds (ps := ["self"]) fun _ _ _ _ _ _ us hl => match us, hl with | [_], _ => rfl
  have F13 := fun_mk (st := s_law_same_log) lF13 cF13 kF13
  have B13 := F13.binds (ps := ["_law_log", "_law_due"]) fun _ _ _ _ _ _ us hl => match us, hl with | [_, _], _ => rfl
  have F14 := fun_mk (st := s_law_as_due) lF14 cF14 kF14
  have B14 := F14.binds (ps := ["_law_told", "_law_due"]) fun _ _ _ _ _ _ us hl => match us, hl with | [_, _], _ => rfl
  have F15 := fun_mk (st := s_entries_of) lF15 cF15 kF15
  have B15 := F15.binds (ps := ["thing"]) fun _ _ _ _ _ _ us hl => match us, hl with | [_], _ => rfl
  have F16 := fun_mk (st := s_Log___ior__) lF16 cF16 kF16
  have B16 := F16.binds (ps := ["self", "other"]) fun _ _ _ _ _ _ us hl => match us, hl with | [_, _], _ => rfl
  have F17 := fun_mk (st := s_law_adding) lF17 cF17 kF17
  have B17 := F17.binds (ps := ["_law_log", "_law_other"]) fun _ _ _ _ _ _ us hl => match us, hl with | [_, _], _ => rfl
  have F18 := fun_mk (st := s_law) lF18 cF18 kF18
  have B18 := F18.binds (ps := ["_law_script"]) fun _ _ _ _ _ _ us hl => match us, hl with | [_], _ => rfl
  refine ⟨PySem.W.fnOf "law" "law" (defArgs s_law) (defBody s_law) (defScope s_law) .none kV18 dc18 pm18 an18 cd18 ct18, fun s v => .of_eq rfl, fun base _ _ => ?_⟩
  have FXInvalidEntry := fun_mk (st := (inClass (top 3) 0)) lFXInvalidEntry cFXInvalidEntry kFXInvalidEntry
  have OInvalidEntry : OexC K aInvalidEntry := ⟨⟨_, _, _, _, _, _, _, _, _, _, _, _, _, _, _, xlInvalidEntry, xrInvalidEntry⟩, sFXInvalidEntry, xbInvalidEntry, xtInvalidEntry, kCInvalidEntry⟩
  have FXStampConflict := fun_mk (st := (inClass (top 4) 0)) lFXStampConflict cFXStampConflict kFXStampConflict
  have OStampConflict : OexC K aStampConflict := ⟨⟨_, _, _, _, _, _, _, _, _, _, _, _, _, _, _, xlStampConflict, xrStampConflict⟩, sFXStampConflict, xbStampConflict, xtStampConflict, kCStampConflict⟩
  have FILog := fun_mk (st := (inClass (top 12) 3)) lFILog cFILog kFILog
  have CLog : Cls K aLog := ⟨pgLog, hdLog, poLog, saLog⟩
  have M0 : Mod l.prog w K mg base (tx aLog aInvalidEntry aStampConflict) (par c0 []) [] C 4 := by
    refine ⟨fun x hx => ?_, fun k x hx => ?_, fun f c hc => ?_, rfl, fun c hc => ?_, fun c hc => ?_, fun c hc => ?_, fun c hc => ?_, fun c hc => ?_, fun c hc c2 hc2 => ?_, rfl, rfl, rfl, (fun f hf x n e => by cases e), fun c hc => ?_⟩
    · simp only [bltNms, List.mem_cons, List.not_mem_nil, or_false] at hx
      rcases hx with rfl | rfl | rfl | rfl | rfl | rfl | rfl | rfl | rfl | rfl | rfl | rfl | rfl | rfl | rfl | rfl | rfl | rfl
      · exact PySem.W.mg_none_of X G zBlen
      · exact PySem.W.mg_none_of X G zBint
      · exact PySem.W.mg_none_of X G zBabs
      · exact PySem.W.mg_none_of X G zBmin
      · exact PySem.W.mg_none_of X G zBmax
      · exact PySem.W.mg_none_of X G zBtuple
      · exact PySem.W.mg_none_of X G zBlist
      · exact PySem.W.mg_none_of X G zBall
      · exact PySem.W.mg_none_of X G zBany
      · exact PySem.W.mg_none_of X G zBsum
      · exact PySem.W.mg_none_of X G zBisinstance
      · exact PySem.W.mg_none_of X G zBrange
      · exact PySem.W.mg_none_of X G zBenumerate
      · exact PySem.W.mg_none_of X G zBzip
      · exact PySem.W.mg_none_of X G zBbool
      · exact PySem.W.mg_none_of X G zBstr
      · exact PySem.W.mg_none_of X G zBreversed
      · exact PySem.W.mg_none_of X G zBValueError
    · match k, hx with
      | 0, hx => cases hx; exact ⟨_, _, rfl, PySem.W.mg_of X G gC0⟩
      | 1, hx => cases hx; exact ⟨_, _, rfl, PySem.W.mg_of X G gC1⟩
      | 2, hx => cases hx; exact ⟨_, _, rfl, PySem.W.mg_of X G gC2⟩
      | n + 3, hx => cases hx
    · cases hc
    · simp only [List.mem_cons, List.not_mem_nil, or_false] at hc
      rcases hc with rfl
      · exact ⟨CLog, fl_nd .Log, fun f hf => by simp only [tx, fldsOf, List.mem_cons, List.not_mem_nil, or_false] at hf; rcases hf with rfl <;> assumption⟩
    · simp only [List.mem_cons, List.not_mem_nil, or_false] at hc
      rcases hc with rfl
      · exact ⟨isF_mk CLog haLog gHn gHt hmLog tyLog stLog_int stLog_bool stLog_str stLog_list stLog_tuple, PySem.W.mg_of X G nCLog⟩
    · cases hc
    · simp only [List.mem_cons, List.not_mem_nil, or_false] at hc
      rcases hc with rfl | rfl
      · exact ⟨OInvalidEntry, PySem.W.mg_of X G nCInvalidEntry, dInvalidEntry, _, ["self", "entry"], 1, by decide, mFXInvalidEntry, yFXInvalidEntry, exi1 FXInvalidEntry (by decide +kernel) (by decide +kernel) OInvalidEntry rfl xnInvalidEntry_entry, FXInvalidEntry.binds (ps := ["self", "entry"]) (fun _ _ _ _ _ _ us hl => match us, hl with | [_, _], _ => rfl)⟩
      · exact ⟨OStampConflict, PySem.W.mg_of X G nCStampConflict, dStampConflict, _, ["self", "stamp"], 1, by decide, mFXStampConflict, yFXStampConflict, exi1 FXStampConflict (by decide +kernel) (by decide +kernel) OStampConflict rfl xnStampConflict_stamp, FXStampConflict.binds (ps := ["self", "stamp"]) (fun _ _ _ _ _ _ us hl => match us, hl with | [_, _], _ => rfl)⟩
    · simp only [List.mem_cons, List.not_mem_nil, or_false] at hc
      rcases hc with rfl | rfl
      · exact ⟨⟨⟨xaInvalidEntry, xkInvalidEntry, xbInvalidEntry, xdInvalidEntry, xhInvalidEntry, gHn, gHt, xmInvalidEntry⟩, xtInvalidEntry, xvInvalidEntry, fun f hf => by first | (simp only [tx, fldsOf, List.mem_cons, List.not_mem_nil, or_false] at hf; done) | (simp only [tx, fldsOf, List.mem_cons, List.not_mem_nil, or_false] at hf; rcases hf with rfl <;> assumption)⟩, PySem.W.mg_of X G nCInvalidEntry⟩
      · exact ⟨⟨⟨xaStampConflict, xkStampConflict, xbStampConflict, xdStampConflict, xhStampConflict, gHn, gHt, xmStampConflict⟩, xtStampConflict, xvStampConflict, fun f hf => by first | (simp only [tx, fldsOf, List.mem_cons, List.not_mem_nil, or_false] at hf; done) | (simp only [tx, fldsOf, List.mem_cons, List.not_mem_nil, or_false] at hf; rcases hf with rfl <;> assumption)⟩, PySem.W.mg_of X G nCStampConflict⟩
    · simp only [List.mem_cons, List.not_mem_nil, or_false] at hc hc2
      rcases hc with rfl | rfl <;> rcases hc2 with rfl | rfl <;> assumption
    · simp only [List.mem_cons, List.not_mem_nil, or_false] at hc
      rcases hc with rfl
      · exact ⟨by decide, fl_nd .Log, bLog, "entries", ⟨⟨mFILog, iFILog⟩, CLog, noLog_entries, PySem.W.mg_none_of X G zBiter, ⟨"Log.__iter__", (inClass (top 12) 3), _, "self", ["self"], FILog, FILog.binds (ps := ["self"]) (fun _ _ _ _ _ _ us hl => match us, hl with | [_], _ => rfl), scB_ (by decide +kernel), by decide +kernel⟩⟩, rfl⟩
  have M1 : Mod l.prog w K mg base (tx aLog aInvalidEntry aStampConflict) (par c1 []) g1 C 5 := M0.fn (N := n_law_digits) (b := b_law_digits) F0 B0 (PySem.W.mg_of X G nF0) rfl sc_law_digits ck_law_digits (by decide)
  have M2 : Mod l.prog w K mg base (tx aLog aInvalidEntry aStampConflict) (par c2 []) g2 C 6 := M1.fn (N := n_law_world) (b := b_law_world) F1 B1 (PySem.W.mg_of X G nF1) rfl sc_law_world ck_law_world (by decide)
  have M3 : Mod l.prog w K mg base (tx aLog aInvalidEntry aStampConflict) (par c3 []) g3 C 7 := M2.fn (N := n_law_cell) (b := b_law_cell) F2 B2 (PySem.W.mg_of X G nF2) rfl sc_law_cell ck_law_cell (by decide)
  have M4 : Mod l.prog w K mg base (tx aLog aInvalidEntry aStampConflict) (par c4 []) g4 C 8 := M3.fn (N := n_law_part) (b := b_law_part) F3 B3 (PySem.W.mg_of X G nF3) rfl sc_law_part ck_law_part (by decide)
  have M5 : Mod l.prog w K mg base (tx aLog aInvalidEntry aStampConflict) (par c5 []) g5 C 9 := M4.fn (N := n_law_turned) (b := b_law_turned) F4 B4 (PySem.W.mg_of X G nF4) rfl sc_law_turned ck_law_turned (by decide)
  have M6 : Mod l.prog w K mg base (tx aLog aInvalidEntry aStampConflict) (par c6 []) g6 C 10 := M5.fn (N := n_law_spoiled_row) (b := b_law_spoiled_row) F5 B5 (PySem.W.mg_of X G nF5) rfl sc_law_spoiled_row ck_law_spoiled_row (by decide)
  have M7 : Mod l.prog w K mg base (tx aLog aInvalidEntry aStampConflict) (par c7 []) g7 C 11 := M6.fn (N := n_law_merged) (b := b_law_merged) F6 B6 (PySem.W.mg_of X G nF6) rfl sc_law_merged ck_law_merged (by decide)
  have M8 : Mod l.prog w K mg base (tx aLog aInvalidEntry aStampConflict) (par c8 []) g8 C 12 := M7.fn (N := n_is_entry) (b := b_is_entry) F7 B7 (PySem.W.mg_of X G nF7) rfl sc_is_entry ck_is_entry (by decide)
  have M9 : Mod l.prog w K mg base (tx aLog aInvalidEntry aStampConflict) (par c9 []) g9 C 13 := M8.fn (N := n_ordered) (b := b_ordered) F8 B8 (PySem.W.mg_of X G nF8) rfl sc_ordered ck_ordered (by decide)
  have M10 : Mod l.prog w K mg base (tx aLog aInvalidEntry aStampConflict) (par c10 []) g10 C 15 := M9.newL (N := n_Log_init.tail) (b := b_Log_init) F9 B9 ⟨mkLog, mF9, iF9, kCLog⟩ (PySem.W.mg_of X G nCLog) rfl sc_Log_init ck_Log_init
  have M11 : Mod l.prog w K mg base (tx aLog aInvalidEntry aStampConflict) (par c11 []) g11 C 16 := M10.fn (N := n_law_is_number) (b := b_law_is_number) F10 B10 (PySem.W.mg_of X G nF10) rfl sc_law_is_number ck_law_is_number (by decide)
  have M12 : Mod l.prog w K mg base (tx aLog aInvalidEntry aStampConflict) (par c12 []) g12 C 17 := M11.fn (N := n_law_same_entries) (b := b_law_same_entries) F11 B11 (PySem.W.mg_of X G nF11) rfl sc_law_same_entries ck_law_same_entries (by decide)
  have M13 : Mod l.prog w K mg base (tx aLog aInvalidEntry aStampConflict) (par c13 []) g13 C 21 := M12.dun (N := n_Log___len__) (b := b_Log___len__) F12 B12 ⟨mF12, iF12⟩ sfLog rfl sc_Log___len__ ck_Log___len__
  have M14 : Mod l.prog w K mg base (tx aLog aInvalidEntry aStampConflict) (par c14 []) g14 C 22 := M13.fn (N := n_law_same_log) (b := b_law_same_log) F13 B13 (PySem.W.mg_of X G nF13) rfl sc_law_same_log ck_law_same_log (by decide)
  have M15 : Mod l.prog w K mg base (tx aLog aInvalidEntry aStampConflict) (par c15 []) g15 C 23 := M14.fn (N := n_law_as_due) (b := b_law_as_due) F14 B14 (PySem.W.mg_of X G nF14) rfl sc_law_as_due ck_law_as_due (by decide)
  have M16 : Mod l.prog w K mg base (tx aLog aInvalidEntry aStampConflict) (par c16 []) g16 C 24 := M15.fn (N := n_entries_of) (b := b_entries_of) F15 B15 (PySem.W.mg_of X G nF15) rfl sc_entries_of ck_entries_of (by decide)
  have M17 : Mod l.prog w K mg base (tx aLog aInvalidEntry aStampConflict) (par c17 []) g17 C 28 := M16.dun (N := n_Log___ior__) (b := b_Log___ior__) F16 B16 ⟨mF16, iF16⟩ sfLog rfl sc_Log___ior__ ck_Log___ior__
  have M18 : Mod l.prog w K mg base (tx aLog aInvalidEntry aStampConflict) (par c18 []) g18 C 29 := M17.fn (N := n_law_adding) (b := b_law_adding) F17 B17 (PySem.W.mg_of X G nF17) rfl sc_law_adding ck_law_adding (by decide)
  exact law_ok M18 F18 sc_law ck_law pure_law
end Qk.K50

open PySem PySem.W PyProof.Rows in
set_option maxRecDepth 100000 in
set_option maxHeartbeats 0 in
theorem PySem.Challenge.cw_quorumkinds_k50_log_added_holds : PySem.Challenge.rw_quorumkinds_k50_log_added.Holds := by
  w_on; o_law; k_head; (case hw => w_witness2)
  k_fill
  refine Qk.walk (k := 30) (l := PySem.Challenge.rw_quorumkinds_k50_log_added) ⟨rfl, by decide, by decide⟩ rfl rfl (fun w h Y => PySem.W.kIn_of Y) ?F
  case F =>
    intro w mg fa h KX G hmg
    refine' Qk.K50.all_mk KX G hmg ?nCLog ?kCLog ?nCInvalidEntry ?kCInvalidEntry ?nCStampConflict ?kCStampConflict ?pgLog ?hdLog ?poLog ?saLog ?noLog_entries ?gHn ?gHt ?haLog ?hmLog ?tyLog ?stLog_int ?stLog_bool ?stLog_str ?stLog_list ?stLog_tuple ?xbInvalidEntry ?xtInvalidEntry ?xbStampConflict ?xtStampConflict ?xnInvalidEntry_entry ?xnStampConflict_stamp ?xaInvalidEntry ?xkInvalidEntry ?xdInvalidEntry ?xhInvalidEntry ?xmInvalidEntry ?xvInvalidEntry ?xpInvalidEntry_InvalidEntry ?xpInvalidEntry_StampConflict ?xaStampConflict ?xkStampConflict ?xdStampConflict ?xhStampConflict ?xmStampConflict ?xvStampConflict ?xpStampConflict_InvalidEntry ?xpStampConflict_StampConflict ?mFXInvalidEntry ?yFXInvalidEntry ?sFXInvalidEntry ?mFXStampConflict ?yFXStampConflict ?sFXStampConflict ?nF0 ?lF0 ?cF0 ?kF0 ?nF1 ?lF1 ?cF1 ?kF1 ?nF2 ?lF2 ?cF2 ?kF2 ?nF3 ?lF3 ?cF3 ?kF3 ?nF4 ?lF4 ?cF4 ?kF4 ?nF5 ?lF5 ?cF5 ?kF5 ?nF6 ?lF6 ?cF6 ?kF6 ?nF7 ?lF7 ?cF7 ?kF7 ?nF8 ?lF8 ?cF8 ?kF8 ?mF9 ?iF9 ?mkLog ?lF9 ?cF9 ?kF9 ?nF10 ?lF10 ?cF10 ?kF10 ?nF11 ?lF11 ?cF11 ?kF11 ?sfLog ?mF12 ?iF12 ?lF12 ?cF12 ?kF12 ?nF13 ?lF13 ?cF13 ?kF13 ?nF14 ?lF14 ?cF14 ?kF14 ?nF15 ?lF15 ?cF15 ?kF15 ?mF16 ?iF16 ?lF16 ?cF16 ?kF16 ?nF17 ?lF17 ?cF17 ?kF17 ?nF18 ?lF18 ?cF18 ?kF18 ?lFXInvalidEntry ?cFXInvalidEntry ?kFXInvalidEntry ?xlInvalidEntry ?xrInvalidEntry ?lFXStampConflict ?cFXStampConflict ?kFXStampConflict ?xlStampConflict ?xrStampConflict ?mFILog ?iFILog ?lFILog ?cFILog ?kFILog ?gC0 ?gC1 ?gC2 ?zBlen ?zBint ?zBabs ?zBmin ?zBmax ?zBtuple ?zBlist ?zBall ?zBany ?zBsum ?zBisinstance ?zBrange ?zBenumerate ?zBzip ?zBbool ?zBstr ?zBreversed ?zBValueError ?zBiter
    (case nCLog => k_is)
    (case kCLog => k_is)
    (case nCInvalidEntry => k_is)
    (case kCInvalidEntry => k_is)
    (case nCStampConflict => k_is)
    (case kCStampConflict => k_is)
    (case pgLog => k_is)
    (case hdLog => k_is)
    (case poLog => k_is)
    (case saLog => k_is)
    (case noLog_entries => k_is)
    (case gHn => k_is)
    (case gHt => k_is)
    (case haLog => k_is)
    (case hmLog => k_is)
    (case tyLog => k_is)
    (case stLog_int => k_is)
    (case stLog_bool => k_is)
    (case stLog_str => k_is)
    (case stLog_list => k_is)
    (case stLog_tuple => k_is)
    (case xbInvalidEntry => k_is)
    (case xtInvalidEntry => k_is)
    (case xbStampConflict => k_is)
    (case xtStampConflict => k_is)
    (case xnInvalidEntry_entry => k_is)
    (case xnStampConflict_stamp => k_is)
    (case xaInvalidEntry => k_is)
    (case xkInvalidEntry => k_is)
    (case xdInvalidEntry => k_is)
    (case xhInvalidEntry => k_is)
    (case xmInvalidEntry => k_is)
    (case xvInvalidEntry => k_is)
    (case xpInvalidEntry_InvalidEntry => k_is)
    (case xpInvalidEntry_StampConflict => k_is)
    (case xaStampConflict => k_is)
    (case xkStampConflict => k_is)
    (case xdStampConflict => k_is)
    (case xhStampConflict => k_is)
    (case xmStampConflict => k_is)
    (case xvStampConflict => k_is)
    (case xpStampConflict_InvalidEntry => k_is)
    (case xpStampConflict_StampConflict => k_is)
    (case mFXInvalidEntry => k_is)
    (case yFXInvalidEntry => k_is)
    (case sFXInvalidEntry => k_is)
    (case mFXStampConflict => k_is)
    (case yFXStampConflict => k_is)
    (case sFXStampConflict => k_is)
    (case nF0 => k_is)
    (case lF0 => k_is)
    (case cF0 => k_is)
    (case kF0 => k_is)
    (case nF1 => k_is)
    (case lF1 => k_is)
    (case cF1 => k_is)
    (case kF1 => k_is)
    (case nF2 => k_is)
    (case lF2 => k_is)
    (case cF2 => k_is)
    (case kF2 => k_is)
    (case nF3 => k_is)
    (case lF3 => k_is)
    (case cF3 => k_is)
    (case kF3 => k_is)
    (case nF4 => k_is)
    (case lF4 => k_is)
    (case cF4 => k_is)
    (case kF4 => k_is)
    (case nF5 => k_is)
    (case lF5 => k_is)
    (case cF5 => k_is)
    (case kF5 => k_is)
    (case nF6 => k_is)
    (case lF6 => k_is)
    (case cF6 => k_is)
    (case kF6 => k_is)
    (case nF7 => k_is)
    (case lF7 => k_is)
    (case cF7 => k_is)
    (case kF7 => k_is)
    (case nF8 => k_is)
    (case lF8 => k_is)
    (case cF8 => k_is)
    (case kF8 => k_is)
    (case mF9 => k_is)
    (case iF9 => k_is)
    (case mkLog => k_is)
    (case lF9 => k_is)
    (case cF9 => k_is)
    (case kF9 => k_is)
    (case nF10 => k_is)
    (case lF10 => k_is)
    (case cF10 => k_is)
    (case kF10 => k_is)
    (case nF11 => k_is)
    (case lF11 => k_is)
    (case cF11 => k_is)
    (case kF11 => k_is)
    (case sfLog => k_is)
    (case mF12 => k_is)
    (case iF12 => k_is)
    (case lF12 => k_is)
    (case cF12 => k_is)
    (case kF12 => k_is)
    (case nF13 => k_is)
    (case lF13 => k_is)
    (case cF13 => k_is)
    (case kF13 => k_is)
    (case nF14 => k_is)
    (case lF14 => k_is)
    (case cF14 => k_is)
    (case kF14 => k_is)
    (case nF15 => k_is)
    (case lF15 => k_is)
    (case cF15 => k_is)
    (case kF15 => k_is)
    (case mF16 => k_is)
    (case iF16 => k_is)
    (case lF16 => k_is)
    (case cF16 => k_is)
    (case kF16 => k_is)
    (case nF17 => k_is)
    (case lF17 => k_is)
    (case cF17 => k_is)
    (case kF17 => k_is)
    (case nF18 => k_is)
    (case lF18 => k_is)
    (case cF18 => k_is)
    (case kF18 => k_is)
    (case lFXInvalidEntry => k_is)
    (case cFXInvalidEntry => k_is)
    (case kFXInvalidEntry => k_is)
    (case xlInvalidEntry => k_is)
    (case xrInvalidEntry => rfl)
    (case lFXStampConflict => k_is)
    (case cFXStampConflict => k_is)
    (case kFXStampConflict => k_is)
    (case xlStampConflict => k_is)
    (case xrStampConflict => rfl)
    (case mFILog => k_is)
    (case iFILog => k_is)
    (case lFILog => k_is)
    (case cFILog => k_is)
    (case kFILog => k_is)
    (case gC0 => k_is)
    (case gC1 => k_is)
    (case gC2 => k_is)
    (case zBlen => k_is)
    (case zBint => k_is)
    (case zBabs => k_is)
    (case zBmin => k_is)
    (case zBmax => k_is)
    (case zBtuple => k_is)
    (case zBlist => k_is)
    (case zBall => k_is)
    (case zBany => k_is)
    (case zBsum => k_is)
    (case zBisinstance => k_is)
    (case zBrange => k_is)
    (case zBenumerate => k_is)
    (case zBzip => k_is)
    (case zBbool => k_is)
    (case zBstr => k_is)
    (case zBreversed => k_is)
    (case zBValueError => k_is)
    (case zBiter => k_is)
