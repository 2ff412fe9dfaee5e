import PyProof.Rows.All
import Wide.All
import OpenK.AllK
import Wide.FinOn
import HandS.ForMost
import HandS.Zip
import HandS.Wide
import HandS.TupMul
import HandS.TupAny
import HandS.Deep
import HandS.Gcd
import HandS.Flow
import HandS.IsInst
import HandS.Conv
import HandS.ExcOwn
import HandS.Small
import PyProof.ListStr
import KE.DataAny
import KE.SortData
import KE.GoesZip
import KE.GoesEnum
import HandS.HeadEnd
import HandS.HeadHook2
import HandS.Head2
import KE.KCenter
import HandS.Head3
import PySem.Challenge.RW_goodsbygoods_k60_whole_rewards_and_amoun
set_option Elab.async false
set_option linter.all false
set_option maxRecDepth 100000
set_option maxHeartbeats 0
/-! the small language: data, expressions, statements, what they mean -/
namespace Ev
open PySem

inductive D where
  | non | bl (b : Bool) | int (i : Int) | str (x : Str)
  | tup (ds : List D) | lst (ds : List D) | scr (ds : List D)
  | ref (n : Nat) | exc (c : Nat) (ds : List D)

/-- what stands at a place of the small heap -/
inductive Ob where
  | lst (ds : List D)
  | dic (kvs : List (L2.Key × D))
abbrev Os := List Ob

inductive Res (α : Type) where
  | ok (a : α) (o : Os) | exn (x : D) (o : Os) | bad

@[simp] def Res.bind {α β : Type} : Res α → (α → Os → Res β) → Res β
  | .ok a o, f => f a o
  | .exn x o, _ => .exn x o
  | .bad, _ => .bad
/-- an error is not let out (a comprehension) -/
@[simp] def Res.calm {α : Type} : Res α → Res α
  | .exn _ _ => .bad
  | r => r
@[simp] def Res.of {α : Type} (a : Option α) (o : Os) : Res α := match a with
  | some a => .ok a o
  | none => .bad

def line : Nat := 16777216
abbrev Env := List (Option D)
abbrev Fs := Nat → List D → Os → Res D
abbrev Gs := Nat → Option D

inductive Bop | add | sub | mul | fdiv | mod | pow
  deriving DecidableEq
inductive Cop | lt | le | gt | ge | eq | ne | is | isnot | in_ | notin
  deriving DecidableEq
inductive Ty | int | bool | str | tuple | list | dict
  deriving DecidableEq
inductive Bi | len | abs | int | all | any | tuple | list | sorted | gcd | min | max
  deriving DecidableEq
inductive Mt | join
  deriving DecidableEq
inductive T | one (i : Nat) | many (is : List Nat)

mutual
inductive E where
  | int (i : Int) | str (x : Str) | bl (b : Bool) | non
  | var (i : Nat) | glb (j : Nat)
  | tup (es : Es) | lst (es : Es)
  | bin (o : Bop) (a b : E) | neg (a : E) | not (a : E)
  | cmp (o : Cop) (a b : E) | chn (o o' : Cop) (a b c : E)
  | and (a b : E) | or (a b : E) | ite (c a b : E)
  | call (f : Nat) (es : Es) | bi (b : Bi) (es : Es)
  | isi (a : E) (t : Ty)
  | idx (a i : E) | slc (a : E) (lo hi : EO)
  | comp (elt : E) (t : T) (it : I) (c : EO)
  | dic (k1 k2 k3 k4 : Str) (a b c d : E)
  | mth (m : Mt) (a e : E)
  | hpop (a : E)
  | hp (e : E)
  | bad
inductive Es where
  | nil | cons (e : E) (es : Es)
inductive EO where
  | none | some (e : E)
inductive I where
  | seq (e : E) | own (i : Nat) | rng1 (a : E) | rng2 (a b : E) | zip (a b : E) | enu (a : E)
end

mutual
inductive S where
  | asg (t : T) (e : E)
  | par (i j : Nat) (a b : E)
  | sto (i : Nat) (ix e : E)
  | stoP (i : Nat) (ix jx a b : E)
  | dst (o k e : E)
  | app (i : Nat) (e : E)
  | ext (i : Nat) (e : E)
  | pop (t : Option T) (i : Nat)
  | exp (e : E)
  | ite (c : E) (a b : Ss)
  | for (t : T) (it : I) (b : Ss)
  | whl (c : E) (b : Ss)
  | ret (e : E) | retN | cont | pass | bad
inductive Ss where
  | nil | cons (s : S) (ss : Ss)
end

/-! ### what operators mean -/
mutual
def dP : D → Option PyData
  | .non => some .none
  | .bl b => some (.bool b)
  | .int i => some (.int i)
  | .str x => some (.str x)
  | .tup ds => (dPs ds).map .tuple
  | .lst ds => (dPs ds).map .list
  | _ => none
def dPs : List D → Option (List PyData)
  | [] => some []
  | d :: ds => match dP d, dPs ds with
    | some p, some ps => some (p :: ps)
    | _, _ => none
end
def deq (a b : D) : Option Bool := match dP a, dP b with
  | some p, some q => if SeqAt.shaped p && SeqAt.shaped q then some (PyData.eqv p q) else none
  | _, _ => none
def dIn (x : D) : D → Option Bool
  | .str z => match x with
    | .str y => some (!(Builtin.Str.occurrences z y 0 z.length 1).isEmpty)
    | _ => none
  | .lst ds => match dP x, dPs ds with
    | some p, some ps => if SeqAt.shaped p && SeqAt.shaped (.list ps) then some (ps.any fun z => PyData.eqv z p) else none
    | _, _ => none
  | _ => none
def isNonD : D → Bool
  | .non => true
  | _ => false
def dCmp (o : Cop) (a b : D) : Option Bool := match o with
  | .eq => deq a b
  | .ne => (deq a b).map (!·)
  | .in_ => dIn a b
  | .notin => (dIn a b).map (!·)
  | .is => match b with
    | .non => some (isNonD a)
    | _ => none
  | .isnot => match b with
    | .non => some (!isNonD a)
    | _ => none
  | .lt => match a, b with
    | .int i, .int j => some (decide (i < j))
    | .str x, .str y => some (decide (x.cps.toList < y.cps.toList))
    | _, _ => none
  | .le => match a, b with
    | .int i, .int j => some (decide (i ≤ j))
    | _, _ => none
  | .gt => match a, b with
    | .int i, .int j => some (decide (j < i))
    | _, _ => none
  | .ge => match a, b with
    | .int i, .int j => some (decide (j ≤ i))
    | _, _ => none
def dTru : D → Option Bool
  | .non => some false
  | .bl b => some b
  | .int i => some (i != 0)
  | .str x => if x.length ≤ line then some ((x.length : Int) != 0) else none
  | .tup ds => some (!ds.isEmpty)
  | .lst ds => some (!ds.isEmpty)
  | _ => none
def mulOk (i j : Int) : Bool := decide (i.natAbs.log2 + j.natAbs.log2 < 1000000)
def divOk (j : Int) : Bool := decide (j ≠ 0) && decide (j.natAbs.log2 < 9000)
def powOk (i j : Int) : Bool := decide (0 ≤ j) && decide ((Builtin.Int.intBits i : Int) * j ≤ 134217728)
def dBin (o : Bop) (a b : D) : Option D := match o, a, b with
  | .add, .int i, .int j => some (.int (i + j))
  | .add, .str x, .str y => if x.length + y.length ≤ line then some (.str (x ++ y)) else none
  | .add, .lst x, .lst y => if x.length + y.length ≤ line then some (.lst (x ++ y)) else none
  | .add, .tup x, .tup y => if x.length + y.length ≤ line then some (.tup (x ++ y)) else none
  | .sub, .int i, .int j => some (.int (i - j))
  | .mul, .int i, .int j => if mulOk i j then some (.int (i * j)) else none
  | .mul, .lst x, .int k => if -(2 ^ 63) ≤ k ∧ k < 2 ^ 63 ∧ x.length * k.toNat ≤ line then some (.lst (List.replicate k.toNat x).flatten) else none
  | .mul, .str x, .int k => if x.length ≤ 16 ∧ -(2 ^ 63) ≤ k ∧ k ≤ 1048576 then some (.str (Txt.mul x k)) else none
  | .fdiv, .int i, .int j => if divOk j then some (.int (i.fdiv j)) else none
  | .mod, .int i, .int j => if j ≠ 0 then some (.int (i.fmod j)) else none
  | .pow, .int i, .int j => if powOk i j then some (.int (i ^ j.toNat)) else none
  | _, _, _ => none
def dNeg : D → Option D
  | .int i => some (.int (-i))
  | _ => none
def findK {α : Type} (kvs : List (L2.Key × α)) (k : L2.Key) : Option α := (kvs.find? fun kv => decide (kv.1 = k)).map (·.2)
/-- the list that stands at a place of the small heap -/
def drf (o : Os) (d : D) : D := match d with
  | .ref n => match o[n]? with
    | some (.lst ds) => .lst ds
    | _ => d
  | _ => d
def dIdx (d : D) (i : D) (o : Os) : Option D := match d, i with
  | .tup ds, .int i => L2.atI ds i
  | .lst ds, .int i => L2.atI ds i
  | .str x, .int i => if x.length ≤ line then (L2.atI x.cps.toList i).map fun c => .str ⟨#[c]⟩ else none
  | .ref n, .str k => match o[n]? with
    | some (.dic kvs) => findK kvs (.inr k)
    | _ => none
  | _, _ => none
def cut {α : Type} (xs : List α) (lo hi : Option Int) : List α := (xs.drop (HT.sIx xs.length 0 lo)).take (HT.sIx xs.length xs.length hi - HT.sIx xs.length 0 lo)
def dSl (d : D) (lo hi : Option Int) : Option D := match d with
  | .lst ds => some (.lst (cut ds lo hi))
  | .tup ds => some (.tup (cut ds lo hi))
  | .str x => if x.length ≤ line then some (.str (L2.cutS x lo hi)) else none
  | _ => none
def dIs (t : Ty) : D → Option Bool
  | .non => some false
  | .bl _ => some (match t with | .bool => true | .int => true | _ => false)
  | .int _ => some (match t with | .int => true | _ => false)
  | .str _ => some (match t with | .str => true | _ => false)
  | .tup _ => some (match t with | .tuple => true | _ => false)
  | .lst _ => some (match t with | .list => true | _ => false)
  | _ => none
def blsOf : List D → Option (List Bool)
  | [] => some []
  | .bl b :: ds => (blsOf ds).map (b :: ·)
  | _ :: _ => none
def strsOf : List D → Option (List Str)
  | [] => some []
  | .str x :: ds => (strsOf ds).map (x :: ·)
  | _ :: _ => none
def encD (d : D) : PyData := (dP d).getD .none
def tupC : D → Bool
  | .tup (_ :: _) => true
  | _ => false
def notNT : D → Bool
  | .non => false
  | .tup _ => false
  | _ => true
def sortOk (ds : List D) : Bool := (ds.all fun d => (dP d).isSome) && (ds.all fun d => ds.all fun e => PySem.W.alike (encD d) (encD e)) && (ds.all tupC || ds.all notNT) && (ds.all fun d => decide ((encD d).depth ≤ 60)) && decide (ds.length ≤ line)
def signs (x : Str) : List D := x.cps.toList.map fun c => .str ⟨#[c]⟩
def dBi (b : Bi) (ds : List D) : Option D := match b, ds with
  | .len, [.tup ds] => some (.int ds.length)
  | .len, [.lst ds] => some (.int ds.length)
  | .len, [.scr ds] => some (.int ds.length)
  | .len, [.str x] => if x.length ≤ line then some (.int x.length) else none
  | .abs, [.int i] => some (.int (if i < 0 then -i else i))
  | .int, [.int i] => some (.int i)
  | .int, [.bl b] => some (.int (if b then 1 else 0))
  | .all, [.lst ds] => (blsOf ds).map fun bs => .bl (bs.all id)
  | .any, [.lst ds] => (blsOf ds).map fun bs => .bl (bs.any id)
  | .tuple, [.lst ds] => some (.tup ds)
  | .tuple, [.tup ds] => some (.tup ds)
  | .list, [.lst ds] => some (.lst ds)
  | .list, [.tup ds] => some (.lst ds)
  | .list, [.str x] => if x.length ≤ line then some (.lst (signs x)) else none
  | .sorted, [.lst ds] => if sortOk ds then some (.lst (ds.mergeSort (PySem.W.dataLe false encD))) else none
  | .gcd, [.int i, .int j] => some (.int (Int.gcd i j))
  | .min, [.int i, .int j] => some (.int (if j < i then j else i))
  | .max, [.int i, .int j] => some (.int (if i < j then j else i))
  | _, _ => none
def dMt (m : Mt) (x : Str) (d : D) : Option D := match m, d with
  | .join, .lst ds => match strsOf ds with
    | some xs => if (xs.map Str.length).sum + xs.length * x.length ≤ line then some (.str (Txt.join x xs)) else none
    | none => none
  | _, _ => none
/-- what a for walks -/
def dSeq : D → Option (List D)
  | .tup ds => some ds
  | .lst ds => some ds
  | .scr ds => some ds
  | .str x => if x.length ≤ line then some (signs x) else none
  | _ => none
def dRng (lo hi : Int) : List D := (List.range (hi - lo).toNat).map fun i => .int (lo + (i : Nat))
def rngOk (lo hi : Int) : Bool := decide (-(2 ^ 62) ≤ lo) && decide (lo < 2 ^ 62) && decide (-(2 ^ 62) ≤ hi) && decide (hi < 2 ^ 62) && decide ((hi - lo).toNat ≤ line)
def dLs : D → Option (List D)
  | .tup ds => some ds
  | .lst ds => some ds
  | _ => none
def dEnu (i : Nat) : List D → List D
  | [] => []
  | d :: ds => .tup [.int (i : Nat), d] :: dEnu (i + 1) ds
def dZip : List D → List D → List D
  | x :: xs, y :: ys => .tup [x, y] :: dZip xs ys
  | _, _ => []

/-! ### targets -/
def T.own : T → List Nat
  | .one i => [i]
  | .many is => is
def setAll : List Nat → List D → Env → Env
  | i :: is, d :: ds, ρ => setAll is ds (ρ.set i (some d))
  | _, _, ρ => ρ
def bindT (t : T) (d : D) (ρ : Env) : Option Env := match t with
  | .one i => some (ρ.set i (some d))
  | .many is => match d with
    | .tup ds => if ds.length = is.length then some (setAll is ds ρ) else none
    | _ => none
def wipeE (ρ : Env) : List Nat → Env
  | [] => ρ
  | v :: vs => (wipeE ρ vs).set v none
def look (ρ : Env) (i : Nat) : Option D := match ρ[i]? with
  | some (some d) => some d
  | _ => none
def putK {α : Type} (kvs : List (L2.Key × α)) (k : L2.Key) (v : α) : List (L2.Key × α) :=
  if (kvs.any fun e => decide (e.1 = k)) = true then kvs.map (fun e => if e.1 = k then (e.1, v) else e) else kvs ++ [(k, v)]

def compLoop (f : D → Os → Res (Option D)) : List D → Os → Res (List D)
  | [], o => .ok [] o
  | x :: xs, o => (f x o).bind fun d o => (compLoop f xs o).bind fun ds o => .ok (match d with
    | some d => d :: ds
    | none => ds) o

section
variable (F : Fs) (G : Gs)
mutual
def den : E → Env → Os → Res D
  | .int i, _, o => .ok (.int i) o
  | .str x, _, o => .ok (.str x) o
  | .bl b, _, o => .ok (.bl b) o
  | .non, _, o => .ok .non o
  | .var i, ρ, o => .of (look ρ i) o
  | .glb j, _, o => .of (G j) o
  | .tup es, ρ, o => (denEs es ρ o).bind fun ds o => .ok (.tup ds) o
  | .lst es, ρ, o => (denEs es ρ o).bind fun ds o => .ok (.lst ds) o
  | .bin p a b, ρ, o => (den a ρ o).bind fun x o => (den b ρ o).bind fun y o => .of (dBin p x y) o
  | .neg a, ρ, o => (den a ρ o).bind fun x o => .of (dNeg x) o
  | .not a, ρ, o => (den a ρ o).bind fun x o => .of ((dTru x).map fun k => .bl (!k)) o
  | .cmp p a b, ρ, o => (den a ρ o).bind fun x o => (den b ρ o).bind fun y o => .of ((dCmp p (drf o x) (drf o y)).map .bl) o
  | .chn p q a b c, ρ, o => (den a ρ o).bind fun x o => (den b ρ o).bind fun y o => (Res.of (dCmp p x y) o).bind fun k o =>
      if k = true then (den c ρ o).bind fun z o => .of ((dCmp q y z).map .bl) o else .ok (.bl false) o
  | .and a b, ρ, o => (den a ρ o).bind fun x o => (Res.of (dTru x) o).bind fun k o => if k = true then den b ρ o else .ok x o
  | .or a b, ρ, o => (den a ρ o).bind fun x o => (Res.of (dTru x) o).bind fun k o => if k = true then .ok x o else den b ρ o
  | .ite c a b, ρ, o => (den c ρ o).bind fun x o => (Res.of (dTru x) o).bind fun k o => if k = true then den a ρ o else den b ρ o
  | .call f es, ρ, o => (denEs es ρ o).bind fun ds o => F f ds o
  | .bi b es, ρ, o => (denEs es ρ o).bind fun ds o => .of (dBi b ds) o
  | .isi a t, ρ, o => (den a ρ o).bind fun x o => .of ((dIs t x).map .bl) o
  | .idx a i, ρ, o => (den a ρ o).bind fun x o => (den i ρ o).bind fun y o => .of (dIdx x y o) o
  | .slc a lo hi, ρ, o => (den a ρ o).bind fun x o => (denEO lo ρ o).bind fun l o => (denEO hi ρ o).bind fun h o => .of (dSl x l h) o
  | .comp elt t it c, ρ, o => (denI it ρ o).bind fun xs o => (compLoop (fun x o => (Res.of (bindT t x (wipeE ρ t.own)) o).bind fun ρ o =>
      (denC c ρ o).calm.bind fun k o => if k = true then (den elt ρ o).calm.bind fun d o => .ok (some d) o else .ok none o) xs o).bind fun ds o => .ok (.lst ds) o
  | .dic k1 k2 k3 k4 a b c d, ρ, o => (den a ρ o).bind fun x o => (den b ρ o).bind fun y o => (den c ρ o).bind fun z o => (den d ρ o).bind fun u o =>
      .ok (.ref o.length) (o ++ [.dic [(.inr k1, x), (.inr k2, y), (.inr k3, z), (.inr k4, u)]])
  | .mth m a e, ρ, o => (den a ρ o).bind fun x o => match x with
    | .str x => (den e ρ o).bind fun d o => .of (dMt m x d) o
    | _ => .bad
  | .hp e, ρ, o => (den e ρ o).bind fun d o => match d with
    | .lst ds => .ok (.ref o.length) (o ++ [.lst ds])
    | _ => .bad
  | .hpop a, ρ, o => (den a ρ o).bind fun x o => match x with
    | .ref n => match o[n]? with
      | some (.lst (d :: ds)) => .ok d (o.set n (.lst ds))
      | _ => .bad
    | _ => .bad
  | .bad, _, _ => .bad
def denEs : Es → Env → Os → Res (List D)
  | .nil, _, o => .ok [] o
  | .cons e es, ρ, o => (den e ρ o).bind fun d o => (denEs es ρ o).bind fun ds o => .ok (d :: ds) o
def denEO : EO → Env → Os → Res (Option Int)
  | .none, _, o => .ok none o
  | .some e, ρ, o => (den e ρ o).bind fun d o => match d with
    | .int i => .ok (some i) o
    | _ => .bad
/-- a comprehension's test -/
def denC : EO → Env → Os → Res Bool
  | .none, _, o => .ok true o
  | .some e, ρ, o => (den e ρ o).bind fun d o => .of (dTru d) o
def denI : I → Env → Os → Res (List D)
  | .seq e, ρ, o => (den e ρ o).bind fun d o => .of (dSeq d) o
  | .own i, ρ, o => match look ρ i with
    | some (.lst ds) => .ok ds o
    | _ => .bad
  | .rng1 a, ρ, o => (den a ρ o).bind fun x o => match x with
    | .int j => if rngOk 0 j then .ok (dRng 0 j) o else .bad
    | _ => .bad
  | .rng2 a b, ρ, o => (den a ρ o).bind fun x o => (den b ρ o).bind fun y o => match x, y with
    | .int i, .int j => if rngOk i j then .ok (dRng i j) o else .bad
    | _, _ => .bad
  | .zip a b, ρ, o => (den a ρ o).bind fun x o => (den b ρ o).bind fun y o => match dLs x, dLs y with
    | some xs, some ys => .ok (dZip xs ys) o
    | _, _ => .bad
  | .enu a, ρ, o => (den a ρ o).bind fun x o => match dLs x with
    | some xs => .ok (dEnu 0 xs) o
    | none => .bad
end
/-- a test -/
def denT (e : E) (ρ : Env) (o : Os) : Res Bool := (den F G e ρ o).bind fun d o => .of (dTru d) o
end

/-! ### statements -/
inductive Out where
  | nx (ρ : Env) | ct (ρ : Env) | ret (d : D)

def forLoop (f : D → Env → Os → Res Out) : List D → Env → Os → Res Out
  | [], ρ, o => .ok (.nx ρ) o
  | x :: xs, ρ, o => (f x ρ o).bind fun r o => match r with
    | .nx ρ => forLoop f xs ρ o
    | .ct ρ => forLoop f xs ρ o
    | .ret d => .ok (.ret d) o
def whlN (c : Env → Os → Res Bool) (b : Env → Os → Res Out) : Nat → Env → Os → Res Out
  | 0, _, _ => .bad
  | n + 1, ρ, o => (c ρ o).bind fun k o => if k = true then (b ρ o).bind fun r o => match r with
    | .nx ρ => whlN c b n ρ o
    | .ct ρ => whlN c b n ρ o
    | .ret d => .ok (.ret d) o
    else .ok (.nx ρ) o
open Classical in
noncomputable def whl (c : Env → Os → Res Bool) (b : Env → Os → Res Out) (ρ : Env) (o : Os) : Res Out :=
  if h : ∃ n, whlN c b n ρ o ≠ .bad then whlN c b (Classical.choose h) ρ o else .bad
theorem whlN_mono {c : Env → Os → Res Bool} {b : Env → Os → Res Out} : ∀ (n : Nat) (ρ : Env) (o : Os), whlN c b n ρ o ≠ .bad → whlN c b (n + 1) ρ o = whlN c b n ρ o
  | 0, _, _, h => absurd rfl h
  | n + 1, ρ, o, h => by
    rw [whlN] at h ⊢
    rw [whlN]
    cases hc : c ρ o with
    | bad => rw [hc] at h; exact absurd rfl h
    | exn x o1 => rfl
    | ok k o1 =>
      rw [hc] at h
      simp only [Res.bind] at h ⊢
      by_cases hk : k = true
      · rw [if_pos hk] at h ⊢
        rw [if_pos hk]
        cases hb : b ρ o1 with
        | bad => (rw [hb] at h <;> exact absurd rfl h)
        | exn x o2 => rfl
        | ok r o2 =>
          rw [hb] at h
          cases r with
          | nx ρ2 => exact whlN_mono n ρ2 o2 h
          | ct ρ2 => exact whlN_mono n ρ2 o2 h
          | ret d => rfl
      · rw [if_neg hk, if_neg hk]
theorem whlN_le {c : Env → Os → Res Bool} {b : Env → Os → Res Out} {n m : Nat} {ρ : Env} {o : Os} (h : whlN c b n ρ o ≠ .bad) (hm : n ≤ m) : whlN c b m ρ o = whlN c b n ρ o := by
  induction hm with
  | refl => rfl
  | step _ ih => rw [whlN_mono _ _ _ (by rw [ih]; exact h), ih]
theorem whl_of {c : Env → Os → Res Bool} {b : Env → Os → Res Out} {n : Nat} {ρ : Env} {o : Os} (h : whlN c b n ρ o ≠ .bad) : whl c b ρ o = whlN c b n ρ o := by
  have hx : ∃ n, whlN c b n ρ o ≠ .bad := ⟨n, h⟩
  unfold whl
  rw [dif_pos hx]
  rcases Nat.le_total n (Classical.choose hx) with q | q
  · exact whlN_le h q
  · exact (whlN_le (Classical.choose_spec hx) q).symm
theorem whl_ne {c : Env → Os → Res Bool} {b : Env → Os → Res Out} {ρ : Env} {o : Os} (h : whl c b ρ o ≠ .bad) : ∃ n, whlN c b n ρ o = whl c b ρ o := by
  unfold whl at h ⊢
  by_cases hx : ∃ n, whlN c b n ρ o ≠ .bad
  · rw [dif_pos hx]; exact ⟨_, rfl⟩
  · rw [dif_neg hx] at h; exact absurd rfl h
/-- the loop's one turn -/
theorem whl_turn (c : Env → Os → Res Bool) (b : Env → Os → Res Out) (ρ : Env) (o : Os) :
    whl c b ρ o = (c ρ o).bind fun k o => if k = true then (b ρ o).bind fun r o => match r with
    | .nx ρ => whl c b ρ o
    | .ct ρ => whl c b ρ o
    | .ret d => .ok (.ret d) o
    else .ok (.nx ρ) o := by
  by_cases h : whl c b ρ o = .bad
  · rw [h]
    cases hc : c ρ o with
    | bad => rfl
    | exn x o1 =>
      have : whlN c b 1 ρ o ≠ .bad := by rw [whlN, hc]; simp
      rw [whl_of this, whlN, hc] at h
      exact nomatch h
    | ok k o1 =>
      simp only [Res.bind]
      by_cases hk : k = true
      · rw [if_pos hk]
        cases hb : b ρ o1 with
        | bad => rfl
        | exn x o2 =>
          have : whlN c b 1 ρ o ≠ .bad := by rw [whlN, hc]; simp [hk, hb]
          rw [whl_of this, whlN, hc] at h
          simp [hk, hb] at h
        | ok r o2 =>
          have key : ∀ ρ2, (r = .nx ρ2 ∨ r = .ct ρ2) → whl c b ρ2 o2 = .bad := fun ρ2 hr => by
            apply Classical.byContradiction
            intro q
            obtain ⟨n, e⟩ := whl_ne q
            have e1 : whlN c b (n + 1) ρ o = whl c b ρ2 o2 := by
              rw [whlN, hc]
              simp only [Res.bind]
              rw [if_pos hk, hb]
              rcases hr with hr | hr <;> rw [hr] <;> exact e
            rw [whl_of (n := n + 1) (by rw [e1]; exact q), e1] at h
            exact q h
          cases r with
          | nx ρ2 => exact (key ρ2 (.inl rfl)).symm
          | ct ρ2 => exact (key ρ2 (.inr rfl)).symm
          | ret d =>
            have : whlN c b 1 ρ o ≠ .bad := by rw [whlN, hc]; simp [hk, hb]
            rw [whl_of this, whlN, hc] at h
            simp [hk, hb] at h
      · have : whlN c b 1 ρ o ≠ .bad := by rw [whlN, hc]; simp [hk]
        rw [whl_of this, whlN, hc] at h
        simp [hk] at h
  · obtain ⟨n, e⟩ := whl_ne h
    rw [← e]
    rw [← e] at h
    cases n with
    | zero => exact absurd rfl h
    | succ n =>
      rw [whlN] at h ⊢
      cases hc : c ρ o with
      | bad => rfl
      | exn x o1 => rfl
      | ok k o1 =>
        rw [hc] at h
        simp only [Res.bind] at h ⊢
        by_cases hk : k = true
        · rw [if_pos hk] at h ⊢
          rw [if_pos hk]
          cases hb : b ρ o1 with
          | bad => rfl
          | exn x o2 => rfl
          | ok r o2 =>
            rw [hb] at h
            cases r with
            | nx ρ2 => exact (whl_of h).symm
            | ct ρ2 => exact (whl_of h).symm
            | ret d => rfl
        · rw [if_neg hk, if_neg hk]

def isL (ρ : Env) (i : Nat) : Bool := match look ρ i with
  | some (.lst _) => true
  | _ => false
def setAt (ρ : Env) (i : Nat) (k : D) (d : D) : Option Env := match look ρ i, k with
  | some (.lst ds), .int k => match L2.ixN ds.length k with
    | some j => some (ρ.set i (some (.lst (ds.set j d))))
    | none => none
  | _, _ => none
section
variable (F : Fs) (G : Gs)
mutual
noncomputable def denS : S → Env → Os → Res Out
  | .asg t e, ρ, o => (den F G e ρ o).bind fun d o => (Res.of (bindT t d ρ) o).bind fun ρ o => .ok (.nx ρ) o
  | .par i j a b, ρ, o => (den F G a ρ o).bind fun x o => (den F G b ρ o).bind fun y o => .ok (.nx ((ρ.set i (some x)).set j (some y))) o
  | .sto i ix e, ρ, o => (den F G e ρ o).bind fun d o => if isL ρ i = true then (den F G ix ρ o).bind fun k o => (Res.of (setAt ρ i k d) o).bind fun ρ o => .ok (.nx ρ) o else .bad
  | .stoP i ix jx a b, ρ, o => (den F G a ρ o).bind fun x o => (den F G b ρ o).bind fun y o => if isL ρ i = true then (den F G ix ρ o).bind fun k o =>
      (Res.of (setAt ρ i k x) o).bind fun ρ o => (den F G jx ρ o).bind fun k o => (Res.of (setAt ρ i k y) o).bind fun ρ o => .ok (.nx ρ) o else .bad
  | .dst m k e, ρ, o => (den F G e ρ o).bind fun d o => (den F G m ρ o).bind fun x o => (den F G k ρ o).bind fun y o => match x, y with
    | .ref n, .str z => match o[n]? with
      | some (.dic kvs) => if kvs.length < line then .ok (.nx ρ) (o.set n (.dic (putK kvs (.inr z) d))) else .bad
      | _ => .bad
    | _, _ => .bad
  | .app i e, ρ, o => match look ρ i with
    | some (.lst ds) => (den F G e ρ o).bind fun d o => if ds.length < line then .ok (.nx (ρ.set i (some (.lst (ds ++ [d]))))) o else .bad
    | _ => .bad
  | .ext i e, ρ, o => match look ρ i with
    | some (.lst ds) => (den F G e ρ o).bind fun d o => match d with
      | .lst es => if ds.length + es.length ≤ line then .ok (.nx (ρ.set i (some (.lst (ds ++ es))))) o else .bad
      | _ => .bad
    | _ => .bad
  | .pop t i, ρ, o => match look ρ i with
    | some (.lst ds) => match ds[ds.length - 1]? with
      | some d => match t with
        | none => .ok (.nx (ρ.set i (some (.lst ds.dropLast)))) o
        | some t => (Res.of (bindT t d (ρ.set i (some (.lst ds.dropLast)))) o).bind fun ρ o => .ok (.nx ρ) o
      | none => .bad
    | _ => .bad
  | .exp e, ρ, o => (den F G e ρ o).bind fun _ o => .ok (.nx ρ) o
  | .ite c a b, ρ, o => (denT F G c ρ o).bind fun k o => if k = true then denSs a ρ o else denSs b ρ o
  | .for t it b, ρ, o => (denI F G it ρ o).bind fun xs o => forLoop (fun x ρ o => (Res.of (bindT t x ρ) o).bind fun ρ o => denSs b ρ o) xs ρ o
  | .whl c b, ρ, o => whl (denT F G c) (fun ρ o => denSs b ρ o) ρ o
  | .ret e, ρ, o => (den F G e ρ o).bind fun d o => .ok (.ret d) o
  | .retN, _, o => .ok (.ret .non) o
  | .cont, ρ, o => .ok (.ct ρ) o
  | .pass, ρ, o => .ok (.nx ρ) o
  | .bad, _, _ => .bad
noncomputable def denSs : Ss → Env → Os → Res Out
  | .nil, ρ, o => .ok (.nx ρ) o
  | .cons s ss, ρ, o => (denS s ρ o).bind fun r o => match r with
    | .nx ρ => denSs ss ρ o
    | .ct ρ => .ok (.ct ρ) o
    | .ret d => .ok (.ret d) o
end
end

/-- a def: its name, how many parameters, its names by slot, its body, whether it hands back a list that nobody else holds -/
structure Fn where
  name : Str
  np : Nat
  N : List Str
  body : Ss
  fresh : Bool

noncomputable def runBody (F : Fs) (G : Gs) (f : Fn) (ds : List D) (o : Os) : Res D :=
  if ds.length = f.np then (denSs F G f.body (ds.map some ++ List.replicate (f.N.length - ds.length) none) o).bind fun r o => match r with
    | .nx _ => .ok .non o
    | .ct _ => .bad
    | .ret d => .ok d o
  else .bad
noncomputable def sem (G : Gs) (fns : List Fn) : Nat → Fs
  | 0 => fun _ _ _ => .bad
  | k + 1 => fun i ds o => match fns[i]? with
    | some f => runBody (sem G fns k) G f ds o
    | none => .bad
end Ev

/-! how the small language's data stand in the abstract heap -/
namespace Ev
open PySem L2 PySem.Spec PyProof.Rows

/-- S: what never changes any more; ι: where the small heap's objects stand -/
structure W where
  S : Hp
  ι : List Addr
structure W.Le (w w' : W) : Prop where
  s : ∀ a u, w.S a = some u → w'.S a = some u
  i : ∀ (n : Nat) a, w.ι[n]? = some a → w'.ι[n]? = some a
theorem W.Le.refl (w : W) : W.Le w w := ⟨fun _ _ h => h, fun _ _ h => h⟩
theorem W.Le.trans {a b c : W} (x : W.Le a b) (y : W.Le b c) : W.Le a c := ⟨fun p u h => y.s p u (x.s p u h), fun n p h => y.i n p (x.i n p h)⟩
theorem W.Le.mem {w w' : W} (x : W.Le w w') {a : Addr} (h : a ∈ w.ι) : a ∈ w'.ι := by
  obtain ⟨n, e⟩ := List.getElem?_of_mem h
  exact List.mem_of_getElem? (x.i n a e)

theorem rd_mono {S S' : Hp} {a : Addr} {u : HO} (h : ∀ a u, S a = some u → S' a = some u) (r : Rd S a u) : Rd S' a u := by
  rcases r with r | ⟨o, r⟩
  · exact .inl (h _ _ r)
  · exact .inr ⟨o, h _ _ r⟩
theorem sqT_mono {K : PySem.W.Frag} {S S' : Hp} {a : Addr} {xs : List V} (h : ∀ a u, S a = some u → S' a = some u) (r : SqT K S a xs) : SqT K S' a xs := by
  rcases r with r | r
  · exact .inl (rd_mono h r)
  · exact .inr r
theorem sqL_mono {K : PySem.W.Frag} {S S' : Hp} {a : Addr} {xs : List V} (h : ∀ a u, S a = some u → S' a = some u) (r : SqL K S a xs) : SqL K S' a xs := by
  rcases r with r | r
  · exact .inl (rd_mono h r)
  · exact .inr r

mutual
inductive Rep (K : PySem.W.Frag) (w : W) : V → D → Prop
  | non : Rep K w .non .non
  | bl (b : Bool) : Rep K w (.bl b) (.bl b)
  | int (i : Int) : Rep K w (.int i) (.int i)
  | str (x : Str) : Rep K w (.str x) (.str x)
  | tup {a : Addr} {vs : List V} {ds : List D} (h : SqT K w.S a vs) (r : Reps K w vs ds) : Rep K w (.ref a) (.tup ds)
  | lst {a : Addr} {vs : List V} {ds : List D} (h : w.S a = some (.lst vs)) (r : Reps K w vs ds) : Rep K w (.ref a) (.lst ds)
  | scr {a : Addr} {vs : List V} {ds : List D} (h : SqL K w.S a vs) (r : Reps K w vs ds) : Rep K w (.ref a) (.scr ds)
  | ref {n : Nat} {a : Addr} (h : w.ι[n]? = some a) : Rep K w (.ref a) (.ref n)
inductive Reps (K : PySem.W.Frag) (w : W) : List V → List D → Prop
  | nil : Reps K w [] []
  | cons {v : V} {vs : List V} {d : D} {ds : List D} (h : Rep K w v d) (r : Reps K w vs ds) : Reps K w (v :: vs) (d :: ds)
end
section
variable {K : PySem.W.Frag} {w w' : W}
mutual
theorem Rep.mono (l : W.Le w w') : ∀ {v : V} {d : D}, Rep K w v d → Rep K w' v d
  | _, _, .non => .non
  | _, _, .bl b => .bl b
  | _, _, .int i => .int i
  | _, _, .str x => .str x
  | _, _, .tup h r => .tup (sqT_mono l.s h) (Reps.mono l r)
  | _, _, .lst h r => .lst (l.s _ _ h) (Reps.mono l r)
  | _, _, .scr h r => .scr (sqL_mono l.s h) (Reps.mono l r)
  | _, _, .ref h => .ref (l.i _ _ h)
theorem Reps.mono (l : W.Le w w') : ∀ {vs : List V} {ds : List D}, Reps K w vs ds → Reps K w' vs ds
  | _, _, .nil => .nil
  | _, _, .cons h r => .cons (Rep.mono l h) (Reps.mono l r)
end
theorem Reps.length : ∀ {vs : List V} {ds : List D}, Reps K w vs ds → vs.length = ds.length
  | _, _, .nil => rfl
  | _, _, .cons _ r => congrArg (· + 1) (Reps.length r)
theorem Reps.append : ∀ {vs us : List V} {ds es : List D}, Reps K w vs ds → Reps K w us es → Reps K w (vs ++ us) (ds ++ es)
  | _, _, _, _, .nil, s => s
  | _, _, _, _, .cons h r, s => .cons h (Reps.append r s)
theorem Reps.get : ∀ {vs : List V} {ds : List D} {i : Nat} {d : D}, Reps K w vs ds → ds[i]? = some d → ∃ v, vs[i]? = some v ∧ Rep K w v d
  | _, _, _, _, .nil, no => by simp at no
  | _, _, 0, _, .cons h _, e => by simp at e; subst e; exact ⟨_, rfl, h⟩
  | _, _, i + 1, _, .cons _ r, e => by
    obtain ⟨v, h1, h2⟩ := Reps.get (i := i) r (by simpa using e)
    exact ⟨v, by simpa using h1, h2⟩
theorem Reps.set {v : V} {d : D} (h : Rep K w v d) : ∀ {vs : List V} {ds : List D} (i : Nat), Reps K w vs ds → Reps K w (vs.set i v) (ds.set i d)
  | _, _, _, .nil => .nil
  | _, _, 0, .cons _ r => .cons h r
  | _, _, i + 1, .cons g r => .cons g (Reps.set h i r)
theorem Reps.drop : ∀ {vs : List V} {ds : List D} (n : Nat), Reps K w vs ds → Reps K w (vs.drop n) (ds.drop n)
  | _, _, 0, r => r
  | _, _, _ + 1, .nil => .nil
  | _, _, n + 1, .cons _ r => Reps.drop n r
theorem Reps.take : ∀ {vs : List V} {ds : List D} (n : Nat), Reps K w vs ds → Reps K w (vs.take n) (ds.take n)
  | _, _, 0, _ => .nil
  | _, _, _ + 1, .nil => .nil
  | _, _, n + 1, .cons h r => .cons h (Reps.take n r)
theorem Reps.cut {vs : List V} {ds : List D} (r : Reps K w vs ds) (lo hi : Option Int) : Reps K w (cutV vs lo hi) (cut ds lo hi) := by
  unfold cutV Ev.cut
  rw [r.length]
  exact (r.drop _).take _
theorem Reps.rep {vs : List V} {ds : List D} (r : Reps K w vs ds) : ∀ n : Nat, Reps K w (List.replicate n vs).flatten (List.replicate n ds).flatten
  | 0 => .nil
  | n + 1 => by
    simp only [List.replicate_succ, List.flatten_cons]
    exact r.append (r.rep n)
theorem Reps.dropLast {vs : List V} {ds : List D} (r : Reps K w vs ds) : Reps K w vs.dropLast ds.dropLast := by
  rw [List.dropLast_eq_take, List.dropLast_eq_take, r.length]
  exact r.take _
theorem Reps.nil_iff {vs : List V} {ds : List D} (r : Reps K w vs ds) : vs = [] ↔ ds = [] := by
  cases r <;> simp
theorem Reps.isEmpty {vs : List V} {ds : List D} (r : Reps K w vs ds) : vs.isEmpty = ds.isEmpty := by
  cases r <;> rfl
end

def KReps (K : PySem.W.Frag) (w : W) : List (Key × V) → List (Key × D) → Prop := Paired fun p q => p.1 = q.1 ∧ Rep K w p.2 q.2
theorem KReps.mono {K : PySem.W.Frag} {w w' : W} (l : W.Le w w') {a : List (Key × V)} {b : List (Key × D)} (h : KReps K w a b) : KReps K w' a b := Paired.mapP h fun _ _ x => ⟨x.1, x.2.mono l⟩
def ObR (K : PySem.W.Frag) (w : W) (H : Hp) (a : Addr) : Ob → Prop
  | .lst ds => ∃ vs, H a = some (.lst vs) ∧ Reps K w vs ds
  | .dic kvs => ∃ us, H a = some (.dK us) ∧ KReps K w us kvs
theorem ObR.has {K : PySem.W.Frag} {w : W} {H : Hp} {a : Addr} {b : Ob} (h : ObR K w H a b) : ∃ u, H a = some u := by
  cases b with
  | lst ds => obtain ⟨vs, e, _⟩ := h; exact ⟨_, e⟩
  | dic kvs => obtain ⟨vs, e, _⟩ := h; exact ⟨_, e⟩
theorem ObR.mono' {K : PySem.W.Frag} {w w' : W} {H H' : Hp} {a : Addr} {b : Ob} (h : ObR K w H a b) (l : W.Le w w') (k : ∀ u, H a = some u → H' a = some u) : ObR K w' H' a b := by
  cases b with
  | lst ds => obtain ⟨vs, e, r⟩ := h; exact ⟨vs, k _ e, r.mono l⟩
  | dic kvs => obtain ⟨vs, e, r⟩ := h; exact ⟨vs, k _ e, r.mono l⟩

/-- the small heap in the abstract one -/
structure HR (K : PySem.W.Frag) (w : W) (H : Hp) (o : Os) : Prop where
  sub : ∀ a u, w.S a = some u → H a = some u
  len : w.ι.length = o.length
  nd : w.ι.Nodup
  ob : ∀ (n : Nat) a b, w.ι[n]? = some a → o[n]? = some b → w.S a = none ∧ ObR K w H a b
theorem HR.has {K : PySem.W.Frag} {w : W} {H : Hp} {o : Os} (h : HR K w H o) {a : Addr} (m : a ∈ w.ι) : w.S a = none ∧ ∃ u, H a = some u := by
  obtain ⟨n, e⟩ := List.getElem?_of_mem m
  have hn : n < w.ι.length := by
    rcases Nat.lt_or_ge n w.ι.length with q | q
    · exact q
    · rw [List.getElem?_eq_none q] at e; cases e
  have hn' : n < o.length := by rw [← h.len]; exact hn
  obtain ⟨s, b⟩ := h.ob n a o[n] e (List.getElem?_eq_getElem hn')
  exact ⟨s, ObR.has b⟩

/-- where a def was entered -/
structure Base where
  w : W
  H : Hp
  /-- lists that are being made -/
  Z : List (Addr × HO) := []
structure Post (b : Base) (w : W) (H : Hp) : Prop where
  le : W.Le b.w w
  keep : ∀ a u, b.H a = some u → a ∉ b.w.ι → H a = some u
  frS : ∀ a u, w.S a = some u → b.w.S a = some u ∨ b.H a = none
  frI : ∀ a ∈ w.ι, a ∈ b.w.ι ∨ b.H a = none
theorem Post.refl (w : W) (H : Hp) (Z : List (Addr × HO)) : Post ⟨w, H, Z⟩ w H := ⟨.refl w, fun _ _ h _ => h, fun _ _ h => .inl h, fun _ h => .inl h⟩
theorem Post.new {K : PySem.W.Frag} {b : Base} {w : W} {H : Hp} {o : Os} (p : Post b w H) (h : HR K w H o) {a : Addr} (e : H a = none) : b.H a = none := by
  cases q : b.H a with
  | none => rfl
  | some u =>
    by_cases m : a ∈ b.w.ι
    · obtain ⟨_, u2, e2⟩ := h.has (p.le.mem m)
      rw [e] at e2; cases e2
    · rw [p.keep a u q m] at e; cases e

/-- a list that one slot alone holds -/
def Own (K : PySem.W.Frag) (b : Base) (w : W) (H : Hp) (v : V) (d : D) : Prop :=
  ∃ a vs ds, v = .ref a ∧ d = .lst ds ∧ H a = some (.lst vs) ∧ Reps K w vs ds ∧ w.S a = none ∧ a ∉ w.ι ∧ b.H a = none

/-- the lists that are being made stand, nobody else holds them -/
def Tmp (b : Base) (O : List Nat) (w : W) (σ : L2.St) (ρ : Env) (H : Hp) : Prop :=
  ∀ p ∈ b.Z, H p.1 = some p.2 ∧ w.S p.1 = none ∧ p.1 ∉ w.ι ∧ b.H p.1 = none ∧ ∀ i, i ∈ O → (look ρ i).isSome = true → σ[i]? ≠ some (some (.ref p.1))

structure R (K : PySem.W.Frag) (b : Base) (O : List Nat) (w : W) (σ : L2.St) (ρ : Env) (H : Hp) (o : Os) : Prop where
  hr : HR K w H o
  po : Post b w H
  len : σ.length = ρ.length
  loc : ∀ (i : Nat) d, look ρ i = some d → ∃ v, σ[i]? = some (some v) ∧ (i ∈ O → Own K b w H v d) ∧ (i ∉ O → Rep K w v d)
  ap : ∀ (i j : Nat) v, i ∈ O → j ∈ O → i ≠ j → (look ρ i).isSome = true → (look ρ j).isSome = true → σ[i]? = some (some v) → σ[j]? = some (some v) → False
  tz : Tmp b O w σ ρ H

section
variable {K : PySem.W.Frag} {b : Base} {O O' : List Nat} {w w' : W} {σ : L2.St} {ρ : Env} {H H' : Hp} {o : Os}

theorem Own.mono (l : W.Le w w') {v : V} {d : D} (h : Own K b w H v d) (k : ∀ a u, v = .ref a → H a = some u → H' a = some u) (ns : ∀ a, v = .ref a → w.S a = none → w'.S a = none) (ni : ∀ a, v = .ref a → a ∉ w.ι → a ∉ w'.ι) : Own K b w' H' v d := by
  obtain ⟨a, vs, ds, e1, e2, e3, e4, e5, e6, e7⟩ := h
  exact ⟨a, vs, ds, e1, e2, k a _ e1 e3, e4.mono l, ns a e1 e5, ni a e1 e6, e7⟩

open Classical in
/-- lists of slots are let go: they never change any more -/
theorem R.leak (r : R K b O w σ ρ H o) (h : ∀ i, i ∈ O' → i ∈ O) : ∃ w', W.Le w w' ∧ R K b O' w' σ ρ H o := by
  let P : Addr → Prop := fun a => ∃ i d, i ∈ O ∧ i ∉ O' ∧ look ρ i = some d ∧ σ[i]? = some (some (.ref a))
  have hP : ∀ a, P a → ∃ vs ds, H a = some (.lst vs) ∧ Reps K w vs ds ∧ w.S a = none ∧ a ∉ w.ι ∧ b.H a = none := by
    rintro a ⟨i, d, h1, h2, h3, h4⟩
    obtain ⟨v, e, ow, _⟩ := r.loc i d h3
    obtain ⟨a', vs, ds, q1, q2, q3, q4, q5, q6, q7⟩ := ow h1
    rw [h4] at e; cases e; cases q1
    exact ⟨vs, ds, q3, q4, q5, q6, q7⟩
  have le1 : ∀ a u, w.S a = some u → (if P a then H a else w.S a) = some u := fun a u e => by
    rw [if_neg]
    · exact e
    · intro p
      obtain ⟨_, _, _, _, q, _⟩ := hP a p
      rw [e] at q
      cases q
  have le : W.Le w ⟨fun a => if P a then H a else w.S a, w.ι⟩ := ⟨le1, fun _ _ e => e⟩
  refine ⟨⟨fun a => if P a then H a else w.S a, w.ι⟩, le, ⟨⟨fun a u e => ?_, r.hr.len, r.hr.nd, fun n a c e1 e2 => ?_⟩, ⟨r.po.le.trans le, r.po.keep, fun a u e => ?_, r.po.frI⟩, r.len, fun i d e => ?_, fun i j v hi hj => r.ap i j v (h i hi) (h j hj), fun p hp => ?_⟩⟩
  · have e : (if P a then H a else w.S a) = some u := e
    by_cases p : P a
    · rw [if_pos p] at e; exact e
    · rw [if_neg p] at e; exact r.hr.sub a u e
  · obtain ⟨s, ob⟩ := r.hr.ob n a c e1 e2
    refine ⟨?_, ObR.mono' ob le fun u e => e⟩
    show (if P a then H a else w.S a) = none
    rw [if_neg]
    · exact s
    · intro p
      obtain ⟨_, _, _, _, _, q, _⟩ := hP a p
      exact q (List.mem_of_getElem? e1)
  · have e : (if P a then H a else w.S a) = some u := e
    by_cases p : P a
    · obtain ⟨_, _, _, _, _, _, q⟩ := hP a p
      exact .inr q
    · rw [if_neg p] at e; exact r.po.frS a u e
  · obtain ⟨v, e1, ow, re⟩ := r.loc i d e
    refine ⟨v, e1, fun hi => ?_, fun hi => ?_⟩
    · refine (ow (h i hi)).mono le (fun _ _ _ e => e) (fun a ev s => ?_) (fun _ _ q => q)
      show (if P a then H a else w.S a) = none
      rw [if_neg]
      · exact s
      · rintro ⟨j, d2, h1, h2, h3, h4⟩
        refine r.ap i j v (h i hi) h1 (fun z => h2 (z ▸ hi)) (by rw [e]; rfl) (by rw [h3]; rfl) e1 (by rw [h4, ev])
    · by_cases hO : i ∈ O
      · obtain ⟨a, vs, ds, q1, q2, q3, q4, q5, q6, q7⟩ := ow hO
        subst q1 q2
        refine .lst ?_ (q4.mono le)
        show (if P a then H a else w.S a) = _
        rw [if_pos ⟨i, _, hO, hi, e, e1⟩]
        exact q3
      · exact (re hO).mono le
  · obtain ⟨z1, z2, z3, z4, z5⟩ := r.tz p hp
    refine ⟨z1, ?_, z3, z4, fun i hi => z5 i (h i hi)⟩
    show (if P p.1 then H p.1 else w.S p.1) = none
    rw [if_neg]
    · exact z2
    · rintro ⟨j, d2, h1, h2, h3, h4⟩
      exact z5 j h1 (by rw [h3]; rfl) h4

/-- what is read of a value now -/
def Vw (K : PySem.W.Frag) (w : W) (H : Hp) (v : V) (d : D) : Prop :=
  (∃ a vs ds, v = .ref a ∧ d = .lst ds ∧ H a = some (.lst vs) ∧ Reps K w vs ds) ∨ ((∀ ds, d ≠ .lst ds) ∧ Rep K w v d)
theorem Rep.vw (h : HR K w H o) {v : V} {d : D} (r : Rep K w v d) : Vw K w H v d := by
  cases r with
  | lst e q => exact .inl ⟨_, _, _, rfl, rfl, h.sub _ _ e, q⟩
  | _ => exact .inr ⟨(by intro _ z; cases z), by constructor <;> assumption⟩
theorem Own.vw {v : V} {d : D} (h : Own K b w H v d) : Vw K w H v d := by
  obtain ⟨a, vs, ds, e1, e2, e3, e4, _⟩ := h
  exact .inl ⟨a, vs, ds, e1, e2, e3, e4⟩
/-- an argument: a value, or a slot's list -/
def Ar (K : PySem.W.Frag) (w : W) (σ : L2.St) (ρ : Env) (v : V) (d : D) : Prop := Rep K w v d ∨ ∃ i, σ[i]? = some (some v) ∧ look ρ i = some d
theorem Ar.mono (l : W.Le w w') {v : V} {d : D} (h : Ar K w σ ρ v d) : Ar K w' σ ρ v d := h.imp (fun r => r.mono l) fun x => x
theorem Ar.vw (r : R K b O w σ ρ H o) {v : V} {d : D} (h : Ar K w σ ρ v d) : Vw K w H v d := by
  rcases h with h | ⟨i, e1, e2⟩
  · exact h.vw r.hr
  · obtain ⟨v', e, ow, re⟩ := r.loc i d e2
    rw [e1] at e; cases e
    by_cases hO : i ∈ O
    · exact (ow hO).vw
    · exact (re hO).vw r.hr
inductive Ars (K : PySem.W.Frag) (w : W) (σ : L2.St) (ρ : Env) : List V → List D → Prop
  | nil : Ars K w σ ρ [] []
  | cons {v : V} {vs : List V} {d : D} {ds : List D} (h : Ar K w σ ρ v d) (r : Ars K w σ ρ vs ds) : Ars K w σ ρ (v :: vs) (d :: ds)
theorem Ars.mono (l : W.Le w w') : ∀ {vs : List V} {ds : List D}, Ars K w σ ρ vs ds → Ars K w' σ ρ vs ds
  | _, _, .nil => .nil
  | _, _, .cons h r => .cons (h.mono l) (Ars.mono l r)

theorem Reps.sqL (h : HR K w H o) {a : Addr} {vs : List V} (e : SqL K w.S a vs) : SqL K H a vs := sqL_mono h.sub e
theorem Reps.sqT (h : HR K w H o) {a : Addr} {vs : List V} (e : SqT K w.S a vs) : SqT K H a vs := sqT_mono h.sub e

/-! ### the heap grows -/
theorem R.junk (r : R K b O w σ ρ H o) {p : Addr} (u : HO) (e : H p = none) : R K b O w σ ρ (upd H p u) o := by
  have ne : ∀ a u, H a = some u → upd H p u a = some u := fun a u q => by rw [upd_ne (ne_of_none q e)]; exact q
  have ne' : ∀ a v, H a = some v → upd H p u a = some v := fun a v q => by rw [upd_ne (ne_of_none q e)]; exact q
  exact ⟨⟨fun a v q => ne' _ _ (r.hr.sub a v q), r.hr.len, r.hr.nd, fun n a c e1 e2 => let ⟨s, q⟩ := r.hr.ob n a c e1 e2; ⟨s, ObR.mono' q (.refl w) fun v => ne' a v⟩⟩,
    ⟨r.po.le, fun a v q m => ne' _ _ (r.po.keep a v q m), r.po.frS, r.po.frI⟩, r.len,
    fun i d q => let ⟨v, e1, ow, re⟩ := r.loc i d q; ⟨v, e1, fun hi => (ow hi).mono (.refl w) (fun a u _ => ne' a u) (fun _ _ s => s) (fun _ _ s => s), re⟩, r.ap, fun p hp => let ⟨z1, z⟩ := r.tz p hp; ⟨ne' _ _ z1, z⟩⟩
/-- a new object that never changes -/
theorem R.frozen (r : R K b O w σ ρ H o) {p : Addr} (u : HO) (e : H p = none) :
    W.Le w ⟨upd w.S p u, w.ι⟩ ∧ R K b O ⟨upd w.S p u, w.ι⟩ σ ρ (upd H p u) o := by
  have sp : w.S p = none := by
    cases q : w.S p with
    | none => rfl
    | some x => have := r.hr.sub p x q; rw [e] at this; cases this
  have ip : p ∉ w.ι := fun m => by
    obtain ⟨_, u2, e2⟩ := r.hr.has m
    rw [e] at e2; cases e2
  have ne' : ∀ a v, H a = some v → upd H p u a = some v := fun a v q => by rw [upd_ne (ne_of_none q e)]; exact q
  have le : W.Le w ⟨upd w.S p u, w.ι⟩ := ⟨fun a v q => by show upd w.S p u a = some v; rw [upd_ne (ne_of_none q sp)]; exact q, fun _ _ q => q⟩
  have bp : b.H p = none := r.po.new r.hr e
  refine ⟨le, ⟨⟨fun a v q => ?_, r.hr.len, r.hr.nd, fun n a c e1 e2 => ?_⟩, ⟨r.po.le.trans le, fun a v q m => ne' _ _ (r.po.keep a v q m), fun a v q => ?_, r.po.frI⟩, r.len, fun i d q => ?_, r.ap, fun q hq => ?_⟩⟩
  · have q : upd w.S p u a = some v := q
    by_cases h : a = p
    · subst h; rw [upd_same] at q ⊢; exact q
    · rw [upd_ne h] at q ⊢; exact r.hr.sub a v q
  · obtain ⟨s, q⟩ := r.hr.ob n a c e1 e2
    refine ⟨?_, ObR.mono' q le fun v => ne' a v⟩
    show upd w.S p u a = none
    rw [upd_ne (fun z => ip (by rw [← z]; exact List.mem_of_getElem? e1))]; exact s
  · have q : upd w.S p u a = some v := q
    by_cases h : a = p
    · subst h; exact .inr bp
    · rw [upd_ne h] at q; exact r.po.frS a v q
  · obtain ⟨v, e1, ow, re⟩ := r.loc i d q
    refine ⟨v, e1, fun hi => ?_, fun hi => (re hi).mono le⟩
    obtain ⟨a, vs, ds, q1, q2, q3, q4, q5, q6, q7⟩ := ow hi
    refine ⟨a, vs, ds, q1, q2, ne' _ _ q3, q4.mono le, ?_, q6, q7⟩
    show upd w.S p u a = none
    rw [upd_ne (ne_of_none q3 e)]; exact q5
  · obtain ⟨z1, z2, z3⟩ := r.tz q hq
    refine ⟨ne' _ _ z1, ?_, z3⟩
    show upd w.S p u q.1 = none
    rw [upd_ne (ne_of_none z1 e)]; exact z2
theorem R.newTup (r : R K b O w σ ρ H o) {p : Addr} {vs : List V} {ds : List D} (e : H p = none) (q : Reps K w vs ds) :
    ∃ w', W.Le w w' ∧ R K b O w' σ ρ (upd H p (.tup vs)) o ∧ Rep K w' (.ref p) (.tup ds) := by
  obtain ⟨l, r'⟩ := r.frozen (.tup vs) e
  exact ⟨_, l, r', .tup (.inl (.inl upd_same)) (q.mono l)⟩
theorem R.newLst (r : R K b O w σ ρ H o) {p : Addr} {vs : List V} {ds : List D} (e : H p = none) (q : Reps K w vs ds) :
    ∃ w', W.Le w w' ∧ R K b O w' σ ρ (upd H p (.lst vs)) o ∧ Rep K w' (.ref p) (.lst ds) := by
  obtain ⟨l, r'⟩ := r.frozen (.lst vs) e
  exact ⟨_, l, r', .lst upd_same (q.mono l)⟩
/-- no slot holds v as its own -/
def Apart (O : List Nat) (σ : L2.St) (ρ : Env) (v : V) : Prop := ∀ i, i ∈ O → (look ρ i).isSome = true → σ[i]? ≠ some (some v)
theorem R.newOwn (r : R K b O w σ ρ H o) {p : Addr} {vs : List V} {ds : List D} (e : H p = none) (q : Reps K w vs ds) :
    R K b O w σ ρ (upd H p (.lst vs)) o ∧ Own K b w (upd H p (.lst vs)) (.ref p) (.lst ds) ∧ Apart O σ ρ (.ref p) := by
  refine ⟨r.junk _ e, ⟨p, vs, ds, rfl, rfl, upd_same, q, ?_, ?_, r.po.new r.hr e⟩, fun i hi hs h => ?_⟩
  · cases q : w.S p with
    | none => rfl
    | some x => have := r.hr.sub p x q; rw [e] at this; cases this
  · intro m
    obtain ⟨_, u2, e2⟩ := r.hr.has m
    rw [e] at e2; cases e2
  · obtain ⟨d, hd⟩ := Option.isSome_iff_exists.mp hs
    obtain ⟨v, e1, ow, _⟩ := r.loc i d hd
    obtain ⟨a, _, _, q1, _, q3, _⟩ := ow hi
    rw [h] at e1; cases e1; cases q1
    rw [e] at q3; cases q3
/-- an own list becomes a value -/
theorem R.freeze (r : R K b O w σ ρ H o) {v : V} {d : D} (ow : Own K b w H v d) (ap : Apart O σ ρ v) (az : ∀ p ∈ b.Z, v ≠ .ref p.1) : ∃ w', W.Le w w' ∧ R K b O w' σ ρ H o ∧ Rep K w' v d := by
  obtain ⟨p, vs, ds, rfl, rfl, e3, e4, sp, ip, bp⟩ := ow
  have le : W.Le w ⟨upd w.S p (.lst vs), w.ι⟩ := ⟨fun a v q => by show upd w.S p _ a = some v; rw [upd_ne (ne_of_none q sp)]; exact q, fun _ _ q => q⟩
  refine ⟨_, le, ⟨⟨fun a v q => ?_, r.hr.len, r.hr.nd, fun n a c e1 e2 => ?_⟩, ⟨r.po.le.trans le, r.po.keep, fun a v q => ?_, r.po.frI⟩, r.len, fun i d q => ?_, r.ap, fun q hq => ?_⟩, .lst upd_same (e4.mono le)⟩
  · have q : upd w.S p (.lst vs) a = some v := q
    by_cases h : a = p
    · subst h; rw [upd_same] at q; cases q; exact e3
    · rw [upd_ne h] at q; exact r.hr.sub a v q
  · obtain ⟨s, q⟩ := r.hr.ob n a c e1 e2
    refine ⟨?_, ObR.mono' q le fun v e => e⟩
    show upd w.S p _ a = none
    rw [upd_ne (fun z => ip (by rw [← z]; exact List.mem_of_getElem? e1))]; exact s
  · have q : upd w.S p (.lst vs) a = some v := q
    by_cases h : a = p
    · subst h; exact .inr bp
    · rw [upd_ne h] at q; exact r.po.frS a v q
  · obtain ⟨v, e1, ow, re⟩ := r.loc i d q
    refine ⟨v, e1, fun hi => ?_, fun hi => (re hi).mono le⟩
    obtain ⟨a, vs', ds', q1, q2, q3, q4, q5, q6, q7⟩ := ow hi
    refine ⟨a, vs', ds', q1, q2, q3, q4.mono le, ?_, q6, q7⟩
    show upd w.S p _ a = none
    rw [upd_ne]
    · exact q5
    · intro z
      exact ap i hi (by rw [q]; rfl) (by rw [e1, q1, z])
  · obtain ⟨z1, z2, z3⟩ := r.tz q hq
    refine ⟨z1, ?_, z3⟩
    show upd w.S p _ q.1 = none
    rw [upd_ne (fun z => az q hq (by rw [z]))]; exact z2
/-- a new object of the small heap -/
theorem R.newOb (r : R K b O w σ ρ H o) {p : Addr} {u : HO} {c : Ob} (e : H p = none) (q : ∀ w', W.Le w w' → ObR K w' (upd H p u) p c) :
    ∃ w', W.Le w w' ∧ R K b O w' σ ρ (upd H p u) (o ++ [c]) ∧ Rep K w' (.ref p) (.ref o.length) := by
  have sp : w.S p = none := by
    cases q : w.S p with
    | none => rfl
    | some x => have := r.hr.sub p x q; rw [e] at this; cases this
  have ip : p ∉ w.ι := fun m => by
    obtain ⟨_, u2, e2⟩ := r.hr.has m
    rw [e] at e2; cases e2
  have ne' : ∀ a v, H a = some v → upd H p u a = some v := fun a v q => by rw [upd_ne (ne_of_none q e)]; exact q
  have bp : b.H p = none := r.po.new r.hr e
  have gi : ∀ (n : Nat) a, (w.ι ++ [p])[n]? = some a → w.ι[n]? = some a ∨ (n = w.ι.length ∧ a = p) := fun n a h => by
    by_cases hn : n < w.ι.length
    · rw [List.getElem?_append_left hn] at h; exact .inl h
    · have hn : w.ι.length ≤ n := by omega
      rw [List.getElem?_append_right hn] at h
      have z : n - w.ι.length = 0 := by
        rcases Nat.eq_zero_or_pos (n - w.ι.length) with q | q
        · exact q
        · rw [List.getElem?_eq_none (by simp only [List.length_singleton]; omega)] at h; cases h
      rw [z] at h
      exact .inr ⟨by omega, by simpa using h.symm⟩
  have le : W.Le w ⟨w.S, w.ι ++ [p]⟩ := ⟨fun _ _ q => q, fun n a h => by
    show (w.ι ++ [p])[n]? = some a
    rw [List.getElem?_append_left]
    · exact h
    · rcases Nat.lt_or_ge n w.ι.length with q | q
      · exact q
      · rw [List.getElem?_eq_none q] at h; cases h⟩
  refine ⟨_, le, ⟨⟨fun a v q => ne' _ _ (r.hr.sub a v q), ?_, ?_, fun n a d e1 e2 => ?_⟩, ⟨r.po.le.trans le, fun a v q m => ne' _ _ (r.po.keep a v q m), r.po.frS, fun a m => ?_⟩, r.len, fun i d q => ?_, r.ap, fun q hq => ?_⟩, .ref ?_⟩
  · show (w.ι ++ [p]).length = _
    rw [List.length_append, List.length_append, r.hr.len]; rfl
  · show (w.ι ++ [p]).Nodup
    rw [List.nodup_append]
    exact ⟨r.hr.nd, by simp, fun a ha c hc z => by
      have : c = p := by simpa using hc
      subst this; subst z; exact ip ha⟩
  · rcases gi n a e1 with h | ⟨h1, h2⟩
    · have hn : n < o.length := by
        rw [← r.hr.len]
        rcases Nat.lt_or_ge n w.ι.length with q | q
        · exact q
        · rw [List.getElem?_eq_none q] at h; cases h
      rw [List.getElem?_append_left hn] at e2
      obtain ⟨s, q⟩ := r.hr.ob n a d h e2
      exact ⟨s, ObR.mono' q le fun v => ne' a v⟩
    · subst h2
      rw [h1, r.hr.len, List.getElem?_append_right (Nat.le_refl _)] at e2
      have : c = d := by simpa using e2
      subst this
      exact ⟨sp, q _ le⟩
  · rcases List.mem_append.mp m with h | h
    · exact r.po.frI a h
    · have : a = p := by simpa using h
      subst this; exact .inr bp
  · obtain ⟨v, e1, ow, re⟩ := r.loc i d q
    refine ⟨v, e1, fun hi => ?_, fun hi => (re hi).mono le⟩
    obtain ⟨a, vs, ds, q1, q2, q3, q4, q5, q6, q7⟩ := ow hi
    refine ⟨a, vs, ds, q1, q2, ne' _ _ q3, q4.mono le, q5, fun m => ?_, q7⟩
    rcases List.mem_append.mp m with h | h
    · exact q6 h
    · have : a = p := by simpa using h
      rw [this, e] at q3; cases q3
  · obtain ⟨z1, z2, z3, z4⟩ := r.tz q hq
    refine ⟨ne' _ _ z1, z2, fun m => ?_, z4⟩
    rcases List.mem_append.mp m with h | h
    · exact z3 h
    · have : q.1 = p := by simpa using h
      rw [this, e] at z1; cases z1
  · show (w.ι ++ [p])[o.length]? = some p
    rw [← r.hr.len, List.getElem?_append_right (Nat.le_refl _), Nat.sub_self]; rfl
/-- an object of the small heap is changed -/
theorem R.setOb (r : R K b O w σ ρ H o) {n : Nat} {a : Addr} {u : HO} {c : Ob} (hi : w.ι[n]? = some a) (q : ObR K w (upd H a u) a c) :
    R K b O w σ ρ (upd H a u) (o.set n c) := by
  have m : a ∈ w.ι := List.mem_of_getElem? hi
  obtain ⟨sa, u0, ha⟩ := r.hr.has m
  have ne' : ∀ c v, c ≠ a → H c = some v → upd H a u c = some v := fun c v h q => by rw [upd_ne h]; exact q
  refine ⟨⟨fun c v q => ne' c v (fun z => by rw [z, sa] at q; cases q) (r.hr.sub c v q), by rw [List.length_set]; exact r.hr.len, r.hr.nd, fun k c d e1 e2 => ?_⟩,
    ⟨r.po.le, fun c v hbq k => ?_, r.po.frS, r.po.frI⟩, r.len, fun i d q => ?_, r.ap, fun p hp => let ⟨z1, z2, z3, z4⟩ := r.tz p hp; ⟨ne' _ _ (fun z => z3 (by rw [z]; exact m)) z1, z2, z3, z4⟩⟩
  · by_cases h : k = n
    · subst h
      rw [hi] at e1; cases e1
      have hl : k < o.length := by
        rw [← r.hr.len]
        rcases Nat.lt_or_ge k w.ι.length with q | q
        · exact q
        · rw [List.getElem?_eq_none q] at hi; cases hi
      rw [List.getElem?_set_self hl] at e2
      cases e2
      exact ⟨sa, q⟩
    · rw [List.getElem?_set_ne (Ne.symm h)] at e2
      obtain ⟨s, ob⟩ := r.hr.ob k c d e1 e2
      refine ⟨s, ObR.mono' ob (.refl w) fun v => ne' c v ?_⟩
      intro z
      subst z
      refine h ?_
      have h1 : k < w.ι.length := by
        rcases Nat.lt_or_ge k w.ι.length with q | q
        · exact q
        · rw [List.getElem?_eq_none q] at e1; cases e1
      have h2 : n < w.ι.length := by
        rcases Nat.lt_or_ge n w.ι.length with q | q
        · exact q
        · rw [List.getElem?_eq_none q] at hi; cases hi
      rw [List.getElem?_eq_getElem h1] at e1
      rw [List.getElem?_eq_getElem h2] at hi
      exact (List.getElem_inj r.hr.nd).mp ((Option.some.inj e1).trans (Option.some.inj hi).symm)
  · refine ne' c v ?_ (r.po.keep c v hbq k)
    intro z
    subst z
    rcases r.po.frI c m with h | h
    · exact k h
    · exact (by rw [h] at hbq; cases hbq)
  · obtain ⟨v, e1, ow, re⟩ := r.loc i d q
    refine ⟨v, e1, fun hi => ?_, re⟩
    obtain ⟨c, vs, ds, q1, q2, q3, q4, q5, q6, q7⟩ := ow hi
    exact ⟨c, vs, ds, q1, q2, ne' c _ (fun z => q6 (z ▸ m)) q3, q4, q5, q6, q7⟩

/-! ### slots -/
theorem look_set_same {ρ : Env} {i : Nat} {d : D} (h : i < ρ.length) : look (ρ.set i (some d)) i = some d := by
  unfold look; rw [List.getElem?_set_self h]
theorem look_set_ne {ρ : Env} {i j : Nat} {x : Option D} (h : j ≠ i) : look (ρ.set i x) j = look ρ j := by
  unfold look; rw [List.getElem?_set_ne (Ne.symm h)]
theorem look_lt {ρ : Env} {i : Nat} {d : D} (h : look ρ i = some d) : i < ρ.length := by
  unfold look at h
  rcases Nat.lt_or_ge i ρ.length with q | q
  · exact q
  · rw [List.getElem?_eq_none q] at h; cases h
theorem look_set_some {ρ : Env} {i j : Nat} {x d : D} (h : look (ρ.set i (some x)) j = some d) : (j = i ∧ x = d ∧ i < ρ.length) ∨ (j ≠ i ∧ look ρ j = some d) := by
  by_cases e : j = i
  · subst e
    have hl := look_lt h
    rw [List.length_set] at hl
    rw [look_set_same hl] at h
    exact .inl ⟨rfl, Option.some.inj h, hl⟩
  · rw [look_set_ne e] at h; exact .inr ⟨e, h⟩
theorem look_set_none {ρ : Env} {i j : Nat} {d : D} (h : look (ρ.set i none) j = some d) : j ≠ i ∧ look ρ j = some d := by
  by_cases e : j = i
  · subst e
    have hl := look_lt h
    rw [List.length_set] at hl
    unfold look at h
    rw [List.getElem?_set_self hl] at h
    cases h
  · rw [look_set_ne e] at h; exact ⟨e, h⟩
def rm (O : List Nat) (i : Nat) : List Nat := O.filter fun j => decide (j ≠ i)
theorem mem_rm {O : List Nat} {i j : Nat} : j ∈ rm O i ↔ j ∈ O ∧ j ≠ i := by
  unfold rm; rw [List.mem_filter, decide_eq_true_iff]
/-- a slot gets a value -/
theorem R.put (r : R K b O w σ ρ H o) {i : Nat} {v : V} {d : D} (h : Rep K w v d) : R K b (rm O i) w (σ.set i (some v)) (ρ.set i (some d)) H o := by
  refine ⟨r.hr, r.po, by rw [List.length_set, List.length_set]; exact r.len, fun j e q => ?_, fun j k u hj hk hne h1 h2 e1 e2 => ?_, fun p hp => ?_⟩
  · rcases look_set_some q with ⟨rfl, rfl, hl⟩ | ⟨hne, q⟩
    · exact ⟨v, by rw [List.getElem?_set_self (by rw [r.len]; exact hl)], fun z => absurd rfl (mem_rm.mp z).2, fun _ => h⟩
    · obtain ⟨u, e1, ow, re⟩ := r.loc j e q
      exact ⟨u, by rw [List.getElem?_set_ne (Ne.symm hne)]; exact e1, fun z => ow (mem_rm.mp z).1, fun z => re fun y => z (mem_rm.mpr ⟨y, hne⟩)⟩
  · obtain ⟨hj, nj⟩ := mem_rm.mp hj
    obtain ⟨hk, nk⟩ := mem_rm.mp hk
    rw [look_set_ne nj] at h1
    rw [look_set_ne nk] at h2
    rw [List.getElem?_set_ne (Ne.symm nj)] at e1
    rw [List.getElem?_set_ne (Ne.symm nk)] at e2
    exact r.ap j k u hj hk hne h1 h2 e1 e2
  · obtain ⟨z1, z2, z3, z4, z5⟩ := r.tz p hp
    refine ⟨z1, z2, z3, z4, fun j hj hs => ?_⟩
    obtain ⟨hj, nj⟩ := mem_rm.mp hj
    rw [look_set_ne nj] at hs
    rw [List.getElem?_set_ne (Ne.symm nj)]
    exact z5 j hj hs
/-- a slot gets a list of its own -/
theorem R.putOwn (r : R K b O w σ ρ H o) {i : Nat} {v : V} {d : D} (h : Own K b w H v d) (a : Apart O σ ρ v) (az : ∀ p ∈ b.Z, v ≠ .ref p.1) : R K b (i :: rm O i) w (σ.set i (some v)) (ρ.set i (some d)) H o := by
  have hm : ∀ {j}, j ∈ i :: rm O i → j ≠ i → j ∈ O := fun {j} z hne => by
    rcases List.mem_cons.mp z with q | q
    · exact absurd q hne
    · exact (mem_rm.mp q).1
  refine ⟨r.hr, r.po, by rw [List.length_set, List.length_set]; exact r.len, fun j e q => ?_, fun j k u hj hk hne h1 h2 e1 e2 => ?_, fun p hp => ?_⟩
  · rcases look_set_some q with ⟨rfl, rfl, hl⟩ | ⟨hne, q⟩
    · exact ⟨v, by rw [List.getElem?_set_self (by rw [r.len]; exact hl)], fun _ => h, fun z => absurd List.mem_cons_self z⟩
    · obtain ⟨u, e1, ow, re⟩ := r.loc j e q
      exact ⟨u, by rw [List.getElem?_set_ne (Ne.symm hne)]; exact e1, fun z => ow (hm z hne), fun z => re fun y => z (List.mem_cons_of_mem _ (mem_rm.mpr ⟨y, hne⟩))⟩
  · have key : ∀ j k, j ∈ i :: rm O i → k = i → j ≠ i → (look (ρ.set i (some d)) j).isSome = true → (σ.set i (some v))[j]? = some (some u) → (look (ρ.set i (some d)) k).isSome = true → (σ.set i (some v))[k]? = some (some u) → False := by
      intro j k hj hk hne h1 e1 h2 e2
      subst hk
      rw [look_set_ne hne] at h1
      rw [List.getElem?_set_ne (Ne.symm hne)] at e1
      obtain ⟨x, hx⟩ := Option.isSome_iff_exists.mp h2
      have hl := look_lt hx
      rw [List.length_set] at hl
      rw [List.getElem?_set_self (by rw [r.len]; exact hl)] at e2
      cases e2
      exact a j (hm hj hne) h1 e1
    by_cases nj : j = i
    · exact key k j hk nj (fun z => hne (nj.trans z.symm)) h2 e2 h1 e1
    · by_cases nk : k = i
      · exact key j k hj nk nj h1 e1 h2 e2
      · rw [look_set_ne nj] at h1
        rw [look_set_ne nk] at h2
        rw [List.getElem?_set_ne (Ne.symm nj)] at e1
        rw [List.getElem?_set_ne (Ne.symm nk)] at e2
        exact r.ap j k u (hm hj nj) (hm hk nk) hne h1 h2 e1 e2
  · obtain ⟨z1, z2, z3, z4, z5⟩ := r.tz p hp
    refine ⟨z1, z2, z3, z4, fun j hj hs q => ?_⟩
    by_cases nj : j = i
    · subst nj
      obtain ⟨x, hx⟩ := Option.isSome_iff_exists.mp hs
      have hl := look_lt hx
      rw [List.length_set] at hl
      rw [List.getElem?_set_self (by rw [r.len]; exact hl)] at q
      exact az p hp (Option.some.inj (Option.some.inj q))
    · rw [look_set_ne nj] at hs
      rw [List.getElem?_set_ne (Ne.symm nj)] at q
      exact z5 j (hm hj nj) hs q
/-- a slot is forgotten -/
theorem R.drop1 (r : R K b O w σ ρ H o) (i : Nat) : R K b O w (σ.set i none) (ρ.set i none) H o := by
  refine ⟨r.hr, r.po, by rw [List.length_set, List.length_set]; exact r.len, fun j e q => ?_, fun j k u hj hk hne h1 h2 e1 e2 => ?_, fun p hp => ?_⟩
  · obtain ⟨hne, q⟩ := look_set_none q
    obtain ⟨u, e1, z⟩ := r.loc j e q
    exact ⟨u, by rw [List.getElem?_set_ne (Ne.symm hne)]; exact e1, z⟩
  · obtain ⟨d1, q1⟩ := Option.isSome_iff_exists.mp h1
    obtain ⟨d2, q2⟩ := Option.isSome_iff_exists.mp h2
    obtain ⟨n1, q1⟩ := look_set_none q1
    obtain ⟨n2, q2⟩ := look_set_none q2
    rw [List.getElem?_set_ne (Ne.symm n1)] at e1
    rw [List.getElem?_set_ne (Ne.symm n2)] at e2
    exact r.ap j k u hj hk hne (by rw [q1]; rfl) (by rw [q2]; rfl) e1 e2
  · obtain ⟨z1, z2, z3, z4, z5⟩ := r.tz p hp
    refine ⟨z1, z2, z3, z4, fun j hj hs q => ?_⟩
    obtain ⟨d1, q1⟩ := Option.isSome_iff_exists.mp hs
    obtain ⟨n1, q1⟩ := look_set_none q1
    rw [List.getElem?_set_ne (Ne.symm n1)] at q
    exact z5 j hj (by rw [q1]; rfl) q
theorem R.wipe (r : R K b O w σ ρ H o) : ∀ vs : List Nat, R K b O w (L2.wipe σ vs) (wipeE ρ vs) H o
  | [] => r
  | v :: vs => by unfold L2.wipe wipeE; exact (R.wipe r vs).drop1 v
/-- an own list is changed -/
theorem R.grow (r : R K b O w σ ρ H o) {i : Nat} {ds ds' : List D} {vs' : List V} {a : Addr} (hi : i ∈ O) (e : look ρ i = some (.lst ds)) (es : σ[i]? = some (some (.ref a))) (q : Reps K w vs' ds') :
    R K b O w σ (ρ.set i (some (.lst ds'))) (upd H a (.lst vs')) o := by
  obtain ⟨v, e1, ow, _⟩ := r.loc i _ e
  rw [es] at e1; cases e1
  obtain ⟨a', vs, ds0, q1, q2, q3, q4, q5, q6, q7⟩ := ow hi
  cases q1; cases q2
  have hl := look_lt e
  have ne' : ∀ c v, c ≠ a → H c = some v → upd H a (.lst vs') c = some v := fun c v h q => by rw [upd_ne h]; exact q
  refine ⟨⟨fun c v q => ne' c v (fun z => by rw [z, q5] at q; cases q) (r.hr.sub c v q), r.hr.len, r.hr.nd, fun n c d e1 e2 => ?_⟩,
    ⟨r.po.le, fun c v q k => ne' c v (fun z => by rw [z, q7] at q; cases q) (r.po.keep c v q k), r.po.frS, r.po.frI⟩, by rw [List.length_set]; exact r.len, fun j d q => ?_, fun j k u hj hk hne h1 h2 e1 e2 => ?_, fun p hp => ?_⟩
  · obtain ⟨s, ob⟩ := r.hr.ob n c d e1 e2
    exact ⟨s, ObR.mono' ob (.refl w) fun v => ne' c v fun z => q6 (by rw [← z]; exact List.mem_of_getElem? e1)⟩
  · rcases look_set_some q with ⟨rfl, rfl, _⟩ | ⟨hne, q⟩
    · exact ⟨_, es, fun _ => ⟨a, vs', ds', rfl, rfl, upd_same, by assumption, q5, q6, q7⟩, fun z => absurd hi z⟩
    · obtain ⟨u, e1, ow, re⟩ := r.loc j d q
      refine ⟨u, e1, fun hj => ?_, re⟩
      obtain ⟨c, vs1, ds1, p1, p2, p3, p4, p5, p6, p7⟩ := ow hj
      refine ⟨c, vs1, ds1, p1, p2, ne' c _ ?_ p3, p4, p5, p6, p7⟩
      intro z
      exact r.ap j i _ hj hi hne (by rw [q]; rfl) (by rw [e]; rfl) e1 (by rw [es, p1, z])
  · have key : ∀ j, (look (ρ.set i (some (.lst ds'))) j).isSome = true → (look ρ j).isSome = true := fun j h => by
      by_cases z : j = i
      · rw [z, e]; rfl
      · rw [look_set_ne z] at h; exact h
    exact r.ap j k u hj hk hne (key j h1) (key k h2) e1 e2
  · obtain ⟨z1, z2, z3, z4, z5⟩ := r.tz p hp
    refine ⟨ne' _ _ (fun z => z5 i hi (by rw [e]; rfl) (by rw [es, z])) z1, z2, z3, z4, fun j hj hs => z5 j hj ?_⟩
    by_cases z : j = i
    · rw [z, e]; rfl
    · rw [look_set_ne z] at hs; exact hs

/-! ### behind a call -/
theorem Post.trans {Z : List (Addr × HO)} (p : Post b w H) (h : HR K w H o) (q : Post ⟨w, H, Z⟩ w' H') : Post b w' H' := by
  refine ⟨p.le.trans q.le, fun a u e m => ?_, fun a u e => ?_, fun a m => ?_⟩
  · refine q.keep a u (p.keep a u e m) fun m2 => ?_
    rcases p.frI a m2 with z | z
    · exact m z
    · rw [e] at z; cases z
  · rcases q.frS a u e with z | z
    · exact p.frS a u z
    · exact .inr (p.new h z)
  · rcases q.frI a m with z | z
    · exact p.frI a z
    · exact .inr (p.new h z)
theorem R.after {o' : Os} (r : R K b O w σ ρ H o) (q : Post ⟨w, H, []⟩ w' H') (h : HR K w' H' o') : R K b O w' σ ρ H' o' := by
  have kp : ∀ a u, H a = some u → a ∉ w.ι → H' a = some u := fun a u e m => q.keep a u e m
  have ks : ∀ a u, H a = some u → w.S a = none → w'.S a = none := fun a u e s => by
    cases z : w'.S a with
    | none => rfl
    | some x =>
      rcases q.frS a x z with y | y
      · rw [show w.S a = some x from y] at s; cases s
      · rw [show H a = none from y] at e; cases e
  have ki : ∀ a u, H a = some u → a ∉ w.ι → a ∉ w'.ι := fun a u e m z => by
    rcases q.frI a z with y | y
    · exact m y
    · rw [show H a = none from y] at e; cases e
  refine ⟨h, r.po.trans r.hr q, r.len, fun i d e => ?_, r.ap, fun p hp => ?_⟩
  · obtain ⟨v, e1, ow, re⟩ := r.loc i d e
    refine ⟨v, e1, fun hi => ?_, fun hi => (re hi).mono q.le⟩
    obtain ⟨a, vs, ds, q1, q2, q3, q4, q5, q6, q7⟩ := ow hi
    exact ⟨a, vs, ds, q1, q2, kp _ _ q3 q6, q4.mono q.le, ks _ _ q3 q5, ki _ _ q3 q6, q7⟩
  · obtain ⟨z1, z2, z3, z4⟩ := r.tz p hp
    exact ⟨kp _ _ z1 z3, ks _ _ z1 z2, ki _ _ z1 z3, z4⟩
/-- an own list that a call hands back -/
theorem R.handed (r : R K b O w σ ρ H o) (q : Post ⟨w, H, []⟩ w' H') {v : V} {d : D} (h : Own K ⟨w, H, []⟩ w' H' v d) : Own K b w' H' v d ∧ Apart O σ ρ v ∧ ∀ p ∈ b.Z, v ≠ .ref p.1 := by
  obtain ⟨a, vs, ds, q1, q2, q3, q4, q5, q6, q7⟩ := h
  have q7 : H a = none := q7
  refine ⟨⟨a, vs, ds, q1, q2, q3, q4, q5, q6, r.po.new r.hr q7⟩, fun i hi hs e => ?_, fun p hp e => ?_⟩
  · obtain ⟨d', hd⟩ := Option.isSome_iff_exists.mp hs
    obtain ⟨v', e1, ow, _⟩ := r.loc i d' hd
    obtain ⟨a', _, _, p1, _, p3, _⟩ := ow hi
    rw [e] at e1; cases e1; subst q1; cases p1
    rw [q7] at p3; cases p3
  · obtain ⟨z1, _⟩ := r.tz p hp
    subst q1; cases e
    rw [q7] at z1; cases z1
theorem R.newOwnZ (r : R K b O w σ ρ H o) {p : Addr} (e : H p = none) : ∀ q ∈ b.Z, (V.ref p) ≠ .ref q.1 := fun q hq z => by
  obtain ⟨z1, _⟩ := r.tz q hq
  cases z
  rw [e] at z1; cases z1
/-- a def's end -/
theorem R.out (r : R K b O w σ ρ H o) : Post b w H ∧ HR K w H o := ⟨r.po, r.hr⟩
end
end Ev

/-! the check that ties the small language to the text -/
namespace Ev
open PySem L2

/-- what kind of value an expression gives: any, a list that nobody else holds, the list of a slot -/
inductive Kd where
  | val | own | slot (i : Nat)
  deriving DecidableEq
def valO (O : List Nat) : Kd → List Nat
  | .slot i => rm O i
  | _ => O
structure Tab where
  fns : List Fn
  gs : List Str
  gcd : Bool

def visB (sc : Scope) (x : Str) : Bool := match sc.names.lookup x with
  | some .local => true
  | some .cell => true
  | some .free => true
  | _ => false
def glB (sc : Scope) (x : Str) : Bool := match sc.names.lookup x with
  | some .globalImplicit => true
  | _ => false
def locB (sc : Scope) (x : Str) : Bool := match sc.names.lookup x with
  | some .local => true
  | some .cell => true
  | _ => false
def okN (x : Str) : Bool := !(x == ("__debug__" : Str)) && !(x == ("__classdict__" : Str))
def biName : Bi → Str
  | .len => "len" | .abs => "abs" | .int => "int" | .all => "all" | .any => "any" | .tuple => "tuple" | .list => "list" | .sorted => "sorted" | .gcd => "gcd" | .min => "min" | .max => "max"
def biKind : Bi → Kd
  | .list => .own
  | .sorted => .own
  | _ => .val
def tyS : Ty → String
  | .int => "int" | .bool => "bool" | .str => "str" | .tuple => "tuple" | .list => "list" | .dict => "dict"
def tyName (t : Ty) : Str := Str.ofString (tyS t)
def opB : Bop → Operator → Bool
  | .add, .Add => true
  | .sub, .Sub => true
  | .mul, .Mult => true
  | .fdiv, .FloorDiv => true
  | .mod, .Mod => true
  | .pow, .Pow => true
  | _, _ => false
def copB : Cop → CmpOp → Bool
  | .lt, .Lt => true
  | .le, .LtE => true
  | .gt, .Gt => true
  | .ge, .GtE => true
  | .eq, .Eq => true
  | .ne, .NotEq => true
  | .is, .Is => true
  | .isnot, .IsNot => true
  | .in_, .In => true
  | .notin, .NotIn => true
  | _, _ => false
def isLst : Kd → Bool
  | .val => false
  | _ => true
def binK : Bop → Kd → Kd → Kd
  | .add, a, b => if isLst a || isLst b then .own else .val
  | .mul, a, b => if isLst a || isLst b then .own else .val
  | _, _, _ => .val
def inter (a b : List Nat) : List Nat := a.filter fun i => decide (i ∈ b)
/-- no name of a set, no slice -/
def plainE : Expr → Bool
  | .Set .. => false
  | .Slice .. => false
  | .Starred .. => false
  | _ => true
/-- the receiver of a method -/
def recvB : Expr → Bool
  | .Name .. => true
  | .Subscript .. => true
  | .Constant .. => true
  | _ => false
def sameLine (a b : Pos) : Bool := a.endLine == b.line

section
variable (TB : Tab) (N : List Str)
def chkN (i : Nat) (st : Str → Bool) : Expr → Bool
  | .Name x _ => decide (N[i]? = some x) && st x
  | _ => false
def chkNs (st : Str → Bool) : List Nat → List Expr → Bool
  | [], [] => true
  | i :: is, e :: es => chkN N i st e && chkNs st is es
  | _, _ => false
def chkT (st : Str → Bool) : Ev.T → Expr → Bool
  | .one i, e => chkN N i st e
  | .many is, .Tuple es _ _ => chkNs N st is es
  | _, _ => false
def ownOf (is : List Nat) : List (Str × Nat) := is.filterMap fun i => N[i]?.map fun x => (x, i)
def rms (O : List Nat) : List Nat → List Nat
  | [] => O
  | i :: is => rm (rms O is) i
def noSlice : Expr → Bool
  | .Slice .. => false
  | _ => true

/-- no walk of a slot's own list -/
def noOwn : I → Bool
  | .own _ => false
  | _ => true
/-- the keys of a display -/
def keysB : List (Option Expr) → List Str → Bool
  | [], [] => true
  | some (.Constant (.str y) _ _) :: ks, x :: xs => decide (x = y) && keysB ks xs
  | _, _ => false
/-- may stand as a test -/
def tstOk : E → Bool
  | .hp _ => false
  | .not a => tstOk a
  | .and a b => tstOk a && tstOk b
  | .or a b => tstOk a && tstOk b
  | .ite c a b => tstOk c && tstOk a && tstOk b
  | _ => true
mutual
def chkE : E → Scope → Expr → List Nat → Option (List Nat × Kd)
  | .int i, _, .Constant (.int j) _ _, O => if i = j then some (O, .val) else none
  | .str x, _, .Constant (.str y) _ _, O => if x = y then some (O, .val) else none
  | .bl a, _, .Constant (.bool c) _ _, O => if a = c then some (O, .val) else none
  | .non, _, .Constant .none _ _, O => some (O, .val)
  | .var i, sc, .Name x _, O => if N[i]? = some x ∧ visB sc x = true ∧ okN x = true then some (O, if i ∈ O then .slot i else .val) else none
  | .glb j, sc, .Name x _, O => if TB.gs[j]? = some x ∧ glB sc x = true ∧ okN x = true then some (O, .val) else none
  | .tup es, sc, .Tuple xs _ _, O => if xs.length ≤ 10000 then (chkVs es sc xs O).map fun O => (O, .val) else none
  | .lst es, sc, .List xs _, O => if xs.length ≤ 10000 then (chkVs es sc xs O).map fun O => (O, .own) else none
  | .bin p a b, sc, .BinOp xa op xb _, O => if opB p op = true then (chkE a sc xa O).bind fun r => (chkE b sc xb r.1).map fun q => (q.1, binK p r.2 q.2) else none
  | .neg a, sc, .UnaryOp .USub xa _, O => (chkE a sc xa O).map fun r => (r.1, .val)
  | .not a, sc, .UnaryOp .Not xa _, O => (chkE a sc xa O).map fun r => (r.1, .val)
  | .cmp p a b, sc, .Compare xa [op] [xb] _, O => if copB p op = true ∧ plainE xb = true then (chkE a sc xa O).bind fun r => (chkE b sc xb r.1).map fun q => (q.1, .val) else none
  | .chn p q a b c, sc, .Compare xa [op, oq] [xb, xc] _, O => if copB p op = true ∧ copB q oq = true ∧ plainE xb = true ∧ plainE xc = true then
      (chkE a sc xa O).bind fun r => (chkE b sc xb (valO r.1 r.2)).bind fun q => (chkE c sc xc q.1).map fun s => (inter s.1 q.1, .val) else none
  | .and a b, sc, .BoolOp .And (xa :: xb :: rest) pos, O => (chkE a sc xa O).bind fun r => (match rest with
      | [] => chkE b sc xb (valO r.1 r.2)
      | y :: ys => chkE b sc (.BoolOp .And (xb :: y :: ys) pos) (valO r.1 r.2)).map fun (q : List Nat × Kd) => (inter (valO q.1 q.2) (valO r.1 r.2), .val)
  | .or a b, sc, .BoolOp .Or (xa :: xb :: rest) pos, O => (chkE a sc xa O).bind fun r => (match rest with
      | [] => chkE b sc xb (valO r.1 r.2)
      | y :: ys => chkE b sc (.BoolOp .Or (xb :: y :: ys) pos) (valO r.1 r.2)).map fun (q : List Nat × Kd) => (inter (valO q.1 q.2) (valO r.1 r.2), .val)
  | .ite c a b, sc, .IfExp xc xa xb _, O => if tstOk c = true then (chkE c sc xc O).bind fun r => (chkE a sc xa r.1).bind fun p => (chkE b sc xb r.1).map fun q =>
      (if p.2 = .own ∧ q.2 = .own then (inter p.1 q.1, .own) else (inter (valO p.1 p.2) (valO q.1 q.2), .val)) else none
  | .call f es, sc, .Call (.Name x _) xs [] _, O => match TB.fns[f]? with
    | some fn => if fn.name = x ∧ glB sc x = true ∧ okN x = true ∧ xs.length = fn.np then (chkVs es sc xs O).map fun O => (O, if fn.fresh then .own else .val) else none
    | none => none
  | .bi p es, sc, .Call (.Name x _) (xe :: xs) [] _, O => if biName p = x ∧ glB sc x = true ∧ okN x = true ∧ (p = .gcd → TB.gcd = true) then (chkAs es sc (xe :: xs) O).map fun O => (O, biKind p) else none
  | .isi a t, sc, .Call (.Name x _) [xa, .Name y _] [] _, O => if x = "isinstance" ∧ plainE xa = true ∧ y = tyName t ∧ glB sc x = true ∧ glB sc y = true then (chkE a sc xa O).map fun r => (r.1, .val) else none
  | .idx a i, sc, .Subscript xa xi _, O => if noSlice xi = true then (chkE a sc xa O).bind fun r => (chkE i sc xi r.1).map fun q => (q.1, .val) else none
  | .slc a lo hi, sc, .Subscript xa (.Slice xl xh none _) _, O => (chkE a sc xa O).bind fun r => (chkO lo sc xl r.1).bind fun O1 => (chkO hi sc xh O1).map fun O2 => (O2, if isLst r.2 then .own else .val)
  | .comp elt t it c, sc, .ListComp xe [⟨xt, xi, xc, 0⟩] scope _, O => (chkI it sc xt xi O).bind fun O1 =>
      if plainE xi = true ∧ chkT N (locB scope) t xt = true ∧ blkC N sc scope (ownOf N t.own) = true ∧ (ownOf N t.own).map (·.2) = t.own ∧ t.own.Nodup then
        let O2 := rms O1 t.own
        (chkC c (relS scope sc) xc O2).bind fun O3 => (chkE elt (relS scope sc) xe O3).bind fun r =>
          let O4 := inter (valO r.1 r.2) O2
          (chkC c (relS scope sc) xc O4).bind fun O5 => (chkE elt (relS scope sc) xe O5).bind fun q =>
            if (∀ i ∈ O4, i ∈ valO q.1 q.2) ∧ (∀ i ∈ O4, i ∈ O5) then some (O4, .own) else none
      else none
  | .dic k1 k2 k3 k4 a b c d, sc, .Dict ks [xa, xb, xc, xd] _, O =>
      if keysB ks [k1, k2, k3, k4] = true ∧ [k1, k2, k3, k4].Nodup then (chkE a sc xa O).bind fun r => (chkE b sc xb (valO r.1 r.2)).bind fun q => (chkE c sc xc (valO q.1 q.2)).bind fun s => (chkE d sc xd (valO s.1 s.2)).map fun t => (valO t.1 t.2, .val) else none
  | .mth .join a e, sc, .Call (.Attribute xa nm apos) [xe] [] pos, O => if nm = "join" ∧ recvB xa = true ∧ plainE xe = true ∧ (apos.endLine == pos.line) = true then (chkE a sc xa O).bind fun r => (chkE e sc xe r.1).map fun q => (valO q.1 q.2, .val) else none
  | .hpop a, sc, .Call (.Attribute xa nm apos) [.Constant (.int i) _ _] [] pos, O => if nm = "pop" ∧ recvB xa = true ∧ i = 0 ∧ (apos.endLine == pos.line) = true then (chkE a sc xa O).bind fun r => if r.2 = .val then some (r.1, .val) else none else none
  | .hp a, sc, xa, O => (chkE a sc xa O).bind fun r => if r.2 = .own then some (r.1, .val) else none
  | _, _, _, _ => none
/-- values -/
def chkVs : Es → Scope → List Expr → List Nat → Option (List Nat)
  | .nil, _, [], O => some O
  | .cons e es, sc, x :: xs, O => if plainE x = true then (chkE e sc x O).bind fun r => chkVs es sc xs (valO r.1 r.2) else none
  | _, _, _, _ => none
/-- arguments of a built-in function -/
def chkAs : Es → Scope → List Expr → List Nat → Option (List Nat)
  | .nil, _, [], O => some O
  | .cons e es, sc, x :: xs, O => if plainE x = true then (chkE e sc x O).bind fun r => chkAs es sc xs r.1 else none
  | _, _, _, _ => none
def chkO : EO → Scope → Option Expr → List Nat → Option (List Nat)
  | .none, _, none, O => some O
  | .some e, sc, some x, O => (chkE e sc x O).map fun r => r.1
  | _, _, _, _ => none
def chkC : EO → Scope → List Expr → List Nat → Option (List Nat)
  | .none, _, [], O => some O
  | .some e, sc, [x], O => if tstOk e = true then (chkE e sc x O).map fun r => r.1 else none
  | _, _, _, _ => none
def chkI : I → Scope → Expr → Expr → List Nat → Option (List Nat)
  | .seq e, sc, _, x, O => (chkE e sc x O).map fun r => valO r.1 r.2
  | .own i, sc, _, .Name x _, O => if N[i]? = some x ∧ visB sc x = true ∧ okN x = true then some O else none
  | .rng1 a, sc, _, .Call (.Name x _) [xa] [] _, O => if x = "range" ∧ glB sc x = true ∧ plainE xa = true then (chkE a sc xa O).map fun r => r.1 else none
  | .rng2 a b, sc, _, .Call (.Name x _) [xa, xb] [] _, O => if x = "range" ∧ glB sc x = true ∧ plainE xa = true ∧ plainE xb = true then (chkE a sc xa O).bind fun r => (chkE b sc xb r.1).map fun q => q.1 else none
  | .zip a b, sc, .Tuple _ _ _, .Call (.Name x _) [xa, xb] [] _, O => if x = "zip" ∧ glB sc x = true ∧ plainE xa = true ∧ plainE xb = true then (chkE a sc xa O).bind fun r => (chkE b sc xb (valO r.1 r.2)).map fun q => valO q.1 q.2 else none
  | .enu a, sc, .Tuple _ _ _, .Call (.Name x _) [xa] [] _, O => if x = "enumerate" ∧ glB sc x = true ∧ plainE xa = true then (chkE a sc xa O).map fun r => valO r.1 r.2 else none
  | _, _, _, _, _ => none
end
end
end Ev

/-! readings in the small language; one rule for each construct -/
namespace Ev
open PySem L2 PySem.Spec PyProof.Rows

def Fin {α : Type} (r : Res α) (P : α → Os → Prop) (Q : D → Os → Prop) : Prop := match r with
  | .ok a o => P a o
  | .exn x o => Q x o
  | .bad => False
section
variable {α β : Type} {r : Res α} {P P' : α → Os → Prop} {Q : D → Os → Prop}
theorem Fin.imp (h : Fin r P Q) (f : ∀ a o, P a o → P' a o) : Fin r P' Q := by
  cases r with
  | ok a o => exact f a o h
  | exn x o => exact h
  | bad => exact h
theorem fin_bind {f : α → Os → Res β} {P : β → Os → Prop} (h : Fin (r.bind f) P Q) : Fin r (fun a o => Fin (f a o) P Q) Q := by
  cases r with
  | ok a o => exact h
  | exn x o => exact h
  | bad => exact h
theorem fin_of {a : Option α} {o : Os} {P : α → Os → Prop} (h : Fin (Res.of a o) P Q) : ∃ x, a = some x ∧ P x o := by
  cases a with
  | none => exact h.elim
  | some x => exact ⟨x, rfl, h⟩
theorem fin_calm {P : α → Os → Prop} {Q' : D → Os → Prop} (h : Fin r.calm P Q) : Fin r P Q' := by
  cases r with
  | ok a o => exact h
  | exn x o => exact h.elim
  | bad => exact h.elim
end

theorem _root_.L2.PE.imp {X : Cx} {e : Expr} {t t' : TE} (h : PE X e t) (f : ∀ σ H Q, t' σ H Q → t σ H Q) : PE X e t' := ⟨fun pins s σ H Q I q => h.run pins s σ H Q I (f σ H Q q)⟩
theorem _root_.L2.PT.imp {X : Cx} {e : Expr} {t t' : TT} (h : PT X e t) (f : ∀ σ H Q, t' σ H Q → t σ H Q) : PT X e t' := ⟨fun pins s σ H Q I q => h.run pins s σ H Q I (f σ H Q q)⟩
theorem _root_.L2.PW.imp {X : Cx} {e : Expr} {t t' : TT} (h : PW X e t) (f : ∀ σ H Q, t' σ H Q → t σ H Q) : PW X e t' := ⟨fun wh pins s σ H Q I q => h.run wh pins s σ H Q I (f σ H Q q)⟩
theorem _root_.L2.PA.imp {X : Cx} {e : List Expr} {t t' : TA} (h : PA X e t) (f : ∀ σ H Q, t' σ H Q → t σ H Q) : PA X e t' := ⟨fun pos pins s σ H Q I q => h.run pos pins s σ H Q I (f σ H Q q)⟩
theorem _root_.L2.PS.imp {X : Cx} {e : Stmt} {t t' : TS} (h : PS X e t) (f : ∀ D σ H, t' D σ H → t D σ H) : PS X e t' := ⟨fun pins s σ H D I q => h.run pins s σ H D I (f D σ H q)⟩
theorem _root_.L2.PSs.imp {X : Cx} {e : List Stmt} {t t' : TS} (h : PSs X e t) (f : ∀ D σ H, t' D σ H → t D σ H) : PSs X e t' := ⟨fun pins s σ H D I q => h.run pins s σ H D I (f D σ H q)⟩
theorem _root_.L2.PI.imp {X : Cx} {tg e : Expr} {t t' : TI} (h : PI X tg e t) (f : ∀ σ H Q, t' σ H Q → t σ H Q) : PI X tg e t' := ⟨fun pins s σ H Q I q => h.run pins s σ H Q I (f σ H Q q)⟩
theorem _root_.L2.PO.imp {X : Cx} {e : Option Expr} {t t' : TO} (h : PO X e t) (f : ∀ σ H Q, t' σ H Q → t σ H Q) : PO X e t' := ⟨fun pins s σ H Q I q => h.run pins s σ H Q I (f σ H Q q)⟩
theorem _root_.L2.PE.ex {X : Cx} {e : Expr} {ι : Type} {t : ι → TE} (h : ∀ i, PE X e (t i)) : PE X e (fun σ H Q => ∃ i, t i σ H Q) := ⟨fun pins s σ H Q I ⟨i, q⟩ => (h i).run pins s σ H Q I q⟩

/-- what a walk is about: the written part, the entry, the defs, the constants, what is wanted of an error -/
structure Cn where
  K : PySem.W.Frag
  b : Base
  F : Fs
  G : Gs
  E : XK
  XR : W → Hp → Value → Option Addr → D → Prop

def Cn.exn (C : Cn) : D → Os → Prop := fun x o => ∀ cls od w' H', Post C.b w' H' → HR C.K w' H' o → C.XR w' H' cls od x → C.E cls od H'
def OwnV (C : Cn) (O : List Nat) (w : W) (σ : L2.St) (ρ : Env) (H : Hp) (v : V) (d : D) : Prop := Own C.K C.b w H v d ∧ Apart O σ ρ v ∧ ∀ p ∈ C.b.Z, v ≠ .ref p.1
/-- a value of its kind -/
def KV (C : Cn) (k : Kd) (O : List Nat) (w : W) (σ : L2.St) (ρ : Env) (H : Hp) (v : V) (d : D) : Prop := match k with
  | .val => Rep C.K w v d
  | .own => OwnV C O w σ ρ H v d
  | .slot i => σ[i]? = some (some v) ∧ look ρ i = some d ∧ ∃ ds, d = .lst ds
abbrev Beh := V → D → W → Hp → Prop

def tG (C : Cn) (O O' : List Nat) (m : Env → Os → Res D) (B : L2.St → Env → V → D → W → Hp → Prop) : TE := fun σ H Q => ∃ w ρ o, R C.K C.b O w σ ρ H o ∧
  Fin (m ρ o) (fun d o' => ∀ v w' H', W.Le w w' → R C.K C.b O' w' σ ρ H' o' → B σ ρ v d w' H' → Q v H') C.exn
def tE (C : Cn) (O : List Nat) (e : E) (O' : List Nat) (k : Kd) : TE := tG C O O' (den C.F C.G e) fun σ ρ v d w H => KV C k O' w σ ρ H v d
def tAr (C : Cn) (O : List Nat) (e : E) (O' : List Nat) : TE := tG C O O' (den C.F C.G e) fun σ ρ v d w H => Ar C.K w σ ρ v d
def tVl (C : Cn) (O : List Nat) (e : E) (O' : List Nat) : TE := tG C O O' (den C.F C.G e) fun σ ρ v d w H => Rep C.K w v d
def tTr (C : Cn) (O : List Nat) (m : Env → Os → Res Bool) (O' : List Nat) : TT := fun σ H Q => ∃ w ρ o, R C.K C.b O w σ ρ H o ∧
  Fin (m ρ o) (fun k o' => ∀ w' H', W.Le w w' → R C.K C.b O' w' σ ρ H' o' → Q k H') C.exn

section
variable {C : Cn} {X : Cx} {ex : Expr} {e : E} {O O' O1 O2 O3 : List Nat} {k : Kd} {w : W} {σ : L2.St} {ρ : Env} {H : Hp} {o : Os}

theorem mem_valO {i : Nat} {O : List Nat} {k : Kd} (h : i ∈ valO O k) : i ∈ O := by
  cases k with
  | val => exact h
  | own => exact h
  | slot j => exact (mem_rm.mp h).1
theorem mem_inter {i : Nat} {a b : List Nat} : i ∈ inter a b ↔ i ∈ a ∧ i ∈ b := by
  unfold inter; rw [List.mem_filter, decide_eq_true_iff]
/-- any value may stand as an argument -/
theorem ar_of (h : PE X ex (tE C O e O' k)) : PE X ex (tAr C O e O') := by
  refine h.imp fun σ H Q q => ?_
  obtain ⟨w, ρ, o, r, f⟩ := q
  refine ⟨w, ρ, o, r, f.imp fun d o' g v w' H' l r' kv => ?_⟩
  cases k with
  | val => exact g v w' H' l r' (.inl kv)
  | slot i => exact g v w' H' l r' (.inr ⟨i, kv.1, kv.2.1⟩)
  | own =>
    obtain ⟨ow, ap, az⟩ := kv
    obtain ⟨w2, l2, r2, p2⟩ := r'.freeze ow ap az
    exact g v w2 H' (l.trans l2) r2 (.inl p2)
/-- any value may become one that never changes -/
theorem vl_of (h : PE X ex (tE C O e O' k)) : PE X ex (tVl C O e (valO O' k)) := by
  refine h.imp fun σ H Q q => ?_
  obtain ⟨w, ρ, o, r, f⟩ := q
  refine ⟨w, ρ, o, r, f.imp fun d o' g v w' H' l r' kv => ?_⟩
  cases k with
  | val => exact g v w' H' l r' kv
  | slot i =>
    obtain ⟨e1, e2, _⟩ := kv
    obtain ⟨w2, l2, r2⟩ := r'.leak (O' := rm O' i) fun j hj => (mem_rm.mp hj).1
    obtain ⟨v', e3, _, re⟩ := r2.loc i d e2
    rw [e1] at e3; cases e3
    exact g v w2 H' (l.trans l2) r2 (re fun z => (mem_rm.mp z).2 rfl)
  | own =>
    obtain ⟨ow, ap, az⟩ := kv
    obtain ⟨w2, l2, r2, p2⟩ := r'.freeze ow ap az
    exact g v w2 H' (l.trans l2) r2 p2
theorem vl_sub (h : PE X ex (tVl C O e O')) (s : ∀ i, i ∈ O1 → i ∈ O') : PE X ex (tVl C O e O1) := by
  refine h.imp fun σ H Q q => ?_
  obtain ⟨w, ρ, o, r, f⟩ := q
  refine ⟨w, ρ, o, r, f.imp fun d o' g v w' H' l r' kv => ?_⟩
  obtain ⟨w2, l2, r2⟩ := r'.leak s
  exact g v w2 H' (l.trans l2) r2 (kv.mono l2)
theorem OwnV.leak (r : R C.K C.b O w σ ρ H o) {v : V} {d : D} (h : OwnV C O w σ ρ H v d) (s : ∀ i, i ∈ O1 → i ∈ O) : ∃ w', W.Le w w' ∧ R C.K C.b O1 w' σ ρ H o ∧ OwnV C O1 w' σ ρ H v d := by
  obtain ⟨⟨a, vs, ds, q1, q2, q3, q4, q5, q6, q7⟩, ap, az⟩ := h
  have r1 : R C.K { C.b with Z := (a, .lst vs) :: C.b.Z } O w σ ρ H o := by
    refine ⟨r.hr, ⟨r.po.le, r.po.keep, r.po.frS, r.po.frI⟩, r.len, fun i d e => ?_, r.ap, fun p hp => ?_⟩
    · obtain ⟨v, e1, ow, re⟩ := r.loc i d e
      exact ⟨v, e1, ow, re⟩
    · rcases List.mem_cons.mp hp with z | z
      · subst z
        exact ⟨q3, q5, q6, q7, fun i hi hs => by rw [← q1]; exact ap i hi hs⟩
      · exact r.tz p z
  obtain ⟨w2, l2, r2⟩ := r1.leak s
  obtain ⟨z1, z2, z3, z4, z5⟩ := r2.tz (a, .lst vs) List.mem_cons_self
  refine ⟨w2, l2, ⟨r2.hr, ⟨r2.po.le, r2.po.keep, r2.po.frS, r2.po.frI⟩, r2.len, fun i d e => ?_, r2.ap, fun p hp => r2.tz p (List.mem_cons_of_mem _ hp)⟩, ⟨a, vs, ds, q1, q2, z1, q4.mono l2, z2, z3, z4⟩, fun i hi hs => by rw [q1]; exact z5 i hi hs, az⟩
  obtain ⟨v, e1, ow, re⟩ := r2.loc i d e
  exact ⟨v, e1, ow, re⟩
theorem own_sub (h : PE X ex (tE C O e O' .own)) (s : ∀ i, i ∈ O1 → i ∈ O') : PE X ex (tE C O e O1 .own) := by
  refine h.imp fun σ H Q q => ?_
  obtain ⟨w, ρ, o, r, f⟩ := q
  refine ⟨w, ρ, o, r, f.imp fun d o' g v w' H' l r' kv => ?_⟩
  obtain ⟨w2, l2, r2, kv2⟩ := kv.leak r' s
  exact g v w2 H' (l.trans l2) r2 kv2

/-! ### constants, names -/
theorem s_int {i j : Int} {n : Nat} {p : Pos} (h : i = j) : PE X (.Constant (.int j) n p) (tE C O (.int i) O .val) := by
  subst h
  refine pe_int.imp fun σ H Q q => ?_
  obtain ⟨w, ρ, o, r, f⟩ := q
  exact f _ w H (.refl w) r (.int i)
theorem s_str {i j : Str} {n : Nat} {p : Pos} (h : i = j) : PE X (.Constant (.str j) n p) (tE C O (.str i) O .val) := by
  subst h
  refine pe_str.imp fun σ H Q q => ?_
  obtain ⟨w, ρ, o, r, f⟩ := q
  exact f _ w H (.refl w) r (.str i)
theorem s_bl {i j : Bool} {n : Nat} {p : Pos} (h : i = j) : PE X (.Constant (.bool j) n p) (tE C O (.bl i) O .val) := by
  subst h
  refine pe_bl.imp fun σ H Q q => ?_
  obtain ⟨w, ρ, o, r, f⟩ := q
  exact f _ w H (.refl w) r (.bl i)
theorem s_non {n : Nat} {p : Pos} : PE X (.Constant .none n p) (tE C O .non O .val) := by
  refine pe_non.imp fun σ H Q q => ?_
  obtain ⟨w, ρ, o, r, f⟩ := q
  exact f _ w H (.refl w) r .non
theorem s_var {i : Nat} {x : Str} {p : Pos} (hN : X.N[i]? = some x) (hv : Vis X.env.scope x) (hk : okN x = true) : PE X (.Name x p) (tE C O (.var i) O (if i ∈ O then .slot i else .val)) := by
  unfold okN at hk
  simp only [Bool.and_eq_true, Bool.not_eq_true'] at hk
  refine (pe_var (i := i) hN hv hk.1 hk.2).imp fun σ H Q q => ?_
  obtain ⟨w, ρ, o, r, f⟩ := q
  obtain ⟨d, e, g⟩ := fin_of f
  obtain ⟨v, e1, ow, re⟩ := r.loc i d e
  refine ⟨v, e1, g v w H (.refl w) r ?_⟩
  by_cases hi : i ∈ O
  · rw [if_pos hi]; obtain ⟨_, _, ds, _, e2, _⟩ := ow hi; exact ⟨e1, e, ds, e2⟩
  · rw [if_neg hi]; exact re hi
theorem s_glb {j : Nat} {x : Str} {p : Pos} {u : Value} {v : V} {d : D} (hg : Gl X x) (hm : X.mg x = some u) (r : RelV v u) (hk : okN x = true) (hG : C.G j = some d) (hr : ∀ w : W, Rep C.K w v d) : PE X (.Name x p) (tE C O (.glb j) O .val) := by
  unfold okN at hk
  simp only [Bool.and_eq_true, Bool.not_eq_true'] at hk
  refine (pe_glob hg hm r hk.1).imp fun σ H Q q => ?_
  obtain ⟨w, ρ, o, r, f⟩ := q
  obtain ⟨d', e, g⟩ := fin_of f
  rw [hG] at e; cases e
  exact g v w H (.refl w) r (hr w)

/-! ### lists of values, of arguments -/
def tVls (C : Cn) (O : List Nat) (es : Es) (O' : List Nat) (n : Nat) : TA := fun σ H Q => ∃ w ρ o, R C.K C.b O w σ ρ H o ∧
  Fin (denEs C.F C.G es ρ o) (fun ds o' => ∀ vs w' H', W.Le w w' → R C.K C.b O' w' σ ρ H' o' → Reps C.K w' vs ds → vs.length = n → Q vs H') C.exn
def tArs (C : Cn) (O : List Nat) (es : Es) (O' : List Nat) : TA := fun σ H Q => ∃ w ρ o, R C.K C.b O w σ ρ H o ∧
  Fin (denEs C.F C.G es ρ o) (fun ds o' => ∀ vs w' H', W.Le w w' → R C.K C.b O' w' σ ρ H' o' → Ars C.K w' σ ρ vs ds → Q vs H') C.exn
theorem star_of {x : Expr} {xs : List Expr} {env : PySem.Env} (h : plainE x = true) : starEach (x :: xs) env = (false, eval x env) :: starEach xs env := by
  cases x <;> first | rfl | (simp [plainE] at h)
theorem s_vnil : PA X [] (tVls C O .nil O 0) := by
  refine pa_nil.imp fun σ H Q q => ?_
  obtain ⟨w, ρ, o, r, f⟩ := q
  exact f [] w H (.refl w) r .nil rfl
theorem s_vcons {x : Expr} {xs : List Expr} {es : Es} (hp : plainE x = true) (ha : PE X x (tVl C O e O1)) {n : Nat} (hr : PA X xs (tVls C O1 es O2 n)) : PA X (x :: xs) (tVls C O (.cons e es) O2 (n + 1)) := by
  refine (pa_cons ha hr (star_of hp)).imp fun σ H Q q => ?_
  obtain ⟨w, ρ, o, r, f⟩ := q
  refine ⟨w, ρ, o, r, (fin_bind f).imp fun d o1 g v w1 H1 l1 r1 p1 => ?_⟩
  refine ⟨w1, ρ, o1, r1, (fin_bind g).imp fun ds o2 g vs w2 H2 l2 r2 p2 ln => ?_⟩
  exact g (v :: vs) w2 H2 (l1.trans l2) r2 (.cons (p1.mono l2) p2) (by rw [List.length_cons, ln])
theorem s_anil : PA X [] (tArs C O .nil O) := by
  refine pa_nil.imp fun σ H Q q => ?_
  obtain ⟨w, ρ, o, r, f⟩ := q
  exact f [] w H (.refl w) r .nil
theorem s_acons {x : Expr} {xs : List Expr} {es : Es} (hp : plainE x = true) (ha : PE X x (tAr C O e O1)) (hr : PA X xs (tArs C O1 es O2)) : PA X (x :: xs) (tArs C O (.cons e es) O2) := by
  refine (pa_cons ha hr (star_of hp)).imp fun σ H Q q => ?_
  obtain ⟨w, ρ, o, r, f⟩ := q
  refine ⟨w, ρ, o, r, (fin_bind f).imp fun d o1 g v w1 H1 l1 r1 p1 => ?_⟩
  refine ⟨w1, ρ, o1, r1, (fin_bind g).imp fun ds o2 g vs w2 H2 l2 r2 p2 => ?_⟩
  exact g (v :: vs) w2 H2 (l1.trans l2) r2 (.cons (p1.mono l2) p2)
end
end Ev

/-! operators, comparisons, tests, subscripts -/
namespace Ev
open PySem L2 PySem.Spec PyProof.Rows

section
variable {K : PySem.W.Frag} {w : W} {H : Hp} {o : Os} {v : V}
theorem vw_non (h : Vw K w H v .non) : v = .non := by
  rcases h with ⟨_, _, _, _, e, _⟩ | ⟨_, r⟩
  · cases e
  · cases r; rfl
theorem vw_bl {b : Bool} (h : Vw K w H v (.bl b)) : v = .bl b := by
  rcases h with ⟨_, _, _, _, e, _⟩ | ⟨_, r⟩
  · cases e
  · cases r; rfl
theorem vw_int {i : Int} (h : Vw K w H v (.int i)) : v = .int i := by
  rcases h with ⟨_, _, _, _, e, _⟩ | ⟨_, r⟩
  · cases e
  · cases r; rfl
theorem vw_str {x : Str} (h : Vw K w H v (.str x)) : v = .str x := by
  rcases h with ⟨_, _, _, _, e, _⟩ | ⟨_, r⟩
  · cases e
  · cases r; rfl
theorem vw_tup (hr : HR K w H o) {ds : List D} (h : Vw K w H v (.tup ds)) : ∃ a vs, v = .ref a ∧ SqT K H a vs ∧ Reps K w vs ds ∧ Rep K w v (.tup ds) := by
  rcases h with ⟨_, _, _, _, e, _⟩ | ⟨_, r⟩
  · cases e
  · cases r with
    | tup e q => exact ⟨_, _, rfl, sqT_mono hr.sub e, q, .tup e q⟩
theorem vw_scr (hr : HR K w H o) {ds : List D} (h : Vw K w H v (.scr ds)) : ∃ a vs, v = .ref a ∧ SqL K H a vs ∧ Reps K w vs ds ∧ Rep K w v (.scr ds) := by
  rcases h with ⟨_, _, _, _, e, _⟩ | ⟨_, r⟩
  · cases e
  · cases r with
    | scr e q => exact ⟨_, _, rfl, sqL_mono hr.sub e, q, .scr e q⟩
theorem vw_lst {ds : List D} (h : Vw K w H v (.lst ds)) : ∃ a vs, v = .ref a ∧ H a = some (.lst vs) ∧ Reps K w vs ds := by
  rcases h with ⟨a, vs, ds', e1, e2, e3, e4⟩ | ⟨n, _⟩
  · cases e2; exact ⟨a, vs, e1, e3, e4⟩
  · exact absurd rfl (n ds)
theorem vw_ref (hr : HR K w H o) {n : Nat} (h : Vw K w H v (.ref n)) : ∃ a, v = .ref a ∧ w.ι[n]? = some a := by
  rcases h with ⟨_, _, _, _, e, _⟩ | ⟨_, r⟩
  · cases e
  · cases r with
    | ref e => exact ⟨_, rfl, e⟩
mutual
theorem Rep.dp (hr : HR K w H o) : ∀ {v : V} {d : D} {p : PyData}, Rep K w v d → dP d = some p → Dp K H v p
  | _, _, p, .non, e => by simp [dP] at e; subst e; exact .non
  | _, _, p, .bl b, e => by simp [dP] at e; subst e; exact .bl b
  | _, _, p, .int i, e => by simp [dP] at e; subst e; exact .int i
  | _, _, p, .str x, e => by simp [dP] at e; subst e; exact .str x
  | _, _, p, .tup h r, e => by
    simp only [dP, Option.map_eq_some_iff] at e
    obtain ⟨ps, e1, rfl⟩ := e
    exact .tup (sqT_mono hr.sub h) (Reps.dp hr r e1)
  | _, _, p, .lst h r, e => by
    simp only [dP, Option.map_eq_some_iff] at e
    obtain ⟨ps, e1, rfl⟩ := e
    exact .lst (.of (hr.sub _ _ h)) (Reps.dp hr r e1)
  | _, _, p, .scr h r, e => by simp [dP] at e
  | _, _, p, .ref h, e => by simp [dP] at e
theorem Reps.dp (hr : HR K w H o) : ∀ {vs : List V} {ds : List D} {ps : List PyData}, Reps K w vs ds → dPs ds = some ps → DpAll K H vs ps
  | _, _, ps, .nil, e => by simp [dPs] at e; subst e; exact .nil
  | _, _, ps, .cons (d := d) (ds := ds) h r, e => by
    unfold dPs at e
    cases e1 : dP d with
    | none => rw [e1] at e; cases e
    | some p =>
      cases e2 : dPs ds with
      | none => rw [e1, e2] at e; cases e
      | some qs =>
        rw [e1, e2] at e
        cases e
        exact .cons (Rep.dp hr h e1) (Reps.dp hr r e2)
end
theorem vw_dp (hr : HR K w H o) {d : D} {p : PyData} (h : Vw K w H v d) (e : dP d = some p) : Dp K H v p := by
  rcases h with ⟨a, vs, ds', e1, e2, e3, e4⟩ | ⟨_, r⟩
  · subst e1 e2
    simp only [dP, Option.map_eq_some_iff] at e
    obtain ⟨ps, e5, rfl⟩ := e
    exact .lst (.of e3) (Reps.dp hr e4 e5)
  · exact r.dp hr e
theorem line_eq : line = sizeLine := by rw [sizeLine_eq]; rfl
theorem vw_tru (hr : HR K w H o) {d : D} {k : Bool} (h : Vw K w H v d) (e : dTru d = some k) : TruV K v H k := by
  cases d with
  | non => rw [vw_non h]; simp [dTru] at e; exact e
  | bl b => rw [vw_bl h]; simp [dTru] at e; exact e.symm
  | int i => rw [vw_int h]; simp only [dTru, Option.some.injEq] at e; exact e.symm
  | str x =>
    rw [vw_str h]
    simp only [dTru] at e
    split at e
    · rename_i hl
      exact ⟨by rw [← line_eq]; exact hl, (Option.some.inj e).symm⟩
    · cases e
  | tup ds =>
    obtain ⟨a, vs, rfl, s, r, _⟩ := vw_tup hr h
    simp only [dTru, Option.some.injEq] at e
    exact .inr (.inl ⟨vs, s, by rw [← e, r.isEmpty]⟩)
  | lst ds =>
    obtain ⟨a, vs, rfl, s, r⟩ := vw_lst h
    simp only [dTru, Option.some.injEq] at e
    exact .inl ⟨vs, .of s, by rw [← e, r.isEmpty]⟩
  | scr ds => simp [dTru] at e
  | ref n => simp [dTru] at e
  | exc c ds => simp [dTru] at e
theorem vw_ty (hr : HR K w H o) {d : D} {t : Ty} {k : Bool} (h : Vw K w H v d) (e : dIs t d = some k) : ∃ T : String, TyX K H v (.type T) ∧ PySem.W.kitOne K (.type T) (.type (tyS t)) = some k := by
  have fin : ∀ T : String, kitB T (tyS t) = some k → TyX K H v (.type T) → ∃ T : String, TyX K H v (.type T) ∧ PySem.W.kitOne K (.type T) (.type (tyS t)) = some k :=
    fun T q ty => ⟨T, ty, kit_ty q⟩
  cases d with
  | non =>
    refine fin "NoneType" ?_ (by rw [vw_non h]; exact .base .non)
    simp only [dIs, Option.some.injEq] at e; subst e
    cases t <;> decide +kernel
  | bl b =>
    refine fin "bool" ?_ (by rw [vw_bl h]; exact .base (.bl b))
    simp only [dIs, Option.some.injEq] at e; subst e
    cases t <;> decide +kernel
  | int i =>
    refine fin "int" ?_ (by rw [vw_int h]; exact .base (.int i))
    simp only [dIs, Option.some.injEq] at e; subst e
    cases t <;> decide +kernel
  | str x =>
    refine fin "str" ?_ (by rw [vw_str h]; exact .base (.str x))
    simp only [dIs, Option.some.injEq] at e; subst e
    cases t <;> decide +kernel
  | tup ds =>
    obtain ⟨a, vs, rfl, s, r, _⟩ := vw_tup hr h
    refine fin "tuple" ?_ ?_
    · simp only [dIs, Option.some.injEq] at e; subst e
      cases t <;> decide +kernel
    · rcases s with (s | ⟨ob, s⟩) | ⟨ob, its, n, s1, s2, _⟩
      · exact .base (.tup s)
      · exact .fTuple s
      · exact .kTuple s1 s2
  | lst ds =>
    obtain ⟨a, vs, rfl, s, r⟩ := vw_lst h
    refine fin "list" ?_ (.base (.lst s))
    simp only [dIs, Option.some.injEq] at e; subst e
    cases t <;> decide +kernel
  | scr ds => simp [dIs] at e
  | ref n => simp [dIs] at e
  | exc c ds => simp [dIs] at e
end

section
variable {C : Cn} {X : Cx} {O O' O1 O2 O3 : List Nat} {k : Kd} {w : W} {σ : L2.St} {ρ : Env} {H : Hp} {o : Os}
/-- a new value: a list is one's own -/
def FV (C : Cn) (O : List Nat) (w : W) (σ : L2.St) (ρ : Env) (H : Hp) (v : V) (d : D) : Prop := (∀ ds, d = .lst ds → OwnV C O w σ ρ H v d) ∧ ((∀ ds, d ≠ .lst ds) → Rep C.K w v d)
theorem FV.rep (r : R C.K C.b O w σ ρ H o) {v : V} {d : D} (h : FV C O w σ ρ H v d) : ∃ w', W.Le w w' ∧ R C.K C.b O w' σ ρ H o ∧ Rep C.K w' v d := by
  by_cases q : ∃ ds, d = .lst ds
  · obtain ⟨ds, e⟩ := q
    obtain ⟨ow, ap, az⟩ := h.1 ds e
    exact r.freeze ow ap az
  · exact ⟨w, .refl w, r, h.2 fun ds e => q ⟨ds, e⟩⟩
theorem FV.of {v : V} {d : D} (h : Rep C.K w v d) (n : ∀ ds, d ≠ .lst ds) : FV C O w σ ρ H v d := ⟨fun ds e => absurd e (n ds), fun _ => h⟩
theorem FV.new (r : R C.K C.b O w σ ρ H o) {p : Addr} {vs : List V} {ds : List D} (e : H p = none) (q : Reps C.K w vs ds) : R C.K C.b O w σ ρ (upd H p (.lst vs)) o ∧ FV C O w σ ρ (upd H p (.lst vs)) (.ref p) (.lst ds) := by
  obtain ⟨r1, ow, ap⟩ := r.newOwn e q
  exact ⟨r1, ⟨fun _ _ => ⟨ow, ap, r.newOwnZ e⟩, fun n => absurd rfl (n ds)⟩⟩
/-- the wish behind an operation of values -/
def Aft (C : Cn) (O : List Nat) (w : W) (σ : L2.St) (ρ : Env) (o : Os) (d : D) (Q : VK) : Prop := ∀ v w' H', W.Le w w' → R C.K C.b O w' σ ρ H' o → FV C O w' σ ρ H' v d → Q v H'
def rBin (C : Cn) (O : List Nat) (p : Bop) : R2 := fun x y H Q => ∃ w σ ρ o a b d, R C.K C.b O w σ ρ H o ∧ Vw C.K w H x a ∧ Vw C.K w H y b ∧ dBin p a b = some d ∧ Aft C O w σ ρ o d Q

theorem bin_add {a b d : D} (h : dBin .add a b = some d) : (∃ i j, a = .int i ∧ b = .int j ∧ d = .int (i + j)) ∨ (∃ x y, a = .str x ∧ b = .str y ∧ x.length + y.length ≤ line ∧ d = .str (x ++ y)) ∨
    (∃ x y, a = .lst x ∧ b = .lst y ∧ x.length + y.length ≤ line ∧ d = .lst (x ++ y)) ∨ (∃ x y, a = .tup x ∧ b = .tup y ∧ x.length + y.length ≤ line ∧ d = .tup (x ++ y)) := by
  unfold dBin at h
  split at h <;> (try (split at h)) <;> (first | (cases h; done) | skip) <;> simp_all
theorem bin_sub {a b d : D} (h : dBin .sub a b = some d) : ∃ i j, a = .int i ∧ b = .int j ∧ d = .int (i - j) := by
  unfold dBin at h
  split at h <;> (first | (cases h; done) | skip) <;> simp_all
theorem bin_mul {a b d : D} (h : dBin .mul a b = some d) : (∃ i j, a = .int i ∧ b = .int j ∧ mulOk i j = true ∧ d = .int (i * j)) ∨
    (∃ xs k, a = .lst xs ∧ b = .int k ∧ -(2 ^ 63) ≤ k ∧ k < 2 ^ 63 ∧ xs.length * k.toNat ≤ line ∧ d = .lst (List.replicate k.toNat xs).flatten) ∨
    (∃ x k, a = .str x ∧ b = .int k ∧ x.length ≤ 16 ∧ -(2 ^ 63) ≤ k ∧ k ≤ 1048576 ∧ d = .str (Txt.mul x k)) := by
  unfold dBin at h
  split at h <;> (try (split at h)) <;> (first | (cases h; done) | skip) <;> simp_all
theorem bin_fdiv {a b d : D} (h : dBin .fdiv a b = some d) : ∃ i j, a = .int i ∧ b = .int j ∧ divOk j = true ∧ d = .int (i.fdiv j) := by
  unfold dBin at h
  split at h <;> (try (split at h)) <;> (first | (cases h; done) | skip) <;> simp_all
theorem bin_mod {a b d : D} (h : dBin .mod a b = some d) : ∃ i j, a = .int i ∧ b = .int j ∧ j ≠ 0 ∧ d = .int (i.fmod j) := by
  unfold dBin at h
  split at h <;> (try (split at h)) <;> (first | (cases h; done) | skip) <;> simp_all
theorem bin_pow {a b d : D} (h : dBin .pow a b = some d) : ∃ i j, a = .int i ∧ b = .int j ∧ powOk i j = true ∧ d = .int (i ^ j.toNat) := by
  unfold dBin at h
  split at h <;> (try (split at h)) <;> (first | (cases h; done) | skip) <;> simp_all
theorem op_fdivB : OpR X (binaryOp .FloorDiv) (rI (fun _ j => j ≠ 0 ∧ j.natAbs.log2 < 9000) fun i j => .int (i.fdiv j)) := opI fun _ _ _ _ _ _ _ hc q => floordiv_int hc.1 q (.inl (PyProof.noPylong_of_log2 hc.2))
theorem op_powB : OpR X (binaryOp .Pow) (rI (fun i j => 0 ≤ j ∧ (Builtin.Int.intBits i : Int) * j ≤ 134217728) fun i j => .int (i ^ j.toNat)) := opI fun _ _ _ _ _ _ _ hc q => pow_int hc.1 (by have := hc.2; omega) q
theorem op_mulS : OpR X (binaryOp .Mult) (fun x y H Q => ∃ z k, x = .str z ∧ y = .int k ∧ z.length ≤ 16 ∧ -(2 ^ 63) ≤ k ∧ k ≤ 1048576 ∧ Q (.str (Txt.mul z k)) H) := by
  intro pins s σ H x y v u Q I rx ry held
  obtain ⟨z, k, rfl, rfl, h1, h2, h3, q⟩ := held
  obtain ⟨t, rfl⟩ := rx
  obtain ⟨t', rfl⟩ := ry
  exact SB.mul (mulOk_of 16 1048576 h1 h3 h2 (by decide) (by decide)) fun t' k => ⟨.str _, H, I.tok _, ⟨_, rfl⟩, q⟩
theorem op_bin {p : Bop} {op : Operator} (hp : opB p op = true) : OpR X (binaryOp op) (fun x y H Q => X.K = C.K ∧ rBin C O p x y H Q) := by
  intro pins s σ' H x y v u Q I rx ry h
  obtain ⟨hK, w, σ, ρ, o, a, b, d, r, va, vb, e, g⟩ := h
  cases p with
  | add =>
    cases op <;> first | (exact absurd hp (by decide)) | skip
    rcases bin_add e with ⟨i, j, rfl, rfl, rfl⟩ | ⟨i, j, rfl, rfl, hl, rfl⟩ | ⟨i, j, rfl, rfl, hl, rfl⟩ | ⟨i, j, rfl, rfl, hl, rfl⟩
    · exact op_add pins s σ' H x y v u Q I rx ry ⟨i, j, vw_int va, vw_int vb, g _ w H (.refl w) r (.of (.int _) (by intro _ z; cases z))⟩
    · exact op_add_str pins s σ' H x y v u Q I rx ry ⟨i, j, vw_str va, vw_str vb, by rw [← line_eq]; exact hl, g _ w H (.refl w) r (.of (.str _) (by intro _ z; cases z))⟩
    · obtain ⟨a1, vs, e1, e2, r1⟩ := vw_lst va
      obtain ⟨a2, us, e3, e4, r2⟩ := vw_lst vb
      exact op_cat pins s σ' H x y v u Q I rx ry ⟨a1, a2, vs, us, e1, e3, e2, e4, by rw [r1.length, r2.length, ← line_eq]; exact hl, fun p hp => let ⟨q1, q2⟩ := FV.new r hp (r1.append r2); g _ w _ (.refl w) q1 q2⟩
    · obtain ⟨a1, vs, e1, e2, r1, p1⟩ := vw_tup r.hr va
      obtain ⟨a2, us, e3, e4, r2, p2⟩ := vw_tup r.hr vb
      refine op_catA pins s σ' H x y v u Q I rx ry ⟨a1, a2, vs, us, e1, e3, by rw [hK]; exact e2, by rw [hK]; exact e4, by rw [r1.length, r2.length, ← line_eq]; exact hl, fun z => ?_, fun _ z => ?_, fun _ _ p hp => ?_⟩
      · have z1 := r1.nil_iff.mp z
        subst z1 e3
        exact g _ w H (.refl w) r (.of (by simpa using p2) (by intro _ z; cases z))
      · have z1 := r2.nil_iff.mp z
        subst z1 e1
        exact g _ w H (.refl w) r (.of (by simpa using p1) (by intro _ z; cases z))
      · obtain ⟨w2, l2, q1, q2⟩ := r.newTup hp (r1.append r2)
        exact g _ w2 _ l2 q1 (.of q2 (by intro _ z; cases z))
  | sub =>
    cases op <;> first | (exact absurd hp (by decide)) | skip
    obtain ⟨i, j, rfl, rfl, rfl⟩ := bin_sub e
    exact op_sub pins s σ' H x y v u Q I rx ry ⟨i, j, vw_int va, vw_int vb, g _ w H (.refl w) r (.of (.int _) (by intro _ z; cases z))⟩
  | mul =>
    cases op <;> first | (exact absurd hp (by decide)) | skip
    rcases bin_mul e with ⟨i, j, rfl, rfl, hm, rfl⟩ | ⟨xs, k, rfl, rfl, h1, h2, h3, rfl⟩ | ⟨z, k, rfl, rfl, h1, h2, h3, rfl⟩
    · unfold mulOk at hm
      exact op_mulW pins s σ' H x y v u Q I rx ry ⟨i, j, vw_int va, vw_int vb, (by unfold CMulW; exact of_decide_eq_true hm), g _ w H (.refl w) r (.of (.int _) (by intro _ z; cases z))⟩
    · obtain ⟨a1, vs, e1, e2, r1⟩ := vw_lst va
      exact op_rep pins s σ' H x y v u Q I rx ry ⟨a1, k, vs, e1, vw_int vb, e2, h1, h2, by rw [r1.length, ← line_eq]; exact h3, fun p hp => let ⟨q1, q2⟩ := FV.new r hp (r1.rep _); g _ w _ (.refl w) q1 q2⟩
    · exact op_mulS pins s σ' H x y v u Q I rx ry ⟨z, k, vw_str va, vw_int vb, h1, h2, h3, g _ w H (.refl w) r (.of (.str _) (by intro _ z; cases z))⟩
  | fdiv =>
    cases op <;> first | (exact absurd hp (by decide)) | skip
    obtain ⟨i, j, rfl, rfl, hm, rfl⟩ := bin_fdiv e
    unfold divOk at hm
    rw [Bool.and_eq_true] at hm
    exact op_fdivB pins s σ' H x y v u Q I rx ry ⟨i, j, vw_int va, vw_int vb, ⟨of_decide_eq_true hm.1, of_decide_eq_true hm.2⟩, g _ w H (.refl w) r (.of (.int _) (by intro _ z; cases z))⟩
  | mod =>
    cases op <;> first | (exact absurd hp (by decide)) | skip
    obtain ⟨i, j, rfl, rfl, hm, rfl⟩ := bin_mod e
    exact op_modN pins s σ' H x y v u Q I rx ry ⟨i, j, vw_int va, vw_int vb, hm, g _ w H (.refl w) r (.of (.int _) (by intro _ z; cases z))⟩
  | pow =>
    cases op <;> first | (exact absurd hp (by decide)) | skip
    obtain ⟨i, j, rfl, rfl, hm, rfl⟩ := bin_pow e
    unfold powOk at hm
    rw [Bool.and_eq_true] at hm
    exact op_powB pins s σ' H x y v u Q I rx ry ⟨i, j, vw_int va, vw_int vb, ⟨of_decide_eq_true hm.1, of_decide_eq_true hm.2⟩, g _ w H (.refl w) r (.of (.int _) (by intro _ z; cases z))⟩

/-! ### comparisons -/
def rCmp (C : Cn) (p : Cop) : R2 := fun x y H Q => ∃ w o a b k, HR C.K w H o ∧ Vw C.K w H x a ∧ Vw C.K w H y b ∧ dCmp p a b = some k ∧ Q (.bl k) H
theorem deq_some {a b : D} {k : Bool} (h : deq a b = some k) : ∃ p q, dP a = some p ∧ dP b = some q ∧ SeqAt.shaped p = true ∧ SeqAt.shaped q = true ∧ k = PyData.eqv p q := by
  unfold deq at h
  cases e1 : dP a with
  | none => rw [e1] at h; cases h
  | some p =>
    cases e2 : dP b with
    | none => rw [e1, e2] at h; cases h
    | some q =>
      rw [e1, e2] at h
      simp only at h
      split at h
      · rename_i hs
        rw [Bool.and_eq_true] at hs
        exact ⟨p, q, rfl, rfl, hs.1, hs.2, (Option.some.inj h).symm⟩
      · cases h
theorem op_eqE (hu : X.A.units + 65 < cLine) (hK : X.K = C.K) : OpR X (compareOp .Eq) (rCmp C .eq) := by
  intro pins s σ' H x y v u Q I rx ry ⟨w, o, a, b, k, hr, va, vb, e, g⟩
  obtain ⟨p, q, e1, e2, s1, s2, rfl⟩ := deq_some (show deq a b = some k from e)
  exact op_eqD (by omega) pins s σ' H x y v u Q I rx ry ⟨p, q, by rw [hK]; exact vw_dp hr va e1, by rw [hK]; exact vw_dp hr vb e2, s1, s2, g⟩
theorem op_neE (hu : X.A.units + 65 < cLine) (hK : X.K = C.K) : OpR X (compareOp .NotEq) (rCmp C .ne) := by
  intro pins s σ' H x y v u Q I rx ry ⟨w, o, a, b, k, hr, va, vb, e, g⟩
  simp only [dCmp, Option.map_eq_some_iff] at e
  obtain ⟨k', e, rfl⟩ := e
  obtain ⟨p, q, e1, e2, s1, s2, rfl⟩ := deq_some e
  exact op_neD (by omega) pins s σ' H x y v u Q I rx ry ⟨p, q, by rw [hK]; exact vw_dp hr va e1, by rw [hK]; exact vw_dp hr vb e2, s1, s2, g⟩
theorem dIn_some {a b : D} {k : Bool} (h : dIn a b = some k) : (∃ y z, a = .str y ∧ b = .str z ∧ k = !(Builtin.Str.occurrences z y 0 z.length 1).isEmpty) ∨
    (∃ ds p ps, b = .lst ds ∧ dP a = some p ∧ dPs ds = some ps ∧ SeqAt.shaped p = true ∧ SeqAt.shaped (.list ps) = true ∧ k = ps.any fun z => PyData.eqv z p) := by
  cases b with
  | str z =>
    cases a with
    | str y => exact .inl ⟨y, z, rfl, rfl, (Option.some.inj h).symm⟩
    | _ => cases h
  | lst ds =>
    simp only [dIn] at h
    cases e1 : dP a with
    | none => rw [e1] at h; cases h
    | some p =>
      cases e2 : dPs ds with
      | none => rw [e1, e2] at h; cases h
      | some q =>
        rw [e1, e2] at h
        simp only at h
        split at h
        · rename_i hs
          rw [Bool.and_eq_true] at hs
          exact .inr ⟨ds, p, q, rfl, rfl, e2, hs.1, hs.2, (Option.some.inj h).symm⟩
        · cases h
  | _ => cases h
theorem op_inE (hu : X.A.units + 65 < cLine) (hK : X.K = C.K) : OpR X (compareOp .In) (rCmp C .in_) := by
  intro pins s σ' H x y v u Q I rx ry ⟨w, o, a, b, k, hr, va, vb, e, g⟩
  rcases dIn_some (show dIn a b = some k from e) with ⟨y', z, rfl, rfl, rfl⟩ | ⟨ds, p, ps, rfl, e1, e2, s1, s2, rfl⟩
  · exact op_in_str pins s σ' H x y v u Q I rx ry ⟨y', z, vw_str va, vw_str vb, g⟩
  · exact op_inD hu pins s σ' H x y v u Q I rx ry ⟨p, ps, by rw [hK]; exact vw_dp hr va e1, by rw [hK]; exact vw_dp hr vb (by simp only [dP, e2]; rfl), s1, s2, g⟩
theorem op_notinE (hu : X.A.units + 65 < cLine) (hK : X.K = C.K) : OpR X (compareOp .NotIn) (rCmp C .notin) := by
  intro pins s σ' H x y v u Q I rx ry ⟨w, o, a, b, k, hr, va, vb, e, g⟩
  simp only [dCmp, Option.map_eq_some_iff] at e
  obtain ⟨k', e, rfl⟩ := e
  rcases dIn_some e with ⟨y', z, rfl, rfl, rfl⟩ | ⟨ds, p, ps, rfl, e1, e2, s1, s2, rfl⟩
  · exact op_notIn_str pins s σ' H x y v u Q I rx ry ⟨y', z, vw_str va, vw_str vb, g⟩
  · exact op_notInD hu pins s σ' H x y v u Q I rx ry ⟨p, ps, by rw [hK]; exact vw_dp hr va e1, by rw [hK]; exact vw_dp hr vb (by simp only [dP, e2]; rfl), s1, s2, g⟩
theorem vw_isnon (hr : HR C.K w H o) {v : V} {d : D} (h : Vw C.K w H v d) : decide (v = .non) = isNonD d := by
  cases d with
  | non => have e := vw_non h; subst e; rfl
  | bl b => have e := vw_bl h; subst e; rfl
  | int b => have e := vw_int h; subst e; rfl
  | str b => have e := vw_str h; subst e; rfl
  | tup b => obtain ⟨a, vs, e, _⟩ := vw_tup hr h; subst e; rfl
  | lst b => obtain ⟨a, vs, e, _⟩ := vw_lst h; subst e; rfl
  | scr b => obtain ⟨a, vs, e, _⟩ := vw_scr hr h; subst e; rfl
  | ref b => obtain ⟨a, e, _⟩ := vw_ref hr h; subst e; rfl
  | exc c ds =>
    rcases h with ⟨_, _, _, _, e, _⟩ | ⟨_, r⟩
    · cases e
    · cases r
theorem op_isE : OpR X (compareOp .Is) (rCmp C .is) := by
  intro pins s σ' H x y v u Q I rx ry ⟨w, o, a, b, k, hr, va, vb, e, g⟩
  cases b <;> first | (simp [dCmp] at e; done) | skip
  simp only [dCmp, Option.some.injEq] at e
  refine op_isN pins s σ' H x y v u Q I rx ry ⟨vw_non vb, ?_⟩
  rw [vw_isnon hr va, e]
  exact g
theorem op_isnotE : OpR X (compareOp .IsNot) (rCmp C .isnot) := by
  intro pins s σ' H x y v u Q I rx ry ⟨w, o, a, b, k, hr, va, vb, e, g⟩
  cases b <;> first | (simp [dCmp] at e; done) | skip
  simp only [dCmp, Option.some.injEq] at e
  refine op_notN pins s σ' H x y v u Q I rx ry ⟨vw_non vb, ?_⟩
  rw [vw_isnon hr va, e]
  exact g
theorem op_ltE : OpR X (compareOp .Lt) (rCmp C .lt) := by
  intro pins s σ' H x y v u Q I rx ry ⟨w, o, a, b, k, hr, va, vb, e, g⟩
  simp only [dCmp] at e
  split at e <;> first | (cases e; done) | skip
  · cases e; exact op_lt pins s σ' H x y v u Q I rx ry ⟨_, _, vw_int va, vw_int vb, g⟩
  · cases e; exact op_lt_str pins s σ' H x y v u Q I rx ry ⟨_, _, vw_str va, vw_str vb, g⟩
theorem op_leE : OpR X (compareOp .LtE) (rCmp C .le) := by
  intro pins s σ' H x y v u Q I rx ry ⟨w, o, a, b, k, hr, va, vb, e, g⟩
  simp only [dCmp] at e
  split at e <;> first | (cases e; done) | skip
  cases e; exact op_le pins s σ' H x y v u Q I rx ry ⟨_, _, vw_int va, vw_int vb, g⟩
theorem op_gtE : OpR X (compareOp .Gt) (rCmp C .gt) := by
  intro pins s σ' H x y v u Q I rx ry ⟨w, o, a, b, k, hr, va, vb, e, g⟩
  simp only [dCmp] at e
  split at e <;> first | (cases e; done) | skip
  cases e; exact op_gt pins s σ' H x y v u Q I rx ry ⟨_, _, vw_int va, vw_int vb, g⟩
theorem op_geE : OpR X (compareOp .GtE) (rCmp C .ge) := by
  intro pins s σ' H x y v u Q I rx ry ⟨w, o, a, b, k, hr, va, vb, e, g⟩
  simp only [dCmp] at e
  split at e <;> first | (cases e; done) | skip
  cases e; exact op_ge pins s σ' H x y v u Q I rx ry ⟨_, _, vw_int va, vw_int vb, g⟩
theorem op_cmpE {p : Cop} {op : CmpOp} (hp : copB p op = true) (hu : X.A.units + 65 < cLine) (hK : X.K = C.K) : OpR X (compareOp op) (rCmp C p) := by
  cases p <;> cases op <;> first
    | (exact absurd hp (by decide)) | exact op_eqE hu hK | exact op_neE hu hK | exact op_inE hu hK | exact op_notinE hu hK | exact op_isE | exact op_isnotE | exact op_ltE | exact op_leE | exact op_gtE | exact op_geE
theorem mark_of {op : CmpOp} {e : Expr} (h : plainE e = true) : behindInMarks op e = false := by
  cases e <;> first | rfl | (simp [plainE] at h)

/-! ### expressions over them -/
theorem KV.ar (r : R C.K C.b O w σ ρ H o) {v : V} {d : D} (h : KV C k O w σ ρ H v d) : ∃ w', W.Le w w' ∧ R C.K C.b O w' σ ρ H o ∧ Ar C.K w' σ ρ v d ∧ (isLst k = true → ∃ ds, d = .lst ds) := by
  cases k with
  | val => exact ⟨w, .refl _, r, .inl h, fun h => absurd h (by decide)⟩
  | slot i => exact ⟨w, .refl _, r, .inr ⟨i, h.1, h.2.1⟩, fun _ => h.2.2⟩
  | own =>
    obtain ⟨ow, ap, az⟩ := h
    obtain ⟨w2, l2, r2, p2⟩ := r.freeze ow ap az
    obtain ⟨_, _, ds, _, e, _⟩ := ow
    exact ⟨w2, l2, r2, .inl p2, fun _ => ⟨ds, e⟩⟩
theorem bin_lst {p : Bop} {k1 k2 : Kd} {d1 d2 d : D} (hk : binK p k1 k2 = .own) (h1 : isLst k1 = true → ∃ ds, d1 = .lst ds) (h2 : isLst k2 = true → ∃ ds, d2 = .lst ds) (e : dBin p d1 d2 = some d) : ∃ ds, d = .lst ds := by
  have hl : isLst k1 = true ∨ isLst k2 = true := by
    unfold binK at hk
    cases p <;> simp only at hk <;> first | (cases hk; done) | (split at hk <;> first | (cases hk; done) | (rename_i z; simpa using z))
  cases p <;> first | (cases hk; done) | skip
  · rcases bin_add e with ⟨i, j, rfl, rfl, rfl⟩ | ⟨i, j, rfl, rfl, _, rfl⟩ | ⟨i, j, rfl, rfl, _, rfl⟩ | ⟨i, j, rfl, rfl, _, rfl⟩
    · rcases hl with hl | hl
      · obtain ⟨_, z⟩ := h1 hl; cases z
      · obtain ⟨_, z⟩ := h2 hl; cases z
    · rcases hl with hl | hl
      · obtain ⟨_, z⟩ := h1 hl; cases z
      · obtain ⟨_, z⟩ := h2 hl; cases z
    · exact ⟨_, rfl⟩
    · rcases hl with hl | hl
      · obtain ⟨_, z⟩ := h1 hl; cases z
      · obtain ⟨_, z⟩ := h2 hl; cases z
  · rcases bin_mul e with ⟨i, j, rfl, rfl, _, rfl⟩ | ⟨xs, k, rfl, rfl, _, _, _, rfl⟩ | ⟨x, k, rfl, rfl, _, _, _, rfl⟩
    · rcases hl with hl | hl
      · obtain ⟨_, z⟩ := h1 hl; cases z
      · obtain ⟨_, z⟩ := h2 hl; cases z
    · exact ⟨_, rfl⟩
    · rcases hl with hl | hl
      · obtain ⟨_, z⟩ := h1 hl; cases z
      · obtain ⟨_, z⟩ := h2 hl; cases z
variable {xa xb xc : Expr} {a b c : E} {pos : Pos}
theorem s_bin {p : Bop} {op : Operator} (hK : X.K = C.K) (hp : opB p op = true) {k1 k2 : Kd} (ha : PE X xa (tE C O a O1 k1)) (hb : PE X xb (tE C O1 b O2 k2)) :
    PE X (.BinOp xa op xb pos) (tE C O (.bin p a b) O2 (binK p k1 k2)) := by
  refine (pe_op (op_bin (C := C) (O := O2) hp) ha hb).imp fun σ H Q q => ?_
  obtain ⟨w, ρ, o, r, f⟩ := q
  refine ⟨w, ρ, o, r, (fin_bind f).imp fun d1 o1 g v1 w1 H1 l1 r1 p1 => ?_⟩
  obtain ⟨w1', l1', r1', A1, L1⟩ := KV.ar r1 p1
  refine ⟨w1', ρ, o1, r1', (fin_bind g).imp fun d2 o2 g v2 w2 H2 l2 r2 p2 => ?_⟩
  obtain ⟨w2', l2', r2', A2, L2⟩ := KV.ar r2 p2
  obtain ⟨d, e, g⟩ := fin_of g
  refine ⟨hK, w2', σ, ρ, o2, d1, d2, d, r2', (A1.mono (l2.trans l2')).vw r2', A2.vw r2', e, fun v w3 H3 l3 r3 fv => ?_⟩
  have l : W.Le w w3 := l1.trans (l1'.trans (l2.trans (l2'.trans l3)))
  by_cases hk : binK p k1 k2 = .own
  · rw [hk] at g
    refine g v w3 H3 l r3 ?_
    have hd : ∃ ds, d = .lst ds := bin_lst hk L1 L2 e
    obtain ⟨ds, hd⟩ := hd
    exact fv.1 ds hd
  · have hv : binK p k1 k2 = .val := by
      unfold binK at hk ⊢
      cases p <;> simp only at hk ⊢ <;> split at hk <;> simp_all
    rw [hv] at g
    obtain ⟨w4, l4, r4, p4⟩ := fv.rep r3
    exact g v w4 H3 (l.trans l4) r4 p4
theorem s_neg (ha : PE X xa (tE C O a O1 k)) : PE X (.UnaryOp .USub xa pos) (tE C O (.neg a) O1 .val) := by
  refine (pe_un un_neg (ar_of ha)).imp fun σ H Q q => ?_
  obtain ⟨w, ρ, o, r, f⟩ := q
  refine ⟨w, ρ, o, r, (fin_bind f).imp fun d1 o1 g v1 w1 H1 l1 r1 p1 => ?_⟩
  obtain ⟨d, e, g⟩ := fin_of g
  cases d1 <;> first | (simp [dNeg] at e; done) | skip
  cases e
  exact ⟨_, vw_int (p1.vw r1), g _ w1 H1 l1 r1 (.int _)⟩
theorem s_not (hK : X.K = C.K) (ha : PE X xa (tE C O a O1 k)) : PE X (.UnaryOp .Not xa pos) (tE C O (.not a) O1 .val) := by
  refine (pe_notT (ar_of ha)).imp fun σ H Q q => ?_
  obtain ⟨w, ρ, o, r, f⟩ := q
  refine ⟨w, ρ, o, r, (fin_bind f).imp fun d1 o1 g v1 w1 H1 l1 r1 p1 => ?_⟩
  obtain ⟨d, e, g⟩ := fin_of g
  simp only [Option.map_eq_some_iff] at e
  obtain ⟨k, e, rfl⟩ := e
  exact ⟨k, by rw [hK]; exact vw_tru r1.hr (p1.vw r1) e, g _ w1 H1 l1 r1 (.bl _)⟩
theorem vw_drf (hr : HR C.K w H o) {v : V} {d : D} (h : Vw C.K w H v d) : Vw C.K w H v (drf o d) := by
  unfold drf
  split
  · rename_i n
    split
    · rename_i ds e
      obtain ⟨a, rfl, hi⟩ := vw_ref hr h
      obtain ⟨_, vs, e1, e2⟩ := hr.ob n a _ hi e
      exact .inl ⟨a, vs, ds, rfl, rfl, e1, e2⟩
    · exact h
  · exact h
theorem i_cmp {p : Cop} {σ : L2.St} {H : Hp} {Q : VK} (q : tE C O (.cmp p a b) O2 .val σ H Q) : tOp (rCmp C p) (tAr C O a O1) (tAr C O1 b O2) σ H Q := by
  obtain ⟨w, ρ, o, r, f⟩ := q
  refine ⟨w, ρ, o, r, (fin_bind f).imp fun d1 o1 g v1 w1 H1 l1 r1 p1 => ?_⟩
  refine ⟨w1, ρ, o1, r1, (fin_bind g).imp fun d2 o2 g v2 w2 H2 l2 r2 p2 => ?_⟩
  obtain ⟨d, e, g⟩ := fin_of g
  simp only [Option.map_eq_some_iff] at e
  obtain ⟨k, e, rfl⟩ := e
  exact ⟨w2, o2, drf o2 d1, drf o2 d2, k, r2.hr, vw_drf r2.hr ((p1.mono l2).vw r2), vw_drf r2.hr (p2.vw r2), e, g _ w2 H2 (l1.trans l2) r2 (.bl _)⟩
theorem s_cmp {p : Cop} {op : CmpOp} (hK : X.K = C.K) (hu : X.A.units + 65 < cLine) (hp : copB p op = true) (hb' : plainE xb = true) {k1 k2 : Kd} (ha : PE X xa (tE C O a O1 k1)) (hb : PE X xb (tE C O1 b O2 k2)) :
    PE X (.Compare xa [op] [xb] pos) (tE C O (.cmp p a b) O2 .val) := (pe_cmpR (op_cmpE (C := C) hp hu hK) (ar_of ha) (ar_of hb) (mark_of hb')).imp fun σ H Q q => i_cmp q
theorem i_chn {p p' : Cop} {σ : L2.St} {H : Hp} {Q : VK} {k1 : Kd} (q : tE C O (.chn p p' a b c) (inter O3 O2) .val σ H Q) : tChain (rCmp C p) (rCmp C p') (tVl C O a (valO O1 k1)) (tAr C (valO O1 k1) b O2) (tAr C O2 c O3) σ H Q := by
  obtain ⟨w, ρ, o, r, f⟩ := q
  refine ⟨w, ρ, o, r, (fin_bind f).imp fun d1 o1 g v1 w1 H1 l1 r1 p1 => ?_⟩
  refine ⟨w1, ρ, o1, r1, (fin_bind g).imp fun d2 o2 g v2 w2 H2 l2 r2 p2 => ?_⟩
  obtain ⟨k, e, g⟩ := fin_of (fin_bind g)
  refine ⟨w2, o2, d1, d2, k, r2.hr, (p1.mono l2).vw r2.hr, p2.vw r2, e, k, rfl, ?_⟩
  cases k with
  | false =>
    rw [if_neg (by decide)] at g ⊢
    obtain ⟨w3, l3, r3⟩ := r2.leak (O' := inter O3 O2) fun i hi => (mem_inter.mp hi).2
    exact g _ w3 H2 (l1.trans (l2.trans l3)) r3 (.bl _)
  | true =>
    rw [if_pos rfl] at g ⊢
    refine ⟨w2, ρ, o2, r2, (fin_bind g).imp fun d3 o3 g v3 w3 H3 l3 r3 p3 => ?_⟩
    obtain ⟨d, e, g⟩ := fin_of g
    simp only [Option.map_eq_some_iff] at e
    obtain ⟨k, e, rfl⟩ := e
    obtain ⟨w4, l4, r4⟩ := r3.leak (O' := inter O3 O2) fun i hi => (mem_inter.mp hi).1
    exact ⟨w3, o3, d2, d3, k, r3.hr, (p2.mono l3).vw r3, p3.vw r3, e, g _ w4 H3 (l1.trans (l2.trans (l3.trans l4))) r4 (.bl _)⟩
theorem s_chn {p p' : Cop} {op op' : CmpOp} (hK : X.K = C.K) (hu : X.A.units + 65 < cLine) (hp : copB p op = true) (hp' : copB p' op' = true) (hc' : plainE xc = true) {k1 k2 k3 : Kd}
    (ha : PE X xa (tE C O a O1 k1)) (hb : PE X xb (tE C (valO O1 k1) b O2 k2)) (hc : PE X xc (tE C O2 c O3 k3)) :
    PE X (.Compare xa [op, op'] [xb, xc] pos) (tE C O (.chn p p' a b c) (inter O3 O2) .val) :=
  (pe_chain (op_cmpE (C := C) hp hu hK) (op_cmpE (C := C) hp' hu hK) (vl_of ha) (ar_of hb) (ar_of hc) (mark_of (op := op') hc')).imp fun σ H Q q => i_chn q
theorem s_and {ys : List Expr} (hK : X.K = C.K) {k1 k2 : Kd} (ha : PE X xa (tE C O a O1 k1)) (hb : PE X (.BoolOp .And (xb :: ys) pos) (tE C (valO O1 k1) b O2 k2)) :
    PE X (.BoolOp .And (xa :: xb :: ys) pos) (tE C O (.and a b) (inter (valO O2 k2) (valO O1 k1)) .val) := by
  refine (pe_andT (vl_of ha) (vl_of hb)).imp fun σ H Q q => ?_
  obtain ⟨w, ρ, o, r, f⟩ := q
  refine ⟨w, ρ, o, r, (fin_bind f).imp fun d1 o1 g v1 w1 H1 l1 r1 p1 => ?_⟩
  obtain ⟨k, e, g⟩ := fin_of (fin_bind g)
  refine ⟨k, by rw [hK]; exact vw_tru r1.hr (p1.vw r1.hr) e, ?_⟩
  cases k with
  | false =>
    rw [if_neg (by decide)] at g ⊢
    obtain ⟨w3, l3, r3⟩ := r1.leak (O' := inter (valO O2 k2) (valO O1 k1)) fun i hi => (mem_inter.mp hi).2
    exact g _ w3 H1 (l1.trans l3) r3 (p1.mono l3)
  | true =>
    rw [if_pos rfl] at g ⊢
    refine ⟨w1, ρ, o1, r1, g.imp fun d3 o3 g v3 w3 H3 l3 r3 p3 => ?_⟩
    obtain ⟨w4, l4, r4⟩ := r3.leak (O' := inter (valO O2 k2) (valO O1 k1)) fun i hi => (mem_inter.mp hi).1
    exact g _ w4 H3 (l1.trans (l3.trans l4)) r4 (p3.mono l4)
theorem s_or {ys : List Expr} (hK : X.K = C.K) {k1 k2 : Kd} (ha : PE X xa (tE C O a O1 k1)) (hb : PE X (.BoolOp .Or (xb :: ys) pos) (tE C (valO O1 k1) b O2 k2)) :
    PE X (.BoolOp .Or (xa :: xb :: ys) pos) (tE C O (.or a b) (inter (valO O2 k2) (valO O1 k1)) .val) := by
  refine (pe_orT (vl_of ha) (vl_of hb)).imp fun σ H Q q => ?_
  obtain ⟨w, ρ, o, r, f⟩ := q
  refine ⟨w, ρ, o, r, (fin_bind f).imp fun d1 o1 g v1 w1 H1 l1 r1 p1 => ?_⟩
  obtain ⟨k, e, g⟩ := fin_of (fin_bind g)
  refine ⟨k, by rw [hK]; exact vw_tru r1.hr (p1.vw r1.hr) e, ?_⟩
  cases k with
  | true =>
    rw [if_pos rfl] at g ⊢
    obtain ⟨w3, l3, r3⟩ := r1.leak (O' := inter (valO O2 k2) (valO O1 k1)) fun i hi => (mem_inter.mp hi).2
    exact g _ w3 H1 (l1.trans l3) r3 (p1.mono l3)
  | false =>
    rw [if_neg (by decide)] at g ⊢
    refine ⟨w1, ρ, o1, r1, g.imp fun d3 o3 g v3 w3 H3 l3 r3 p3 => ?_⟩
    obtain ⟨w4, l4, r4⟩ := r3.leak (O' := inter (valO O2 k2) (valO O1 k1)) fun i hi => (mem_inter.mp hi).1
    exact g _ w4 H3 (l1.trans (l3.trans l4)) r4 (p3.mono l4)
end
end Ev

/-! tests, displays, subscripts, calls of defs -/
namespace Ev
open PySem L2 PySem.Spec PyProof.Rows
section
variable {C : Cn} {X : Cx} {O O' O1 O2 O3 : List Nat} {k k1 k2 k3 : Kd} {w : W} {σ : L2.St} {ρ : Env} {H : Hp} {o : Os}
variable {xa xb xc : Expr} {a b c : E} {pos : Pos} {α : Type}

/-! ### tests -/
abbrev tTs (C : Cn) (O : List Nat) (e : E) (O' : List Nat) : TT := tTr C O (denT C.F C.G e) O'
theorem tr_sub {m : Env → Os → Res Bool} (h : PT X xa (tTr C O m O')) (s : ∀ i, i ∈ O1 → i ∈ O') : PT X xa (tTr C O m O1) := by
  refine h.imp fun σ H Q q => ?_
  obtain ⟨w, ρ, o, r, f⟩ := q
  refine ⟨w, ρ, o, r, f.imp fun k o' g w' H' l r' => ?_⟩
  obtain ⟨w2, l2, r2⟩ := r'.leak s
  exact g w2 H' (l.trans l2) r2
theorem trw_sub {m : Env → Os → Res Bool} (h : PW X xa (tTr C O m O')) (s : ∀ i, i ∈ O1 → i ∈ O') : PW X xa (tTr C O m O1) := by
  refine h.imp fun σ H Q q => ?_
  obtain ⟨w, ρ, o, r, f⟩ := q
  refine ⟨w, ρ, o, r, f.imp fun k o' g w' H' l r' => ?_⟩
  obtain ⟨w2, l2, r2⟩ := r'.leak s
  exact g w2 H' (l.trans l2) r2
theorem ts_val (hK : X.K = C.K) (h : PE X xa (tE C O a O' k)) (he : ∀ whole, isTrue xa X.env whole = (do let v ← whole; standAt xa.pos; holding [v] (truthy v))) : PT X xa (tTs C O a O') := by
  refine (pt_truth (ar_of h) he).imp fun σ H Q q => ?_
  obtain ⟨w, ρ, o, r, f⟩ := q
  refine ⟨w, ρ, o, r, (fin_bind f).imp fun d1 o1 g v1 w1 H1 l1 r1 p1 => ?_⟩
  obtain ⟨k, e, g⟩ := fin_of g
  exact ⟨k, by rw [hK]; exact vw_tru r1.hr (p1.vw r1) e, g w1 H1 l1 r1⟩
theorem fin_not {P : Bool → Os → Prop} {Q : D → Os → Prop} {F : Fs} {G : Gs} (h : Fin (denT F G (.not a) ρ o) P Q) : Fin (denT F G a ρ o) (fun k o => P (!k) o) Q := by
  unfold denT at h ⊢
  simp only [den] at h
  cases e : den F G a ρ o with
  | bad => rw [e] at h; exact h
  | exn x o1 => rw [e] at h; exact h
  | ok d o1 =>
    rw [e] at h
    simp only [Res.bind] at h ⊢
    cases e2 : dTru d with
    | none => rw [e2] at h; exact h
    | some k => rw [e2] at h; exact h
theorem ts_not (h : PT X xa (tTs C O a O')) : PT X (.UnaryOp .Not xa pos) (tTs C O (.not a) O') := by
  refine (pt_not h).imp fun σ H Q q => ?_
  obtain ⟨w, ρ, o, r, f⟩ := q
  exact ⟨w, ρ, o, r, fin_not f⟩
theorem fin_and {P : Bool → Os → Prop} {Q : D → Os → Prop} {F : Fs} {G : Gs} (h : Fin (denT F G (.and a b) ρ o) P Q) : Fin (denT F G a ρ o) (fun k o => if k = true then Fin (denT F G b ρ o) P Q else P false o) Q := by
  unfold denT at h ⊢
  simp only [den] at h
  cases e : den F G a ρ o with
  | bad => rw [e] at h; exact h
  | exn x o1 => rw [e] at h; exact h
  | ok d o1 =>
    rw [e] at h
    simp only [Res.bind] at h ⊢
    cases e2 : dTru d with
    | none => rw [e2] at h; exact h
    | some k =>
      rw [e2] at h
      simp only [Res.of] at h
      cases k with
      | true => exact h
      | false =>
        simp only [Bool.false_eq_true, if_false, e2] at h
        exact h
theorem fin_or {P : Bool → Os → Prop} {Q : D → Os → Prop} {F : Fs} {G : Gs} (h : Fin (denT F G (.or a b) ρ o) P Q) : Fin (denT F G a ρ o) (fun k o => if k = true then P true o else Fin (denT F G b ρ o) P Q) Q := by
  unfold denT at h ⊢
  simp only [den] at h
  cases e : den F G a ρ o with
  | bad => rw [e] at h; exact h
  | exn x o1 => rw [e] at h; exact h
  | ok d o1 =>
    rw [e] at h
    simp only [Res.bind] at h ⊢
    cases e2 : dTru d with
    | none => rw [e2] at h; exact h
    | some k =>
      rw [e2] at h
      simp only [Res.of] at h
      cases k with
      | false => exact h
      | true =>
        simp only [if_true, e2] at h
        exact h
theorem fin_ite {P : Bool → Os → Prop} {Q : D → Os → Prop} {F : Fs} {G : Gs} (h : Fin (denT F G (.ite c a b) ρ o) P Q) : Fin (denT F G c ρ o) (fun k o => if k = true then Fin (denT F G a ρ o) P Q else Fin (denT F G b ρ o) P Q) Q := by
  unfold denT at h ⊢
  simp only [den] at h
  cases e : den F G c ρ o with
  | bad => rw [e] at h; exact h
  | exn x o1 => rw [e] at h; exact h
  | ok d o1 =>
    rw [e] at h
    simp only [Res.bind] at h ⊢
    cases e2 : dTru d with
    | none => rw [e2] at h; exact h
    | some k =>
      rw [e2] at h
      simp only [Res.of] at h
      cases k with
      | false => exact h
      | true => exact h
theorem tw_and {ys : List Expr} (ha : PT X xa (tTs C O a O1)) (hb : PW X (.BoolOp .And (xb :: ys) pos) (tTs C O1 b O2)) (s1 : ∀ i, i ∈ O3 → i ∈ O1) (s2 : ∀ i, i ∈ O3 → i ∈ O2) : PW X (.BoolOp .And (xa :: xb :: ys) pos) (tTs C O (.and a b) O3) := by
  refine (pw_and ha hb).imp fun σ H Q q => ?_
  obtain ⟨w, ρ, o, r, f⟩ := q
  refine ⟨w, ρ, o, r, (fin_and f).imp fun k o1 g w1 H1 l1 r1 => ?_⟩
  cases k with
  | true =>
    rw [if_pos rfl] at g ⊢
    refine ⟨w1, ρ, o1, r1, g.imp fun k o2 g w2 H2 l2 r2 => ?_⟩
    obtain ⟨w3, l3, r3⟩ := r2.leak s2
    exact g w3 H2 (l1.trans (l2.trans l3)) r3
  | false =>
    rw [if_neg (by decide)] at g ⊢
    obtain ⟨w3, l3, r3⟩ := r1.leak s1
    exact g w3 H1 (l1.trans l3) r3
theorem tw_or {ys : List Expr} (ha : PT X xa (tTs C O a O1)) (hb : PW X (.BoolOp .Or (xb :: ys) pos) (tTs C O1 b O2)) (s1 : ∀ i, i ∈ O3 → i ∈ O1) (s2 : ∀ i, i ∈ O3 → i ∈ O2) : PW X (.BoolOp .Or (xa :: xb :: ys) pos) (tTs C O (.or a b) O3) := by
  refine (pw_or ha hb).imp fun σ H Q q => ?_
  obtain ⟨w, ρ, o, r, f⟩ := q
  refine ⟨w, ρ, o, r, (fin_or f).imp fun k o1 g w1 H1 l1 r1 => ?_⟩
  cases k with
  | false =>
    rw [if_neg (by decide)] at g ⊢
    refine ⟨w1, ρ, o1, r1, g.imp fun k o2 g w2 H2 l2 r2 => ?_⟩
    obtain ⟨w3, l3, r3⟩ := r2.leak s2
    exact g w3 H2 (l1.trans (l2.trans l3)) r3
  | true =>
    rw [if_pos rfl] at g ⊢
    obtain ⟨w3, l3, r3⟩ := r1.leak s1
    exact g w3 H1 (l1.trans l3) r3
theorem ts_ite (hc : PT X xc (tTs C O c O1)) (ha : PT X xa (tTs C O1 a O2)) (hb : PT X xb (tTs C O1 b O2)) : PT X (.IfExp xc xa xb pos) (tTs C O (.ite c a b) O2) := by
  refine ⟨fun ps s σ H Q I q => ?_⟩
  obtain ⟨w, ρ, o, r, f⟩ := q
  refine isTrue_IfExp (thn (hc.run ps s σ H (fun k H1 => ∃ w1 o1, R C.K C.b O1 w1 σ ρ H1 o1 ∧ W.Le w w1 ∧ (if k = true then Fin (denT C.F C.G a ρ o1) (fun k o' => ∀ w' H', W.Le w w' → R C.K C.b O2 w' σ ρ H' o' → Q k H') C.exn else Fin (denT C.F C.G b ρ o1) (fun k o' => ∀ w' H', W.Le w w' → R C.K C.b O2 w' σ ρ H' o' → Q k H') C.exn)) I ⟨w, ρ, o, r, (fin_ite f).imp fun k o1 g w1 H1 l1 r1 => ⟨w1, o1, r1, l1, g⟩⟩) fun k s1 hq => ?_)
  obtain ⟨H1, I1, w1, o1, r1, l1, g⟩ := hq
  cases k with
  | true =>
    rw [if_pos rfl] at g ⊢
    exact ha.run ps s1 σ H1 Q I1 ⟨w1, ρ, o1, r1, g.imp fun k o2 g w2 H2 l2 r2 => g w2 H2 (l1.trans l2) r2⟩
  | false =>
    rw [if_neg (by decide)] at g ⊢
    exact hb.run ps s1 σ H1 Q I1 ⟨w1, ρ, o1, r1, g.imp fun k o2 g w2 H2 l2 r2 => g w2 H2 (l1.trans l2) r2⟩
/-- a comparison gives True or False -/
theorem fin_bl {P : Bool → Os → Prop} {Q : D → Os → Prop} {F : Fs} {G : Gs} (h : Fin (denT F G a ρ o) P Q) (hb : ∀ d o', den F G a ρ o = .ok d o' → ∃ k, d = .bl k) : Fin (den F G a ρ o) (fun d o => ∃ k, d = .bl k ∧ P k o) Q := by
  unfold denT at h
  cases e : den F G a ρ o with
  | bad => rw [e] at h; exact h
  | exn x o1 => rw [e] at h; exact h
  | ok d o1 =>
    rw [e] at h
    obtain ⟨k, rfl⟩ := hb d o1 e
    exact ⟨k, rfl, h⟩
theorem bl_cmp {F : Fs} {G : Gs} {p : Cop} (d : D) (o' : Os) (h : den F G (.cmp p a b) ρ o = .ok d o') : ∃ k, d = .bl k := by
  simp only [den] at h
  cases e : den F G a ρ o with
  | bad => rw [e] at h; cases h
  | exn x o1 => rw [e] at h; cases h
  | ok d1 o1 =>
    rw [e] at h
    simp only [Res.bind] at h
    cases e2 : den F G b ρ o1 with
    | bad => rw [e2] at h; cases h
    | exn x o1 => rw [e2] at h; cases h
    | ok d2 o2 =>
      rw [e2] at h
      simp only [Res.bind] at h
      cases e3 : dCmp p (drf o2 d1) (drf o2 d2) with
      | none => rw [e3] at h; cases h
      | some k => rw [e3] at h; cases h; exact ⟨k, rfl⟩
theorem bl_chn {F : Fs} {G : Gs} {p p' : Cop} (d : D) (o' : Os) (h : den F G (.chn p p' a b c) ρ o = .ok d o') : ∃ k, d = .bl k := by
  simp only [den] at h
  cases e : den F G a ρ o with
  | bad => rw [e] at h; cases h
  | exn x o1 => rw [e] at h; cases h
  | ok d1 o1 =>
    rw [e] at h
    simp only [Res.bind] at h
    cases e2 : den F G b ρ o1 with
    | bad => rw [e2] at h; cases h
    | exn x o1 => rw [e2] at h; cases h
    | ok d2 o2 =>
      rw [e2] at h
      simp only [Res.bind] at h
      cases e3 : dCmp p d1 d2 with
      | none => rw [e3] at h; cases h
      | some k =>
        rw [e3] at h
        simp only [Res.of] at h
        cases k with
        | false => cases h; exact ⟨_, rfl⟩
        | true =>
          simp only [if_true] at h
          cases e4 : den F G c ρ o2 with
          | bad => rw [e4] at h; cases h
          | exn x o1 => rw [e4] at h; cases h
          | ok d4 o4 =>
            rw [e4] at h
            simp only [Res.bind] at h
            cases e5 : dCmp p' d2 d4 with
            | none => rw [e5] at h; cases h
            | some k => rw [e5] at h; cases h; exact ⟨k, rfl⟩
theorem ts_bl {Q : Bool → Hp → Prop} (hb : ∀ ρ o d o', den C.F C.G a ρ o = .ok d o' → ∃ k, d = .bl k) (q : tTs C O a O' σ H Q) : tE C O a O' .val σ H (fun x H' => ∃ k, x = .bl k ∧ Q k H') := by
  obtain ⟨w, ρ, o, r, f⟩ := q
  refine ⟨w, ρ, o, r, (fin_bl f (hb ρ o)).imp fun d o1 g v w1 H1 l1 r1 p1 => ?_⟩
  obtain ⟨k, rfl, g⟩ := g
  cases p1
  exact ⟨k, rfl, g w1 H1 l1 r1⟩
theorem ts_cmp {p : Cop} {op : CmpOp} (hK : X.K = C.K) (hu : X.A.units + 65 < cLine) (hp : copB p op = true) (hb' : plainE xb = true) (ha : PE X xa (tE C O a O1 k1)) (hb : PE X xb (tE C O1 b O2 k2)) :
    PT X (.Compare xa [op] [xb] pos) (tTs C O (.cmp p a b) O2) := (pt_cmpR (op_cmpE (C := C) hp hu hK) (ar_of ha) (ar_of hb) (mark_of hb')).imp fun σ H Q q => i_cmp (ts_bl (fun ρ o => bl_cmp) q)
theorem ts_chn {p p' : Cop} {op op' : CmpOp} (hK : X.K = C.K) (hu : X.A.units + 65 < cLine) (hp : copB p op = true) (hp' : copB p' op' = true) (hc' : plainE xc = true)
    (ha : PE X xa (tE C O a O1 k1)) (hb : PE X xb (tE C (valO O1 k1) b O2 k2)) (hc : PE X xc (tE C O2 c O3 k3)) :
    PT X (.Compare xa [op, op'] [xb, xc] pos) (tTs C O (.chn p p' a b c) (inter O3 O2)) :=
  (pt_chain (op_cmpE (C := C) hp hu hK) (op_cmpE (C := C) hp' hu hK) (vl_of ha) (ar_of hb) (ar_of hc) (mark_of (op := op') hc')).imp fun σ H Q q => i_chn (ts_bl (fun ρ o => bl_chn) q)

/-! ### if-expressions -/
theorem s_ite {B : L2.St → Env → V → D → W → Hp → Prop} (hc : PT X xc (tTs C O c O1)) (ha : PE X xa (tG C O1 O2 (den C.F C.G a) B)) (hb : PE X xb (tG C O1 O2 (den C.F C.G b) B)) :
    PE X (.IfExp xc xa xb pos) (tG C O O2 (den C.F C.G (.ite c a b)) B) := by
  refine (pe_ifExp hc ha hb).imp fun σ H Q q => ?_
  obtain ⟨w, ρ, o, r, f⟩ := q
  have f2 : Fin (denT C.F C.G c ρ o) (fun k o1 => if k = true then Fin (den C.F C.G a ρ o1) (fun d o' => ∀ v w' H', W.Le w w' → R C.K C.b O2 w' σ ρ H' o' → B σ ρ v d w' H' → Q v H') C.exn else Fin (den C.F C.G b ρ o1) (fun d o' => ∀ v w' H', W.Le w w' → R C.K C.b O2 w' σ ρ H' o' → B σ ρ v d w' H' → Q v H') C.exn) C.exn := by
    unfold denT
    simp only [den] at f
    cases e : den C.F C.G c ρ o with
    | bad => rw [e] at f; exact f
    | exn x o1 => rw [e] at f; exact f
    | ok d o1 =>
      rw [e] at f
      simp only [Res.bind] at f ⊢
      cases e2 : dTru d with
      | none => rw [e2] at f; exact f
      | some k =>
        rw [e2] at f
        cases k with
        | true => exact f
        | false => exact f
  refine ⟨w, ρ, o, r, f2.imp fun k o1 g w1 H1 l1 r1 => ?_⟩
  cases k with
  | true =>
    rw [if_pos rfl] at g ⊢
    exact ⟨w1, ρ, o1, r1, g.imp fun d o2 g v w2 H2 l2 r2 p2 => g v w2 H2 (l1.trans l2) r2 p2⟩
  | false =>
    rw [if_neg (by decide)] at g ⊢
    exact ⟨w1, ρ, o1, r1, g.imp fun d o2 g v w2 H2 l2 r2 p2 => g v w2 H2 (l1.trans l2) r2 p2⟩

/-! ### displays -/
theorem s_tup {es : Es} {xs : List Expr} {n kk : Nat} (h : PA X xs (tVls C O es O1 n)) (hn : n ≤ 10000) : PE X (.Tuple xs kk pos) (tE C O (.tup es) O1 .val) := by
  refine (pe_tup h).imp fun σ H Q q => ?_
  obtain ⟨w, ρ, o, r, f⟩ := q
  refine ⟨w, ρ, o, r, (fin_bind f).imp fun ds o1 g vs w1 H1 l1 r1 p1 ln => ⟨by rw [ln, sizeLine_eq]; omega, fun p hp => ?_⟩⟩
  obtain ⟨w2, l2, r2, p2⟩ := r1.newTup hp p1
  exact g _ w2 _ (l1.trans l2) r2 p2
theorem s_lst {es : Es} {xs : List Expr} {n : Nat} (h : PA X xs (tVls C O es O1 n)) (hn : n ≤ 10000) : PE X (.List xs pos) (tE C O (.lst es) O1 .own) := by
  refine (pe_lst h).imp fun σ H Q q => ?_
  obtain ⟨w, ρ, o, r, f⟩ := q
  refine ⟨w, ρ, o, r, (fin_bind f).imp fun ds o1 g vs w1 H1 l1 r1 p1 ln => ⟨by rw [ln, sizeLine_eq]; omega, fun p hp => ?_⟩⟩
  obtain ⟨r2, ow, ap⟩ := r1.newOwn hp p1
  exact g _ w1 _ l1 r2 ⟨ow, ap, r1.newOwnZ hp⟩

/-! ### subscripts, slices -/
theorem IxR.or3 {r1 r2 r3 : R2} (a : IxR X r1) (b : IxR X r2) (c : IxR X r3) : IxR X (fun x y H Q => r1 x y H Q ∨ r2 x y H Q ∨ r3 x y H Q) := a.or (b.or c)
theorem reps_at {K : PySem.W.Frag} {vs : List V} {ds : List D} {i : Int} {d : D} (r : Reps K w vs ds) (e : atI ds i = some d) : ∃ v, atI vs i = some v ∧ Rep K w v d := by
  unfold atI at e ⊢
  rw [r.length]
  cases h : ixN ds.length i with
  | none => rw [h] at e; cases e
  | some j =>
    rw [h] at e
    exact r.get (i := j) e
theorem plain_of {x : Expr} (h : noSlice x = true) : PlainIx x := by
  intro o i
  cases x <;> first | rfl | (simp [noSlice] at h)
theorem find_krep {K : PySem.W.Frag} {us : List (Key × V)} {kvs : List (Key × D)} {z : Key} {d : D} (h : KReps K w us kvs) (e : findK kvs z = some d) : ∃ v, valV us z = some v ∧ Rep K w v d := by
  induction h with
  | nil => cases e
  | @cons p q us kvs h _ ih =>
    obtain ⟨h1, h2⟩ := h
    obtain ⟨q1, q2⟩ := q
    obtain ⟨p1, p2⟩ := p
    simp only at h1 h2
    subst h1
    unfold findK at e
    unfold valV
    rw [List.find?_cons] at e ⊢
    by_cases hz : p1 = z
    · simp only [hz, decide_true] at e ⊢
      simp only [Option.map_some, Option.some.injEq] at e ⊢
      exact ⟨p2, rfl, by rw [← e]; exact h2⟩
    · simp only [hz, decide_false] at e ⊢
      exact ih e
theorem noSl_of {x : Expr} (h : noSlice x = true) : NoSl x := by
  intro o i
  cases x <;> first | rfl | (simp [noSlice] at h)
end
end Ev

/-! subscripts, slices, isinstance, calls of defs, built-in functions -/
namespace Ev
open PySem L2 PySem.Spec PyProof.Rows
section
variable {C : Cn} {X : Cx} {O O' O1 O2 O3 : List Nat} {k k1 k2 k3 : Kd} {w : W} {σ : L2.St} {ρ : Env} {H : Hp} {o : Os}
variable {xa xb xc : Expr} {a b c : E} {pos : Pos}

/-! ### subscripts -/
def rIdx (C : Cn) : R2 := fun x y H Q => ∃ w o a i d, HR C.K w H o ∧ Vw C.K w H x a ∧ Vw C.K w H y i ∧ (∀ n, a ≠ .ref n) ∧ dIdx a i o = some d ∧ ∀ v, Rep C.K w v d → Q v H
theorem ix_any (hK : X.K = C.K) : IxR X (rIdx C) := by
  intro value slice pins s σ H x y v u Q I rx ry ⟨w, o, a, i, d, hr, va, vi, nr, e, g⟩ hs
  cases a with
  | tup ds =>
    cases i <;> first | (simp [dIdx] at e; done) | skip
    obtain ⟨p, vs, e1, e2, r, _⟩ := vw_tup hr va
    obtain ⟨z, e3, e4⟩ := reps_at r (show atI ds _ = some d from e)
    exact ix_tup value slice pins s σ H x y v u Q I rx ry ⟨p, vs, _, z, e1, vw_int vi, by rw [hK]; exact e2, e3, g z e4⟩ hs
  | lst ds =>
    cases i <;> first | (simp [dIdx] at e; done) | skip
    obtain ⟨p, vs, e1, e2, r⟩ := vw_lst va
    obtain ⟨z, e3, e4⟩ := reps_at r (show atI ds _ = some d from e)
    exact ix_list value slice pins s σ H x y v u Q I rx ry ⟨p, vs, _, z, e1, vw_int vi, .of e2, e3, g z e4⟩ hs
  | str z =>
    cases i <;> first | (simp [dIdx] at e; done) | skip
    simp only [dIdx] at e
    split at e
    · rename_i hl
      simp only [Option.map_eq_some_iff] at e
      obtain ⟨c, e3, rfl⟩ := e
      exact ix_str value slice pins s σ H x y v u Q I rx ry ⟨z, _, c, vw_str va, vw_int vi, by rw [← line_eq]; exact hl, e3, g _ (.str _)⟩ hs
    · cases e
  | ref n => exact absurd rfl (nr n)
  | _ => simp [dIdx] at e
theorem _root_.L2.PE.or {X : Cx} {e : Expr} {t t' : TE} (h : PE X e t) (h' : PE X e t') : PE X e (fun σ H Q => t σ H Q ∨ t' σ H Q) := ⟨fun pins s σ H Q I q => q.elim (fun q => h.run pins s σ H Q I q) fun q => h'.run pins s σ H Q I q⟩
theorem s_idx (hK : X.K = C.K) (hu : X.A.units + 65 < cLine) (hn : noSlice xb = true) (ha : PE X xa (tE C O a O1 k1)) (hb : PE X xb (tE C O1 b O2 k2)) : PE X (.Subscript xa xb pos) (tE C O (.idx a b) O2 .val) := by
  refine ((pe_ix (ix_any (C := C) hK) (ar_of ha) (ar_of hb) (plain_of hn)).or (pe_dget (by omega) (ar_of ha) (ar_of hb) (noSl_of hn))).imp fun σ H Q q => ?_
  obtain ⟨w, ρ, o, r, f⟩ := q
  have f1 := fin_bind f
  by_cases hd : ∃ n o1, den C.F C.G a ρ o = .ok (.ref n) o1
  · refine .inr ⟨w, ρ, o, r, ?_⟩
    obtain ⟨n, o1, e1⟩ := hd
    rw [e1] at f1 ⊢
    intro v1 w1 H1 l1 r1 p1
    refine ⟨w1, ρ, o1, r1, (fin_bind f1).imp fun d2 o2 g v2 w2 H2 l2 r2 p2 => ?_⟩
    obtain ⟨d, e, g2⟩ := fin_of g
    cases d2 <;> first | (simp [dIdx] at e; done) | skip
    rename_i z
    simp only [dIdx] at e
    split at e
    · rename_i kvs hk
      obtain ⟨p, ev, hi⟩ := vw_ref r2.hr ((p1.mono l2).vw r2)
      obtain ⟨_, us, e3, e4⟩ := r2.hr.ob n p _ hi hk
      obtain ⟨v, e5, e6⟩ := find_krep e4 e
      refine ⟨p, v, ev, ?_, g2 v w2 H2 (l1.trans l2) r2 e6⟩
      have := DGet.k (H := H2) (k := Sum.inr z) e3
      rw [e5] at this
      rw [vw_str (p2.vw r2)]
      exact this
    · cases e
  · refine .inl ⟨w, ρ, o, r, ?_⟩
    cases e1 : den C.F C.G a ρ o with
    | bad => rw [e1] at f1; exact f1
    | exn x o1 => rw [e1] at f1; exact f1
    | ok d1 o1 =>
      rw [e1] at f1
      intro v1 w1 H1 l1 r1 p1
      refine ⟨w1, ρ, o1, r1, (fin_bind f1).imp fun d2 o2 g v2 w2 H2 l2 r2 p2 => ?_⟩
      obtain ⟨d, e, g⟩ := fin_of g
      exact ⟨w2, o2, d1, d2, d, r2.hr, (p1.mono l2).vw r2, p2.vw r2, fun n z => hd ⟨n, o1, by rw [e1, z]⟩, e, fun v hv => g v w2 H2 (l1.trans l2) r2 hv⟩

/-! ### slices -/
def rSli (C : Cn) (O : List Nat) : V → Option Int → Option Int → Hp → VK → Prop := fun x lo hi H Q => ∃ w σ ρ o a d, R C.K C.b O w σ ρ H o ∧ Vw C.K w H x a ∧ dSl a lo hi = some d ∧ Aft C O w σ ρ o d Q
theorem sl_any (hK : X.K = C.K) : SlR X (rSli C O) := by
  intro pins s σ' H x v vl vu lo hi sl Q I rx hs pl pu h
  obtain ⟨w, σ, ρ, o, a, d, r, va, e, g⟩ := h
  cases a <;> first | (simp [dSl] at e; done) | skip
  · rename_i z
    simp only [dSl] at e
    split at e
    · rename_i hl
      cases e
      exact sl_str pins s σ' H x v vl vu lo hi sl Q I rx hs pl pu ⟨z, vw_str va, by rw [← line_eq]; exact hl, g _ w H (.refl w) r (.of (.str _) (by intro _ z; cases z))⟩
    · cases e
  · rename_i ds
    simp only [dSl, Option.some.injEq] at e
    subst e
    obtain ⟨p, vs, e1, e2, q, rp⟩ := vw_tup r.hr va
    refine sl_tupA pins s σ' H x v vl vu lo hi sl Q I rx hs pl pu ⟨p, vs, e1, by rw [hK]; exact e2, fun z => ?_, fun z p hp => ?_⟩
    · have : cut ds lo hi = ds := by
        unfold cut
        rw [← q.length, z.1, z.2, List.drop_zero, Nat.sub_zero, q.length, List.take_length]
      rw [this] at g
      subst e1
      exact g _ w H (.refl w) r (.of rp (by intro _ z; cases z))
    · obtain ⟨w2, l2, r2, p2⟩ := r.newTup hp (q.cut lo hi)
      exact g _ w2 _ l2 r2 (.of p2 (by intro _ z; cases z))
  · rename_i ds
    simp only [dSl, Option.some.injEq] at e
    subst e
    obtain ⟨p, vs, e1, e2, q⟩ := vw_lst va
    refine sl_list pins s σ' H x v vl vu lo hi sl Q I rx hs pl pu ⟨p, vs, e1, .of e2, fun p hp => ?_⟩
    obtain ⟨r2, fv⟩ := FV.new r hp (q.cut lo hi)
    exact g _ w _ (.refl w) r2 fv
def tPa (C : Cn) (O : List Nat) (e : EO) (O' : List Nat) : TO := fun σ H Q => ∃ w ρ o, R C.K C.b O w σ ρ H o ∧
  Fin (denEO C.F C.G e ρ o) (fun i o' => ∀ w' H', W.Le w w' → R C.K C.b O' w' σ ρ H' o' → Q i H') C.exn
theorem s_onone : PO X none (tPa C O .none O) := by
  refine po_none.imp fun σ H Q q => ?_
  obtain ⟨w, ρ, o, r, f⟩ := q
  exact f w H (.refl w) r
theorem s_osome (ha : PE X xa (tE C O a O1 k)) : PO X (some xa) (tPa C O (.some a) O1) := by
  refine (po_some (ar_of ha)).imp fun σ H Q q => ?_
  obtain ⟨w, ρ, o, r, f⟩ := q
  refine ⟨w, ρ, o, r, (fin_bind f).imp fun d o1 g v1 w1 H1 l1 r1 p1 => ?_⟩
  cases d <;> first | (exact g.elim) | skip
  exact ⟨_, vw_int (p1.vw r1), g w1 H1 l1 r1⟩
theorem s_slc {lo hi : EO} {xl xh : Option Expr} {p2 : Pos} (hK : X.K = C.K) (ha : PE X xa (tE C O a O1 k1)) (hl : PO X xl (tPa C O1 lo O2)) (hh : PO X xh (tPa C O2 hi O3)) :
    PE X (.Subscript xa (.Slice xl xh none p2) pos) (tE C O (.slc a lo hi) O3 (if isLst k1 = true then .own else .val)) := by
  refine (pe_slice (sl_any (C := C) (O := O3) hK) ha hl hh).imp fun σ H Q q => ?_
  obtain ⟨w, ρ, o, r, f⟩ := q
  refine ⟨w, ρ, o, r, (fin_bind f).imp fun d o1 g v1 w1 H1 l1 r1 p1 => ?_⟩
  obtain ⟨w1', l1', r1', A1, L1⟩ := KV.ar r1 p1
  refine ⟨w1', ρ, o1, r1', (fin_bind g).imp fun l o2 g w2 H2 l2 r2 => ?_⟩
  refine ⟨w2, ρ, o2, r2, (fin_bind g).imp fun h o3 g w3 H3 l3 r3 => ?_⟩
  obtain ⟨d', e, g⟩ := fin_of g
  refine ⟨w3, σ, ρ, o3, d, d', r3, (A1.mono (l2.trans l3)).vw r3, e, fun v w4 H4 l4 r4 fv => ?_⟩
  have l : W.Le w w4 := l1.trans (l1'.trans (l2.trans (l3.trans l4)))
  by_cases hk : isLst k1 = true
  · rw [if_pos hk] at g
    obtain ⟨ds, rfl⟩ := L1 hk
    simp only [dSl, Option.some.injEq] at e
    subst e
    exact g v w4 H4 l r4 (fv.1 _ rfl)
  · rw [if_neg hk] at g
    obtain ⟨w5, l5, r5, p5⟩ := fv.rep r4
    exact g v w5 H4 (l.trans l5) r5 p5

/-! ### isinstance -/
theorem boot_ty (t : Ty) : bootBuiltins (tyName t) = some (.type (tyS t)) := by cases t <;> decide +kernel
theorem boot_isi : bootBuiltins "isinstance" = some (.builtin "isinstance") := by decide +kernel
theorem ty_ne (t : Ty) : tyName t ≠ ("__name__" : Str) ∧ (tyName t == ("__debug__" : Str)) = false := by cases t <;> decide +kernel
theorem s_isi {t : Ty} {p1 p2 : Pos} (hK : X.K = C.K) (hg : Gl X "isinstance") (hm : X.mg "isinstance" = none) (hg2 : Gl X (tyName t)) (hm2 : X.mg (tyName t) = none) (hp : plainE xa = true) (ha : PE X xa (tE C O a O1 k)) :
    PE X (.Call (.Name "isinstance" p1) [xa, .Name (tyName t) p2] [] pos) (tE C O (.isi a t) O1 .val) := by
  refine (pe_callB call_isi hg hm boot_isi (pa_cons (ar_of ha) (pa_cons (pe_bltn (v := .ty (tyS t)) hg2 hm2 (boot_ty t) rfl (ty_ne t).1 (ty_ne t).2) pa_nil) (star_of hp)) (he := star_of hp)).imp fun σ H Q q => ?_
  obtain ⟨w, ρ, o, r, f⟩ := q
  refine ⟨w, ρ, o, r, (fin_bind f).imp fun d o1 g v1 w1 H1 l1 r1 p1 => ?_⟩
  obtain ⟨d', e, g⟩ := fin_of g
  simp only [Option.map_eq_some_iff] at e
  obtain ⟨k, e, rfl⟩ := e
  obtain ⟨T, ty, kt⟩ := vw_ty r1.hr (p1.vw r1) e
  exact ⟨v1, .ty (tyS t), _, _, k, rfl, .ty _, by rw [hK]; exact ty, by rw [hK]; exact kt, g _ w1 H1 l1 r1 (.bl k)⟩

/-! ### calls of defs -/
/-- what a def hands back -/
def RetV (K : PySem.W.Frag) (fresh : Bool) (w : W) (H : Hp) (w' : W) (H' : Hp) (v : V) (d : D) : Prop := if fresh = true then Own K ⟨w, H, []⟩ w' H' v d else Rep K w' v d
def spec (C : Cn) (n : Nat) (fresh : Bool) (i : Nat) : Sp := fun vs H Q E => ∃ w o ds, HR C.K w H o ∧ Reps C.K w vs ds ∧ ds.length = n ∧
  Fin (C.F i ds o) (fun d o' => ∀ v w' H', Post ⟨w, H, []⟩ w' H' → HR C.K w' H' o' → RetV C.K fresh w H w' H' v d → Q v H')
    (fun x o' => ∀ cls od w' H', Post ⟨w, H, []⟩ w' H' → HR C.K w' H' o' → C.XR w' H' cls od x → E cls od H')
theorem call_imp {f n : Nat} {fresh : Bool} {es : Es} {Q : VK} (q : tE C O (.call f es) O1 (if fresh = true then .own else .val) σ H Q) : tCall (spec C n fresh f) [] C.E (tVls C O es O1 n) σ H Q := by
  obtain ⟨w, ρ, o, r, fi⟩ := q
  refine ⟨w, ρ, o, r, (fin_bind fi).imp fun ds o1 g vs w1 H1 l1 r1 p1 ln => ?_⟩
  show spec C n fresh f (vs ++ []) H1 Q C.E
  rw [List.append_nil]
  refine ⟨w1, o1, ds, r1.hr, p1, by rw [← p1.length]; exact ln, ?_⟩
  have key : ∀ {x : D} {o' : Os}, C.exn x o' → ∀ cls od w' H', Post ⟨w1, H1, []⟩ w' H' → HR C.K w' H' o' → C.XR w' H' cls od x → C.E cls od H' := fun h cls od w' H' po hr xr => h cls od w' H' (r1.po.trans r1.hr po) hr xr
  cases e : C.F f ds o1 with
  | bad => rw [e] at g; exact g
  | exn x o2 => rw [e] at g; exact key g
  | ok d o2 =>
    rw [e] at g
    intro v w2 H2 po hr rv
    have r2 := r1.after po hr
    cases fresh with
    | true =>
      obtain ⟨ow, ap, az⟩ := r1.handed po (show Own C.K ⟨w1, H1, []⟩ w2 H2 v d from rv)
      exact g v w2 H2 (l1.trans po.le) r2 ⟨ow, ap, az⟩
    | false => exact g v w2 H2 (l1.trans po.le) r2 rv
theorem back_any {ys : List Expr} {env : PySem.Env} {q : Pos} (h : ∀ y ∈ ys, plainE y = true) : (backTo q (starEach ys env)).any (·.1) = false := by
  unfold backTo
  rw [List.any_map]
  induction ys with
  | nil => rfl
  | cons y ys ih =>
    rw [star_of (h y List.mem_cons_self), List.any_cons, ih fun z hz => h z (List.mem_cons_of_mem _ hz)]
    rfl
theorem s_call {f n kk : Nat} {fresh : Bool} {es : Es} {xs : List Expr} {x : Str} {p1 : Pos} {af : Addr} {fd : FuncData} {ps : List Str} (F : FnOk X.prog X.w X.K X.mg X.base (L2.CX X.prog X.w) kk af fd ps (spec C n fresh f)) (hr : Room kk X.A)
    (hg : Gl X x) (hm : X.mg x = some (.ref af)) (hk : PySem.W.keepIn X.K (.ref af) = true) (hb : Binds X.K fd ps []) (hx : Passes (L2.CX X.prog X.w) X C.E) (hd : okN x = true) (ha : PA X xs (tVls C O es O1 n)) (hp : ∀ y ∈ xs, plainE y = true) (h0 : xs = [] → es = .nil ∧ O1 = O ∧ n = 0) :
    PE X (.Call (.Name x p1) xs [] pos) (tE C O (.call f es) O1 (if fresh = true then .own else .val)) := by
  unfold okN at hd
  simp only [Bool.and_eq_true, Bool.not_eq_true'] at hd
  cases xs with
  | nil =>
    refine (pe_call0 F hr hg hm hk hb .nil hx hd.1).imp fun σ H Q q => ?_
    have q2 := call_imp (n := n) q
    obtain ⟨rfl, rfl, rfl⟩ := h0 rfl
    obtain ⟨w, ρ, o, r, fi⟩ := q2
    exact fi [] w H (.refl w) r .nil rfl
  | cons y ys =>
    exact (pe_call F hr hg hm hk hb .nil hx ha hd.1 (star_of (hp y List.mem_cons_self)) (back_any fun z hz => hp z (List.mem_cons_of_mem _ hz))).imp fun σ H Q q => call_imp q
end
end Ev

/-! built-in functions -/
namespace Ev
open PySem PySem.Spec PyProof.Rows L2 PySem.W
section
variable {C : Cn} {X : Cx} {O O' O1 O2 O3 : List Nat} {k k1 k2 k3 : Kd} {w : Ev.W} {σ : L2.St} {ρ : Ev.Env} {H : Hp} {o : Os}
def rBi (C : Cn) (O : List Nat) (p : Bi) : List V → Hp → VK → Prop := fun vs H Q => ∃ w σ ρ o ds d, R C.K C.b O w σ ρ H o ∧ Ars C.K w σ ρ vs ds ∧ dBi p ds = some d ∧ Aft C O w σ ρ o d Q
theorem ars1 {vs : List V} {d : D} (h : Ars C.K w σ ρ vs [d]) : ∃ v, vs = [v] ∧ Ar C.K w σ ρ v d := by
  cases h with
  | cons h t => cases t; exact ⟨_, rfl, h⟩
theorem ars2 {vs : List V} {d e : D} (h : Ars C.K w σ ρ vs [d, e]) : ∃ v u, vs = [v, u] ∧ Ar C.K w σ ρ v d ∧ Ar C.K w σ ρ u e := by
  cases h with
  | cons h t =>
    cases t with
    | cons h2 t => cases t; exact ⟨_, _, rfl, h, h2⟩
def biT : Bi → Bool
  | .int => true | .tuple => true | .list => true | _ => false
def biS : Bi → String
  | .len => "len" | .abs => "abs" | .int => "int" | .all => "all" | .any => "any" | .tuple => "tuple" | .list => "list" | .sorted => "sorted" | .gcd => "math.gcd" | .min => "min" | .max => "max"
def biV (p : Bi) : Value := if biT p = true then .type (biS p) else .builtin (biS p)
theorem nl {d : D} (h : ∀ ds, d = .lst ds → False) : ∀ ds, d ≠ .lst ds := h
theorem cr_len (hK : X.K = C.K) : CallR X (.builtin "len") (rBi C O .len) := by
  intro pins s σ' H vs us Q I rv ⟨w, σ, ρ, o, ds, d, r, ar, e, g⟩
  match ds, e with
  | [.tup ds], e =>
    obtain ⟨v, rfl, a1⟩ := ars1 ar
    simp only [dBi, Option.some.injEq] at e; subst e
    obtain ⟨p, vs, rfl, e2, q, _⟩ := vw_tup r.hr (a1.vw r)
    exact call_len pins s σ' H _ us Q I rv ⟨_, ds.length, rfl, .inr ⟨vs, by rw [hK]; exact e2, q.length.symm⟩, g _ w H (.refl w) r (.of (.int _) (by intro _ z; cases z))⟩
  | [.lst ds], e =>
    obtain ⟨v, rfl, a1⟩ := ars1 ar
    simp only [dBi, Option.some.injEq] at e; subst e
    obtain ⟨p, vs, rfl, e2, q⟩ := vw_lst (a1.vw r)
    exact call_len pins s σ' H _ us Q I rv ⟨_, ds.length, rfl, .inl ⟨vs, .of e2, q.length.symm⟩, g _ w H (.refl w) r (.of (.int _) (by intro _ z; cases z))⟩
  | [.scr ds], e =>
    obtain ⟨v, rfl, a1⟩ := ars1 ar
    simp only [dBi, Option.some.injEq] at e; subst e
    obtain ⟨p, vs, rfl, e2, q, _⟩ := vw_scr r.hr (a1.vw r)
    exact call_len pins s σ' H _ us Q I rv ⟨_, ds.length, rfl, .inl ⟨vs, by rw [hK]; exact e2, q.length.symm⟩, g _ w H (.refl w) r (.of (.int _) (by intro _ z; cases z))⟩
  | [.str x], e =>
    obtain ⟨v, rfl, a1⟩ := ars1 ar
    simp only [dBi] at e
    split at e
    · rename_i hl
      cases e
      have ev := vw_str (a1.vw r)
      subst ev
      exact call_len pins s σ' H _ us Q I rv ⟨_, x.length, rfl, ⟨by rw [← line_eq]; exact hl, rfl⟩, g _ w H (.refl w) r (.of (.int _) (by intro _ z; cases z))⟩
    · cases e
theorem cr_abs : CallR X (.builtin "abs") (rBi C O .abs) := by
  intro pins s σ' H vs us Q I rv ⟨w, σ, ρ, o, ds, d, r, ar, e, g⟩
  match ds, e with
  | [.int i], e =>
    obtain ⟨v, rfl, a1⟩ := ars1 ar
    simp only [dBi, Option.some.injEq] at e; subst e
    have ev := vw_int (a1.vw r)
    subst ev
    exact call_abs pins s σ' H _ us Q I rv ⟨i, rfl, g _ w H (.refl w) r (.of (.int _) (by intro _ z; cases z))⟩
theorem cr_int : CallR X (.type "int") (rBi C O .int) := by
  intro pins s σ' H vs us Q I rv ⟨w, σ, ρ, o, ds, d, r, ar, e, g⟩
  match ds, e with
  | [.int i], e =>
    obtain ⟨v, rfl, a1⟩ := ars1 ar
    simp only [dBi, Option.some.injEq] at e; subst e
    have ev := vw_int (a1.vw r)
    subst ev
    exact call_int1 pins s σ' H _ us Q I rv (.inl ⟨i, rfl, g _ w H (.refl w) r (.of (.int _) (by intro _ z; cases z))⟩)
  | [.bl i], e =>
    obtain ⟨v, rfl, a1⟩ := ars1 ar
    simp only [dBi, Option.some.injEq] at e; subst e
    have ev := vw_bl (a1.vw r)
    subst ev
    exact call_int1 pins s σ' H _ us Q I rv (.inr ⟨i, rfl, g _ w H (.refl w) r (.of (.int _) (by intro _ z; cases z))⟩)
theorem cr_gcd : CallR X (.builtin "math.gcd") (rBi C O .gcd) := by
  intro pins s σ' H vs us Q I rv ⟨w, σ, ρ, o, ds, d, r, ar, e, g⟩
  match ds, e with
  | [.int i, .int j], e =>
    obtain ⟨v, u, rfl, a1, a2⟩ := ars2 ar
    simp only [dBi, Option.some.injEq] at e; subst e
    have ev := vw_int (a1.vw r)
    have eu := vw_int (a2.vw r)
    subst ev eu
    exact L2.cr_gcd pins s σ' H _ us Q I rv ⟨i, j, rfl, g _ w H (.refl w) r (.of (.int _) (by intro _ z; cases z))⟩
theorem cr_min (hc : X.calm = true) : CallR X (.builtin "min") (rBi C O .min) := by
  intro pins s σ' H vs us Q I rv ⟨w, σ, ρ, o, ds, d, r, ar, e, g⟩
  match ds, e with
  | [.int i, .int j], e =>
    obtain ⟨v, u, rfl, a1, a2⟩ := ars2 ar
    simp only [dBi, Option.some.injEq] at e; subst e
    have ev := vw_int (a1.vw r)
    have eu := vw_int (a2.vw r)
    subst ev eu
    exact call_min2 hc pins s σ' H _ us Q I rv ⟨i, j, rfl, g _ w H (.refl w) r (.of (.int _) (by intro _ z; cases z))⟩
theorem cr_max (hc : X.calm = true) : CallR X (.builtin "max") (rBi C O .max) := by
  intro pins s σ' H vs us Q I rv ⟨w, σ, ρ, o, ds, d, r, ar, e, g⟩
  match ds, e with
  | [.int i, .int j], e =>
    obtain ⟨v, u, rfl, a1, a2⟩ := ars2 ar
    simp only [dBi, Option.some.injEq] at e; subst e
    have ev := vw_int (a1.vw r)
    have eu := vw_int (a2.vw r)
    subst ev eu
    exact call_max2 hc pins s σ' H _ us Q I rv ⟨i, j, rfl, g _ w H (.refl w) r (.of (.int _) (by intro _ z; cases z))⟩
theorem bls_dp : ∀ {ds : List D} {bs : List Bool}, blsOf ds = some bs → dPs ds = some (bs.map .bool)
  | [], bs, h => by simp [blsOf] at h; subst h; rfl
  | d :: ds, bs, h => by
    cases d <;> first | (simp [blsOf] at h; done) | skip
    simp only [blsOf, Option.map_eq_some_iff] at h
    obtain ⟨cs, h, rfl⟩ := h
    simp only [dPs, dP, bls_dp h, List.map_cons]
theorem bl_plain : ∀ bs : List Bool, PyData.plainAll (bs.map .bool) = true
  | [] => rfl
  | b :: bs => by simp [PyData.plainAll, PyData.plain, bl_plain bs]
theorem bl_truthy (bs : List Bool) : (bs.map PyData.bool).all PyData.truthy = bs.all id := by
  rw [List.all_map]; rfl
theorem bl_truthy' (bs : List Bool) : (bs.map PyData.bool).any PyData.truthy = bs.any id := by
  rw [List.any_map]; rfl
theorem cr_all (hc : X.calm = true) (hK : X.K = C.K) : CallR X (.builtin "all") (rBi C O .all) := by
  intro pins s σ' H vs us Q I rv ⟨w, σ, ρ, o, ds, d, r, ar, e, g⟩
  match ds, e with
  | [.lst ds], e =>
    obtain ⟨v, rfl, a1⟩ := ars1 ar
    simp only [dBi, Option.map_eq_some_iff] at e
    obtain ⟨bs, eb, rfl⟩ := e
    obtain ⟨p, vs, rfl, e2, q⟩ := vw_lst (a1.vw r)
    obtain ⟨u, rfl, ru⟩ := rv.one
    cases ru
    obtain ⟨its, rv2, pl, hz⟩ := I.list (SqL.of e2)
    obtain ⟨as, rd⟩ := Dp.readsAll I _ vs its (by rw [hK]; exact q.dp r.hr (bls_dp eb)) rv2
    refine PySem.W.all_list_data (I.ok.hd hc) pl.isList (by simpa using rd) (bl_plain bs) ?_ fun h' tk hk => ?_
    · intro x hx
      obtain ⟨b, _, rfl⟩ := List.mem_map.mp hx
      exact True.intro
    · rw [bl_truthy]
      exact ⟨.bl _, H, I.kept (t' := tk) hk, rfl, g _ w H (.refl w) r (.of (.bl _) (by intro _ z; cases z))⟩
theorem cr_any (hc : X.calm = true) (hK : X.K = C.K) : CallR X (.builtin "any") (rBi C O .any) := by
  intro pins s σ' H vs us Q I rv ⟨w, σ, ρ, o, ds, d, r, ar, e, g⟩
  match ds, e with
  | [.lst ds], e =>
    obtain ⟨v, rfl, a1⟩ := ars1 ar
    simp only [dBi, Option.map_eq_some_iff] at e
    obtain ⟨bs, eb, rfl⟩ := e
    obtain ⟨p, vs, rfl, e2, q⟩ := vw_lst (a1.vw r)
    obtain ⟨u, rfl, ru⟩ := rv.one
    cases ru
    obtain ⟨its, rv2, pl, hz⟩ := I.list (SqL.of e2)
    obtain ⟨as, rd⟩ := Dp.readsAll I _ vs its (by rw [hK]; exact q.dp r.hr (bls_dp eb)) rv2
    refine PySem.W.any_list_data (I.ok.hd hc) pl.isList (by simpa using rd) (bl_plain bs) ?_ fun h' tk hk => ?_
    · intro x hx
      obtain ⟨b, _, rfl⟩ := List.mem_map.mp hx
      exact True.intro
    · rw [bl_truthy']
      exact ⟨.bl _, H, I.kept (t' := tk) hk, rfl, g _ w H (.refl w) r (.of (.bl _) (by intro _ z; cases z))⟩
theorem cr_tuple (hK : X.K = C.K) : CallR X (.type "tuple") (rBi C O .tuple) := by
  intro pins s σ' H vs us Q I rv ⟨w, σ, ρ, o, ds, d, r, ar, e, g⟩
  match ds, e with
  | [.lst ds], e =>
    obtain ⟨v, rfl, a1⟩ := ars1 ar
    simp only [dBi, Option.some.injEq] at e; subst e
    obtain ⟨p, vs, rfl, e2, q⟩ := vw_lst (a1.vw r)
    refine call_tuple_of pins s σ' H _ us Q I rv ⟨p, vs, rfl, .inl ⟨.of e2, fun l hl => ?_⟩⟩
    obtain ⟨w2, l2, r2, p2⟩ := r.newTup hl q
    exact g _ w2 _ l2 r2 (.of p2 (by intro _ z; cases z))
  | [.tup ds], e =>
    obtain ⟨v, rfl, a1⟩ := ars1 ar
    simp only [dBi, Option.some.injEq] at e; subst e
    obtain ⟨p, vs, rfl, e2, q, rp⟩ := vw_tup r.hr (a1.vw r)
    exact call_tuple_of pins s σ' H _ us Q I rv ⟨p, vs, rfl, .inr ⟨by rw [hK]; exact e2, g _ w H (.refl w) r (.of rp (by intro _ z; cases z))⟩⟩
theorem sign_vals : ∀ (cs : List Nat) (its : List Value), its.length = cs.length → (∀ (j : Nat) (v : Value), its[j]? = some v → ∃ (c : Nat) (u : Tok), cs[j]? = some c ∧ v = Value.str ⟨#[c]⟩ u) → Vals (cs.map fun c => V.str ⟨#[c]⟩) its
  | [], [], _, _ => .nil
  | c :: cs, v :: its, hl, h => by
    obtain ⟨c', u, e1, e2⟩ := h 0 v rfl
    cases e1
    exact .cons ⟨u, e2⟩ (sign_vals cs its (by simpa using hl) fun j v hj => h (j + 1) v hj)
theorem sign_reps : ∀ cs : List Nat, Reps C.K w (cs.map fun c => V.str ⟨#[c]⟩) (cs.map fun c => D.str ⟨#[c]⟩)
  | [] => .nil
  | c :: cs => .cons (.str _) (sign_reps cs)
theorem cr_list (hc : X.calm = true) (hK : X.K = C.K) : CallR X (.type "list") (rBi C O .list) := by
  intro pins s σ' H vs us Q I rv ⟨w, σ, ρ, o, ds, d, r, ar, e, g⟩
  match ds, e with
  | [.lst ds], e =>
    obtain ⟨v, rfl, a1⟩ := ars1 ar
    simp only [dBi, Option.some.injEq] at e; subst e
    obtain ⟨p, vs, rfl, e2, q⟩ := vw_lst (a1.vw r)
    refine call_list_of pins s σ' H _ us Q I rv ⟨p, vs, rfl, .inl (.of e2), fun l hl => ?_⟩
    obtain ⟨r2, fv⟩ := FV.new r hl q
    exact g _ w _ (.refl w) r2 fv
  | [.tup ds], e =>
    obtain ⟨v, rfl, a1⟩ := ars1 ar
    simp only [dBi, Option.some.injEq] at e; subst e
    obtain ⟨p, vs, rfl, e2, q, rp⟩ := vw_tup r.hr (a1.vw r)
    refine call_list_of pins s σ' H _ us Q I rv ⟨p, vs, rfl, .inr (by rw [hK]; exact e2), fun l hl => ?_⟩
    obtain ⟨r2, fv⟩ := FV.new r hl q
    exact g _ w _ (.refl w) r2 fv
  | [.str x], e =>
    obtain ⟨v, rfl, a1⟩ := ars1 ar
    simp only [dBi] at e
    split at e
    · rename_i hl
      cases e
      have ev := vw_str (a1.vw r)
      subst ev
      obtain ⟨u, rfl, ru⟩ := rv.one
      obtain ⟨t, rfl⟩ := ru
      have hz : x.cps.size ≤ sizeLine := by rw [← line_eq]; exact hl
      refine PySem.call_list_str (I.ok.hd hc) x t (fun h' tk acc c' hk e' hi => ?_) hz
      have hv : Vals (x.cps.toList.map fun c => V.str ⟨#[c]⟩) acc.toList := by
        refine sign_vals _ _ (by rw [Array.length_toList, hi.1, Array.length_toList]) fun j v hj => ?_
        obtain ⟨c, u, h1, h2⟩ := hi.2 j v (by rw [← hj, Array.getElem?_toList])
        exact ⟨c, u, by rw [← h1, Array.getElem?_toList], h2⟩
      have hn := I.hok.fresh (a := s.heap.objs.size) (Nat.le_refl _)
      obtain ⟨r2, fv⟩ := FV.new r hn (sign_reps (C := C) (w := w) x.cps.toList)
      refine ⟨.ref s.heap.objs.size, _, I.laid (t' := tk) hk (Nat.le_refl _) (show ObjOk X.prog X.w _ _ _ (.lst _) from ⟨?_, acc.toList, c', hv, ?_⟩), rfl, g _ w _ (.refl w) r2 fv⟩
      · rw [List.length_map, Array.length_toList]; exact hz
      · exact (Array.toArray_toList ..).symm ▸ e'
    · cases e
/-- sorted -/
def SV (K : PySem.W.Frag) (w : Ev.W) (u : Value) (d : D) : Prop := ∃ x, RelV x u ∧ Rep K w x d
theorem sv_each {K : PySem.W.Frag} : ∀ {vs : List V} {us : List Value} {ds : List D}, Vals vs us → Reps K w vs ds → EachIs (SV K w) us ds
  | _, _, _, .nil, .nil => .nil
  | _, _, _, .cons r t, .cons q s => .cons ⟨_, r, q⟩ (sv_each t s)
theorem sv_back {K : PySem.W.Frag} : ∀ {us : List Value} {ds : List D}, EachIs (SV K w) us ds → ∃ vs, Vals vs us ∧ Reps K w vs ds
  | _, _, .nil => ⟨[], .nil, .nil⟩
  | _, _, .cons ⟨x, r, q⟩ t => let ⟨vs, a, b⟩ := sv_back t; ⟨x :: vs, .cons r a, .cons q b⟩
theorem enc_nnt {d : D} (h : notNT d = true) (hs : (dP d).isSome = true) : encD d ≠ .none ∧ ∀ xs, encD d ≠ .tuple xs := by
  cases d with
  | non => simp [notNT] at h
  | bl b => exact ⟨(fun z => by simp [encD, dP] at z), (fun xs z => by simp [encD, dP] at z)⟩
  | int b => exact ⟨(fun z => by simp [encD, dP] at z), (fun xs z => by simp [encD, dP] at z)⟩
  | str b => exact ⟨(fun z => by simp [encD, dP] at z), (fun xs z => by simp [encD, dP] at z)⟩
  | tup b => simp [notNT] at h
  | lst ds =>
    simp only [dP] at hs
    cases hq : dPs ds with
    | none => rw [hq] at hs; simp at hs
    | some ps => exact ⟨(fun z => by simp [encD, dP, hq] at z), (fun xs z => by simp [encD, dP, hq] at z)⟩
  | scr b => simp [dP] at hs
  | ref b => simp [dP] at hs
  | exc b c => simp [dP] at hs
theorem cr_sorted (hu : X.A.units + 65 < cLine) (hK : X.K = C.K) : CallR X (.builtin "sorted") (rBi C O .sorted) := by
  intro pins s σ' H vs us Q I rv ⟨w, σ, ρ, o, ds, d, r, ar, e, g⟩
  match ds, e with
  | [.lst ds], e =>
    obtain ⟨v, rfl, a1⟩ := ars1 ar
    simp only [dBi] at e
    split at e
    · rename_i hs
      cases e
      unfold sortOk at hs
      simp only [Bool.and_eq_true, Bool.or_eq_true, List.all_eq_true, decide_eq_true_eq] at hs
      obtain ⟨⟨⟨⟨h1, h2⟩, h3⟩, h4⟩, h5⟩ := hs
      obtain ⟨p, vs, rfl, e2, q⟩ := vw_lst (a1.vw r)
      obtain ⟨u, rfl, ru⟩ := rv.one
      cases ru
      obtain ⟨its, rv2, pl, hz⟩ := I.list (SqL.of e2)
      have rd : ∀ {vs : List V} {us : List Value} {ds : List D}, Vals vs us → Reps C.K w vs ds → (∀ d ∈ ds, (dP d).isSome = true) → EachIs (fun v b => ∃ as, Reads s.heap v (encD b) as) us ds := by
        intro vs us ds rv rp
        induction ds generalizing vs us with
        | nil => intro _; cases rp; cases rv; exact .nil
        | cons d ds ih =>
          intro hd
          cases rp with
          | cons q1 q2 =>
            cases rv with
            | cons r1 r2 =>
              refine .cons ?_ (ih r2 q2 fun d hd' => hd d (List.mem_cons_of_mem _ hd'))
              obtain ⟨y, hy⟩ := Option.isSome_iff_exists.mp (hd d List.mem_cons_self)
              unfold encD
              rw [hy]
              exact Dp.reads I y _ _ (by rw [hK]; exact q1.dp r.hr hy) r1
      refine PySem.W.sorted_data (R := SV C.K w) (enc := encD) pl.isList (sv_each rv2 q) (rd rv2 q h1) (fun d hd d' hd' => ?_) ?_ (by rw [← line_eq]; exact h5) (fun b hb => by have := h4 b hb; omega) fun out hlen he => ?_
      · obtain ⟨b, hb, rfl⟩ := List.mem_map.mp hd
        obtain ⟨b', hb', rfl⟩ := List.mem_map.mp hd'
        exact h2 b hb b' hb'
      · rcases h3 with h3 | h3
        · refine .inl fun d hd => ?_
          obtain ⟨b, hb, rfl⟩ := Iff.mp List.mem_map hd
          have ht := h3 b hb
          cases b <;> first | (simp [tupC] at ht; done) | skip
          rename_i ds'
          cases ds' with
          | nil => simp [tupC] at ht
          | cons x xs =>
            have hsm := h1 _ hb
            unfold encD
            simp only [dP] at hsm ⊢
            cases hq : dPs (x :: xs) with
            | none => rw [hq] at hsm; simp at hsm
            | some ps =>
              rw [dPs] at hq
              cases hx : dP x with
              | none => rw [hx] at hq; cases hq
              | some y =>
                cases hxs : dPs xs with
                | none => rw [hx, hxs] at hq; cases hq
                | some ys => rw [hx, hxs] at hq; cases hq; exact ⟨y, ys, rfl⟩
        · refine .inr fun d hd => ?_
          obtain ⟨b, hb, rfl⟩ := Iff.mp List.mem_map hd
          exact enc_nnt (h3 b hb) (h1 b hb)
      · obtain ⟨ws, hw1, hw2⟩ := sv_back he
        obtain ⟨c', hc'⟩ := sortedAll_at s.heap its out.toArray
        have hn : H (s.heap.objs.size + 1) = none := I.hok.fresh (Nat.le_succ _)
        obtain ⟨r2, fv⟩ := FV.new r hn hw2
        refine ⟨.ref (s.heap.objs.size + 1), _, I.laid (t' := s.toks) (fun b u e => sortedAll_old e) (Nat.le_succ _) (show ObjOk X.prog X.w _ _ _ (.lst _) from ⟨?_, out, c', hw1, ?_⟩), rfl, g _ w _ (.refl w) r2 fv⟩
        · rw [hw1.length, hlen, ← line_eq]; exact h5
        · exact hc'
    · cases e

/-! ### which function stands behind a name -/
theorem bi_boot (p : Bi) (hp : p ≠ .gcd) : bootBuiltins (biName p) = some (biV p) := by cases p <;> first | (exact absurd rfl hp) | decide +kernel
theorem bi_ne (p : Bi) : biName p ≠ ("__name__" : Str) ∧ (biName p == ("__debug__" : Str)) = false := by cases p <;> decide +kernel
theorem cr_bi (p : Bi) (hc : X.calm = true) (hu : X.A.units + 65 < cLine) (hK : X.K = C.K) : CallR X (biV p) (rBi C O p) := by
  cases p
  · exact cr_len hK
  · exact cr_abs
  · exact cr_int
  · exact cr_all hc hK
  · exact cr_any hc hK
  · exact cr_tuple hK
  · exact cr_list hc hK
  · exact cr_sorted hu hK
  · exact Ev.cr_gcd
  · exact cr_min hc
  · exact cr_max hc
theorem bi_imp {p : Bi} {es : Es} {Q : VK} (q : tE C O (.bi p es) O1 (biKind p) σ H Q) : tCB (rBi C O1 p) (tArs C O es O1) σ H Q := by
  obtain ⟨w, ρ, o, r, fi⟩ := q
  refine ⟨w, ρ, o, r, (fin_bind fi).imp fun ds o1 g vs w1 H1 l1 r1 p1 => ?_⟩
  obtain ⟨d, e, g⟩ := fin_of g
  refine ⟨w1, σ, ρ, o1, ds, d, r1, p1, e, fun v w2 H2 l2 r2 fv => ?_⟩
  by_cases hk : biKind p = .own
  · rw [hk] at g
    refine g v w2 H2 (l1.trans l2) r2 ?_
    have : ∃ ys, d = .lst ys := by
      cases p <;> first | (cases hk; done) | skip
      · unfold dBi at e
        split at e <;> first | (simp at *; done) | skip
        all_goals first | (cases e; exact ⟨_, rfl⟩) | skip
        all_goals (split at e <;> first | (cases e; exact ⟨_, rfl⟩) | (cases e))
      · unfold dBi at e
        split at e <;> first | (simp at *; done) | skip
        all_goals first | (cases e; exact ⟨_, rfl⟩) | skip
        all_goals (split at e <;> first | (cases e; exact ⟨_, rfl⟩) | (cases e))
    obtain ⟨ys, hy⟩ := this
    exact fv.1 ys hy
  · have hv : biKind p = .val := by cases p <;> first | rfl | (exact absurd rfl hk)
    rw [hv] at g
    obtain ⟨w3, l3, r3, p3⟩ := fv.rep r2
    exact g v w3 H2 (l1.trans (l2.trans l3)) r3 p3
theorem s_bi {p : Bi} {es : Es} {y : Expr} {ys : List Expr} {p1 pos : Pos} (hc : X.calm = true) (hu : X.A.units + 65 < cLine) (hK : X.K = C.K) (hg : Gl X (biName p)) (hm : p ≠ .gcd → X.mg (biName p) = none) (hm2 : p = .gcd → X.mg "gcd" = some (.builtin "math.gcd"))
    (ha : PA X (y :: ys) (tArs C O es O1)) (hp : ∀ z ∈ y :: ys, plainE z = true) : PE X (.Call (.Name (biName p) p1) (y :: ys) [] pos) (tE C O (.bi p es) O1 (biKind p)) := by
  have hs := star_of (xs := ys) (env := X.env) (hp y List.mem_cons_self)
  have hb := back_any (env := X.env) (q := pos) (ys := ys) fun z hz => hp z (List.mem_cons_of_mem _ hz)
  have cr := cr_bi (C := C) (O := O1) p hc hu hK
  by_cases hgc : p = .gcd
  · subst hgc
    exact (pe_callBfun cr hg (hm2 rfl) ha (bi_ne .gcd).2 hs hb).imp fun σ H Q q => bi_imp q
  · have bo := bi_boot p hgc
    by_cases ht : biT p = true
    · unfold biV at cr bo
      rw [if_pos ht] at cr bo
      exact (pe_callTy cr hg (hm hgc) bo ha (bi_ne p).1 (bi_ne p).2 hs hb).imp fun σ H Q q => bi_imp q
    · unfold biV at cr bo
      rw [if_neg ht] at cr bo
      exact (pe_callB cr hg (hm hgc) bo ha (bi_ne p).1 (bi_ne p).2 hs hb).imp fun σ H Q q => bi_imp q
end
end Ev

/-! zip and enumerate, whatever of lists and tuples they walk -/
namespace Ev
open PySem L2 PySem.Spec PyProof.Rows

/-- all that is asked of a thing that zip or enumerate walks -/
structure Src (K : PySem.W.Frag) where
  sq : Hp → Addr → List V → Prop
  on : Heap → Addr → Array Value → Prop
  pos : Heap → Addr → Addr → Nat → Prop
  o0 : Addr → Obj
  begin : ∀ (a : Addr) (vs : Array Value), Begins (.ref a) (o0 a) fun h => on h a vs
  draw : ∀ {pr : Program} {wd : World} {A : Around}, A.handled = none → ∀ (t a : Addr), a ≠ t → ∀ vs : Array Value, Draws pr wd A t [t, a] vs.size (fun j v => vs[j]? = some v) fun j h => pos h t a j ∧ on h a vs
  zero : ∀ {h : Heap} {t a : Addr}, h.get? t = some (o0 a) → pos h t a 0
  obj : ∀ {h : Heap} {t a : Addr} {j : Nat}, pos h t a j → ∃ ob, h.get? t = some ob ∧ ∀ v, ob.data ≠ .cell v
  still : ∀ {h h' : Heap} {t a : Addr} {j : Nat}, pos h t a j → (∀ ob, h.get? t = some ob → h'.get? t = some ob) → pos h' t a j
  look : ∀ {X : Cx} {ps : List (Addr × Obj)} {σ : L2.St} {H : Hp} {s : Shared} {a : Addr} {xs : List V}, X.K = K → Inv X ps σ H s → sq H a xs → ∃ vs : List Value, Vals xs vs ∧ on s.heap a vs.toArray ∧ a < s.heap.objs.size
  same : ∀ {X : Cx} {ps : List (Addr × Obj)} {σ : L2.St} {H : Hp} {s : Shared} {a : Addr} {xs ys : List V}, X.K = K → Inv X ps σ H s → sq H a xs → sq H a ys → xs = ys
def srcL (K : PySem.W.Frag) : Src K where
  sq := SqL K
  on h a vs := h.IsList a vs
  pos h t a j := h.IsListIter t a j
  o0 a := { cls := .type "list_iterator", data := .fields #[.ref a, .int 0 0] }
  begin := begins_list
  draw hh t a hne vs := Draws.list hh t a hne vs
  zero e := ⟨_, e, rfl, rfl⟩
  obj := fun ⟨ob, e, _, d⟩ => ⟨ob, e, fun v z => by rw [d] at z; cases z⟩
  still p f := p.at f
  look hK inv q := by
    subst hK
    obtain ⟨vs, r, p, _⟩ := inv.list q
    exact ⟨vs, r, p.isList, p.lt⟩
  same hK inv q q' := by subst hK; exact inv.list_inj q q'
def srcT (K : PySem.W.Frag) : Src K where
  sq := SqT K
  on h a vs := h.IsTuple a vs
  pos h t a j := h.IsTupleIter t a j
  o0 a := { cls := .type "tuple_iterator", data := .fields #[.ref a, .int 0 0] }
  begin := begins_tuple
  draw hh t a hne vs := Draws.tuple hh t a hne vs
  zero e := ⟨_, e, rfl, rfl⟩
  obj := fun ⟨ob, e, _, d⟩ => ⟨ob, e, fun v z => by rw [d] at z; cases z⟩
  still p f := p.at f
  look hK inv q := by
    subst hK
    obtain ⟨vs, r, p, _⟩ := inv.tuple q
    exact ⟨vs, r, p, p.lt⟩
  same hK inv q q' := by subst hK; exact inv.tuple_inj q q'
def src (K : PySem.W.Frag) : Bool → Src K
  | true => srcL K
  | false => srcT K
def SqK (k : Bool) (K : PySem.W.Frag) : Hp → Addr → List V → Prop := (src K k).sq
/-- the place of a value among those walked -/
theorem vals_at {xs : List V} {vs : List Value} (r : Vals xs vs) {j : Nat} {x : V} (hx : xs[j]? = some x) : ∃ u, vs.toArray[j]? = some u ∧ RelV x u ∧ j < vs.toArray.size := by
  obtain ⟨u, e, ru⟩ := r.get hx
  have hj : j < vs.length := (List.getElem?_eq_some_iff.mp e).1
  exact ⟨u, by rw [List.getElem?_toArray]; exact e, ru, by rw [List.size_toArray]; exact hj⟩

/-! ### what enumerate makes -/
def enumO (t : Addr) : Obj := { cls := .type "enumerate", data := .fields #[.none, .bool false, .ref t, rawInt 0, .none, .none] }
theorem enum_new {v : Value} {ob : Obj} {P : Heap → Prop} (B : Begins v ob P) :
    Meets (Builtin.«enumerate.__new__» ⟨[.type "enumerate", v], []⟩) (fun _ R st => P st.heap ∧
      R (.ok (.ret (.ref (st.heap.push ob).objs.size))) { st with heap := (st.heap.push ob).push (enumO st.heap.objs.size) }) := by
  refine .of_wp fun pr wd A R st ⟨hP, hR⟩ => ?_
  have go := fun A' => B.iter pr wd A'
  have hs := sub_enumerate
  obtain ⟨heap, gs, ds, tks, oss⟩ := st
  have begun : ∀ {A' : Around} {E Q : Value → Shared → Prop}, Q (.ref heap.objs.size) ⟨heap.push ob, gs, ds, tks, oss⟩ → wpAny (model pr wd) A' (pyIter v) Q E ⟨heap, gs, ds, tks, oss⟩ := fun {A' E Q} q =>
    go A' E ⟨heap, gs, ds, tks, oss⟩ Q hP q
  wp_walk
  refine wpAny_stack_any fun frames => wpAny_pure ?_
  split
  · next c _ _ _ _ _ =>
    cases (c == Value.type "enumerate") <;> (wp_walk using begun; exact ⟨_, rfl, hR⟩)
  · wp_walk using begun
    exact ⟨_, rfl, hR⟩
theorem enum_call {pr : Program} {wd : World} {A : Around} {E Q : Value → Shared → Prop} {st : Shared} {v : Value} {ob : Obj} {P : Heap → Prop} (B : Begins v ob P) (hP : P st.heap)
    (then_ : ∀ h', IsEnum h' (st.heap.objs.size + 1) st.heap.objs.size 0 .none → h'.get? st.heap.objs.size = some ob → (∀ b x, st.heap.get? b = some x → h'.get? b = some x) →
      Q (.ref (st.heap.objs.size + 1)) { st with heap := h' }) :
    wpAny (model pr wd) A (PySem.call (.type "enumerate") [v]) Q E st := by
  have sz : (st.heap.push ob).objs.size = st.heap.objs.size + 1 := Heap.size_push ..
  have last := Heap.get?_push_size (st.heap.push ob) (o := enumO st.heap.objs.size) rfl
  rw [sz] at last
  have made : Q (.ref (st.heap.push ob).objs.size) { st with heap := (st.heap.push ob).push (enumO st.heap.objs.size) } := by
    rw [sz]
    exact then_ _ last (Heap.get?_push_of_some _ (Heap.get?_push_size _ B.free)) fun b x e => Heap.get?_push_of_some _ (Heap.get?_push_of_some _ e)
  exact callType_new F.called_enumerate (by decide) (F.typeCall_enumerate_1 _) (F.newCall_enumerate_1 _) (fun x => F.args_object_init_2 x _) F.entry_enumerate_new
    (enum_new B) ⟨hP, ⟨_, by rw [sz]; exact last, rfl⟩, made⟩

/-! ### enumerate walked -/
def IteK (k : Bool) (K : PySem.W.Frag) (a : Addr) : It where
  go i H := ∃ (xs : List V) (x : V), SqK k K H a xs ∧ xs[i]? = some x
  yld i H v H' := ∃ T x, v = .ref T ∧ H T = none ∧ H' = upd H T (.tup [.int (i : Nat), x]) ∧ ∀ xs, SqK k K H a xs → xs[i]? = some x
  stop i H := ∃ xs : List V, SqK k K H a xs ∧ xs.length = i
/-- where an enumerate stands: its own cell and that of what it walks -/
structure EnAt {K : PySem.W.Frag} (S : Src K) (a e t : Addr) (i : Nat) (h : Heap) : Prop where
  en : ∃ old, IsEnum h e t ((i : Nat) : Int) old
  at_ : S.pos h t a i
  ne : e ≠ t
theorem en_two {b e t : Addr} {C : Prop} (hb : b ∈ [e, t]) (h1 : b = e → C) (h2 : b = t → C) : C := by
  rcases Iff.mp List.mem_cons hb with z | z
  · exact h1 z
  · exact h2 (List.mem_singleton.mp z)
theorem en_item {X : Cx} {ps : List (Addr × Obj)} {σ : L2.St} {H : Hp} {st : Shared} {E : Value → Shared → Prop} {elts : List Expr} {kk : Nat} {tp : Pos} {a e t : Addr} {i : Nat} (k : Bool)
    (hta : a ≠ t) (hea : e ≠ a) (hc : X.calm = true) (inv : Inv X ps σ H st) (fp : ∀ b ∈ [e, t], FpOk X ps H b) (w : EnAt (src X.K k) a e t i st.heap) (g : (IteK k X.K a).go i H) :
    wpAny (model X.prog X.w) X.A (pyNext (.ref e)) (fun r s1 => ∃ u, r = some u ∧
      wpAny (model X.prog X.w) X.A (letOwnedTupleGo (.Tuple elts kk tp) (.ref e) u) (fun _ s2 => ∃ x H', Inv X ps σ H' s2 ∧ RelV x u ∧ (IteK k X.K a).yld i H x H' ∧ EnAt (src X.K k) a e t (i + 1) s2.heap ∧ ∀ b ∈ [e, t], H' b = none) E s1) E st := by
  obtain ⟨⟨old, en⟩, at_, ne⟩ := w
  obtain ⟨xs, x, q, hx⟩ := g
  obtain ⟨vs, r, on, _⟩ := (src X.K k).look rfl inv q
  obtain ⟨u, hu, ru, hi⟩ := vals_at r hx
  have le : e < st.heap.objs.size := Heap.lt_size en
  have lt : t < st.heap.objs.size := by obtain ⟨_, z, _⟩ := (src X.K k).obj at_; exact Heap.lt_size z
  have dr := (src X.K k).draw (pr := X.prog) (wd := X.w) (A := X.A.in1) (inv.ok.hd hc) t a hta vs.toArray
  have out : e ∉ [t, a] := fun z => by
    rcases Iff.mp List.mem_cons z with z | z
    · exact ne z
    · exact hea (List.mem_singleton.mp z)
  refine wpAny_pyNext_enum_itemD dr en ⟨at_, on⟩ hi ne out fun u' h1 tk hu' ob st' hT _ hk => ?_
  obtain rfl : u' = u := Option.some.inj (hu'.symm.trans hu)
  have at1 := st'.1
  refine ⟨_, rfl, wpAny_letOwnedTupleGo_enum (s := { st with heap := h1, toks := tk + 1 }) ob fun h2 en2 sb => ?_⟩
  have hsub : ∀ b o, b ∉ [e, t] → st.heap.get? b = some o → h2.get? b = some o := fun b o hb z => by
    have n1 : b ≠ e := fun y => hb (by rw [y]; exact List.mem_cons_self)
    have n2 : b ≠ t := fun y => hb (by rw [y]; exact List.mem_cons_of_mem _ List.mem_cons_self)
    exact (sb.2 b n1).trans (hk b o n1 n2 z)
  have tup2 : h2.get? st.heap.objs.size = some { cls := .type "tuple", data := .seq #[.int i tk, u'] } := (sb.2 _ (Nat.ne_of_gt le)).trans hT
  have fresh : ObjOk X.prog X.w (upd H st.heap.objs.size (.tup [.int (i : Nat), x])) h2 st.heap.objs.size (.tup [.int (i : Nat), x]) :=
    ⟨by show 2 ≤ sizeLine; decide, [.int i tk, u'], .cons ⟨_, rfl⟩ (.cons ru .nil), ⟨_, tup2, rfl, _, rfl⟩⟩
  have inv2 : Inv X ps σ (upd H st.heap.objs.size (.tup [.int (i : Nat), x])) { st with heap := h2, toks := tk + 1 } :=
    inv.turnedNew (ch := [e, t]) hsub fp (Nat.le_refl _) fresh
  have en3 : IsEnum h2 e t (((i + 1 : Nat) : Nat) : Int) u' := by
    rw [show ((i + 1 : Nat) : Int) = (i : Int) + 1 from rfl]
    exact en2
  refine ⟨.ref st.heap.objs.size, _, inv2, rfl, ⟨_, x, rfl, inv.hok.fresh (Nat.le_refl _), rfl, fun ys hy => ?_⟩, ⟨⟨u', en3⟩, (src X.K k).still at1 fun o z => (sb.2 t (Ne.symm ne)).trans z, ne⟩, fun b hb => ?_⟩
  · rw [(src X.K k).same rfl inv hy q]
    exact hx
  · have lb : b < st.heap.objs.size := en_two hb (fun z => by rw [z]; exact le) fun z => by rw [z]; exact lt
    rw [upd_ne (Nat.ne_of_lt lb)]
    exact (fp b hb).1
theorem turn_enumK {P : Program} {w : World} {K : PySem.W.Frag} {elts : List Expr} {kk : Nat} {tp : Pos} (k : Bool) (a e t : Addr) (hta : a ≠ t) (hea : e ≠ a) :
    Turn P w K (.Tuple elts kk tp) (IteK k K a) [e, t] e (EnAt (src K k) a e t) where
  mem := List.mem_cons_self
  obj i h w b hb := en_two hb (fun z => by obtain ⟨_, en⟩ := w.en; rw [z]; exact ⟨_, en, fun v y => nomatch y⟩) fun z => by rw [z]; exact (src K k).obj w.at_
  keep i h h' w f := by
    obtain ⟨⟨old, en⟩, at_, ne⟩ := w
    exact ⟨⟨old, f e List.mem_cons_self _ en⟩, (src K k).still at_ fun o z => f t (List.mem_cons_of_mem _ List.mem_cons_self) o z, ne⟩
  item X hP hw hK hc i ps st σ H E inv fp w g := by
    subst hP hw hK
    exact en_item k hta hea hc inv fp w g
  done X hP hw hK hc i ps st σ H E inv fp w g := by
    subst hP hw hK
    obtain ⟨⟨old, en⟩, at_, ne⟩ := w
    obtain ⟨xs, q, hx⟩ := g
    obtain ⟨vs, r, on, _⟩ := (src X.K k).look rfl inv q
    obtain ⟨f0, f1, f2, f3, f4, f5⟩ := fp t (List.mem_cons_of_mem _ List.mem_cons_self)
    have hi : vs.toArray.size = i := by rw [List.size_toArray, ← hx]; exact r.length.symm
    have dr := (src X.K k).draw (pr := X.prog) (wd := X.w) (A := X.A.in1) (inv.ok.hd hc) t a hta vs.toArray
    exact wpAny_pyNext_enum_endD dr en (by rw [hi]; exact ⟨at_, on⟩) fun h' eb => ⟨rfl, inv.turned (t' := st.toks) eb f0 f1 f3 f4 f5⟩
  self A i st Q E w hq := by
    obtain ⟨_, en⟩ := w.en
    exact wpAny_pyIter_enum en hq

/-! ### zip walked -/
def ItzK (k1 k2 : Bool) (K : PySem.W.Frag) (a b : Addr) : It where
  go i H := ∃ (xs ys : List V) (x y : V), SqK k1 K H a xs ∧ SqK k2 K H b ys ∧ xs[i]? = some x ∧ ys[i]? = some y
  yld i H v H' := ∃ T x y, v = .ref T ∧ H T = none ∧ H' = upd H T (.tup [x, y]) ∧ (∀ xs, SqK k1 K H a xs → xs[i]? = some x) ∧ ∀ ys, SqK k2 K H b ys → ys[i]? = some y
  stop i H := ∃ xs ys : List V, SqK k1 K H a xs ∧ SqK k2 K H b ys ∧ i ≤ xs.length ∧ i ≤ ys.length ∧ (i = xs.length ∨ i = ys.length)
/-- where a zip of two stands -/
structure ZpAt {K : PySem.W.Frag} (S1 S2 : Src K) (a b z p r t1 t2 : Addr) (i : Nat) (h : Heap) : Prop where
  zp : IsZip h z p r .none
  its : IsTupOf2 h p (.ref t1) (.ref t2)
  res : ∃ x y, IsTupOf2 h r x y
  at1 : S1.pos h t1 a i
  at2 : S2.pos h t2 b i
theorem in_five {c z p r t1 t2 : Addr} {C : Prop} (hc : c ∈ [z, p, r, t1, t2]) (h1 : c = z → C) (h2 : c = p → C) (h3 : c = r → C) (h4 : c = t1 → C) (h5 : c = t2 → C) : C := by
  simp only [List.mem_cons, List.not_mem_nil, or_false] at hc
  rcases hc with y | y | y | y | y
  · exact h1 y
  · exact h2 y
  · exact h3 y
  · exact h4 y
  · exact h5 y
theorem zp_item {X : Cx} {ps : List (Addr × Obj)} {σ : L2.St} {H : Hp} {st : Shared} {E : Value → Shared → Prop} {elts : List Expr} {kk : Nat} {tp : Pos} {a b z p r t1 t2 : Addr} {i : Nat} (k1 k2 : Bool)
    (S : ZipSep2 z p r t1 t2 [t1, a] [t2, b]) (n1 : a ≠ t1) (n2 : b ≠ t2) (hc : X.calm = true) (inv : Inv X ps σ H st) (fp : ∀ c ∈ [z, p, r, t1, t2], FpOk X ps H c) (w : ZpAt (src X.K k1) (src X.K k2) a b z p r t1 t2 i st.heap) (g : (ItzK k1 k2 X.K a b).go i H) :
    wpAny (model X.prog X.w) X.A (pyNext (.ref z)) (fun o s1 => ∃ u, o = some u ∧
      wpAny (model X.prog X.w) X.A (letOwnedTupleGo (.Tuple elts kk tp) (.ref z) u) (fun _ s2 => ∃ x H', Inv X ps σ H' s2 ∧ RelV x u ∧ (ItzK k1 k2 X.K a b).yld i H x H' ∧ ZpAt (src X.K k1) (src X.K k2) a b z p r t1 t2 (i + 1) s2.heap ∧ ∀ c ∈ [z, p, r, t1, t2], H' c = none) E s1) E st := by
  obtain ⟨zp, its, ⟨x0, y0, res⟩, at1, at2⟩ := w
  obtain ⟨xs, ys, x, y, q1, q2, hx, hy⟩ := g
  obtain ⟨vs, v1, on1, _⟩ := (src X.K k1).look rfl inv q1
  obtain ⟨us, v2, on2, _⟩ := (src X.K k2).look rfl inv q2
  obtain ⟨u, hu, ru, l1⟩ := vals_at v1 hx
  obtain ⟨m, hm, rm, l2⟩ := vals_at v2 hy
  have lz : z < st.heap.objs.size := Heap.lt_size zp
  have d1 := (src X.K k1).draw (pr := X.prog) (wd := X.w) (A := X.A.in1) (inv.ok.hd hc) t1 a n1 vs.toArray
  have d2 := (src X.K k2).draw (pr := X.prog) (wd := X.w) (A := X.A.in1) (inv.ok.hd hc) t2 b n2 us.toArray
  refine wpAny_pyNext_zipD2_item S d1 d2 zp its res ⟨at1, on1⟩ ⟨at2, on2⟩ l1 l2 fun u' m' h1 tk hu' hm' zp1 res1 w1 w2 hT _ hk => ?_
  obtain rfl : u' = u := Option.some.inj (hu'.symm.trans hu)
  obtain rfl : m' = m := Option.some.inj (hm'.symm.trans hm)
  refine ⟨_, rfl, wpAny_letOwnedTupleGo_zip (s := { st with heap := h1, toks := tk }) zp1 fun h2 zp2 sb => ?_⟩
  have hsub : ∀ c o, c ∉ [z, p, r, t1, t2] → st.heap.get? c = some o → h2.get? c = some o := fun c o hb q => by
    simp only [List.mem_cons, List.not_mem_nil, or_false, not_or] at hb
    obtain ⟨b1, b2, b3, b4, b5⟩ := hb
    exact (sb.2 c b1).trans (hk c o b1 b3 b4 b5 q)
  have tup2 : h2.get? st.heap.objs.size = some { cls := .type "tuple", data := .seq #[u', m'] } := (sb.2 _ (Nat.ne_of_gt lz)).trans hT
  have fresh : ObjOk X.prog X.w (upd H st.heap.objs.size (.tup [x, y])) h2 st.heap.objs.size (.tup [x, y]) :=
    ⟨by show 2 ≤ sizeLine; decide, [u', m'], .cons ru (.cons rm .nil), ⟨_, tup2, rfl, _, rfl⟩⟩
  have inv2 : Inv X ps σ (upd H st.heap.objs.size (.tup [x, y])) { st with heap := h2, toks := tk } :=
    inv.turnedNew (ch := [z, p, r, t1, t2]) hsub fp (Nat.le_refl _) fresh
  have its2 : IsTupOf2 h2 p (.ref t1) (.ref t2) := (sb.2 _ S.TIz).trans (hk _ _ S.TIz S.TITO S.TIi1 S.TIi2 its)
  have res2 : IsTupOf2 h2 r u' m' := (sb.2 _ S.TOz).trans res1
  have at1' := (src X.K k1).still w1.1 fun o q => (sb.2 _ (Ne.symm S.zi1)).trans q
  have at2' := (src X.K k2).still w2.1 fun o q => (sb.2 _ (Ne.symm S.zi2)).trans q
  refine ⟨.ref st.heap.objs.size, _, inv2, rfl, ⟨_, x, y, rfl, inv.hok.fresh (Nat.le_refl _), rfl, fun l hl => ?_, fun l hl => ?_⟩, ⟨zp2, its2, ⟨u', m', res2⟩, at1', at2'⟩, fun c hcm => ?_⟩
  · rw [(src X.K k1).same rfl inv hl q1]
    exact hx
  · rw [(src X.K k2).same rfl inv hl q2]
    exact hy
  · have lc : c < st.heap.objs.size := in_five hcm (fun e => by rw [e]; exact lz) (fun e => by rw [e]; exact Heap.lt_size its) (fun e => by rw [e]; exact Heap.lt_size res)
      (fun e => by rw [e]; obtain ⟨_, y, _⟩ := (src X.K k1).obj at1; exact Heap.lt_size y) fun e => by rw [e]; obtain ⟨_, y, _⟩ := (src X.K k2).obj at2; exact Heap.lt_size y
    rw [upd_ne (Nat.ne_of_lt lc)]
    exact (fp c hcm).1
theorem turn_zipK {P : Program} {w : World} {K : PySem.W.Frag} {elts : List Expr} {kk : Nat} {tp : Pos} (k1 k2 : Bool) {a b z p r t1 t2 : Addr} (S : ZipSep2 z p r t1 t2 [t1, a] [t2, b]) (n1 : a ≠ t1) (n2 : b ≠ t2) :
    Turn P w K (.Tuple elts kk tp) (ItzK k1 k2 K a b) [z, p, r, t1, t2] z (ZpAt (src K k1) (src K k2) a b z p r t1 t2) where
  mem := List.mem_cons_self
  obj i h w c hc := in_five hc (fun e => by rw [e]; exact ⟨_, w.zp, fun v y => nomatch y⟩) (fun e => by rw [e]; exact ⟨_, w.its, fun v y => nomatch y⟩)
    (fun e => by obtain ⟨_, _, res⟩ := w.res; rw [e]; exact ⟨_, res, fun v y => nomatch y⟩) (fun e => by rw [e]; exact (src K k1).obj w.at1) fun e => by rw [e]; exact (src K k2).obj w.at2
  keep i h h' w f := by
    obtain ⟨zp, its, ⟨x, y, res⟩, at1, at2⟩ := w
    exact ⟨f z (by simp) _ zp, f p (by simp) _ its, ⟨x, y, f r (by simp) _ res⟩, (src K k1).still at1 (f t1 (by simp)), (src K k2).still at2 (f t2 (by simp))⟩
  item X hP hw hK hc i ps st σ H E inv fp w g := by
    subst hP hw hK
    exact zp_item k1 k2 S n1 n2 hc inv fp w g
  done X hP hw hK hc i ps st σ H E inv fp w g := by
    subst hP hw hK
    obtain ⟨zp, its, ⟨x0, y0, res⟩, at1, at2⟩ := w
    obtain ⟨xs, ys, q1, q2, le1, le2, last⟩ := g
    obtain ⟨vs, v1, on1, _⟩ := (src X.K k1).look rfl inv q1
    obtain ⟨us, v2, on2, _⟩ := (src X.K k2).look rfl inv q2
    have e1 : vs.toArray.size = xs.length := by rw [List.size_toArray]; exact v1.length.symm
    have e2 : us.toArray.size = ys.length := by rw [List.size_toArray]; exact v2.length.symm
    have d1 := (src X.K k1).draw (pr := X.prog) (wd := X.w) (A := X.A.in1) (inv.ok.hd hc) t1 a n1 vs.toArray
    have d2 := (src X.K k2).draw (pr := X.prog) (wd := X.w) (A := X.A.in1) (inv.ok.hd hc) t2 b n2 us.toArray
    refine wpAny_pyNext_zipD2_end S d1 d2 zp its res ⟨at1, on1⟩ ⟨at2, on2⟩ (by omega) (by omega) (by omega) fun h' tk hk => ⟨rfl, inv.turnedL (ch := [z, p, r, t1, t2]) (fun c o hb q => ?_) fp⟩
    simp only [List.mem_cons, List.not_mem_nil, or_false, not_or] at hb
    obtain ⟨b1, b2, b3, b4, b5⟩ := hb
    exact hk c o b1 b3 b4 b5 q
  self A i st Q E w hq := wpAny_pyIter_zip w.zp hq

/-! ### as a for's or a comprehension's iterator -/
section
variable {X : Cx}
def iEnumK (K : PySem.W.Frag) (ta : TA) : TI := fun σ H Rr => ta σ H fun vs H1 => ∃ k a xs, vs = [.ref a] ∧ SqK k K H1 a xs ∧ Rr (IteK k K a) H1
theorem pi_enumK {e : Expr} {ta : TA} {p pos tpos : Pos} {elts : List Expr} {kk : Nat} (hg : Gl X "enumerate") (hm : X.mg "enumerate" = none) (ha : PA X [e] ta) (hs : starEach [e] X.env = [(false, eval e X.env)]) :
    PI X (.Tuple elts kk tpos) (.Call (.Name "enumerate" p) [e] [] pos) (iEnumK X.K ta) where
  run ps st σ H R inv h := by
    have args := ha.run pos ps st σ H _ inv h
    refine Call_ (ld_blt inv hg hm boot_enumerate (callWith_type1 (thn args fun us s1 ⟨vs, H1, inv1, rel, k, a, xs, ex, q, hR⟩ => ?_) hs rfl))
    subst ex
    cases rel with
    | cons one none_ =>
      cases none_
      cases one
      obtain ⟨ws, r, on, la⟩ := (src X.K k).look rfl inv1 q
      refine enum_call ((src X.K k).begin a ws.toArray) on fun h' en first old => wpAny_pyIter_enum en ?_
      have ne1 : s1.heap.objs.size + 1 ≠ s1.heap.objs.size := Nat.succ_ne_self _
      have ne2 : s1.heap.objs.size + 1 ≠ a := Nat.ne_of_gt (Nat.lt_succ_of_lt la)
      have T := turn_enumK (P := X.prog) (w := X.w) (K := X.K) (elts := elts) (kk := kk) (tp := tpos) k a (s1.heap.objs.size + 1) s1.heap.objs.size (Nat.ne_of_lt la) ne2
      refine ⟨s1.heap.objs.size + 1, [s1.heap.objs.size + 1, s1.heap.objs.size], _, _, H1, rfl, inv1.kept (t' := s1.toks) old, T, ⟨⟨.none, en⟩, (src X.K k).zero first, ne1⟩, fun b hb => ?_, hR⟩
      have le : s1.heap.objs.size ≤ b := en_two hb (fun z => by rw [z]; exact Nat.le_succ _) fun z => by rw [z]; exact Nat.le_refl _
      exact inv1.fpOk le (inv1.hok.fresh le)
def iZipK (K : PySem.W.Frag) (ta : TA) : TI := fun σ H Rr => ta σ H fun vs H1 => ∃ k1 k2 a b xs ys, vs = [.ref a, .ref b] ∧ SqK k1 K H1 a xs ∧ SqK k2 K H1 b ys ∧ Rr (ItzK k1 k2 K a b) H1
/-- five new cells behind n are apart, and apart from what stood -/
theorem zp_apart {n a b : Nat} (ha : a < n) (hb : b < n) : ZipSep2 (n + 4) (n + 2) (n + 3) n (n + 1) [n, a] [n + 1, b] := by
  constructor <;> (try simp only [List.mem_cons, List.not_mem_nil, or_false, not_or]) <;> (try refine ⟨?_, ?_⟩) <;> first | exact Or.inl trivial | (intro h; have h : (_ : Nat) = _ := h; omega)
theorem pi_zipK {e e2 : Expr} {ta : TA} {p pos tpos : Pos} {elts : List Expr} {kk : Nat} (hg : Gl X "zip") (hm : X.mg "zip" = none) (ha : PA X [e, e2] ta)
    (hs : starEach [e, e2] X.env = (false, eval e X.env) :: starEach [e2] X.env) (hpl : (backTo pos (starEach [e2] X.env)).any (·.1) = false) :
    PI X (.Tuple elts kk tpos) (.Call (.Name "zip" p) [e, e2] [] pos) (iZipK X.K ta) where
  run ps st σ H R inv h := by
    have args := ha.run pos ps st σ H _ inv h
    refine Call_ (ld_blt inv hg hm boot_zip (callWith_type1 (thn args fun us s1 ⟨vs, H1, inv1, rel, k1, k2, a, b, xs, ys, ex, q1, q2, hR⟩ => ?_) hs hpl))
    subst ex
    cases rel with
    | cons one rest =>
      cases rest with
      | cons two none_ =>
        cases none_
        cases one
        cases two
        obtain ⟨ws, r1, on1, la⟩ := (src X.K k1).look rfl inv1 q1
        obtain ⟨us, r2, on2, lb⟩ := (src X.K k2).look rfl inv1 q2
        refine zip_begins2 ((src X.K k1).begin a ws.toArray) ((src X.K k2).begin b us.toArray) on1 on2 fun h' zp its res f1 f2 _ old => wpAny_pyIter_zip zp ?_
        have T := turn_zipK (P := X.prog) (w := X.w) (K := X.K) (elts := elts) (kk := kk) (tp := tpos) k1 k2 (zp_apart la lb) (Nat.ne_of_lt la) (Nat.ne_of_lt (Nat.lt_succ_of_lt lb))
        refine ⟨s1.heap.objs.size + 4, _, _, _, H1, rfl, inv1.kept (t' := s1.toks) old, T, ⟨zp, its, ⟨_, _, res⟩, (src X.K k1).zero f1, (src X.K k2).zero f2⟩, fun c hcm => ?_, hR⟩
        have le : s1.heap.objs.size ≤ c := in_five hcm (fun y => by rw [y]; exact Nat.le_add_right _ 4) (fun y => by rw [y]; exact Nat.le_add_right _ 2) (fun y => by rw [y]; exact Nat.le_add_right _ 3)
          (fun y => by rw [y]; exact Nat.le_refl _) fun y => by rw [y]; exact Nat.le_succ _
        exact inv1.fpOk le (inv1.hok.fresh le)
end
end Ev

/-! iterables, targets, comprehensions -/
namespace Ev
open PySem L2 PySem.Spec PyProof.Rows

/-- what a turn of an iterator gives -/
def YR (K : PySem.W.Frag) (w : W) (H : Hp) (v : V) (H' : Hp) (x : D) : Prop :=
  (H' = H ∧ Rep K w v x) ∨ ∃ T vs ds, v = .ref T ∧ H T = none ∧ H' = upd H T (.tup vs) ∧ x = .tup ds ∧ Reps K w vs ds
def Wk (K : PySem.W.Frag) (w : W) (J : It) (xs : List D) : Prop := ∀ w' H, W.Le w w' → (∀ a u, w'.S a = some u → H a = some u) →
  (∀ i x, xs[i]? = some x → J.go i H ∧ ∀ v H', J.yld i H v H' → YR K w' H v H' x) ∧ J.stop xs.length H
def tI (C : Cn) (O : List Nat) (it : I) (O' : List Nat) : TI := fun σ H Rr => ∃ w ρ o, R C.K C.b O w σ ρ H o ∧
  Fin (denI C.F C.G it ρ o) (fun xs o' => ∀ J w' H', W.Le w w' → R C.K C.b O' w' σ ρ H' o' → Wk C.K w' J xs → xs.length ≤ line → Rr J H') C.exn

/-- the same while Pin holds -/
def WkP (K : PySem.W.Frag) (Pin : W → Hp → Prop) (w : W) (J : It) (xs : List D) : Prop := ∀ w' H, W.Le w w' → (∀ a u, w'.S a = some u → H a = some u) → Pin w' H →
  (∀ i x, xs[i]? = some x → J.go i H ∧ ∀ v H', J.yld i H v H' → YR K w' H v H' x) ∧ J.stop xs.length H
def tIp (C : Cn) (O : List Nat) (it : I) (O' : List Nat) : TI := fun σ H Rr => ∃ w ρ o, R C.K C.b O w σ ρ H o ∧
  Fin (denI C.F C.G it ρ o) (fun xs o' => ∀ J Pin w' H', W.Le w w' → R C.K C.b O' w' σ ρ H' o' → (∀ b2 O2 w2 H2 o2, W.Le w' w2 → R C.K b2 O2 w2 σ ρ H2 o2 → Pin w2 H2) → WkP C.K Pin w' J xs → xs.length ≤ line → Rr J H') C.exn
theorem tIp_imp {C : Cn} {O O' : List Nat} {it : I} {σ : L2.St} {H : Hp} {Rr : It → Hp → Prop} (q : tIp C O it O' σ H Rr) : tI C O it O' σ H Rr := by
  obtain ⟨w, ρ, o, r, f⟩ := q
  exact ⟨w, ρ, o, r, f.imp fun xs o' g J w' H' l r' wk z => g J (fun _ _ => True) w' H' l r' (fun _ _ _ _ _ _ _ => trivial) (fun w2 H2 l2 s _ => wk w2 H2 l2 s) z⟩
theorem _root_.L2.PI.or {X : Cx} {tg e : Expr} {t t' : TI} (h : PI X tg e t) (h' : PI X tg e t') : PI X tg e (fun σ H Q => t σ H Q ∨ t' σ H Q) := ⟨fun pins s σ H Q I q => q.elim (fun q => h.run pins s σ H Q I q) fun q => h'.run pins s σ H Q I q⟩
/-- no list, no tuple is longer than the line -/
def Sized (K : PySem.W.Frag) (H : Hp) : Prop := ∀ a xs, SqL K H a xs ∨ SqT K H a xs → xs.length ≤ line
theorem _root_.L2.PI.sized {X : Cx} {tg e : Expr} {t : TI} (h : PI X tg e t) : PI X tg e (fun σ H Q => t σ H fun J H1 => Sized X.K H1 → Q J H1) := by
  refine ⟨fun pins s σ H Q I q => thn (h.run pins s σ H _ I q) fun v s1 h1 => thn h1 fun itv s2 h2 => ?_⟩
  obtain ⟨it, fp, tn, J, H', e, I', T, st, f, r⟩ := h2
  refine ⟨it, fp, tn, J, H', e, I', T, st, f, r fun a xs h => ?_⟩
  rw [line_eq]
  rcases h with h | h
  · obtain ⟨_, _, _, z⟩ := I'.list h; exact z
  · obtain ⟨_, _, _, z⟩ := I'.tuple h; exact z

section
variable {C : Cn} {X : Cx} {O O' O1 O2 O3 : List Nat} {k k1 k2 k3 : Kd} {w : W} {σ : L2.St} {ρ : Env} {H : Hp} {o : Os}
variable {xa xb xc tg : Expr} {a b c : E} {pos : Pos}

theorem R.yr (r : R C.K C.b O w σ ρ H o) {v : V} {H' : Hp} {x : D} (h : YR C.K w H v H' x) : ∃ w', W.Le w w' ∧ R C.K C.b O w' σ ρ H' o ∧ Rep C.K w' v x := by
  rcases h with ⟨rfl, h⟩ | ⟨T, vs, ds, rfl, e, rfl, rfl, h⟩
  · exact ⟨w, .refl w, r, h⟩
  · exact r.newTup e h

/-! ### a value -/
theorem wk_tup {p : Addr} {vs : List V} {ds : List D} (e : SqT C.K w.S p vs) (r : Reps C.K w vs ds) : Wk C.K w (Itt C.K p) ds := by
  intro w' H l hs
  have q : SqT C.K H p vs := sqT_mono hs (sqT_mono l.s e)
  refine ⟨fun i x hx => ?_, ⟨vs, q, by rw [r.length]; exact Nat.le_refl _⟩⟩
  obtain ⟨v, e1, e2⟩ := r.get hx
  refine ⟨⟨vs, v, q, e1⟩, fun u H' y => ?_⟩
  obtain ⟨rfl, y⟩ := y
  have := y vs q
  rw [e1] at this; cases this
  exact .inl ⟨rfl, e2.mono l⟩
theorem wk_lst {p : Addr} {vs : List V} {ds : List D} (e : SqL C.K w.S p vs) (r : Reps C.K w vs ds) : Wk C.K w (Itl C.K p) ds := by
  intro w' H l hs
  have q : SqL C.K H p vs := sqL_mono hs (sqL_mono l.s e)
  refine ⟨fun i x hx => ?_, ⟨vs, q, by rw [r.length]; exact Nat.le_refl _⟩⟩
  obtain ⟨v, e1, e2⟩ := r.get hx
  refine ⟨⟨vs, v, q, e1⟩, fun u H' y => ?_⟩
  obtain ⟨rfl, y⟩ := y
  have := y vs q
  rw [e1] at this; cases this
  exact .inl ⟨rfl, e2.mono l⟩
theorem wk_str {x : Str} : Wk C.K w (Its x) (signs x) := by
  intro w' H l hs
  have hl : (signs x).length = x.cps.size := by unfold signs; rw [List.length_map, Array.length_toList]
  refine ⟨fun i d hx => ?_, by rw [hl]; exact Nat.le_refl _⟩
  unfold signs at hx
  rw [List.getElem?_map] at hx
  simp only [Option.map_eq_some_iff, Array.getElem?_toList] at hx
  obtain ⟨c, hc, rfl⟩ := hx
  have hlt : i < x.cps.size := by
    rcases Nat.lt_or_ge i x.cps.size with q | q
    · exact q
    · rw [Array.getElem?_eq_none q] at hc; cases hc
  refine ⟨hlt, fun v H' y => ?_⟩
  obtain ⟨rfl, c', e1, rfl⟩ := y
  rw [hc] at e1; cases e1
  exact .inl ⟨rfl, .str _⟩
theorem wk_rng {lo hi : Int} : Wk C.K w (Itr lo (hi - lo).toNat) (dRng lo hi) := by
  intro w' H l hs
  have hl : (dRng lo hi).length = (hi - lo).toNat := by unfold dRng; rw [List.length_map, List.length_range]
  refine ⟨fun i d hx => ?_, by rw [hl]; exact Nat.le_refl _⟩
  have hlt : i < (hi - lo).toNat := by
    rcases Nat.lt_or_ge i (hi - lo).toNat with q | q
    · exact q
    · rw [List.getElem?_eq_none (by rw [hl]; exact q)] at hx; cases hx
  unfold dRng at hx
  rw [List.getElem?_map, List.getElem?_range hlt] at hx
  cases hx
  refine ⟨hlt, fun v H' y => ?_⟩
  obtain ⟨rfl, rfl⟩ := y
  exact .inl ⟨rfl, .int _⟩

theorem s_seq (hK : X.K = C.K) (ha : PE X xa (tE C O a O1 k)) : PI X tg xa (tI C O (.seq a) (valO O1 k)) := by
  refine ((pi_tup (vl_of ha)).sized.or ((pi_list (vl_of ha)).sized.or (pi_str (vl_of ha)))).imp fun σ H Q q => ?_
  obtain ⟨w, ρ, o, r, f⟩ := q
  have f1 := fin_bind f
  cases e1 : den C.F C.G a ρ o with
  | bad => rw [e1] at f1; exact f1.elim
  | exn x o1 => rw [e1] at f1; exact .inl ⟨w, ρ, o, r, by rw [e1]; exact f1⟩
  | ok d o1 =>
    rw [e1] at f1
    obtain ⟨xs, e2, g⟩ := fin_of f1
    cases d <;> first | (simp [dSeq] at e2; done) | skip
    · rename_i x
      simp only [dSeq] at e2
      split at e2
      · rename_i hl
        cases e2
        refine .inr (.inr ⟨w, ρ, o, r, ?_⟩)
        rw [e1]
        intro v1 w1 H1 l1 r1 p1
        refine ⟨x, vw_str (p1.vw r1.hr), g _ w1 H1 l1 r1 wk_str ?_⟩
        unfold signs
        rw [List.length_map]; rw [Array.length_toList]
        exact hl
      · cases e2
    · rename_i ds
      simp only [dSeq, Option.some.injEq] at e2
      subst e2
      refine .inl ⟨w, ρ, o, r, ?_⟩
      rw [e1]
      intro v1 w1 H1 l1 r1 p1
      cases p1 with
      | tup h q =>
        have h' := Reps.sqT r1.hr h
        exact ⟨_, rfl, ⟨_, by rw [hK]; exact h'⟩, fun z => by rw [hK] at z ⊢; exact g _ w1 H1 l1 r1 (wk_tup h q) (by rw [← q.length]; exact z _ _ (.inr h'))⟩
    · rename_i ds
      simp only [dSeq, Option.some.injEq] at e2
      subst e2
      refine .inr (.inl ⟨w, ρ, o, r, ?_⟩)
      rw [e1]
      intro v1 w1 H1 l1 r1 p1
      cases p1 with
      | lst h q =>
        have h' : SqL C.K H1 _ _ := Reps.sqL r1.hr (.inl (.inl h))
        exact ⟨_, rfl, ⟨_, by rw [hK]; exact h'⟩, fun z => by rw [hK] at z ⊢; exact g _ w1 H1 l1 r1 (wk_lst (.inl (.inl h)) q) (by rw [← q.length]; exact z _ _ (.inl h'))⟩
    · rename_i ds
      simp only [dSeq, Option.some.injEq] at e2
      subst e2
      refine .inr (.inl ⟨w, ρ, o, r, ?_⟩)
      rw [e1]
      intro v1 w1 H1 l1 r1 p1
      cases p1 with
      | scr h q =>
        have h' := Reps.sqL r1.hr h
        exact ⟨_, rfl, ⟨_, by rw [hK]; exact h'⟩, fun z => by rw [hK] at z ⊢; exact g _ w1 H1 l1 r1 (wk_lst h q) (by rw [← q.length]; exact z _ _ (.inl h'))⟩

/-- the list of a slot, that nothing changes meanwhile -/
theorem s_own {i : Nat} {x : Str} {p : Pos} (hK : X.K = C.K) (hN : X.N[i]? = some x) (hv : Vis X.env.scope x) (hk : okN x = true) : PI X tg (.Name x p) (tIp C O (.own i) O) := by
  unfold okN at hk
  simp only [Bool.and_eq_true, Bool.not_eq_true'] at hk
  refine (pi_list (pe_var (i := i) hN hv hk.1 hk.2)).sized.imp fun σ H Q q => ?_
  obtain ⟨w, ρ, o, r, f⟩ := q
  simp only [denI] at f
  cases hd : look ρ i with
  | none => rw [hd] at f; exact f.elim
  | some d =>
    rw [hd] at f
    cases d <;> first | (exact f.elim) | skip
    rename_i ds
    have f : ∀ J Pin w' H', W.Le w w' → R C.K C.b O w' σ ρ H' o → _ → _ → _ → Q J H' := f
    have at_ : ∀ b2 O2 w2 H2 o2, R C.K b2 O2 w2 σ ρ H2 o2 → ∃ p vs, σ[i]? = some (some (.ref p)) ∧ H2 p = some (.lst vs) ∧ Reps C.K w2 vs ds := fun b2 O2 w2 H2 o2 r2 => by
      obtain ⟨v, e1, ow, re⟩ := r2.loc i _ hd
      by_cases hi : i ∈ O2
      · obtain ⟨a, vs, ds', rfl, e2, e3, e4, _⟩ := ow hi
        cases e2
        exact ⟨a, vs, e1, e3, e4⟩
      · cases re hi with
        | lst e q => exact ⟨_, _, e1, r2.hr.sub _ _ e, q⟩
    obtain ⟨p, vs, e1, e2, e3⟩ := at_ _ _ _ _ _ r
    refine ⟨.ref p, e1, p, rfl, ⟨vs, .inl (.inl e2)⟩, fun z => ?_⟩
    rw [hK] at z ⊢
    refine f (Itl C.K p) (fun w2 H2 => ∃ vs, H2 p = some (.lst vs) ∧ Reps C.K w2 vs ds) w H (.refl w) r (fun b2 O2 w2 H2 o2 _ r2 => ?_) (fun w2 H2 _ _ hp => ?_) (by rw [← e3.length]; exact z _ _ (.inl (.inl (.inl e2))))
    · obtain ⟨p', vs', e4, e5, e6⟩ := at_ _ _ _ _ _ r2
      rw [e1] at e4; cases e4
      exact ⟨vs', e5, e6⟩
    · obtain ⟨vs', e5, e6⟩ := hp
      refine ⟨fun j x hx => ?_, ⟨vs', .inl (.inl e5), by rw [e6.length]; exact Nat.le_refl _⟩⟩
      obtain ⟨v, q1, q2⟩ := e6.get hx
      refine ⟨⟨vs', v, .inl (.inl e5), q1⟩, fun u H' y => ?_⟩
      obtain ⟨rfl, y⟩ := y
      have := y vs' (.inl (.inl e5))
      rw [q1] at this; cases this
      exact .inl ⟨rfl, q2⟩
theorem rngOk_of {lo hi : Int} (h : rngOk lo hi = true) : -(2 ^ 62) ≤ lo ∧ lo < 2 ^ 62 ∧ -(2 ^ 62) ≤ hi ∧ hi < 2 ^ 62 ∧ (hi - lo).toNat ≤ line := by
  unfold rngOk at h
  simp only [decide_eq_true_eq, Bool.and_eq_true] at h
  obtain ⟨⟨⟨⟨h1, h2⟩, h3⟩, h4⟩, h5⟩ := h
  exact ⟨h1, h2, h3, h4, h5⟩
theorem rng_len {lo hi : Int} : (dRng lo hi).length = (hi - lo).toNat := by unfold dRng; rw [List.length_map, List.length_range]
theorem s_rng1 {p1 : Pos} (hg : Gl X "range") (hm : X.mg "range" = none) (hp : plainE xa = true) (ha : PE X xa (tE C O a O1 k)) : PI X tg (.Call (.Name "range" p1) [xa] [] pos) (tI C O (.rng1 a) O1) := by
  refine (pi_range1 hg hm (pa_cons (ar_of ha) pa_nil (star_of hp)) (star_of hp)).imp fun σ H Q q => ?_
  obtain ⟨w, ρ, o, r, f⟩ := q
  refine ⟨w, ρ, o, r, (fin_bind f).imp fun d o1 g v1 w1 H1 l1 r1 p1 => ?_⟩
  cases d <;> first | (exact g.elim) | skip
  rename_i j
  simp only at g
  by_cases hj : rngOk 0 j = true
  · rw [if_pos hj] at g
    obtain ⟨_, _, h3, h4, h5⟩ := rngOk_of hj
    refine ⟨j, by rw [vw_int (p1.vw r1)], h3, h4, g _ w1 H1 l1 r1 ?_ (by rw [rng_len]; exact h5)⟩
    have := wk_rng (C := C) (w := w1) (lo := 0) (hi := j)
    rwa [Int.sub_zero] at this
  · rw [if_neg hj] at g; exact g.elim
theorem s_rng2 {p1 : Pos} (hg : Gl X "range") (hm : X.mg "range" = none) (hp : plainE xa = true) (hp2 : plainE xb = true) (ha : PE X xa (tE C O a O1 k1)) (hb : PE X xb (tE C O1 b O2 k2)) : PI X tg (.Call (.Name "range" p1) [xa, xb] [] pos) (tI C O (.rng2 a b) O2) := by
  refine (pi_range2 hg hm (pa_cons (ar_of ha) (pa_cons (ar_of hb) pa_nil (star_of hp2)) (star_of hp)) (by rw [star_of hp, star_of hp2]; rfl) (star_of hp2)).imp fun σ H Q q => ?_
  obtain ⟨w, ρ, o, r, f⟩ := q
  refine ⟨w, ρ, o, r, (fin_bind f).imp fun d o1 g v1 w1 H1 l1 r1 p1 => ?_⟩
  cases d <;> first | (exact ⟨w1, ρ, o1, r1, (fin_bind g).imp fun d2 o2 g v2 w2 H2 l2 r2 p2 => g.elim⟩) | skip
  rename_i i
  refine ⟨w1, ρ, o1, r1, (fin_bind g).imp fun d2 o2 g v2 w2 H2 l2 r2 p2 => ?_⟩
  cases d2 <;> first | (exact g.elim) | skip
  rename_i j
  simp only at g
  by_cases hj : rngOk i j = true
  · rw [if_pos hj] at g
    obtain ⟨h1, h2, h3, h4, h5⟩ := rngOk_of hj
    exact ⟨i, j, by rw [vw_int ((p1.mono l2).vw r2), vw_int (p2.vw r2)], ⟨h1, h2, h3, h4⟩, g _ w2 H2 (l1.trans l2) r2 wk_rng (by rw [rng_len]; exact h5)⟩
  · rw [if_neg hj] at g; exact g.elim

/-! ### zip, enumerate -/
theorem sqK_of {v : V} {d : D} {ds : List D} (h : Rep C.K w v d) (e : dLs d = some ds) : ∃ kk p vs, v = .ref p ∧ SqK kk C.K w.S p vs ∧ Reps C.K w vs ds := by
  cases h with
  | tup h q => simp only [dLs, Option.some.injEq] at e; subst e; exact ⟨false, _, _, rfl, h, q⟩
  | lst h q => simp only [dLs, Option.some.injEq] at e; subst e; exact ⟨true, _, _, rfl, .inl (.inl h), q⟩
  | _ => simp [dLs] at e
theorem sqK_mono {kk : Bool} {K : PySem.W.Frag} {S S' : Hp} {p : Addr} {xs : List V} (h : ∀ a u, S a = some u → S' a = some u) (r : SqK kk K S p xs) : SqK kk K S' p xs := by
  cases kk
  · exact sqT_mono h r
  · exact sqL_mono h r
theorem sized_K {kk : Bool} {K : PySem.W.Frag} {H : Hp} {p : Addr} {xs : List V} (z : Sized K H) (h : SqK kk K H p xs) : xs.length ≤ line := by
  cases kk
  · exact z _ _ (.inr h)
  · exact z _ _ (.inl h)
theorem enu_get {ds : List D} {x : D} : ∀ {i j : Nat}, (dEnu j ds)[i]? = some x → ∃ d, ds[i]? = some d ∧ x = .tup [.int ((j + i : Nat) : Int), d] := by
  induction ds with
  | nil => intro i j h; simp [dEnu] at h
  | cons d ds ih =>
    intro i j h
    cases i with
    | zero => simp [dEnu] at h; exact ⟨d, rfl, by rw [← h]; rfl⟩
    | succ i =>
      have h : (dEnu (j + 1) ds)[i]? = some x := h
      obtain ⟨e, h1, h2⟩ := ih h
      exact ⟨e, h1, by rw [h2]; congr 4; omega⟩
theorem enu_len {ds : List D} : ∀ {j : Nat}, (dEnu j ds).length = ds.length := by
  induction ds with
  | nil => intro j; rfl
  | cons d ds ih => intro j; exact congrArg (· + 1) ih
theorem zip_get {x : D} : ∀ {ds es : List D} {i : Nat}, (dZip ds es)[i]? = some x → ∃ d e, ds[i]? = some d ∧ es[i]? = some e ∧ x = .tup [d, e]
  | [], es, i, h => by simp [dZip] at h
  | d :: ds, [], i, h => by simp [dZip] at h
  | d :: ds, e :: es, 0, h => by simp [dZip] at h; exact ⟨d, e, rfl, rfl, h.symm⟩
  | d :: ds, e :: es, i + 1, h => zip_get (ds := ds) (es := es) (i := i) h
theorem zip_len : ∀ {ds es : List D}, (dZip ds es).length = min ds.length es.length
  | [], es => by simp [dZip]
  | d :: ds, [] => by simp [dZip]
  | d :: ds, e :: es => by
    show (dZip ds es).length + 1 = _
    rw [zip_len, List.length_cons, List.length_cons]
    omega
theorem wk_enu {kk : Bool} {p : Addr} {vs : List V} {ds : List D} (e : SqK kk C.K w.S p vs) (r : Reps C.K w vs ds) : Wk C.K w (IteK kk C.K p) (dEnu 0 ds) := by
  intro w' H l hs
  have q : SqK kk C.K H p vs := sqK_mono hs (sqK_mono l.s e)
  refine ⟨fun i x hx => ?_, ⟨vs, q, by rw [r.length, enu_len]⟩⟩
  obtain ⟨d, hd, rfl⟩ := enu_get hx
  obtain ⟨v, e1, e2⟩ := r.get hd
  refine ⟨⟨vs, v, q, e1⟩, fun u H' y => ?_⟩
  obtain ⟨T, x, rfl, hT, rfl, y⟩ := y
  have := y vs q
  rw [e1] at this; cases this
  rw [Nat.zero_add]
  exact .inr ⟨T, _, _, rfl, hT, rfl, rfl, .cons (.int _) (.cons (e2.mono l) .nil)⟩
theorem wk_zip {kk kk2 : Bool} {p p2 : Addr} {vs vs2 : List V} {ds ds2 : List D} (e : SqK kk C.K w.S p vs) (r : Reps C.K w vs ds) (e2 : SqK kk2 C.K w.S p2 vs2) (r2 : Reps C.K w vs2 ds2) : Wk C.K w (ItzK kk kk2 C.K p p2) (dZip ds ds2) := by
  intro w' H l hs
  have q : SqK kk C.K H p vs := sqK_mono hs (sqK_mono l.s e)
  have q2 : SqK kk2 C.K H p2 vs2 := sqK_mono hs (sqK_mono l.s e2)
  refine ⟨fun i x hx => ?_, ⟨vs, vs2, q, q2, ?_⟩⟩
  · obtain ⟨d, d2, hd, hd2, rfl⟩ := zip_get hx
    obtain ⟨v, e1, e2⟩ := r.get hd
    obtain ⟨v2, e3, e4⟩ := r2.get hd2
    refine ⟨⟨vs, vs2, v, v2, q, q2, e1, e3⟩, fun u H' y => ?_⟩
    obtain ⟨T, x, z, rfl, hT, rfl, y, y2⟩ := y
    have h1 := y vs q
    have h2 := y2 vs2 q2
    rw [e1] at h1; cases h1
    rw [e3] at h2; cases h2
    exact .inr ⟨T, _, _, rfl, hT, rfl, rfl, .cons (e2.mono l) (.cons (e4.mono l) .nil)⟩
  · rw [zip_len, r.length, r2.length]
    refine ⟨Nat.min_le_left _ _, Nat.min_le_right _ _, ?_⟩
    omega
theorem s_enu {p1 tpos : Pos} {elts : List Expr} {kk : Nat} (hK : X.K = C.K) (hg : Gl X "enumerate") (hm : X.mg "enumerate" = none) (hp : plainE xa = true) (ha : PE X xa (tE C O a O1 k)) :
    PI X (.Tuple elts kk tpos) (.Call (.Name "enumerate" p1) [xa] [] pos) (tI C O (.enu a) (valO O1 k)) := by
  refine (pi_enumK hg hm (pa_cons (vl_of ha) pa_nil (star_of hp)) (star_of hp)).sized.imp fun σ H Q q => ?_
  obtain ⟨w, ρ, o, r, f⟩ := q
  refine ⟨w, ρ, o, r, (fin_bind f).imp fun d o1 g v1 w1 H1 l1 r1 p1 => ?_⟩
  cases e : dLs d with
  | none => rw [e] at g; exact g.elim
  | some ds =>
    rw [e] at g
    obtain ⟨kk, p, vs, rfl, e1, e2⟩ := sqK_of p1 e
    have q1 : SqK kk C.K H1 p vs := sqK_mono r1.hr.sub e1
    exact ⟨kk, p, vs, rfl, by rw [hK]; exact q1, fun z => by rw [hK] at z ⊢; exact g _ w1 H1 l1 r1 (wk_enu e1 e2) (by rw [enu_len, ← e2.length]; exact sized_K z q1)⟩
theorem s_zip {p1 tpos : Pos} {elts : List Expr} {kk : Nat} (hK : X.K = C.K) (hg : Gl X "zip") (hm : X.mg "zip" = none) (hp : plainE xa = true) (hp2 : plainE xb = true) (ha : PE X xa (tE C O a O1 k1)) (hb : PE X xb (tE C (valO O1 k1) b O2 k2)) :
    PI X (.Tuple elts kk tpos) (.Call (.Name "zip" p1) [xa, xb] [] pos) (tI C O (.zip a b) (valO O2 k2)) := by
  refine (pi_zipK hg hm (pa_cons (vl_of ha) (pa_cons (vl_of hb) pa_nil (star_of hp2)) (star_of hp)) (star_of hp) (back_any fun y hy => by rw [List.mem_singleton.mp hy]; exact hp2)).sized.imp fun σ H Q q => ?_
  obtain ⟨w, ρ, o, r, f⟩ := q
  refine ⟨w, ρ, o, r, (fin_bind f).imp fun d o1 g v1 w1 H1 l1 r1 p1 => ?_⟩
  refine ⟨w1, ρ, o1, r1, (fin_bind g).imp fun d2 o2 g v2 w2 H2 l2 r2 p2 => ?_⟩
  cases e : dLs d with
  | none => rw [e] at g; exact g.elim
  | some ds =>
    cases e' : dLs d2 with
    | none => rw [e, e'] at g; exact g.elim
    | some ds2 =>
      rw [e, e'] at g
      obtain ⟨kk, p, vs, rfl, e1, e2⟩ := sqK_of (p1.mono l2) e
      obtain ⟨kk2, p', vs2, rfl, e3, e4⟩ := sqK_of p2 e'
      have q1 : SqK kk C.K H2 p vs := sqK_mono r2.hr.sub e1
      have q2 : SqK kk2 C.K H2 p' vs2 := sqK_mono r2.hr.sub e3
      refine ⟨kk, kk2, p, p', vs, vs2, rfl, by rw [hK]; exact q1, by rw [hK]; exact q2, fun z => ?_⟩
      rw [hK] at z ⊢
      refine g _ w2 H2 (l1.trans l2) r2 (wk_zip e1 e2 e3 e4) ?_
      have := sized_K z q1
      rw [zip_len, ← e2.length]
      omega

/-! ### targets -/
def gsN : List Nat → TGs
  | [] => gNil
  | i :: is => gCons (gName i) (gsN is)
def gT (K : PySem.W.Frag) : Ev.T → TG
  | .one i => gName i
  | .many is => gTup K is.length (gsN is)
theorem mem_rms {O : List Nat} {i : Nat} : ∀ {is : List Nat}, i ∈ rms O is ↔ i ∈ O ∧ i ∉ is
  | [] => by simp [rms]
  | j :: is => by
    unfold rms
    rw [mem_rm, mem_rms]
    simp only [List.mem_cons, not_or]
    exact ⟨fun ⟨⟨a, b⟩, c⟩ => ⟨a, c, b⟩, fun ⟨a, c, b⟩ => ⟨⟨a, b⟩, c⟩⟩
theorem R.same (r : R C.K C.b O w σ ρ H o) (h : ∀ i, i ∈ O' ↔ i ∈ O) : R C.K C.b O' w σ ρ H o :=
  ⟨r.hr, r.po, r.len, fun i d e => let ⟨v, e1, ow, re⟩ := r.loc i d e; ⟨v, e1, fun hi => ow ((h i).mp hi), fun hi => re fun z => hi ((h i).mpr z)⟩, fun i j v hi hj => r.ap i j v ((h i).mp hi) ((h j).mp hj),
    fun p hp => let ⟨z1, z2, z3, z4, z5⟩ := r.tz p hp; ⟨z1, z2, z3, z4, fun i hi => z5 i ((h i).mp hi)⟩⟩
/-- the same but at the slots of is -/
def Off (is : List Nat) {α : Type} (l l' : List α) : Prop := l'.length = l.length ∧ ∀ j, j ∉ is → l'[j]? = l[j]?
theorem Off.refl {is : List Nat} {α : Type} (l : List α) : Off is l l := ⟨rfl, fun _ _ => rfl⟩
theorem Off.set {is : List Nat} {α : Type} {l l' : List α} (h : Off is l l') {i : Nat} {x : α} (hi : i ∈ is) : Off is l (l'.set i x) :=
  ⟨by rw [List.length_set]; exact h.1, fun j hj => by rw [List.getElem?_set_ne (fun z : i = j => hj (by rw [← z]; exact hi))]; exact h.2 j hj⟩
theorem wipe_get : ∀ {vs : List Nat} {σ : L2.St} (j : Nat), (L2.wipe σ vs)[j]? = if j ∈ vs then (if j < σ.length then some none else none) else σ[j]?
  | [], σ, j => by simp [L2.wipe]
  | v :: vs, σ, j => by
    unfold L2.wipe
    by_cases h : v = j
    · subst h
      rw [if_pos List.mem_cons_self, List.getElem?_set_self', wipe_get]
      by_cases hl : v < σ.length
      · rw [if_pos hl]
        by_cases hv : v ∈ vs
        · rw [if_pos hv]; rfl
        · rw [if_neg hv, List.getElem?_eq_getElem hl]; rfl
      · rw [if_neg hl]
        by_cases hv : v ∈ vs
        · rw [if_pos hv]; rfl
        · rw [if_neg hv, List.getElem?_eq_none (by omega)]; rfl
    · rw [List.getElem?_set_ne h, wipe_get]
      simp only [List.mem_cons]
      by_cases hv : j ∈ vs
      · rw [if_pos hv, if_pos (Or.inr hv)]
      · rw [if_neg hv, if_neg (by rintro (z | z); exact h z.symm; exact hv z)]
theorem Off.wiped {vs : List Nat} {σ σ' : L2.St} (h : Off vs (L2.wipe σ vs) σ') : L2.wipe σ' vs = L2.wipe σ vs := by
  apply List.ext_getElem?
  intro j
  rw [wipe_get, wipe_get]
  have hl : σ'.length = σ.length := by rw [h.1, wipe_length]
  by_cases hv : j ∈ vs
  · rw [if_pos hv, if_pos hv, hl]
  · rw [if_neg hv, if_neg hv, h.2 j hv, wipe_get, if_neg hv]
theorem off_wipe {vs : List Nat} {σ : L2.St} : Off vs σ (L2.wipe σ vs) := ⟨by rw [wipe_length], fun j hj => by rw [wipe_get, if_neg hj]⟩
theorem off_wipeE {ρ : Env} : ∀ {vs : List Nat}, Off vs ρ (wipeE ρ vs)
  | [] => .refl ρ
  | v :: vs => by
    unfold wipeE
    have h := off_wipeE (ρ := ρ) (vs := vs)
    exact ⟨by rw [List.length_set]; exact h.1, fun j hj => by
      rw [List.getElem?_set_ne (fun z : v = j => hj (by rw [← z]; exact List.mem_cons_self))]
      exact h.2 j fun z => hj (List.mem_cons_of_mem _ z)⟩
theorem Off.trans {is : List Nat} {α : Type} {a b c : List α} (h : Off is a b) (h' : Off is b c) : Off is a c := ⟨h'.1.trans h.1, fun j hj => (h'.2 j hj).trans (h.2 j hj)⟩
theorem gs_all {Q : L2.St → Hp → Prop} {all : List Nat} : ∀ {is : List Nat} {vs : List V} {ds : List D} {O : List Nat} {σ : L2.St} {ρ : Env}, (∀ i ∈ is, i ∈ all) → R C.K C.b O w σ ρ H o → Reps C.K w vs ds → ds.length = is.length →
    (∀ σ2 O2, (∀ i, i ∈ O2 ↔ i ∈ O ∧ i ∉ is) → R C.K C.b O2 w σ2 (setAll is ds ρ) H o → Off all σ σ2 → Off all ρ (setAll is ds ρ) → Q σ2 H) → gsN is vs σ H Q
  | [], vs, ds, O, σ, ρ, hA, r, q, hl, h => by
    cases q with
    | nil => exact ⟨rfl, h σ O (fun i => by simp) r (.refl _) (.refl _)⟩
    | cons _ _ => cases hl
  | i :: is, vs, ds, O, σ, ρ, hA, r, q, hl, h => by
    cases q with
    | nil => cases hl
    | @cons v vs d ds q1 q =>
      refine ⟨v, vs, rfl, gs_all (is := is) (O := rm O i) (fun j hj => hA j (List.mem_cons_of_mem _ hj)) (r.put q1) q (by simpa using hl) fun σ2 O2 hm r2 o1 o2 => ?_⟩
      refine h σ2 O2 (fun j => ?_) r2 (Off.trans ((Off.refl σ).set (hA i List.mem_cons_self)) o1) (Off.trans ((Off.refl ρ).set (hA i List.mem_cons_self)) o2)
      rw [hm, mem_rm]
      simp only [List.mem_cons, not_or]
      exact ⟨fun ⟨⟨a, b⟩, c⟩ => ⟨a, b, c⟩, fun ⟨a, b, c⟩ => ⟨⟨a, b⟩, c⟩⟩
/-- a value is stored -/
theorem g_bind {Q : L2.St → Hp → Prop} {t : Ev.T} {v : V} {d : D} {ρ2 : Env} (r : R C.K C.b O w σ ρ H o) (q : Rep C.K w v d) (e : bindT t d ρ = some ρ2)
    (h : ∀ σ2, R C.K C.b (rms O t.own) w σ2 ρ2 H o → Off t.own σ σ2 → Off t.own ρ ρ2 → Q σ2 H) : gT C.K t v σ H Q := by
  cases t with
  | one i =>
    simp only [bindT, Option.some.injEq] at e
    subst e
    exact h _ (r.put q) ((Off.refl σ).set (by simp [Ev.T.own])) ((Off.refl ρ).set (by simp [Ev.T.own]))
  | many is =>
    cases d <;> first | (simp [bindT] at e; done) | skip
    rename_i ds
    simp only [bindT] at e
    split at e
    · rename_i hl
      cases e
      cases q with
      | tup hq q =>
        refine ⟨_, _, rfl, Reps.sqT r.hr hq, by rw [q.length, hl], gs_all (all := is) (fun i hi => hi) r q hl fun σ2 O2 hm r2 o1 o2 => ?_⟩
        exact h σ2 (r2.same fun i => by rw [mem_rms, hm]; rfl) o1 o2
    · cases e
theorem s_tgts {N : List Str} {st : Str → Bool} (hN : X.N.Nodup) (hNN : X.N = N) (hst : ∀ x, st x = true → Loc X.env.scope x ∧ (X.fn x = true ∨ X.env.scope.names.lookup x = some .local)) : ∀ {is : List Nat} {es : List Expr}, chkNs N st is es = true →
    PGs X es (gsN is) ∧ (assignEach es X.env).length = is.length ∧ (assignEach es X.env).findIdx? (·.1) = none
  | [], [], _ => ⟨pgs_nil, rfl, rfl⟩
  | i :: is, e :: es, h => by
    unfold chkNs at h
    rw [Bool.and_eq_true] at h
    obtain ⟨h1, h2⟩ := s_tgts hN hNN hst (is := is) (es := es) (by exact (show _ ∧ _ from h).2)
    cases e <;> first | (simp [chkN] at h; done) | skip
    rename_i x p
    obtain ⟨h, h'⟩ := h
    unfold chkN at h
    rw [Bool.and_eq_true, decide_eq_true_iff] at h
    obtain ⟨l1, l2⟩ := hst x h.2
    obtain ⟨h2, h3⟩ := h2
    refine ⟨pgs_cons (pg_name hN (by rw [hNN]; exact h.1) l1 l2) h1, ?_, ?_⟩
    · show (assignEach es X.env).length + 1 = _
      rw [h2]; rfl
    · show List.findIdx? (·.1) ((false, assign (.Name x p) X.env) :: assignEach es X.env) = none
      rw [List.findIdx?_cons, h3]
      rfl
  | [], _ :: _, h => by simp [chkNs] at h
  | _ :: _, [], h => by simp [chkNs] at h
theorem s_tgt {N : List Str} {st : Str → Bool} {t : Ev.T} (hN : X.N.Nodup) (hNN : X.N = N) (hc : X.calm = true) (hst : ∀ x, st x = true → Loc X.env.scope x ∧ (X.fn x = true ∨ X.env.scope.names.lookup x = some .local)) (h : chkT N st t tg = true) : PG X tg (gT X.K t) := by
  cases t with
  | one i =>
    cases tg <;> first | (simp [chkT, chkN] at h; done) | skip
    unfold chkT chkN at h
    rw [Bool.and_eq_true, decide_eq_true_iff] at h
    obtain ⟨l1, l2⟩ := hst _ h.2
    exact pg_name hN (by rw [hNN]; exact h.1) l1 l2
  | many is =>
    cases tg <;> first | (simp [chkT] at h; done) | skip
    unfold chkT at h
    obtain ⟨h1, h2, h3⟩ := s_tgts hN hNN hst h
    exact pg_tup hc h1 h2 h3
end
end Ev

/-! comprehensions -/
namespace Ev
open PySem L2 PySem.Spec PyProof.Rows
section
variable {K : PySem.W.Frag} {b : Base} {O O' O1 O2 O3 : List Nat} {w w' : W} {σ σ2 : L2.St} {ρ ρ2 : Env} {H H0 : Hp} {o o0 : Os}
/-- behind a block: the slots outside the block's own -/
theorem R.outer {vs : List Nat} {b0 : Base} (r0 : R K b0 O w σ ρ H0 o0) (r : R K b O w' σ2 ρ2 H o) (l : W.Le w w') (hO : ∀ i, i ∈ O → i ∉ vs) (hs : Off vs σ σ2) (hr : Off vs ρ ρ2) : R K b O w' σ ρ H o := by
  have lk : ∀ i, i ∉ vs → look ρ2 i = look ρ i := fun i hi => by unfold look; rw [hr.2 i hi]
  refine ⟨r.hr, r.po, r0.len, fun i d e => ?_, fun i j v hi hj hne h1 h2 e1 e2 => ?_, fun p hp => ?_⟩
  · by_cases hv : i ∈ vs
    · obtain ⟨v, e1, ow, re⟩ := r0.loc i d e
      exact ⟨v, e1, fun hi => absurd hv (hO i hi), fun hi => (re hi).mono l⟩
    · obtain ⟨v, e1, ow, re⟩ := r.loc i d (by rw [lk i hv]; exact e)
      exact ⟨v, by rw [← hs.2 i hv]; exact e1, ow, re⟩
  · exact r.ap i j v hi hj hne (by rw [lk i (hO i hi)]; exact h1) (by rw [lk j (hO j hj)]; exact h2) (by rw [hs.2 i (hO i hi)]; exact e1) (by rw [hs.2 j (hO j hj)]; exact e2)
  · obtain ⟨z1, z2, z3, z4, z5⟩ := r.tz p hp
    exact ⟨z1, z2, z3, z4, fun i hi hsm => by rw [← hs.2 i (hO i hi)]; exact z5 i hi (by rw [lk i (hO i hi)]; exact hsm)⟩
def Base.push (b : Base) (z : Addr × HO) : Base := { b with Z := z :: b.Z }
/-- a list that is being made is changed -/
theorem R.zset {p : Addr} {u u' : HO} (r : R K (b.push (p, u)) O w σ ρ H o) (hZ : ∀ q ∈ b.Z, q.1 ≠ p) : R K (b.push (p, u')) O w σ ρ (upd H p u') o := by
  obtain ⟨z1, z2, z3, z4, z5⟩ := r.tz (p, u) List.mem_cons_self
  have ne' : ∀ c v, c ≠ p → H c = some v → upd H p u' c = some v := fun c v h q => by rw [upd_ne h]; exact q
  refine ⟨⟨fun c v q => ne' c v (fun z => by rw [z] at q; rw [show w.S p = none from z2] at q; cases q) (r.hr.sub c v q), r.hr.len, r.hr.nd, fun n c d e1 e2 => ?_⟩,
    ⟨r.po.le, fun c v q k => ne' c v (fun z => by rw [z] at q; rw [show (b.push (p, u')).H p = none from z4] at q; cases q) (r.po.keep c v q k), r.po.frS, r.po.frI⟩, r.len, fun j d q => ?_, r.ap, fun q hq => ?_⟩
  · obtain ⟨s, ob⟩ := r.hr.ob n c d e1 e2
    exact ⟨s, ObR.mono' ob (.refl w) fun v => ne' c v fun z => z3 (by rw [← z]; exact List.mem_of_getElem? e1)⟩
  · obtain ⟨v, e1, ow, re⟩ := r.loc j d q
    refine ⟨v, e1, fun hj => ?_, re⟩
    obtain ⟨c, vs1, ds1, p1, p2, p3, p4, p5, p6, p7⟩ := ow hj
    refine ⟨c, vs1, ds1, p1, p2, ne' c _ (fun z => z5 j hj (by rw [q]; rfl) (by rw [e1, p1, z])) p3, p4, p5, p6, p7⟩
  · rcases List.mem_cons.mp hq with z | z
    · subst z
      exact ⟨upd_same, z2, z3, z4, z5⟩
    · obtain ⟨y1, y⟩ := r.tz q (List.mem_cons_of_mem _ z)
      exact ⟨ne' _ _ (hZ q z) y1, y⟩
theorem R.zin {p : Addr} {vs : List V} (r : R K b O w σ ρ H o) (e : H p = none) : R K (b.push (p, .lst vs)) O w σ ρ (upd H p (.lst vs)) o := by
  have r1 := r.junk (.lst vs) e
  have hS : w.S p = none := by
    cases z : w.S p with
    | none => rfl
    | some u => rw [r.hr.sub p u z] at e; cases e
  have hI : p ∉ w.ι := fun z => by
    obtain ⟨_, u, z⟩ := r.hr.has z
    rw [e] at z; cases z
  refine ⟨r1.hr, ⟨r1.po.le, r1.po.keep, r1.po.frS, r1.po.frI⟩, r1.len, fun i d e => ?_, r1.ap, fun q hq => ?_⟩
  · obtain ⟨v, e1, ow, re⟩ := r1.loc i d e
    exact ⟨v, e1, ow, re⟩
  · rcases List.mem_cons.mp hq with z | z
    · subst z
      refine ⟨upd_same, hS, hI, r.po.new r.hr e, fun i hi hs q => ?_⟩
      obtain ⟨d', hd⟩ := Option.isSome_iff_exists.mp hs
      obtain ⟨v', e1, ow, _⟩ := r.loc i d' hd
      obtain ⟨a', _, _, p1, _, p3, _⟩ := ow hi
      rw [q] at e1; cases e1; cases p1
      rw [e] at p3; cases p3
    · exact r1.tz q z
theorem R.zout {p : Addr} {u : HO} (r : R K (b.push (p, u)) O w σ ρ H o) : R K b O w σ ρ H o := by
  refine ⟨r.hr, ⟨r.po.le, r.po.keep, r.po.frS, r.po.frI⟩, r.len, fun i d e => ?_, r.ap, fun q hq => r.tz q (List.mem_cons_of_mem _ hq)⟩
  obtain ⟨v, e1, ow, re⟩ := r.loc i d e
  exact ⟨v, e1, ow, re⟩
end

section
variable {C : Cn} {X : Cx} {O O' O1 O2 O3 O4 O5 O6 : List Nat} {k k1 k2 k3 : Kd} {w : W} {σ : L2.St} {ρ : Env} {H : Hp} {o : Os}
variable {xe xi xt : Expr} {e : Ev.E} {t : Ev.T} {it : Ev.I} {c : Ev.EO} {pos : Pos}

/-- within a comprehension -/
def Cn.inn (C : Cn) (z : Addr × HO) : Cn := { C with b := C.b.push z, E := fun _ _ _ => False }
theorem _root_.L2.PTs.ex {X : Cx} {e : List Expr} {ι : Type} {t : ι → TT} (h : ∀ i, PTs X e (t i)) : PTs X e (fun σ H Q => ∃ i, t i σ H Q) := ⟨fun pins s σ H Q I ⟨i, q⟩ => (h i).run pins s σ H Q I q⟩
theorem _root_.L2.PTs.imp {X : Cx} {e : List Expr} {t t' : TT} (h : PTs X e t) (f : ∀ σ H Q, t' σ H Q → t σ H Q) : PTs X e t' := ⟨fun pins s σ H Q I q => h.run pins s σ H Q I (f σ H Q q)⟩
def compF (C : Cn) (e : E) (t : Ev.T) (c : EO) (ρ : Env) : D → Os → Res (Option D) := fun x o => (Res.of (bindT t x (wipeE ρ t.own)) o).bind fun ρ o =>
      (denC C.F C.G c ρ o).calm.bind fun k o => if k = true then (den C.F C.G e ρ o).calm.bind fun d o => .ok (some d) o else .ok none o
theorem lc_imp {Q : VK} (q : tE C O (.comp e t it c) O4 .own σ H Q) (hsub : ∀ i, i ∈ O4 → i ∈ O1 ∧ i ∉ t.own) (h5 : ∀ i, i ∈ O4 → i ∈ O5) :
    tLc (tIp C O it O1) (gT C.K t) (fun σ H Q => ∃ z, tTr (C.inn z) O4 (denC C.F C.G c) O5 σ H Q) (fun σ H Q => ∃ z, tVl (C.inn z) O5 e O4 σ H Q) t.own σ H Q := by
  obtain ⟨w, ρ, o, r, f⟩ := q
  refine ⟨w, ρ, o, r, (fin_bind f).imp fun xs o1 g J Pin w1 H1 l1 r1 pin wk hlen D hD => ?_⟩
  obtain ⟨w1', l1', r1'⟩ := r1.leak (O' := O4) fun i hi => (hsub i hi).1
  have hZ : ∀ q ∈ C.b.Z, q.1 ≠ D := fun q hq z => by
    obtain ⟨z1, _⟩ := r1.tz q hq
    rw [z, hD] at z1; cases z1
  let Wi : Nat → Nat → Hp → Prop := fun i m H2 => m = xs.length - i ∧ i ≤ xs.length ∧ ∃ w2 o2 accV acc, W.Le w1' w2 ∧ R C.K (C.b.push (D, .lst accV)) O4 w2 σ ρ H2 o2 ∧ Reps C.K w2 accV acc ∧ acc.length ≤ i ∧
    Fin (compLoop (compF C e t c ρ) (xs.drop i) o2) (fun ds o' => ∀ v w' H', W.Le w w' → R C.K C.b O4 w' σ ρ H' o' → KV C .own O4 w' σ ρ H' v (.lst (acc ++ ds)) → Q v H') C.exn
  refine ⟨Wi, ⟨xs.length, by simp, Nat.zero_le _, w1', o1, [], [], .refl _, r1'.zin hD, .nil, Nat.zero_le _, ?_⟩, ?_⟩
  · exact (fin_bind g).imp fun ds o' g v w' H' l r kv => g v w' H' l r kv
  · rintro i m H2 ⟨rfl, hi, w2, o2, accV, acc, l2, r2, q2, ha, f2⟩
    obtain ⟨wk1, wk2⟩ := wk w2 H2 (l1'.trans l2) r2.hr.sub (pin _ _ _ _ _ (l1'.trans l2) r2)
    by_cases hlt : i < xs.length
    · refine .inr ⟨(wk1 i xs[i] (List.getElem?_eq_getElem hlt)).1, fun H' => Wi (i + 1) (xs.length - (i + 1)) H', fun H' nx => ⟨_, by omega, nx⟩, fun x H3 y => ?_⟩
      have yr := (wk1 i xs[i] (List.getElem?_eq_getElem hlt)).2 x H3 y
      obtain ⟨w3, l3, r3, p3⟩ := R.yr (C := C.inn (D, .lst accV)) r2 yr
      rw [List.drop_eq_getElem_cons hlt] at f2
      have f3 := fin_bind f2
      unfold compF at f3
      obtain ⟨ρ2, e2, f4⟩ := fin_of (fin_bind f3)
      refine g_bind (C := C.inn (D, .lst accV)) (r3.wipe t.own) p3 e2 fun σ2 r4 o1' o2' => ⟨o1'.wiped, (D, .lst accV), w3, ρ2, o2, ?_, ?_⟩
      · exact r4.same fun j => by rw [mem_rms]; exact ⟨fun h => ⟨h, (hsub j h).2⟩, fun h => h.1⟩
      · have fin : ∀ {w5 H5 o5 accV5 acc5}, W.Le w3 w5 → R C.K (C.b.push (D, .lst accV5)) O4 w5 σ2 ρ2 H5 o5 → Reps C.K w5 accV5 acc5 → acc5.length ≤ i + 1 →
            Fin (compLoop (compF C e t c ρ) (xs.drop (i + 1)) o5) (fun ds o' => ∀ v w' H', W.Le w w' → R C.K C.b O4 w' σ ρ H' o' → KV C .own O4 w' σ ρ H' v (.lst (acc5 ++ ds)) → Q v H') C.exn → Wi (i + 1) (xs.length - (i + 1)) H5 := fun {w5 H5 o5 accV5 acc5} l5 r5 q5 ha5 f5 => by
          refine ⟨rfl, hlt, w5, o5, accV5, acc5, l2.trans (l3.trans l5), ?_, q5, ha5, f5⟩
          have r3' : R C.K (C.b.push (D, .lst accV)) O4 w3 σ ρ H3 o2 := r3
          exact R.outer r3' r5 l5 (fun j hj => (hsub j hj).2) (off_wipe.trans o1') (off_wipeE.trans o2')
        refine (fin_calm (fin_bind f4)).imp fun k o5 f5 w5 H5 l5 r5 => ?_
        cases k with
        | false =>
          rw [if_neg (by decide)] at f5 ⊢
          obtain ⟨w6, l6, r6⟩ := r5.leak h5
          exact fin (l5.trans l6) r6 (q2.mono (l3.trans (l5.trans l6))) (by omega) ((fin_bind f5).imp fun ds o' g => g)
        | true =>
          rw [if_pos rfl] at f5 ⊢
          refine ⟨(D, .lst accV), w5, ρ2, o5, r5, (fin_calm (fin_bind f5)).imp fun d o6 f6 v w6 H6 l6 r6 p6 => ?_⟩
          obtain ⟨z1, _⟩ := r6.tz (D, .lst accV) List.mem_cons_self
          have hl := (q2.length)
          refine ⟨accV, z1, by rw [hl, ← line_eq]; omega, ?_⟩
          have r7 : R C.K (C.b.push (D, .lst (accV ++ [v]))) O4 w6 σ2 ρ2 (upd H6 D (.lst (accV ++ [v]))) o6 := R.zset r6 hZ
          refine fin (acc5 := acc ++ [d]) (l5.trans l6) r7 ((q2.mono (l3.trans (l5.trans l6))).append (.cons p6 .nil)) (by rw [List.length_append]; simp; omega) ?_
          exact (fin_bind f6).imp fun ds o' g v' w' H' l' r' kv => g v' w' H' l' r' (by rw [show acc ++ d :: ds = acc ++ [d] ++ ds by simp]; exact kv)
    · have last : i = xs.length := by omega
      subst last
      refine .inl ⟨wk2, ?_⟩
      rw [List.drop_length] at f2
      have f2 : ∀ v w' H', W.Le w w' → R C.K C.b O4 w' σ ρ H' o2 → KV C .own O4 w' σ ρ H' v (.lst (acc ++ [])) → Q v H' := f2
      obtain ⟨z1, z2, z3, z4, z5⟩ := r2.tz (D, .lst accV) List.mem_cons_self
      refine f2 (.ref D) w2 H2 (l1.trans (l1'.trans l2)) r2.zout ⟨⟨D, accV, acc, rfl, by rw [List.append_nil], z1, q2, z2, z3, z4⟩, z5, fun q hq z => hZ q hq (V.ref.inj z).symm⟩
theorem s_comp {own : List (Str × Nat)} {xc : List Expr} {scope : Scope} (hK : X.K = C.K) (hc : X.calm = true) (hN : X.N.Nodup) (hi : PI X xt xi (tIp C O it O1)) (ok : BlkOk X.N X.env.scope scope own) (ho : own.map (·.2) = t.own)
    (hsub : ∀ i, i ∈ O4 → i ∈ O1 ∧ i ∉ t.own) (h5 : ∀ i, i ∈ O4 → i ∈ O5)
    (hg : ∀ (s : Shared) (H : Hp) (A : Addr) (cl : List (Str × Addr)) (fp : List Addr), PG (X.blk s H scope (compEnvC scope cl A X.env) fp) xt (gT C.K t))
    (ht : ∀ (z : Addr × HO) (s : Shared) (H : Hp) (A : Addr) (cl : List (Str × Addr)) (fp : List Addr), PTs (X.blk s H scope (compEnvC scope cl A X.env) fp) xc (tTr (C.inn z) O4 (denC C.F C.G c) O5))
    (he : ∀ (z : Addr × HO) (s : Shared) (H : Hp) (A : Addr) (cl : List (Str × Addr)) (fp : List Addr), PE (X.blk s H scope (compEnvC scope cl A X.env) fp) xe (tVl (C.inn z) O5 e O4)) (hs : ∀ x, foldedSetIterable xi X.env x = pure x) :
    PE X (.ListComp xe [⟨xt, xi, xc, 0⟩] scope pos) (tE C O (.comp e t it c) O4 .own) :=
  (pe_lc hc hN hi ok hg (fun s H A cl fp => .ex fun z => ht z s H A cl fp) (fun s H A cl fp => .ex fun z => he z s H A cl fp) hs).imp fun σ H Q q => by rw [ho]; exact lc_imp q hsub h5
end
end Ev

/-! what reaches the small heap: lists handed to it, dict displays, pop(0); join -/
namespace Ev
open PySem L2 PySem.Spec PyProof.Rows
section
variable {K : PySem.W.Frag} {b : Base} {O O' O1 O2 O3 : List Nat} {w w' : W} {σ σ2 : L2.St} {ρ ρ2 : Env} {H H0 : Hp} {o o0 : Os}
def rub (H : Hp) (p : Addr) : Hp := fun a => if a = p then none else H a
theorem rub_upd {H : Hp} {p : Addr} {u : HO} : upd (rub H p) p u = upd H p u := by
  funext a
  by_cases h : a = p
  · subst h; rw [upd_same, upd_same]
  · rw [upd_ne h, upd_ne h]; unfold rub; rw [if_neg h]
theorem upd_self {H : Hp} {p : Addr} {u : HO} (h : H p = some u) : upd H p u = H := by
  funext a
  by_cases h' : a = p
  · subst h'; rw [upd_same, h]
  · rw [upd_ne h']
/-- a list that is being made, left out -/
theorem R.forget {p : Addr} {u : HO} (r : R K (b.push (p, u)) O w σ ρ H o) (hZ : ∀ q ∈ b.Z, q.1 ≠ p) : R K b O w σ ρ (rub H p) o ∧ rub H p p = none := by
  obtain ⟨z1, z2, z3, z4, z5⟩ := r.tz (p, u) List.mem_cons_self
  have ne' : ∀ c v, c ≠ p → H c = some v → rub H p c = some v := fun c v h q => by unfold rub; rw [if_neg h]; exact q
  refine ⟨⟨⟨fun c v q => ne' c v (fun z => by rw [z] at q; rw [show w.S p = none from z2] at q; cases q) (r.hr.sub c v q), r.hr.len, r.hr.nd, fun n c d e1 e2 => ?_⟩,
    ⟨r.po.le, fun c v q k => ne' c v (fun z => by rw [z] at q; rw [show b.H p = none from z4] at q; cases q) (r.po.keep c v q k), r.po.frS, r.po.frI⟩, r.len, fun j d q => ?_, r.ap, fun q hq => ?_⟩, by unfold rub; rw [if_pos rfl]⟩
  · obtain ⟨s, ob⟩ := r.hr.ob n c d e1 e2
    exact ⟨s, ObR.mono' ob (.refl w) fun v => ne' c v fun z => z3 (by rw [← z]; exact List.mem_of_getElem? e1)⟩
  · obtain ⟨v, e1, ow, re⟩ := r.loc j d q
    refine ⟨v, e1, fun hj => ?_, re⟩
    obtain ⟨c, vs1, ds1, p1, p2, p3, p4, p5, p6, p7⟩ := ow hj
    refine ⟨c, vs1, ds1, p1, p2, ne' c _ (fun z => z5 j hj (by rw [q]; rfl) (by rw [e1, p1, z])) p3, p4, p5, p6, p7⟩
  · obtain ⟨y1, y⟩ := r.tz q (List.mem_cons_of_mem _ hq)
    exact ⟨ne' _ _ (hZ q hq) y1, y⟩
theorem R.zin' {p : Addr} {u : HO} (r : R K b O w σ ρ H o) (e : H p = none) : R K (b.push (p, u)) O w σ ρ (upd H p u) o := by
  have r1 := r.junk u e
  have hS : w.S p = none := by
    cases z : w.S p with
    | none => rfl
    | some u => rw [r.hr.sub p u z] at e; cases e
  have hI : p ∉ w.ι := fun z => by
    obtain ⟨_, u, z⟩ := r.hr.has z
    rw [e] at z; cases z
  refine ⟨r1.hr, ⟨r1.po.le, r1.po.keep, r1.po.frS, r1.po.frI⟩, r1.len, fun i d e => ?_, r1.ap, fun q hq => ?_⟩
  · obtain ⟨v, e1, ow, re⟩ := r1.loc i d e
    exact ⟨v, e1, ow, re⟩
  · rcases List.mem_cons.mp hq with z | z
    · subst z
      refine ⟨upd_same, hS, hI, r.po.new r.hr e, fun i hi hs q => ?_⟩
      obtain ⟨d', hd⟩ := Option.isSome_iff_exists.mp hs
      obtain ⟨v', e1, ow, _⟩ := r.loc i d' hd
      obtain ⟨a', _, _, p1, _, p3, _⟩ := ow hi
      rw [q] at e1; cases e1; cases p1
      rw [e] at p3; cases p3
    · exact r1.tz q z
end
section
variable {C : Cn} {X : Cx} {O O' O1 O2 O3 O4 : List Nat} {k k1 k2 k3 : Kd} {w : W} {σ : L2.St} {ρ : Env} {H : Hp} {o : Os}
variable {xa xb xc xd : Expr} {a b c d : Ev.E} {pos : Pos}
theorem R.ofOwn {v : V} {dd : D} (r : R C.K C.b O w σ ρ H o) (h : OwnV C O w σ ρ H v dd) : ∃ p vs ds, v = .ref p ∧ dd = .lst ds ∧ H p = some (.lst vs) ∧ Reps C.K w vs ds ∧ R C.K (C.b.push (p, .lst vs)) O w σ ρ H o ∧ ∀ q ∈ C.b.Z, q.1 ≠ p := by
  obtain ⟨⟨p, vs, ds, q1, q2, q3, q4, q5, q6, q7⟩, ap, az⟩ := h
  refine ⟨p, vs, ds, q1, q2, q3, q4, ⟨r.hr, ⟨r.po.le, r.po.keep, r.po.frS, r.po.frI⟩, r.len, fun i d e => ?_, r.ap, fun q hq => ?_⟩, fun q hq z => az q hq (by rw [q1, z])⟩
  · obtain ⟨v, e1, ow, re⟩ := r.loc i d e
    exact ⟨v, e1, ow, re⟩
  · rcases List.mem_cons.mp hq with z | z
    · subst z
      exact ⟨q3, q5, q6, q7, fun i hi hs => by rw [← q1]; exact ap i hi hs⟩
    · exact r.tz q z
/-- a list handed to the small heap -/
theorem s_hp (ha : PE X xa (tE C O a O1 .own)) : PE X xa (tE C O (.hp a) O1 .val) := by
  refine ha.imp fun σ H Q q => ?_
  obtain ⟨w, ρ, o, r, f⟩ := q
  refine ⟨w, ρ, o, r, (fin_bind f).imp fun dd o1 g v w1 H1 l1 r1 p1 => ?_⟩
  obtain ⟨p, vs, ds, rfl, rfl, e, q, r2, hZ⟩ := r1.ofOwn p1
  obtain ⟨r3, hp⟩ := r2.forget hZ
  obtain ⟨w4, l4, r4, p4⟩ := r3.newOb (u := .lst vs) (c := .lst ds) hp fun w' l => ⟨vs, upd_same, q.mono l⟩
  rw [rub_upd, upd_self e] at r4
  exact g _ w4 H1 (l1.trans l4) r4 p4

/-! ### a dict display -/
def Cn.pz (C : Cn) (z : Addr × HO) : Cn := { C with b := C.b.push z }
theorem exn_pz {z : Addr × HO} {x : D} {o : Os} (h : C.exn x o) : (C.pz z).exn x o := fun cls od w' H' po hr xr => h cls od w' H' ⟨po.le, po.keep, po.frS, po.frI⟩ hr xr
theorem Fin.exn {α : Type} {r : Res α} {P : α → Os → Prop} {Q Q' : D → Os → Prop} (h : Fin r P Q) (f : ∀ x o, Q x o → Q' x o) : Fin r P Q' := by
  cases r with
  | ok a o => exact h
  | exn x o => exact f x o h
  | bad => exact h
theorem merge4 {k1 k2 k3 k4 : Str} (h : [k1, k2, k3, k4].Nodup) (v1 v2 v3 v4 : V) : mergeK [] [(.inr k1, v1), (.inr k2, v2), (.inr k3, v3), (.inr k4, v4)] = [((.inr k1 : Key), v1), (.inr k2, v2), (.inr k3, v3), (.inr k4, v4)] := by
  simp only [List.nodup_cons, List.mem_cons, List.not_mem_nil, or_false, not_or] at h
  obtain ⟨⟨h1, h2, h3⟩, ⟨h4, h5⟩, h6, _⟩ := h
  simp [mergeK, L2.putK, h1, h2, h3, h4, h5, h6]
theorem s_dic {y1 y2 y3 y4 : Str} {n1 n2 n3 n4 : Nat} {p1 p2 p3 p4 : Pos} (h : [y1, y2, y3, y4].Nodup) (ha : ∀ z, PE X xa (tVl (C.pz z) O a O1)) (hb : ∀ z, PE X xb (tVl (C.pz z) O1 b O2)) (hc : ∀ z, PE X xc (tVl (C.pz z) O2 c O3)) (hd : ∀ z, PE X xd (tVl (C.pz z) O3 d O4)) :
    PE X (.Dict [some (.Constant (.str y1) n1 p1), some (.Constant (.str y2) n2 p2), some (.Constant (.str y3) n3 p3), some (.Constant (.str y4) n4 p4)] [xa, xb, xc, xd] pos) (tE C O (.dic y1 y2 y3 y4 a b c d) O4 .val) := by
  refine (pe_disp (pps_cons pe_str (.ex ha) (pps_cons pe_str (.ex hb) (pps_cons pe_str (.ex hc) (pps_cons pe_str (.ex hd) pps_nil)))) rfl rfl (by simp) (by simp)).imp fun σ H Q q p hp => ?_
  obtain ⟨w, ρ, o, r, f⟩ := q
  have hZ : ∀ q ∈ C.b.Z, q.1 ≠ p := fun q hq z => by
    obtain ⟨z1, _⟩ := r.tz q hq
    rw [z, hp] at z1; cases z1
  refine ⟨(p, .dK []), w, ρ, o, r.zin' hp, ((fin_bind f).exn fun x o => exn_pz).imp fun d1 o1 g1 v1 w1 H1 l1 r1 q1 => ?_⟩
  refine ⟨(p, .dK []), w1, ρ, o1, r1, ((fin_bind g1).exn fun x o => exn_pz).imp fun d2 o2 g2 v2 w2 H2 l2 r2 q2 => ?_⟩
  refine ⟨(p, .dK []), w2, ρ, o2, r2, ((fin_bind g2).exn fun x o => exn_pz).imp fun d3 o3 g3 v3 w3 H3 l3 r3 q3 => ?_⟩
  refine ⟨(p, .dK []), w3, ρ, o3, r3, ((fin_bind g3).exn fun x o => exn_pz).imp fun d4 o4 g4 v4 w4 H4 l4 r4 q4 => ?_⟩
  have r4 : R C.K (C.b.push (p, .dK [])) O4 w4 σ ρ H4 o4 := r4
  obtain ⟨z1, _⟩ := r4.tz (p, .dK []) List.mem_cons_self
  refine ⟨z1, [(.inr y1, v1), (.inr y2, v2), (.inr y3, v3), (.inr y4, v4)], rfl, by simp, ?_⟩
  rw [merge4 h]
  obtain ⟨r5, hp5⟩ := r4.forget hZ
  obtain ⟨w6, l6, r6, p6⟩ := r5.newOb (u := .dK [((.inr y1 : Key), v1), (.inr y2, v2), (.inr y3, v3), (.inr y4, v4)]) (c := .dic [(.inr y1, d1), (.inr y2, d2), (.inr y3, d3), (.inr y4, d4)]) hp5 fun w' l => ⟨_, upd_same,
    .cons ⟨rfl, q1.mono (l2.trans (l3.trans (l4.trans l)))⟩ (.cons ⟨rfl, q2.mono (l3.trans (l4.trans l))⟩ (.cons ⟨rfl, q3.mono (l4.trans l)⟩ (.cons ⟨rfl, q4.mono l⟩ .nil)))⟩
  rw [rub_upd] at r6
  exact g4 _ w6 _ (l1.trans (l2.trans (l3.trans (l4.trans l6)))) r6 p6

/-! ### methods -/
theorem base_of {nm : Str} {e : Expr} {env : PySem.Env} {whole : Sem Value} (h : recvB e = true) : attributeBase e nm env whole = whole := by
  cases e <;> first | rfl | (simp [recvB] at h)
theorem strs_of {vs : List V} {ds : List D} {xs : List Str} (r : Reps C.K w vs ds) (e : strsOf ds = some xs) : vs = xs.map V.str := by
  induction ds generalizing vs xs with
  | nil => cases r; simp only [strsOf, Option.some.injEq] at e; subst e; rfl
  | cons d ds ih =>
    cases r with
    | cons h r =>
      cases d <;> first | (simp [strsOf] at e; done) | skip
      simp only [strsOf, Option.map_eq_some_iff] at e
      obtain ⟨ys, e, rfl⟩ := e
      cases h
      rw [ih r e]; rfl
theorem s_join {apos : Pos} (hK : X.K = C.K) (hr : recvB xa = true) (hp : plainE xb = true) (hl : (apos.endLine == pos.line) = true) (ha : PE X xa (tE C O a O1 k1)) (hb : PE X xb (tE C O1 b O2 k2)) :
    PE X (.Call (.Attribute xa "join" apos) [xb] [] pos) (tE C O (.mth .join a b) (valO O2 k2) .val) := by
  refine (pe_join (ar_of ha) (vl_of hb) (star_of hp) (base_of hr) hl).imp fun σ H Q q => ?_
  obtain ⟨w, ρ, o, r, f⟩ := q
  refine ⟨w, ρ, o, r, (fin_bind f).imp fun d1 o1 g v1 w1 H1 l1 r1 p1 => ?_⟩
  cases d1 <;> first | (exact g.elim) | skip
  rename_i x
  refine ⟨⟨x, vw_str (p1.vw r1)⟩, w1, ρ, o1, r1, (fin_bind g).imp fun d2 o2 g v2 w2 H2 l2 r2 p2 => ?_⟩
  obtain ⟨d, e, g⟩ := fin_of g
  cases d2 <;> first | (cases e; done) | skip
  rename_i ds
  simp only [dMt] at e
  split at e
  · rename_i xs hx
    split at e
    · rename_i hz
      cases e
      cases p2 with
      | lst e2 q2 =>
        have := strs_of q2 hx
        subst this
        exact ⟨x, _, xs, vw_str (p1.vw r1), rfl, .inl (by rw [hK]; exact .inl (.inl (r2.hr.sub _ _ e2))), hz, g _ w2 H2 (l1.trans l2) r2 (.str _)⟩
    · cases e
  · cases e
theorem s_hpop {apos p2 : Pos} {n2 : Nat} (hK : X.K = C.K) (hr : recvB xa = true) (hl : (apos.endLine == pos.line) = true) (ha : PE X xa (tE C O a O1 .val)) :
    PE X (.Call (.Attribute xa "pop" apos) [.Constant (.int 0) n2 p2] [] pos) (tE C O (.hpop a) O1 .val) := by
  refine (pe_bm PySem.F.plainAttrs_list PySem.F.slot_list_pop PySem.F.type_list_pop mt_popAt ha (pa_cons pe_int pa_nil rfl) (base_of hr) rfl hl rfl rfl).imp fun σ H Q q => ?_
  obtain ⟨w, ρ, o, r, f⟩ := q
  refine ⟨w, ρ, o, r, (fin_bind f).imp fun dd o1 g v1 w1 H1 l1 r1 p1 => ?_⟩
  cases dd <;> first | (exact g.elim) | skip
  rename_i n
  simp only at g
  split at g
  · rename_i d0 ds hn
    cases p1 with
    | ref hi =>
      obtain ⟨s, vs, e, q⟩ := r1.hr.ob n _ _ hi hn
      cases q with
      | @cons v vs _ _ q0 q =>
        refine ⟨.inl ⟨rfl, _, .inl (.inl e)⟩, _, v :: vs, 0, 0, v, rfl, rfl, e, by decide, by decide, ?_, rfl, ?_⟩
        · unfold seqIndex?
          simp
        · refine g v w1 _ l1 (r1.setOb hi ⟨vs, upd_same, q⟩) q0
  · exact g.elim
end
end Ev

/-! the check is sound: expressions -/
namespace Ev
open PySem L2 PySem.Spec PyProof.Rows
def biNames : List Str := ["len", "abs", "int", "all", "any", "tuple", "list", "sorted", "min", "max", "isinstance", "range", "zip", "enumerate", "bool", "str", "dict"]
structure Good (TB : Tab) (N : List Str) (kk : Nat) (C : Cn) (X : Cx) : Prop where
  hK : X.K = C.K
  calm : X.calm = true
  un : X.A.units + 65 < cLine
  hN : X.N = N
  nd : N.Nodup
  bn : ∀ x ∈ biNames, X.mg x = none
  gcd : TB.gcd = true → X.mg "gcd" = some (.builtin "math.gcd")
  fns : ∀ (f : Nat) fn, TB.fns[f]? = some fn → ∃ af fd, FnOk X.prog X.w X.K X.mg X.base (L2.CX X.prog X.w) kk af fd (fn.N.take fn.np) (spec C fn.np fn.fresh f) ∧
    X.mg fn.name = some (.ref af) ∧ PySem.W.keepIn X.K (.ref af) = true ∧ Binds X.K fd (fn.N.take fn.np) []
  room : Room kk X.A
  gs : ∀ (j : Nat) x, TB.gs[j]? = some x → ∃ u v d, X.mg x = some u ∧ RelV v u ∧ C.G j = some d ∧ ∀ w, Rep C.K w v d
  pass : Passes (L2.CX X.prog X.w) X C.E
section
variable {TB : Tab} {N : List Str} {kk : Nat} {C : Cn} {X : Cx}
theorem Good.inn (g : Good TB N kk C X) {z : Addr × HO} {s : Shared} {H : Hp} {scope : Scope} {A : Addr} {cl : List (Str × Addr)} {fp : List Addr} : Good TB N kk (C.inn z) (X.blk s H scope (compEnvC scope cl A X.env) fp) :=
  ⟨g.hK, g.calm, g.un, g.hN, g.nd, g.bn, g.gcd, g.fns, g.room, g.gs, fun _ _ _ _ _ _ _ h => by
    obtain ⟨_, _, _, _, _, _, _, _, _, _, _, _, no⟩ := h
    exact no.elim⟩
theorem Good.pz (g : Good TB N kk C X) {z : Addr × HO} : Good TB N kk (C.pz z) X := ⟨g.hK, g.calm, g.un, g.hN, g.nd, g.bn, g.gcd, g.fns, g.room, g.gs, g.pass⟩
theorem vis_of {sc : Scope} {x : Str} (h : visB sc x = true) : Vis sc x := by
  unfold visB at h
  unfold Vis
  split at h <;> simp_all
theorem gl_of {x : Str} (h : glB X.env.scope x = true) : Gl X x := by
  unfold glB at h
  unfold Gl PySem.Env.kindOf
  split at h <;> simp_all
theorem loc_of {sc : Scope} {x : Str} (h : locB sc x = true) : Loc sc x := by
  unfold locB at h
  unfold L2.Loc
  split at h <;> simp_all
theorem relS_lookup {scope sc : Scope} {x : Str} : (relS scope sc).names.lookup x = (scope.names.lookup x).map fun k => if (k == .free && sc.kind == .function && sc.names.lookup x == some .cell) = true then .cell else k := by
  unfold relS
  simp only
  induction scope.names with
  | nil => rfl
  | cons p l ih =>
    obtain ⟨n, k⟩ := p
    rw [List.map_cons]
    by_cases h : x = n
    · subst h
      by_cases hk : (k == .free && sc.kind == .function && sc.names.lookup x == some .cell) = true
      · simp only [hk, if_true, List.lookup_cons_self, Option.map_some]
      · simp only [hk, if_false, List.lookup_cons_self, Option.map_some, Bool.false_eq_true]
    · have e1 : (x == n) = false := beq_eq_false_iff_ne.mpr h
      by_cases hk : (k == .free && sc.kind == .function && sc.names.lookup n == some .cell) = true
      · simp only [hk, if_true]
        rw [List.lookup_cons, List.lookup_cons, e1]
        exact ih
      · simp only [hk, if_false, Bool.false_eq_true]
        rw [List.lookup_cons, List.lookup_cons, e1]
        exact ih
theorem loc_blk {s : Shared} {H : Hp} {scope : Scope} {A : Addr} {cl : List (Str × Addr)} {fp : List Addr} (x : Str) (h : locB scope x = true) :
    Loc (X.blk s H scope (compEnvC scope cl A X.env) fp).env.scope x ∧ ((X.blk s H scope (compEnvC scope cl A X.env) fp).fn x = true ∨ (X.blk s H scope (compEnvC scope cl A X.env) fp).env.scope.names.lookup x = some .local) := by
  have e : (X.blk s H scope (compEnvC scope cl A X.env) fp).env.scope = relS scope X.env.scope := rfl
  rw [e]
  unfold L2.Loc
  rw [relS_lookup]
  rcases loc_of h with h | h
  · rw [h]; exact ⟨.inl rfl, .inr rfl⟩
  · rw [h]; exact ⟨.inr rfl, .inl (by show (scope.names.lookup x == some .cell) = true; rw [h]; rfl)⟩

structure Ok3 (TB : Tab) (N : List Str) (kk : Nat) (e : Ev.E) : Prop where
  pe : ∀ C X ex O O' k, Good TB N kk C X → chkE TB N e X.env.scope ex O = some (O', k) → PE X ex (tE C O e O' k)
  pt : ∀ C X ex O O' k, Good TB N kk C X → tstOk e = true → chkE TB N e X.env.scope ex O = some (O', k) → PT X ex (tTs C O e O')
  pw : ∀ C X op x y ys pos O O' k, Good TB N kk C X → tstOk e = true → chkE TB N e X.env.scope (.BoolOp op (x :: y :: ys) pos) O = some (O', k) → PW X (.BoolOp op (x :: y :: ys) pos) (tTs C O e O')
theorem Ok3.vl {e : Ev.E} (h : Ok3 TB N kk e) {ex : Expr} {O O' : List Nat} {k : Kd} (g : Good TB N kk C X) (c : chkE TB N e X.env.scope ex O = some (O', k)) : PE X ex (tVl C O e (valO O' k)) := vl_of (h.pe _ _ _ _ _ _ g c)
/-- an expression that tells its truth as a value -/
def leafT : Expr → Bool
  | .UnaryOp .Not _ _ => false
  | .BoolOp .. => false
  | .Compare .. => false
  | .IfExp .. => false
  | _ => true
theorem true_of {ex : Expr} (h : leafT ex = true) : ∀ whole, isTrue ex X.env whole = (do let v ← whole; standAt ex.pos; holding [v] (truthy v)) := by
  intro whole
  cases ex <;> first | rfl | (simp [leafT] at h; done) | skip
  rename_i op a pos
  cases op <;> first | rfl | (simp [leafT] at h; done)
theorem Ok3.leaf {e : Ev.E} (pe : ∀ C X ex O O' k, Good TB N kk C X → chkE TB N e X.env.scope ex O = some (O', k) → PE X ex (tE C O e O' k)) (h : ∀ sc ex O r, chkE TB N e sc ex O = some r → leafT ex = true) : Ok3 TB N kk e :=
  ⟨pe, fun C X ex O O' k g _ c => ts_val g.hK (pe _ _ _ _ _ _ g c) (true_of (h _ _ _ _ c)), fun C X op x y ys pos O O' k g _ c => by cases h _ _ _ _ c⟩
theorem Ok3.non {e : Ev.E} (h : ∀ sc ex O, chkE TB N e sc ex O = none) : Ok3 TB N kk e := ⟨fun C X ex O O' k g c => by (rw [h] at c; cases c), fun C X ex O O' k g _ c => by (rw [h] at c; cases c), fun C X op x y ys pos O O' k g _ c => by (rw [h] at c; cases c)⟩


theorem v_int {i : Int} {sc : Scope} {ex : Expr} {O : List Nat} {r : List Nat × Kd} (c : chkE TB N (.int i) sc ex O = some r) : ∃ j n p, ex = .Constant (.int j) n p ∧ i = j ∧ r = (O, .val) := by
  cases ex <;> first | (simp [chkE] at c; done) | skip
  rename_i v n p
  cases v <;> first | (simp [chkE] at c; done) | skip
  simp [chkE] at c
  exact ⟨_, _, _, rfl, c.1, c.2.symm⟩
theorem v_str {i : Str} {sc : Scope} {ex : Expr} {O : List Nat} {r : List Nat × Kd} (c : chkE TB N (.str i) sc ex O = some r) : ∃ j n p, ex = .Constant (.str j) n p ∧ i = j ∧ r = (O, .val) := by
  cases ex <;> first | (simp [chkE] at c; done) | skip
  rename_i v n p
  cases v <;> first | (simp [chkE] at c; done) | skip
  simp [chkE] at c
  exact ⟨_, _, _, rfl, c.1, c.2.symm⟩
theorem v_bl {i : Bool} {sc : Scope} {ex : Expr} {O : List Nat} {r : List Nat × Kd} (c : chkE TB N (.bl i) sc ex O = some r) : ∃ j n p, ex = .Constant (.bool j) n p ∧ i = j ∧ r = (O, .val) := by
  cases ex <;> first | (simp [chkE] at c; done) | skip
  rename_i v n p
  cases v <;> first | (simp [chkE] at c; done) | skip
  simp [chkE] at c
  exact ⟨_, _, _, rfl, c.1, c.2.symm⟩
theorem v_non  {sc : Scope} {ex : Expr} {O : List Nat} {r : List Nat × Kd} (c : chkE TB N (.non) sc ex O = some r) : ∃ n p, ex = .Constant .none n p ∧ r = (O, .val) := by
  cases ex <;> first | (simp [chkE] at c; done) | skip
  rename_i v n p
  cases v <;> first | (simp [chkE] at c; done) | skip
  simp [chkE] at c
  exact ⟨_, _, rfl, c.symm⟩
theorem v_var {i : Nat} {sc : Scope} {ex : Expr} {O : List Nat} {r : List Nat × Kd} (c : chkE TB N (.var i) sc ex O = some r) : ∃ x p, ex = .Name x p ∧ N[i]? = some x ∧ visB sc x = true ∧ okN x = true ∧ r = (O, if i ∈ O then .slot i else .val) := by
  cases ex <;> first | (simp [chkE] at c; done) | skip
  simp only [chkE] at c
  split at c
  · rename_i h
    cases c
    exact ⟨_, _, rfl, h.1, h.2.1, h.2.2, rfl⟩
  · cases c
theorem v_glb {j : Nat} {sc : Scope} {ex : Expr} {O : List Nat} {r : List Nat × Kd} (c : chkE TB N (.glb j) sc ex O = some r) : ∃ x p, ex = .Name x p ∧ TB.gs[j]? = some x ∧ glB sc x = true ∧ okN x = true ∧ r = (O, .val) := by
  cases ex <;> first | (simp [chkE] at c; done) | skip
  simp only [chkE] at c
  split at c
  · rename_i h
    cases c
    exact ⟨_, _, rfl, h.1, h.2.1, h.2.2, rfl⟩
  · cases c
theorem v_tup {es : Ev.Es} {sc : Scope} {ex : Expr} {O : List Nat} {r : List Nat × Kd} (c : chkE TB N (.tup es) sc ex O = some r) : ∃ xs k p O', ex = .Tuple xs k p ∧ chkVs TB N es sc xs O = some O' ∧ xs.length ≤ 10000 ∧ r = (O', .val) := by
  cases ex <;> first | (simp [chkE] at c; done) | skip
  simp only [chkE] at c
  split at c
  · rename_i h
    rw [Option.map_eq_some_iff] at c
    obtain ⟨O', h1, rfl⟩ := c
    exact ⟨_, _, _, _, rfl, h1, h, rfl⟩
  · cases c
theorem v_lst {es : Ev.Es} {sc : Scope} {ex : Expr} {O : List Nat} {r : List Nat × Kd} (c : chkE TB N (.lst es) sc ex O = some r) : ∃ xs p O', ex = .List xs p ∧ chkVs TB N es sc xs O = some O' ∧ xs.length ≤ 10000 ∧ r = (O', .own) := by
  cases ex <;> first | (simp [chkE] at c; done) | skip
  simp only [chkE] at c
  split at c
  · rename_i h
    rw [Option.map_eq_some_iff] at c
    obtain ⟨O', h1, rfl⟩ := c
    exact ⟨_, _, _, rfl, h1, h, rfl⟩
  · cases c
theorem v_bin {p : Bop} {a b : Ev.E} {sc : Scope} {ex : Expr} {O : List Nat} {r : List Nat × Kd} (c : chkE TB N (.bin p a b) sc ex O = some r) : ∃ xa op xb pos r1 r2, ex = .BinOp xa op xb pos ∧ opB p op = true ∧ chkE TB N a sc xa O = some r1 ∧ chkE TB N b sc xb r1.1 = some r2 ∧ r = (r2.1, binK p r1.2 r2.2) := by
  cases ex <;> first | (simp [chkE] at c; done) | skip
  simp only [chkE] at c
  split at c
  · rename_i h
    simp only [Option.bind_eq_some_iff, Option.map_eq_some_iff] at c
    obtain ⟨r1, h1, r2, h2, rfl⟩ := c
    exact ⟨_, _, _, _, _, _, rfl, h, h1, h2, rfl⟩
  · cases c
theorem v_neg {a : Ev.E} {sc : Scope} {ex : Expr} {O : List Nat} {r : List Nat × Kd} (c : chkE TB N (.neg a) sc ex O = some r) : ∃ xa pos r1, ex = .UnaryOp .USub xa pos ∧ chkE TB N a sc xa O = some r1 ∧ r = (r1.1, .val) := by
  cases ex <;> first | (simp [chkE] at c; done) | skip
  rename_i op xa pos
  cases op <;> first | (simp [chkE] at c; done) | skip
  simp only [chkE, Option.map_eq_some_iff] at c
  obtain ⟨r1, h1, rfl⟩ := c
  exact ⟨_, _, _, rfl, h1, rfl⟩
theorem v_not {a : Ev.E} {sc : Scope} {ex : Expr} {O : List Nat} {r : List Nat × Kd} (c : chkE TB N (.not a) sc ex O = some r) : ∃ xa pos r1, ex = .UnaryOp .Not xa pos ∧ chkE TB N a sc xa O = some r1 ∧ r = (r1.1, .val) := by
  cases ex <;> first | (simp [chkE] at c; done) | skip
  rename_i op xa pos
  cases op <;> first | (simp [chkE] at c; done) | skip
  simp only [chkE, Option.map_eq_some_iff] at c
  obtain ⟨r1, h1, rfl⟩ := c
  exact ⟨_, _, _, rfl, h1, rfl⟩
theorem v_cmp {p : Cop} {a b : Ev.E} {sc : Scope} {ex : Expr} {O : List Nat} {r : List Nat × Kd} (c : chkE TB N (.cmp p a b) sc ex O = some r) : ∃ xa op xb pos r1 r2, ex = .Compare xa [op] [xb] pos ∧ copB p op = true ∧ plainE xb = true ∧ chkE TB N a sc xa O = some r1 ∧ chkE TB N b sc xb r1.1 = some r2 ∧ r = (r2.1, .val) := by
  cases ex <;> first | (simp [chkE] at c; done) | skip
  rename_i xa ops xs pos
  match ops, xs with
  | [op], [xb] =>
    simp only [chkE] at c
    split at c
    · rename_i h
      simp only [Option.bind_eq_some_iff, Option.map_eq_some_iff] at c
      obtain ⟨r1, h1, r2, h2, rfl⟩ := c
      exact ⟨_, _, _, _, _, _, rfl, h.1, h.2, h1, h2, rfl⟩
    · cases c
  | [], _ => simp [chkE] at c
  | _ :: _ :: _, _ => simp [chkE] at c
  | [_], [] => simp [chkE] at c
  | [_], _ :: _ :: _ => simp [chkE] at c
theorem v_chn {p p' : Cop} {a b d : Ev.E} {sc : Scope} {ex : Expr} {O : List Nat} {r : List Nat × Kd} (c : chkE TB N (.chn p p' a b d) sc ex O = some r) : ∃ xa op oq xb xc pos r1 r2 r3, ex = .Compare xa [op, oq] [xb, xc] pos ∧ copB p op = true ∧ copB p' oq = true ∧ plainE xb = true ∧ plainE xc = true ∧ chkE TB N a sc xa O = some r1 ∧ chkE TB N b sc xb (valO r1.1 r1.2) = some r2 ∧ chkE TB N d sc xc r2.1 = some r3 ∧ r = (inter r3.1 r2.1, .val) := by
  cases ex <;> first | (simp [chkE] at c; done) | skip
  rename_i xa ops xs pos
  match ops, xs with
  | [op, oq], [xb, xc] =>
    simp only [chkE] at c
    split at c
    · rename_i h
      simp only [Option.bind_eq_some_iff, Option.map_eq_some_iff] at c
      obtain ⟨r1, h1, r2, h2, r3, h3, rfl⟩ := c
      exact ⟨_, _, _, _, _, _, _, _, _, rfl, h.1, h.2.1, h.2.2.1, h.2.2.2, h1, h2, h3, rfl⟩
    · cases c
  | [], _ => simp [chkE] at c
  | [_], _ => simp [chkE] at c
  | _ :: _ :: _ :: _, _ => simp [chkE] at c
  | [_, _], [] => simp [chkE] at c
  | [_, _], [_] => simp [chkE] at c
  | [_, _], _ :: _ :: _ :: _ => simp [chkE] at c
theorem v_and {a b : Ev.E} {sc : Scope} {ex : Expr} {O : List Nat} {r : List Nat × Kd} (c : chkE TB N (.and a b) sc ex O = some r) : ∃ xa xb rest pos r1 r2, ex = .BoolOp .And (xa :: xb :: rest) pos ∧ chkE TB N a sc xa O = some r1 ∧ (rest = [] → chkE TB N b sc xb (valO r1.1 r1.2) = some r2) ∧ (rest ≠ [] → chkE TB N b sc (.BoolOp .And (xb :: rest) pos) (valO r1.1 r1.2) = some r2) ∧ r = (inter (valO r2.1 r2.2) (valO r1.1 r1.2), .val) := by
  cases ex <;> first | (simp [chkE] at c; done) | skip
  rename_i op xs pos
  match op, xs with
  | .And, xa :: xb :: rest =>
    simp only [chkE, Option.bind_eq_some_iff, Option.map_eq_some_iff] at c
    obtain ⟨r1, h1, r2, h2, rfl⟩ := c
    refine ⟨xa, xb, rest, pos, r1, r2, rfl, h1, fun e => ?_, fun e => ?_, rfl⟩
    · subst e; exact h2
    · cases rest with
      | nil => exact absurd rfl e
      | cons y ys => exact h2
  | .Or, _ => simp [chkE] at c
  | .And, [] => simp [chkE] at c
  | .And, [_] => simp [chkE] at c
theorem v_or {a b : Ev.E} {sc : Scope} {ex : Expr} {O : List Nat} {r : List Nat × Kd} (c : chkE TB N (.or a b) sc ex O = some r) : ∃ xa xb rest pos r1 r2, ex = .BoolOp .Or (xa :: xb :: rest) pos ∧ chkE TB N a sc xa O = some r1 ∧ (rest = [] → chkE TB N b sc xb (valO r1.1 r1.2) = some r2) ∧ (rest ≠ [] → chkE TB N b sc (.BoolOp .Or (xb :: rest) pos) (valO r1.1 r1.2) = some r2) ∧ r = (inter (valO r2.1 r2.2) (valO r1.1 r1.2), .val) := by
  cases ex <;> first | (simp [chkE] at c; done) | skip
  rename_i op xs pos
  match op, xs with
  | .Or, xa :: xb :: rest =>
    simp only [chkE, Option.bind_eq_some_iff, Option.map_eq_some_iff] at c
    obtain ⟨r1, h1, r2, h2, rfl⟩ := c
    refine ⟨xa, xb, rest, pos, r1, r2, rfl, h1, fun e => ?_, fun e => ?_, rfl⟩
    · subst e; exact h2
    · cases rest with
      | nil => exact absurd rfl e
      | cons y ys => exact h2
  | .And, _ => simp [chkE] at c
  | .Or, [] => simp [chkE] at c
  | .Or, [_] => simp [chkE] at c
theorem v_ite {d a b : Ev.E} {sc : Scope} {ex : Expr} {O : List Nat} {r : List Nat × Kd} (c : chkE TB N (.ite d a b) sc ex O = some r) : ∃ xc xa xb pos r1 r2 r3, ex = .IfExp xc xa xb pos ∧ tstOk d = true ∧ chkE TB N d sc xc O = some r1 ∧ chkE TB N a sc xa r1.1 = some r2 ∧ chkE TB N b sc xb r1.1 = some r3 ∧ r = (if r2.2 = .own ∧ r3.2 = .own then (inter r2.1 r3.1, .own) else (inter (valO r2.1 r2.2) (valO r3.1 r3.2), .val)) := by
  cases ex <;> first | (simp [chkE] at c; done) | skip
  simp only [chkE] at c
  split at c
  · rename_i h
    simp only [Option.bind_eq_some_iff, Option.map_eq_some_iff] at c
    obtain ⟨r1, h1, r2, h2, r3, h3, rfl⟩ := c
    exact ⟨_, _, _, _, _, _, _, rfl, h, h1, h2, h3, rfl⟩
  · cases c
theorem v_call {f : Nat} {es : Ev.Es} {sc : Scope} {ex : Expr} {O : List Nat} {r : List Nat × Kd} (c : chkE TB N (.call f es) sc ex O = some r) : ∃ x p1 xs p fn O', ex = .Call (.Name x p1) xs [] p ∧ TB.fns[f]? = some fn ∧ fn.name = x ∧ glB sc x = true ∧ okN x = true ∧ xs.length = fn.np ∧ chkVs TB N es sc xs O = some O' ∧ r = (O', if fn.fresh then .own else .val) := by
  cases ex <;> first | (simp [chkE] at c; done) | skip
  rename_i fe xs kws p
  cases fe <;> first | (simp [chkE] at c; done) | skip
  cases kws <;> first | (simp [chkE] at c; done) | skip
  simp only [chkE] at c
  split at c
  · rename_i fn hf
    split at c
    · rename_i h
      rw [Option.map_eq_some_iff] at c
      obtain ⟨O', h1, rfl⟩ := c
      exact ⟨_, _, _, _, fn, O', rfl, hf, h.1, h.2.1, h.2.2.1, h.2.2.2, h1, rfl⟩
    · cases c
  · cases c
theorem v_bi {b : Bi} {es : Ev.Es} {sc : Scope} {ex : Expr} {O : List Nat} {r : List Nat × Kd} (c : chkE TB N (.bi b es) sc ex O = some r) : ∃ p1 y ys p O', ex = .Call (.Name (biName b) p1) (y :: ys) [] p ∧ glB sc (biName b) = true ∧ (b = .gcd → TB.gcd = true) ∧ chkAs TB N es sc (y :: ys) O = some O' ∧ r = (O', biKind b) := by
  cases ex <;> first | (simp [chkE] at c; done) | skip
  rename_i fe xs kws p
  cases fe <;> first | (simp [chkE] at c; done) | skip
  cases kws <;> first | (simp [chkE] at c; done) | skip
  cases xs <;> first | (simp [chkE] at c; done) | skip
  simp only [chkE] at c
  split at c
  · rename_i h
    obtain ⟨h0, h1, h2, h3⟩ := h
    subst h0
    rw [Option.map_eq_some_iff] at c
    obtain ⟨O', h4, rfl⟩ := c
    exact ⟨_, _, _, _, O', rfl, h1, h3, h4, rfl⟩
  · cases c
theorem v_isi {a : Ev.E} {t : Ty} {sc : Scope} {ex : Expr} {O : List Nat} {r : List Nat × Kd} (c : chkE TB N (.isi a t) sc ex O = some r) : ∃ p1 xa p2 p r1, ex = .Call (.Name "isinstance" p1) [xa, .Name (tyName t) p2] [] p ∧ plainE xa = true ∧ glB sc "isinstance" = true ∧ glB sc (tyName t) = true ∧ chkE TB N a sc xa O = some r1 ∧ r = (r1.1, .val) := by
  cases ex <;> first | (simp [chkE] at c; done) | skip
  rename_i fe xs kws p
  cases fe <;> first | (simp [chkE] at c; done) | skip
  cases kws <;> first | (simp [chkE] at c; done) | skip
  match xs with
  | [xa, ey] =>
    cases ey <;> first | (simp [chkE] at c; done) | skip
    simp only [chkE] at c
    split at c
    · rename_i h
      obtain ⟨h0, h1, h2, h3, h4⟩ := h
      subst h0 h2
      rw [Option.map_eq_some_iff] at c
      obtain ⟨r1, h5, rfl⟩ := c
      exact ⟨_, _, _, _, r1, rfl, h1, h3, h4, h5, rfl⟩
    · cases c
  | [] => simp [chkE] at c
  | [_] => simp [chkE] at c
  | _ :: _ :: _ :: _ => simp [chkE] at c
theorem v_idx {a i : Ev.E} {sc : Scope} {ex : Expr} {O : List Nat} {r : List Nat × Kd} (c : chkE TB N (.idx a i) sc ex O = some r) : ∃ xa xi p r1 r2, ex = .Subscript xa xi p ∧ noSlice xi = true ∧ chkE TB N a sc xa O = some r1 ∧ chkE TB N i sc xi r1.1 = some r2 ∧ r = (r2.1, .val) := by
  cases ex <;> first | (simp [chkE] at c; done) | skip
  simp only [chkE] at c
  split at c
  · rename_i h
    simp only [Option.bind_eq_some_iff, Option.map_eq_some_iff] at c
    obtain ⟨r1, h1, r2, h2, rfl⟩ := c
    exact ⟨_, _, _, _, _, rfl, h, h1, h2, rfl⟩
  · cases c
theorem v_slc {a : Ev.E} {lo hi : Ev.EO} {sc : Scope} {ex : Expr} {O : List Nat} {r : List Nat × Kd} (c : chkE TB N (.slc a lo hi) sc ex O = some r) : ∃ xa xl xh p2 p r1 O1 O2, ex = .Subscript xa (.Slice xl xh none p2) p ∧ chkE TB N a sc xa O = some r1 ∧ chkO TB N lo sc xl r1.1 = some O1 ∧ chkO TB N hi sc xh O1 = some O2 ∧ r = (O2, if isLst r1.2 then .own else .val) := by
  cases ex <;> first | (simp [chkE] at c; done) | skip
  rename_i xa xi p
  cases xi <;> first | (simp [chkE] at c; done) | skip
  rename_i xl xh st p2
  cases st <;> first | (simp [chkE] at c; done) | skip
  simp only [chkE, Option.bind_eq_some_iff, Option.map_eq_some_iff] at c
  obtain ⟨r1, h1, O1, h2, O2, h3, rfl⟩ := c
  exact ⟨_, _, _, _, _, _, _, _, rfl, h1, h2, h3, rfl⟩
theorem v_comp {elt : Ev.E} {t : Ev.T} {it : Ev.I} {d : Ev.EO} {sc : Scope} {ex : Expr} {O : List Nat} {r : List Nat × Kd} (c : chkE TB N (.comp elt t it d) sc ex O = some r) : ∃ xe xt xi xc scope p O1 O3 r1 O5 q, ex = .ListComp xe [⟨xt, xi, xc, 0⟩] scope p ∧ chkI TB N it sc xt xi O = some O1 ∧ plainE xi = true ∧ chkT N (locB scope) t xt = true ∧ blkC N sc scope (ownOf N t.own) = true ∧ (ownOf N t.own).map (·.2) = t.own ∧ chkC TB N d (relS scope sc) xc (rms O1 t.own) = some O3 ∧ chkE TB N elt (relS scope sc) xe O3 = some r1 ∧ chkC TB N d (relS scope sc) xc (inter (valO r1.1 r1.2) (rms O1 t.own)) = some O5 ∧ chkE TB N elt (relS scope sc) xe O5 = some q ∧ (∀ i ∈ inter (valO r1.1 r1.2) (rms O1 t.own), i ∈ valO q.1 q.2) ∧ (∀ i ∈ inter (valO r1.1 r1.2) (rms O1 t.own), i ∈ O5) ∧ r = (inter (valO r1.1 r1.2) (rms O1 t.own), .own) := by
  cases ex <;> first | (simp [chkE] at c; done) | skip
  rename_i xe gens scope p
  match gens with
  | [] => simp [chkE] at c
  | _ :: _ :: _ => simp [chkE] at c
  | [⟨xt, xi, xc, n⟩] =>
    by_cases hn : n = 0
    · subst hn
      simp only [chkE, Option.bind_eq_some_iff] at c
      obtain ⟨O1, h1, c⟩ := c
      split at c
      · rename_i h
        simp only [Option.bind_eq_some_iff] at c
        obtain ⟨O3, h2, r1, h3, O5, h4, q, h5, c⟩ := c
        split at c
        · rename_i h'
          cases c
          exact ⟨_, _, _, _, _, _, _, _, _, _, _, rfl, h1, h.1, h.2.1, h.2.2.1, h.2.2.2.1, h2, h3, h4, h5, h'.1, h'.2, rfl⟩
        · cases c
      · cases c
    · exfalso
      unfold chkE at c
      split at c <;> simp_all
theorem keys_cons {ks : List (Option Expr)} {x : Str} {xs : List Str} (h : keysB ks (x :: xs) = true) : ∃ n p ks', ks = some (.Constant (.str x) n p) :: ks' ∧ keysB ks' xs = true := by
  cases ks with
  | nil => simp [keysB] at h
  | cons k ks =>
    cases k with
    | none => simp [keysB] at h
    | some e =>
      cases e <;> first | (simp [keysB] at h; done) | skip
      rename_i v n p
      cases v <;> first | (simp [keysB] at h; done) | skip
      simp only [keysB, Bool.and_eq_true, decide_eq_true_eq] at h
      obtain ⟨rfl, h⟩ := h
      exact ⟨_, _, _, rfl, h⟩
theorem keys_nil {ks : List (Option Expr)} (h : keysB ks [] = true) : ks = [] := by
  match ks with
  | [] => rfl
  | none :: _ => simp [keysB] at h
  | some e :: _ => simp [keysB] at h
theorem v_dic {k1 k2 k3 k4 : Str} {a b e d : Ev.E} {sc : Scope} {ex : Expr} {O : List Nat} {r : List Nat × Kd} (c : chkE TB N (.dic k1 k2 k3 k4 a b e d) sc ex O = some r) : ∃ n1 p1 n2 p2 n3 p3 n4 p4 xa xb xc xd p r1 r2 r3 r4, ex = .Dict [some (.Constant (.str k1) n1 p1), some (.Constant (.str k2) n2 p2), some (.Constant (.str k3) n3 p3), some (.Constant (.str k4) n4 p4)] [xa, xb, xc, xd] p ∧ [k1, k2, k3, k4].Nodup ∧ chkE TB N a sc xa O = some r1 ∧ chkE TB N b sc xb (valO r1.1 r1.2) = some r2 ∧ chkE TB N e sc xc (valO r2.1 r2.2) = some r3 ∧ chkE TB N d sc xd (valO r3.1 r3.2) = some r4 ∧ r = (valO r4.1 r4.2, .val) := by
  cases ex <;> first | (simp [chkE] at c; done) | skip
  rename_i ks vs p
  match vs with
  | [xa, xb, xc, xd] =>
    simp only [chkE] at c
    split at c
    · rename_i h
      obtain ⟨hk, hn⟩ := h
      simp only [Option.bind_eq_some_iff, Option.map_eq_some_iff] at c
      obtain ⟨r1, h1, r2, h2, r3, h3, r4, h4, rfl⟩ := c
      obtain ⟨n1, p1, ks1, rfl, hk1⟩ := keys_cons hk
      obtain ⟨n2, p2, ks2, rfl, hk2⟩ := keys_cons hk1
      obtain ⟨n3, p3, ks3, rfl, hk3⟩ := keys_cons hk2
      obtain ⟨n4, p4, ks4, rfl, hk4⟩ := keys_cons hk3
      cases keys_nil hk4
      exact ⟨_, _, _, _, _, _, _, _, _, _, _, _, _, _, _, _, _, rfl, hn, h1, h2, h3, h4, rfl⟩
    · cases c
  | [] => simp [chkE] at c
  | [_] => simp [chkE] at c
  | [_, _] => simp [chkE] at c
  | [_, _, _] => simp [chkE] at c
  | _ :: _ :: _ :: _ :: _ :: _ => simp [chkE] at c
theorem v_mth {m : Mt} {a e : Ev.E} {sc : Scope} {ex : Expr} {O : List Nat} {r : List Nat × Kd} (c : chkE TB N (.mth m a e) sc ex O = some r) : ∃ xa apos xe p r1 r2, ex = .Call (.Attribute xa "join" apos) [xe] [] p ∧ recvB xa = true ∧ plainE xe = true ∧ (apos.endLine == p.line) = true ∧ chkE TB N a sc xa O = some r1 ∧ chkE TB N e sc xe r1.1 = some r2 ∧ r = (valO r2.1 r2.2, .val) := by
  cases ex <;> first | (simp [chkE] at c; done) | skip
  rename_i fe xs kws p
  cases fe <;> first | (simp [chkE] at c; done) | skip
  cases kws <;> first | (simp [chkE] at c; done) | skip
  match xs with
  | [xe] =>
    cases m
    simp only [chkE] at c
    split at c
    · rename_i h
      obtain ⟨h0, h1, h2, h3⟩ := h
      subst h0
      simp only [Option.bind_eq_some_iff, Option.map_eq_some_iff] at c
      obtain ⟨r1, h4, r2, h5, rfl⟩ := c
      exact ⟨_, _, _, _, _, _, rfl, h1, h2, h3, h4, h5, rfl⟩
    · cases c
  | [] => simp [chkE] at c
  | _ :: _ :: _ => simp [chkE] at c
theorem v_hpop {a : Ev.E} {sc : Scope} {ex : Expr} {O : List Nat} {r : List Nat × Kd} (c : chkE TB N (.hpop a) sc ex O = some r) : ∃ xa apos n2 p2 p O', ex = .Call (.Attribute xa "pop" apos) [.Constant (.int 0) n2 p2] [] p ∧ recvB xa = true ∧ (apos.endLine == p.line) = true ∧ chkE TB N a sc xa O = some (O', .val) ∧ r = (O', .val) := by
  cases ex <;> first | (simp [chkE] at c; done) | skip
  rename_i fe xs kws p
  cases fe <;> first | (simp [chkE] at c; done) | skip
  cases kws <;> first | (simp [chkE] at c; done) | skip
  match xs with
  | [xe] =>
    cases xe <;> first | (simp [chkE] at c; done) | skip
    rename_i v _ _
    cases v <;> first | (simp [chkE] at c; done) | skip
    simp only [chkE] at c
    split at c
    · rename_i h
      obtain ⟨h0, h1, h2, h3⟩ := h
      subst h0 h2
      simp only [Option.bind_eq_some_iff] at c
      obtain ⟨⟨O', k⟩, h4, c⟩ := c
      split at c
      · rename_i hk
        cases c
        simp only at hk
        subst hk
        exact ⟨_, _, _, _, _, _, rfl, h1, h3, h4, rfl⟩
      · cases c
    · cases c
  | [] => simp [chkE] at c
  | _ :: _ :: _ => simp [chkE] at c
theorem v_hp {a : Ev.E} {sc : Scope} {ex : Expr} {O : List Nat} {r : List Nat × Kd} (c : chkE TB N (.hp a) sc ex O = some r) : ∃ O', chkE TB N a sc ex O = some (O', .own) ∧ r = (O', .val) := by
  simp only [chkE, Option.bind_eq_some_iff] at c
  obtain ⟨⟨O', k⟩, h4, c⟩ := c
  split at c
  · rename_i hk
    cases c
    simp only at hk
    subst hk
    exact ⟨_, h4, rfl⟩
  · cases c
theorem v_bad {sc : Scope} {ex : Expr} {O : List Nat} {r : List Nat × Kd} (c : chkE TB N .bad sc ex O = some r) : False := by
  cases ex <;> simp [chkE] at c
end
end Ev

/-! the check is sound: expressions -/
namespace Ev
open PySem L2 PySem.Spec PyProof.Rows
section
variable {TB : Tab} {N : List Str} {kk : Nat} {C : Cn} {X : Cx}
theorem k_int (i : Int) : Ok3 TB N kk (.int i) := .leaf (fun C X ex O O' k g c => by obtain ⟨j, n, p, rfl, h, e⟩ := v_int c; cases e; exact s_int h) fun sc ex O r c => by obtain ⟨j, n, p, rfl, h, e⟩ := v_int c; rfl
theorem k_str (i : Str) : Ok3 TB N kk (.str i) := .leaf (fun C X ex O O' k g c => by obtain ⟨j, n, p, rfl, h, e⟩ := v_str c; cases e; exact s_str h) fun sc ex O r c => by obtain ⟨j, n, p, rfl, h, e⟩ := v_str c; rfl
theorem k_bl (i : Bool) : Ok3 TB N kk (.bl i) := .leaf (fun C X ex O O' k g c => by obtain ⟨j, n, p, rfl, h, e⟩ := v_bl c; cases e; exact s_bl h) fun sc ex O r c => by obtain ⟨j, n, p, rfl, h, e⟩ := v_bl c; rfl
theorem k_non : Ok3 TB N kk .non := .leaf (fun C X ex O O' k g c => by obtain ⟨n, p, rfl, e⟩ := v_non c; cases e; exact s_non) fun sc ex O r c => by obtain ⟨n, p, rfl, e⟩ := v_non c; rfl
theorem k_var (i : Nat) : Ok3 TB N kk (.var i) := .leaf (fun C X ex O O' k g c => by
    obtain ⟨x, p, rfl, h1, h2, h3, e⟩ := v_var c
    cases e
    exact s_var (by rw [g.hN]; exact h1) (vis_of h2) h3) fun sc ex O r c => by obtain ⟨x, p, rfl, _⟩ := v_var c; rfl
theorem k_glb (j : Nat) : Ok3 TB N kk (.glb j) := .leaf (fun C X ex O O' k g c => by
    obtain ⟨x, p, rfl, h1, h2, h3, e⟩ := v_glb c
    cases e
    obtain ⟨u, v, d, q1, q2, q3, q4⟩ := g.gs _ _ h1
    exact s_glb (gl_of h2) q1 q2 h3 q3 q4) fun sc ex O r c => by obtain ⟨x, p, rfl, _⟩ := v_glb c; rfl
/-- lists of values, of arguments -/
def OkVs (TB : Tab) (N : List Str) (kk : Nat) (es : Ev.Es) : Prop := ∀ C X xs O O', Good TB N kk C X → chkVs TB N es X.env.scope xs O = some O' → PA X xs (tVls C O es O' xs.length) ∧ (∀ y ∈ xs, plainE y = true) ∧ (xs = [] → es = .nil ∧ O' = O)
def OkAs (TB : Tab) (N : List Str) (kk : Nat) (es : Ev.Es) : Prop := ∀ C X xs O O', Good TB N kk C X → chkAs TB N es X.env.scope xs O = some O' → PA X xs (tArs C O es O') ∧ (∀ y ∈ xs, plainE y = true)
theorem k_vnil : OkVs TB N kk .nil := fun C X xs O O' g c => by
  cases xs <;> first | (simp [chkVs] at c; done) | skip
  simp only [chkVs, Option.some.injEq] at c
  subst c
  exact ⟨s_vnil, by simp, fun _ => ⟨rfl, rfl⟩⟩
theorem k_vcons {e : Ev.E} {es : Ev.Es} (h : Ok3 TB N kk e) (hs : OkVs TB N kk es) : OkVs TB N kk (.cons e es) := fun C X xs O O' g c => by
  cases xs <;> first | (simp [chkVs] at c; done) | skip
  simp only [chkVs] at c
  split at c
  · rename_i hp
    simp only [Option.bind_eq_some_iff] at c
    obtain ⟨r1, h1, h2⟩ := c
    obtain ⟨q1, q2, _⟩ := hs _ _ _ _ _ g h2
    refine ⟨s_vcons hp (h.vl g h1) q1, fun y hy => ?_, fun z => by cases z⟩
    rcases List.mem_cons.mp hy with z | z
    · rw [z]; exact hp
    · exact q2 y z
  · cases c
theorem k_anil : OkAs TB N kk .nil := fun C X xs O O' g c => by
  cases xs <;> first | (simp [chkAs] at c; done) | skip
  simp only [chkAs, Option.some.injEq] at c
  subst c
  exact ⟨s_anil, by simp⟩
theorem k_acons {e : Ev.E} {es : Ev.Es} (h : Ok3 TB N kk e) (hs : OkAs TB N kk es) : OkAs TB N kk (.cons e es) := fun C X xs O O' g c => by
  cases xs <;> first | (simp [chkAs] at c; done) | skip
  simp only [chkAs] at c
  split at c
  · rename_i hp
    simp only [Option.bind_eq_some_iff] at c
    obtain ⟨r1, h1, h2⟩ := c
    obtain ⟨q1, q2⟩ := hs _ _ _ _ _ g h2
    refine ⟨s_acons hp (ar_of (h.pe _ _ _ _ _ _ g h1)) q1, fun y hy => ?_⟩
    rcases List.mem_cons.mp hy with z | z
    · rw [z]; exact hp
    · exact q2 y z
  · cases c
theorem k_tup {es : Ev.Es} (h : OkVs TB N kk es) : Ok3 TB N kk (.tup es) := .leaf (fun C X ex O O' k g c => by
    obtain ⟨xs, n, p, O1, rfl, h1, h2, e⟩ := v_tup c
    cases e
    exact s_tup (h _ _ _ _ _ g h1).1 h2) fun sc ex O r c => by obtain ⟨xs, n, p, O1, rfl, _⟩ := v_tup c; rfl
theorem k_lst {es : Ev.Es} (h : OkVs TB N kk es) : Ok3 TB N kk (.lst es) := .leaf (fun C X ex O O' k g c => by
    obtain ⟨xs, p, O1, rfl, h1, h2, e⟩ := v_lst c
    cases e
    exact s_lst (h _ _ _ _ _ g h1).1 h2) fun sc ex O r c => by obtain ⟨xs, p, O1, rfl, _⟩ := v_lst c; rfl
theorem k_bin {p : Bop} {a b : Ev.E} (ha : Ok3 TB N kk a) (hb : Ok3 TB N kk b) : Ok3 TB N kk (.bin p a b) := .leaf (fun C X ex O O' k g c => by
    obtain ⟨xa, op, xb, pos, r1, r2, rfl, h0, h1, h2, e⟩ := v_bin c
    cases e
    exact s_bin g.hK h0 (ha.pe _ _ _ _ _ _ g h1) (hb.pe _ _ _ _ _ _ g h2)) fun sc ex O r c => by obtain ⟨xa, op, xb, pos, r1, r2, rfl, _⟩ := v_bin c; rfl
theorem k_neg {a : Ev.E} (ha : Ok3 TB N kk a) : Ok3 TB N kk (.neg a) := .leaf (fun C X ex O O' k g c => by
    obtain ⟨xa, pos, r1, rfl, h1, e⟩ := v_neg c
    cases e
    exact s_neg (ha.pe _ _ _ _ _ _ g h1)) fun sc ex O r c => by obtain ⟨xa, pos, r1, rfl, _⟩ := v_neg c; rfl
theorem k_not {a : Ev.E} (ha : Ok3 TB N kk a) : Ok3 TB N kk (.not a) := ⟨fun C X ex O O' k g c => by
    obtain ⟨xa, pos, r1, rfl, h1, e⟩ := v_not c
    cases e
    exact s_not g.hK (ha.pe _ _ _ _ _ _ g h1), fun C X ex O O' k g ht c => by
    obtain ⟨xa, pos, r1, rfl, h1, e⟩ := v_not c
    cases e
    exact ts_not (ha.pt _ _ _ _ _ _ g ht h1), fun C X op x y ys pos O O' k g ht c => by
    obtain ⟨xa, pos, r1, e, _⟩ := v_not c
    cases e⟩
theorem k_cmp {p : Cop} {a b : Ev.E} (ha : Ok3 TB N kk a) (hb : Ok3 TB N kk b) : Ok3 TB N kk (.cmp p a b) := ⟨fun C X ex O O' k g c => by
    obtain ⟨xa, op, xb, pos, r1, r2, rfl, h0, hp, h1, h2, e⟩ := v_cmp c
    cases e
    exact s_cmp g.hK g.un h0 hp (ha.pe _ _ _ _ _ _ g h1) (hb.pe _ _ _ _ _ _ g h2), fun C X ex O O' k g ht c => by
    obtain ⟨xa, op, xb, pos, r1, r2, rfl, h0, hp, h1, h2, e⟩ := v_cmp c
    cases e
    exact ts_cmp g.hK g.un h0 hp (ha.pe _ _ _ _ _ _ g h1) (hb.pe _ _ _ _ _ _ g h2), fun C X op x y ys pos O O' k g ht c => by
    obtain ⟨xa, op, xb, pos, r1, r2, e, _⟩ := v_cmp c
    cases e⟩
theorem k_chn {p p' : Cop} {a b d : Ev.E} (ha : Ok3 TB N kk a) (hb : Ok3 TB N kk b) (hd : Ok3 TB N kk d) : Ok3 TB N kk (.chn p p' a b d) := ⟨fun C X ex O O' k g c => by
    obtain ⟨xa, op, oq, xb, xc, pos, r1, r2, r3, rfl, h0, h0', hp, hp', h1, h2, h3, e⟩ := v_chn c
    cases e
    exact s_chn g.hK g.un h0 h0' hp' (ha.pe _ _ _ _ _ _ g h1) (hb.pe _ _ _ _ _ _ g h2) (hd.pe _ _ _ _ _ _ g h3), fun C X ex O O' k g ht c => by
    obtain ⟨xa, op, oq, xb, xc, pos, r1, r2, r3, rfl, h0, h0', hp, hp', h1, h2, h3, e⟩ := v_chn c
    cases e
    exact ts_chn g.hK g.un h0 h0' hp' (ha.pe _ _ _ _ _ _ g h1) (hb.pe _ _ _ _ _ _ g h2) (hd.pe _ _ _ _ _ _ g h3), fun C X op x y ys pos O O' k g ht c => by
    obtain ⟨xa, op, oq, xb, xc, pos, r1, r2, r3, e, _⟩ := v_chn c
    cases e⟩
theorem sub_l {i : Nat} {a b : List Nat} (h : i ∈ inter a b) : i ∈ a := (mem_inter.mp h).1
theorem sub_r {i : Nat} {a b : List Nat} (h : i ∈ inter a b) : i ∈ b := (mem_inter.mp h).2
theorem and_pw {a b : Ev.E} (ha : Ok3 TB N kk a) (hb : Ok3 TB N kk b) {x y : Expr} {ys : List Expr} {pos : Pos} {op : BoolOp} {O O' : List Nat} {k : Kd} (g : Good TB N kk C X) (ht : tstOk (.and a b) = true) (c : chkE TB N (.and a b) X.env.scope (.BoolOp op (x :: y :: ys) pos) O = some (O', k)) :
    PW X (.BoolOp op (x :: y :: ys) pos) (tTs C O (.and a b) O') := by
  obtain ⟨xa, xb, rest, pos', r1, r2, e0, h1, h2, h3, e⟩ := v_and c
  cases e0
  cases e
  simp only [tstOk, Bool.and_eq_true] at ht
  have p1 := tr_sub (O1 := valO r1.1 r1.2) (ha.pt _ _ _ _ _ _ g ht.1 h1) fun i hi => mem_valO hi
  cases ys with
  | nil => exact tw_and p1 (pw_and1 (hb.pt _ _ _ _ _ _ g ht.2 (h2 rfl))) (fun i hi => sub_r hi) fun i hi => mem_valO (sub_l hi)
  | cons z zs => exact tw_and p1 (hb.pw _ _ _ _ _ _ _ _ _ _ g ht.2 (h3 (by simp))) (fun i hi => sub_r hi) fun i hi => mem_valO (sub_l hi)
theorem or_pw {a b : Ev.E} (ha : Ok3 TB N kk a) (hb : Ok3 TB N kk b) {x y : Expr} {ys : List Expr} {pos : Pos} {op : BoolOp} {O O' : List Nat} {k : Kd} (g : Good TB N kk C X) (ht : tstOk (.or a b) = true) (c : chkE TB N (.or a b) X.env.scope (.BoolOp op (x :: y :: ys) pos) O = some (O', k)) :
    PW X (.BoolOp op (x :: y :: ys) pos) (tTs C O (.or a b) O') := by
  obtain ⟨xa, xb, rest, pos', r1, r2, e0, h1, h2, h3, e⟩ := v_or c
  cases e0
  cases e
  simp only [tstOk, Bool.and_eq_true] at ht
  have p1 := tr_sub (O1 := valO r1.1 r1.2) (ha.pt _ _ _ _ _ _ g ht.1 h1) fun i hi => mem_valO hi
  cases ys with
  | nil => exact tw_or p1 (pw_or1 (hb.pt _ _ _ _ _ _ g ht.2 (h2 rfl))) (fun i hi => sub_r hi) fun i hi => mem_valO (sub_l hi)
  | cons z zs => exact tw_or p1 (hb.pw _ _ _ _ _ _ _ _ _ _ g ht.2 (h3 (by simp))) (fun i hi => sub_r hi) fun i hi => mem_valO (sub_l hi)
theorem k_and {a b : Ev.E} (ha : Ok3 TB N kk a) (hb : Ok3 TB N kk b) : Ok3 TB N kk (.and a b) := ⟨fun C X ex O O' k g c => by
    obtain ⟨xa, xb, rest, pos, r1, r2, rfl, h1, h2, h3, e⟩ := v_and c
    cases e
    cases rest with
    | nil => exact s_and g.hK (ha.pe _ _ _ _ _ _ g h1) (pe_one (hb.pe _ _ _ _ _ _ g (h2 rfl)))
    | cons y ys => exact s_and g.hK (ha.pe _ _ _ _ _ _ g h1) (hb.pe _ _ _ _ _ _ g (h3 (by simp))), fun C X ex O O' k g ht c => by
    obtain ⟨xa, xb, rest, pos, r1, r2, rfl, h1, h2, h3, e⟩ := v_and c
    cases e
    exact (and_pw ha hb g ht c).pt, fun C X op x y ys pos O O' k g ht c => and_pw ha hb g ht c⟩
theorem k_or {a b : Ev.E} (ha : Ok3 TB N kk a) (hb : Ok3 TB N kk b) : Ok3 TB N kk (.or a b) := ⟨fun C X ex O O' k g c => by
    obtain ⟨xa, xb, rest, pos, r1, r2, rfl, h1, h2, h3, e⟩ := v_or c
    cases e
    cases rest with
    | nil => exact s_or g.hK (ha.pe _ _ _ _ _ _ g h1) (pe_one (hb.pe _ _ _ _ _ _ g (h2 rfl)))
    | cons y ys => exact s_or g.hK (ha.pe _ _ _ _ _ _ g h1) (hb.pe _ _ _ _ _ _ g (h3 (by simp))), fun C X ex O O' k g ht c => by
    obtain ⟨xa, xb, rest, pos, r1, r2, rfl, h1, h2, h3, e⟩ := v_or c
    cases e
    exact (or_pw ha hb g ht c).pt, fun C X op x y ys pos O O' k g ht c => or_pw ha hb g ht c⟩
theorem k_ite {d a b : Ev.E} (hd : Ok3 TB N kk d) (ha : Ok3 TB N kk a) (hb : Ok3 TB N kk b) : Ok3 TB N kk (.ite d a b) := ⟨fun C X ex O O' k g c => by
    obtain ⟨xc, xa, xb, pos, r1, r2, r3, rfl, ht, h1, h2, h3, e⟩ := v_ite c
    obtain ⟨O2, k2⟩ := r2
    obtain ⟨O3, k3⟩ := r3
    by_cases hk : k2 = .own ∧ k3 = .own
    · rw [if_pos hk] at e
      cases e
      obtain ⟨rfl, rfl⟩ := hk
      exact s_ite (hd.pt _ _ _ _ _ _ g ht h1) (own_sub (ha.pe _ _ _ _ _ _ g h2) fun i hi => sub_l hi) (own_sub (hb.pe _ _ _ _ _ _ g h3) fun i hi => sub_r hi)
    · rw [if_neg hk] at e
      cases e
      exact s_ite (hd.pt _ _ _ _ _ _ g ht h1) (vl_sub (ha.vl g h2) fun i hi => sub_l hi) (vl_sub (hb.vl g h3) fun i hi => sub_r hi), fun C X ex O O' k g ht' c => by
    obtain ⟨xc, xa, xb, pos, r1, r2, r3, rfl, ht, h1, h2, h3, e⟩ := v_ite c
    simp only [tstOk, Bool.and_eq_true] at ht'
    refine tr_sub (ts_ite (O2 := inter r2.1 r3.1) (hd.pt _ _ _ _ _ _ g ht h1) (tr_sub (ha.pt _ _ _ _ _ _ g ht'.1.2 h2) fun i hi => sub_l hi) (tr_sub (hb.pt _ _ _ _ _ _ g ht'.2 h3) fun i hi => sub_r hi)) fun i hi => ?_
    split at e
    · cases e; exact hi
    · cases e
      exact mem_inter.mpr ⟨mem_valO (sub_l hi), mem_valO (sub_r hi)⟩, fun C X op x y ys pos O O' k g ht c => by
    obtain ⟨xc, xa, xb, pos, r1, r2, r3, e, _⟩ := v_ite c
    cases e⟩
theorem k_call {f : Nat} {es : Ev.Es} (h : OkVs TB N kk es) : Ok3 TB N kk (.call f es) := .leaf (fun C X ex O O' k g c => by
    obtain ⟨x, p1, xs, p, fn, O1, rfl, hf, hx, hg, hok, hl, h1, e⟩ := v_call c
    cases e
    obtain ⟨af, fd, F, hm, hk, hb⟩ := g.fns _ _ hf
    obtain ⟨q1, q2, q3⟩ := h _ _ _ _ _ g h1
    subst hx
    rw [hl] at q1
    exact s_call F g.room (gl_of hg) hm hk hb g.pass hok q1 q2 fun z => ⟨(q3 z).1, (q3 z).2, by rw [← hl, z]; rfl⟩) fun sc ex O r c => by obtain ⟨x, p1, xs, p, fn, O1, rfl, _⟩ := v_call c; rfl
theorem bi_in (b : Bi) (h : b ≠ .gcd) : biName b ∈ biNames := by cases b <;> first | (exact absurd rfl h) | decide +kernel
theorem k_bi {b : Bi} {es : Ev.Es} (h : OkAs TB N kk es) : Ok3 TB N kk (.bi b es) := .leaf (fun C X ex O O' k g c => by
    obtain ⟨p1, y, ys, p, O1, rfl, hg, hgc, h1, e⟩ := v_bi c
    cases e
    obtain ⟨q1, q2⟩ := h _ _ _ _ _ g h1
    exact s_bi g.calm g.un g.hK (gl_of hg) (fun z => g.bn _ (bi_in b z)) (fun z => g.gcd (hgc z)) q1 q2) fun sc ex O r c => by obtain ⟨p1, y, ys, p, O1, rfl, _⟩ := v_bi c; rfl
theorem ty_in (t : Ty) : tyName t ∈ biNames := by cases t <;> decide +kernel
theorem k_isi {a : Ev.E} {t : Ty} (ha : Ok3 TB N kk a) : Ok3 TB N kk (.isi a t) := .leaf (fun C X ex O O' k g c => by
    obtain ⟨p1, xa, p2, p, r1, rfl, hp, hg, hg2, h1, e⟩ := v_isi c
    cases e
    exact s_isi g.hK (gl_of hg) (g.bn _ (by decide +kernel)) (gl_of hg2) (g.bn _ (ty_in t)) hp (ha.pe _ _ _ _ _ _ g h1)) fun sc ex O r c => by obtain ⟨p1, xa, p2, p, r1, rfl, _⟩ := v_isi c; rfl
theorem k_idx {a i : Ev.E} (ha : Ok3 TB N kk a) (hi : Ok3 TB N kk i) : Ok3 TB N kk (.idx a i) := .leaf (fun C X ex O O' k g c => by
    obtain ⟨xa, xi, p, r1, r2, rfl, hn, h1, h2, e⟩ := v_idx c
    cases e
    exact s_idx g.hK g.un hn (ha.pe _ _ _ _ _ _ g h1) (hi.pe _ _ _ _ _ _ g h2)) fun sc ex O r c => by obtain ⟨xa, xi, p, r1, r2, rfl, _⟩ := v_idx c; rfl
def OkO (TB : Tab) (N : List Str) (kk : Nat) (e : Ev.EO) : Prop := ∀ C X xe O O', Good TB N kk C X → chkO TB N e X.env.scope xe O = some O' → PO X xe (tPa C O e O')
theorem k_onone : OkO TB N kk .none := fun C X xe O O' g c => by
  cases xe <;> first | (simp [chkO] at c; done) | skip
  simp only [chkO, Option.some.injEq] at c
  subst c
  exact s_onone
theorem k_osome {e : Ev.E} (h : Ok3 TB N kk e) : OkO TB N kk (.some e) := fun C X xe O O' g c => by
  cases xe <;> first | (simp [chkO] at c; done) | skip
  simp only [chkO, Option.map_eq_some_iff] at c
  obtain ⟨r1, h1, rfl⟩ := c
  exact s_osome (h.pe _ _ _ _ _ _ g h1)
theorem k_slc {a : Ev.E} {lo hi : Ev.EO} (ha : Ok3 TB N kk a) (hl : OkO TB N kk lo) (hh : OkO TB N kk hi) : Ok3 TB N kk (.slc a lo hi) := .leaf (fun C X ex O O' k g c => by
    obtain ⟨xa, xl, xh, p2, p, r1, O1, O2, rfl, h1, h2, h3, e⟩ := v_slc c
    cases e
    exact s_slc g.hK (ha.pe _ _ _ _ _ _ g h1) (hl _ _ _ _ _ g h2) (hh _ _ _ _ _ g h3)) fun sc ex O r c => by obtain ⟨xa, xl, xh, p2, p, r1, O1, O2, rfl, _⟩ := v_slc c; rfl
def OkC (TB : Tab) (N : List Str) (kk : Nat) (e : Ev.EO) : Prop := ∀ C X xs O O', Good TB N kk C X → chkC TB N e X.env.scope xs O = some O' → PTs X xs (tTr C O (denC C.F C.G e) O')
theorem k_cnone : OkC TB N kk .none := fun C X xs O O' g c => by
  cases xs <;> first | (simp [chkC] at c; done) | skip
  simp only [chkC, Option.some.injEq] at c
  subst c
  refine pts_nil.imp fun σ H Q q => ?_
  obtain ⟨w, ρ, o, r, f⟩ := q
  exact f w H (.refl w) r
theorem k_csome {e : Ev.E} (h : Ok3 TB N kk e) : OkC TB N kk (.some e) := fun C X xs O O' g c => by
  match xs with
  | [] => simp [chkC] at c
  | _ :: _ :: _ => simp [chkC] at c
  | [x] =>
    simp only [chkC] at c
    split at c
    · rename_i ht
      rw [Option.map_eq_some_iff] at c
      obtain ⟨r1, h1, rfl⟩ := c
      exact pts_one (h.pt _ _ _ _ _ _ g ht h1)
    · cases c
def OkI0 (TB : Tab) (N : List Str) (kk : Nat) (it : Ev.I) : Prop := ∀ C X xt xi O O', Good TB N kk C X → chkI TB N it X.env.scope xt xi O = some O' → PI X xt xi (tI C O it O')
def OkI (TB : Tab) (N : List Str) (kk : Nat) (it : Ev.I) : Prop := ∀ C X xt xi O O', Good TB N kk C X → chkI TB N it X.env.scope xt xi O = some O' → (noOwn it = true → PI X xt xi (tI C O it O')) ∧ PI X xt xi (tIp C O it O')
theorem k_pin {it : Ev.I} (h : OkI0 TB N kk it) : OkI TB N kk it := fun C X xt xi O O' g c => ⟨fun _ => h C X xt xi O O' g c, (h C X xt xi O O' g c).imp fun σ H Q q => tIp_imp q⟩
theorem k_own {i : Nat} : OkI TB N kk (.own i) := fun C X xt xi O O' g c => by
  unfold chkI at c
  split at c <;> first | (cases c; done) | (rename_i h; cases h; done) | (rename_i h _; cases h; done) | skip
  rename_i hq
  cases hq
  split at c
  · rename_i h
    cases c
    exact ⟨fun z => (by cases z), s_own g.hK (by rw [g.hN]; exact h.1) (vis_of h.2.1) h.2.2⟩
  · cases c
theorem k_seq {a : Ev.E} (ha : Ok3 TB N kk a) : OkI0 TB N kk (.seq a) := fun C X xt xi O O' g c => by
  simp only [chkI, Option.map_eq_some_iff] at c
  obtain ⟨r1, h1, rfl⟩ := c
  exact s_seq g.hK (ha.pe _ _ _ _ _ _ g h1)
theorem k_rng1 {a : Ev.E} (ha : Ok3 TB N kk a) : OkI0 TB N kk (.rng1 a) := fun C X xt xi O O' g c => by
  unfold chkI at c
  split at c <;> first | (cases c; done) | (rename_i h; cases h; done) | (rename_i h _; cases h; done) | skip
  rename_i hq
  cases hq
  split at c
  · rename_i h
    obtain ⟨h0, h1, h2⟩ := h
    subst h0
    rw [Option.map_eq_some_iff] at c
    obtain ⟨r1, h3, rfl⟩ := c
    exact s_rng1 (gl_of h1) (g.bn _ (by decide +kernel)) h2 (ha.pe _ _ _ _ _ _ g h3)
  · cases c
theorem k_rng2 {a b : Ev.E} (ha : Ok3 TB N kk a) (hb : Ok3 TB N kk b) : OkI0 TB N kk (.rng2 a b) := fun C X xt xi O O' g c => by
  unfold chkI at c
  split at c <;> first | (cases c; done) | (rename_i h; cases h; done) | (rename_i h _; cases h; done) | skip
  rename_i hq
  cases hq
  split at c
  · rename_i h
    obtain ⟨h0, h1, h2, h3⟩ := h
    subst h0
    simp only [Option.bind_eq_some_iff, Option.map_eq_some_iff] at c
    obtain ⟨r1, h4, r2, h5, rfl⟩ := c
    exact s_rng2 (gl_of h1) (g.bn _ (by decide +kernel)) h2 h3 (ha.pe _ _ _ _ _ _ g h4) (hb.pe _ _ _ _ _ _ g h5)
  · cases c
theorem k_zip {a b : Ev.E} (ha : Ok3 TB N kk a) (hb : Ok3 TB N kk b) : OkI0 TB N kk (.zip a b) := fun C X xt xi O O' g c => by
  unfold chkI at c
  split at c <;> first | (cases c; done) | (rename_i h; cases h; done) | (rename_i h _; cases h; done) | skip
  rename_i hq
  cases hq
  split at c
  · rename_i h
    obtain ⟨h0, h1, h2, h3⟩ := h
    subst h0
    simp only [Option.bind_eq_some_iff, Option.map_eq_some_iff] at c
    obtain ⟨r1, h4, r2, h5, rfl⟩ := c
    exact s_zip g.hK (gl_of h1) (g.bn _ (by decide +kernel)) h2 h3 (ha.pe _ _ _ _ _ _ g h4) (hb.pe _ _ _ _ _ _ g h5)
  · cases c
theorem k_enu {a : Ev.E} (ha : Ok3 TB N kk a) : OkI0 TB N kk (.enu a) := fun C X xt xi O O' g c => by
  unfold chkI at c
  split at c <;> first | (cases c; done) | (rename_i h; cases h; done) | (rename_i h _; cases h; done) | skip
  rename_i hq
  cases hq
  split at c
  · rename_i h
    obtain ⟨h0, h1, h2⟩ := h
    subst h0
    rw [Option.map_eq_some_iff] at c
    obtain ⟨r1, h3, rfl⟩ := c
    exact s_enu g.hK (gl_of h1) (g.bn _ (by decide +kernel)) h2 (ha.pe _ _ _ _ _ _ g h3)
  · cases c
theorem folded_of {xi : Expr} (h : plainE xi = true) (env : PySem.Env) : ∀ x, foldedSetIterable xi env x = pure x := by
  intro x
  cases xi <;> first | rfl | (simp [plainE] at h)
theorem k_comp {elt : Ev.E} {t : Ev.T} {it : Ev.I} {d : Ev.EO} (he : Ok3 TB N kk elt) (hi : OkI TB N kk it) (hd : OkC TB N kk d) : Ok3 TB N kk (.comp elt t it d) := .leaf (fun C X ex O O' k g c => by
    obtain ⟨xe, xt, xi, xc, scope, p, O1, O3, r1, O5, q, rfl, h1, hp, ht, hb, ho, h2, h3, h4, h5, s1, s2, e⟩ := v_comp c
    cases e
    refine s_comp (O5 := O5) g.hK g.calm (by rw [g.hN]; exact g.nd) (hi _ _ _ _ _ _ g h1).2 (blkOk_by (by rw [g.hN]; exact hb)) ho (fun i hi => ?_) s2 (fun s H A cl fp => ?_) (fun z s H A cl fp => ?_) (fun z s H A cl fp => ?_) (folded_of hp _)
    · exact mem_rms.mp (sub_r hi)
    · have := s_tgt (X := X.blk s H scope (compEnvC scope cl A X.env) fp) (by rw [show (X.blk s H scope (compEnvC scope cl A X.env) fp).N = X.N from rfl, g.hN]; exact g.nd) g.hN g.calm loc_blk ht
      rwa [show (X.blk s H scope (compEnvC scope cl A X.env) fp).K = C.K from g.hK] at this
    · exact hd _ _ _ _ _ g.inn h4
    · exact vl_sub (he.vl g.inn h5) s1) fun sc ex O r c => by obtain ⟨xe, xt, xi, xc, scope, p, O1, O3, r1, O5, q, rfl, _⟩ := v_comp c; rfl
theorem k_dic {k1 k2 k3 k4 : Str} {a b e d : Ev.E} (ha : Ok3 TB N kk a) (hb : Ok3 TB N kk b) (he : Ok3 TB N kk e) (hd : Ok3 TB N kk d) : Ok3 TB N kk (.dic k1 k2 k3 k4 a b e d) := .leaf (fun C X ex O O' k g c => by
    obtain ⟨n1, p1, n2, p2, n3, p3, n4, p4, xa, xb, xc, xd, p, r1, r2, r3, r4, rfl, hn, h1, h2, h3, h4, e⟩ := v_dic c
    cases e
    exact s_dic hn (fun z => ha.vl g.pz h1) (fun z => hb.vl g.pz h2) (fun z => he.vl g.pz h3) fun z => hd.vl g.pz h4) fun sc ex O r c => by obtain ⟨n1, p1, n2, p2, n3, p3, n4, p4, xa, xb, xc, xd, p, r1, r2, r3, r4, rfl, _⟩ := v_dic c; rfl
theorem k_mth {m : Mt} {a e : Ev.E} (ha : Ok3 TB N kk a) (he : Ok3 TB N kk e) : Ok3 TB N kk (.mth m a e) := .leaf (fun C X ex O O' k g c => by
    obtain ⟨xa, apos, xe, p, r1, r2, rfl, hr, hp, hl, h1, h2, e⟩ := v_mth c
    cases e
    cases m
    exact s_join g.hK hr hp hl (ha.pe _ _ _ _ _ _ g h1) (he.pe _ _ _ _ _ _ g h2)) fun sc ex O r c => by obtain ⟨xa, apos, xe, p, r1, r2, rfl, _⟩ := v_mth c; rfl
theorem k_hpop {a : Ev.E} (ha : Ok3 TB N kk a) : Ok3 TB N kk (.hpop a) := .leaf (fun C X ex O O' k g c => by
    obtain ⟨xa, apos, n2, p2, p, O1, rfl, hr, hl, h1, e⟩ := v_hpop c
    cases e
    exact s_hpop g.hK hr hl (ha.pe _ _ _ _ _ _ g h1)) fun sc ex O r c => by obtain ⟨xa, apos, n2, p2, p, O1, rfl, _⟩ := v_hpop c; rfl
theorem hp_no {a : Ev.E} {x y : Expr} {ys : List Expr} {pos : Pos} {op : BoolOp} {sc : Scope} {O O' : List Nat} (c : chkE TB N a sc (.BoolOp op (x :: y :: ys) pos) O = some (O', .own)) : False := by
  cases a with
  | int _ => obtain ⟨_, _, _, e, _⟩ := v_int c; cases e
  | str _ => obtain ⟨_, _, _, e, _⟩ := v_str c; cases e
  | bl _ => obtain ⟨_, _, _, e, _⟩ := v_bl c; cases e
  | non => obtain ⟨_, _, e, _⟩ := v_non c; cases e
  | var _ => obtain ⟨_, _, e, _⟩ := v_var c; cases e
  | glb _ => obtain ⟨_, _, e, _⟩ := v_glb c; cases e
  | tup _ => obtain ⟨_, _, _, _, e, _⟩ := v_tup c; cases e
  | lst _ => obtain ⟨_, _, _, e, _⟩ := v_lst c; cases e
  | bin _ _ _ => obtain ⟨_, _, _, _, _, _, e, _⟩ := v_bin c; cases e
  | neg _ => obtain ⟨_, _, _, e, _⟩ := v_neg c; cases e
  | not _ => obtain ⟨_, _, _, e, _⟩ := v_not c; cases e
  | cmp _ _ _ => obtain ⟨_, _, _, _, _, _, e, _⟩ := v_cmp c; cases e
  | chn _ _ _ _ _ => obtain ⟨_, _, _, _, _, _, _, _, _, e, _⟩ := v_chn c; cases e
  | and _ _ => obtain ⟨_, _, _, _, _, _, _, _, _, _, e⟩ := v_and c; cases e
  | or _ _ => obtain ⟨_, _, _, _, _, _, _, _, _, _, e⟩ := v_or c; cases e
  | ite _ _ _ => obtain ⟨_, _, _, _, _, _, _, e, _⟩ := v_ite c; cases e
  | call _ _ => obtain ⟨_, _, _, _, _, _, e, _⟩ := v_call c; cases e
  | bi _ _ => obtain ⟨_, _, _, _, _, e, _⟩ := v_bi c; cases e
  | isi _ _ => obtain ⟨_, _, _, _, _, e, _⟩ := v_isi c; cases e
  | idx _ _ => obtain ⟨_, _, _, _, _, e, _⟩ := v_idx c; cases e
  | slc _ _ _ => obtain ⟨_, _, _, _, _, _, _, _, e, _⟩ := v_slc c; cases e
  | comp _ _ _ _ => obtain ⟨_, _, _, _, _, _, _, _, _, _, _, e, _⟩ := v_comp c; cases e
  | dic _ _ _ _ _ _ _ _ => obtain ⟨_, _, _, _, _, _, _, _, _, _, _, _, _, _, _, _, _, e, _⟩ := v_dic c; cases e
  | mth _ _ _ => obtain ⟨_, _, _, _, _, _, e, _⟩ := v_mth c; cases e
  | hpop _ => obtain ⟨_, _, _, _, _, _, e, _⟩ := v_hpop c; cases e
  | hp _ => obtain ⟨_, _, e⟩ := v_hp c; cases e
  | bad => exact v_bad c
theorem k_hp {a : Ev.E} (ha : Ok3 TB N kk a) : Ok3 TB N kk (.hp a) := ⟨fun C X ex O O' k g c => by
    obtain ⟨O1, h1, e⟩ := v_hp c
    cases e
    exact s_hp (ha.pe _ _ _ _ _ _ g h1), fun C X ex O O' k g ht c => (by cases ht), fun C X op x y ys pos O O' k g ht c => (by cases ht)⟩
theorem k_bad : Ok3 TB N kk .bad := ⟨fun C X ex O O' k g c => (v_bad c).elim, fun C X ex O O' k g ht c => (v_bad c).elim, fun C X op x y ys pos O O' k g ht c => (v_bad c).elim⟩
variable (TB N kk)
mutual
theorem okE : ∀ e : Ev.E, Ok3 TB N kk e
  | .int i => k_int i
  | .str i => k_str i
  | .bl i => k_bl i
  | .non => k_non
  | .var i => k_var i
  | .glb i => k_glb i
  | .tup es => k_tup (okVs es)
  | .lst es => k_lst (okVs es)
  | .bin _ a b => k_bin (okE a) (okE b)
  | .neg a => k_neg (okE a)
  | .not a => k_not (okE a)
  | .cmp _ a b => k_cmp (okE a) (okE b)
  | .chn _ _ a b c => k_chn (okE a) (okE b) (okE c)
  | .and a b => k_and (okE a) (okE b)
  | .or a b => k_or (okE a) (okE b)
  | .ite c a b => k_ite (okE c) (okE a) (okE b)
  | .call _ es => k_call (okVs es)
  | .bi _ es => k_bi (okAs es)
  | .isi a _ => k_isi (okE a)
  | .idx a i => k_idx (okE a) (okE i)
  | .slc a lo hi => k_slc (okE a) (okO lo) (okO hi)
  | .comp e _ it c => k_comp (okE e) (okI it) (okC c)
  | .dic _ _ _ _ a b c d => k_dic (okE a) (okE b) (okE c) (okE d)
  | .mth _ a e => k_mth (okE a) (okE e)
  | .hpop a => k_hpop (okE a)
  | .hp a => k_hp (okE a)
  | .bad => k_bad
theorem okVs : ∀ es : Ev.Es, OkVs TB N kk es
  | .nil => k_vnil
  | .cons e es => k_vcons (okE e) (okVs es)
theorem okAs : ∀ es : Ev.Es, OkAs TB N kk es
  | .nil => k_anil
  | .cons e es => k_acons (okE e) (okAs es)
theorem okO : ∀ e : Ev.EO, OkO TB N kk e
  | .none => k_onone
  | .some e => k_osome (okE e)
theorem okC : ∀ e : Ev.EO, OkC TB N kk e
  | .none => k_cnone
  | .some e => k_csome (okE e)
theorem okI : ∀ i : Ev.I, OkI TB N kk i
  | .seq a => k_pin (k_seq (okE a))
  | .own i => k_own
  | .rng1 a => k_pin (k_rng1 (okE a))
  | .rng2 a b => k_pin (k_rng2 (okE a) (okE b))
  | .zip a b => k_pin (k_zip (okE a) (okE b))
  | .enu a => k_pin (k_enu (okE a))
end
end
end Ev

/-! statements: the check, the reading, one rule for each kind -/
namespace Ev
open PySem L2 PySem.Spec PyProof.Rows
inductive Fl where
  | dead | at (O : List Nat)
def Fl.join : Fl → Fl → Fl
  | .dead, b => b
  | .at a, .dead => .at a
  | .at a, .at b => .at (inter a b)
/-- F' asks for less -/
def FlLe (F' F : Fl) : Prop := ∀ O, F = .at O → ∃ O', F' = .at O' ∧ ∀ i, i ∈ O' → i ∈ O
theorem FlLe.refl (F : Fl) : FlLe F F := fun O e => ⟨O, e, fun _ h => h⟩
theorem fl_l (a b : Fl) : FlLe (a.join b) a := by
  cases a with
  | dead => intro O e; cases e
  | «at» a =>
    cases b with
    | dead => exact .refl _
    | «at» b => intro O e; cases e; exact ⟨_, rfl, fun i h => sub_l h⟩
theorem fl_r (a b : Fl) : FlLe (a.join b) b := by
  cases a with
  | dead => exact .refl _
  | «at» a =>
    cases b with
    | dead => intro O e; cases e
    | «at» b => intro O e; cases e; exact ⟨_, rfl, fun i h => sub_r h⟩
def meetF (L : List Nat) : Fl → List Nat
  | .dead => L
  | .at a => inter L a
def fixL (f : List Nat → Option (Fl × Fl)) (O : List Nat) : Option (List Nat) := (f O).bind fun F =>
  let L := meetF (meetF O F.1) F.2
  if (∀ i ∈ O, i ∈ L) then some O else (f L).bind fun F =>
  let L2 := meetF (meetF L F.1) F.2
  if (∀ i ∈ L, i ∈ L2) then some L else (f L2).bind fun F =>
  let L3 := meetF (meetF L2 F.1) F.2
  if (∀ i ∈ L2, i ∈ L3) then some L2 else none
theorem meet_sub {L : List Nat} {F : Fl} {i : Nat} (h : i ∈ meetF L F) : i ∈ L := by
  cases F with
  | dead => exact h
  | «at» a => exact sub_l h
theorem meet_le {L : List Nat} {F F2 : Fl} (h : ∀ i ∈ L, i ∈ meetF (meetF L F) F2) : FlLe (.at L) F ∧ FlLe (.at L) F2 := by
  refine ⟨fun O e => ⟨L, rfl, fun i hi => ?_⟩, fun O e => ⟨L, rfl, fun i hi => ?_⟩⟩
  · subst e
    exact sub_r (meet_sub (h i hi))
  · subst e
    exact sub_r (h i hi)
theorem fix_of {f : List Nat → Option (Fl × Fl)} {O L : List Nat} (h : fixL f O = some L) : ∃ F, f L = some F ∧ (∀ i ∈ L, i ∈ O) ∧ FlLe (.at L) F.1 ∧ FlLe (.at L) F.2 := by
  unfold fixL at h
  rw [Option.bind_eq_some_iff] at h
  obtain ⟨F, e1, h⟩ := h
  simp only at h
  split at h
  · rename_i hs
    cases h
    exact ⟨F, e1, fun i hi => hi, meet_le hs⟩
  · rw [Option.bind_eq_some_iff] at h
    obtain ⟨F2, e2, h⟩ := h
    split at h
    · rename_i hs
      cases h
      exact ⟨F2, e2, fun i hi => meet_sub (meet_sub hi), meet_le hs⟩
    · rw [Option.bind_eq_some_iff] at h
      obtain ⟨F3, e3, h⟩ := h
      split at h
      · rename_i hs
        cases h
        exact ⟨F3, e3, fun i hi => meet_sub (meet_sub (meet_sub (meet_sub hi))), meet_le hs⟩
      · cases h

/-! ### the check -/
def asgO (O : List Nat) (k : Kd) (i : Nat) : List Nat := match k with
  | .val => rm O i
  | .own => i :: rm O i
  | .slot j => rm (rm O j) i
def swB (sc : Scope) (t : Str) (p : Pos) : Expr → Bool
  | .ListComp _ _ s vp => sc.names.lookup t == some .local && p.line == vp.line && !(s.names.any fun y => y.1 == t && (y.2 == .local || y.2 == .cell))
  | _ => false
/-- no comprehension of a set, of a dict -/
def noSD : Expr → Bool
  | .SetComp .. => false
  | .DictComp .. => false
  | _ => true
def namesOf (sc : Scope) (line : Nat) (ts : List Expr) : List Str := ts.filterMap fun
    | .Name id pos => if sc.names.lookup id == some .local && pos.line == line then some id else none
    | _ => none
def swN (sc : Scope) : Expr → Expr → Bool
  | .Tuple ts _ _, .Tuple vs _ _ => !(ts.length == 2 || ts.length == 3) || (namesOf sc ((ts.head?.map (·.pos.line)).getD 0) ts).length != ts.length
  | .List .., _ => false
  | _, _ => true
def parB (sc : Scope) (x y : Str) (px py : Pos) (xa xb : Expr) : Bool := decide (x ≠ y) && (sc.names.lookup x == some .local) && (sc.names.lookup y == some .local) && (py.line == px.line) && plainE xa && plainE xb && !([xa, xb].all (foldedForSure 8)) && !([xa, xb].all (constantsAlone 8))
/-- two names of which one is a cell -/
def par2B (sc : Scope) (x y : Str) (px py : Pos) (xa xb : Expr) : Bool := locB sc x && locB sc y && plainE xa && plainE xb && ((namesOf sc px.line [.Name x px, .Name y py]).length != 2)
def parO (o1 o2 : Bool) (O : List Nat) (i j : Nat) : List Nat := asgO (if o1 = true then i :: rm O i else rm O i) (if o2 = true then .own else .val) j
def chkRet (fr : Bool) (r : List Nat × Kd) : Bool := if fr then (match r.2 with
  | .own => true
  | .slot i => decide (i ∈ r.1)
  | .val => false) else true
section
variable (TB : Tab) (N : List Str) (fr : Bool)
mutual
def chkS : S → Scope → Stmt → List Nat → Option (Fl × Fl)
  | .asg (.one i) e, sc, .Assign [.Name x p] ex _, O => if N[i]? = some x ∧ locB sc x = true ∧ noSD ex = true then (chkE TB N e sc ex O).map fun r => (.at (asgO r.1 r.2 i), .dead) else none
  | .asg (.many is) e, sc, .Assign [tg] ex _, O => if chkT N (locB sc) (.many is) tg = true ∧ noSD ex = true ∧ swN sc tg ex = true then (chkE TB N e sc ex O).map fun r => (.at (rms (valO r.1 r.2) is), .dead) else none
  | .par i j a b, sc, .Assign [.Tuple [.Name x px, .Name y py] kt pt] (.Tuple [xa, xb] k2 pt2) _, O => if N[i]? = some x ∧ N[j]? = some y ∧ i ≠ j ∧ (parB sc x y px py xa xb = true ∨ par2B sc x y px py xa xb = true) then
      (chkE TB N a sc xa O).bind fun r => (chkE TB N b sc xb (valO r.1 r.2)).map fun q => (.at (parO (decide (r.2 = .own)) (decide (q.2 = .own)) (valO q.1 q.2) i j), .dead) else none
  | .sto i ix e, sc, .Assign [.Subscript (.Name x _) xi _] ex _, O => if N[i]? = some x ∧ visB sc x = true ∧ okN x = true ∧ noSlice xi = true then (chkE TB N e sc ex O).bind fun r => (chkE TB N ix sc xi (valO r.1 r.2)).bind fun q => if i ∈ q.1 ∧ i ∈ valO r.1 r.2 then some (.at q.1, .dead) else none else none
  | .stoP i ix jx a b, sc, .Assign [.Tuple [.Subscript (.Name x _) xi _, .Subscript (.Name y _) xj _] _ _] (.Tuple [xa, xb] _ _) _, O => if N[i]? = some x ∧ x = y ∧ visB sc x = true ∧ okN x = true ∧ plainE xa = true ∧ plainE xb = true ∧ noSlice xi = true ∧ noSlice xj = true then
      (chkE TB N a sc xa O).bind fun r => (chkE TB N b sc xb (valO r.1 r.2)).bind fun q => (chkE TB N ix sc xi (valO q.1 q.2)).bind fun s => (chkE TB N jx sc xj s.1).bind fun t => if i ∈ t.1 ∧ i ∈ s.1 ∧ i ∈ valO q.1 q.2 then some (.at t.1, .dead) else none else none
  | .dst m k e, sc, .Assign [.Subscript xm xk _] ex _, O => if noSlice xk = true then (chkE TB N e sc ex O).bind fun r => (chkE TB N m sc xm (valO r.1 r.2)).bind fun q => (chkE TB N k sc xk q.1).map fun s => (.at s.1, .dead) else none
  | .app i e, sc, .Expr (.Call (.Attribute (.Name x _) nm apos) [ex] [] cpos) _, O => if N[i]? = some x ∧ visB sc x = true ∧ okN x = true ∧ nm = "append" ∧ plainE ex = true ∧ (apos.endLine == cpos.line) = true ∧ i ∈ O then (chkE TB N e sc ex O).bind fun r => if i ∈ valO r.1 r.2 then some (.at (valO r.1 r.2), .dead) else none else none
  | .ext i e, sc, .Expr (.Call (.Attribute (.Name x _) nm apos) [ex] [] cpos) _, O => if N[i]? = some x ∧ visB sc x = true ∧ okN x = true ∧ nm = "extend" ∧ plainE ex = true ∧ (apos.endLine == cpos.line) = true ∧ i ∈ O then (chkE TB N e sc ex O).bind fun r => if i ∈ r.1 then some (.at r.1, .dead) else none else none
  | .exp e, sc, .Expr ex _, O => match ex with
    | .ListComp .. => none
    | _ => if noSD ex = true then (chkE TB N e sc ex O).map fun r => (.at r.1, .dead) else none
  | .ite c a b, sc, .If xc sa sb _, O => if tstOk c = true then (chkE TB N c sc xc O).bind fun r => (chkSs a sc sa r.1).bind fun p => (chkSs b sc sb r.1).map fun q => (p.1.join q.1, p.2.join q.2) else none
  | .for t it b, sc, .For tg xi sb [] _, O => if plainE xi = true ∧ chkT N (locB sc) t tg = true ∧ noOwn it = true then (chkI TB N it sc tg xi O).bind fun O1 => (fixL (fun L => chkSs b sc sb (rms L t.own)) O1).map fun L => (.at L, .dead) else none
  | .whl c b, sc, .While xc sb [] _, O => if tstOk c = true then (fixL (fun L => (chkE TB N c sc xc L).bind fun r => chkSs b sc sb r.1) O).bind fun L => (chkE TB N c sc xc L).map fun r => (.at r.1, .dead) else none
  | .ret e, sc, .Return (some ex) _, O => (chkE TB N e sc ex O).bind fun r => if chkRet fr r = true then some (.dead, .dead) else none
  | .retN, _, .Return none _, _ => if fr = true then none else some (.dead, .dead)
  | .cont, _, .Continue _, O => some (.dead, .at O)
  | .pass, _, .Pass _, O => some (.at O, .dead)
  | .bad, _, _, _ => some (.dead, .dead)
  | _, _, _, _ => none
def chkSs : Ss → Scope → List Stmt → List Nat → Option (Fl × Fl)
  | .nil, _, [], O => some (.at O, .dead)
  | .cons s ss, sc, st :: sts, O => (chkS s sc st O).bind fun F => match F.1 with
    | .dead => some (.dead, F.2)
    | .at O1 => (chkSs ss sc sts O1).map fun F2 => (F2.1, F.2.join F2.2)
  | _, _, _, _ => none
end
end

/-! ### the reading -/
def tS (C : Cn) (fr : Bool) (O : List Nat) (m : Env → Os → Res Out) (F : Fl × Fl) : TS := fun D σ H => ∃ w ρ o, R C.K C.b O w σ ρ H o ∧ Fin (m ρ o) (fun r o' => match r with
  | .nx ρ' => ∀ O', F.1 = .at O' → ∀ σ' w' H', W.Le w w' → R C.K C.b O' w' σ' ρ' H' o' → D.nx σ' H'
  | .ct ρ' => ∀ O', F.2 = .at O' → ∀ σ' w' H', W.Le w w' → R C.K C.b O' w' σ' ρ' H' o' → D.ct σ' H'
  | .ret d => ∀ v w' H', Post C.b w' H' → HR C.K w' H' o' → RetV C.K fr C.b.w C.b.H w' H' v d → D.rt v H') C.exn
section
variable {C : Cn} {X : Cx} {fr : Bool} {O O' O1 O2 O3 : List Nat} {k k1 k2 k3 : Kd} {w : W} {σ : L2.St} {ρ : Env} {H : Hp} {o : Os}
variable {ex xa xb xc tg : Expr} {e a b c : Ev.E} {pos : Pos} {st : Stmt} {sts : List Stmt} {F F1 F2 F3 : Fl × Fl}
theorem fin_mono {α : Type} {r : Res α} {P P' : α → Os → Prop} {Q : D → Os → Prop} (h : Fin r P Q) (f : ∀ a o, P a o → P' a o) : Fin r P' Q := h.imp f
/-- a state put in -/
theorem ts_nx {D : Ends} {w0 : W} {ρ' : Env} {o' : Os} {O' : List Nat} {Fc : Fl} (f : Fin (Res.ok (Out.nx ρ') o') (fun r o' => match r with
  | .nx ρ' => ∀ O', (Fl.at O', Fc).1 = .at O' → ∀ σ' w' H', W.Le w0 w' → R C.K C.b O' w' σ' ρ' H' o' → D.nx σ' H'
  | .ct ρ' => ∀ O', (Fl.at O', Fc).2 = .at O' → ∀ σ' w' H', W.Le w0 w' → R C.K C.b O' w' σ' ρ' H' o' → D.ct σ' H'
  | .ret d => ∀ v w' H', Post C.b w' H' → HR C.K w' H' o' → RetV C.K fr C.b.w C.b.H w' H' v d → D.rt v H') C.exn) {w' : W} {σ' : L2.St} {H' : Hp} (l : W.Le w0 w') (r : R C.K C.b O' w' σ' ρ' H' o') : D.nx σ' H' := f O' rfl σ' w' H' l r

theorem store_kv {i : Nat} {v : V} {d : D} (r : R C.K C.b O w σ ρ H o) (kv : KV C k O w σ ρ H v d) : ∃ w', W.Le w w' ∧ R C.K C.b (asgO O k i) w' (σ.set i (some v)) (ρ.set i (some d)) H o := by
  cases k with
  | val => exact ⟨w, .refl w, r.put kv⟩
  | own => obtain ⟨ow, ap, az⟩ := kv; exact ⟨w, .refl w, r.putOwn ow ap az⟩
  | slot j =>
    obtain ⟨e1, e2, _⟩ := kv
    obtain ⟨w2, l2, r2⟩ := r.leak (O' := rm O j) fun j hj => (mem_rm.mp hj).1
    obtain ⟨v', e3, _, re⟩ := r2.loc j d e2
    rw [e1] at e3; cases e3
    exact ⟨w2, l2, r2.put (re fun z => (mem_rm.mp z).2 rfl)⟩
theorem sw_none {env : PySem.Env} (hk : env.scope.kind = .function) {t : Str} {p : Pos} {line : Nat} (h : noSD ex = true) : swapsWith ex (some (.Name t p)) line env = pure (swB env.scope t p ex) := by
  cases ex <;> first | rfl | (simp [noSD] at h; done) | skip
  rename_i a b s vp
  unfold swapsWith swB PySem.Env.blockKind PySem.Env.kindOf
  simp only [hk]
  rfl
theorem sw_sub {env : PySem.Env} {x y : Expr} {p : Pos} {line : Nat} : swapsWith ex (some (.Subscript x y p)) line env = pure false := by
  cases ex <;> rfl
theorem sw_tup {env : PySem.Env} {xs : List Expr} {kk : Nat} {p : Pos} {line : Nat} : swapsWith ex (some (.Tuple xs kk p)) line env = pure false := by
  cases ex <;> rfl
end
end Ev

/-! statements: the rules -/
namespace Ev
open PySem L2 PySem.Spec PyProof.Rows
structure GoodS (TB : Tab) (N : List Str) (kk : Nat) (C : Cn) (X : Cx) : Prop where
  g : Good TB N kk C X
  kind : X.env.scope.kind = ScopeKind.function
  fn : ∀ x, X.fn x = true
  po : PassesOwn (model X.prog X.w) X.A X.env X.xe
section
variable {TB : Tab} {N : List Str} {kk : Nat}
variable {C : Cn} {X : Cx} {fr : Bool} {O O' O1 O2 O3 : List Nat} {k k1 k2 k3 : Kd} {w : W} {σ : L2.St} {ρ : Env} {H : Hp} {o : Os}
variable {ex xa xb xc tg : Expr} {e a b c : Ev.E} {pos : Pos} {st : Stmt} {sts : List Stmt} {F F1 F2 F3 : Fl × Fl}
theorem Good.ndX (g : Good TB N kk C X) : X.N.Nodup := by rw [g.hN]; exact g.nd
theorem GoodS.loc (g : GoodS TB N kk C X) (x : Str) (h : locB X.env.scope x = true) : L2.Loc X.env.scope x ∧ (X.fn x = true ∨ X.env.scope.names.lookup x = some .local) := ⟨loc_of h, .inl (g.fn x)⟩

/-! ### a value into a name -/
theorem hp_imp {Q : VK} (q : tE C O (.hp a) O1 .val σ H Q) : tE C O a O1 .own σ H Q := by
  obtain ⟨w, ρ, o, r, f⟩ := q
  refine ⟨w, ρ, o, r, (fin_bind f).imp fun dd o1 g v w1 H1 l1 r1 p1 => ?_⟩
  obtain ⟨p, vs, ds, rfl, rfl, e, q, r2, hZ⟩ := r1.ofOwn p1
  obtain ⟨r3, hp⟩ := r2.forget hZ
  obtain ⟨w4, l4, r4, p4⟩ := r3.newOb (u := .lst vs) (c := .lst ds) hp fun w' l => ⟨vs, upd_same, q.mono l⟩
  rw [rub_upd, upd_self e] at r4
  exact g _ w4 H1 (l1.trans l4) r4 p4
theorem set_comp {elt : Ev.E} {t : Ev.T} {it : Ev.I} {d : Ev.EO} {i : Nat} {y : Str} {py spos : Pos} (g : GoodS TB N kk C X) (hi : N[i]? = some y) (hsw : swB X.env.scope y py ex = true) (hsd : noSD ex = true) (c : chkE TB N (.comp elt t it d) X.env.scope ex O = some (O', k)) :
    PS X (.Assign [.Name y py] ex spos) (tAsg (tE C O (.comp elt t it d) O' k) (gName i)) := by
  have hs := sw_none (env := X.env) g.kind (t := y) (p := py) (line := spos.line) hsd
  obtain ⟨xe, xt, xi, xc, scope, p, O1, O3, r1, O5, q, rfl, h1, hp, ht, hb, ho, h2, h3, h4, h5, s1, s2, e⟩ := v_comp c
  cases e
  have hl : X.env.scope.names.lookup y = some .local := by
    simp only [swB, Bool.and_eq_true, beq_iff_eq] at hsw
    exact hsw.1.1
  rw [hsw] at hs
  refine (ps_setLc (g := gT C.K t) g.g.calm g.g.ndX (by rw [g.g.hN]; exact hi) hl hs (okI TB N kk it _ _ _ _ _ _ g.g h1).2 (blkOk_by (by rw [g.g.hN]; exact hb)) (fun s H A cl fp => ?_) (fun s H A cl fp => .ex fun z => okC TB N kk d _ _ _ _ _ (g.g.inn (z := z)) h4) (fun s H A cl fp => .ex fun z => vl_sub ((okE TB N kk elt).vl (g.g.inn (z := z)) h5) s1) (folded_of hp _)).imp fun D σ H q => ?_
  · have := s_tgt (X := X.blk s H scope (compEnvC scope cl A X.env) fp) g.g.ndX g.g.hN g.g.calm loc_blk ht
    rwa [show (X.blk s H scope (compEnvC scope cl A X.env) fp).K = C.K from g.g.hK] at this
  · show tLc _ _ _ _ ((ownOf N t.own).map (·.2)) σ H _
    rw [ho]
    exact lc_imp q (fun i hi => mem_rms.mp (sub_r hi)) s2
theorem lc_no {sc : Scope} {xe : Expr} {gs : List Comprehension} {s : Scope} {p : Pos} {r : List Nat × Kd} (c : chkE TB N a sc (.ListComp xe gs s p) O = some r) : (∃ elt t it d, a = .comp elt t it d) ∨ ∃ b, a = .hp b := by
  cases a with
  | int _ => obtain ⟨_, _, _, e, _⟩ := v_int c; cases e
  | str _ => obtain ⟨_, _, _, e, _⟩ := v_str c; cases e
  | bl _ => obtain ⟨_, _, _, e, _⟩ := v_bl c; cases e
  | non => obtain ⟨_, _, e, _⟩ := v_non c; cases e
  | var _ => obtain ⟨_, _, e, _⟩ := v_var c; cases e
  | glb _ => obtain ⟨_, _, e, _⟩ := v_glb c; cases e
  | tup _ => obtain ⟨_, _, _, _, e, _⟩ := v_tup c; cases e
  | lst _ => obtain ⟨_, _, _, e, _⟩ := v_lst c; cases e
  | bin _ _ _ => obtain ⟨_, _, _, _, _, _, e, _⟩ := v_bin c; cases e
  | neg _ => obtain ⟨_, _, _, e, _⟩ := v_neg c; cases e
  | not _ => obtain ⟨_, _, _, e, _⟩ := v_not c; cases e
  | cmp _ _ _ => obtain ⟨_, _, _, _, _, _, e, _⟩ := v_cmp c; cases e
  | chn _ _ _ _ _ => obtain ⟨_, _, _, _, _, _, _, _, _, e, _⟩ := v_chn c; cases e
  | and _ _ => obtain ⟨_, _, _, _, _, _, e, _⟩ := v_and c; cases e
  | or _ _ => obtain ⟨_, _, _, _, _, _, e, _⟩ := v_or c; cases e
  | ite _ _ _ => obtain ⟨_, _, _, _, _, _, _, e, _⟩ := v_ite c; cases e
  | call _ _ => obtain ⟨_, _, _, _, _, _, e, _⟩ := v_call c; cases e
  | bi _ _ => obtain ⟨_, _, _, _, _, e, _⟩ := v_bi c; cases e
  | isi _ _ => obtain ⟨_, _, _, _, _, e, _⟩ := v_isi c; cases e
  | idx _ _ => obtain ⟨_, _, _, _, _, e, _⟩ := v_idx c; cases e
  | slc _ _ _ => obtain ⟨_, _, _, _, _, _, _, _, e, _⟩ := v_slc c; cases e
  | comp _ _ _ _ => exact .inl ⟨_, _, _, _, rfl⟩
  | dic _ _ _ _ _ _ _ _ => obtain ⟨_, _, _, _, _, _, _, _, _, _, _, _, _, _, _, _, _, e, _⟩ := v_dic c; cases e
  | mth _ _ _ => obtain ⟨_, _, _, _, _, _, e, _⟩ := v_mth c; cases e
  | hpop _ => obtain ⟨_, _, _, _, _, _, e, _⟩ := v_hpop c; cases e
  | hp _ => exact .inr ⟨_, rfl⟩
  | bad => exact (v_bad c).elim
theorem set_any {i : Nat} {y : Str} {py spos : Pos} (g : GoodS TB N kk C X) (hi : N[i]? = some y) (hl : locB X.env.scope y = true) (hsd : noSD ex = true) (c : chkE TB N e X.env.scope ex O = some (O', k)) :
    PS X (.Assign [.Name y py] ex spos) (tAsg (tE C O e O' k) (gName i)) := by
  cases hsw : swB X.env.scope y py ex with
  | false =>
    have hs := sw_none (env := X.env) g.kind (t := y) (p := py) (line := spos.line) hsd
    rw [hsw] at hs
    exact ps_set g.g.ndX (by rw [g.g.hN]; exact hi) (loc_of hl) ((okE TB N kk e).pe _ _ _ _ _ _ g.g c) hs (.inl (g.fn _))
  | true =>
    cases ex <;> first | (simp [swB] at hsw; done) | skip
    rcases lc_no c with ⟨elt, t, it, d, rfl⟩ | ⟨b, rfl⟩
    · exact set_comp g hi hsw hsd c
    · obtain ⟨O1, h1, e2⟩ := v_hp c
      cases e2
      rcases lc_no h1 with ⟨elt, t, it, d, rfl⟩ | ⟨b, rfl⟩
      · exact (set_comp g hi hsw hsd h1).imp fun D σ H q => hp_imp q
      · obtain ⟨O1, h1, e2⟩ := v_hp h1
        cases e2
theorem q_asg1 {i : Nat} {y : Str} {py spos : Pos} (g : GoodS TB N kk C X) (hi : N[i]? = some y) (hl : locB X.env.scope y = true) (hsd : noSD ex = true) (c : chkE TB N e X.env.scope ex O = some (O', k)) :
    PS X (.Assign [.Name y py] ex spos) (tS C fr O (denS C.F C.G (.asg (.one i) e)) (.at (asgO O' k i), .dead)) := by
  refine (set_any g hi hl hsd c).imp fun D σ H q => ?_
  obtain ⟨w, ρ, o, r, f⟩ := q
  simp only [denS] at f
  refine ⟨w, ρ, o, r, (fin_bind f).imp fun d o1 h v w1 H1 l1 r1 kv => ?_⟩
  obtain ⟨ρ2, e2, h⟩ := fin_of (fin_bind h)
  simp only [bindT, Option.some.injEq] at e2
  subst e2
  obtain ⟨w2, l2, r2⟩ := store_kv (i := i) r1 kv
  exact h _ rfl _ _ _ (l1.trans l2) r2
theorem swN_none {env : PySem.Env} {is : List Nat} (hk : env.scope.kind = .function) (ht : chkT N (locB env.scope) (.many is) tg = true) (h : swN env.scope tg ex = true) : swappedStores [tg] ex env = pure none := by
  cases tg <;> first | (simp [chkT] at ht; done) | skip
  rename_i ts kk p
  cases ex <;> first | rfl | skip
  rename_i vs k2 p2
  simp only [swN, Bool.or_eq_true] at h
  unfold swappedStores PySem.Env.blockKind PySem.Env.kindOf
  simp only [hk]
  rw [show (if ScopeKind.function.isAnnotationScope = true then ScopeKind.function else ScopeKind.function) = ScopeKind.function from rfl]
  split
  · rfl
  · rename_i h1
    split
    · rfl
    · rw [if_pos]
      rcases h with h | h
      · exact absurd (by rw [h]; rfl) h1
      · rw [Bool.or_eq_true]; exact .inl h
theorem q_asgN {is : List Nat} {spos : Pos} (g : GoodS TB N kk C X) (ht : chkT N (locB X.env.scope) (.many is) tg = true) (hsw : swN X.env.scope tg ex = true) (c : chkE TB N e X.env.scope ex O = some (O', k)) :
    PS X (.Assign [tg] ex spos) (tS C fr O (denS C.F C.G (.asg (.many is) e)) (.at (rms (valO O' k) is), .dead)) := by
  have pg := s_tgt (X := X) g.g.ndX g.g.hN g.g.calm g.loc ht
  have hsn := swN_none (env := X.env) g.kind ht hsw
  cases tg <;> first | (simp [chkT] at ht; done) | skip
  refine (ps_asg ((okE TB N kk e).vl g.g c) pg (by cases ex <;> rfl) hsn rfl).imp fun D σ H q => ?_
  obtain ⟨w, ρ, o, r, f⟩ := q
  simp only [denS] at f
  refine ⟨w, ρ, o, r, (fin_bind f).imp fun d o1 h v w1 H1 l1 r1 kv => ?_⟩
  obtain ⟨ρ2, e2, h⟩ := fin_of (fin_bind h)
  rw [g.g.hK]
  exact g_bind r1 kv e2 fun σ2 r2 _ _ => h _ rfl _ _ _ l1 r2
end
end Ev

/-! statements: more rules -/
namespace Ev
open PySem L2 PySem.Spec PyProof.Rows
section
variable {TB : Tab} {N : List Str} {kk : Nat}
variable {C : Cn} {X : Cx} {fr : Bool} {O O' O1 O2 O3 : List Nat} {k k1 k2 k3 : Kd} {w : W} {σ : L2.St} {ρ : Env} {H : Hp} {o : Os}
variable {ex xa xb xc tg : Expr} {e a b c : Ev.E} {pos : Pos} {st : Stmt} {sts : List Stmt} {F F1 F2 F3 : Fl × Fl}

/-! ### two names at once -/
def starB : Expr → Bool
  | .Starred .. => true
  | _ => false
theorem par_sw {env : PySem.Env} (hk : env.scope.kind = .function) {x y : Str} {px py pt pt2 : Pos} {kt k2 : Nat} (h : parB env.scope x y px py xa xb = true) : swappedStores [.Tuple [.Name x px, .Name y py] kt pt] (.Tuple [xa, xb] k2 pt2) env = pure (some [x, y]) := by
  simp only [parB, Bool.and_eq_true, decide_eq_true_eq, Bool.not_eq_true', beq_iff_eq] at h
  obtain ⟨⟨⟨⟨⟨⟨⟨h1, h2⟩, h3⟩, h4⟩, h5⟩, h6⟩, h7⟩, h8⟩ := id h
  have s1 : starB xa = false := by cases xa <;> first | rfl | (simp [plainE] at h5)
  have s2 : starB xb = false := by cases xb <;> first | rfl | (simp [plainE] at h6)
  have hN : namesOf env.scope px.line [.Name x px, .Name y py] = [x, y] := by
    unfold namesOf
    have c1 : (List.lookup x env.scope.names == some NameKind.local && px.line == px.line) = true := by
      rw [h2]; show (true && px.line == px.line) = true; simp
    have c2 : (List.lookup y env.scope.names == some NameKind.local && py.line == px.line) = true := by
      rw [h3, h4]; show (true && px.line == px.line) = true; simp
    simp only [List.filterMap_cons, List.filterMap_nil, c1, c2, if_true]
  have hd : ([x, y] : List Str).eraseDups = [x, y] := by
    have : (y == x) = false := beq_eq_false_iff_ne.mpr (Ne.symm h1)
    simp [List.eraseDups_cons, this]
  unfold swappedStores PySem.Env.blockKind PySem.Env.kindOf
  simp only [hk]
  rw [show (if ScopeKind.function.isAnnotationScope = true then ScopeKind.function else ScopeKind.function) = ScopeKind.function from rfl]
  refine (if_neg (by exact Bool.false_ne_true)).trans ?_
  refine (if_neg (c := ([xa, xb].any starB) = true) (by simp [s1, s2])).trans ?_
  refine (if_neg (c := ((namesOf env.scope px.line [.Name x px, .Name y py]).length != [Expr.Name x px, .Name y py].length || (namesOf env.scope px.line [.Name x px, .Name y py]).eraseDups.length != (namesOf env.scope px.line [.Name x px, .Name y py]).length) = true) (by rw [hN, hd]; exact Bool.false_ne_true)).trans ?_
  refine (if_neg (by rw [h7]; decide)).trans ?_
  refine (if_neg (by rw [h8]; decide)).trans ?_
  show pure (some (namesOf env.scope px.line [.Name x px, .Name y py])) = _
  rw [hN]
theorem par_put {o1 o2 : Bool} {i j : Nat} {v1 v2 : V} {d1 d2 : D} (hij : i ≠ j) (r : R C.K C.b O w σ ρ H o) (h1 : (o1 = true ∧ OwnV C O w σ ρ H v1 d1) ∨ (o1 = false ∧ Rep C.K w v1 d1)) (h2 : (o2 = true ∧ OwnV C O w σ ρ H v2 d2 ∧ (o1 = true → v2 ≠ v1)) ∨ (o2 = false ∧ Rep C.K w v2 d2)) :
    R C.K C.b (parO o1 o2 O i j) w ((σ.set i (some v1)).set j (some v2)) ((ρ.set i (some d1)).set j (some d2)) H o := by
  have r1 : R C.K C.b (if o1 = true then i :: rm O i else rm O i) w (σ.set i (some v1)) (ρ.set i (some d1)) H o := by
    rcases h1 with ⟨rfl, ow, ap, az⟩ | ⟨rfl, re⟩
    · exact r.putOwn ow ap az
    · exact r.put re
  unfold parO
  rcases h2 with ⟨rfl, ⟨ow, ap, az⟩, ne⟩ | ⟨rfl, re⟩
  · refine r1.putOwn ow (fun l hl hs e => ?_) az
    obtain ⟨dd, hd⟩ := Option.isSome_iff_exists.mp hs
    rcases look_set_some hd with ⟨rfl, _, hlt⟩ | ⟨hne, hd⟩
    · rw [List.getElem?_set_self (by rw [r.len]; exact hlt)] at e
      cases o1 with
      | true => exact ne rfl (Option.some.inj (Option.some.inj e)).symm
      | false => exact (mem_rm.mp hl).2 rfl
    · rw [List.getElem?_set_ne (Ne.symm hne)] at e
      have hl' : l ∈ O := by
        cases o1 with
        | true =>
          rcases List.mem_cons.mp hl with z | z
          · exact absurd z hne
          · exact (mem_rm.mp z).1
        | false => exact (mem_rm.mp hl).1
      exact ap l hl' (by rw [hd]; rfl) e
  · exact r1.put re
theorem q_par {i j : Nat} {x y : Str} {px py pt pt2 : Pos} {kt kt2 : Nat} {r1 r2 : List Nat × Kd} (g : GoodS TB N kk C X) (hi : N[i]? = some x) (hj : N[j]? = some y) (hij : i ≠ j) (hp : parB X.env.scope x y px py xa xb = true)
    (ha : chkE TB N a X.env.scope xa O = some r1) (hb : chkE TB N b X.env.scope xb (valO r1.1 r1.2) = some r2) :
    PS X (.Assign [.Tuple [.Name x px, .Name y py] kt pt] (.Tuple [xa, xb] kt2 pt2) pos) (tS C fr O (denS C.F C.G (.par i j a b)) (.at (parO (decide (r1.2 = .own)) (decide (r2.2 = .own)) (valO r2.1 r2.2) i j), .dead)) := by
  have hp' := hp
  simp only [parB, Bool.and_eq_true, decide_eq_true_eq, Bool.not_eq_true', beq_iff_eq] at hp'
  obtain ⟨⟨⟨⟨⟨⟨⟨h1, h2⟩, h3⟩, h4⟩, h5⟩, h6⟩, h7⟩, h8⟩ := hp'
  obtain ⟨O1, k1⟩ := r1
  obtain ⟨O2, k2⟩ := r2
  -- the second value
  have hb1 : ∀ z, PE X xb (tG (C.pz z) (valO O1 k1) (valO O2 k2) (den C.F C.G b) fun σ ρ v d w H => (decide (k2 = .own) = true ∧ OwnV (C.pz z) (valO O2 k2) w σ ρ H v d) ∨ (decide (k2 = .own) = false ∧ Rep C.K w v d)) := fun z => by
    by_cases hk : k2 = .own
    · subst hk
      exact ((okE TB N kk b).pe _ _ _ _ _ _ (g.g.pz (z := z)) hb).imp fun σ H Q ⟨w, ρ, o, r, f⟩ => ⟨w, ρ, o, r, f.imp fun d o1 h v w1 H1 l1 r1 kv => h v w1 H1 l1 r1 (.inl ⟨rfl, kv⟩)⟩
    · exact ((okE TB N kk b).vl (g.g.pz (z := z)) hb).imp fun σ H Q ⟨w, ρ, o, r, f⟩ => ⟨w, ρ, o, r, f.imp fun d o1 h v w1 H1 l1 r1 kv => h v w1 H1 l1 r1 (.inr ⟨decide_eq_false hk, kv⟩)⟩
  have hb0 : PE X xb (tG C (valO O1 k1) (valO O2 k2) (den C.F C.G b) fun σ ρ v d w H => (decide (k2 = .own) = true ∧ OwnV C (valO O2 k2) w σ ρ H v d) ∨ (decide (k2 = .own) = false ∧ Rep C.K w v d)) := by
    by_cases hk : k2 = .own
    · subst hk
      exact ((okE TB N kk b).pe _ _ _ _ _ _ g.g hb).imp fun σ H Q ⟨w, ρ, o, r, f⟩ => ⟨w, ρ, o, r, f.imp fun d o1 h v w1 H1 l1 r1 kv => h v w1 H1 l1 r1 (.inl ⟨rfl, kv⟩)⟩
    · exact ((okE TB N kk b).vl g.g hb).imp fun σ H Q ⟨w, ρ, o, r, f⟩ => ⟨w, ρ, o, r, f.imp fun d o1 h v w1 H1 l1 r1 kv => h v w1 H1 l1 r1 (.inr ⟨decide_eq_false hk, kv⟩)⟩
  by_cases hk : k1 = .own
  · subst hk
    refine (ps_par g.g.calm g.g.ndX (by rw [g.g.hN]; exact hi) (by rw [g.g.hN]; exact hj) hij h2 h3 (pa_cons ((okE TB N kk a).pe _ _ _ _ _ _ g.g ha) (pa_cons (.ex hb1) pa_nil (star_of h6)) (star_of h5)) (par_sw g.kind hp) rfl).imp fun D σ H q => ?_
    obtain ⟨w, ρ, o, r, f⟩ := q
    simp only [denS] at f
    refine ⟨w, ρ, o, r, (fin_bind f).imp fun d1 o1 f1 v1 w1 H1 l1 r1 kv1 => ?_⟩
    obtain ⟨p, vs, ds, rfl, rfl, hp, q1, rz, hZ⟩ := r1.ofOwn kv1
    refine ⟨(p, .lst vs), w1, ρ, o1, rz, ((fin_bind f1).exn fun x o => exn_pz).imp fun d2 o2 f2 v2 w2 H2 l2 r2 kv2 => ⟨_, _, rfl, ?_⟩⟩
    have r2 : R C.K (C.b.push (p, .lst vs)) (valO O2 k2) w2 σ ρ H2 o2 := r2
    obtain ⟨z1, z2, z3, z4, z5⟩ := r2.tz (p, .lst vs) List.mem_cons_self
    refine f2 _ rfl _ _ _ (l1.trans l2) (par_put hij r2.zout (.inl ⟨rfl, ⟨p, vs, ds, rfl, rfl, z1, q1.mono l2, z2, z3, z4⟩, z5, fun q hq z => hZ q hq (V.ref.inj z).symm⟩) ?_)
    rcases kv2 with ⟨hk, ow, ap, az⟩ | ⟨hk, re⟩
    · exact .inl ⟨hk, ⟨ow, ap, fun q hq => az q (List.mem_cons_of_mem _ hq)⟩, fun _ => az (p, .lst vs) List.mem_cons_self⟩
    · exact .inr ⟨hk, re⟩
  · refine (ps_par g.g.calm g.g.ndX (by rw [g.g.hN]; exact hi) (by rw [g.g.hN]; exact hj) hij h2 h3 (pa_cons ((okE TB N kk a).vl g.g ha) (pa_cons hb0 pa_nil (star_of h6)) (star_of h5)) (par_sw g.kind hp) rfl).imp fun D σ H q => ?_
    obtain ⟨w, ρ, o, r, f⟩ := q
    simp only [denS] at f
    refine ⟨w, ρ, o, r, (fin_bind f).imp fun d1 o1 f1 v1 w1 H1 l1 r1 kv1 => ?_⟩
    refine ⟨w1, ρ, o1, r1, (fin_bind f1).imp fun d2 o2 f2 v2 w2 H2 l2 r2 kv2 => ⟨_, _, rfl, ?_⟩⟩
    refine f2 _ rfl _ _ _ (l1.trans l2) (par_put hij r2 (.inr ⟨decide_eq_false hk, kv1.mono l2⟩) ?_)
    rcases kv2 with ⟨hk2, ow⟩ | ⟨hk2, re⟩
    · exact .inl ⟨hk2, ow, fun z => absurd (of_decide_eq_true z) hk⟩
    · exact .inr ⟨hk2, re⟩

theorem par_sw2 {env : PySem.Env} (hk : env.scope.kind = .function) {x y : Str} {px py pt pt2 : Pos} {kt k2 : Nat} (h : par2B env.scope x y px py xa xb = true) : swappedStores [.Tuple [.Name x px, .Name y py] kt pt] (.Tuple [xa, xb] k2 pt2) env = pure none := by
  simp only [par2B, Bool.and_eq_true] at h
  unfold swappedStores PySem.Env.blockKind PySem.Env.kindOf
  simp only [hk]
  rw [show (if ScopeKind.function.isAnnotationScope = true then ScopeKind.function else ScopeKind.function) = ScopeKind.function from rfl]
  split
  · rfl
  · split
    · rfl
    · rw [if_pos]
      rw [Bool.or_eq_true]
      exact .inl h.2
theorem q_par2 {i j : Nat} {x y : Str} {px py pt pt2 : Pos} {kt kt2 : Nat} {r1 r2 : List Nat × Kd} (g : GoodS TB N kk C X) (hi : N[i]? = some x) (hj : N[j]? = some y) (hij : i ≠ j) (hp : par2B X.env.scope x y px py xa xb = true)
    (ha : chkE TB N a X.env.scope xa O = some r1) (hb : chkE TB N b X.env.scope xb (valO r1.1 r1.2) = some r2) :
    PS X (.Assign [.Tuple [.Name x px, .Name y py] kt pt] (.Tuple [xa, xb] kt2 pt2) pos) (tS C fr O (denS C.F C.G (.par i j a b)) (.at (parO (decide (r1.2 = .own)) (decide (r2.2 = .own)) (valO r2.1 r2.2) i j), .dead)) := by
  have hp' := hp
  simp only [par2B, Bool.and_eq_true] at hp'
  obtain ⟨⟨⟨⟨h2, h3⟩, h5⟩, h6⟩, h7⟩ := hp'
  have t1 : PG X (.Name x px) (gName i) := pg_name g.g.ndX (by rw [g.g.hN]; exact hi) (g.loc x h2).1 (g.loc x h2).2
  have t2 : PG X (.Name y py) (gName j) := pg_name g.g.ndX (by rw [g.g.hN]; exact hj) (g.loc y h3).1 (g.loc y h3).2
  have pt0 := pg_tup (X := X) (k := kt) (pos := pt) g.g.calm (pgs_cons t1 (pgs_cons t2 pgs_nil)) (n := 2) rfl rfl
  obtain ⟨O1, k1⟩ := r1
  obtain ⟨O2, k2⟩ := r2
  -- the second value
  have hb1 : ∀ z, PE X xb (tG (C.pz z) (valO O1 k1) (valO O2 k2) (den C.F C.G b) fun σ ρ v d w H => (decide (k2 = .own) = true ∧ OwnV (C.pz z) (valO O2 k2) w σ ρ H v d) ∨ (decide (k2 = .own) = false ∧ Rep C.K w v d)) := fun z => by
    by_cases hk : k2 = .own
    · subst hk
      exact ((okE TB N kk b).pe _ _ _ _ _ _ (g.g.pz (z := z)) hb).imp fun σ H Q ⟨w, ρ, o, r, f⟩ => ⟨w, ρ, o, r, f.imp fun d o1 h v w1 H1 l1 r1 kv => h v w1 H1 l1 r1 (.inl ⟨rfl, kv⟩)⟩
    · exact ((okE TB N kk b).vl (g.g.pz (z := z)) hb).imp fun σ H Q ⟨w, ρ, o, r, f⟩ => ⟨w, ρ, o, r, f.imp fun d o1 h v w1 H1 l1 r1 kv => h v w1 H1 l1 r1 (.inr ⟨decide_eq_false hk, kv⟩)⟩
  have hb0 : PE X xb (tG C (valO O1 k1) (valO O2 k2) (den C.F C.G b) fun σ ρ v d w H => (decide (k2 = .own) = true ∧ OwnV C (valO O2 k2) w σ ρ H v d) ∨ (decide (k2 = .own) = false ∧ Rep C.K w v d)) := by
    by_cases hk : k2 = .own
    · subst hk
      exact ((okE TB N kk b).pe _ _ _ _ _ _ g.g hb).imp fun σ H Q ⟨w, ρ, o, r, f⟩ => ⟨w, ρ, o, r, f.imp fun d o1 h v w1 H1 l1 r1 kv => h v w1 H1 l1 r1 (.inl ⟨rfl, kv⟩)⟩
    · exact ((okE TB N kk b).vl g.g hb).imp fun σ H Q ⟨w, ρ, o, r, f⟩ => ⟨w, ρ, o, r, f.imp fun d o1 h v w1 H1 l1 r1 kv => h v w1 H1 l1 r1 (.inr ⟨decide_eq_false hk, kv⟩)⟩
  by_cases hk : k1 = .own
  · subst hk
    refine (ps_asg (pe_tup (pa_cons ((okE TB N kk a).pe _ _ _ _ _ _ g.g ha) (pa_cons (.ex hb1) pa_nil (star_of h6)) (star_of h5))) pt0 rfl (par_sw2 g.kind hp) rfl).imp fun D σ H q => ?_
    obtain ⟨w, ρ, o, r, f⟩ := q
    simp only [denS] at f
    refine ⟨w, ρ, o, r, (fin_bind f).imp fun d1 o1 f1 v1 w1 H1 l1 r1 kv1 => ?_⟩
    obtain ⟨p, vs, ds, rfl, rfl, hp, q1, rz, hZ⟩ := r1.ofOwn kv1
    refine ⟨(p, .lst vs), w1, ρ, o1, rz, ((fin_bind f1).exn fun x o => exn_pz).imp fun d2 o2 f2 v2 w2 H2 l2 r2 kv2 => ⟨by rw [sizeLine_eq, List.length_cons, List.length_cons, List.length_nil]; decide, fun T hT => ⟨T, _, rfl, .inl (.inl upd_same), rfl, _, _, rfl, _, _, rfl, rfl, ?_⟩⟩⟩
    have r2 : R C.K (C.b.push (p, .lst vs)) (valO O2 k2) w2 σ ρ H2 o2 := r2
    obtain ⟨z1, z2, z3, z4, z5⟩ := r2.tz (p, .lst vs) List.mem_cons_self
    refine f2 _ rfl _ _ _ (l1.trans l2) ((par_put hij r2.zout (.inl ⟨rfl, ⟨p, vs, ds, rfl, rfl, z1, q1.mono l2, z2, z3, z4⟩, z5, fun q hq z => hZ q hq (V.ref.inj z).symm⟩) ?_).junk _ hT)
    rcases kv2 with ⟨hk, ow, ap, az⟩ | ⟨hk, re⟩
    · exact .inl ⟨hk, ⟨ow, ap, fun q hq => az q (List.mem_cons_of_mem _ hq)⟩, fun _ => az (p, .lst vs) List.mem_cons_self⟩
    · exact .inr ⟨hk, re⟩
  · refine (ps_asg (pe_tup (pa_cons ((okE TB N kk a).vl g.g ha) (pa_cons hb0 pa_nil (star_of h6)) (star_of h5))) pt0 rfl (par_sw2 g.kind hp) rfl).imp fun D σ H q => ?_
    obtain ⟨w, ρ, o, r, f⟩ := q
    simp only [denS] at f
    refine ⟨w, ρ, o, r, (fin_bind f).imp fun d1 o1 f1 v1 w1 H1 l1 r1 kv1 => ?_⟩
    refine ⟨w1, ρ, o1, r1, (fin_bind f1).imp fun d2 o2 f2 v2 w2 H2 l2 r2 kv2 => ⟨by rw [sizeLine_eq, List.length_cons, List.length_cons, List.length_nil]; decide, fun T hT => ⟨T, _, rfl, .inl (.inl upd_same), rfl, _, _, rfl, _, _, rfl, rfl, ?_⟩⟩⟩
    refine f2 _ rfl _ _ _ (l1.trans l2) ((par_put hij r2 (.inr ⟨decide_eq_false hk, kv1.mono l2⟩) ?_).junk _ hT)
    rcases kv2 with ⟨hk2, ow⟩ | ⟨hk2, re⟩
    · exact .inl ⟨hk2, ow, fun z => absurd (of_decide_eq_true z) hk⟩
    · exact .inr ⟨hk2, re⟩

/-! ### stores in lists -/
theorem own_at {i : Nat} {d : D} (r : R C.K C.b O w σ ρ H o) (hi : i ∈ O) (e : look ρ i = some d) : ∃ p vs ds, σ[i]? = some (some (.ref p)) ∧ d = .lst ds ∧ H p = some (.lst vs) ∧ Reps C.K w vs ds := by
  obtain ⟨v, e1, ow, _⟩ := r.loc i d e
  obtain ⟨p, vs, ds, rfl, rfl, e2, q, _⟩ := ow hi
  exact ⟨p, vs, ds, e1, rfl, e2, q⟩
theorem isL_of {i : Nat} (h : isL ρ i = true) : ∃ ds, look ρ i = some (.lst ds) := by
  unfold isL at h
  split at h
  · exact ⟨_, by assumption⟩
  · cases h
theorem set_reps {ds : List D} {ρ2 : Env} {i : Nat} {kd d : D} (e : look ρ i = some (.lst ds)) (h : setAt ρ i kd d = some ρ2) : ∃ (z : Int) (j : Nat), kd = .int z ∧ ixN ds.length z = some j ∧ ρ2 = ρ.set i (some (.lst (ds.set j d))) := by
  unfold setAt at h
  rw [e] at h
  cases kd <;> first | (cases h; done) | skip
  rename_i z
  simp only at h
  split at h
  · rename_i j hj
    cases h
    exact ⟨z, j, rfl, hj, rfl⟩
  · cases h
theorem swN_none2 {env : PySem.Env} (hk : env.scope.kind = .function) {a b a2 b2 : Expr} {p p2 pt : Pos} {kt : Nat} {ex : Expr} : swappedStores [.Tuple [.Subscript a b p, .Subscript a2 b2 p2] kt pt] ex env = pure none := by
  cases ex <;> first | rfl | skip
  rename_i vs k2 p2
  unfold swappedStores PySem.Env.blockKind PySem.Env.kindOf
  simp only [hk]
  rw [show (if ScopeKind.function.isAnnotationScope = true then ScopeKind.function else ScopeKind.function) = ScopeKind.function from rfl]
  split
  · rfl
  · split
    · rfl
    · exact if_pos rfl
/-- one store, behind the target's list and index -/
theorem grow_at {i : Nat} {ds : List D} {j : Nat} {v : V} {d : D} {p : Addr} (r : R C.K C.b O w σ ρ H o) (hi : i ∈ O) (e : look ρ i = some (.lst ds)) (es : σ[i]? = some (some (.ref p))) (q : Rep C.K w v d) :
    ∃ vs, H p = some (.lst vs) ∧ vs.length = ds.length ∧ R C.K C.b O w σ (ρ.set i (some (.lst (ds.set j d)))) (upd H p (.lst (vs.set j v))) o := by
  obtain ⟨p', vs, ds', e1, e2, e3, q3⟩ := own_at r hi e
  rw [es] at e1; cases e1; cases e2
  exact ⟨vs, e3, q3.length, r.grow hi e es (q3.set q j)⟩
theorem asg_sub {env : PySem.Env} {x i : Expr} {p : Pos} (h : noSlice i = true) (v : Value) : assign (.Subscript x i p) env v = (do
      let ov ← holding [v] (eval x env)
      let kv ← holding [v, ov] (eval i env)
      standAt p
      holding [v, ov, kv] (setItem ov kv v)
      release [v, ov, kv] []) := by
  cases i <;> first | rfl | (simp [noSlice] at h)
theorem q_sto {i : Nat} {x : Str} {px tp : Pos} {xi : Expr} {ix : Ev.E} {r1 r2 : List Nat × Kd} (g : GoodS TB N kk C X) (hi : N[i]? = some x) (hv : visB X.env.scope x = true) (hok : okN x = true) (hns : noSlice xi = true) (he : chkE TB N e X.env.scope ex O = some r1) (hx : chkE TB N ix X.env.scope xi (valO r1.1 r1.2) = some r2)
    (m2 : i ∈ r2.1) (m1 : i ∈ valO r1.1 r1.2) : PS X (.Assign [.Subscript (.Name x px) xi tp] ex pos) (tS C fr O (denS C.F C.G (.sto i ix e)) (.at r2.1, .dead)) := by
  obtain ⟨O1, k1⟩ := r1
  obtain ⟨O2, k2⟩ := r2
  have hvar : PE X (.Name x px) (tE C (valO O1 k1) (.var i) (valO O1 k1) (if i ∈ valO O1 k1 then .slot i else .val)) := s_var (by rw [g.g.hN]; exact hi) (vis_of hv) hok
  rw [if_pos m1] at hvar
  refine (ps_asg ((okE TB N kk e).vl g.g he) (pg_sub hvar (ar_of ((okE TB N kk ix).pe _ _ _ _ _ _ g.g hx)) set_list (asg_sub hns)) (by cases ex <;> rfl) (by cases ex <;> rfl) rfl).imp fun D σ H q => ?_
  obtain ⟨w, ρ, o, r, f⟩ := q
  simp only [denS] at f
  refine ⟨w, ρ, o, r, (fin_bind f).imp fun d1 o1 f1 v1 w1 H1 l1 r1 kv1 => ?_⟩
  by_cases hL : isL ρ i = true
  · rw [if_pos hL] at f1
    obtain ⟨ds, hd⟩ := isL_of hL
    refine ⟨w1, ρ, o1, r1, ?_⟩
    simp only [den, hd]
    intro v2 w2 H2 l2 r2 kv2
    obtain ⟨es, _, _⟩ := kv2
    refine ⟨w2, ρ, o1, r2, (fin_bind f1).imp fun d3 o3 f3 v3 w3 H3 l3 r3 kv3 => ?_⟩
    obtain ⟨ρ2, e2, f4⟩ := fin_of (fin_bind f3)
    obtain ⟨z, j, rfl, hj, rfl⟩ := set_reps hd e2
    obtain ⟨p, vs, ds', e5, _, _, _⟩ := own_at r3 m2 hd
    rw [es] at e5; cases e5
    obtain ⟨vs, e6, e7, r4⟩ := grow_at (j := j) r3 m2 hd es (kv1.mono (l2.trans l3))
    exact ⟨p, vs, z, j, rfl, vw_int (kv3.vw r3), e6, by rw [e7]; exact hj, f4 _ rfl _ _ _ (l1.trans (l2.trans l3)) r4⟩
  · rw [if_neg hL] at f1; exact f1.elim
theorem fin_tup {F : Fs} {G : Gs} {es : Ev.Es} {P : List D → Os → Prop} {Q : D → Os → Prop} (h : Fin (denEs F G es ρ o) P Q) : Fin (den F G (.tup es) ρ o) (fun d o => ∃ ds, d = .tup ds ∧ P ds o) Q := by
  simp only [den]
  cases e1 : denEs F G es ρ o with
  | bad => rw [e1] at h; exact h
  | exn x o1 => rw [e1] at h; exact h
  | ok ds o1 => rw [e1] at h; exact ⟨ds, rfl, h⟩
theorem q_stoP {i : Nat} {x : Str} {px px2 tp tp1 tp2 tp3 : Pos} {kt kt2 : Nat} {xi xj : Expr} {ix jx : Ev.E} {r1 r2 r3 r4 : List Nat × Kd} (g : GoodS TB N kk C X) (hi : N[i]? = some x) (hv : visB X.env.scope x = true) (hok : okN x = true) (hpa : plainE xa = true) (hpb : plainE xb = true) (hns : noSlice xi = true) (hns2 : noSlice xj = true)
    (ha : chkE TB N a X.env.scope xa O = some r1) (hb : chkE TB N b X.env.scope xb (valO r1.1 r1.2) = some r2) (hx : chkE TB N ix X.env.scope xi (valO r2.1 r2.2) = some r3) (hy : chkE TB N jx X.env.scope xj r3.1 = some r4)
    (m4 : i ∈ r4.1) (m3 : i ∈ r3.1) (m2 : i ∈ valO r2.1 r2.2) : PS X (.Assign [.Tuple [.Subscript (.Name x px) xi tp, .Subscript (.Name x px2) xj tp1] kt tp2] (.Tuple [xa, xb] kt2 tp3) pos) (tS C fr O (denS C.F C.G (.stoP i ix jx a b)) (.at r4.1, .dead)) := by
  obtain ⟨O1, k1⟩ := r1
  obtain ⟨O2, k2⟩ := r2
  obtain ⟨O3, k3⟩ := r3
  obtain ⟨O4, k4⟩ := r4
  have hvar : PE X (.Name x px) (tE C (valO O2 k2) (.var i) (valO O2 k2) (if i ∈ valO O2 k2 then .slot i else .val)) := s_var (by rw [g.g.hN]; exact hi) (vis_of hv) hok
  rw [if_pos m2] at hvar
  have hvar2 : PE X (.Name x px2) (tE C O3 (.var i) O3 (if i ∈ O3 then .slot i else .val)) := s_var (by rw [g.g.hN]; exact hi) (vis_of hv) hok
  rw [if_pos m3] at hvar2
  have pt : PE X (.Tuple [xa, xb] kt2 tp3) (tE C O (.tup (.cons a (.cons b .nil))) (valO O2 k2) .val) := s_tup (s_vcons hpa ((okE TB N kk a).vl g.g ha) (s_vcons hpb ((okE TB N kk b).vl g.g hb) s_vnil)) (by decide)
  refine (ps_asg pt (pg_tup g.g.calm (pgs_cons (pg_sub hvar (ar_of ((okE TB N kk ix).pe _ _ _ _ _ _ g.g hx)) set_list (asg_sub hns)) (pgs_cons (pg_sub hvar2 (ar_of ((okE TB N kk jx).pe _ _ _ _ _ _ g.g hy)) set_list (asg_sub hns2)) pgs_nil)) rfl rfl) rfl ?_ rfl).imp fun D σ H q => ?_
  · exact swN_none2 g.kind
  obtain ⟨w, ρ, o, r, f⟩ := q
  simp only [denS] at f
  refine ⟨w, ρ, o, r, ?_⟩
  have f0 : Fin (denEs C.F C.G (.cons a (.cons b .nil)) ρ o) (fun ds o => Fin (match ds with | [x, y] => (if isL ρ i = true then (den C.F C.G ix ρ o).bind fun k o =>
      (Res.of (setAt ρ i k x) o).bind fun ρ o => (den C.F C.G jx ρ o).bind fun k o => (Res.of (setAt ρ i k y) o).bind fun ρ o => .ok (.nx ρ) o else .bad : Res Out) | _ => .bad) (fun r o' => match r with
  | .nx ρ' => ∀ O', (Fl.at O4, Fl.dead).1 = .at O' → ∀ σ' w' H', W.Le w w' → R C.K C.b O' w' σ' ρ' H' o' → D.nx σ' H'
  | .ct ρ' => ∀ O', (Fl.at O4, Fl.dead).2 = .at O' → ∀ σ' w' H', W.Le w w' → R C.K C.b O' w' σ' ρ' H' o' → D.ct σ' H'
  | .ret d => ∀ v w' H', Post C.b w' H' → HR C.K w' H' o' → RetV C.K fr C.b.w C.b.H w' H' v d → D.rt v H') C.exn) C.exn := by
    simp only [denEs]
    cases e1 : den C.F C.G a ρ o with
    | bad => rw [e1] at f; exact f
    | exn x o1 => rw [e1] at f; exact f
    | ok d1 o1 =>
      rw [e1] at f
      simp only [Res.bind] at f ⊢
      cases e2 : den C.F C.G b ρ o1 with
      | bad => rw [e2] at f; exact f
      | exn x o1 => rw [e2] at f; exact f
      | ok d2 o2 =>
        rw [e2] at f
        exact f
  have f00 := fin_tup f0
  refine f00.imp fun d o1 hd v w1 H1 l1 r1 kv1 => ?_
  obtain ⟨ds, rfl, f1⟩ := hd
  match ds, f1 with
  | [x, y], f1 =>
    simp only at f1
    cases kv1 with
    | tup hq q =>
      cases q with
      | @cons vx _ _ _ qx q =>
        cases q with
        | @cons vy _ _ _ qy q =>
          cases q
          by_cases hL : isL ρ i = true
          · rw [if_pos hL] at f1
            obtain ⟨ds, hd⟩ := isL_of hL
            refine ⟨_, _, rfl, by rw [g.g.hK]; exact Reps.sqT r1.hr hq, rfl, vx, [vy], rfl, w1, ρ, o1, r1, ?_⟩
            simp only [den, hd]
            intro v2 w2 H2 l2 r2 kv2
            obtain ⟨es, _, _⟩ := kv2
            refine ⟨w2, ρ, o1, r2, (fin_bind f1).imp fun d3 o3 f3 v3 w3 H3 l3 r3 kv3 => ?_⟩
            obtain ⟨ρ2, e2, f4⟩ := fin_of (fin_bind f3)
            obtain ⟨z, j, rfl, hj, rfl⟩ := set_reps hd e2
            obtain ⟨p, vs, ds', e5, _, _, _⟩ := own_at r3 m3 hd
            rw [es] at e5; cases e5
            obtain ⟨vs, e6, e7, r4⟩ := grow_at (j := j) r3 m3 hd es (qx.mono (l2.trans l3))
            refine ⟨p, vs, z, j, rfl, vw_int (kv3.vw r3), e6, by rw [e7]; exact hj, vy, [], rfl, w3, _, o3, r4, ?_⟩
            have hd2 : look (ρ.set i (some (.lst (ds.set j x)))) i = some (.lst (ds.set j x)) := look_set_same (look_lt hd)
            simp only [den, hd2]
            intro v5 w5 H5 l5 r5 kv5
            obtain ⟨es5, _, _⟩ := kv5
            refine ⟨w5, _, o3, r5, (fin_bind f4).imp fun d6 o6 f6 v6 w6 H6 l6 r6 kv6 => ?_⟩
            obtain ⟨ρ7, e7', f7⟩ := fin_of (fin_bind f6)
            obtain ⟨z2, j2, rfl, hj2, rfl⟩ := set_reps hd2 e7'
            obtain ⟨p2, vs2, ds2, e8, _, _, _⟩ := own_at r6 m4 hd2
            rw [es5] at e8; cases e8
            obtain ⟨vs3, e9, e10, r7⟩ := grow_at (j := j2) r6 m4 hd2 es5 (qy.mono (l2.trans (l3.trans (l5.trans l6))))
            exact ⟨p2, vs3, z2, j2, rfl, vw_int (kv6.vw r6), e9, by rw [e10]; exact hj2, rfl, f7 _ rfl _ _ _ (l1.trans (l2.trans (l3.trans (l5.trans l6)))) r7⟩
          · rw [if_neg hL] at f1; exact f1.elim
end
end Ev

/-! statements: the rest; the check is sound -/
namespace Ev
open PySem L2 PySem.Spec PyProof.Rows
section
variable {TB : Tab} {N : List Str} {kk : Nat}
variable {C : Cn} {X : Cx} {fr : Bool} {O O' O1 O2 O3 : List Nat} {k k1 k2 k3 : Kd} {w : W} {σ : L2.St} {ρ : Env} {H : Hp} {o : Os}
variable {ex xa xb xc tg : Expr} {e a b c : Ev.E} {pos : Pos} {st : Stmt} {sts : List Stmt} {F F1 F2 F3 : Fl × Fl}

/-! ### dicts -/
theorem krep_any {K : PySem.W.Frag} {us : List (Key × V)} {kvs : List (Key × D)} {z : Key} (h : KReps K w us kvs) : (us.any fun kv => decide (kv.1 = z)) = (kvs.any fun kv => decide (kv.1 = z)) := by
  induction h with
  | nil => rfl
  | @cons p q us kvs h _ ih => rw [List.any_cons, List.any_cons, ih, h.1]
theorem krep_map {K : PySem.W.Frag} {us : List (Key × V)} {kvs : List (Key × D)} {z : Key} {v : V} {d : D} (h : KReps K w us kvs) (r : Rep K w v d) : KReps K w (us.map fun kv => if kv.1 = z then (kv.1, v) else kv) (kvs.map fun kv => if kv.1 = z then (kv.1, d) else kv) := by
  induction h with
  | nil => exact .nil
  | @cons p q us kvs h _ ih =>
    refine .cons ?_ ih
    obtain ⟨h1, h2⟩ := h
    dsimp only
    by_cases hz : p.1 = z
    · rw [if_pos hz, if_pos (h1 ▸ hz)]; exact ⟨h1, r⟩
    · rw [if_neg hz, if_neg (h1 ▸ hz)]; exact ⟨h1, h2⟩
theorem krep_app {K : PySem.W.Frag} {us us' : List (Key × V)} {kvs kvs' : List (Key × D)} (h : KReps K w us kvs) (h' : KReps K w us' kvs') : KReps K w (us ++ us') (kvs ++ kvs') := by
  induction h with
  | nil => exact h'
  | cons h _ ih => exact .cons h ih
theorem krep_put {K : PySem.W.Frag} {us : List (Key × V)} {kvs : List (Key × D)} {z : Key} {v : V} {d : D} (h : KReps K w us kvs) (r : Rep K w v d) : KReps K w (L2.putK us z v) (Ev.putK kvs z d) := by
  unfold L2.putK Ev.putK
  rw [krep_any h]
  split
  · exact krep_map h r
  · exact krep_app h (.cons ⟨rfl, r⟩ .nil)
theorem krep_len {K : PySem.W.Frag} {us : List (Key × V)} {kvs : List (Key × D)} (h : KReps K w us kvs) : us.length = kvs.length := by
  induction h with
  | nil => rfl
  | cons _ _ same => exact congrArg (· + 1) same
theorem q_dst {xm xk : Expr} {m kx : Ev.E} {tp : Pos} {r1 r2 r3 : List Nat × Kd} (g : GoodS TB N kk C X) (he : chkE TB N e X.env.scope ex O = some r1) (hm : chkE TB N m X.env.scope xm (valO r1.1 r1.2) = some r2) (hk : chkE TB N kx X.env.scope xk r2.1 = some r3) :
    PS X (.Assign [.Subscript xm xk tp] ex pos) (tS C fr O (denS C.F C.G (.dst m kx e)) (.at r3.1, .dead)) := by
  obtain ⟨O1, k1⟩ := r1
  obtain ⟨O2, k2⟩ := r2
  obtain ⟨O3, k3⟩ := r3
  refine (ps_dput (by have := g.g.un; omega) (ar_of ((okE TB N kk m).pe _ _ _ _ _ _ g.g hm)) (ar_of ((okE TB N kk kx).pe _ _ _ _ _ _ g.g hk)) ((okE TB N kk e).vl g.g he) sw_sub).imp fun D σ H q => ?_
  obtain ⟨w, ρ, o, r, f⟩ := q
  simp only [denS] at f
  refine ⟨w, ρ, o, r, (fin_bind f).imp fun d1 o1 f1 v1 w1 H1 l1 r1 p1 => ?_⟩
  refine ⟨w1, ρ, o1, r1, (fin_bind f1).imp fun d2 o2 f2 v2 w2 H2 l2 r2 p2 => ?_⟩
  refine ⟨w2, ρ, o2, r2, (fin_bind f2).imp fun d3 o3 f3 v3 w3 H3 l3 r3 p3 => ?_⟩
  cases d2 <;> first | (exact f3.elim) | skip
  cases d3 <;> first | (exact f3.elim) | skip
  rename_i n z
  simp only at f3
  split at f3
  · rename_i kvs hn
    by_cases hl : kvs.length < line
    · rw [if_pos hl] at f3
      obtain ⟨a, ea, hi⟩ := vw_ref r3.hr ((p2.mono l3).vw r3)
      subst ea
      obtain ⟨_, us, e3, e4⟩ := r3.hr.ob n a _ hi hn
      rw [vw_str (p3.vw r3)]
      refine ⟨a, _, rfl, DPut.k (k := Sum.inr z) e3 (by rw [krep_len e4, ← line_eq]; exact hl), ?_⟩
      exact f3 _ rfl _ _ _ (l1.trans (l2.trans l3)) (r3.setOb hi ⟨_, upd_same, krep_put e4 (p1.mono (l2.trans l3))⟩)
    · rw [if_neg hl] at f3; exact f3.elim
  · exact f3.elim

/-! ### methods of a list -/
theorem few_of {env : PySem.Env} {cpos : Pos} (h : plainE ex = true) : ((backTo cpos (starEach [ex] env)).all (fun x => !x.1) && (backToKw cpos (keywordEach [] env)).all (fun x => x.1.isSome)
      && decide (([ex] : List Expr).length + ([] : List Keyword).length + (if ([] : List Keyword).isEmpty then 0 else 1) < 30)) = true := by
  rw [star_of h]; rfl
theorem q_app {i : Nat} {x : Str} {px apos cpos : Pos} {r1 : List Nat × Kd} (g : GoodS TB N kk C X) (hi : N[i]? = some x) (hv : visB X.env.scope x = true) (hok : okN x = true) (hp : plainE ex = true) (hl : (apos.endLine == cpos.line) = true) (m0 : i ∈ O)
    (he : chkE TB N e X.env.scope ex O = some r1) (m1 : i ∈ valO r1.1 r1.2) : PS X (.Expr (.Call (.Attribute (.Name x px) "append" apos) [ex] [] cpos) pos) (tS C fr O (denS C.F C.G (.app i e)) (.at (valO r1.1 r1.2), .dead)) := by
  obtain ⟨O1, k1⟩ := r1
  have hvar : PE X (.Name x px) (tE C O (.var i) O (if i ∈ O then .slot i else .val)) := s_var (by rw [g.g.hN]; exact hi) (vis_of hv) hok
  rw [if_pos m0] at hvar
  refine (ps_expr (pe_bm PySem.F.plainAttrs_list PySem.F.slot_list_append PySem.F.type_list_append mt_append hvar (pa_cons ((okE TB N kk e).vl g.g he) pa_nil (star_of hp)) (base_of rfl) (few_of hp) hl (star_of hp) rfl)).imp fun D σ H q => ?_
  obtain ⟨w, ρ, o, r, f⟩ := q
  simp only [denS] at f
  refine ⟨w, ρ, o, r, ?_⟩
  cases hd : look ρ i with
  | none => rw [hd] at f; exact f.elim
  | some d =>
    rw [hd] at f
    cases d <;> first | (exact f.elim) | skip
    rename_i ds
    simp only at f
    simp only [den, hd]
    intro v1 w1 H1 l1 r1 kv1
    obtain ⟨es, _, _⟩ := kv1
    obtain ⟨p, vs, ds', e5, _, e6, _⟩ := own_at r1 m0 hd
    rw [es] at e5; cases e5
    refine ⟨.inl ⟨rfl, vs, .inl (.inl e6)⟩, w1, ρ, o, r1, (fin_bind f).imp fun d2 o2 f2 v2 w2 H2 l2 r2 p2 => ?_⟩
    by_cases hz : ds.length < line
    · rw [if_pos hz] at f2
      obtain ⟨p', vs2, ds2, e7, e8, e9, q9⟩ := own_at r2 m1 hd
      rw [es] at e7; cases e7; cases e8
      refine ⟨p, vs2, v2, rfl, rfl, e9, by rw [q9.length, ← line_eq]; exact hz, ?_⟩
      exact f2 _ rfl _ _ _ (l1.trans l2) (r2.grow m1 hd es (q9.append (.cons p2 .nil)))
    · rw [if_neg hz] at f2; exact f2.elim
theorem q_ext {i : Nat} {x : Str} {px apos cpos : Pos} {r1 : List Nat × Kd} (g : GoodS TB N kk C X) (hi : N[i]? = some x) (hv : visB X.env.scope x = true) (hok : okN x = true) (hp : plainE ex = true) (hl : (apos.endLine == cpos.line) = true) (m0 : i ∈ O)
    (he : chkE TB N e X.env.scope ex O = some r1) (m1 : i ∈ r1.1) : PS X (.Expr (.Call (.Attribute (.Name x px) "extend" apos) [ex] [] cpos) pos) (tS C fr O (denS C.F C.G (.ext i e)) (.at r1.1, .dead)) := by
  obtain ⟨O1, k1⟩ := r1
  have hvar : PE X (.Name x px) (tE C O (.var i) O (if i ∈ O then .slot i else .val)) := s_var (by rw [g.g.hN]; exact hi) (vis_of hv) hok
  rw [if_pos m0] at hvar
  refine (ps_expr (pe_bm PySem.F.plainAttrs_list PySem.F.slot_list_extend PySem.F.type_list_extend mt_extend hvar (pa_cons (ar_of ((okE TB N kk e).pe _ _ _ _ _ _ g.g he)) pa_nil (star_of hp)) (base_of rfl) (few_of hp) hl (star_of hp) rfl)).imp fun D σ H q => ?_
  obtain ⟨w, ρ, o, r, f⟩ := q
  simp only [denS] at f
  refine ⟨w, ρ, o, r, ?_⟩
  cases hd : look ρ i with
  | none => rw [hd] at f; exact f.elim
  | some d =>
    rw [hd] at f
    cases d <;> first | (exact f.elim) | skip
    rename_i ds
    simp only at f
    simp only [den, hd]
    intro v1 w1 H1 l1 r1 kv1
    obtain ⟨es, _, _⟩ := kv1
    obtain ⟨p, vs, ds', e5, _, e6, _⟩ := own_at r1 m0 hd
    rw [es] at e5; cases e5
    refine ⟨.inl ⟨rfl, vs, .inl (.inl e6)⟩, w1, ρ, o, r1, (fin_bind f).imp fun d2 o2 f2 v2 w2 H2 l2 r2 p2 => ?_⟩
    cases d2 <;> first | (exact f2.elim) | skip
    rename_i es2
    simp only at f2
    by_cases hz : ds.length + es2.length ≤ line
    · rw [if_pos hz] at f2
      obtain ⟨p', vs2, ds2, e7, e8, e9, q9⟩ := own_at r2 m1 hd
      rw [es] at e7; cases e7; cases e8
      obtain ⟨b, us, rfl, e10, q10⟩ := vw_lst (p2.vw r2)
      refine ⟨p, b, vs2, us, rfl, rfl, e9, e10, by rw [q9.length, q10.length, ← line_eq]; exact hz, ?_⟩
      exact f2 _ rfl _ _ _ (l1.trans l2) (r2.grow m1 hd es (q9.append q10))
    · rw [if_neg hz] at f2; exact f2.elim

/-! ### small statements -/
theorem q_exp {r1 : List Nat × Kd} (g : GoodS TB N kk C X) (hs : swapsWith ex none pos.line X.env = pure false) (he : chkE TB N e X.env.scope ex O = some r1) : PS X (.Expr ex pos) (tS C fr O (denS C.F C.G (.exp e)) (.at r1.1, .dead)) := by
  obtain ⟨O1, k1⟩ := r1
  refine (ps_expr (ar_of ((okE TB N kk e).pe _ _ _ _ _ _ g.g he)) hs).imp fun D σ H q => ?_
  obtain ⟨w, ρ, o, r, f⟩ := q
  simp only [denS] at f
  exact ⟨w, ρ, o, r, (fin_bind f).imp fun d1 o1 f1 v1 w1 H1 l1 r1 p1 => f1 _ rfl _ _ _ l1 r1⟩
theorem q_ret {r1 : List Nat × Kd} (g : GoodS TB N kk C X) (he : chkE TB N e X.env.scope ex O = some r1) (hr : chkRet fr r1 = true) : PS X (.Return (some ex) pos) (tS C fr O (denS C.F C.G (.ret e)) (.dead, .dead)) := by
  obtain ⟨O1, k1⟩ := r1
  cases fr with
  | false =>
    refine (ps_ret ((okE TB N kk e).vl g.g he)).imp fun D σ H q => ?_
    obtain ⟨w, ρ, o, r, f⟩ := q
    simp only [denS] at f
    exact ⟨w, ρ, o, r, (fin_bind f).imp fun d1 o1 f1 v1 w1 H1 l1 r1 p1 => f1 v1 w1 H1 r1.po r1.hr p1⟩
  | true =>
    refine (ps_ret ((okE TB N kk e).pe _ _ _ _ _ _ g.g he)).imp fun D σ H q => ?_
    obtain ⟨w, ρ, o, r, f⟩ := q
    simp only [denS] at f
    refine ⟨w, ρ, o, r, (fin_bind f).imp fun d1 o1 f1 v1 w1 H1 l1 r1 kv => f1 v1 w1 H1 r1.po r1.hr ?_⟩
    cases k1 with
    | val => cases hr
    | own => obtain ⟨⟨a, vs, ds, q1, q2, q3, q4, q5, q6, q7⟩, _⟩ := kv; exact ⟨a, vs, ds, q1, q2, q3, q4, q5, q6, q7⟩
    | slot i =>
      obtain ⟨e1, e2, ds, rfl⟩ := kv
      have hi : i ∈ O1 := of_decide_eq_true hr
      obtain ⟨v', e3, ow, _⟩ := r1.loc i _ e2
      rw [e1] at e3; cases e3
      obtain ⟨a, vs, ds, q1, q2, q3, q4, q5, q6, q7⟩ := ow hi
      exact ⟨a, vs, ds, q1, q2, q3, q4, q5, q6, q7⟩
theorem q_retN : PS X (.Return none pos) (tS C false O (denS C.F C.G .retN) (.dead, .dead)) := by
  refine ps_retN.imp fun D σ H q => ?_
  obtain ⟨w, ρ, o, r, f⟩ := q
  exact f .non w H r.po r.hr .non
theorem q_cont : PS X (.Continue pos) (tS C fr O (denS C.F C.G .cont) (.dead, .at O)) := by
  refine ps_continue.imp fun D σ H q => ?_
  obtain ⟨w, ρ, o, r, f⟩ := q
  exact f O rfl σ w H (.refl w) r
theorem q_pass : PS X (.Pass pos) (tS C fr O (denS C.F C.G .pass) (.at O, .dead)) := by
  refine ps_pass.imp fun D σ H q => ?_
  obtain ⟨w, ρ, o, r, f⟩ := q
  exact f O rfl σ w H (.refl w) r
theorem q_bad : PS X st (tS C fr O (denS C.F C.G .bad) F) := by
  refine ps_never.imp fun D σ H q => ?_
  obtain ⟨w, ρ, o, r, f⟩ := q
  exact f

/-! ### flow -/
theorem fin_ts {m : Res Out} {w0 w1 : W} {D : Ends} {F F' : Fl × Fl} (l : W.Le w0 w1) (h1 : FlLe F'.1 F.1) (h2 : FlLe F'.2 F.2) (f : Fin m (fun r o' => match r with
  | .nx ρ' => ∀ O', F'.1 = .at O' → ∀ σ' w' H', W.Le w0 w' → R C.K C.b O' w' σ' ρ' H' o' → D.nx σ' H'
  | .ct ρ' => ∀ O', F'.2 = .at O' → ∀ σ' w' H', W.Le w0 w' → R C.K C.b O' w' σ' ρ' H' o' → D.ct σ' H'
  | .ret d => ∀ v w' H', Post C.b w' H' → HR C.K w' H' o' → RetV C.K fr C.b.w C.b.H w' H' v d → D.rt v H') C.exn) : Fin m (fun r o' => match r with
  | .nx ρ' => ∀ O', F.1 = .at O' → ∀ σ' w' H', W.Le w1 w' → R C.K C.b O' w' σ' ρ' H' o' → D.nx σ' H'
  | .ct ρ' => ∀ O', F.2 = .at O' → ∀ σ' w' H', W.Le w1 w' → R C.K C.b O' w' σ' ρ' H' o' → D.ct σ' H'
  | .ret d => ∀ v w' H', Post C.b w' H' → HR C.K w' H' o' → RetV C.K fr C.b.w C.b.H w' H' v d → D.rt v H') C.exn := by
  refine f.imp fun r o' g => ?_
  cases r with
  | nx ρ' =>
    intro O1 e σ' w' H' l' r'
    obtain ⟨O', e', s⟩ := h1 O1 e
    obtain ⟨w2, l2, r2⟩ := r'.leak s
    exact g O' e' σ' w2 H' (l.trans (l'.trans l2)) r2
  | ct ρ' =>
    intro O1 e σ' w' H' l' r'
    obtain ⟨O', e', s⟩ := h2 O1 e
    obtain ⟨w2, l2, r2⟩ := r'.leak s
    exact g O' e' σ' w2 H' (l.trans (l'.trans l2)) r2
  | ret d => exact g
theorem q_ite {sa sb : List Stmt} {A B : Ev.Ss} {r1 : List Nat × Kd} (g : GoodS TB N kk C X) (ht : tstOk c = true) (hc : chkE TB N c X.env.scope xc O = some r1) (ha : PSs X sa (tS C fr r1.1 (denSs C.F C.G A) F1)) (hb : PSs X sb (tS C fr r1.1 (denSs C.F C.G B) F2)) :
    PS X (.If xc sa sb pos) (tS C fr O (denS C.F C.G (.ite c A B)) (F1.1.join F2.1, F1.2.join F2.2)) := by
  obtain ⟨O1, k1⟩ := r1
  refine (ps_if ((okE TB N kk c).pt _ _ _ _ _ _ g.g ht hc) ha hb).imp fun D σ H q => ?_
  obtain ⟨w, ρ, o, r, f⟩ := q
  simp only [denS] at f
  refine ⟨w, ρ, o, r, (fin_bind f).imp fun kb o1 f1 w1 H1 l1 r1 => ?_⟩
  cases kb with
  | true =>
    rw [if_pos rfl] at f1 ⊢
    exact ⟨w1, ρ, o1, r1, fin_ts (F := F1) (F' := (F1.1.join F2.1, F1.2.join F2.2)) l1 (fl_l _ _) (fl_l _ _) f1⟩
  | false =>
    rw [if_neg (by decide)] at f1 ⊢
    exact ⟨w1, ρ, o1, r1, fin_ts (F := F2) (F' := (F1.1.join F2.1, F1.2.join F2.2)) l1 (fl_r _ _) (fl_r _ _) f1⟩
theorem q_for {t : Ev.T} {it : Ev.I} {xi : Expr} {sb : List Stmt} {B : Ev.Ss} {L : List Nat} (g : GoodS TB N kk C X) (hp : plainE xi = true) (hno : noOwn it = true) (htg : chkT N (locB X.env.scope) t tg = true) (hi : chkI TB N it X.env.scope tg xi O = some O1) (hs : ∀ i ∈ L, i ∈ O1) (h1 : FlLe (.at L) F.1) (h2 : FlLe (.at L) F.2)
    (hb : PSs X sb (tS C fr (rms L t.own) (denSs C.F C.G B) F)) : PS X (.For tg xi sb [] pos) (tS C fr O (denS C.F C.G (.for t it B)) (.at L, .dead)) := by
  have pg := s_tgt (X := X) g.g.ndX g.g.hN g.g.calm g.loc htg
  refine (ps_for g.po g.g.calm ((okI TB N kk it _ _ _ _ _ _ g.g hi).1 hno) pg hb (folded_of hp _)).imp fun D σ H q => ?_
  obtain ⟨w, ρ, o, r, f⟩ := q
  simp only [denS] at f
  refine ⟨w, ρ, o, r, (fin_bind f).imp fun xs o1 f1 J w1 H1 l1 r1 wk hlen => ?_⟩
  obtain ⟨w1', l1', r1'⟩ := r1.leak hs
  let Wi : Nat → Nat → L2.St → Hp → Prop := fun i m σ2 H2 => m = xs.length - i ∧ i ≤ xs.length ∧ ∃ w2 ρ2 o2, W.Le w1' w2 ∧ R C.K C.b L w2 σ2 ρ2 H2 o2 ∧
    Fin (forLoop (fun x ρ o => (Res.of (bindT t x ρ) o).bind fun ρ o => denSs C.F C.G B ρ o) (xs.drop i) ρ2 o2) (fun r o' => match r with
  | .nx ρ' => ∀ O', (Fl.at L, Fl.dead).1 = .at O' → ∀ σ' w' H', W.Le w w' → R C.K C.b O' w' σ' ρ' H' o' → D.nx σ' H'
  | .ct ρ' => ∀ O', (Fl.at L, Fl.dead).2 = .at O' → ∀ σ' w' H', W.Le w w' → R C.K C.b O' w' σ' ρ' H' o' → D.ct σ' H'
  | .ret d => ∀ v w' H', Post C.b w' H' → HR C.K w' H' o' → RetV C.K fr C.b.w C.b.H w' H' v d → D.rt v H') C.exn
  refine ⟨Wi, ⟨xs.length, by simp, Nat.zero_le _, w1', ρ, o1, .refl _, r1', f1⟩, ?_⟩
  rintro i m σ2 H2 ⟨rfl, hi, w2, ρ2, o2, l2, r2, f2⟩
  obtain ⟨wk1, wk2⟩ := wk w2 H2 (l1'.trans l2) r2.hr.sub
  by_cases hlt : i < xs.length
  · refine .inr ⟨(wk1 i xs[i] (List.getElem?_eq_getElem hlt)).1, fun σ' H' => Wi (i + 1) (xs.length - (i + 1)) σ' H', fun σ' H' nx => ⟨_, by omega, nx⟩, fun x H3 y => ?_⟩
    have yr := (wk1 i xs[i] (List.getElem?_eq_getElem hlt)).2 x H3 y
    obtain ⟨w3, l3, r3, p3⟩ := R.yr r2 yr
    rw [List.drop_eq_getElem_cons hlt] at f2
    have f3 := fin_bind f2
    obtain ⟨ρ3, e3, f4⟩ := fin_of (fin_bind f3)
    rw [g.g.hK]
    refine g_bind r3 p3 e3 fun σ3 r4 _ _ => ⟨w3, ρ3, o2, r4, f4.imp fun out o5 f5 => ?_⟩
    cases out with
    | nx ρ5 =>
      intro O5 e5 σ5 w5 H5 l5 r5
      obtain ⟨O', e', s⟩ := h1 O5 e5
      cases e'
      obtain ⟨w6, l6, r6⟩ := r5.leak s
      exact ⟨rfl, hlt, w6, ρ5, o5, l2.trans (l3.trans (l5.trans l6)), r6, f5⟩
    | ct ρ5 =>
      intro O5 e5 σ5 w5 H5 l5 r5
      obtain ⟨O', e', s⟩ := h2 O5 e5
      cases e'
      obtain ⟨w6, l6, r6⟩ := r5.leak s
      exact ⟨rfl, hlt, w6, ρ5, o5, l2.trans (l3.trans (l5.trans l6)), r6, f5⟩
    | ret d => exact f5
  · have last : i = xs.length := by omega
    subst last
    rw [List.drop_length] at f2
    exact .inl ⟨wk2, f2 L rfl σ2 w2 H2 (l1.trans (l1'.trans l2)) r2⟩
theorem q_whl {sb : List Stmt} {B : Ev.Ss} {L : List Nat} {r1 : List Nat × Kd} (g : GoodS TB N kk C X) (ht : tstOk c = true) (hs : ∀ i ∈ L, i ∈ O) (hc : chkE TB N c X.env.scope xc L = some r1) (h1 : FlLe (.at L) F.1) (h2 : FlLe (.at L) F.2)
    (hb : PSs X sb (tS C fr r1.1 (denSs C.F C.G B) F)) : PS X (.While xc sb [] pos) (tS C fr O (denS C.F C.G (.whl c B)) (.at r1.1, .dead)) := by
  obtain ⟨O1, k1⟩ := r1
  refine (ps_while g.po ((okE TB N kk c).pt _ _ _ _ _ _ g.g ht hc) hb).imp fun D σ H q => ?_
  obtain ⟨w, ρ, o, r, f⟩ := q
  simp only [denS] at f
  obtain ⟨w1', l1', r1'⟩ := r.leak hs
  have hne : whl (denT C.F C.G c) (fun ρ o => denSs C.F C.G B ρ o) ρ o ≠ .bad := fun z => by rw [z] at f; exact f
  obtain ⟨n, hn⟩ := whl_ne hne
  rw [← hn] at f
  let Wi : Nat → L2.St → Hp → Prop := fun m σ2 H2 => ∃ w2 ρ2 o2, W.Le w1' w2 ∧ R C.K C.b L w2 σ2 ρ2 H2 o2 ∧
    Fin (whlN (denT C.F C.G c) (fun ρ o => denSs C.F C.G B ρ o) m ρ2 o2) (fun r o' => match r with
  | .nx ρ' => ∀ O', (Fl.at O1, Fl.dead).1 = .at O' → ∀ σ' w' H', W.Le w w' → R C.K C.b O' w' σ' ρ' H' o' → D.nx σ' H'
  | .ct ρ' => ∀ O', (Fl.at O1, Fl.dead).2 = .at O' → ∀ σ' w' H', W.Le w w' → R C.K C.b O' w' σ' ρ' H' o' → D.ct σ' H'
  | .ret d => ∀ v w' H', Post C.b w' H' → HR C.K w' H' o' → RetV C.K fr C.b.w C.b.H w' H' v d → D.rt v H') C.exn
  refine ⟨Wi, ⟨n, w1', ρ, o, .refl _, r1', f⟩, ?_⟩
  rintro m σ2 H2 ⟨w2, ρ2, o2, l2, r2, f2⟩
  cases m with
  | zero => exact f2.elim
  | succ m =>
    refine ⟨w2, ρ2, o2, r2, (fin_bind f2).imp fun kb o3 f3 w3 H3 l3 r3 => ?_⟩
    cases kb with
    | false =>
      rw [if_neg (by decide)] at f3 ⊢
      exact f3 _ rfl _ _ _ (l1'.trans (l2.trans l3)) r3
    | true =>
      rw [if_pos rfl] at f3 ⊢
      refine ⟨fun σ' H' => Wi m σ' H', fun σ' H' h => ⟨m, Nat.lt_succ_self m, h⟩, w3, ρ2, o3, r3, (fin_bind f3).imp fun out o5 f5 => ?_⟩
      cases out with
      | nx ρ5 =>
        intro O5 e5 σ5 w5 H5 l5 r5
        obtain ⟨O', e', s⟩ := h1 O5 e5
        cases e'
        obtain ⟨w6, l6, r6⟩ := r5.leak s
        exact ⟨w6, ρ5, o5, l2.trans (l3.trans (l5.trans l6)), r6, f5⟩
      | ct ρ5 =>
        intro O5 e5 σ5 w5 H5 l5 r5
        obtain ⟨O', e', s⟩ := h2 O5 e5
        cases e'
        obtain ⟨w6, l6, r6⟩ := r5.leak s
        exact ⟨w6, ρ5, o5, l2.trans (l3.trans (l5.trans l6)), r6, f5⟩
      | ret d => exact f5
theorem q_nil : PSs X [] (tS C fr O (denSs C.F C.G .nil) (.at O, .dead)) := by
  refine pss_nil.imp fun D σ H q => ?_
  obtain ⟨w, ρ, o, r, f⟩ := q
  exact f O rfl σ w H (.refl w) r
theorem q_dead {s : Ev.S} {ss : Ev.Ss} {Fc : Fl} (h : PS X st (tS C fr O (denS C.F C.G s) (.dead, Fc))) : PSs X (st :: sts) (tS C fr O (denSs C.F C.G (.cons s ss)) (.dead, Fc)) := by
  refine (pss_cons h pss_never).imp fun D σ H q => ?_
  obtain ⟨w, ρ, o, r, f⟩ := q
  simp only [denSs] at f
  refine ⟨w, ρ, o, r, (fin_bind f).imp fun out o1 f1 => ?_⟩
  cases out with
  | nx ρ1 => intro O' e; cases e
  | ct ρ1 => exact f1
  | ret d => exact f1
theorem q_cons {s : Ev.S} {ss : Ev.Ss} {Fc : Fl} (h : PS X st (tS C fr O (denS C.F C.G s) (.at O1, Fc))) (hs : PSs X sts (tS C fr O1 (denSs C.F C.G ss) F2)) : PSs X (st :: sts) (tS C fr O (denSs C.F C.G (.cons s ss)) (F2.1, Fc.join F2.2)) := by
  refine (pss_cons h hs).imp fun D σ H q => ?_
  obtain ⟨w, ρ, o, r, f⟩ := q
  simp only [denSs] at f
  refine ⟨w, ρ, o, r, (fin_bind f).imp fun out o1 f1 => ?_⟩
  cases out with
  | nx ρ1 =>
    intro O' e σ1 w1 H1 l1 r1
    cases e
    exact ⟨w1, ρ1, o1, r1, fin_ts (F := F2) (F' := (F2.1, Fc.join F2.2)) l1 (.refl _) (fl_r _ _) f1⟩
  | ct ρ1 =>
    intro O' e σ1 w1 H1 l1 r1
    obtain ⟨O2, e2, s2⟩ := fl_l Fc F2.2 O' e
    obtain ⟨w2, l2, r2⟩ := r1.leak s2
    exact f1 O2 e2 σ1 w2 H1 (l1.trans l2) r2
  | ret d => exact f1
end
end Ev

/-! the check is sound: statements, defs -/
namespace Ev
open PySem L2 PySem.Spec PyProof.Rows
section
variable (TB : Tab) (N : List Str) (kk : Nat) (fr : Bool)
theorem exp_sw {ex : Expr} {env : PySem.Env} {line : Nat} (h : noSD ex = true) (h2 : ∀ a b c d, ex ≠ .ListComp a b c d) : swapsWith ex none line env = pure false := by
  cases ex <;> first | rfl | (simp [noSD] at h; done) | (exact absurd rfl (h2 _ _ _ _))
mutual
theorem okS : ∀ (s : Ev.S) (C : Cn) (X : Cx) (st : Stmt) (O : List Nat) (F : Fl × Fl), GoodS TB N kk C X → chkS TB N fr s X.env.scope st O = some F → PS X st (tS C fr O (denS C.F C.G s) F)
  | .asg t e, C, X, st, O, F, g, c => by
    unfold chkS at c
    split at c <;> first | (cases c; done) | (rename_i h; cases h; done) | (rename_i h _; cases h; done) | skip
    · rename_i hq
      cases hq
      split at c
      · rename_i h
        rw [Option.map_eq_some_iff] at c
        obtain ⟨r, h1, rfl⟩ := c
        exact q_asg1 g h.1 h.2.1 h.2.2 h1
      · cases c
    · rename_i hq
      cases hq
      split at c
      · rename_i h
        rw [Option.map_eq_some_iff] at c
        obtain ⟨r, h1, rfl⟩ := c
        exact q_asgN g h.1 h.2.2 h1
      · cases c
  | .par i j a b, C, X, st, O, F, g, c => by
    unfold chkS at c
    split at c <;> first | (cases c; done) | (rename_i h; cases h; done) | (rename_i h _; cases h; done) | skip
    rename_i hq
    cases hq
    split at c
    · rename_i h
      simp only [Option.bind_eq_some_iff, Option.map_eq_some_iff] at c
      obtain ⟨r, h1, q, h2, rfl⟩ := c
      rcases h.2.2.2 with hp | hp
      · exact q_par g h.1 h.2.1 h.2.2.1 hp h1 h2
      · exact q_par2 g h.1 h.2.1 h.2.2.1 hp h1 h2
    · cases c
  | .sto i ix e, C, X, st, O, F, g, c => by
    unfold chkS at c
    split at c <;> first | (cases c; done) | (rename_i h; cases h; done) | (rename_i h _; cases h; done) | skip
    rename_i hq
    cases hq
    split at c
    · rename_i h
      simp only [Option.bind_eq_some_iff] at c
      obtain ⟨r, h1, q, h2, c⟩ := c
      split at c
      · rename_i h'
        cases c
        exact q_sto g h.1 h.2.1 h.2.2.1 h.2.2.2 h1 h2 h'.1 h'.2
      · cases c
    · cases c
  | .stoP i ix jx a b, C, X, st, O, F, g, c => by
    unfold chkS at c
    split at c <;> first | (cases c; done) | (rename_i h; cases h; done) | (rename_i h _; cases h; done) | skip
    rename_i hq
    cases hq
    split at c
    · rename_i h
      obtain ⟨h0, h1, h2, h3, h4, h5, h6, h7⟩ := h
      subst h1
      simp only [Option.bind_eq_some_iff] at c
      obtain ⟨r, e1, q, e2, s, e3, t, e4, c⟩ := c
      split at c
      · rename_i h'
        cases c
        exact q_stoP g h0 h2 h3 h4 h5 h6 h7 e1 e2 e3 e4 h'.1 h'.2.1 h'.2.2
      · cases c
    · cases c
  | .dst m kx e, C, X, st, O, F, g, c => by
    unfold chkS at c
    split at c <;> first | (cases c; done) | (rename_i h; cases h; done) | (rename_i h _; cases h; done) | skip
    rename_i hq
    cases hq
    split at c
    · rename_i h
      simp only [Option.bind_eq_some_iff, Option.map_eq_some_iff] at c
      obtain ⟨r, h1, q, h2, s, h3, rfl⟩ := c
      exact q_dst g h1 h2 h3
    · cases c
  | .app i e, C, X, st, O, F, g, c => by
    unfold chkS at c
    split at c <;> first | (cases c; done) | (rename_i h; cases h; done) | (rename_i h _; cases h; done) | skip
    rename_i hq
    cases hq
    split at c
    · rename_i h
      obtain ⟨h0, h1, h2, h3, h4, h5, h6⟩ := h
      subst h3
      simp only [Option.bind_eq_some_iff] at c
      obtain ⟨r, e1, c⟩ := c
      split at c
      · rename_i h'
        cases c
        exact q_app g h0 h1 h2 h4 h5 h6 e1 h'
      · cases c
    · cases c
  | .ext i e, C, X, st, O, F, g, c => by
    unfold chkS at c
    split at c <;> first | (cases c; done) | (rename_i h; cases h; done) | (rename_i h _; cases h; done) | skip
    rename_i hq
    cases hq
    split at c
    · rename_i h
      obtain ⟨h0, h1, h2, h3, h4, h5, h6⟩ := h
      subst h3
      simp only [Option.bind_eq_some_iff] at c
      obtain ⟨r, e1, c⟩ := c
      split at c
      · rename_i h'
        cases c
        exact q_ext g h0 h1 h2 h4 h5 h6 e1 h'
      · cases c
    · cases c
  | .pop t i, C, X, st, O, F, g, c => by
    unfold chkS at c
    cases c
  | .exp e, C, X, st, O, F, g, c => by
    unfold chkS at c
    split at c <;> first | (cases c; done) | (rename_i h; cases h; done) | (rename_i h _; cases h; done) | skip
    rename_i hq
    cases hq
    split at c
    · cases c
    · rename_i h0
      split at c
      · rename_i h
        rw [Option.map_eq_some_iff] at c
        obtain ⟨r, h1, rfl⟩ := c
        exact q_exp g (exp_sw h h0) h1
      · cases c
  | .ite cc a b, C, X, st, O, F, g, c => by
    unfold chkS at c
    split at c <;> first | (cases c; done) | (rename_i h; cases h; done) | (rename_i h _; cases h; done) | skip
    rename_i hq
    cases hq
    split at c
    · rename_i h
      simp only [Option.bind_eq_some_iff, Option.map_eq_some_iff] at c
      obtain ⟨r, h1, p, h2, q, h3, rfl⟩ := c
      exact q_ite g h h1 (okSs a C X _ _ _ g h2) (okSs b C X _ _ _ g h3)
    · cases c
  | .for t it b, C, X, st, O, F, g, c => by
    unfold chkS at c
    split at c <;> first | (cases c; done) | (rename_i h; cases h; done) | (rename_i h _; cases h; done) | skip
    rename_i hq
    cases hq
    split at c
    · rename_i h
      simp only [Option.bind_eq_some_iff, Option.map_eq_some_iff] at c
      obtain ⟨O1, h1, L, h2, rfl⟩ := c
      obtain ⟨F, h3, h4, h5, h6⟩ := fix_of h2
      exact q_for g h.1 h.2.2 h.2.1 h1 h4 h5 h6 (okSs b C X _ _ _ g h3)
    · cases c
  | .whl cc b, C, X, st, O, F, g, c => by
    unfold chkS at c
    split at c <;> first | (cases c; done) | (rename_i h; cases h; done) | (rename_i h _; cases h; done) | skip
    rename_i hq
    cases hq
    split at c
    · rename_i h
      simp only [Option.bind_eq_some_iff, Option.map_eq_some_iff] at c
      obtain ⟨L, h2, r, h1, rfl⟩ := c
      obtain ⟨F, h3, h4, h5, h6⟩ := fix_of h2
      rw [Option.bind_eq_some_iff] at h3
      obtain ⟨r', h7, h8⟩ := h3
      rw [h1] at h7; cases h7
      exact q_whl g h h4 h1 h5 h6 (okSs b C X _ _ _ g h8)
    · cases c
  | .ret e, C, X, st, O, F, g, c => by
    unfold chkS at c
    split at c <;> first | (cases c; done) | (rename_i h; cases h; done) | (rename_i h _; cases h; done) | skip
    rename_i hq
    cases hq
    simp only [Option.bind_eq_some_iff] at c
    obtain ⟨r, h1, c⟩ := c
    split at c
    · rename_i h
      cases c
      exact q_ret g h1 h
    · cases c
  | .retN, C, X, st, O, F, g, c => by
    unfold chkS at c
    split at c <;> first | (cases c; done) | (rename_i h; cases h; done) | (rename_i h _; cases h; done) | skip
    split at c
    · cases c
    · rename_i h
      cases c
      have hf : fr = false := by cases fr <;> simp_all
      rw [hf]
      exact q_retN
  | .cont, C, X, st, O, F, g, c => by
    unfold chkS at c
    split at c <;> first | (cases c; done) | (rename_i h; cases h; done) | (rename_i h _; cases h; done) | skip
    cases c
    exact q_cont
  | .pass, C, X, st, O, F, g, c => by
    unfold chkS at c
    split at c <;> first | (cases c; done) | (rename_i h; cases h; done) | (rename_i h _; cases h; done) | skip
    cases c
    exact q_pass
  | .bad, C, X, st, O, F, g, c => q_bad
theorem okSs : ∀ (ss : Ev.Ss) (C : Cn) (X : Cx) (sts : List Stmt) (O : List Nat) (F : Fl × Fl), GoodS TB N kk C X → chkSs TB N fr ss X.env.scope sts O = some F → PSs X sts (tS C fr O (denSs C.F C.G ss) F)
  | .nil, C, X, sts, O, F, g, c => by
    cases sts with
    | nil =>
      simp only [chkSs, Option.some.injEq] at c
      subst c
      exact q_nil
    | cons st sts => simp [chkSs] at c
  | .cons s ss, C, X, sts, O, F, g, c => by
    cases sts with
    | nil => simp [chkSs] at c
    | cons st sts =>
      simp only [chkSs, Option.bind_eq_some_iff] at c
      obtain ⟨F1, h1, c⟩ := c
      have p1 := okS s C X st O F1 g h1
      obtain ⟨Fa, Fb⟩ := F1
      cases Fa with
      | dead =>
        simp only [Option.some.injEq] at c
        subst c
        exact q_dead p1
      | «at» O1 =>
        simp only [Option.map_eq_some_iff] at c
        obtain ⟨F2, h2, rfl⟩ := c
        exact q_cons p1 (okSs ss C X sts O1 F2 g h2)
end
end
end Ev

/-! defs keep what the small language says of them; the head's facts -/
namespace Ev
open PySem L2 PySem.Spec PyProof.Rows
/-- a def of the text with its small form -/
structure Dd where
  fn : Fn
  st : Stmt
def Fn.ps (f : Fn) : List Str := f.N.take f.np
def scB (N P : List Str) (sc : Scope) : Bool := (match sc.kind with | .function => true | _ => false) && !sc.isCoroutine && !sc.isGenerator && decide N.Nodup && decide (N.take P.length = P) && (P.all fun x => locB sc x) && (sc.names.all fun y => match y.2 with | .free => false | _ => true)
theorem sc_of {N P : List Str} {sc : Scope} (h : scB N P sc = true) : FnScope N P sc := by
  unfold scB at h
  simp only [Bool.and_eq_true, decide_eq_true_eq, Bool.not_eq_true', List.all_eq_true] at h
  obtain ⟨⟨⟨⟨⟨⟨h1, h2⟩, h3⟩, h4⟩, h5⟩, h6⟩, h7⟩ := id h
  refine ⟨?_, h2, h3, h4, h5, fun x hx => loc_of (h6 x hx), fun y hy e => ?_⟩
  · split at h1
    · assumption
    · cases h1
  · have := h7 y hy
    rw [e] at this
    cases this
def chkFn (TB : Tab) (d : Dd) : Bool := scB d.fn.N d.fn.ps (defScope d.st) && decide (d.fn.np ≤ d.fn.N.length) && (match chkSs TB d.fn.N d.fn.fresh d.fn.body (defScope d.st) (defBody d.st) [] with
  | some F => (match F.1 with
    | .dead => true
    | _ => !d.fn.fresh)
  | none => false)
theorem fn_of_chk {TB : Tab} {d : Dd} (h : chkFn TB d = true) : FnScope d.fn.N d.fn.ps (defScope d.st) ∧ d.fn.np ≤ d.fn.N.length ∧ ∃ F, chkSs TB d.fn.N d.fn.fresh d.fn.body (defScope d.st) (defBody d.st) [] = some F ∧ (d.fn.fresh = true → F.1 = .dead) := by
  unfold chkFn at h
  simp only [decide_eq_true_eq, Bool.and_eq_true] at h
  obtain ⟨⟨h1, h2⟩, h3⟩ := h
  refine ⟨sc_of h1, h2, ?_⟩
  split at h3
  · rename_i F hF
    refine ⟨F, hF, fun hf => ?_⟩
    split at h3
    · assumption
    · rw [hf] at h3; cases h3
  · cases h3
def mkD (d : Dd) : He.DefD := ⟨(d.fn.name, none), d.fn.name, d.fn.name, defArgs d.st, defBody d.st, defScope d.st, [], []⟩
def BindsOk (d : Dd) : Prop := ∀ (kV doc pm : Value) (an : Option Addr) (cdv ct : Value) (us : List Value), us.length = d.fn.ps.length → bindArgs (PySem.W.fnOf d.fn.name d.fn.name (defArgs d.st) (defBody d.st) (defScope d.st) .none kV doc pm an cdv ct) ⟨us, []⟩ = pure (d.fn.ps.zip us)
abbrev FnP (K : PySem.W.Frag) (d : Dd) (f : Addr) (fd : FuncData) : Prop := FunD K d.fn.name d.fn.name (defArgs d.st) (defBody d.st) (defScope d.st) [] [] f fd
/-- what is known of the module -/
structure Here (defs : List Dd) (TB : Tab) (G : Gs) (K : PySem.W.Frag) (mg : Str → Option Value) : Prop where
  tb : TB.fns = defs.map (·.fn)
  chk : ∀ d ∈ defs, chkFn TB d = true
  bd : ∀ d ∈ defs, BindsOk d
  fn : ∀ d ∈ defs, ∃ af fd, FnP K d af fd ∧ mg d.fn.name = some (.ref af)
  bn : ∀ x ∈ biNames, mg x = none
  gcd : TB.gcd = true → mg "gcd" = some (.builtin "math.gcd")
  gs : ∀ (j : Nat) x, TB.gs[j]? = some x → ∃ u v d, mg x = some u ∧ RelV v u ∧ G j = some d ∧ ∀ w, Rep K w v d
def Ck (K : PySem.W.Frag) (F : Fs) (G : Gs) (XR : W → Hp → Value → Option Addr → D → Prop) : Cn := ⟨K, ⟨⟨fun _ => none, []⟩, fun _ => none, []⟩, F, G, fun _ _ _ => False, XR⟩
section
variable {defs : List Dd} {TB : Tab} {G : Gs} {P : Program} {w : World} {K : PySem.W.Frag} {mg : Str → Option Value} {base : Heap} {XR : W → Hp → Value → Option Addr → D → Prop}
theorem ps_len {f : Fn} (h : f.np ≤ f.N.length) : f.ps.length = f.np := by unfold Fn.ps; rw [List.length_take]; omega
theorem spec_len {C : Cn} {n : Nat} {fresh : Bool} {i : Nat} {vs : List V} {H : Hp} {Q : VK} {E : XK} (h : spec C n fresh i vs H Q E) : vs.length = n := by
  obtain ⟨_, _, ds, _, r, l, _⟩ := h
  rw [r.length, l]
theorem start_R {wd : Ev.W} {H : Hp} {o : Os} {vs : List V} {ds : List D} {N : List Str} (hr : HR K wd H o) (r : Reps K wd vs ds) : R K ⟨wd, H, []⟩ [] wd (L2.start N vs) (ds.map some ++ List.replicate (N.length - ds.length) none) H o := by
  refine ⟨hr, Post.refl _ _ _, ?_, fun i d e => ?_, fun i j v hi => by (cases hi), fun p hp => by (cases hp)⟩
  · unfold L2.start
    rw [List.length_append, List.length_append, List.length_map, List.length_map, List.length_replicate, List.length_replicate, r.length]
  · unfold look at e
    split at e
    · rename_i d' hd
      cases e
      by_cases hi : i < ds.length
      · rw [List.getElem?_append_left (by simpa using hi), List.getElem?_map] at hd
        simp only [Option.map_eq_some_iff] at hd
        obtain ⟨d2, h1, h2⟩ := hd
        cases h2
        obtain ⟨v, h3, h4⟩ := r.get h1
        refine ⟨v, ?_, fun z => by (cases z), fun _ => h4⟩
        unfold L2.start
        rw [List.getElem?_append_left (by simpa [r.length] using hi), List.getElem?_map, h3]
        rfl
      · rw [List.getElem?_append_right (by simpa using hi), List.getElem?_replicate] at hd
        split at hd <;> cases hd
    · cases e
theorem all_ok (h : Here defs TB G K mg) : ∀ (k : Nat) (i : Nat) fn, TB.fns[i]? = some fn → ∃ af fd, (∀ base : Heap, FnOk P w K mg base (L2.CX P w) k af fd fn.ps (spec (Ck K (sem G TB.fns k) G XR) fn.np fn.fresh i)) ∧
    mg fn.name = some (.ref af) ∧ (PySem.W.keepIn K (.ref af) = true ∧ Binds K fd fn.ps []) ∧ ∀ (s : Shared) (us : List Value), us.length = fn.ps.length → BindsTo s fd ⟨us, []⟩ (fn.ps.zip us)
  | 0, i, fn, hi => by
    rw [h.tb, List.getElem?_map] at hi
    simp only [Option.map_eq_some_iff] at hi
    obtain ⟨d, hd, rfl⟩ := hi
    have hm := List.mem_of_getElem? hd
    obtain ⟨af, fd, F, hg⟩ := h.fn d hm
    obtain ⟨_, hl, _⟩ := fn_of_chk (h.chk d hm)
    refine ⟨af, fd, fun base => ⟨fun vs H Q E q => by rw [spec_len q, ps_len hl], fun A outer s H args us vs Q E hr e0 hb r q => ?_⟩, hg, ⟨F.kp, FunD.bindsN F (h.bd d hm)⟩, fun s us hl => FunD.bindsA F (h.bd d hm) s us hl⟩
    obtain ⟨_, _, _, _, _, _, z⟩ := q
    exact z.elim
  | k + 1, i, fn, hi => by
    have ih := all_ok h k
    have hi0 := hi
    rw [h.tb, List.getElem?_map] at hi
    simp only [Option.map_eq_some_iff] at hi
    obtain ⟨d, hd, rfl⟩ := hi
    have hm := List.mem_of_getElem? hd
    obtain ⟨af, fd, F, hg⟩ := h.fn d hm
    obtain ⟨S, hl, Fl, hc, hf⟩ := fn_of_chk (h.chk d hm)
    refine ⟨af, fd, fun base => FunD.ok F S (fun vs H Q E q => by rw [spec_len q, ps_len hl]) (fun cdv A outer s H vs Q E hr q => ?_), hg, ⟨F.kp, FunD.bindsN F (h.bd d hm)⟩, fun s us hl => FunD.bindsA F (h.bd d hm) s us hl⟩
    obtain ⟨wd, o, ds, hrr, r, ln, f⟩ := q
    have f : Fin (sem G TB.fns (k + 1) i ds o) (fun d1 o' => ∀ v w' H', Post ⟨wd, H, []⟩ w' H' → HR K w' H' o' → RetV K d.fn.fresh wd H w' H' v d1 → Q v H') (fun x o' => ∀ cls od w' H', Post ⟨wd, H, []⟩ w' H' → HR K w' H' o' → XR w' H' cls od x → E cls od H') := f
    have e1 : sem G TB.fns (k + 1) i ds o = runBody (sem G TB.fns k) G d.fn ds o := by
      show (match TB.fns[i]? with | some f => runBody (sem G TB.fns k) G f ds o | none => .bad) = _
      rw [hi0]
    rw [e1] at f
    unfold runBody at f
    rw [if_pos ln] at f
    let C : Cn := ⟨K, ⟨wd, H, []⟩, sem G TB.fns k, G, E, XR⟩
    refine ⟨tS C d.fn.fresh [] (denSs C.F C.G d.fn.body) Fl, ?_, wd, _, o, start_R hrr r, ?_⟩
    · refine okSs TB d.fn.N k d.fn.fresh d.fn.body C _ _ [] Fl ⟨⟨rfl, rfl, ?_, rfl, S.nd, h.bn, h.gcd, fun f fn hfn => (let ⟨af', fd', F', r', r2, _⟩ := ih f fn hfn; ⟨af', fd', F' base, r', r2⟩), hr, h.gs, passes_call (W := fun cls d _ H => E cls d H) (takes_of rfl rfl rfl rfl) fun _ _ _ _ z => z⟩, S.kind, fun _ => rfl, passes_of rfl⟩ hc
      have := hr.un
      show A.units + 3 + 65 < cLine
      have h2 : (A.deeper (envOfC d.fn.name (defScope d.st) s.heap.objs.size af cdv)).units = A.units + 3 := rfl
      rw [h2] at this
      omega
    · refine (fin_bind f).imp fun out o1 f1 => ?_
      cases out with
      | nx ρ' =>
        intro O' e σ' w' H' l' r'
        refine f1 .non w' H' r'.po r'.hr ?_
        cases hfr : d.fn.fresh with
        | false => exact .non
        | true => rw [hf hfr] at e; cases e
      | ct ρ' => exact f1.elim
      | ret dd => exact f1
end

/-! ### the head's facts -/
def datB (K : PySem.W.Frag) : Nat → Value → D → Bool
  | _, .none, .non => true
  | _, .bool b, .bl c => b == c
  | _, .int i _, .int j => decide (i = j)
  | _, .str x _, .str y => decide (x = y)
  | n + 1, .ref a, .tup ds => match K.lookup a with
    | some ⟨.type c, _, .seq its _, _⟩ => decide (c = "tuple") && decide (its.size ≤ sizeLine) && decide (its.toList.length = ds.length) && ((its.toList.zip ds).all fun p => datB K n p.1 p.2)
    | _ => false
  | _, _, _ => false
theorem dat_ok {K : PySem.W.Frag} : ∀ {n : Nat} {u : Value} {d : D}, datB K n u d = true → ∃ v, RelV v u ∧ ∀ w, Rep K w v d
  | n, .none, d, h => by
    cases d <;> first | (cases n <;> simp [datB] at h; done) | exact ⟨.non, rfl, fun w => .non⟩
  | n, .bool b, d, h => by
    cases d <;> first | (cases n <;> simp [datB] at h; done) | skip
    rename_i c
    have : b = c := by cases n <;> simpa [datB] using h
    subst this
    exact ⟨.bl b, rfl, fun w => .bl b⟩
  | n, .int i t, d, h => by
    cases d <;> first | (cases n <;> simp [datB] at h; done) | skip
    rename_i c
    have : i = c := by cases n <;> simpa [datB] using h
    subst this
    exact ⟨.int i, ⟨t, rfl⟩, fun w => .int i⟩
  | n, .str x t, d, h => by
    cases d <;> first | (cases n <;> simp [datB] at h; done) | skip
    rename_i c
    have : x = c := by cases n <;> simpa [datB] using h
    subst this
    exact ⟨.str x, ⟨t, rfl⟩, fun w => .str x⟩
  | 0, .ref a, d, h => by cases d <;> simp [datB] at h
  | n + 1, .ref a, d, h => by
    cases d <;> first | (simp [datB] at h; done) | skip
    rename_i ds
    unfold datB at h
    split at h
    · rename_i o c od its m osl hq
      simp only [decide_eq_true_eq, Bool.and_eq_true] at h
      obtain ⟨⟨⟨h1, h2⟩, h3⟩, h4⟩ := id h
      subst h1
      have key : ∀ {us : List Value} {ds : List D}, us.length = ds.length → ((us.zip ds).all fun p => datB K n p.1 p.2) = true → ∃ vs, Vals vs us ∧ ∀ w, Reps K w vs ds := by
        intro us
        induction us with
        | nil =>
          intro ds hl _
          cases ds with
          | nil => exact ⟨[], .nil, fun w => .nil⟩
          | cons _ _ => cases hl
        | cons u us ih =>
          intro ds hl ha
          cases ds with
          | nil => cases hl
          | cons d ds =>
            rw [List.zip_cons_cons, List.all_cons, Bool.and_eq_true] at ha
            obtain ⟨v, hv, hr⟩ := dat_ok (n := n) ha.1
            obtain ⟨vs, hvs, hrs⟩ := ih (by simpa using hl) ha.2
            exact ⟨v :: vs, .cons hv hvs, fun w => .cons (hr w) (hrs w)⟩
      obtain ⟨vs, hv, hr⟩ := key h3 h4
      exact ⟨.ref a, rfl, fun w => .tup (.inr ⟨_, its, m, hq, rfl, rfl, h2, hv⟩) (hr w)⟩
    · cases h
  | n, .bytes _ _, d, h => by cases d <;> (cases n <;> simp [datB] at h)
  | n, .float _ _, d, h => by cases d <;> (cases n <;> simp [datB] at h)
  | n, .ellipsis, d, h => by cases d <;> (cases n <;> simp [datB] at h)
  | n, .notImplemented, d, h => by cases d <;> (cases n <;> simp [datB] at h)
  | n, .type _, d, h => by cases d <;> (cases n <;> simp [datB] at h)
  | n, .builtin _, d, h => by cases d <;> (cases n <;> simp [datB] at h)
def glsB (K : PySem.W.Frag) (gl : List (Str × D)) (gcd : Bool) : Bool := (gl.all fun p => match PySem.W.nsIn K mainGlobals p.1 with
  | some (some u) => datB K 6 u p.2
  | _ => false) && (!gcd || He.eqO (PySem.W.nsIn K mainGlobals "gcd") (some (some (.builtin "math.gcd"))))
/-- the head's question: the defs, the constants -/
abbrev AlE : Type := He.AlD × Bool
def obsE (n : Nat) (fa : List He.Fa) (fn : List He.DefD) (gl : List (Str × D)) (gcd : Bool) (g : Addr → Option Obj) : AlE := (He.obsD fa fn (He.frG g (He.asD g n)), glsB (He.frG g (He.asD g n)) gl gcd)
def hookE (n : Nat) (fa : List He.Fa) (fn : List He.DefD) (gl : List (Str × D)) (gcd : Bool) : PySem.W.Hook where
  α := AlE
  obs := fun s => obsE n fa fn gl gcd s.heap.get?
  val := fun _ => (He.valD fn, true)
  says := fun _ h => ∃ K : PySem.W.Frag, K.In h ∧ He.SaysD fa fn K ∧ glsB K gl gcd = true
  of := fun _ _ e => ⟨_, He.frG_in, congrArg Prod.fst e, congrArg Prod.snd e⟩
  keeps := fun _ _ _ ⟨K, stands, c⟩ later => ⟨K, PySem.W.Frag.In.keeps stands later, c⟩
theorem obsE_eq {n : Nat} {fa : List He.Fa} {fn : List He.DefD} {gl : List (Str × D)} {gcd : Bool} {g : Addr → Option Obj} {s : Shared} (h : ∀ a, g a = s.heap.get? a) : obsE n fa fn gl gcd g = (hookE n fa fn gl gcd).obs s := by
  obtain rfl : g = s.heap.get? := funext h
  rfl
def faE (defs : List Dd) : List He.Fa := defs.map (fun d => .glo d.fn.name) ++ biNames.map .free
def tabE (defs : List Dd) (gl : List (Str × D)) (gcd : Bool) : Tab := ⟨defs.map (·.fn), gl.map (·.1), gcd⟩
def gsE (gl : List (Str × D)) : Gs := fun j => (gl[j]?).map (·.2)
theorem here_of {defs : List Dd} {gl : List (Str × D)} {gcd : Bool} {K : PySem.W.Frag} {h : Heap} {mg : Str → Option Value} (X : K.In h) (Gm : h.Ns mainGlobals mg) (c : He.SaysD (faE defs) (defs.map mkD) K) (c2 : glsB K gl gcd = true)
    (chk : (defs.all fun d => chkFn (tabE defs gl gcd) d) = true) (bd : ∀ d ∈ defs, BindsOk d) : Here defs (tabE defs gl gcd) (gsE gl) K mg := by
  unfold glsB at c2
  rw [Bool.and_eq_true] at c2
  refine ⟨rfl, fun d hd => List.all_eq_true.mp chk d hd, bd, fun d hd => ?_, fun x hx => ?_, fun hg => ?_, fun j x hj => ?_⟩
  · obtain ⟨i, hi⟩ := List.getElem?_of_mem hd
    have hlt : i < defs.length := by
      rcases Nat.lt_or_ge i defs.length with q | q
      · exact q
      · rw [List.getElem?_eq_none q] at hi; cases hi
    obtain ⟨fd, F⟩ := c.def_ i (d := mkD d) (by rw [List.getElem?_map, hi]; rfl)
    have hg := He.glo_ok X Gm (c.fact i (f := .glo d.fn.name) (by
      unfold faE
      rw [List.getElem?_append_left (by rw [List.length_map]; exact hlt), List.getElem?_map, hi]; rfl))
    exact ⟨_, fd, F, hg⟩
  · obtain ⟨i, hi⟩ := List.getElem?_of_mem hx
    exact He.free_ok X Gm (c.fact (defs.length + i) (f := .free x) (by
      unfold faE
      rw [List.getElem?_append_right (by rw [List.length_map]; exact Nat.le_add_right _ _), List.length_map, Nat.add_sub_cancel_left, List.getElem?_map, hi]; rfl))
  · have hg' : gcd = true := hg
    have := c2.2
    rw [hg'] at this
    exact PySem.W.mg_of X Gm (He.eqO_ok this)
  · have hj : (gl.map (·.1))[j]? = some x := hj
    rw [List.getElem?_map] at hj
    simp only [Option.map_eq_some_iff] at hj
    obtain ⟨p, hp, rfl⟩ := hj
    have := List.all_eq_true.mp c2.1 p (List.mem_of_getElem? hp)
    split at this
    · rename_i u hu
      obtain ⟨v, h1, h2⟩ := dat_ok this
      refine ⟨u, v, p.2, PySem.W.mg_of X Gm hu, h1, ?_, h2⟩
      unfold gsE
      rw [hp]; rfl
    · cases this
theorem fnOk_calm {P : Program} {w : World} {K : PySem.W.Frag} {mg : Str → Option Value} {base : Heap} {k : Nat} {f : Addr} {fd : FuncData} {ps : List Str} {sp : Sp} (F : FnOk P w K mg base (L2.CX P w) k f fd ps sp) : FnOk P w K mg base L2.CX0 k f fd ps (fun vs H Q _ => sp vs H Q fun _ _ _ => False) :=
  ⟨fun vs H Q E q => F.len _ _ _ _ q, fun A outer s H args us vs Q E hr e0 hb r q => codeAny_mono (F.run A outer s H args us vs Q (fun _ _ _ => False) hr e0 hb r q) fun res s' z => by
    cases res with
    | error e =>
      obtain ⟨_, _, _, _, _, _, _, _, _, _, _, _, z⟩ := z
      exact z.elim
    | ok v => cases v <;> exact z⟩
/-- the law's def -/
theorem law_in {defs : List Dd} {TB : Tab} {G : Gs} {P : Program} {w : World} {K : PySem.W.Frag} {mg : Str → Option Value} {k i : Nat} {fn : Fn} {fa : Addr} (h : Here defs TB G K mg) (hi : TB.fns[i]? = some fn) (hn : fn.np = 1) (hfr : fn.fresh = false) (hf : mg fn.name = some (.ref fa)) {x : Str} (hx : fn.ps = [x]) :
    ∃ fd, (∀ base : Heap, FnOk P w K mg base L2.CX0 k fa fd [x] (fun vs H Q _ => spec (Ck K (sem G TB.fns k) G fun _ _ _ _ _ => False) 1 false i vs H Q fun _ _ _ => False)) ∧ ∀ (s : Shared) (v : Value), BindsTo s fd ⟨[v], []⟩ [(x, v)] := by
  obtain ⟨af, fd, h1, h2, _, h4⟩ := all_ok (P := P) (w := w) (XR := fun _ _ _ _ _ => False) h k i fn hi
  rw [hf] at h2
  cases h2
  rw [hn, hfr, hx] at h1
  rw [hx] at h4
  exact ⟨fd, fun base => fnOk_calm (h1 base), fun s v => h4 s [v] rfl⟩
theorem law_sp {G : Gs} {fns : List Fn} {K : PySem.W.Frag} {k i : Nat} {H : Hp} {a : Addr} {ns : List Int} {o' : Os} (hS : SqL K H a (ns.map V.int)) (ho : ∀ b u, H b = some u → True) (e : sem G fns k i [.scr (ns.map .int)] [] = .ok (.bl true) o') :
    spec (Ck K (sem G fns k) G fun _ _ _ _ _ => False) 1 false i [.ref a] H (fun v _ => v = .bl true) fun _ _ _ => False := by
  refine ⟨⟨H, []⟩, [], [.scr (ns.map .int)], ⟨fun _ _ z => z, rfl, List.nodup_nil, fun n b c z => by simp at z⟩, .cons (.scr hS ?_) .nil, rfl, ?_⟩
  · clear e hS
    induction ns with
    | nil => exact .nil
    | cons n ns ih => exact .cons (.int n) ih
  · show Fin (sem G fns k i [.scr (ns.map .int)] []) _ _
    rw [e]
    intro v w' H' _ _ rv
    cases rv
    rfl
end Ev

/-! ratios in the small language -/
namespace Ev
open PySem
def Rq (q : Rat) : D := .tup [.int q.num, .int q.den]
theorem bind_ok {α β : Type} (a : α) (o : Os) (f : α → Os → Res β) : (Res.ok a o).bind f = f a o := rfl
theorem of_some {α : Type} (a : α) (o : Os) : Res.of (some a) o = .ok a o := rfl
theorem look_0 (x : Option D) (ρ : Env) : look (x :: ρ) 0 = x := by cases x <;> rfl
theorem look_s (x : Option D) (ρ : Env) (n : Nat) : look (x :: ρ) (n + 1) = look ρ n := rfl

/-- c is the common part with d's sign -/
theorem frac_num {n d c : Int} (hd : d ≠ 0) (hc : c = if 0 < d then (Int.gcd n d : Int) else -(Int.gcd n d : Int)) : n.fdiv c = (Rat.divInt n d).num := by
  rw [Rat.num_divInt, Int.gcd_comm d n]
  have hg : (Int.gcd n d : Int) ≠ 0 := by
    intro z
    exact hd (Int.gcd_eq_zero_iff.mp (by exact_mod_cast z)).2
  obtain ⟨m, hm⟩ := Int.gcd_dvd_left n d
  generalize (Int.gcd n d : Int) = g at *
  subst hc
  rw [hm]
  split
  · rename_i h
    rw [Int.sign_eq_one_of_pos h, Int.one_mul, Int.mul_fdiv_cancel_left m hg, Int.mul_ediv_cancel_left m hg]
  · rename_i h
    have : d < 0 := by omega
    rw [Int.sign_eq_neg_one_of_neg this, show g * m = (-g) * (-m) by grind, Int.mul_fdiv_cancel_left (-m) (by omega), show -1 * (-g * -m) = g * (-m) by grind, Int.mul_ediv_cancel_left (-m) hg]
theorem frac_den {n d c : Int} (hd : d ≠ 0) (hc : c = if 0 < d then (Int.gcd n d : Int) else -(Int.gcd n d : Int)) : d.fdiv c = ((Rat.divInt n d).den : Int) := by
  rw [Rat.den_divInt, if_neg hd, Int.gcd_comm d n]
  have hg : (Int.gcd n d : Int) ≠ 0 := by
    intro z
    exact hd (Int.gcd_eq_zero_iff.mp (by exact_mod_cast z)).2
  have hp : 0 < Int.gcd n d := by omega
  obtain ⟨m, hm⟩ := Int.gcd_dvd_right n d
  have hn : d.natAbs = Int.gcd n d * m.natAbs := by
    have := congrArg Int.natAbs hm
    rwa [Int.natAbs_mul, Int.natAbs_natCast] at this
  rw [hn, Nat.mul_div_cancel_left _ hp]
  generalize (Int.gcd n d) = g at *
  subst hc
  by_cases h : 0 < d
  · rw [if_pos h, hm, Int.mul_fdiv_cancel_left m hg]
    have hm0 : 0 ≤ m := by
      rcases Int.lt_or_le m 0 with q | q
      · have : (g : Int) * m < 0 := Int.mul_neg_of_pos_of_neg (by omega) q
        omega
      · exact q
    omega
  · rw [if_neg h, hm, show (g : Int) * m = (-(g : Int)) * (-m) by grind, Int.mul_fdiv_cancel_left (-m) (by omega)]
    have hm0 : m ≤ 0 := by
      rcases Int.lt_or_le 0 m with q | q
      · have : 0 < (g : Int) * m := Int.mul_pos (by omega) q
        omega
      · exact q
    omega

/-! ### sizes -/
def Sz (b : Nat) (q : Rat) : Prop := q.num.natAbs < 2 ^ b ∧ q.den < 2 ^ b
theorem log2_le {x b : Nat} (h : x < 2 ^ b) : x.log2 ≤ b := by
  by_cases h0 : x = 0
  · subst h0; exact Nat.zero_le _
  · exact Nat.le_of_lt ((Nat.log2_lt h0).mpr h)
theorem log2_lt' {x b : Nat} (h : x < 2 ^ b) (hb : 0 < b) : x.log2 < b := by
  by_cases h0 : x = 0
  · subst h0; exact hb
  · exact Iff.mpr (Nat.log2_lt h0) h
theorem mul_ok {i j : Int} {a b : Nat} (hi : i.natAbs < 2 ^ a) (hj : j.natAbs < 2 ^ b) (h : a + b < 1000000) : mulOk i j = true := by
  unfold mulOk
  exact decide_eq_true (Nat.lt_of_le_of_lt (Nat.add_le_add (log2_le hi) (log2_le hj)) h)
theorem div_ok {j : Int} {b : Nat} (h0 : j ≠ 0) (hj : j.natAbs < 2 ^ b) (h : b ≤ 9000) : divOk j = true := by
  unfold divOk
  rw [Bool.and_eq_true]
  refine ⟨decide_eq_true h0, decide_eq_true ?_⟩
  have : j.natAbs.log2 < b := (Nat.log2_lt (by omega)).mpr hj
  omega
theorem mul_lt {a b : Nat} {i j : Int} (hi : i.natAbs < 2 ^ a) (hj : j.natAbs < 2 ^ b) : (i * j).natAbs < 2 ^ (a + b) := by
  rw [Int.natAbs_mul]; rw [Nat.pow_add]
  exact Nat.mul_lt_mul'' hi hj
theorem add_lt {a : Nat} {i j : Int} (hi : i.natAbs < 2 ^ a) (hj : j.natAbs < 2 ^ a) : (i + j).natAbs < 2 ^ (a + 1) := by
  rw [Nat.pow_succ]
  have := Int.natAbs_add_le i j
  omega
theorem pow_mono {a b : Nat} {x : Nat} (h : x < 2 ^ a) (hab : a ≤ b) : x < 2 ^ b := Nat.lt_of_lt_of_le h (Nat.pow_le_pow_right (by decide) hab)
theorem sz_mono {a b : Nat} {q : Rat} (h : Sz a q) (hab : a ≤ b) : Sz b q := ⟨pow_mono h.1 hab, pow_mono h.2 hab⟩
theorem sz_divInt {n d : Int} {b : Nat} (hd : d ≠ 0) (hn : n.natAbs < 2 ^ b) (hdd : d.natAbs < 2 ^ b) : Sz b (Rat.divInt n d) := by
  have hg : 0 < Int.gcd n d := by
    rcases Nat.eq_zero_or_pos (Int.gcd n d) with z | z
    · exact absurd (Int.gcd_eq_zero_iff.mp z).2 hd
    · exact z
  constructor
  · have e := frac_num (n := n) hd rfl
    rw [← e]
    obtain ⟨m, hm⟩ := Int.gcd_dvd_left n d
    have hn' : n.natAbs = Int.gcd n d * m.natAbs := by
      have := congrArg Int.natAbs hm
      rwa [Int.natAbs_mul, Int.natAbs_natCast] at this
    have hle : m.natAbs ≤ n.natAbs := by rw [hn']; exact Nat.le_mul_of_pos_left _ hg
    have : (n.fdiv (if 0 < d then (Int.gcd n d : Int) else -(Int.gcd n d : Int))).natAbs = m.natAbs := by
      generalize hG : (Int.gcd n d) = g at *
      rw [hm]
      split
      · rw [Int.mul_fdiv_cancel_left m (by omega)]
      · rw [show (g : Int) * m = (-(g : Int)) * (-m) by grind, Int.mul_fdiv_cancel_left (-m) (by omega), Int.natAbs_neg]
    omega
  · rw [Rat.den_divInt, if_neg hd]
    exact Nat.lt_of_le_of_lt (Nat.div_le_self _ _) hdd
theorem den_ne (q : Rat) : (q.den : Int) ≠ 0 := by have := q.den_nz; omega
theorem q_add (a b : Rat) : Rat.divInt (a.num * b.den + b.num * a.den) (a.den * b.den) = a + b := by
  rw [← Rat.divInt_add_divInt _ _ (den_ne a) (den_ne b), Rat.num_divInt_den, Rat.num_divInt_den]
theorem q_sub (a b : Rat) : Rat.divInt (a.num * b.den - b.num * a.den) (a.den * b.den) = a - b := by
  rw [← Rat.divInt_sub_divInt _ _ (den_ne a) (den_ne b), Rat.num_divInt_den, Rat.num_divInt_den]
theorem q_mul (a b : Rat) : Rat.divInt (a.num * b.num) (a.den * b.den) = a * b := by
  rw [← Rat.divInt_mul_divInt, Rat.num_divInt_den, Rat.num_divInt_den]
theorem q_div (a b : Rat) : Rat.divInt (a.num * b.den) (a.den * b.num) = a / b := by
  rw [Rat.div_def, ← Rat.num_divInt_den b, Rat.inv_divInt, ← Rat.num_divInt_den a, Rat.divInt_mul_divInt]
  simp only [Rat.num_divInt_den]
/-- what a sum's lowering divides by is small when one of the two is -/
theorem gcd_small {a b : Rat} : (Int.gcd (a.num * b.den + b.num * a.den) (a.den * b.den)) ∣ b.den * b.den := by
  generalize hc : Int.gcd (a.num * b.den + b.num * a.den) (a.den * b.den) = c
  have h1 : (c : Int) ∣ a.num * b.den + b.num * a.den := by rw [← hc]; exact Int.gcd_dvd_left _ _
  have h2 : (c : Int) ∣ (a.den : Int) * b.den := by rw [← hc]; exact Int.gcd_dvd_right _ _
  have h3 : (c : Int) ∣ a.num * (b.den * b.den) := by
    have e : a.num * ((b.den : Int) * b.den) = (a.num * b.den + b.num * a.den) * b.den - (a.den * b.den) * b.num := by grind
    rw [e]
    exact Int.dvd_sub (Int.dvd_trans h1 (Int.dvd_mul_right _ _)) (Int.dvd_trans h2 (Int.dvd_mul_right _ _))
  have h4 : (c : Int) ∣ (a.den : Int) * (b.den * b.den) := by
    rw [← Int.mul_assoc]
    exact Int.dvd_trans h2 (Int.dvd_mul_right _ _)
  have h5 : c ∣ a.num.natAbs * (b.den * b.den) := by
    have := Int.natAbs_dvd_natAbs.mpr h3
    simpa [Int.natAbs_mul] using this
  have h6 : c ∣ a.den * (b.den * b.den) := by
    have := Int.natAbs_dvd_natAbs.mpr h4
    simpa [Int.natAbs_mul] using this
  have h7 := Nat.dvd_gcd h5 h6
  rw [Nat.gcd_mul_right, show Nat.gcd a.num.natAbs a.den = 1 from a.reduced, Nat.one_mul] at h7
  exact h7
end Ev

/-! the meaning, by small equations -/
namespace Ev
open PySem
variable (F : Fs) (G : Gs) (ρ : Env) (o : Os)
def compG (elt : E) (t : Ev.T) (c : EO) (ρ : Env) : D → Os → Res (Option D) := fun x o => (Res.of (bindT t x (wipeE ρ t.own)) o).bind fun ρ o =>
      (denC F G c ρ o).calm.bind fun k o => if k = true then (den F G elt ρ o).calm.bind fun d o => .ok (some d) o else .ok none o
theorem d_comp (elt : E) (t : Ev.T) (it : I) (c : EO) : den F G (.comp elt t it c) ρ o = (denI F G it ρ o).bind fun xs o => (compLoop (compG F G elt t c ρ) xs o).bind fun ds o => .ok (.lst ds) o := rfl
noncomputable def forG (t : Ev.T) (b : Ss) : D → Env → Os → Res Out := fun x ρ o => (Res.of (bindT t x ρ) o).bind fun ρ o => denSs F G b ρ o
theorem d_for (t : Ev.T) (it : I) (b : Ss) : denS F G (.for t it b) ρ o = (denI F G it ρ o).bind fun xs o => forLoop (forG F G t b) xs ρ o := rfl
noncomputable def whB (b : Ss) : Env → Os → Res Out := fun ρ o => denSs F G b ρ o
theorem d_whl (c : E) (b : Ss) : denS F G (.whl c b) ρ o = whl (denT F G c) (whB F G b) ρ o := rfl
end Ev

/-! equality of plain data -/
namespace Ev
open PySem
mutual
/-- data with no True, no False, no object; n levels at most -/
def pl : Nat → D → Bool
  | _, .non => true
  | _, .int _ => true
  | _, .str x => PyData.strOk x
  | n + 1, .tup ds => pls n ds
  | n + 1, .lst ds => pls n ds
  | _, _ => false
def pls : Nat → List D → Bool
  | _, [] => true
  | n, d :: ds => pl n d && pls n ds
end
theorem str_beq {x y : Str} : (x == y) = true ↔ x = y := by simp
mutual
theorem pl_dp : ∀ {n : Nat} {d : D}, pl n d = true → ∃ p, dP d = some p ∧ p.canLay0 = true ∧ p.depth ≤ n + 1
  | n, .non, h => ⟨_, rfl, rfl, by simp [PyData.depth]⟩
  | n, .int i, h => ⟨_, rfl, rfl, by simp [PyData.depth]⟩
  | n, .str x, h => ⟨_, rfl, (by cases n <;> exact h), by simp [PyData.depth]⟩
  | 0, .tup ds, h => by simp [pl] at h
  | n + 1, .tup ds, h => by
    obtain ⟨ps, e1, e2, e3⟩ := pls_dp (n := n) (ds := ds) h
    exact ⟨.tuple ps, by simp [dP, e1], e2, by simp only [PyData.depth]; omega⟩
  | 0, .lst ds, h => by simp [pl] at h
  | n + 1, .lst ds, h => by
    obtain ⟨ps, e1, e2, e3⟩ := pls_dp (n := n) (ds := ds) h
    exact ⟨.list ps, by simp [dP, e1], e2, by simp only [PyData.depth]; omega⟩
  | n, .bl _, h => by cases n <;> simp [pl] at h
  | n, .scr _, h => by cases n <;> simp [pl] at h
  | n, .ref _, h => by cases n <;> simp [pl] at h
  | n, .exc _ _, h => by cases n <;> simp [pl] at h
theorem pls_dp : ∀ {n : Nat} {ds : List D}, pls n ds = true → ∃ ps, dPs ds = some ps ∧ PyData.canLayAll0 ps = true ∧ PyData.depthAll ps ≤ n + 1
  | n, [], h => ⟨[], rfl, rfl, by simp [PyData.depthAll]⟩
  | n, d :: ds, h => by
    unfold pls at h
    rw [Bool.and_eq_true] at h
    obtain ⟨p, e1, e2, e3⟩ := pl_dp h.1
    obtain ⟨ps, e4, e5, e6⟩ := pls_dp h.2
    exact ⟨p :: ps, by simp [dPs, e1, e4], by simp [PyData.canLayAll0, e2, e5], by simp only [PyData.depthAll]; omega⟩
end
theorem pls_eqv {n m : Nat} (ih : ∀ {m : Nat} {d e : D} {p q : PyData}, pl n d = true → pl m e = true → dP d = some p → dP e = some q → (PyData.eqv p q = true ↔ d = e)) : ∀ (ds es : List D) (ps qs : List PyData), pls n ds = true → pls m es = true → dPs ds = some ps → dPs es = some qs → (PyData.eqvAll ps qs = true ↔ ds = es)
  | [], [], ps, qs, _, _, e1, e2 => by
    simp only [dPs, Option.some.injEq] at e1 e2
    subst e1 e2
    simp [PyData.eqvAll]
  | [], e :: es, ps, qs, _, h', e1, e2 => by
    unfold pls at h'
    rw [Bool.and_eq_true] at h'
    obtain ⟨p, f1, _⟩ := pl_dp h'.1
    obtain ⟨r, f2, _⟩ := pls_dp h'.2
    simp only [dPs, f1, f2, Option.some.injEq] at e1 e2
    subst e1 e2
    simp [PyData.eqvAll]
  | d :: ds, [], ps, qs, h, _, e1, e2 => by
    unfold pls at h
    rw [Bool.and_eq_true] at h
    obtain ⟨p, f1, _⟩ := pl_dp h.1
    obtain ⟨r, f2, _⟩ := pls_dp h.2
    simp only [dPs, f1, f2, Option.some.injEq] at e1 e2
    subst e1 e2
    simp [PyData.eqvAll]
  | d :: ds, e :: es, ps, qs, h, h', e1, e2 => by
    unfold pls at h h'
    rw [Bool.and_eq_true] at h h'
    obtain ⟨p, f1, _⟩ := pl_dp h.1
    obtain ⟨r, f2, _⟩ := pls_dp h.2
    obtain ⟨p', f1', _⟩ := pl_dp h'.1
    obtain ⟨r', f2', _⟩ := pls_dp h'.2
    simp only [dPs, f1, f2, f1', f2', Option.some.injEq] at e1 e2
    subst e1 e2
    simp only [PyData.eqvAll, Bool.and_eq_true, ih h.1 h'.1 f1 f1', pls_eqv ih ds es r r' h.2 h'.2 f2 f2', List.cons.injEq]
theorem pl_eqv {n : Nat} : ∀ {m : Nat} {d e : D} {p q : PyData}, pl n d = true → pl m e = true → dP d = some p → dP e = some q → (PyData.eqv p q = true ↔ d = e) := by
  induction n with
  | zero =>
    intro m d e p q h h' e1 e2
    cases d <;> first | (simp [pl] at h; done) | skip
    all_goals (cases e <;> first | (cases m <;> simp [pl] at h'; done) | skip)
    all_goals first | (simp [dP] at e1 e2; subst e1 e2; simp [PyData.eqv]; done) | skip
    all_goals (simp only [dP, Option.some.injEq, Option.map_eq_some_iff] at e1 e2; obtain ⟨qs, e2, rfl⟩ := e2; subst e1; simp [PyData.eqv])
  | succ n ih =>
    intro m d e p q h h' e1 e2
    cases d <;> first | (simp [pl] at h; done) | skip
    all_goals (cases e <;> first | (cases m <;> simp [pl] at h'; done) | skip)
    all_goals first | (simp [dP] at e1 e2; subst e1 e2; simp [PyData.eqv]; done) | skip
    all_goals first | (simp only [dP, Option.some.injEq, Option.map_eq_some_iff] at e1 e2; first | (obtain ⟨ps, e1, rfl⟩ := e1; first | (obtain ⟨qs, e2, rfl⟩ := e2; simp [PyData.eqv]; done) | (subst e2; simp [PyData.eqv]; done)) | (obtain ⟨qs, e2, rfl⟩ := e2; subst e1; simp [PyData.eqv]; done)) | skip
    all_goals (
      cases m with
      | zero => simp [pl] at h'
      | succ m =>
        simp only [dP, Option.map_eq_some_iff] at e1 e2
        obtain ⟨ps, e1, rfl⟩ := e1
        obtain ⟨qs, e2, rfl⟩ := e2
        have := pls_eqv (m := m) ih _ _ _ _ h h' e1 e2
        simp only [PyData.eqv, this, D.tup.injEq, D.lst.injEq])
theorem deq_pl {n m : Nat} {d e : D} (h : pl n d = true) (h' : pl m e = true) (hn : n ≤ 60) (hm : m ≤ 60) : ∃ b, deq d e = some b ∧ (b = true ↔ d = e) := by
  obtain ⟨p, e1, c1, l1⟩ := pl_dp h
  obtain ⟨q, e2, c2, l2⟩ := pl_dp h'
  have s1 : SeqAt.shaped p = true := by unfold SeqAt.shaped; rw [c1, Bool.true_and]; exact decide_eq_true (by omega)
  have s2 : SeqAt.shaped q = true := by unfold SeqAt.shaped; rw [c2, Bool.true_and]; exact decide_eq_true (by omega)
  refine ⟨_, ?_, pl_eqv h h' e1 e2⟩
  unfold deq
  rw [e1, e2]
  simp only [s1, s2, Bool.and_self, if_true]
open Classical in
theorem deq_dec {n m : Nat} {d e : D} (h : pl n d = true) (h' : pl m e = true) (hn : n ≤ 60) (hm : m ≤ 60) : deq d e = some (decide (d = e)) := by
  obtain ⟨b, h1, h2⟩ := deq_pl h h' hn hm
  rw [h1]
  congr 1
  by_cases hde : d = e
  · rw [decide_eq_true hde]; exact h2.mpr hde
  · rw [decide_eq_false hde]; exact Bool.eq_false_iff.mpr fun z => hde (h2.mp z)
theorem pls_map {α : Type} {n : Nat} {f : α → D} : ∀ {l : List α}, (∀ a ∈ l, pl n (f a) = true) → pls n (l.map f) = true
  | [], _ => by simp [pls]
  | a :: l, h => by
    rw [List.map_cons]
    unfold pls
    rw [h a List.mem_cons_self, pls_map fun b hb => h b (List.mem_cons_of_mem _ hb)]
    rfl
end Ev

namespace K60
open PySem Ev
def b_law : Ev.Ss := (.cons (.asg (.one 1) (.call 1 (.cons (.var 0) .nil))) (.cons (.for (.one 2) (.rng1 (.bin .add (.int 5) (.bi .min (.cons (.bi .len (.cons (.var 0) .nil)) (.cons (.int 6) .nil))))) (.cons (.asg (.one 3) (.call 2 (.cons (.var 1) (.cons (.bl true) .nil)))) (.cons (.asg (.one 4) (.call 9 (.cons (.var 3) .nil))) (.cons (.ite (.cmp .is (.var 4) .non) (.cons .cont .nil) .nil) (.cons (.par 13 14 (.bi .tuple (.cons (.comp (.call 13 (.cons (.var 1) (.cons (.int 9) .nil))) (.one 21) (.seq (.idx (.var 3) (.int 2))) .none) .nil)) (.bi .tuple (.cons (.comp (.call 13 (.cons (.var 1) (.cons (.int 9) .nil))) (.one 21) (.seq (.idx (.var 3) (.int 1))) .none) .nil))) (.cons (.par 15 16 (.call 14 (.cons (.var 3) (.cons (.var 13) .nil))) (.call 35 (.cons (.var 3) (.cons (.var 14) .nil)))) (.cons (.ite (.cmp .ne (.call 36 (.cons (.var 13) (.cons (.var 16) .nil))) (.call 36 (.cons (.var 15) (.cons (.var 14) .nil)))) (.cons (.ret (.bl false)) .nil) .nil) (.cons (.par 17 18 (.call 4 (.cons (.var 1) (.cons (.bi .len (.cons (.var 13) .nil)) .nil))) (.call 4 (.cons (.var 1) (.cons (.bi .len (.cons (.var 14) .nil)) .nil)))) (.cons (.asg (.one 5) (.bin .add (.bin .add (.slc (.var 13) .none (.some (.var 17))) (.tup (.cons (.call 38 (.cons (.idx (.var 13) (.var 17)) (.cons (.tup (.cons (.int 1) (.cons (.int 1) .nil))) .nil))) .nil))) (.slc (.var 13) (.some (.bin .add (.var 17) (.int 1))) .none))) (.cons (.asg (.one 6) (.bin .add (.bin .add (.slc (.var 14) .none (.some (.var 18))) (.tup (.cons (.call 38 (.cons (.idx (.var 14) (.var 18)) (.cons (.tup (.cons (.int 1) (.cons (.int 1) .nil))) .nil))) .nil))) (.slc (.var 14) (.some (.bin .add (.var 18) (.int 1))) .none))) (.cons (.asg (.one 7) (.call 12 (.cons (.idx (.call 14 (.cons (.var 3) (.cons (.var 5) .nil))) (.var 18)) (.cons (.idx (.var 15) (.var 18)) .nil)))) (.cons (.ite (.or (.cmp .ne (.var 7) (.idx (.idx (.var 4) (.var 18)) (.var 17))) (.or (.cmp .ne (.call 12 (.cons (.idx (.call 35 (.cons (.var 3) (.cons (.var 6) .nil))) (.var 17)) (.cons (.idx (.var 16) (.var 17)) .nil))) (.var 7)) (.cmp .ne (.idx (.idx (.call 39 (.cons (.var 3) .nil)) (.var 18)) (.var 17)) (.var 7)))) (.cons (.ret (.bl false)) .nil) .nil) (.cons (.par 19 20 (.call 13 (.cons (.var 1) (.cons (.int 5) .nil))) (.bi .tuple (.cons (.comp (.call 13 (.cons (.var 1) (.cons (.int 9) .nil))) (.one 21) (.seq (.idx (.var 3) (.int 2))) .none) .nil))) (.cons (.asg (.one 8) (.bi .tuple (.cons (.comp (.call 38 (.cons (.var 22) (.cons (.call 8 (.cons (.var 19) (.cons (.var 11) .nil))) .nil))) (.many [22, 11]) (.zip (.var 13) (.var 20)) .none) .nil))) (.cons (.ite (.cmp .ne (.call 14 (.cons (.var 3) (.cons (.var 8) .nil))) (.bi .tuple (.cons (.comp (.call 38 (.cons (.var 22) (.cons (.call 8 (.cons (.var 19) (.cons (.var 11) .nil))) .nil))) (.many [22, 11]) (.zip (.var 15) (.call 14 (.cons (.var 3) (.cons (.var 20) .nil)))) .none) .nil))) (.cons (.ret (.bl false)) .nil) .nil) (.cons (.asg (.one 9) (.call 40 (.cons (.var 1) (.cons (.int 5) .nil)))) (.cons (.asg (.one 10) (.bi .tuple (.cons (.comp (.ite (.cmp .eq (.var 23) (.var 17)) (.bi .tuple (.cons (.comp (.call 8 (.cons (.var 9) (.cons (.var 25) .nil))) (.one 25) (.seq (.var 24)) .none) .nil)) (.var 24)) (.many [23, 24]) (.enu (.idx (.var 3) (.int 3))) .none) .nil))) (.cons (.asg (.one 11) (.bin .add (.slc (.var 3) .none (.some (.int 3))) (.tup (.cons (.var 10) .nil)))) (.cons (.asg (.one 5) (.bin .add (.bin .add (.slc (.var 13) .none (.some (.var 17))) (.tup (.cons (.call 8 (.cons (.var 9) (.cons (.idx (.var 13) (.var 17)) .nil))) .nil))) (.slc (.var 13) (.some (.bin .add (.var 17) (.int 1))) .none))) (.cons (.asg (.one 12) (.bi .tuple (.cons (.comp (.ite (.cmp .eq (.var 23) (.var 17)) (.call 11 (.cons (.var 25) (.cons (.var 9) .nil))) (.var 25)) (.many [23, 25]) (.enu (.var 16)) .none) .nil))) (.cons (.ite (.or (.cmp .ne (.call 14 (.cons (.var 11) (.cons (.var 5) .nil))) (.var 15)) (.cmp .ne (.call 35 (.cons (.var 11) (.cons (.var 14) .nil))) (.var 12))) (.cons (.ret (.bl false)) .nil) .nil) .nil))))))))))))))))))))) (.cons (.ret (.bl true)) .nil)))
def f_law : Ev.Fn := ⟨"law", 1, ["script", "draws", "turn", "inputs", "back", "dear", "wide", "rise", "both", "factor", "rows_here", "other", "fewer", "prices", "stocks", "told", "many", "good", "kind", "share", "more", "word", "one", "at", "row", "part"], b_law, false⟩
def b__law_begun : Ev.Ss := (.cons (.asg (.one 1) (.hp (.comp (.bin .sub (.bi .abs (.cons (.var 2) .nil)) (.bin .pow (.int 10) (.int 18))) (.one 2) (.seq (.var 0)) (.some (.cmp .ge (.bi .abs (.cons (.var 2) .nil)) (.bin .pow (.int 10) (.int 18))))))) (.cons (.ret (.dic "great" "cells" "rest" "turn" (.var 1) (.comp (.bi .abs (.cons (.var 2) .nil)) (.one 2) (.seq (.var 0)) .none) (.int 0) (.int 0))) .nil))
def f__law_begun : Ev.Fn := ⟨"_law_begun", 1, ["script", "great", "cell"], b__law_begun, false⟩
def b__law_in_inputs : Ev.Ss := (.cons (.asg (.one 2) (.call 3 (.cons (.var 0) (.cons (.bin .add (.int 1) (.call 4 (.cons (.var 0) (.cons (.int 4) .nil)))) .nil)))) (.cons (.asg (.one 3) (.call 3 (.cons (.var 0) (.cons (.ite (.var 1) (.bi .len (.cons (.var 2) .nil)) (.bin .add (.int 1) (.call 4 (.cons (.var 0) (.cons (.int 6) .nil))))) .nil)))) (.cons (.par 5 6 (.call 4 (.cons (.var 0) (.cons (.int 3) .nil))) (.lst .nil)) (.cons (.for (.one 4) (.seq (.var 3)) (.cons (.asg (.one 7) (.comp (.call 7 (.cons (.ite (.cmp .eq (.var 5) (.int 0)) (.call 4 (.cons (.var 0) (.cons (.int 6) .nil))) (.bin .add (.int 1) (.call 4 (.cons (.var 0) (.cons (.int 7) .nil))))) (.cons (.call 6 (.cons (.var 0) (.cons (.lst (.cons (.int 1) (.cons (.int 1) (.cons (.int 1) (.cons (.int 2) .nil))))) .nil))) .nil))) (.one 8) (.seq (.var 2)) .none)) (.cons (.ite (.cmp .eq (.comp (.int 1) (.one 9) (.own 7) (.some (.cmp .gt (.idx (.var 9) (.int 0)) (.int 0)))) (.lst .nil)) (.cons (.sto 7 (.call 4 (.cons (.var 0) (.cons (.bi .len (.cons (.var 7) .nil)) .nil))) (.tup (.cons (.int 1) (.cons (.int 1) .nil)))) .nil) .nil) (.cons (.app 6 (.bi .tuple (.cons (.var 7) .nil))) .nil)))) (.cons (.ite (.and (.cmp .gt (.bi .len (.cons (.var 6) .nil)) (.int 1)) (.cmp .eq (.call 4 (.cons (.var 0) (.cons (.int 8) .nil))) (.int 0))) (.cons (.sto 6 (.int 0) (.bi .tuple (.cons (.comp (.call 8 (.cons (.tup (.cons (.int 2) (.cons (.int 1) .nil))) (.cons (.var 9) .nil))) (.one 9) (.seq (.idx (.var 6) (.int 1))) .none) .nil))) .nil) .nil) (.cons (.ret (.tup (.cons (.str "inputs") (.cons (.bi .tuple (.cons (.var 2) .nil)) (.cons (.bi .tuple (.cons (.var 3) .nil)) (.cons (.bi .tuple (.cons (.var 6) .nil)) .nil)))))) .nil))))))
def f__law_in_inputs : Ev.Fn := ⟨"_law_in_inputs", 2, ["draws", "square", "words", "names", "name", "thin", "rows", "row", "word", "part"], b__law_in_inputs, false⟩
def b__law_words : Ev.Ss := (.cons (.asg (.one 2) (.lst .nil)) (.cons (.whl (.cmp .lt (.bi .len (.cons (.var 2) .nil)) (.var 1)) (.cons (.asg (.one 3) (.mth .join (.str "") (.comp (.call 6 (.cons (.var 0) (.cons (.bi .list (.cons (.str "abcdefghijklmnopqrstuvwxyz") .nil)) .nil))) (.one 4) (.rng1 (.bin .add (.int 1) (.call 4 (.cons (.var 0) (.cons (.int 8) .nil))))) .none))) (.cons (.asg (.one 2) (.bin .add (.var 2) (.ite (.cmp .notin (.var 3) (.var 2)) (.lst (.cons (.var 3) .nil)) (.ite (.and (.cmp .notin (.bin .add (.slc (.var 3) .none (.some (.int 1))) (.bin .mul (.str "q") (.bi .len (.cons (.var 2) .nil)))) (.var 2)) (.cmp .lt (.bi .len (.cons (.var 2) .nil)) (.int 8))) (.lst (.cons (.bin .add (.slc (.var 3) .none (.some (.int 1))) (.bin .mul (.str "q") (.bi .len (.cons (.var 2) .nil)))) .nil)) (.lst .nil))))) .nil))) (.cons (.ret (.bi .sorted (.cons (.var 2) .nil))) .nil)))
def f__law_words : Ev.Fn := ⟨"_law_words", 2, ["draws", "many", "found", "word", "lap"], b__law_words, false⟩
def b__law_draw : Ev.Ss := (.cons (.ite (.cmp .eq (.idx (.var 0) (.str "rest")) (.int 0)) (.cons (.dst (.var 0) (.str "rest") (.ite (.cmp .ne (.idx (.var 0) (.str "great")) (.lst .nil)) (.hpop (.idx (.var 0) (.str "great"))) (.call 5 (.cons (.var 0) .nil)))) .nil) .nil) (.cons (.asg (.one 2) (.bin .mod (.bi .int (.cons (.idx (.var 0) (.str "rest")) .nil)) (.var 1))) (.cons (.dst (.var 0) (.str "rest") (.bin .fdiv (.idx (.var 0) (.str "rest")) (.var 1))) (.cons (.ret (.var 2)) .nil))))
def f__law_draw : Ev.Fn := ⟨"_law_draw", 2, ["state", "room", "found"], b__law_draw, false⟩
def b__law_blended : Ev.Ss := (.cons (.par 2 3 (.bin .add (.idx (.var 0) (.str "turn")) (.int 1)) (.int 0)) (.cons (.dst (.var 0) (.str "turn") (.var 2)) (.cons (.for (.one 1) (.seq (.lst (.cons (.int 2147483579) (.cons (.int 2147483629) (.cons (.int 2147483563) .nil))))) (.cons (.asg (.one 4) (.bin .add (.bin .mul (.int 48271) (.var 2)) (.bin .fdiv (.var 1) (.int 53)))) (.cons (.for (.one 5) (.seq (.idx (.var 0) (.str "cells"))) (.cons (.asg (.one 4) (.bin .mod (.bi .int (.cons (.bin .add (.bin .add (.bin .mul (.var 4) (.int 69621)) (.var 5)) (.var 2)) .nil)) (.var 1))) .nil)) (.cons (.asg (.one 3) (.bin .add (.bin .mul (.var 3) (.int 2147483647)) (.bin .mod (.bi .int (.cons (.bin .pow (.var 4) (.int 5)) .nil)) (.var 1)))) .nil)))) (.cons (.ret (.var 3)) .nil))))
def f__law_blended : Ev.Fn := ⟨"_law_blended", 1, ["state", "prime", "turn", "found", "blend", "cell"], b__law_blended, false⟩
def b__law_pick : Ev.Ss := (.cons (.ret (.idx (.var 1) (.call 4 (.cons (.var 0) (.cons (.bi .len (.cons (.var 1) .nil)) .nil))))) .nil)
def f__law_pick : Ev.Fn := ⟨"_law_pick", 2, ["state", "some"], b__law_pick, false⟩
def b__law_q : Ev.Ss := (.cons (.par 2 3 (.bi .abs (.cons (.var 0) .nil)) (.bi .abs (.cons (.var 1) .nil))) (.cons (.whl (.cmp .gt (.var 3) (.int 0)) (.cons (.par 2 3 (.var 3) (.bin .mod (.bi .int (.cons (.var 2) .nil)) (.var 3))) .nil)) (.cons (.ret (.ite (.cmp .gt (.var 1) (.int 0)) (.tup (.cons (.bin .fdiv (.var 0) (.var 2)) (.cons (.bin .fdiv (.var 1) (.var 2)) .nil))) (.tup (.cons (.bin .fdiv (.neg (.var 0)) (.var 2)) (.cons (.bin .fdiv (.neg (.var 1)) (.var 2)) .nil))))) .nil)))
def f__law_q : Ev.Fn := ⟨"_law_q", 2, ["n", "d", "one", "other"], b__law_q, false⟩
def b__law_times : Ev.Ss := (.cons (.ret (.call 7 (.cons (.bin .mul (.idx (.var 0) (.int 0)) (.idx (.var 1) (.int 0))) (.cons (.bin .mul (.idx (.var 0) (.int 1)) (.idx (.var 1) (.int 1))) .nil)))) .nil)
def f__law_times : Ev.Fn := ⟨"_law_times", 2, ["one", "other"], b__law_times, false⟩
def b__law_in_known : Ev.Ss := (.cons (.asg (.one 1) (.lst .nil)) (.cons (.for (.one 2) (.rng1 (.bi .len (.cons (.idx (.var 0) (.int 2)) .nil))) (.cons (.asg (.one 3) (.call 10 (.cons (.idx (.var 0) (.int 3)) (.cons (.comp (.tup (.cons (.bi .int (.cons (.cmp .eq (.var 5) (.var 2)) .nil)) (.cons (.int 1) .nil))) (.one 5) (.rng1 (.bi .len (.cons (.idx (.var 0) (.int 2)) .nil))) .none) .nil)))) (.cons (.ite (.cmp .is (.var 3) .non) (.cons (.ret .non) .nil) .nil) (.cons (.app 1 (.var 3)) .nil)))) (.cons (.ret (.bi .tuple (.cons (.comp (.bi .tuple (.cons (.comp (.idx (.var 6) (.var 4)) (.one 6) (.own 1) .none) .nil)) (.one 4) (.rng1 (.bi .len (.cons (.idx (.var 0) (.int 1)) .nil))) .none) .nil))) .nil)))
def f__law_in_known : Ev.Fn := ⟨"_law_in_known", 1, ["inputs", "columns", "at", "one", "kind", "spot", "column"], b__law_in_known, false⟩
def b__law_solved : Ev.Ss := (.cons (.asg (.one 2) (.comp (.bin .add (.bi .list (.cons (.var 8) .nil)) (.lst (.cons (.var 9) .nil))) (.many [8, 9]) (.zip (.var 0) (.var 1)) .none)) (.cons (.for (.one 3) (.rng1 (.bi .len (.cons (.var 2) .nil))) (.cons (.asg (.one 4) (.comp (.var 6) (.one 6) (.rng2 (.var 3) (.bi .len (.cons (.var 2) .nil))) (.some (.cmp .ne (.idx (.idx (.idx (.var 2) (.var 6)) (.var 3)) (.int 0)) (.int 0))))) (.cons (.ite (.cmp .eq (.var 4) (.lst .nil)) (.cons (.ret .non) .nil) .nil) (.cons (.stoP 2 (.var 3) (.idx (.var 4) (.int 0)) (.idx (.var 2) (.idx (.var 4) (.int 0))) (.idx (.var 2) (.var 3))) (.cons (.asg (.one 5) (.idx (.idx (.var 2) (.var 3)) (.var 3))) (.cons (.sto 2 (.var 3) (.comp (.call 11 (.cons (.var 10) (.cons (.var 5) .nil))) (.one 10) (.seq (.idx (.var 2) (.var 3))) .none)) (.cons (.for (.one 6) (.rng1 (.bi .len (.cons (.var 2) .nil))) (.cons (.asg (.one 7) (.idx (.idx (.var 2) (.var 6)) (.var 3))) (.cons (.ite (.and (.cmp .ne (.var 6) (.var 3)) (.cmp .ne (.idx (.var 7) (.int 0)) (.int 0))) (.cons (.sto 2 (.var 6) (.comp (.call 12 (.cons (.var 10) (.cons (.call 8 (.cons (.var 7) (.cons (.var 11) .nil))) .nil))) (.many [10, 11]) (.zip (.idx (.var 2) (.var 6)) (.idx (.var 2) (.var 3))) .none)) .nil) .nil) .nil))) .nil))))))) (.cons (.ret (.comp (.idx (.var 8) (.neg (.int 1))) (.one 8) (.own 2) .none)) .nil)))
def f__law_solved : Ev.Fn := ⟨"_law_solved", 2, ["rows", "goals", "left", "at", "spots", "head", "index", "share", "row", "goal", "part", "own"], b__law_solved, false⟩
def b__law_over : Ev.Ss := (.cons (.ret (.call 7 (.cons (.bin .mul (.idx (.var 0) (.int 0)) (.idx (.var 1) (.int 1))) (.cons (.bin .mul (.idx (.var 0) (.int 1)) (.idx (.var 1) (.int 0))) .nil)))) .nil)
def f__law_over : Ev.Fn := ⟨"_law_over", 2, ["one", "other"], b__law_over, false⟩
def b__law_minus : Ev.Ss := (.cons (.ret (.call 7 (.cons (.bin .sub (.bin .mul (.idx (.var 0) (.int 0)) (.idx (.var 1) (.int 1))) (.bin .mul (.idx (.var 1) (.int 0)) (.idx (.var 0) (.int 1)))) (.cons (.bin .mul (.idx (.var 0) (.int 1)) (.idx (.var 1) (.int 1))) .nil)))) .nil)
def f__law_minus : Ev.Fn := ⟨"_law_minus", 2, ["one", "other"], b__law_minus, false⟩
def b__law_number : Ev.Ss := (.cons (.par 2 3 (.call 4 (.cons (.var 0) (.cons (.bin .add (.var 1) (.int 1)) .nil))) (.bin .add (.int 1) (.call 4 (.cons (.var 0) (.cons (.call 6 (.cons (.var 0) (.cons (.lst (.cons (.int 1) (.cons (.int 1) (.cons (.int 3) (.cons (.var 1) .nil))))) .nil))) .nil))))) (.cons (.ret (.call 7 (.cons (.ite (.cmp .eq (.call 4 (.cons (.var 0) (.cons (.int 2) .nil))) (.int 0)) (.var 2) (.bin .sub (.int 0) (.var 2))) (.cons (.var 3) .nil)))) .nil))
def f__law_number : Ev.Fn := ⟨"_law_number", 2, ["draws", "size", "n", "d"], b__law_number, false⟩
def b_rewards : Ev.Ss := (.cons (.exp (.call 15 (.cons (.var 0) .nil))) (.cons (.exp (.call 23 (.cons (.var 0) (.cons (.var 1) .nil)))) (.cons (.ret (.bi .tuple (.cons (.comp (.call 32 (.cons (.var 2) (.cons (.var 1) .nil))) (.one 2) (.seq (.call 25 (.cons (.var 0) .nil))) .none) .nil))) .nil)))
def f_rewards : Ev.Fn := ⟨"rewards", 2, ["inputs", "prices", "line"], b_rewards, false⟩
def b_need_square : Ev.Ss := (.cons (.exp (.call 16 (.cons (.var 0) .nil))) (.cons (.ite (.cmp .ne (.bi .len (.cons (.idx (.var 0) (.int 1)) .nil)) (.bi .len (.cons (.idx (.var 0) (.int 2)) .nil))) (.cons .bad .nil) .nil) .nil))
def f_need_square : Ev.Fn := ⟨"need_square", 1, ["inputs"], b_need_square, false⟩
def b_need_inputs : Ev.Ss := (.cons (.ite (.not (.call 17 (.cons (.var 0) .nil))) (.cons .bad .nil) .nil) .nil)
def f_need_inputs : Ev.Fn := ⟨"need_inputs", 1, ["inputs"], b_need_inputs, false⟩
def b_is_inputs : Ev.Ss := (.cons (.ite (.or (.not (.isi (.var 0) .tuple)) (.or (.cmp .ne (.bi .len (.cons (.var 0) .nil)) (.int 4)) (.or (.not (.isi (.idx (.var 0) (.int 0)) .str)) (.cmp .ne (.idx (.var 0) (.int 0)) (.str "inputs"))))) (.cons (.ret (.bl false)) .nil) .nil) (.cons (.ite (.or (.not (.call 18 (.cons (.idx (.var 0) (.int 1)) (.cons (.glb 2) .nil)))) (.not (.call 18 (.cons (.idx (.var 0) (.int 2)) (.cons (.glb 1) .nil))))) (.cons (.ret (.bl false)) .nil) .nil) (.cons (.ite (.or (.not (.isi (.idx (.var 0) (.int 3)) .tuple)) (.cmp .ne (.bi .len (.cons (.idx (.var 0) (.int 3)) .nil)) (.bi .len (.cons (.idx (.var 0) (.int 2)) .nil)))) (.cons (.ret (.bl false)) .nil) .nil) (.cons (.ret (.bi .all (.cons (.comp (.and (.call 20 (.cons (.var 1) (.cons (.bi .len (.cons (.idx (.var 0) (.int 1)) .nil)) .nil))) (.bi .any (.cons (.comp (.cmp .gt (.idx (.var 2) (.int 0)) (.int 0)) (.one 2) (.seq (.var 1)) .none) .nil))) (.one 1) (.seq (.idx (.var 0) (.int 3))) .none) .nil))) .nil))))
def f_is_inputs : Ev.Fn := ⟨"is_inputs", 1, ["value", "row", "part"], b_is_inputs, false⟩
def b_are_names : Ev.Ss := (.cons (.ite (.or (.not (.isi (.var 0) .tuple)) (.or (.not (.chn .le .le (.int 1) (.bi .len (.cons (.var 0) .nil)) (.var 1))) (.not (.bi .all (.cons (.comp (.call 19 (.cons (.var 4) .nil)) (.one 4) (.seq (.var 0)) .none) .nil))))) (.cons (.ret (.bl false)) .nil) .nil) (.cons (.ret (.bi .all (.cons (.comp (.cmp .lt (.var 2) (.var 3)) (.many [2, 3]) (.zip (.var 0) (.slc (.var 0) (.some (.int 1)) .none)) .none) .nil))) .nil))
def f_are_names : Ev.Fn := ⟨"are_names", 2, ["value", "most", "one", "other", "word"], b_are_names, false⟩
def b_is_word : Ev.Ss := (.cons (.ret (.and (.isi (.var 0) .str) (.and (.chn .le .le (.int 1) (.bi .len (.cons (.var 0) .nil)) (.int 8)) (.bi .all (.cons (.comp (.cmp .in_ (.var 1) (.glb 0)) (.one 1) (.seq (.var 0)) .none) .nil))))) .nil)
def f_is_word : Ev.Fn := ⟨"is_word", 1, ["value", "letter"], b_is_word, false⟩
def b_are_parts : Ev.Ss := (.cons (.ite (.or (.not (.isi (.var 0) .tuple)) (.cmp .ne (.bi .len (.cons (.var 0) .nil)) (.var 1))) (.cons (.ret (.bl false)) .nil) .nil) (.cons (.ret (.bi .all (.cons (.comp (.and (.call 21 (.cons (.var 2) .nil)) (.cmp .ge (.idx (.var 2) (.int 0)) (.int 0))) (.one 2) (.seq (.var 0)) .none) .nil))) .nil))
def f_are_parts : Ev.Fn := ⟨"are_parts", 2, ["value", "many", "part"], b_are_parts, false⟩
def b_is_ratio : Ev.Ss := (.cons (.ite (.or (.not (.isi (.var 0) .tuple)) (.or (.cmp .ne (.bi .len (.cons (.var 0) .nil)) (.int 2)) (.not (.bi .all (.cons (.comp (.call 22 (.cons (.var 1) .nil)) (.one 1) (.seq (.var 0)) .none) .nil))))) (.cons (.ret (.bl false)) .nil) .nil) (.cons (.ret (.and (.cmp .gt (.idx (.var 0) (.int 1)) (.int 0)) (.cmp .eq (.bi .gcd (.cons (.idx (.var 0) (.int 0)) (.cons (.idx (.var 0) (.int 1)) .nil))) (.int 1)))) .nil))
def f_is_ratio : Ev.Fn := ⟨"is_ratio", 1, ["value", "part"], b_is_ratio, false⟩
def b_is_whole : Ev.Ss := (.cons (.ret (.and (.isi (.var 0) .int) (.not (.isi (.var 0) .bool)))) .nil)
def f_is_whole : Ev.Fn := ⟨"is_whole", 1, ["value"], b_is_whole, false⟩
def b_need_any_prices : Ev.Ss := (.cons (.ite (.not (.call 24 (.cons (.var 1) (.cons (.bi .len (.cons (.idx (.var 0) (.int 2)) .nil)) .nil)))) (.cons .bad .nil) .nil) .nil)
def f_need_any_prices : Ev.Fn := ⟨"need_any_prices", 2, ["inputs", "prices"], b_need_any_prices, false⟩
def b_are_ratios : Ev.Ss := (.cons (.ret (.and (.isi (.var 0) .tuple) (.and (.cmp .eq (.bi .len (.cons (.var 0) .nil)) (.var 1)) (.bi .all (.cons (.comp (.call 21 (.cons (.var 2) .nil)) (.one 2) (.seq (.var 0)) .none) .nil))))) .nil)
def f_are_ratios : Ev.Fn := ⟨"are_ratios", 2, ["value", "many", "part"], b_are_ratios, false⟩
def b_need_regular : Ev.Ss := (.cons (.asg (.one 1) (.call 26 (.cons (.idx (.var 0) (.int 3)) .nil))) (.cons (.ite (.cmp .is (.var 1) .non) (.cons .bad .nil) .nil) (.cons (.ret (.var 1)) .nil)))
def f_need_regular : Ev.Fn := ⟨"need_regular", 1, ["inputs", "found"], b_need_regular, false⟩
def b_inverse_of : Ev.Ss := (.cons (.asg (.one 1) (.bi .len (.cons (.var 0) .nil))) (.cons (.asg (.one 2) (.comp (.bin .add (.bi .list (.cons (.var 7) .nil)) (.comp (.ite (.cmp .eq (.var 8) (.var 3)) (.glb 3) (.glb 4)) (.one 8) (.rng1 (.var 1)) .none)) (.many [3, 7]) (.enu (.var 0)) .none)) (.cons (.for (.one 3) (.rng1 (.var 1)) (.cons (.asg (.one 4) (.comp (.var 8) (.one 8) (.rng2 (.var 3) (.var 1)) (.some (.cmp .ne (.idx (.idx (.var 2) (.var 8)) (.var 3)) (.glb 4))))) (.cons (.ite (.cmp .eq (.var 4) (.lst .nil)) (.cons (.ret .non) .nil) .nil) (.cons (.stoP 2 (.var 3) (.idx (.var 4) (.int 0)) (.idx (.var 2) (.idx (.var 4) (.int 0))) (.idx (.var 2) (.var 3))) (.cons (.asg (.one 5) (.idx (.idx (.var 2) (.var 3)) (.var 3))) (.cons (.sto 2 (.var 3) (.comp (.call 27 (.cons (.var 9) (.cons (.var 5) .nil))) (.one 9) (.seq (.idx (.var 2) (.var 3))) .none)) (.cons (.asg (.one 6) (.idx (.var 2) (.var 3))) (.cons (.asg (.one 2) (.comp (.ite (.cmp .eq (.var 8) (.var 3)) (.var 10) (.call 29 (.cons (.var 10) (.cons (.var 6) (.cons (.var 3) .nil))))) (.many [8, 10]) (.enu (.var 2)) .none)) .nil)))))))) (.cons (.ret (.bi .tuple (.cons (.comp (.bi .tuple (.cons (.slc (.var 10) (.some (.var 1)) .none) .nil)) (.one 10) (.own 2) .none) .nil))) .nil))))
def f_inverse_of : Ev.Fn := ⟨"inverse_of", 1, ["rows", "many", "lines", "at", "spots", "first", "head", "row", "spot", "part", "line"], b_inverse_of, false⟩
def b_over : Ev.Ss := (.cons (.ret (.call 28 (.cons (.bin .mul (.idx (.var 0) (.int 0)) (.idx (.var 1) (.int 1))) (.cons (.bin .mul (.idx (.var 0) (.int 1)) (.idx (.var 1) (.int 0))) .nil)))) .nil)
def f_over : Ev.Fn := ⟨"over", 2, ["one", "other"], b_over, false⟩
def b_lowest : Ev.Ss := (.cons (.asg (.one 2) (.ite (.cmp .gt (.var 1) (.int 0)) (.bi .gcd (.cons (.var 0) (.cons (.var 1) .nil))) (.neg (.bi .gcd (.cons (.var 0) (.cons (.var 1) .nil)))))) (.cons (.ret (.tup (.cons (.bin .fdiv (.var 0) (.var 2)) (.cons (.bin .fdiv (.var 1) (.var 2)) .nil)))) .nil))
def f_lowest : Ev.Fn := ⟨"lowest", 2, ["n", "d", "common"], b_lowest, false⟩
def b_cleared_of : Ev.Ss := (.cons (.asg (.one 3) (.idx (.var 0) (.var 2))) (.cons (.ret (.comp (.call 30 (.cons (.var 4) (.cons (.call 31 (.cons (.var 3) (.cons (.var 5) .nil))) .nil))) (.many [4, 5]) (.zip (.var 0) (.var 1)) .none)) .nil))
def f_cleared_of : Ev.Fn := ⟨"cleared_of", 3, ["line", "head", "at", "share", "part", "own"], b_cleared_of, false⟩
def b_minus : Ev.Ss := (.cons (.ret (.call 28 (.cons (.bin .sub (.bin .mul (.idx (.var 0) (.int 0)) (.idx (.var 1) (.int 1))) (.bin .mul (.idx (.var 1) (.int 0)) (.idx (.var 0) (.int 1)))) (.cons (.bin .mul (.idx (.var 0) (.int 1)) (.idx (.var 1) (.int 1))) .nil)))) .nil)
def f_minus : Ev.Fn := ⟨"minus", 2, ["one", "other"], b_minus, false⟩
def b_times : Ev.Ss := (.cons (.ret (.call 28 (.cons (.bin .mul (.idx (.var 0) (.int 0)) (.idx (.var 1) (.int 0))) (.cons (.bin .mul (.idx (.var 0) (.int 1)) (.idx (.var 1) (.int 1))) .nil)))) .nil)
def f_times : Ev.Fn := ⟨"times", 2, ["one", "other"], b_times, false⟩
def b_dot : Ev.Ss := (.cons (.ret (.call 33 (.cons (.comp (.call 31 (.cons (.var 2) (.cons (.var 3) .nil))) (.many [2, 3]) (.zip (.var 0) (.var 1)) .none) .nil))) .nil)
def f_dot : Ev.Fn := ⟨"dot", 2, ["one", "other", "left", "right"], b_dot, false⟩
def b_total : Ev.Ss := (.cons (.asg (.one 1) (.glb 4)) (.cons (.for (.one 2) (.seq (.var 0)) (.cons (.asg (.one 1) (.call 34 (.cons (.var 1) (.cons (.var 2) .nil)))) .nil)) (.cons (.ret (.var 1)) .nil)))
def f_total : Ev.Fn := ⟨"total", 1, ["ratios", "found", "each"], b_total, false⟩
def b_plus : Ev.Ss := (.cons (.ret (.call 28 (.cons (.bin .add (.bin .mul (.idx (.var 0) (.int 0)) (.idx (.var 1) (.int 1))) (.bin .mul (.idx (.var 1) (.int 0)) (.idx (.var 0) (.int 1)))) (.cons (.bin .mul (.idx (.var 0) (.int 1)) (.idx (.var 1) (.int 1))) .nil)))) .nil)
def f_plus : Ev.Fn := ⟨"plus", 2, ["one", "other"], b_plus, false⟩
def b_amounts : Ev.Ss := (.cons (.exp (.call 15 (.cons (.var 0) .nil))) (.cons (.ite (.not (.call 24 (.cons (.var 1) (.cons (.bi .len (.cons (.idx (.var 0) (.int 1)) .nil)) .nil)))) (.cons .bad .nil) .nil) (.cons (.asg (.one 2) (.call 25 (.cons (.var 0) .nil))) (.cons (.ret (.bi .tuple (.cons (.comp (.call 32 (.cons (.comp (.idx (.var 4) (.var 3)) (.one 4) (.seq (.var 2)) .none) (.cons (.var 1) .nil))) (.one 3) (.rng1 (.bi .len (.cons (.idx (.var 0) (.int 2)) .nil))) .none) .nil))) .nil))))
def f_amounts : Ev.Fn := ⟨"amounts", 2, ["inputs", "stocks", "back", "at", "line"], b_amounts, false⟩
def b__law_dot : Ev.Ss := (.cons (.ret (.call 37 (.cons (.comp (.call 8 (.cons (.var 2) (.cons (.var 3) .nil))) (.many [2, 3]) (.zip (.var 0) (.var 1)) .none) .nil))) .nil)
def f__law_dot : Ev.Fn := ⟨"_law_dot", 2, ["one", "other", "left", "right"], b__law_dot, false⟩
def b__law_sum : Ev.Ss := (.cons (.asg (.one 1) (.tup (.cons (.int 0) (.cons (.int 1) .nil)))) (.cons (.for (.one 2) (.seq (.var 0)) (.cons (.asg (.one 1) (.call 38 (.cons (.var 1) (.cons (.var 2) .nil)))) .nil)) (.cons (.ret (.var 1)) .nil)))
def f__law_sum : Ev.Fn := ⟨"_law_sum", 1, ["some", "found", "each"], b__law_sum, false⟩
def b__law_plus : Ev.Ss := (.cons (.ret (.call 7 (.cons (.bin .add (.bin .mul (.idx (.var 0) (.int 0)) (.idx (.var 1) (.int 1))) (.bin .mul (.idx (.var 1) (.int 0)) (.idx (.var 0) (.int 1)))) (.cons (.bin .mul (.idx (.var 0) (.int 1)) (.idx (.var 1) (.int 1))) .nil)))) .nil)
def f__law_plus : Ev.Fn := ⟨"_law_plus", 2, ["one", "other"], b__law_plus, false⟩
def b_turned_back : Ev.Ss := (.cons (.exp (.call 15 (.cons (.var 0) .nil))) (.cons (.ret (.call 25 (.cons (.var 0) .nil))) .nil))
def f_turned_back : Ev.Fn := ⟨"turned_back", 1, ["inputs"], b_turned_back, false⟩
def b__law_ld_amount : Ev.Ss := (.cons (.ret (.call 7 (.cons (.bin .add (.int 1) (.call 4 (.cons (.var 0) (.cons (.var 1) .nil)))) (.cons (.call 6 (.cons (.var 0) (.cons (.lst (.cons (.int 1) (.cons (.int 1) (.cons (.int 1) (.cons (.int 2) (.cons (.int 3) .nil)))))) .nil))) .nil)))) .nil)
def f__law_ld_amount : Ev.Fn := ⟨"_law_ld_amount", 2, ["draws", "top"], b__law_ld_amount, false⟩
def gl : List (PySem.Str × Ev.D) := [("LETTERS", (.str "abcdefghijklmnopqrstuvwxyz")), ("MOST_GOODS", (.int (6))), ("MOST_KINDS", (.int (4))), ("ONE", (.tup [(.int (1)), (.int (1))])), ("ZERO", (.tup [(.int (0)), (.int (1))]))]
def fns : List Ev.Fn := [f_law, f__law_begun, f__law_in_inputs, f__law_words, f__law_draw, f__law_blended, f__law_pick, f__law_q, f__law_times, f__law_in_known, f__law_solved, f__law_over, f__law_minus, f__law_number, f_rewards, f_need_square, f_need_inputs, f_is_inputs, f_are_names, f_is_word, f_are_parts, f_is_ratio, f_is_whole, f_need_any_prices, f_are_ratios, f_need_regular, f_inverse_of, f_over, f_lowest, f_cleared_of, f_minus, f_times, f_dot, f_total, f_plus, f_amounts, f__law_dot, f__law_sum, f__law_plus, f_turned_back, f__law_ld_amount]
end K60
namespace K60
open PySem Ev
theorem sem_succ {G : Gs} {k i : Nat} {ds : List D} {o : Os} (f : Fn) (h : fns[i]? = some f) : sem G fns (k + 1) i ds o = runBody (sem G fns k) G f ds o := by
  show (match fns[i]? with | some f => runBody (sem G fns k) G f ds o | none => .bad) = _
  rw [h]
variable {F : Fs} {G : Gs} {o : Os}
theorem e_lowest {n d : Int} (hd : d ≠ 0) (hz : Int.gcd n d < 2 ^ 9000) : runBody F G f_lowest [.int n, .int d] o = .ok (Rq (Rat.divInt n d)) o := by
  have hg : (Int.gcd n d : Int) ≠ 0 := fun z => hd (Int.gcd_eq_zero_iff.mp (by exact_mod_cast z)).2
  by_cases h : 0 < d
  · simp only [runBody, f_lowest, b_lowest, denSs, denS, den, denEs, bind_ok, of_some, look_0, look_s, List.length_cons, List.length_nil, List.map_cons, List.map_nil, List.replicate, List.cons_append, List.nil_append, if_true, dCmp, drf, dTru, dBi, dBin, bindT, List.set_cons_zero, List.set_cons_succ, Option.map_some, h, decide_true, Bool.not_true, div_ok hg (b := 9000) (by rw [Int.natAbs_natCast]; exact hz) (Nat.le_refl _)]
    unfold Rq
    rw [frac_num (n := n) hd (c := Int.gcd n d) (by rw [if_pos h]), frac_den (n := n) hd (c := Int.gcd n d) (by rw [if_pos h])]
  · have hg' : (-(Int.gcd n d : Int)) ≠ 0 := by omega
    simp only [runBody, f_lowest, b_lowest, denSs, denS, den, denEs, bind_ok, of_some, look_0, look_s, List.length_cons, List.length_nil, List.map_cons, List.map_nil, List.replicate, List.cons_append, List.nil_append, if_true, dCmp, drf, dTru, dBi, dBin, dNeg, bindT, List.set_cons_zero, List.set_cons_succ, Option.map_some, h, decide_false, Bool.false_eq_true, if_false, div_ok hg' (b := 9000) (by rw [Int.natAbs_neg, Int.natAbs_natCast]; exact hz) (Nat.le_refl _)]
    unfold Rq
    rw [frac_num (n := n) hd (c := -Int.gcd n d) (by rw [if_neg h]), frac_den (n := n) hd (c := -Int.gcd n d) (by rw [if_neg h])]
end K60

namespace K60
open PySem Ev
theorem rq_0 {a : Rat} {o : Os} : dIdx (Rq a) (.int 0) o = some (.int a.num) := rfl
theorem rq_1 {a : Rat} {o : Os} : dIdx (Rq a) (.int 1) o = some (.int a.den) := rfl
variable {G : Gs} {o : Os} {k : Nat}
theorem s_lowest {n d : Int} (hd : d ≠ 0) (hz : Int.gcd n d < 2 ^ 9000) : sem G fns (k + 1) 28 [.int n, .int d] o = .ok (Rq (Rat.divInt n d)) o := by
  rw [sem_succ f_lowest rfl, e_lowest hd hz]
theorem gcd_lt {n d : Int} {b : Nat} (hd : d ≠ 0) (h : d.natAbs < 2 ^ b) : Int.gcd n d < 2 ^ b :=
  Nat.lt_of_le_of_lt (Nat.le_of_dvd (by omega) (Int.natCast_dvd_natCast.mp (by rw [Int.dvd_natAbs]; exact Int.gcd_dvd_right _ _))) h
theorem den_lt {q : Rat} {b : Nat} (h : Sz b q) : ((q.den : Int)).natAbs < 2 ^ b := by rw [Int.natAbs_natCast]; exact h.2
theorem num_lt {q : Rat} {b : Nat} (h : Sz b q) : q.num.natAbs < 2 ^ b := h.1
theorem dd_ne (a b : Rat) : (a.den : Int) * b.den ≠ 0 := Int.mul_ne_zero (den_ne a) (den_ne b)

theorem s_plus {a b : Rat} {x y : Nat} (ha : Sz x a) (hb : Sz y b) (h : x + y < 1000000) (hg : Int.gcd (a.num * b.den + b.num * a.den) (a.den * b.den) < 2 ^ 9000) : sem G fns (k + 2) 34 [Rq a, Rq b] o = .ok (Rq (a + b)) o := by
  rw [sem_succ f_plus rfl]
  simp only [f_plus, b_plus, runBody, denSs, denS.eq_1, denS.eq_2, denS.eq_3, denS.eq_4, denS.eq_5, denS.eq_6, denS.eq_7, denS.eq_8, denS.eq_9, denS.eq_10, denS.eq_13, denS.eq_14, denS.eq_15, denS.eq_16, denS.eq_17, d_for, d_whl, den.eq_1, den.eq_2, den.eq_3, den.eq_4, den.eq_5, den.eq_6, den.eq_7, den.eq_8, den.eq_9, den.eq_10, den.eq_11, den.eq_12, den.eq_13, den.eq_14, den.eq_15, den.eq_16, den.eq_17, den.eq_18, den.eq_19, den.eq_20, den.eq_21, den.eq_23, den.eq_24, den.eq_25, den.eq_26, den.eq_27, d_comp, denT, denEs, denEO, denC, denI, bind_ok, of_some, look_0, look_s, List.length_cons, List.length_nil, List.map_cons, List.map_nil, List.replicate, List.cons_append, List.nil_append, if_true, dCmp, drf, dTru, dBi, dBin, dNeg, bindT, List.set_cons_zero, List.set_cons_succ, Option.map_some, rq_0, rq_1, Nat.reduceAdd, Nat.reduceSub, mul_ok (num_lt ha) (den_lt hb) h, mul_ok (num_lt hb) (den_lt ha) (by omega), mul_ok (den_lt ha) (den_lt hb) h, s_lowest (dd_ne a b) hg, q_add]

theorem s_minus {a b : Rat} {x y : Nat} (ha : Sz x a) (hb : Sz y b) (h : x + y < 1000000) (hg : Int.gcd (a.num * b.den - b.num * a.den) (a.den * b.den) < 2 ^ 9000) : sem G fns (k + 2) 30 [Rq a, Rq b] o = .ok (Rq (a - b)) o := by
  rw [sem_succ f_minus rfl]
  simp only [f_minus, b_minus, runBody, denSs, denS.eq_1, denS.eq_2, denS.eq_3, denS.eq_4, denS.eq_5, denS.eq_6, denS.eq_7, denS.eq_8, denS.eq_9, denS.eq_10, denS.eq_13, denS.eq_14, denS.eq_15, denS.eq_16, denS.eq_17, d_for, d_whl, den.eq_1, den.eq_2, den.eq_3, den.eq_4, den.eq_5, den.eq_6, den.eq_7, den.eq_8, den.eq_9, den.eq_10, den.eq_11, den.eq_12, den.eq_13, den.eq_14, den.eq_15, den.eq_16, den.eq_17, den.eq_18, den.eq_19, den.eq_20, den.eq_21, den.eq_23, den.eq_24, den.eq_25, den.eq_26, den.eq_27, d_comp, denT, denEs, denEO, denC, denI, bind_ok, of_some, look_0, look_s, List.length_cons, List.length_nil, List.map_cons, List.map_nil, List.replicate, List.cons_append, List.nil_append, if_true, dCmp, drf, dTru, dBi, dBin, dNeg, bindT, List.set_cons_zero, List.set_cons_succ, Option.map_some, rq_0, rq_1, Nat.reduceAdd, Nat.reduceSub, mul_ok (num_lt ha) (den_lt hb) h, mul_ok (num_lt hb) (den_lt ha) (by omega), mul_ok (den_lt ha) (den_lt hb) h, s_lowest (dd_ne a b) hg, q_sub]

theorem s_times {a b : Rat} {x y : Nat} (ha : Sz x a) (hb : Sz y b) (h : x + y ≤ 9000) : sem G fns (k + 2) 31 [Rq a, Rq b] o = .ok (Rq (a * b)) o := by
  rw [sem_succ f_times rfl]
  simp only [f_times, b_times, runBody, denSs, denS.eq_1, denS.eq_2, denS.eq_3, denS.eq_4, denS.eq_5, denS.eq_6, denS.eq_7, denS.eq_8, denS.eq_9, denS.eq_10, denS.eq_13, denS.eq_14, denS.eq_15, denS.eq_16, denS.eq_17, d_for, d_whl, den.eq_1, den.eq_2, den.eq_3, den.eq_4, den.eq_5, den.eq_6, den.eq_7, den.eq_8, den.eq_9, den.eq_10, den.eq_11, den.eq_12, den.eq_13, den.eq_14, den.eq_15, den.eq_16, den.eq_17, den.eq_18, den.eq_19, den.eq_20, den.eq_21, den.eq_23, den.eq_24, den.eq_25, den.eq_26, den.eq_27, d_comp, denT, denEs, denEO, denC, denI, bind_ok, of_some, look_0, look_s, List.length_cons, List.length_nil, List.map_cons, List.map_nil, List.replicate, List.cons_append, List.nil_append, if_true, dCmp, drf, dTru, dBi, dBin, dNeg, bindT, List.set_cons_zero, List.set_cons_succ, Option.map_some, rq_0, rq_1, Nat.reduceAdd, Nat.reduceSub, mul_ok (num_lt ha) (num_lt hb) (by omega), mul_ok (den_lt ha) (den_lt hb) (by omega), s_lowest (dd_ne a b) (pow_mono (gcd_lt (dd_ne a b) (mul_lt (den_lt ha) (den_lt hb))) h), q_mul]
theorem s_over {a b : Rat} {x y : Nat} (ha : Sz x a) (hb : Sz y b) (h : x + y ≤ 9000) (h0 : b ≠ 0) : sem G fns (k + 2) 27 [Rq a, Rq b] o = .ok (Rq (a / b)) o := by
  have hn : (a.den : Int) * b.num ≠ 0 := Int.mul_ne_zero (den_ne a) (by rw [Ne, Rat.num_eq_zero]; exact h0)
  rw [sem_succ f_over rfl]
  simp only [f_over, b_over, runBody, denSs, denS.eq_1, denS.eq_2, denS.eq_3, denS.eq_4, denS.eq_5, denS.eq_6, denS.eq_7, denS.eq_8, denS.eq_9, denS.eq_10, denS.eq_13, denS.eq_14, denS.eq_15, denS.eq_16, denS.eq_17, d_for, d_whl, den.eq_1, den.eq_2, den.eq_3, den.eq_4, den.eq_5, den.eq_6, den.eq_7, den.eq_8, den.eq_9, den.eq_10, den.eq_11, den.eq_12, den.eq_13, den.eq_14, den.eq_15, den.eq_16, den.eq_17, den.eq_18, den.eq_19, den.eq_20, den.eq_21, den.eq_23, den.eq_24, den.eq_25, den.eq_26, den.eq_27, d_comp, denT, denEs, denEO, denC, denI, bind_ok, of_some, look_0, look_s, List.length_cons, List.length_nil, List.map_cons, List.map_nil, List.replicate, List.cons_append, List.nil_append, if_true, dCmp, drf, dTru, dBi, dBin, dNeg, bindT, List.set_cons_zero, List.set_cons_succ, Option.map_some, rq_0, rq_1, Nat.reduceAdd, Nat.reduceSub, mul_ok (num_lt ha) (den_lt hb) (by omega), mul_ok (den_lt ha) (num_lt hb) (by omega), s_lowest hn (pow_mono (gcd_lt hn (mul_lt (den_lt ha) (num_lt hb))) h), q_div]
end K60

namespace K60
open PySem Ev
variable {G : Gs} {o : Os} {k : Nat}
theorem comp_map {α : Type} {f : D → Os → Res (Option D)} {e g : α → D} : ∀ (l : List α), (∀ a ∈ l, f (e a) o = .ok (some (g a)) o) → compLoop f (l.map e) o = .ok (l.map g) o
  | [], _ => rfl
  | a :: l, h => by
    rw [List.map_cons, compLoop, h a List.mem_cons_self, bind_ok, comp_map l fun b hb => h b (List.mem_cons_of_mem _ hb), bind_ok]
    rfl
theorem zip_map {α : Type} {e e' : α → D} : ∀ (l : List α), dZip (l.map e) (l.map e') = l.map fun a => .tup [e a, e' a]
  | [] => rfl
  | a :: l => by rw [List.map_cons, List.map_cons, dZip, zip_map l]; rfl
theorem zip_map2 {α β : Type} {e : α → D} {e' : β → D} : ∀ (l : List α) (l' : List β), dZip (l.map e) (l'.map e') = (l.zip l').map fun p => .tup [e p.1, e' p.2]
  | [], _ => by simp [dZip]
  | a :: l, [] => by simp [dZip]
  | a :: l, b :: l' => by rw [List.map_cons, List.map_cons, dZip, zip_map2 l l']; rfl
theorem sz_add {a b : Rat} {x y : Nat} (ha : Sz x a) (hb : Sz y b) : Sz (x + y + 1) (a + b) := by
  rw [← q_add]
  refine sz_divInt (dd_ne a b) (add_lt (mul_lt (num_lt ha) (den_lt hb)) ?_) (pow_mono (mul_lt (den_lt ha) (den_lt hb)) (by omega))
  rw [Nat.add_comm]; exact mul_lt (num_lt hb) (den_lt ha)
theorem sz_sub {a b : Rat} {x y : Nat} (ha : Sz x a) (hb : Sz y b) : Sz (x + y + 1) (a - b) := by
  rw [← q_sub]
  refine sz_divInt (dd_ne a b) ?_ (pow_mono (mul_lt (den_lt ha) (den_lt hb)) (by omega))
  rw [Int.sub_eq_add_neg]
  refine add_lt (mul_lt (num_lt ha) (den_lt hb)) ?_
  rw [Int.natAbs_neg, Nat.add_comm]; exact mul_lt (num_lt hb) (den_lt ha)
theorem sz_mul {a b : Rat} {x y : Nat} (ha : Sz x a) (hb : Sz y b) : Sz (x + y) (a * b) := by
  rw [← q_mul]
  exact sz_divInt (dd_ne a b) (mul_lt (num_lt ha) (num_lt hb)) (mul_lt (den_lt ha) (den_lt hb))
theorem sz_div {a b : Rat} {x y : Nat} (ha : Sz x a) (hb : Sz y b) (h0 : b ≠ 0) : Sz (x + y) (a / b) := by
  rw [← q_div]
  exact sz_divInt (Int.mul_ne_zero (den_ne a) (by rw [Ne, Rat.num_eq_zero]; exact h0)) (mul_lt (num_lt ha) (den_lt hb)) (mul_lt (den_lt ha) (num_lt hb))
/-- a sum: by the second's size, or by both -/
theorem gcd_add {a b : Rat} {y : Nat} (hb : Sz y b) (h : y + y ≤ 9000) : Int.gcd (a.num * b.den + b.num * a.den) (a.den * b.den) < 2 ^ 9000 := by
  have h1 := Nat.le_of_dvd (Nat.mul_pos (by have := b.den_nz; omega) (by have := b.den_nz; omega)) (gcd_small (a := a) (b := b))
  have h2 : b.den * b.den < 2 ^ (y + y) := by rw [Nat.pow_add]; exact Nat.mul_lt_mul'' hb.2 hb.2
  exact pow_mono (Nat.lt_of_le_of_lt h1 h2) h
theorem gcd_sub {a b : Rat} {x y : Nat} (ha : Sz x a) (hb : Sz y b) (h : x + y ≤ 9000) : Int.gcd (a.num * b.den - b.num * a.den) (a.den * b.den) < 2 ^ 9000 :=
  pow_mono (gcd_lt (dd_ne a b) (mul_lt (den_lt ha) (den_lt hb))) h
def sumQ (l : List Rat) (a : Rat) : Rat := l.foldl (· + ·) a
theorem sz_sum {y : Nat} : ∀ (l : List Rat) (a : Rat) (x : Nat), Sz x a → (∀ b ∈ l, Sz y b) → Sz (x + l.length * (y + 1)) (sumQ l a)
  | [], a, x, ha, _ => by simpa [sumQ] using ha
  | b :: l, a, x, ha, hb => by
    have := sz_sum l (a + b) (x + y + 1) (sz_add ha (hb b List.mem_cons_self)) fun c hc => hb c (List.mem_cons_of_mem _ hc)
    rw [List.length_cons]
    have e : x + (l.length + 1) * (y + 1) = x + y + 1 + l.length * (y + 1) := by grind
    rw [e]
    exact this

theorem total_loop {y : Nat} {p : Option D} : ∀ (l : List Rat) (a : Rat) (x : Nat) (z : Option D), Sz x a → (∀ b ∈ l, Sz y b) → x + l.length * (y + 1) + y < 1000000 → y + y ≤ 9000 →
    ∃ z', forLoop (forG (sem G fns (k + 2)) G (.one 2) (.cons (.asg (.one 1) (.call 34 (.cons (.var 1) (.cons (.var 2) .nil)))) .nil)) (l.map Rq) [p, some (Rq a), z] o = .ok (.nx [p, some (Rq (sumQ l a)), z']) o
  | [], a, x, z, _, _, _, _ => ⟨z, rfl⟩
  | b :: l, a, x, z, ha, hb, h1, h2 => by
    have hl : (b :: l).length * (y + 1) = l.length * (y + 1) + (y + 1) := by rw [List.length_cons]; grind
    obtain ⟨z', e⟩ := total_loop l (a + b) (x + y + 1) (some (Rq b)) (sz_add ha (hb b List.mem_cons_self)) (fun c hc => hb c (List.mem_cons_of_mem _ hc)) (by omega) h2
    refine ⟨z', ?_⟩
    rw [List.map_cons, forLoop]
    simp only [forG, runBody, denSs, denS.eq_1, denS.eq_2, denS.eq_3, denS.eq_4, denS.eq_5, denS.eq_6, denS.eq_7, denS.eq_8, denS.eq_9, denS.eq_10, denS.eq_13, denS.eq_14, denS.eq_15, denS.eq_16, denS.eq_17, d_for, d_whl, den.eq_1, den.eq_2, den.eq_3, den.eq_4, den.eq_5, den.eq_6, den.eq_7, den.eq_8, den.eq_9, den.eq_10, den.eq_11, den.eq_12, den.eq_13, den.eq_14, den.eq_15, den.eq_16, den.eq_17, den.eq_18, den.eq_19, den.eq_20, den.eq_21, den.eq_23, den.eq_24, den.eq_25, den.eq_26, den.eq_27, d_comp, denT, denEs, denEO, denC, denI, bind_ok, of_some, look_0, look_s, List.length_cons, List.length_nil, List.map_cons, List.map_nil, List.replicate, List.cons_append, List.nil_append, if_true, dCmp, drf, dTru, dBi, dBin, dNeg, bindT, List.set_cons_zero, List.set_cons_succ, Option.map_some, rq_0, rq_1, Nat.reduceAdd, Nat.reduceSub, s_plus ha (hb b List.mem_cons_self) (by omega) (gcd_add (hb b List.mem_cons_self) h2)]
    exact e
theorem zero_q : D.tup [.int 0, .int 1] = Rq 0 := rfl
theorem s_total {y : Nat} (l : List Rat) (hb : ∀ b ∈ l, Sz y b) (h1 : 1 + l.length * (y + 1) + y < 1000000) (h2 : y + y ≤ 9000) (hG : G 4 = some (Rq 0)) : sem G fns (k + 3) 33 [.lst (l.map Rq)] o = .ok (Rq (sumQ l 0)) o := by
  rw [sem_succ f_total rfl]
  have h0 : Sz 1 (0 : Rat) := ⟨by decide, by decide⟩
  obtain ⟨z', e⟩ := total_loop (G := G) (o := o) (k := k) (p := some (.lst (l.map Rq))) l 0 1 none h0 hb h1 h2
  simp only [f_total, b_total, runBody, denSs, denS.eq_1, denS.eq_2, denS.eq_3, denS.eq_4, denS.eq_5, denS.eq_6, denS.eq_7, denS.eq_8, denS.eq_9, denS.eq_10, denS.eq_13, denS.eq_14, denS.eq_15, denS.eq_16, denS.eq_17, d_for, d_whl, den.eq_1, den.eq_2, den.eq_3, den.eq_4, den.eq_5, den.eq_6, den.eq_7, den.eq_8, den.eq_9, den.eq_10, den.eq_11, den.eq_12, den.eq_13, den.eq_14, den.eq_15, den.eq_16, den.eq_17, den.eq_18, den.eq_19, den.eq_20, den.eq_21, den.eq_23, den.eq_24, den.eq_25, den.eq_26, den.eq_27, d_comp, denT, denEs, denEO, denC, denI, bind_ok, of_some, look_0, look_s, List.length_cons, List.length_nil, List.map_cons, List.map_nil, List.replicate, List.cons_append, List.nil_append, if_true, dCmp, drf, dTru, dBi, dBin, dNeg, bindT, List.set_cons_zero, List.set_cons_succ, Option.map_some, rq_0, rq_1, Nat.reduceAdd, Nat.reduceSub, hG, dSeq]
  rw [e]
  simp only [runBody, denSs, denS.eq_1, denS.eq_2, denS.eq_3, denS.eq_4, denS.eq_5, denS.eq_6, denS.eq_7, denS.eq_8, denS.eq_9, denS.eq_10, denS.eq_13, denS.eq_14, denS.eq_15, denS.eq_16, denS.eq_17, d_for, d_whl, den.eq_1, den.eq_2, den.eq_3, den.eq_4, den.eq_5, den.eq_6, den.eq_7, den.eq_8, den.eq_9, den.eq_10, den.eq_11, den.eq_12, den.eq_13, den.eq_14, den.eq_15, den.eq_16, den.eq_17, den.eq_18, den.eq_19, den.eq_20, den.eq_21, den.eq_23, den.eq_24, den.eq_25, den.eq_26, den.eq_27, d_comp, denT, denEs, denEO, denC, denI, bind_ok, of_some, look_0, look_s, List.length_cons, List.length_nil, List.map_cons, List.map_nil, List.replicate, List.cons_append, List.nil_append, if_true, dCmp, drf, dTru, dBi, dBin, dNeg, bindT, List.set_cons_zero, List.set_cons_succ, Option.map_some, rq_0, rq_1, Nat.reduceAdd, Nat.reduceSub]
end K60

namespace K60
open PySem Ev
variable {F : Fs} {G : Gs} {o : Os} {k : Nat}

theorem s_dot {x y : Nat} (a b : List Rat) (ha : ∀ c ∈ a, Sz x c) (hb : ∀ c ∈ b, Sz y c) (hG : G 4 = some (Rq 0)) (h : 1 + (a.zip b).length * (x + y + 1) + (x + y) < 1000000) (h2 : (x + y) + (x + y) ≤ 9000) {u v : D} (hu : dLs u = some (a.map Rq)) (hv : dLs v = some (b.map Rq)) :
    sem G fns (k + 4) 32 [u, v] o = .ok (Rq (sumQ ((a.zip b).map fun p => p.1 * p.2) 0)) o := by
  rw [sem_succ f_dot rfl]
  simp only [f_dot, b_dot, runBody, denSs, denS.eq_1, denS.eq_2, denS.eq_3, denS.eq_4, denS.eq_5, denS.eq_6, denS.eq_7, denS.eq_8, denS.eq_9, denS.eq_10, denS.eq_13, denS.eq_14, denS.eq_15, denS.eq_16, denS.eq_17, d_for, d_whl, den.eq_1, den.eq_2, den.eq_3, den.eq_4, den.eq_5, den.eq_6, den.eq_7, den.eq_8, den.eq_9, den.eq_10, den.eq_11, den.eq_12, den.eq_13, den.eq_14, den.eq_15, den.eq_16, den.eq_17, den.eq_18, den.eq_19, den.eq_20, den.eq_21, den.eq_23, den.eq_24, den.eq_25, den.eq_26, den.eq_27, d_comp, denT, denEs, denEO, denC, denI, bind_ok, of_some, look_0, look_s, List.length_cons, List.length_nil, List.map_cons, List.map_nil, List.replicate, List.cons_append, List.nil_append, if_true, dCmp, drf, dTru, dBi, dBin, dNeg, bindT, List.set_cons_zero, List.set_cons_succ, Option.map_some, rq_0, rq_1, Nat.reduceAdd, Nat.reduceSub, hu, hv]
  rw [zip_map2 a b, comp_map (g := fun p : Rat × Rat => Rq (p.1 * p.2)) (a.zip b) fun p hp => ?_]
  · simp only [runBody, denSs, denS.eq_1, denS.eq_2, denS.eq_3, denS.eq_4, denS.eq_5, denS.eq_6, denS.eq_7, denS.eq_8, denS.eq_9, denS.eq_10, denS.eq_13, denS.eq_14, denS.eq_15, denS.eq_16, denS.eq_17, d_for, d_whl, den.eq_1, den.eq_2, den.eq_3, den.eq_4, den.eq_5, den.eq_6, den.eq_7, den.eq_8, den.eq_9, den.eq_10, den.eq_11, den.eq_12, den.eq_13, den.eq_14, den.eq_15, den.eq_16, den.eq_17, den.eq_18, den.eq_19, den.eq_20, den.eq_21, den.eq_23, den.eq_24, den.eq_25, den.eq_26, den.eq_27, d_comp, denT, denEs, denEO, denC, denI, bind_ok, of_some, look_0, look_s, List.length_cons, List.length_nil, List.map_cons, List.map_nil, List.replicate, List.cons_append, List.nil_append, if_true, dCmp, drf, dTru, dBi, dBin, dNeg, bindT, List.set_cons_zero, List.set_cons_succ, Option.map_some, rq_0, rq_1, Nat.reduceAdd, Nat.reduceSub]
    rw [show ((a.zip b).map fun p : Rat × Rat => Rq (p.1 * p.2)) = ((a.zip b).map fun p => p.1 * p.2).map Rq by rw [List.map_map]; rfl, s_total (y := x + y) _ (fun c hc => ?_) (by rw [List.length_map]; exact h) h2 hG]
    · simp only [runBody, denSs, denS.eq_1, denS.eq_2, denS.eq_3, denS.eq_4, denS.eq_5, denS.eq_6, denS.eq_7, denS.eq_8, denS.eq_9, denS.eq_10, denS.eq_13, denS.eq_14, denS.eq_15, denS.eq_16, denS.eq_17, d_for, d_whl, den.eq_1, den.eq_2, den.eq_3, den.eq_4, den.eq_5, den.eq_6, den.eq_7, den.eq_8, den.eq_9, den.eq_10, den.eq_11, den.eq_12, den.eq_13, den.eq_14, den.eq_15, den.eq_16, den.eq_17, den.eq_18, den.eq_19, den.eq_20, den.eq_21, den.eq_23, den.eq_24, den.eq_25, den.eq_26, den.eq_27, d_comp, denT, denEs, denEO, denC, denI, bind_ok, of_some, look_0, look_s, List.length_cons, List.length_nil, List.map_cons, List.map_nil, List.replicate, List.cons_append, List.nil_append, if_true, dCmp, drf, dTru, dBi, dBin, dNeg, bindT, List.set_cons_zero, List.set_cons_succ, Option.map_some, rq_0, rq_1, Nat.reduceAdd, Nat.reduceSub]
    · obtain ⟨p, hp, rfl⟩ := List.mem_map.mp hc
      obtain ⟨p1, p2⟩ := p
      exact sz_mul (ha _ (List.of_mem_zip hp).1) (hb _ (List.of_mem_zip hp).2)
  · obtain ⟨p1, p2⟩ := p
    simp only [compG, Ev.T.own, wipeE, setAll, runBody, denSs, denS.eq_1, denS.eq_2, denS.eq_3, denS.eq_4, denS.eq_5, denS.eq_6, denS.eq_7, denS.eq_8, denS.eq_9, denS.eq_10, denS.eq_13, denS.eq_14, denS.eq_15, denS.eq_16, denS.eq_17, d_for, d_whl, den.eq_1, den.eq_2, den.eq_3, den.eq_4, den.eq_5, den.eq_6, den.eq_7, den.eq_8, den.eq_9, den.eq_10, den.eq_11, den.eq_12, den.eq_13, den.eq_14, den.eq_15, den.eq_16, den.eq_17, den.eq_18, den.eq_19, den.eq_20, den.eq_21, den.eq_23, den.eq_24, den.eq_25, den.eq_26, den.eq_27, d_comp, denT, denEs, denEO, denC, denI, bind_ok, of_some, look_0, look_s, List.length_cons, List.length_nil, List.map_cons, List.map_nil, List.replicate, List.cons_append, List.nil_append, if_true, dCmp, drf, dTru, dBi, dBin, dNeg, bindT, List.set_cons_zero, List.set_cons_succ, Option.map_some, rq_0, rq_1, Nat.reduceAdd, Nat.reduceSub, s_times (ha _ (List.of_mem_zip hp).1) (hb _ (List.of_mem_zip hp).2) (by omega)]
    rfl
/-! ### the law's own -/
theorem q_loop {p q : Option D} : ∀ (y x : Nat), whl (denT F G (.cmp .gt (.var 3) (.int 0))) (whB F G (.cons (.par 2 3 (.var 3) (.bin .mod (.bi .int (.cons (.var 2) .nil)) (.var 3))) .nil)) [p, q, some (.int x), some (.int y)] o = .ok (.nx [p, q, some (.int (Nat.gcd x y)), some (.int 0)]) o := by
  intro y
  induction y using Nat.strongRecOn with
  | ind y ih =>
    intro x
    rw [whl_turn]
    by_cases hy : y = 0
    · subst hy
      simp only [runBody, denSs, denS.eq_1, denS.eq_2, denS.eq_3, denS.eq_4, denS.eq_5, denS.eq_6, denS.eq_7, denS.eq_8, denS.eq_9, denS.eq_10, denS.eq_13, denS.eq_14, denS.eq_15, denS.eq_16, denS.eq_17, d_for, d_whl, den.eq_1, den.eq_2, den.eq_3, den.eq_4, den.eq_5, den.eq_6, den.eq_7, den.eq_8, den.eq_9, den.eq_10, den.eq_11, den.eq_12, den.eq_13, den.eq_14, den.eq_15, den.eq_16, den.eq_17, den.eq_18, den.eq_19, den.eq_20, den.eq_21, den.eq_23, den.eq_24, den.eq_25, den.eq_26, den.eq_27, d_comp, denT, denEs, denEO, denC, denI, bind_ok, of_some, look_0, look_s, List.length_cons, List.length_nil, List.map_cons, List.map_nil, List.replicate, List.cons_append, List.nil_append, if_true, dCmp, drf, dTru, dBi, dBin, dNeg, bindT, List.set_cons_zero, List.set_cons_succ, Option.map_some, rq_0, rq_1, Nat.reduceAdd, Nat.reduceSub, Nat.gcd_zero_right]
      rfl
    · have h1 : decide ((0 : Int) < (y : Int)) = true := decide_eq_true (by omega)
      have h2 : ((y : Int) ≠ 0) := by omega
      have h3 : (x : Int).fmod y = ((x % y : Nat) : Int) := by rw [Int.fmod_eq_emod_of_nonneg _ (by omega)]; rfl
      simp only [runBody, denSs, denS.eq_1, denS.eq_2, denS.eq_3, denS.eq_4, denS.eq_5, denS.eq_6, denS.eq_7, denS.eq_8, denS.eq_9, denS.eq_10, denS.eq_13, denS.eq_14, denS.eq_15, denS.eq_16, denS.eq_17, d_for, d_whl, den.eq_1, den.eq_2, den.eq_3, den.eq_4, den.eq_5, den.eq_6, den.eq_7, den.eq_8, den.eq_9, den.eq_10, den.eq_11, den.eq_12, den.eq_13, den.eq_14, den.eq_15, den.eq_16, den.eq_17, den.eq_18, den.eq_19, den.eq_20, den.eq_21, den.eq_23, den.eq_24, den.eq_25, den.eq_26, den.eq_27, d_comp, denT, denEs, denEO, denC, denI, bind_ok, of_some, look_0, look_s, List.length_cons, List.length_nil, List.map_cons, List.map_nil, List.replicate, List.cons_append, List.nil_append, if_true, dCmp, drf, dTru, dBi, dBin, dNeg, bindT, List.set_cons_zero, List.set_cons_succ, Option.map_some, rq_0, rq_1, Nat.reduceAdd, Nat.reduceSub, h1, whB, if_pos h2, h3]
      rw [ih (x % y) (Nat.mod_lt _ (by omega)) y, show Nat.gcd y (x % y) = Nat.gcd x y by rw [Nat.gcd_comm y, ← Nat.gcd_rec, Nat.gcd_comm]]
theorem abs_int (i : Int) : (if i < 0 then -i else i) = (i.natAbs : Int) := by omega
theorem s_q {n d : Int} (hd : d ≠ 0) (hz : Int.gcd n d < 2 ^ 9000) : sem G fns (k + 1) 7 [.int n, .int d] o = .ok (Rq (Rat.divInt n d)) o := by
  have hg : (Int.gcd n d : Int) ≠ 0 := fun z => hd (Int.gcd_eq_zero_iff.mp (by exact_mod_cast z)).2
  have hdv := div_ok hg (b := 9000) (by rw [Int.natAbs_natCast]; exact hz) (Nat.le_refl _)
  rw [sem_succ f__law_q rfl]
  simp only [f__law_q, b__law_q, runBody, denSs, denS.eq_1, denS.eq_2, denS.eq_3, denS.eq_4, denS.eq_5, denS.eq_6, denS.eq_7, denS.eq_8, denS.eq_9, denS.eq_10, denS.eq_13, denS.eq_14, denS.eq_15, denS.eq_16, denS.eq_17, d_for, d_whl, den.eq_1, den.eq_2, den.eq_3, den.eq_4, den.eq_5, den.eq_6, den.eq_7, den.eq_8, den.eq_9, den.eq_10, den.eq_11, den.eq_12, den.eq_13, den.eq_14, den.eq_15, den.eq_16, den.eq_17, den.eq_18, den.eq_19, den.eq_20, den.eq_21, den.eq_23, den.eq_24, den.eq_25, den.eq_26, den.eq_27, d_comp, denT, denEs, denEO, denC, denI, bind_ok, of_some, look_0, look_s, List.length_cons, List.length_nil, List.map_cons, List.map_nil, List.replicate, List.cons_append, List.nil_append, if_true, dCmp, drf, dTru, dBi, dBin, dNeg, bindT, List.set_cons_zero, List.set_cons_succ, Option.map_some, rq_0, rq_1, Nat.reduceAdd, Nat.reduceSub, abs_int, q_loop]
  rw [show Nat.gcd n.natAbs d.natAbs = Int.gcd n d from rfl]
  by_cases h : 0 < d
  · simp only [runBody, denSs, denS.eq_1, denS.eq_2, denS.eq_3, denS.eq_4, denS.eq_5, denS.eq_6, denS.eq_7, denS.eq_8, denS.eq_9, denS.eq_10, denS.eq_13, denS.eq_14, denS.eq_15, denS.eq_16, denS.eq_17, d_for, d_whl, den.eq_1, den.eq_2, den.eq_3, den.eq_4, den.eq_5, den.eq_6, den.eq_7, den.eq_8, den.eq_9, den.eq_10, den.eq_11, den.eq_12, den.eq_13, den.eq_14, den.eq_15, den.eq_16, den.eq_17, den.eq_18, den.eq_19, den.eq_20, den.eq_21, den.eq_23, den.eq_24, den.eq_25, den.eq_26, den.eq_27, d_comp, denT, denEs, denEO, denC, denI, bind_ok, of_some, look_0, look_s, List.length_cons, List.length_nil, List.map_cons, List.map_nil, List.replicate, List.cons_append, List.nil_append, if_true, dCmp, drf, dTru, dBi, dBin, dNeg, bindT, List.set_cons_zero, List.set_cons_succ, Option.map_some, rq_0, rq_1, Nat.reduceAdd, Nat.reduceSub, h, decide_true, hdv]
    unfold Rq
    rw [frac_num (n := n) hd (c := Int.gcd n d) (by rw [if_pos h]), frac_den (n := n) hd (c := Int.gcd n d) (by rw [if_pos h])]
  · have e1 : (-n).fdiv (Int.gcd n d) = n.fdiv (-(Int.gcd n d : Int)) := by
      obtain ⟨m, hm⟩ := Int.gcd_dvd_left n d
      generalize (Int.gcd n d : Int) = g at *
      rw [hm, show -(g * m) = g * (-m) by grind, Int.mul_fdiv_cancel_left _ hg, show g * m = (-g) * (-m) by grind, Int.mul_fdiv_cancel_left _ (by omega)]
    have e2 : (-d).fdiv (Int.gcd n d) = d.fdiv (-(Int.gcd n d : Int)) := by
      obtain ⟨m, hm⟩ := Int.gcd_dvd_right n d
      generalize (Int.gcd n d : Int) = g at *
      rw [hm, show -(g * m) = g * (-m) by grind, Int.mul_fdiv_cancel_left _ hg, show g * m = (-g) * (-m) by grind, Int.mul_fdiv_cancel_left _ (by omega)]
    simp only [runBody, denSs, denS.eq_1, denS.eq_2, denS.eq_3, denS.eq_4, denS.eq_5, denS.eq_6, denS.eq_7, denS.eq_8, denS.eq_9, denS.eq_10, denS.eq_13, denS.eq_14, denS.eq_15, denS.eq_16, denS.eq_17, d_for, d_whl, den.eq_1, den.eq_2, den.eq_3, den.eq_4, den.eq_5, den.eq_6, den.eq_7, den.eq_8, den.eq_9, den.eq_10, den.eq_11, den.eq_12, den.eq_13, den.eq_14, den.eq_15, den.eq_16, den.eq_17, den.eq_18, den.eq_19, den.eq_20, den.eq_21, den.eq_23, den.eq_24, den.eq_25, den.eq_26, den.eq_27, d_comp, denT, denEs, denEO, denC, denI, bind_ok, of_some, look_0, look_s, List.length_cons, List.length_nil, List.map_cons, List.map_nil, List.replicate, List.cons_append, List.nil_append, if_true, dCmp, drf, dTru, dBi, dBin, dNeg, bindT, List.set_cons_zero, List.set_cons_succ, Option.map_some, rq_0, rq_1, Nat.reduceAdd, Nat.reduceSub, h, decide_false, Bool.false_eq_true, if_false, hdv, e1, e2]
    unfold Rq
    rw [frac_num (n := n) hd (c := -Int.gcd n d) (by rw [if_neg h]), frac_den (n := n) hd (c := -Int.gcd n d) (by rw [if_neg h])]

theorem s_law_plus {a b : Rat} {x y : Nat} (ha : Sz x a) (hb : Sz y b) (h : x + y < 1000000) (hg : Int.gcd (a.num * b.den + b.num * a.den) (a.den * b.den) < 2 ^ 9000) : sem G fns (k + 2) 38 [Rq a, Rq b] o = .ok (Rq (a + b)) o := by
  rw [sem_succ f__law_plus rfl]
  simp only [f__law_plus, b__law_plus, runBody, denSs, denS.eq_1, denS.eq_2, denS.eq_3, denS.eq_4, denS.eq_5, denS.eq_6, denS.eq_7, denS.eq_8, denS.eq_9, denS.eq_10, denS.eq_13, denS.eq_14, denS.eq_15, denS.eq_16, denS.eq_17, d_for, d_whl, den.eq_1, den.eq_2, den.eq_3, den.eq_4, den.eq_5, den.eq_6, den.eq_7, den.eq_8, den.eq_9, den.eq_10, den.eq_11, den.eq_12, den.eq_13, den.eq_14, den.eq_15, den.eq_16, den.eq_17, den.eq_18, den.eq_19, den.eq_20, den.eq_21, den.eq_23, den.eq_24, den.eq_25, den.eq_26, den.eq_27, d_comp, denT, denEs, denEO, denC, denI, bind_ok, of_some, look_0, look_s, List.length_cons, List.length_nil, List.map_cons, List.map_nil, List.replicate, List.cons_append, List.nil_append, if_true, dCmp, drf, dTru, dBi, dBin, dNeg, bindT, List.set_cons_zero, List.set_cons_succ, Option.map_some, rq_0, rq_1, Nat.reduceAdd, Nat.reduceSub, mul_ok (num_lt ha) (den_lt hb) h, mul_ok (num_lt hb) (den_lt ha) (by omega), mul_ok (den_lt ha) (den_lt hb) h, s_q (dd_ne a b) hg, q_add]

theorem s_law_minus {a b : Rat} {x y : Nat} (ha : Sz x a) (hb : Sz y b) (h : x + y < 1000000) (hg : Int.gcd (a.num * b.den - b.num * a.den) (a.den * b.den) < 2 ^ 9000) : sem G fns (k + 2) 12 [Rq a, Rq b] o = .ok (Rq (a - b)) o := by
  rw [sem_succ f__law_minus rfl]
  simp only [f__law_minus, b__law_minus, runBody, denSs, denS.eq_1, denS.eq_2, denS.eq_3, denS.eq_4, denS.eq_5, denS.eq_6, denS.eq_7, denS.eq_8, denS.eq_9, denS.eq_10, denS.eq_13, denS.eq_14, denS.eq_15, denS.eq_16, denS.eq_17, d_for, d_whl, den.eq_1, den.eq_2, den.eq_3, den.eq_4, den.eq_5, den.eq_6, den.eq_7, den.eq_8, den.eq_9, den.eq_10, den.eq_11, den.eq_12, den.eq_13, den.eq_14, den.eq_15, den.eq_16, den.eq_17, den.eq_18, den.eq_19, den.eq_20, den.eq_21, den.eq_23, den.eq_24, den.eq_25, den.eq_26, den.eq_27, d_comp, denT, denEs, denEO, denC, denI, bind_ok, of_some, look_0, look_s, List.length_cons, List.length_nil, List.map_cons, List.map_nil, List.replicate, List.cons_append, List.nil_append, if_true, dCmp, drf, dTru, dBi, dBin, dNeg, bindT, List.set_cons_zero, List.set_cons_succ, Option.map_some, rq_0, rq_1, Nat.reduceAdd, Nat.reduceSub, mul_ok (num_lt ha) (den_lt hb) h, mul_ok (num_lt hb) (den_lt ha) (by omega), mul_ok (den_lt ha) (den_lt hb) h, s_q (dd_ne a b) hg, q_sub]

theorem s_law_times {a b : Rat} {x y : Nat} (ha : Sz x a) (hb : Sz y b) (h : x + y ≤ 9000) : sem G fns (k + 2) 8 [Rq a, Rq b] o = .ok (Rq (a * b)) o := by
  rw [sem_succ f__law_times rfl]
  simp only [f__law_times, b__law_times, runBody, denSs, denS.eq_1, denS.eq_2, denS.eq_3, denS.eq_4, denS.eq_5, denS.eq_6, denS.eq_7, denS.eq_8, denS.eq_9, denS.eq_10, denS.eq_13, denS.eq_14, denS.eq_15, denS.eq_16, denS.eq_17, d_for, d_whl, den.eq_1, den.eq_2, den.eq_3, den.eq_4, den.eq_5, den.eq_6, den.eq_7, den.eq_8, den.eq_9, den.eq_10, den.eq_11, den.eq_12, den.eq_13, den.eq_14, den.eq_15, den.eq_16, den.eq_17, den.eq_18, den.eq_19, den.eq_20, den.eq_21, den.eq_23, den.eq_24, den.eq_25, den.eq_26, den.eq_27, d_comp, denT, denEs, denEO, denC, denI, bind_ok, of_some, look_0, look_s, List.length_cons, List.length_nil, List.map_cons, List.map_nil, List.replicate, List.cons_append, List.nil_append, if_true, dCmp, drf, dTru, dBi, dBin, dNeg, bindT, List.set_cons_zero, List.set_cons_succ, Option.map_some, rq_0, rq_1, Nat.reduceAdd, Nat.reduceSub, mul_ok (num_lt ha) (num_lt hb) (by omega), mul_ok (den_lt ha) (den_lt hb) (by omega), s_q (dd_ne a b) (pow_mono (gcd_lt (dd_ne a b) (mul_lt (den_lt ha) (den_lt hb))) h), q_mul]
theorem s_law_over {a b : Rat} {x y : Nat} (ha : Sz x a) (hb : Sz y b) (h : x + y ≤ 9000) (h0 : b ≠ 0) : sem G fns (k + 2) 11 [Rq a, Rq b] o = .ok (Rq (a / b)) o := by
  have hn : (a.den : Int) * b.num ≠ 0 := Int.mul_ne_zero (den_ne a) (by rw [Ne, Rat.num_eq_zero]; exact h0)
  rw [sem_succ f__law_over rfl]
  simp only [f__law_over, b__law_over, runBody, denSs, denS.eq_1, denS.eq_2, denS.eq_3, denS.eq_4, denS.eq_5, denS.eq_6, denS.eq_7, denS.eq_8, denS.eq_9, denS.eq_10, denS.eq_13, denS.eq_14, denS.eq_15, denS.eq_16, denS.eq_17, d_for, d_whl, den.eq_1, den.eq_2, den.eq_3, den.eq_4, den.eq_5, den.eq_6, den.eq_7, den.eq_8, den.eq_9, den.eq_10, den.eq_11, den.eq_12, den.eq_13, den.eq_14, den.eq_15, den.eq_16, den.eq_17, den.eq_18, den.eq_19, den.eq_20, den.eq_21, den.eq_23, den.eq_24, den.eq_25, den.eq_26, den.eq_27, d_comp, denT, denEs, denEO, denC, denI, bind_ok, of_some, look_0, look_s, List.length_cons, List.length_nil, List.map_cons, List.map_nil, List.replicate, List.cons_append, List.nil_append, if_true, dCmp, drf, dTru, dBi, dBin, dNeg, bindT, List.set_cons_zero, List.set_cons_succ, Option.map_some, rq_0, rq_1, Nat.reduceAdd, Nat.reduceSub, mul_ok (num_lt ha) (den_lt hb) (by omega), mul_ok (den_lt ha) (num_lt hb) (by omega), s_q hn (pow_mono (gcd_lt hn (mul_lt (den_lt ha) (num_lt hb))) h), q_div]
theorem lsum_loop {y : Nat} {p : Option D} : ∀ (l : List Rat) (a : Rat) (x : Nat) (z : Option D), Sz x a → (∀ b ∈ l, Sz y b) → x + l.length * (y + 1) + y < 1000000 → y + y ≤ 9000 →
    ∃ z', forLoop (forG (sem G fns (k + 2)) G (.one 2) (.cons (.asg (.one 1) (.call 38 (.cons (.var 1) (.cons (.var 2) .nil)))) .nil)) (l.map Rq) [p, some (Rq a), z] o = .ok (.nx [p, some (Rq (sumQ l a)), z']) o
  | [], a, x, z, _, _, _, _ => ⟨z, rfl⟩
  | b :: l, a, x, z, ha, hb, h1, h2 => by
    have hl : (b :: l).length * (y + 1) = l.length * (y + 1) + (y + 1) := by rw [List.length_cons]; grind
    obtain ⟨z', e⟩ := lsum_loop l (a + b) (x + y + 1) (some (Rq b)) (sz_add ha (hb b List.mem_cons_self)) (fun c hc => hb c (List.mem_cons_of_mem _ hc)) (by omega) h2
    refine ⟨z', ?_⟩
    rw [List.map_cons, forLoop]
    simp only [forG, runBody, denSs, denS.eq_1, denS.eq_2, denS.eq_3, denS.eq_4, denS.eq_5, denS.eq_6, denS.eq_7, denS.eq_8, denS.eq_9, denS.eq_10, denS.eq_13, denS.eq_14, denS.eq_15, denS.eq_16, denS.eq_17, d_for, d_whl, den.eq_1, den.eq_2, den.eq_3, den.eq_4, den.eq_5, den.eq_6, den.eq_7, den.eq_8, den.eq_9, den.eq_10, den.eq_11, den.eq_12, den.eq_13, den.eq_14, den.eq_15, den.eq_16, den.eq_17, den.eq_18, den.eq_19, den.eq_20, den.eq_21, den.eq_23, den.eq_24, den.eq_25, den.eq_26, den.eq_27, d_comp, denT, denEs, denEO, denC, denI, bind_ok, of_some, look_0, look_s, List.length_cons, List.length_nil, List.map_cons, List.map_nil, List.replicate, List.cons_append, List.nil_append, if_true, dCmp, drf, dTru, dBi, dBin, dNeg, bindT, List.set_cons_zero, List.set_cons_succ, Option.map_some, rq_0, rq_1, Nat.reduceAdd, Nat.reduceSub, s_law_plus ha (hb b List.mem_cons_self) (by omega) (gcd_add (hb b List.mem_cons_self) h2)]
    exact e
theorem s_law_sum {y : Nat} (l : List Rat) (hb : ∀ b ∈ l, Sz y b) (h1 : 1 + l.length * (y + 1) + y < 1000000) (h2 : y + y ≤ 9000) : sem G fns (k + 3) 37 [.lst (l.map Rq)] o = .ok (Rq (sumQ l 0)) o := by
  rw [sem_succ f__law_sum rfl]
  have h0 : Sz 1 (0 : Rat) := ⟨by decide, by decide⟩
  obtain ⟨z', e⟩ := lsum_loop (G := G) (o := o) (k := k) (p := some (.lst (l.map Rq))) l 0 1 none h0 hb h1 h2
  simp only [f__law_sum, b__law_sum, runBody, denSs, denS.eq_1, denS.eq_2, denS.eq_3, denS.eq_4, denS.eq_5, denS.eq_6, denS.eq_7, denS.eq_8, denS.eq_9, denS.eq_10, denS.eq_13, denS.eq_14, denS.eq_15, denS.eq_16, denS.eq_17, d_for, d_whl, den.eq_1, den.eq_2, den.eq_3, den.eq_4, den.eq_5, den.eq_6, den.eq_7, den.eq_8, den.eq_9, den.eq_10, den.eq_11, den.eq_12, den.eq_13, den.eq_14, den.eq_15, den.eq_16, den.eq_17, den.eq_18, den.eq_19, den.eq_20, den.eq_21, den.eq_23, den.eq_24, den.eq_25, den.eq_26, den.eq_27, d_comp, denT, denEs, denEO, denC, denI, bind_ok, of_some, look_0, look_s, List.length_cons, List.length_nil, List.map_cons, List.map_nil, List.replicate, List.cons_append, List.nil_append, if_true, dCmp, drf, dTru, dBi, dBin, dNeg, bindT, List.set_cons_zero, List.set_cons_succ, Option.map_some, rq_0, rq_1, Nat.reduceAdd, Nat.reduceSub, dSeq, zero_q]
  rw [e]
  simp only [runBody, denSs, denS.eq_1, denS.eq_2, denS.eq_3, denS.eq_4, denS.eq_5, denS.eq_6, denS.eq_7, denS.eq_8, denS.eq_9, denS.eq_10, denS.eq_13, denS.eq_14, denS.eq_15, denS.eq_16, denS.eq_17, d_for, d_whl, den.eq_1, den.eq_2, den.eq_3, den.eq_4, den.eq_5, den.eq_6, den.eq_7, den.eq_8, den.eq_9, den.eq_10, den.eq_11, den.eq_12, den.eq_13, den.eq_14, den.eq_15, den.eq_16, den.eq_17, den.eq_18, den.eq_19, den.eq_20, den.eq_21, den.eq_23, den.eq_24, den.eq_25, den.eq_26, den.eq_27, d_comp, denT, denEs, denEO, denC, denI, bind_ok, of_some, look_0, look_s, List.length_cons, List.length_nil, List.map_cons, List.map_nil, List.replicate, List.cons_append, List.nil_append, if_true, dCmp, drf, dTru, dBi, dBin, dNeg, bindT, List.set_cons_zero, List.set_cons_succ, Option.map_some, rq_0, rq_1, Nat.reduceAdd, Nat.reduceSub]
theorem s_law_dot {x y : Nat} (a b : List Rat) (ha : ∀ c ∈ a, Sz x c) (hb : ∀ c ∈ b, Sz y c) (h : 1 + (a.zip b).length * (x + y + 1) + (x + y) < 1000000) (h2 : (x + y) + (x + y) ≤ 9000) {u v : D} (hu : dLs u = some (a.map Rq)) (hv : dLs v = some (b.map Rq)) :
    sem G fns (k + 4) 36 [u, v] o = .ok (Rq (sumQ ((a.zip b).map fun p => p.1 * p.2) 0)) o := by
  rw [sem_succ f__law_dot rfl]
  simp only [f__law_dot, b__law_dot, runBody, denSs, denS.eq_1, denS.eq_2, denS.eq_3, denS.eq_4, denS.eq_5, denS.eq_6, denS.eq_7, denS.eq_8, denS.eq_9, denS.eq_10, denS.eq_13, denS.eq_14, denS.eq_15, denS.eq_16, denS.eq_17, d_for, d_whl, den.eq_1, den.eq_2, den.eq_3, den.eq_4, den.eq_5, den.eq_6, den.eq_7, den.eq_8, den.eq_9, den.eq_10, den.eq_11, den.eq_12, den.eq_13, den.eq_14, den.eq_15, den.eq_16, den.eq_17, den.eq_18, den.eq_19, den.eq_20, den.eq_21, den.eq_23, den.eq_24, den.eq_25, den.eq_26, den.eq_27, d_comp, denT, denEs, denEO, denC, denI, bind_ok, of_some, look_0, look_s, List.length_cons, List.length_nil, List.map_cons, List.map_nil, List.replicate, List.cons_append, List.nil_append, if_true, dCmp, drf, dTru, dBi, dBin, dNeg, bindT, List.set_cons_zero, List.set_cons_succ, Option.map_some, rq_0, rq_1, Nat.reduceAdd, Nat.reduceSub, hu, hv]
  rw [zip_map2 a b, comp_map (g := fun p : Rat × Rat => Rq (p.1 * p.2)) (a.zip b) fun p hp => ?_]
  · simp only [runBody, denSs, denS.eq_1, denS.eq_2, denS.eq_3, denS.eq_4, denS.eq_5, denS.eq_6, denS.eq_7, denS.eq_8, denS.eq_9, denS.eq_10, denS.eq_13, denS.eq_14, denS.eq_15, denS.eq_16, denS.eq_17, d_for, d_whl, den.eq_1, den.eq_2, den.eq_3, den.eq_4, den.eq_5, den.eq_6, den.eq_7, den.eq_8, den.eq_9, den.eq_10, den.eq_11, den.eq_12, den.eq_13, den.eq_14, den.eq_15, den.eq_16, den.eq_17, den.eq_18, den.eq_19, den.eq_20, den.eq_21, den.eq_23, den.eq_24, den.eq_25, den.eq_26, den.eq_27, d_comp, denT, denEs, denEO, denC, denI, bind_ok, of_some, look_0, look_s, List.length_cons, List.length_nil, List.map_cons, List.map_nil, List.replicate, List.cons_append, List.nil_append, if_true, dCmp, drf, dTru, dBi, dBin, dNeg, bindT, List.set_cons_zero, List.set_cons_succ, Option.map_some, rq_0, rq_1, Nat.reduceAdd, Nat.reduceSub]
    rw [show ((a.zip b).map fun p : Rat × Rat => Rq (p.1 * p.2)) = ((a.zip b).map fun p => p.1 * p.2).map Rq by rw [List.map_map]; rfl, s_law_sum (y := x + y) _ (fun c hc => ?_) (by rw [List.length_map]; exact h) h2]
    · simp only [runBody, denSs, denS.eq_1, denS.eq_2, denS.eq_3, denS.eq_4, denS.eq_5, denS.eq_6, denS.eq_7, denS.eq_8, denS.eq_9, denS.eq_10, denS.eq_13, denS.eq_14, denS.eq_15, denS.eq_16, denS.eq_17, d_for, d_whl, den.eq_1, den.eq_2, den.eq_3, den.eq_4, den.eq_5, den.eq_6, den.eq_7, den.eq_8, den.eq_9, den.eq_10, den.eq_11, den.eq_12, den.eq_13, den.eq_14, den.eq_15, den.eq_16, den.eq_17, den.eq_18, den.eq_19, den.eq_20, den.eq_21, den.eq_23, den.eq_24, den.eq_25, den.eq_26, den.eq_27, d_comp, denT, denEs, denEO, denC, denI, bind_ok, of_some, look_0, look_s, List.length_cons, List.length_nil, List.map_cons, List.map_nil, List.replicate, List.cons_append, List.nil_append, if_true, dCmp, drf, dTru, dBi, dBin, dNeg, bindT, List.set_cons_zero, List.set_cons_succ, Option.map_some, rq_0, rq_1, Nat.reduceAdd, Nat.reduceSub]
    · obtain ⟨p, hp, rfl⟩ := List.mem_map.mp hc
      obtain ⟨p1, p2⟩ := p
      exact sz_mul (ha _ (List.of_mem_zip hp).1) (hb _ (List.of_mem_zip hp).2)
  · obtain ⟨p1, p2⟩ := p
    simp only [compG, Ev.T.own, wipeE, setAll, runBody, denSs, denS.eq_1, denS.eq_2, denS.eq_3, denS.eq_4, denS.eq_5, denS.eq_6, denS.eq_7, denS.eq_8, denS.eq_9, denS.eq_10, denS.eq_13, denS.eq_14, denS.eq_15, denS.eq_16, denS.eq_17, d_for, d_whl, den.eq_1, den.eq_2, den.eq_3, den.eq_4, den.eq_5, den.eq_6, den.eq_7, den.eq_8, den.eq_9, den.eq_10, den.eq_11, den.eq_12, den.eq_13, den.eq_14, den.eq_15, den.eq_16, den.eq_17, den.eq_18, den.eq_19, den.eq_20, den.eq_21, den.eq_23, den.eq_24, den.eq_25, den.eq_26, den.eq_27, d_comp, denT, denEs, denEO, denC, denI, bind_ok, of_some, look_0, look_s, List.length_cons, List.length_nil, List.map_cons, List.map_nil, List.replicate, List.cons_append, List.nil_append, if_true, dCmp, drf, dTru, dBi, dBin, dNeg, bindT, List.set_cons_zero, List.set_cons_succ, Option.map_some, rq_0, rq_1, Nat.reduceAdd, Nat.reduceSub, s_law_times (ha _ (List.of_mem_zip hp).1) (hb _ (List.of_mem_zip hp).2) (by omega)]
    rfl
end K60

namespace K60
open PySem Ev
variable {F : Fs} {G : Gs} {o : Os} {k : Nat}
/-- the state of the draws -/
structure DS where
  great : List Int
  cells : List Int
  rest : Int
  turn : Int
def kG : L2.Key := .inr "great"
def kC : L2.Key := .inr "cells"
def kR : L2.Key := .inr "rest"
def kT : L2.Key := .inr "turn"
def Dr (s : DS) : Os := [.lst (s.great.map .int), .dic [(kG, .ref 0), (kC, .lst (s.cells.map .int)), (kR, .int s.rest), (kT, .int s.turn)]]
theorem gc : ¬ (kG = kC) := by decide +kernel
theorem gr : ¬ (kG = kR) := by decide +kernel
theorem gt : ¬ (kG = kT) := by decide +kernel
theorem cr : ¬ (kC = kR) := by decide +kernel
theorem ct : ¬ (kC = kT) := by decide +kernel
theorem rt : ¬ (kR = kT) := by decide +kernel
theorem ix_great (s : DS) : dIdx (.ref 1) (.str "great") (Dr s) = some (.ref 0) := by
  show findK [(kG, D.ref 0), (kC, .lst (s.cells.map .int)), (kR, .int s.rest), (kT, .int s.turn)] kG = _
  simp only [findK, List.find?_cons, decide_true, Option.map_some]
theorem ix_cells (s : DS) : dIdx (.ref 1) (.str "cells") (Dr s) = some (.lst (s.cells.map .int)) := by
  show findK [(kG, D.ref 0), (kC, .lst (s.cells.map .int)), (kR, .int s.rest), (kT, .int s.turn)] kC = _
  simp only [findK, List.find?_cons, gc, decide_true, decide_false, Option.map_some]
theorem ix_rest (s : DS) : dIdx (.ref 1) (.str "rest") (Dr s) = some (.int s.rest) := by
  show findK [(kG, D.ref 0), (kC, .lst (s.cells.map .int)), (kR, .int s.rest), (kT, .int s.turn)] kR = _
  simp only [findK, List.find?_cons, gr, cr, decide_true, decide_false, Option.map_some]
theorem ix_turn (s : DS) : dIdx (.ref 1) (.str "turn") (Dr s) = some (.int s.turn) := by
  show findK [(kG, D.ref 0), (kC, .lst (s.cells.map .int)), (kR, .int s.rest), (kT, .int s.turn)] kT = _
  simp only [findK, List.find?_cons, gt, ct, rt, decide_true, decide_false, Option.map_some]
theorem pu_rest (s : DS) (i : Int) : putK [(kG, D.ref 0), (kC, .lst (s.cells.map .int)), (kR, .int s.rest), (kT, .int s.turn)] (.inr "rest") (.int i) = [(kG, D.ref 0), (kC, .lst (s.cells.map .int)), (kR, .int i), (kT, .int s.turn)] := by
  show putK _ kR _ = _
  simp only [putK, List.any_cons, List.any_nil, gr, cr, decide_true, decide_false, List.map_cons, List.map_nil, if_true, if_false, Bool.or_true, Bool.true_or, Bool.false_or, Ne.symm (a := kR) rt]
theorem pu_turn (s : DS) (i : Int) : putK [(kG, D.ref 0), (kC, .lst (s.cells.map .int)), (kR, .int s.rest), (kT, .int s.turn)] (.inr "turn") (.int i) = [(kG, D.ref 0), (kC, .lst (s.cells.map .int)), (kR, .int s.rest), (kT, .int i)] := by
  show putK _ kT _ = _
  simp only [putK, List.any_cons, List.any_nil, gt, ct, rt, decide_true, decide_false, List.map_cons, List.map_nil, if_true, if_false, Bool.or_true, Bool.true_or, Bool.false_or]

theorem set_rest (s : DS) (i : Int) (m kx e : Ev.E) {ρ : Ev.Env} {oo : Os} (he : den F G e ρ oo = .ok (.int i) (Dr s)) (hm : den F G m ρ (Dr s) = .ok (.ref 1) (Dr s)) : denS F G (.dst m (.str "rest") e) ρ oo = .ok (.nx ρ) (Dr { s with rest := i }) := by
  rw [denS.eq_5, he, bind_ok, hm, bind_ok, den.eq_2, bind_ok]
  simp only [Dr, List.getElem?_cons_succ, List.getElem?_cons_zero, pu_rest, List.length_cons, List.length_nil, List.set_cons_succ, List.set_cons_zero]
  rfl
theorem set_turn (s : DS) (i : Int) (m kx e : Ev.E) {ρ : Ev.Env} {oo : Os} (he : den F G e ρ oo = .ok (.int i) (Dr s)) (hm : den F G m ρ (Dr s) = .ok (.ref 1) (Dr s)) : denS F G (.dst m (.str "turn") e) ρ oo = .ok (.nx ρ) (Dr { s with turn := i }) := by
  rw [denS.eq_5, he, bind_ok, hm, bind_ok, den.eq_2, bind_ok]
  simp only [Dr, List.getElem?_cons_succ, List.getElem?_cons_zero, pu_turn, List.length_cons, List.length_nil, List.set_cons_succ, List.set_cons_zero]
  rfl

def blend1 (p : Int) (cells : List Int) (t : Int) (b : Int) : Int := cells.foldl (fun b c => (b * 69621 + c + t).fmod p) b
theorem mul_num {x : Int} {b : Nat} {n : Nat} (h : x.natAbs < 2 ^ b) (hb : b < 900000) (hn : n < 2 ^ 64) : mulOk x n = true := mul_ok (b := 64) h (by rw [Int.natAbs_natCast]; exact hn) (by omega)
theorem fmod_pos {x p : Int} (hp : 0 < p) : 0 ≤ x.fmod p ∧ x.fmod p < p := ⟨Int.fmod_nonneg_of_pos _ hp, Int.fmod_lt_of_pos _ hp⟩
theorem nat_lt {x : Int} {b : Nat} (h0 : 0 ≤ x) (h : x < 2 ^ b) : x.natAbs < 2 ^ b := by
  have : ((x.natAbs : Nat) : Int) < ((2 ^ b : Nat) : Int) := by rw [Int.natAbs_of_nonneg h0]; exact_mod_cast h
  exact_mod_cast this
theorem blend_loop {p t : Int} {z0 z3 : Option D} (hp : 0 < p) (hp2 : p < 2 ^ 32) : ∀ (l : List Int) (b : Int) (n : Nat) (z5 : Option D), b.natAbs < 2 ^ n → 32 ≤ n → n < 900000 →
    ∃ z5', forLoop (forG F G (.one 5) (.cons (.asg (.one 4) (.bin .mod (.bi .int (.cons (.bin .add (.bin .add (.bin .mul (.var 4) (.int 69621)) (.var 5)) (.var 2)) .nil)) (.var 1))) .nil)) (l.map .int) [z0, some (.int p), some (.int t), z3, some (.int b), z5] o = .ok (.nx [z0, some (.int p), some (.int t), z3, some (.int (blend1 p l t b)), z5']) o
  | [], b, n, z5, _, _, _ => ⟨z5, rfl⟩
  | c :: l, b, n, z5, hb, h1, h2 => by
    have hm := fmod_pos (x := b * 69621 + c + t) hp
    obtain ⟨z5', e⟩ := blend_loop hp hp2 l ((b * 69621 + c + t).fmod p) n (some (.int c)) (pow_mono (nat_lt (b := 32) hm.1 (Int.lt_trans hm.2 (by exact_mod_cast hp2))) h1) h1 h2
    refine ⟨z5', ?_⟩
    have hpn : p ≠ 0 := by omega
    have hmul := mul_num (n := 69621) hb h2 (by decide)
    rw [List.map_cons, forLoop]
    simp only [forG, runBody, denSs, denS.eq_1, denS.eq_2, denS.eq_3, denS.eq_4, denS.eq_5, denS.eq_6, denS.eq_7, denS.eq_8, denS.eq_9, denS.eq_10, denS.eq_13, denS.eq_14, denS.eq_15, denS.eq_16, denS.eq_17, d_for, d_whl, den.eq_1, den.eq_2, den.eq_3, den.eq_4, den.eq_5, den.eq_6, den.eq_7, den.eq_8, den.eq_9, den.eq_10, den.eq_11, den.eq_12, den.eq_13, den.eq_14, den.eq_15, den.eq_16, den.eq_17, den.eq_18, den.eq_19, den.eq_20, den.eq_21, den.eq_23, den.eq_24, den.eq_25, den.eq_26, den.eq_27, d_comp, denT, denEs, denEO, denC, denI, bind_ok, of_some, look_0, look_s, List.length_cons, List.length_nil, List.map_cons, List.map_nil, List.replicate, List.cons_append, List.nil_append, if_true, dCmp, drf, dTru, dBi, dBin, dNeg, bindT, List.set_cons_zero, List.set_cons_succ, Option.map_some, rq_0, rq_1, Nat.reduceAdd, Nat.reduceSub, show mulOk b 69621 = true from hmul, if_pos hpn]
    exact e
end K60

namespace K60
open PySem Ev
variable {F : Fs} {G : Gs} {o : Os} {k : Nat}
def pbl (p : Int) (cells : List Int) (t : Int) : Int := blend1 p cells t (48271 * t + p.fdiv 53)
def pstep (p : Int) (cells : List Int) (t f : Int) : Int := f * 2147483647 + (pbl p cells t ^ 5).fmod p
def blendV (cells : List Int) (t : Int) : Int := pstep 2147483563 cells t (pstep 2147483629 cells t (pstep 2147483579 cells t 0))
theorem blend_sz {p t : Int} (hp : 0 < p) (hp2 : p < 2 ^ 32) : ∀ (l : List Int) (b : Int) (n : Nat), b.natAbs < 2 ^ n → 32 ≤ n → (blend1 p l t b).natAbs < 2 ^ n
  | [], b, n, hb, _ => hb
  | c :: l, b, n, hb, h1 => by
    have hm := fmod_pos (x := b * 69621 + c + t) hp
    exact blend_sz hp hp2 l _ n (pow_mono (nat_lt (b := 32) hm.1 (Int.lt_trans hm.2 (by exact_mod_cast hp2))) h1) h1
theorem pow5_ok {b : Int} {n : Nat} (hb : b.natAbs < 2 ^ n) (hn : n < 1000000) : powOk b 5 = true := by
  unfold powOk Builtin.Int.intBits
  rw [Bool.and_eq_true]
  refine ⟨by decide, decide_eq_true ?_⟩
  have := log2_le hb
  split
  · decide
  · push_cast
    omega
def bodyP : Ev.Ss := (.cons (.asg (.one 4) (.bin .add (.bin .mul (.int 48271) (.var 2)) (.bin .fdiv (.var 1) (.int 53)))) (.cons (.for (.one 5) (.seq (.idx (.var 0) (.str "cells"))) (.cons (.asg (.one 4) (.bin .mod (.bi .int (.cons (.bin .add (.bin .add (.bin .mul (.var 4) (.int 69621)) (.var 5)) (.var 2)) .nil)) (.var 1))) .nil)) (.cons (.asg (.one 3) (.bin .add (.bin .mul (.var 3) (.int 2147483647)) (.bin .mod (.bi .int (.cons (.bin .pow (.var 4) (.int 5)) .nil)) (.var 1)))) .nil)))

theorem prime_step {p t f : Int} {s : DS} {n : Nat} {z1 z4 z5 : Option D} (hp : 0 < p) (hp2 : p < 2 ^ 32) (ht : t.natAbs < 2 ^ n) (hn : 64 ≤ n) (hn2 : n + 40 < 900000) (hf : f.natAbs < 2 ^ 200) :
    ∃ z4' z5', forG F G (.one 1) bodyP (.int p) [some (.ref 1), z1, some (.int t), some (.int f), z4, z5] (Dr s) = .ok (.nx [some (.ref 1), some (.int p), some (.int t), some (.int (pstep p s.cells t f)), z4', z5']) (Dr s) := by
  have hb : (48271 * t + p.fdiv 53).natAbs < 2 ^ (n + 20) := by
    have h1 : (48271 * t).natAbs < 2 ^ (16 + n) := mul_lt (by decide) ht
    have h2 : (p.fdiv 53).natAbs < 2 ^ (16 + n) := by
      refine pow_mono (a := 32) ?_ (by omega)
      rw [Int.fdiv_eq_ediv_of_nonneg _ (show (0 : Int) ≤ _ by decide)]
      omega
    exact pow_mono (add_lt h1 h2) (by omega)
  obtain ⟨z5', e⟩ := blend_loop (F := F) (G := G) (o := Dr s) (t := t) (z0 := some (.ref 1)) (z3 := some (.int f)) hp hp2 s.cells (48271 * t + p.fdiv 53) (n + 20) z5 hb (by omega) (by omega)
  have hsz := blend_sz (t := t) hp hp2 s.cells (48271 * t + p.fdiv 53) (n + 20) hb (by omega)
  have m1 : mulOk 48271 t = true := mul_ok (a := 16) (by decide) ht (by omega)
  have m2 : mulOk f 2147483647 = true := mul_ok (b := 31) hf (by decide) (by decide)
  have m3 : divOk 53 = true := by decide
  have m4 := pow5_ok hsz (by omega)
  have hpn : p ≠ 0 := by omega
  refine ⟨some (.int (blend1 p s.cells t (48271 * t + p.fdiv 53))), z5', ?_⟩
  simp only [forG, bodyP, runBody, denSs, denS.eq_1, denS.eq_2, denS.eq_3, denS.eq_4, denS.eq_5, denS.eq_6, denS.eq_7, denS.eq_8, denS.eq_9, denS.eq_10, denS.eq_13, denS.eq_14, denS.eq_15, denS.eq_16, denS.eq_17, d_for, d_whl, den.eq_1, den.eq_2, den.eq_3, den.eq_4, den.eq_5, den.eq_6, den.eq_7, den.eq_8, den.eq_9, den.eq_10, den.eq_11, den.eq_12, den.eq_13, den.eq_14, den.eq_15, den.eq_16, den.eq_17, den.eq_18, den.eq_19, den.eq_20, den.eq_21, den.eq_23, den.eq_24, den.eq_25, den.eq_26, den.eq_27, d_comp, denT, denEs, denEO, denC, denI, bind_ok, of_some, look_0, look_s, List.length_cons, List.length_nil, List.map_cons, List.map_nil, List.replicate, List.cons_append, List.nil_append, if_true, dCmp, drf, dTru, dBi, dBin, dNeg, bindT, List.set_cons_zero, List.set_cons_succ, Option.map_some, rq_0, rq_1, Nat.reduceAdd, Nat.reduceSub, m1, m2, m3, ix_cells, dSeq, List.getD_eq_getElem?_getD]
  rw [e]
  simp only [runBody, denSs, denS.eq_1, denS.eq_2, denS.eq_3, denS.eq_4, denS.eq_5, denS.eq_6, denS.eq_7, denS.eq_8, denS.eq_9, denS.eq_10, denS.eq_13, denS.eq_14, denS.eq_15, denS.eq_16, denS.eq_17, d_for, d_whl, den.eq_1, den.eq_2, den.eq_3, den.eq_4, den.eq_5, den.eq_6, den.eq_7, den.eq_8, den.eq_9, den.eq_10, den.eq_11, den.eq_12, den.eq_13, den.eq_14, den.eq_15, den.eq_16, den.eq_17, den.eq_18, den.eq_19, den.eq_20, den.eq_21, den.eq_23, den.eq_24, den.eq_25, den.eq_26, den.eq_27, d_comp, denT, denEs, denEO, denC, denI, bind_ok, of_some, look_0, look_s, List.length_cons, List.length_nil, List.map_cons, List.map_nil, List.replicate, List.cons_append, List.nil_append, if_true, dCmp, drf, dTru, dBi, dBin, dNeg, bindT, List.set_cons_zero, List.set_cons_succ, Option.map_some, rq_0, rq_1, Nat.reduceAdd, Nat.reduceSub, m2, show powOk (blend1 p s.cells t (48271 * t + p.fdiv 53)) 5 = true from m4, if_pos hpn]
  rfl
theorem s_blended {s : DS} {n : Nat} (ht : (s.turn + 1).natAbs < 2 ^ n) (hn : 64 ≤ n) (hn2 : n + 40 < 900000) : sem G fns (k + 1) 5 [.ref 1] (Dr s) = .ok (.int (blendV s.cells (s.turn + 1))) (Dr { s with turn := s.turn + 1 }) := by
  have hst : ∀ (p f : Int) (b : Nat), 0 < p → p < 2 ^ 32 → f.natAbs < 2 ^ b → (pstep p s.cells (s.turn + 1) f).natAbs < 2 ^ (b + 40) := fun p f b hp hp2 hf => by
    have hm := fmod_pos (x := pbl p s.cells (s.turn + 1) ^ 5) hp
    unfold pstep
    refine pow_mono (add_lt (a := b + 32) (pow_mono (mul_lt hf (j := 2147483647) (b := 31) (by decide)) (by omega)) ?_) (by omega)
    exact pow_mono (nat_lt (b := 32) hm.1 (Int.lt_trans hm.2 (by exact_mod_cast hp2))) (by omega)
  obtain ⟨a4, a5, e1⟩ := prime_step (F := sem G fns k) (G := G) (s := { s with turn := s.turn + 1 }) (p := 2147483579) (t := s.turn + 1) (f := 0) (z1 := none) (z4 := none) (z5 := none) (by decide) (by decide) ht hn hn2 (by decide)
  have f1 := hst 2147483579 0 1 (by decide) (by decide) (by decide)
  obtain ⟨b4, b5, e2⟩ := prime_step (F := sem G fns k) (G := G) (s := { s with turn := s.turn + 1 }) (p := 2147483629) (t := s.turn + 1) (f := pstep 2147483579 s.cells (s.turn + 1) 0) (z1 := some (.int 2147483579)) (z4 := a4) (z5 := a5) (by decide) (by decide) ht hn hn2 (pow_mono f1 (by decide))
  have f2 := hst 2147483629 _ _ (by decide) (by decide) f1
  obtain ⟨c4, c5, e3⟩ := prime_step (F := sem G fns k) (G := G) (s := { s with turn := s.turn + 1 }) (p := 2147483563) (t := s.turn + 1) (f := pstep 2147483629 s.cells (s.turn + 1) (pstep 2147483579 s.cells (s.turn + 1) 0)) (z1 := some (.int 2147483629)) (z4 := b4) (z5 := b5) (by decide) (by decide) ht hn hn2 (pow_mono f2 (by decide))
  rw [sem_succ f__law_blended rfl]
  have hset := set_turn (F := sem G fns k) (G := G) s (s.turn + 1) (.var 0) (.non) (.var 2) (ρ := [some (.ref 1), none, some (.int (s.turn + 1)), some (.int 0), none, none]) (oo := Dr s) rfl rfl
  have hb : b__law_blended = .cons (.par 2 3 (.bin .add (.idx (.var 0) (.str "turn")) (.int 1)) (.int 0)) (.cons (.dst (.var 0) (.str "turn") (.var 2)) (.cons (.for (.one 1) (.seq (.lst (.cons (.int 2147483579) (.cons (.int 2147483629) (.cons (.int 2147483563) .nil))))) bodyP) (.cons (.ret (.var 3)) .nil))) := rfl
  have hl : forLoop (forG (sem G fns k) G (.one 1) bodyP) [.int 2147483579, .int 2147483629, .int 2147483563] [some (.ref 1), none, some (.int (s.turn + 1)), some (.int 0), none, none] (Dr { s with turn := s.turn + 1 }) = .ok (.nx [some (.ref 1), some (.int 2147483563), some (.int (s.turn + 1)), some (.int (blendV s.cells (s.turn + 1))), c4, c5]) (Dr { s with turn := s.turn + 1 }) := by
    simp only [forLoop, e1, e2, e3, bind_ok]
    rfl
  unfold f__law_blended
  rw [hb]
  simp only [runBody, denSs, denS.eq_2, denS.eq_13, den.eq_1, den.eq_2, den.eq_5, den.eq_9, den.eq_20, bind_ok, of_some, look_0, look_s, List.length_cons, List.length_nil, List.map_cons, List.map_nil, List.replicate, List.cons_append, List.nil_append, if_true, dBin, List.set_cons_zero, List.set_cons_succ, Nat.reduceAdd, Nat.reduceSub, ix_turn]
  rw [hset]
  simp only [bind_ok, d_for, denI, den.eq_8, denEs, den.eq_1, of_some, dSeq]
  rw [hl]
  simp only [bind_ok, of_some, look_0, look_s]
end K60

namespace K60
open PySem Ev
variable {F : Fs} {G : Gs} {o : Os} {k : Nat}
/-- fresh when nothing is left -/
def DS.fill (s : DS) : DS := if s.rest = 0 then (match s.great with
  | g :: gs => { s with great := gs, rest := g }
  | [] => { s with rest := blendV s.cells (s.turn + 1), turn := s.turn + 1 }) else s
def DS.got (s : DS) (room : Int) : Int := s.fill.rest.fmod room
def DS.nxt (s : DS) (room : Int) : DS := { s.fill with rest := s.fill.rest.fdiv room }
theorem great_ne (l : List Int) : dCmp .ne (.lst (l.map .int)) (.lst []) = some (!l.isEmpty) := by
  have h1 : pl 1 (.lst (l.map .int)) = true := pls_map (n := 0) (f := D.int) fun a _ => rfl
  have h2 : pl 1 (.lst []) = true := rfl
  unfold dCmp
  simp only
  rw [deq_dec h1 h2 (by decide) (by decide)]
  cases l with
  | nil => simp
  | cons a l => simp
theorem eq_int (i j : Int) : dCmp .eq (.int i) (.int j) = some (decide (i = j)) := by
  unfold dCmp
  simp only
  rw [deq_dec (n := 0) (m := 0) rfl rfl (by decide) (by decide)]
  simp
theorem ne_int (i j : Int) : dCmp .ne (.int i) (.int j) = some (!decide (i = j)) := by
  unfold dCmp
  simp only
  rw [deq_dec (n := 0) (m := 0) rfl rfl (by decide) (by decide)]
  simp
def fillS : Ev.S := .ite (.cmp .eq (.idx (.var 0) (.str "rest")) (.int 0)) (.cons (.dst (.var 0) (.str "rest") (.ite (.cmp .ne (.idx (.var 0) (.str "great")) (.lst .nil)) (.hpop (.idx (.var 0) (.str "great"))) (.call 5 (.cons (.var 0) .nil)))) .nil) .nil
theorem DS.eta (s : DS) : (⟨s.great, s.cells, s.rest, s.turn⟩ : DS) = s := rfl

theorem fill_ok {s : DS} {n : Nat} (ht : (s.turn + 1).natAbs < 2 ^ n) (hn : 64 ≤ n) (hn2 : n + 40 < 900000) {r z : Option D} : denS (sem G fns (k + 1)) G fillS [some (.ref 1), r, z] (Dr s) = .ok (.nx [some (.ref 1), r, z]) (Dr s.fill) := by
  unfold fillS
  rw [denS.eq_10]
  by_cases h0 : s.rest = 0
  · have e0 : denT (sem G fns (k + 1)) G (.cmp .eq (.idx (.var 0) (.str "rest")) (.int 0)) [some (.ref 1), r, z] (Dr s) = .ok true (Dr s) := by
      simp only [denT, den.eq_1, den.eq_2, den.eq_5, den.eq_12, den.eq_20, bind_ok, of_some, look_0, ix_rest, drf, eq_int, h0, decide_true, Option.map_some, dTru]
    rw [e0, bind_ok, if_pos rfl]
    have e1 : den (sem G fns (k + 1)) G (.ite (.cmp .ne (.idx (.var 0) (.str "great")) (.lst .nil)) (.hpop (.idx (.var 0) (.str "great"))) (.call 5 (.cons (.var 0) .nil))) [some (.ref 1), r, z] (Dr s) = .ok (.int s.fill.rest) (Dr { s.fill with rest := s.rest }) := by
      have hd : drf (Dr s) (.ref 0) = .lst (s.great.map .int) := rfl
      cases hg : s.great with
      | nil =>
        have e2 : s.fill = { s with rest := blendV s.cells (s.turn + 1), turn := s.turn + 1 } := by unfold DS.fill; rw [if_pos h0, hg]
        simp only [den.eq_16, den.eq_17, den.eq_2, den.eq_5, den.eq_8, den.eq_12, den.eq_20, denEs, bind_ok, of_some, look_0, ix_great, hd, hg, great_ne, List.isEmpty_nil, Bool.not_true, Option.map_some, dTru, Bool.false_eq_true, if_false, s_blended ht hn hn2, e2]
        rw [show drf (Dr s) (.lst []) = .lst [] from rfl, great_ne]
        simp only [List.isEmpty_nil, Bool.not_true, Option.map_some, of_some, bind_ok, dTru, Bool.false_eq_true, if_false, s_blended ht hn hn2, e2]
        simp only [hg]
      | cons g gs =>
        have e2 : s.fill = { s with great := gs, rest := g } := by unfold DS.fill; rw [if_pos h0, hg]
        have h1 : (Dr s)[0]? = some (.lst (.int g :: gs.map .int)) := by unfold Dr; rw [hg]; rfl
        simp only [den.eq_16, den.eq_2, den.eq_5, den.eq_8, den.eq_12, den.eq_20, den.eq_26, denEs, bind_ok, of_some, look_0, ix_great, hd, hg]
        rw [show drf (Dr s) (.lst []) = .lst [] from rfl, great_ne]
        simp only [List.isEmpty_cons, Bool.not_false, Option.map_some, of_some, bind_ok, dTru, if_true, e2]
        rw [ix_great, of_some, bind_ok]
        simp only [h1]
        rfl
    rw [denSs, set_rest { s.fill with rest := s.rest } s.fill.rest (.var 0) .non _ e1 rfl, bind_ok]
    rfl
  · have e0 : denT (sem G fns (k + 1)) G (.cmp .eq (.idx (.var 0) (.str "rest")) (.int 0)) [some (.ref 1), r, z] (Dr s) = .ok false (Dr s) := by
      simp only [denT, den.eq_1, den.eq_2, den.eq_5, den.eq_12, den.eq_20, bind_ok, of_some, look_0, ix_rest, drf, eq_int, h0, decide_false, Option.map_some, dTru]
    rw [e0, bind_ok, if_neg (by decide), show s.fill = s by unfold DS.fill; rw [if_neg h0]]
    rfl
theorem s_draw {s : DS} {n : Nat} {room : Int} (ht : (s.turn + 1).natAbs < 2 ^ n) (hn : 64 ≤ n) (hn2 : n + 40 < 900000) (hr : 0 < room) (hr2 : room < 2 ^ 64) : sem G fns (k + 2) 4 [.ref 1, .int room] (Dr s) = .ok (.int (s.got room)) (Dr (s.nxt room)) := by
  have hb : b__law_draw = .cons fillS (.cons (.asg (.one 2) (.bin .mod (.bi .int (.cons (.idx (.var 0) (.str "rest")) .nil)) (.var 1))) (.cons (.dst (.var 0) (.str "rest") (.bin .fdiv (.idx (.var 0) (.str "rest")) (.var 1))) (.cons (.ret (.var 2)) .nil))) := rfl
  have hdv : divOk room = true := div_ok (b := 64) (by omega) (nat_lt (by omega) (by exact_mod_cast hr2)) (by decide)
  have hrn : room ≠ 0 := by omega
  rw [sem_succ f__law_draw rfl]
  unfold f__law_draw
  rw [hb]
  simp only [runBody, List.length_cons, List.length_nil, List.map_cons, List.map_nil, List.replicate, List.cons_append, List.nil_append, if_true, Nat.reduceAdd, Nat.reduceSub, denSs, fill_ok ht hn hn2, bind_ok]
  have hset := set_rest (F := sem G fns (k + 1)) (G := G) s.fill (s.fill.rest.fdiv room) (.var 0) .non (.bin .fdiv (.idx (.var 0) (.str "rest")) (.var 1)) (ρ := [some (.ref 1), some (.int room), some (.int (s.got room))]) (oo := Dr s.fill) (by
    simp only [den.eq_2, den.eq_5, den.eq_9, den.eq_20, bind_ok, of_some, look_0, look_s, ix_rest, dBin, hdv, if_true]) rfl
  have hasg : denS (sem G fns (k + 1)) G (.asg (.one 2) (.bin .mod (.bi .int (.cons (.idx (.var 0) (.str "rest")) .nil)) (.var 1))) [some (.ref 1), some (.int room), none] (Dr s.fill) = .ok (.nx [some (.ref 1), some (.int room), some (.int (s.got room))]) (Dr s.fill) := by
    simp only [denS.eq_1, den.eq_2, den.eq_5, den.eq_9, den.eq_18, den.eq_20, denEs, bind_ok, of_some, look_0, look_s, ix_rest, dBi, dBin, if_pos hrn, bindT, List.set_cons_succ, List.set_cons_zero]
    rfl
  rw [hasg]
  simp only [bind_ok]
  rw [hset]
  simp only [bind_ok, denS.eq_13, den.eq_5, look_0, look_s, of_some]
  rfl
theorem got_lt {s : DS} {room : Int} (hr : 0 < room) : 0 ≤ s.got room ∧ s.got room < room := fmod_pos hr
theorem s_pick {s : DS} {n : Nat} {ds : List D} (ht : (s.turn + 1).natAbs < 2 ^ n) (hn : 64 ≤ n) (hn2 : n + 40 < 900000) (hl : 0 < ds.length) (hl2 : (ds.length : Int) < 2 ^ 64) : ∃ d, ds[(s.got ds.length).toNat]? = some d ∧ sem G fns (k + 3) 6 [.ref 1, .lst ds] (Dr s) = .ok d (Dr (s.nxt ds.length)) := by
  have hg := got_lt (s := s) (room := ds.length) (by omega)
  have hlt : (s.got ds.length).toNat < ds.length := by omega
  refine ⟨ds[(s.got ds.length).toNat], List.getElem?_eq_getElem hlt, ?_⟩
  have hat : L2.atI ds (s.got ds.length) = some ds[(s.got ds.length).toNat] := by
    have hlt' : s.got ds.length < ds.length := hg.2
    simp [L2.atI, L2.ixN, hg.1, hlt', hlt]
  rw [sem_succ f__law_pick rfl]
  simp only [f__law_pick, b__law_pick, runBody, denSs, denS.eq_1, denS.eq_2, denS.eq_3, denS.eq_4, denS.eq_5, denS.eq_6, denS.eq_7, denS.eq_8, denS.eq_9, denS.eq_10, denS.eq_13, denS.eq_14, denS.eq_15, denS.eq_16, denS.eq_17, d_for, d_whl, den.eq_1, den.eq_2, den.eq_3, den.eq_4, den.eq_5, den.eq_6, den.eq_7, den.eq_8, den.eq_9, den.eq_10, den.eq_11, den.eq_12, den.eq_13, den.eq_14, den.eq_15, den.eq_16, den.eq_17, den.eq_18, den.eq_19, den.eq_20, den.eq_21, den.eq_23, den.eq_24, den.eq_25, den.eq_26, den.eq_27, d_comp, denT, denEs, denEO, denC, denI, bind_ok, of_some, look_0, look_s, List.length_cons, List.length_nil, List.map_cons, List.map_nil, List.replicate, List.cons_append, List.nil_append, if_true, dCmp, drf, dTru, dBi, dBin, dNeg, bindT, List.set_cons_zero, List.set_cons_succ, Option.map_some, rq_0, rq_1, Nat.reduceAdd, Nat.reduceSub, s_draw ht hn hn2 (show 0 < (ds.length : Int) by omega) hl2, dIdx, hat]
end K60

/-! every triple of pieces comes again -/
namespace K60
open PySem Ev
def inv0 : List Int := [1205582182, 779941293, 591703458, 1502032532, 288865675, 880587422, 1352831449, 962017802, 1432699554, 927904781, 128666634, 2063716673, 1877152965, 632197543, 867546538, 638220818, 679381320, 1781127643, 605640528, 2005910369, 1586226135, 2078812342, 1214818027, 1273300047, 947589524, 763901756, 1109188843, 504948053, 1049393938, 1064720707, 802780748, 937220269, 134488313, 938179489, 1650834894, 220938279, 1030310235, 1626523555, 504514476, 361031968, 1145181942, 1867883861, 926760588, 1291869796, 1002280941, 789255486, 1780437747, 710068898, 1553164491, 137339503, 1506768713, 1180438773, 444518459, 1542741782, 1216358227, 1004919072, 66226505, 1331952165, 1913162870, 227089903, 476209765, 132778796, 1776867450, 1632882210]
def inv1 : List Int := [275025249, 1140029759, 709356420, 1725644089, 42849082, 1137780967, 545856801, 556070778, 1665992313, 2005717227, 357387723, 542361775, 1455788297, 1946898299, 1957794201, 221409741, 1935166767, 1315911684, 1184215216, 1582920764, 1892912217, 537463907, 581587346, 237745208, 1111030566, 1662203127, 38578365, 866765837, 333295158, 1366951581, 1545534075, 820580757, 1111396485, 1390543369, 1204509690, 791796526, 361742855, 590040259, 897645098, 357370255, 2037655455, 21233134, 1224694070, 1067888065, 1497828202, 1805991292, 30414441, 1146293843, 1919963558, 1784081882, 1059171993, 602173631, 1478438251, 1788902492, 1619219956, 103174550, 1556244951, 1603773266, 724851864, 284764003, 374027230, 1091836693, 551701441, 430413945]
def inv2 : List Int := [1419347343, 347557379, 1590066861, 847256278, 1462761509, 1774704950, 487534935, 1971304333, 408940469, 1302925771, 1870179674, 1631053694, 55381432, 2049974403, 667679734, 9873746, 1055874355, 781851530, 474388795, 1520512293, 652726122, 1635078249, 1404607963, 860444482, 1590609095, 1887491724, 2090243197, 112718994, 1304194969, 1093210966, 99323286, 782266491, 1448097156, 1990463639, 1070898647, 211107409, 1224110375, 418275916, 2133384192, 1100529630, 996446619, 2067029230, 1546842161, 1271545874, 297140261, 899193807, 279846889, 1493099733, 1387551531, 885615159, 814974700, 1457353183, 1443336335, 1761273202, 2088426005, 1590067037, 1935868037, 1297077803, 188786117, 25712268, 1481326497, 1260127301, 1238946965, 1915669160]
def Ai : Nat → Int → Int
  | 0, a => a
  | n + 1, a => Ai n (69621 * a + 1)
theorem dvd_fmod {p x y : Int} (h : p ∣ x - y) : p ∣ x.fmod p - y := by
  have : x.fmod p = x - p * x.fdiv p := by rw [Int.fmod_def]
  rw [this, show x - p * x.fdiv p - y = (x - y) - p * x.fdiv p by grind]
  exact Int.dvd_sub h (Int.dvd_mul_right _ _)
theorem blend_lin {p : Int} : ∀ (l : List Int) (a b : Int), ∃ B : Int, ∀ t x : Int, p ∣ x - (a * t + b) → p ∣ blend1 p l t x - (Ai l.length a * t + B)
  | [], a, b => ⟨b, fun t x h => h⟩
  | c :: l, a, b => by
    obtain ⟨B, hB⟩ := blend_lin (p := p) l (69621 * a + 1) (69621 * b + c)
    refine ⟨B, fun t x h => hB t _ (dvd_fmod ?_)⟩
    rw [show x * 69621 + c + t - ((69621 * a + 1) * t + (69621 * b + c)) = (x - (a * t + b)) * 69621 by grind]
    exact Int.dvd_trans h (Int.dvd_mul_right _ _)
theorem pow5_mod {p x y : Int} (h : p ∣ x - y) : (x ^ 5).fmod p = (y ^ 5).fmod p := by
  have h5 : p ∣ x ^ 5 - y ^ 5 := by
    rw [show x ^ 5 - y ^ 5 = (x - y) * (x ^ 4 + x ^ 3 * y + x ^ 2 * y ^ 2 + x * y ^ 3 + y ^ 4) by grind]
    exact Int.dvd_trans h (Int.dvd_mul_right _ _)
  obtain ⟨k, hk⟩ := h5
  rw [show x ^ 5 = y ^ 5 + p * k by omega, Int.add_mul_fmod_self_left]
theorem inv_at {p : Int} {iv : List Int} (h : ((List.range 64).all fun n => decide ((Ai n 48271 * iv.getD n 0 - 1) % p = 0)) = true) {n : Nat} (hn : n < 64) : ∃ i : Int, p ∣ Ai n 48271 * i - 1 :=
  ⟨_, Int.dvd_of_emod_eq_zero (of_decide_eq_true (List.all_eq_true.mp h n (List.mem_range.mpr hn)))⟩
theorem inv_ok0 : ((List.range 64).all fun n => decide ((Ai n 48271 * inv0.getD n 0 - 1) % 2147483579 = 0)) = true := by decide +kernel
theorem inv_ok1 : ((List.range 64).all fun n => decide ((Ai n 48271 * inv1.getD n 0 - 1) % 2147483629 = 0)) = true := by decide +kernel
theorem inv_ok2 : ((List.range 64).all fun n => decide ((Ai n 48271 * inv2.getD n 0 - 1) % 2147483563 = 0)) = true := by decide +kernel
/-- a residue is met by a turn's residue -/
theorem res_of {p : Int} {iv : List Int} (h : ((List.range 64).all fun n => decide ((Ai n 48271 * iv.getD n 0 - 1) % p = 0)) = true) (cells : List Int) (hc : cells.length < 64) (b : Int) : ∃ r : Int, ∀ t : Int, p ∣ t - r → p ∣ pbl p cells t - b := by
  obtain ⟨i, hi⟩ := inv_at h hc
  obtain ⟨B, hB⟩ := blend_lin (p := p) cells 48271 (p.fdiv 53)
  refine ⟨(b - B) * i, fun t ht => ?_⟩
  have h1 := hB t (48271 * t + p.fdiv 53) (by rw [Int.sub_self]; exact Int.dvd_zero p)
  have h2 : p ∣ Ai cells.length 48271 * (t - (b - B) * i) := Int.dvd_trans ht (Int.dvd_mul_left _ _)
  have h3 : p ∣ (Ai cells.length 48271 * i - 1) * (b - B) := Int.dvd_trans hi (Int.dvd_mul_right _ _)
  unfold pbl
  generalize blend1 p cells t (48271 * t + p.fdiv 53) = y at *
  have e : y - b = (y - (Ai cells.length 48271 * t + B)) + Ai cells.length 48271 * (t - (b - B) * i) + (Ai cells.length 48271 * i - 1) * (b - B) := by grind
  rw [e]
  exact Int.dvd_add (Int.dvd_add h1 h2) h3
theorem crt (r1 r2 r3 T0 : Int) : ∃ t : Int, T0 < t ∧ t ≤ T0 + 9903519516461379889783524533 ∧ (2147483579 : Int) ∣ t - r1 ∧ (2147483629 : Int) ∣ t - r2 ∧ (2147483563 : Int) ∣ t - r3 := by
  let x : Int := r1 * 235208588510193165138497345 + r2 * 1293459670181656490358913329 + r3 * 8374851257769530234286113860
  have hm := Int.emod_nonneg (x - T0 - 1) (show (9903519516461379889783524533 : Int) ≠ 0 by decide)
  have hm2 := Int.emod_lt_of_pos (x - T0 - 1) (show (0 : Int) < 9903519516461379889783524533 by decide)
  have hd := Int.mul_ediv_add_emod (x - T0 - 1) 9903519516461379889783524533
  generalize (x - T0 - 1) % 9903519516461379889783524533 = m at *
  generalize (x - T0 - 1) / 9903519516461379889783524533 = q at *
  refine ⟨T0 + 1 + m, by omega, by omega, ?_, ?_, ?_⟩
  · refine ⟨r1 * 109527537630681536 + r2 * 602314114450165251 + r3 * 3899844143008243340 - q * 4611685795089090127, ?_⟩
    have hx : x = r1 * 235208588510193165138497345 + r2 * 1293459670181656490358913329 + r3 * 8374851257769530234286113860 := rfl
    omega
  · refine ⟨r1 * 109527535080544805 + r2 * 602314100426446832 + r3 * 3899844052207920340 - q * 4611685687714911977, ?_⟩
    have hx : x = r1 * 235208588510193165138497345 + r2 * 1293459670181656490358913329 + r3 * 8374851257769530234286113860 := rfl
    omega
  · refine ⟨r1 * 109527538446725315 + r2 * 602314118937755283 + r3 * 3899844172064347593 - q * 4611685829448828191, ?_⟩
    have hx : x = r1 * 235208588510193165138497345 + r2 * 1293459670181656490358913329 + r3 * 8374851257769530234286113860 := rfl
    omega
def v3 (b : Int × Int × Int) : Int := ((b.1 ^ 5).fmod 2147483579 * 2147483647 + (b.2.1 ^ 5).fmod 2147483629) * 2147483647 + (b.2.2 ^ 5).fmod 2147483563
theorem comes (cells : List Int) (hc : cells.length < 64) (b : Int × Int × Int) (T0 : Int) : ∃ t : Int, T0 < t ∧ t ≤ T0 + 9903519516461379889783524533 ∧ blendV cells t = v3 b := by
  obtain ⟨r1, h1⟩ := res_of inv_ok0 cells hc b.1
  obtain ⟨r2, h2⟩ := res_of inv_ok1 cells hc b.2.1
  obtain ⟨r3, h3⟩ := res_of inv_ok2 cells hc b.2.2
  obtain ⟨t, t1, t2, d1, d2, d3⟩ := crt r1 r2 r3 T0
  refine ⟨t, t1, t2, ?_⟩
  unfold blendV pstep v3
  rw [pow5_mod (h1 t d1), pow5_mod (h2 t d2), pow5_mod (h3 t d3)]
  grind
def tri : List (Int × Int × Int) := [(376241832, 1905220079, 1654414887), (611662495, 1047908479, 908005946), (1442436398, 580670871, 534641640), (394744680, 1870208639, 1236013467), (302702084, 1686346781, 1213342663), (281482153, 226952108, 178458380), (638244393, 1896678746, 863622733), (1677337456, 2017372536, 143551737)]
/-- wherever a word begins within such a rest, it begins with that letter -/
theorem tri_ok : ((List.range 8).all fun i => match tri[i]? with
  | some b => decide (0 ≤ v3 b) && decide (0 < v3 b / (8 * 26 ^ 9)) && (List.range 9).all fun r => decide (v3 b / (8 * 26 ^ r) % 26 = i)
  | none => false) = true := by decide +kernel
end K60

/-! words -/
namespace K60
open PySem Ev
variable {F : Fs} {G : Gs} {o : Os} {k : Nat}
/-- 1 to 8 small letters -/
def IsW (w : Str) : Prop := 1 ≤ w.cps.toList.length ∧ w.cps.toList.length ≤ 8 ∧ ∀ c ∈ w.cps.toList, 97 ≤ c ∧ c ≤ 122
theorem isW_ok {w : Str} (h : IsW w) : PyData.strOk w = true := by
  unfold PyData.strOk
  rw [Array.all_eq_true']
  intro c hc
  exact decide_eq_true (by have := (h.2.2 c (by simpa using hc)).2; omega)
theorem str_len (w : Str) : w.length = w.cps.toList.length := by unfold Str.length; rw [Array.length_toList]
theorem str_ext {w w' : Str} (h : w.cps.toList = w'.cps.toList) : w = w' := by
  cases w; cases w'
  congr 1
  exact Array.toList_inj.mp h
theorem any_mem {w : Str} (hw : PyData.strOk w = true) : ∀ (ws : List Str), (∀ v ∈ ws, PyData.strOk v = true) → ∃ ps, dPs (ws.map .str) = some ps ∧ PyData.canLayAll0 ps = true ∧ PyData.depthAll ps = 0 ∧ (ps.any fun z => PyData.eqv z (.str w)) = decide (w ∈ ws)
  | [], _ => ⟨[], rfl, rfl, rfl, by simp⟩
  | v :: ws, h => by
    obtain ⟨ps, e1, e2, e3, e4⟩ := any_mem hw ws fun u hu => h u (List.mem_cons_of_mem _ hu)
    refine ⟨.str v :: ps, by simp [dPs, dP, e1], ?_, by simp [PyData.depthAll, PyData.depth, e3], ?_⟩
    · show (PyData.strOk v && PyData.canLayAll0 ps) = true
      rw [h v List.mem_cons_self, e2]; rfl
    · rw [List.any_cons, e4]
      simp only [PyData.eqv, List.mem_cons]
      by_cases hv : v = w
      · subst hv; simp
      · have : ¬ w = v := fun z => hv z.symm
        simp [hv, this]
theorem in_words {w : Str} (hw : PyData.strOk w = true) {ws : List Str} (h : ∀ v ∈ ws, PyData.strOk v = true) : dIn (.str w) (.lst (ws.map .str)) = some (decide (w ∈ ws)) := by
  obtain ⟨ps, e1, e2, e3, e4⟩ := any_mem hw ws h
  have s1 : SeqAt.shaped (.str w) = true := by
    unfold SeqAt.shaped
    rw [show PyData.canLay0 (.str w) = PyData.strOk w from rfl, hw]
    simp [PyData.depth]
  have s2 : SeqAt.shaped (.list ps) = true := by
    unfold SeqAt.shaped
    rw [show PyData.canLay0 (.list ps) = PyData.canLayAll0 ps from rfl, e2]
    simp [PyData.depth, e3]
  unfold dIn
  simp only [dP, e1, s1, s2, Bool.and_self, if_true, e4]
def stepW (found : List Str) (w alt : Str) : List Str := found ++ (if w ∉ found then [w] else if alt ∉ found ∧ found.length < 8 then [alt] else [])
def altW (w : Str) (n : Nat) : Str := L2.cutS w none (some 1) ++ Txt.mul "q" n
theorem alt_list (w : Str) (n : Nat) (h : 1 ≤ w.cps.toList.length) : (altW w n).cps.toList = w.cps.toList.take 1 ++ List.replicate n 113 := by
  have hq : ("q" : Str) = ⟨#[113]⟩ := by decide +kernel
  unfold altW
  rw [hq]
  show ((L2.cutS w none (some 1)).cps ++ (Txt.mul ⟨#[113]⟩ n).cps).toList = _
  rw [Array.toList_append, PyProof.Rows.mul_one_list]
  congr 1
  unfold L2.cutS HT.sIx
  simp only [str_len]
  simp
theorem alt_isW {w : Str} (h : IsW w) {n : Nat} (hn : n < 8) : IsW (altW w n) := by
  have e := alt_list w n h.1
  refine ⟨?_, ?_, ?_⟩
  · rw [e, List.length_append, List.length_take, List.length_replicate]; have := h.1; omega
  · rw [e, List.length_append, List.length_take, List.length_replicate]; have := h.1; omega
  · intro c hc
    rw [e, List.mem_append] at hc
    rcases hc with hc | hc
    · exact h.2.2 c (List.mem_of_mem_take hc)
    · rw [(List.mem_replicate.mp hc).2]; exact ⟨by decide, by decide⟩
end K60

namespace K60
open PySem Ev
variable {F : Fs} {G : Gs} {o : Os} {k : Nat}
def abc : List D := (List.range 26).map fun i => .str ⟨#[97 + i]⟩
theorem abc_is : signs "abcdefghijklmnopqrstuvwxyz" = abc := by
  have h : ("abcdefghijklmnopqrstuvwxyz" : Str) = ⟨#[97,98,99,100,101,102,103,104,105,106,107,108,109,110,111,112,113,114,115,116,117,118,119,120,121,122]⟩ := by decide +kernel
  rw [h]
  rfl
theorem abc_len : ("abcdefghijklmnopqrstuvwxyz" : Str).length ≤ line := by
  have h : ("abcdefghijklmnopqrstuvwxyz" : Str) = ⟨#[97,98,99,100,101,102,103,104,105,106,107,108,109,110,111,112,113,114,115,116,117,118,119,120,121,122]⟩ := by decide +kernel
  rw [h]
  decide
def takeL : Nat → DS → List Nat × DS
  | 0, s => ([], s)
  | r + 1, s => ((s.got 26).toNat :: (takeL r (s.nxt 26)).1, (takeL r (s.nxt 26)).2)
theorem takeL_len : ∀ (r : Nat) (s : DS), (takeL r s).1.length = r
  | 0, _ => rfl
  | r + 1, s => by unfold takeL; rw [List.length_cons, takeL_len r]
theorem takeL_lt : ∀ (r : Nat) (s : DS), ∀ c ∈ (takeL r s).1, c < 26
  | 0, _, c, h => by cases h
  | r + 1, s, c, h => by
    unfold takeL at h
    rcases List.mem_cons.mp h with h | h
    · have := got_lt (s := s) (room := 26) (by decide)
      omega
    · exact takeL_lt r _ c h
theorem fill_turn (s : DS) : s.turn ≤ s.fill.turn ∧ s.fill.turn ≤ s.turn + 1 := by
  unfold DS.fill
  split
  · split
    · exact ⟨Int.le_refl _, by show s.turn ≤ s.turn + 1; omega⟩
    · exact ⟨by show s.turn ≤ s.turn + 1; omega, Int.le_refl _⟩
  · exact ⟨Int.le_refl _, by omega⟩
theorem nxt_turn (s : DS) (r : Int) : s.turn ≤ (s.nxt r).turn ∧ (s.nxt r).turn ≤ s.turn + 1 := fill_turn s
theorem takeL_turn : ∀ (r : Nat) (s : DS), s.turn ≤ (takeL r s).2.turn ∧ (takeL r s).2.turn ≤ s.turn + r
  | 0, s => ⟨Int.le_refl _, by show s.turn ≤ s.turn + 0; omega⟩
  | r + 1, s => by
    have h1 := nxt_turn s 26
    have h2 := takeL_turn r (s.nxt 26)
    unfold takeL
    dsimp only
    exact ⟨by omega, by omega⟩

theorem letters_ok {n : Nat} (hn : 64 ≤ n) (hn2 : n + 40 < 900000) {ρ : Ev.Env} (h0 : look ρ 0 = some (.ref 1)) (hρ : 4 < ρ.length) : ∀ (xs : List D) (s : DS), 0 ≤ s.turn → s.turn + xs.length + 1 < 2 ^ n →
    compLoop (compG (sem G fns (k + 3)) G (.call 6 (.cons (.var 0) (.cons (.bi .list (.cons (.str "abcdefghijklmnopqrstuvwxyz") .nil)) .nil))) (.one 4) .none ρ) xs (Dr s) = .ok ((takeL xs.length s).1.map fun c => .str ⟨#[97 + c]⟩) (Dr (takeL xs.length s).2)
  | [], s, _, _ => rfl
  | x :: xs, s, t0, t1 => by
    rw [List.length_cons] at t1
    push_cast at t1
    have hta : (s.turn + 1).natAbs < 2 ^ n := nat_lt (by omega) (by omega)
    have hg := got_lt (s := s) (room := 26) (by decide)
    obtain ⟨d, hd, e⟩ := s_pick (G := G) (k := k) (s := s) (ds := abc) hta hn hn2 (by decide) (by decide)
    have hal : (abc.length : Int) = 26 := rfl
    rw [hal] at hd e
    have hd' : d = .str ⟨#[97 + (s.got 26).toNat]⟩ := by
      unfold abc at hd
      rw [List.getElem?_map, List.getElem?_range (by omega)] at hd
      cases hd
      rfl
    subst hd'
    have hnx := nxt_turn s 26
    have ih := letters_ok hn hn2 h0 hρ xs (s.nxt 26) (by omega) (by omega)
    have hl : look ((wipeE ρ [4]).set 4 (some x)) 0 = some (.ref 1) := by
      rw [show wipeE ρ [4] = ρ.set 4 none from rfl]
      unfold look at h0 ⊢
      rw [List.getElem?_set_ne (by decide), List.getElem?_set_ne (by decide)]
      exact h0
    rw [compLoop]
    have hf : compG (sem G fns (k + 3)) G (.call 6 (.cons (.var 0) (.cons (.bi .list (.cons (.str "abcdefghijklmnopqrstuvwxyz") .nil)) .nil))) (.one 4) .none ρ x (Dr s) = .ok (some (.str ⟨#[97 + (s.got 26).toNat]⟩)) (Dr (s.nxt 26)) := by
      unfold compG
      simp only [Ev.T.own, bindT, of_some, bind_ok, denC, Res.calm, if_true, den.eq_17, denEs, den.eq_5, den.eq_18, den.eq_2, hl, dBi, if_pos abc_len, abc_is, e]
    rw [hf, bind_ok, ih, bind_ok]
    rfl
end K60

namespace K60
open PySem Ev
variable {F : Fs} {G : Gs} {o : Os} {k : Nat}
def nextS (s : DS) : DS := (takeL (1 + (s.got 8).toNat) (s.nxt 8)).2
def lettS (s : DS) : List Nat := (takeL (1 + (s.got 8).toNat) (s.nxt 8)).1
def wordS (s : DS) : Str := ⟨((lettS s).map (97 + ·)).toArray⟩
theorem empty_is : ("" : Str) = ⟨#[]⟩ := by decide +kernel
theorem fold_one : ∀ (l : List Nat) (acc : Array Nat), (l.map fun c => (⟨#[c]⟩ : Str)).foldl (fun acc p => acc ++ (⟨#[]⟩ : Str).cps ++ p.cps) acc = acc ++ l.toArray
  | [], acc => by simp
  | c :: l, acc => by
    rw [List.map_cons, List.foldl_cons, fold_one l]
    simp
theorem join_one (l : List Nat) : Txt.join "" (l.map fun c => (⟨#[c]⟩ : Str)) = ⟨l.toArray⟩ := by
  rw [empty_is]
  unfold Txt.join Builtin.Str.glued
  cases l with
  | nil => rfl
  | cons c l =>
    rw [List.map_cons, List.drop_one, List.tail_cons, fold_one l]
    simp
theorem strs_map (l : List Str) : strsOf (l.map .str) = some l := by
  induction l with
  | nil => rfl
  | cons a l ih => rw [List.map_cons, strsOf, ih]; rfl
theorem sum_one (l : List Nat) : ((l.map fun c => (⟨#[c]⟩ : Str)).map Str.length).sum = l.length := by
  induction l with
  | nil => rfl
  | cons a l ih => rw [List.map_cons, List.map_cons, List.sum_cons, ih, List.length_cons, Nat.add_comm]; rfl
theorem join_ok (l : List Nat) (h : l.length ≤ 8) : dMt .join "" (.lst (l.map fun c => .str ⟨#[c]⟩)) = some (.str ⟨l.toArray⟩) := by
  unfold dMt
  rw [show (l.map fun c => D.str ⟨#[c]⟩) = (l.map fun c => (⟨#[c]⟩ : Str)).map .str by rw [List.map_map]; rfl]
  simp only [strs_map]
  rw [if_pos, join_one]
  rw [sum_one, empty_is]
  show l.length + _ * 0 ≤ line
  unfold line
  omega
theorem got8 (s : DS) : 0 ≤ s.got 8 ∧ s.got 8 < 8 := got_lt (by decide)
theorem lett_len (s : DS) : (lettS s).length = 1 + (s.got 8).toNat := takeL_len _ _
theorem wordS_isW (s : DS) : IsW (wordS s) := by
  have h := got8 s
  have hl := lett_len s
  unfold IsW wordS
  simp only [List.length_map]
  refine ⟨by omega, by omega, fun c hc => ?_⟩
  obtain ⟨d, hd, rfl⟩ := List.mem_map.mp (by simpa using hc)
  have := takeL_lt _ _ d hd
  omega
def ALT : Ev.E := (.bin .add (.slc (.var 3) .none (.some (.int 1))) (.bin .mul (.str "q") (.bi .len (.cons (.var 2) .nil))))
def s1W : Ev.S := .asg (.one 3) (.mth .join (.str "") (.comp (.call 6 (.cons (.var 0) (.cons (.bi .list (.cons (.str "abcdefghijklmnopqrstuvwxyz") .nil)) .nil))) (.one 4) (.rng1 (.bin .add (.int 1) (.call 4 (.cons (.var 0) (.cons (.int 8) .nil))))) .none))
def s2W : Ev.S := .asg (.one 2) (.bin .add (.var 2) (.ite (.cmp .notin (.var 3) (.var 2)) (.lst (.cons (.var 3) .nil)) (.ite (.and (.cmp .notin ALT (.var 2)) (.cmp .lt (.bi .len (.cons (.var 2) .nil)) (.int 8))) (.lst (.cons ALT .nil)) (.lst .nil))))
def bodyW : Ev.Ss := .cons s1W (.cons s2W .nil)
theorem drng_len (n : Nat) : (dRng 0 (n : Int)).length = n := by unfold dRng; rw [List.length_map, List.length_range]; omega

theorem hr0 {x : Nat} (h : x ≤ 100) : rngOk 0 (x : Int) = true := by
  unfold rngOk line
  simp only [decide_eq_true_eq, Bool.and_eq_true]
  refine ⟨⟨⟨⟨by decide, by decide⟩, by omega⟩, by omega⟩, by omega⟩
theorem e30 {n : Nat} {s : DS} {p q z : Option D} (hn : 64 ≤ n) (hn2 : n + 40 < 900000) (t0 : 0 ≤ s.turn) (t1 : s.turn + 20 < 2 ^ n) {L : Nat} (hL : L ≤ 8) :
    compLoop (compG (sem G fns (k + 3)) G (.call 6 (.cons (.var 0) (.cons (.bi .list (.cons (.str "abcdefghijklmnopqrstuvwxyz") .nil)) .nil))) (.one 4) .none [some (.ref 1), p, q, z, none]) (dRng 0 (L : Int)) (Dr (s.nxt 8)) = .ok ((takeL L (s.nxt 8)).1.map fun c => .str ⟨#[97 + c]⟩) (Dr (takeL L (s.nxt 8)).2) := by
  have hx := nxt_turn s 8
  have e3 := letters_ok (G := G) (k := k) hn hn2 (ρ := [some (.ref 1), p, q, z, none]) rfl (Nat.lt.base 4) (dRng 0 (L : Int)) (s.nxt 8) (by omega) (by rw [drng_len]; omega)
  rwa [drng_len] at e3
theorem e10 {n : Nat} {s : DS} (hn : 64 ≤ n) (hn2 : n + 40 < 900000) (t0 : 0 ≤ s.turn) (t1 : s.turn + 20 < 2 ^ n) : sem G fns (k + 3) 4 [.ref 1, .int 8] (Dr s) = .ok (.int (s.got 8)) (Dr (s.nxt 8)) :=
  s_draw (G := G) (k := k + 1) (s := s) (room := 8) (nat_lt (b := n) (by omega) (by omega)) hn hn2 (by decide) (by decide)
theorem eR0 {n : Nat} {s : DS} {p q z : Option D} (hn : 64 ≤ n) (hn2 : n + 40 < 900000) (t0 : 0 ≤ s.turn) (t1 : s.turn + 20 < 2 ^ n) :
    denI (sem G fns (k + 3)) G (.rng1 (.bin .add (.int 1) (.call 4 (.cons (.var 0) (.cons (.int 8) .nil))))) [some (.ref 1), p, q, z, none] (Dr s) = .ok (dRng 0 ((1 + (s.got 8).toNat : Nat) : Int)) (Dr (s.nxt 8)) := by
  have hg := got8 s
  have e2 : (1 + s.got 8 : Int) = ((1 + (s.got 8).toNat : Nat) : Int) := by omega
  simp only [denI, den.eq_9, den.eq_1, den.eq_17, denEs, den.eq_5, look_0, of_some, bind_ok, e10 hn hn2 t0 t1, dBin]
  rw [e2, if_pos (hr0 (by omega))]
theorem eC0 {n : Nat} {s : DS} {p q z : Option D} (hn : 64 ≤ n) (hn2 : n + 40 < 900000) (t0 : 0 ≤ s.turn) (t1 : s.turn + 20 < 2 ^ n) :
    den (sem G fns (k + 3)) G (.comp (.call 6 (.cons (.var 0) (.cons (.bi .list (.cons (.str "abcdefghijklmnopqrstuvwxyz") .nil)) .nil))) (.one 4) (.rng1 (.bin .add (.int 1) (.call 4 (.cons (.var 0) (.cons (.int 8) .nil))))) .none) [some (.ref 1), p, q, z, none] (Dr s) = .ok (.lst (((lettS s).map (97 + ·)).map fun c => D.str ⟨#[c]⟩)) (Dr (nextS s)) := by
  have hg := got8 s
  rw [d_comp, eR0 hn hn2 t0 t1, bind_ok, e30 hn hn2 t0 t1 (by omega), bind_ok, List.map_map]
  rfl
theorem s1_ok {n : Nat} {s : DS} {p q z : Option D} (hn : 64 ≤ n) (hn2 : n + 40 < 900000) (t0 : 0 ≤ s.turn) (t1 : s.turn + 20 < 2 ^ n) :
    denS (sem G fns (k + 3)) G s1W [some (.ref 1), p, q, z, none] (Dr s) = .ok (.nx [some (.ref 1), p, q, some (.str (wordS s)), none]) (Dr (nextS s)) := by
  have hg := got8 s
  have hj := join_ok ((lettS s).map (97 + ·)) (by rw [List.length_map, lett_len]; omega)
  have e : den (sem G fns (k + 3)) G (.mth .join (.str "") (.comp (.call 6 (.cons (.var 0) (.cons (.bi .list (.cons (.str "abcdefghijklmnopqrstuvwxyz") .nil)) .nil))) (.one 4) (.rng1 (.bin .add (.int 1) (.call 4 (.cons (.var 0) (.cons (.int 8) .nil))))) .none)) [some (.ref 1), p, q, z, none] (Dr s) = .ok (.str (wordS s)) (Dr (nextS s)) := by
    rw [den.eq_24, den.eq_2, bind_ok]
    simp only [eC0 hn hn2 t0 t1, bind_ok, hj, of_some, wordS]
  unfold s1W
  rw [denS.eq_1, e, bind_ok]
  simp only [bindT, of_some, bind_ok, List.set_cons_succ, List.set_cons_zero]
theorem s2_ok {p z : Option D} {w : Str} {found : List Str} {oo : Os} (hw : IsW w) (hf : ∀ v ∈ found, IsW v) (hl : found.length < 8) :
    denS F G s2W [some (.ref 1), p, some (.lst (found.map .str)), some (.str w), z] oo = .ok (.nx [some (.ref 1), p, some (.lst ((stepW found w (altW w found.length)).map .str)), some (.str w), z]) oo := by
  have hin := in_words (isW_ok hw) (ws := found) fun v hv => isW_ok (hf v hv)
  have hdr : ∀ l, drf oo (.lst l) = .lst l := fun _ => rfl
  have hds : ∀ x, drf oo (.str x) = .str x := fun _ => rfl
  have hnot : dCmp .notin (.str w) (.lst (found.map .str)) = some (!decide (w ∈ found)) := by
    unfold dCmp; simp only [hin, Option.map_some]
  have alt_ok : den F G ALT [some (.ref 1), p, some (.lst (found.map .str)), some (.str w), z] oo = .ok (.str (altW w found.length)) oo := by
    have hwl : w.length ≤ line := by rw [str_len]; unfold line; have := hw.2.1; omega
    have hq : ("q" : Str) = ⟨#[113]⟩ := by decide +kernel
    have hlen : (altW w found.length).length ≤ 16 := by
      rw [str_len, alt_list w _ hw.1, List.length_append, List.length_take, List.length_replicate]; omega
    have hsum : (L2.cutS w none (some 1)).length + (Txt.mul "q" (found.length : Int)).length ≤ line := by
      have : (altW w found.length).length = (L2.cutS w none (some 1)).length + (Txt.mul "q" (found.length : Int)).length := by
        unfold altW Str.length
        show ((L2.cutS w none (some 1)).cps ++ _).size = _
        rw [Array.size_append]
      unfold line
      omega
    have hmul : dBin .mul (.str "q") (.int found.length) = some (.str (Txt.mul "q" (found.length : Int))) := by
      unfold dBin
      simp only
      rw [if_pos]
      refine ⟨by rw [hq]; decide, by omega, by omega⟩
    unfold ALT
    simp only [den.eq_9, den.eq_21, den.eq_18, den.eq_5, den.eq_1, den.eq_2, denEO, denEs, look_0, look_s, of_some, bind_ok, dSl, if_pos hwl, dBi, List.length_map, hmul]
    unfold dBin
    simp only [if_pos hsum, of_some]
    rfl
  have hin2 : ∀ h8 : found.length < 8, dCmp .notin (.str (altW w found.length)) (.lst (found.map .str)) = some (!decide (altW w found.length ∈ found)) := fun h8 => by
    unfold dCmp
    simp only [in_words (isW_ok (alt_isW hw h8)) (ws := found) fun v hv => isW_ok (hf v hv), Option.map_some]
  have hlen : (found.map D.str).length = found.length := List.length_map _
  have e : den F G (.bin .add (.var 2) (.ite (.cmp .notin (.var 3) (.var 2)) (.lst (.cons (.var 3) .nil)) (.ite (.and (.cmp .notin ALT (.var 2)) (.cmp .lt (.bi .len (.cons (.var 2) .nil)) (.int 8))) (.lst (.cons ALT .nil)) (.lst .nil)))) [some (.ref 1), p, some (.lst (found.map .str)), some (.str w), z] oo = .ok (.lst ((stepW found w (altW w found.length)).map .str)) oo := by
    have hadd : ∀ l : List Str, l.length ≤ 1 → dBin .add (.lst (found.map .str)) (.lst (l.map .str)) = some (.lst ((found ++ l).map .str)) := fun l hl => by
      unfold dBin
      simp only
      rw [if_pos (by rw [List.length_map, List.length_map]; unfold line; omega), List.map_append]
    rw [den.eq_9, den.eq_5]
    simp only [look_0, look_s, of_some, bind_ok]
    rw [den.eq_16, den.eq_12]
    simp only [den.eq_5, look_0, look_s, of_some, bind_ok, hds, hdr, hnot, Option.map_some, dTru]
    unfold stepW
    by_cases hm : w ∈ found
    · simp only [hm, decide_true, Bool.not_true, Bool.false_eq_true, if_false, not_true_eq_false]
      rw [den.eq_16, den.eq_14, den.eq_12, alt_ok]
      have h8 := hl
      · simp only [bind_ok, den.eq_5, look_0, look_s, of_some, hds, hdr, hin2 h8, Option.map_some, dTru]
        by_cases ha : altW w found.length ∈ found
        · simp only [ha, decide_true, Bool.not_true, Bool.false_eq_true, if_false, not_true_eq_false, false_and, bind_ok, of_some, dTru, den.eq_8, denEs]
          rw [show ([] : List D) = ([] : List Str).map .str from rfl, hadd [] (by simp)]
          rfl
        · have hlt : decide ((found.length : Int) < 8) = true := decide_eq_true (by omega)
          simp only [ha, decide_false, Bool.not_false, if_true, not_false_eq_true, true_and, h8, bind_ok, of_some, dTru, den.eq_12, den.eq_18, den.eq_5, den.eq_1, denEs, look_0, look_s, dBi, hlen, drf, dCmp, hlt, Option.map_some, den.eq_8, alt_ok]
          rw [show [D.str (altW w found.length)] = ([altW w found.length] : List Str).map .str from rfl, hadd [altW w found.length] (by simp)]
          rfl
    · simp only [hm, decide_false, Bool.not_false, if_true, not_false_eq_true]
      rw [den.eq_8]
      simp only [denEs, den.eq_5, look_0, look_s, of_some, bind_ok]
      rw [show [D.str w] = ([w] : List Str).map .str from rfl, hadd [w] (by simp)]
      rfl
  unfold s2W
  rw [denS.eq_1, e, bind_ok]
  simp only [bindT, of_some, bind_ok, List.set_cons_succ, List.set_cons_zero]
end K60

/-! words: the search ends -/
namespace K60
open PySem Ev
variable {F : Fs} {G : Gs} {o : Os} {k : Nat}
structure DS.Ok (s : DS) : Prop where
  c : s.cells.length < 64
  r : 0 ≤ s.rest
  g : ∀ x ∈ s.great, 0 ≤ x
  t : 0 ≤ s.turn
theorem blendV_nn (cells : List Int) (t : Int) : 0 ≤ blendV cells t := by
  unfold blendV pstep
  have h1 := fmod_pos (x := pbl 2147483579 cells t ^ 5) (p := 2147483579) (by decide)
  have h2 := fmod_pos (x := pbl 2147483629 cells t ^ 5) (p := 2147483629) (by decide)
  have h3 := fmod_pos (x := pbl 2147483563 cells t ^ 5) (p := 2147483563) (by decide)
  omega
theorem fill_ok' {s : DS} (h : s.Ok) : s.fill.Ok := by
  unfold DS.fill
  split
  · split
    · rename_i g gs hg
      exact ⟨h.c, h.g g (by rw [hg]; exact List.mem_cons_self), fun x hx => h.g x (by rw [hg]; exact List.mem_cons_of_mem _ hx), h.t⟩
    · rename_i hg
      exact ⟨h.c, blendV_nn _ _, fun x hx => h.g x hx, by show 0 ≤ s.turn + 1; have := h.t; omega⟩
  · exact h
theorem nxt_ok {s : DS} (h : s.Ok) {r : Int} (hr : 0 < r) : (s.nxt r).Ok := by
  have f := fill_ok' h
  refine ⟨f.c, ?_, f.g, f.t⟩
  show 0 ≤ s.fill.rest.fdiv r
  rw [Int.fdiv_eq_ediv_of_nonneg _ (by omega)]
  exact Int.ediv_nonneg f.r (by omega)
theorem takeL_ok : ∀ (r : Nat) (s : DS), s.Ok → (takeL r s).2.Ok
  | 0, s, h => h
  | r + 1, s, h => takeL_ok r (s.nxt 26) (nxt_ok h (by decide))
theorem nextS_ok {s : DS} (h : s.Ok) : (nextS s).Ok := takeL_ok _ _ (nxt_ok h (by decide))
theorem fill_cells (s : DS) : s.fill.cells = s.cells := by
  unfold DS.fill
  split
  · split <;> rfl
  · rfl
theorem takeL_cells : ∀ (r : Nat) (s : DS), (takeL r s).2.cells = s.cells
  | 0, s => rfl
  | r + 1, s => (takeL_cells r (s.nxt 26)).trans (fill_cells s)
theorem nextS_cells (s : DS) : (nextS s).cells = s.cells := (takeL_cells _ _).trans (fill_cells s)

/-! ### the way to a turn -/
/-- how far off -/
def Lt (T : Int) (a b : DS) : Prop := a.great.length < b.great.length ∨ (a.great.length = b.great.length ∧ ((T - a.turn).toNat < (T - b.turn).toNat ∨ ((T - a.turn).toNat = (T - b.turn).toNat ∧ a.rest.toNat < b.rest.toNat)))
theorem lt_wf (T : Int) : WellFounded (Lt T) := by
  have h : WellFounded (fun a b : DS => Prod.Lex (· < ·) (Prod.Lex (· < ·) (· < ·)) (a.great.length, (T - a.turn).toNat, a.rest.toNat) (b.great.length, (T - b.turn).toNat, b.rest.toNat)) :=
    InvImage.wf (fun a : DS => (a.great.length, (T - a.turn).toNat, a.rest.toNat)) (Prod.lex ⟨(· < ·), Nat.lt_wfRel.wf⟩ ⟨_, (Prod.lex ⟨(· < ·), Nat.lt_wfRel.wf⟩ ⟨(· < ·), Nat.lt_wfRel.wf⟩).wf⟩).wf
  refine Subrelation.wf (fun {a b} hab => ?_) h
  rcases hab with h1 | ⟨h1, h2⟩
  · exact .left _ _ h1
  · rcases h2 with h2 | ⟨h2, h3⟩
    · rw [h1]; exact .right _ (.left _ _ h2)
    · rw [h1, h2]; exact .right _ (.right _ h3)
theorem lt_trans' {T : Int} {a b c : DS} (h : Lt T a b) (h' : Lt T b c) : Lt T a c := by
  unfold Lt at *
  omega
/-- one draw on the way: nearer, or the turn has come -/
theorem draw_way {s : DS} {T : Int} {r : Int} (h : s.Ok) (hT : s.turn < T) (hr : 2 ≤ r) :
    ((s.nxt r).turn < T ∧ Lt T (s.nxt r) s) ∨ ((s.nxt r).turn = T ∧ (s.nxt r).rest = (blendV s.cells T).fdiv r ∧ s.got r = (blendV s.cells T).fmod r) := by
  by_cases h0 : s.rest = 0
  · cases hg : s.great with
    | cons g gs =>
      have e : s.fill = { s with great := gs, rest := g } := by unfold DS.fill; rw [if_pos h0, hg]
      left
      unfold DS.nxt
      rw [e]
      refine ⟨hT, .inl ?_⟩
      show gs.length < s.great.length
      rw [hg]; exact Nat.lt_succ_self _
    | nil =>
      have e : s.fill = { s with rest := blendV s.cells (s.turn + 1), turn := s.turn + 1 } := by unfold DS.fill; rw [if_pos h0, hg]
      by_cases hc : s.turn + 1 = T
      · right
        unfold DS.nxt DS.got
        rw [e]
        exact ⟨hc, by show (blendV s.cells (s.turn + 1)).fdiv r = _; rw [hc], by show (blendV s.cells (s.turn + 1)).fmod r = _; rw [hc]⟩
      · left
        unfold DS.nxt
        rw [e]
        refine ⟨by show s.turn + 1 < T; omega, .inr ⟨rfl, .inl ?_⟩⟩
        show (T - (s.turn + 1)).toNat < (T - s.turn).toNat
        omega
  · have e : s.fill = s := by unfold DS.fill; rw [if_neg h0]
    left
    unfold DS.nxt
    rw [e]
    refine ⟨hT, .inr ⟨rfl, .inr ⟨rfl, ?_⟩⟩⟩
    show (s.rest.fdiv r).toNat < s.rest.toNat
    have hp := h.r
    rw [Int.fdiv_eq_ediv_of_nonneg _ (by omega)]
    have : s.rest / r < s.rest := Int.ediv_lt_self_of_pos_of_ne_one (by omega) (by omega)
    omega
end K60

/-! words: the search ends -/
namespace K60
open PySem Ev
theorem free_ix : ∀ (n : Nat) (L : List Nat), L.length < n → ∃ i, i < n ∧ i ∉ L
  | 0, L, h => by omega
  | n + 1, L, h => by
    by_cases hn : n ∈ L
    · have hl := List.length_erase_of_mem hn
      have hp := List.length_pos_of_mem hn
      obtain ⟨i, hi, hni⟩ := free_ix n (L.erase n) (by omega)
      exact ⟨i, by omega, fun hm => hni ((List.mem_erase_of_ne (by omega)).mpr hm)⟩
    · exact ⟨n, by omega, hn⟩
theorem fill_id {s : DS} (h : s.rest ≠ 0) : s.fill = s := by unfold DS.fill; rw [if_neg h]
/-- within a rest -/
theorem stay {T V : Int} : ∀ (r : Nat) (s : DS) (m : Int), 0 < m → 0 ≤ V → s.turn = T → s.rest = V / m → 0 < V / (m * 26 ^ r) → (takeL r s).2.turn = T ∧ (takeL r s).2.rest = V / (m * 26 ^ r)
  | 0, s, m, hm, hv, ht, hr, h => ⟨ht, by rw [Int.pow_zero, Int.mul_one]; exact hr⟩
  | r + 1, s, m, hm, hv, ht, hr, h => by
    have e : m * 26 ^ (r + 1) = (m * 26) * 26 ^ r := by rw [Int.pow_succ]; grind
    rw [e] at h ⊢
    have hne : s.rest ≠ 0 := by
      intro z
      rw [hr] at z
      have h2 : V / (m * 26 * 26 ^ r) = 0 := by
        rw [Int.mul_assoc, ← Int.ediv_ediv_of_nonneg (Int.le_of_lt hm), z, Int.zero_ediv]
      omega
    have hf := fill_id hne
    have e2 : (s.nxt 26).rest = V / (m * 26) := by
      show s.fill.rest.fdiv 26 = _
      rw [hf, hr, Int.fdiv_eq_ediv_of_nonneg _ (by decide), Int.ediv_ediv_of_nonneg (Int.le_of_lt hm)]
    exact stay r (s.nxt 26) (m * 26) (by omega) hv (by show s.fill.turn = T; rw [hf]; exact ht) e2 h
theorem take_way {T V : Int} (hv : 0 ≤ V) (hV : 0 < V / (8 * 26 ^ 9)) : ∀ (r : Nat) (s : DS), r ≤ 8 → s.Ok → s.turn < T → blendV s.cells T = V →
    ((takeL r s).2.turn < T ∧ ((takeL r s).2 = s ∨ Lt T (takeL r s).2 s)) ∨ ∃ j : Nat, 1 ≤ j ∧ j ≤ r ∧ (takeL r s).2.turn = T ∧ (takeL r s).2.rest = V / 26 ^ j
  | 0, s, _, _, ht, _ => .inl ⟨ht, .inl rfl⟩
  | r + 1, s, hr, hs, ht, hb => by
    rcases draw_way hs ht (show (2 : Int) ≤ 26 by decide) with ⟨h1, h2⟩ | ⟨h1, h2, _⟩
    · rcases take_way hv hV r (s.nxt 26) (by omega) (nxt_ok hs (by decide)) h1 (by rw [show (s.nxt 26).cells = s.cells from fill_cells s]; exact hb) with ⟨h3, h4⟩ | ⟨j, j1, j2, h3, h4⟩
      · refine .inl ⟨h3, .inr ?_⟩
        rcases h4 with h4 | h4
        · show Lt T (takeL r (s.nxt 26)).2 s
          rw [h4]; exact h2
        · exact lt_trans' h4 h2
      · exact .inr ⟨j, j1, by omega, h3, h4⟩
    · have hp : 0 < V / (26 * 26 ^ r) := by
        have hle : V / (8 * 26 ^ 9) ≤ V / (26 * 26 ^ r) := by
          have e : (8 * 26 ^ 9 : Int) = (26 * 26 ^ r) * (8 * 26 ^ (8 - r)) := by
            have : (26 : Int) ^ 9 = 26 ^ (r + 1) * 26 ^ (8 - r) := by rw [← Int.pow_add]; congr 1; omega
            rw [this, Int.pow_succ]; grind
          have hq : (0 : Int) ≤ 26 * 26 ^ r := Int.mul_nonneg (by decide) (Int.pow_nonneg (by decide))
          rw [e, ← Int.ediv_ediv_of_nonneg hq]
          exact Int.ediv_le_self _ (Int.ediv_nonneg hv hq)
        omega
      obtain ⟨h5, h6⟩ := stay r (s.nxt 26) 26 (by decide) hv h1 (by rw [h2, hb, Int.fdiv_eq_ediv_of_nonneg _ (by decide)]) hp
      refine .inr ⟨r + 1, by omega, Nat.le_refl _, h5, ?_⟩
      show (takeL r (s.nxt 26)).2.rest = _
      rw [h6, Int.pow_succ, Int.mul_comm]
theorem head_word (s : DS) : (wordS s).cps.toList.head? = some (97 + ((s.nxt 8).got 26).toNat) := by
  unfold wordS lettS
  rw [Nat.add_comm 1]
  unfold takeL
  simp
def itS : Nat → DS → DS
  | 0, s => s
  | m + 1, s => itS m (nextS s)
theorem tri_at {i : Nat} (hi : i < 8) : ∃ b, 0 ≤ v3 b ∧ 0 < v3 b / (8 * 26 ^ 9) ∧ ∀ r : Nat, r < 9 → v3 b / (8 * 26 ^ r) % 26 = i := by
  have h := List.all_eq_true.mp tri_ok i (List.mem_range.mpr hi)
  split at h
  · rename_i b _
    simp only [Bool.and_eq_true, decide_eq_true_eq, List.all_eq_true, List.mem_range] at h
    exact ⟨b, h.1.1, h.1.2, fun r hr => h.2 r hr⟩
  · cases h
theorem not_in {found : List Str} {i : Nat} (hno : i ∉ found.map fun w => (w.cps.toList.head?.getD 0) - 97) {w : Str} (h : w.cps.toList.head? = some (97 + i)) : w ∉ found := fun hm => by
  refine hno (List.mem_map.mpr ⟨w, hm, ?_⟩)
  rw [h]
  show 97 + i - 97 = i
  omega
theorem way_new {found : List Str} {i : Nat} (hno : i ∉ found.map fun w => (w.cps.toList.head?.getD 0) - 97) {T V : Int} (hv : 0 ≤ V) (hV : 0 < V / (8 * 26 ^ 9)) (hd : ∀ r : Nat, r < 9 → V / (8 * 26 ^ r) % 26 = i) :
    ∀ s : DS, s.Ok → s.turn < T → blendV s.cells T = V → ∃ m, wordS (itS m s) ∉ found ∧ (∀ j, j < m → wordS (itS j s) ∈ found) ∧ ∀ j, j ≤ m → (itS j s).turn ≤ T := by
  intro s
  induction s using (lt_wf T).induction with
  | _ s ih =>
    intro hs ht hb
    by_cases hw : wordS s ∈ found
    case neg => exact ⟨0, hw, fun j hj => by omega, fun j hj => by (obtain rfl : j = 0 := by omega); exact Int.le_of_lt ht⟩
    have hg := got8 s
    rcases draw_way hs ht (show (2 : Int) ≤ 8 by decide) with ⟨h1, h2⟩ | ⟨h1, h2, _⟩
    · rcases take_way hv hV (1 + (s.got 8).toNat) (s.nxt 8) (by omega) (nxt_ok hs (by decide)) h1 (by rw [show (s.nxt 8).cells = s.cells from fill_cells s]; exact hb) with ⟨h3, h4⟩ | ⟨j, j1, j2, h3, h4⟩
      · have hlt : Lt T (nextS s) s := by
          rcases h4 with h4 | h4
          · show Lt T (takeL _ (s.nxt 8)).2 s
            rw [h4]; exact h2
          · exact lt_trans' h4 h2
        obtain ⟨m, m1, m2, m3⟩ := ih (nextS s) hlt (nextS_ok hs) h3 (by rw [nextS_cells]; exact hb)
        refine ⟨m + 1, m1, fun j hj => ?_, fun j hj => ?_⟩
        · cases j with
          | zero => exact hw
          | succ j => exact m2 j (by omega)
        · cases j with
          | zero => exact Int.le_of_lt ht
          | succ j => exact m3 j (by omega)
      · have hpos : 0 < V / (8 * 26 ^ j) := by
          have hle : V / (8 * 26 ^ 9) ≤ V / (8 * 26 ^ j) := by
            have e : (8 * 26 ^ 9 : Int) = (8 * 26 ^ j) * 26 ^ (9 - j) := by
              have : (26 : Int) ^ 9 = 26 ^ j * 26 ^ (9 - j) := by rw [← Int.pow_add]; congr 1; omega
              rw [this]; grind
            have hq : (0 : Int) ≤ 8 * 26 ^ j := Int.mul_nonneg (by decide) (Int.pow_nonneg (by decide))
            rw [e, ← Int.ediv_ediv_of_nonneg hq]
            exact Int.ediv_le_self _ (Int.ediv_nonneg hv hq)
          omega
        have hj0 : (0 : Int) ≤ 26 ^ j := Int.pow_nonneg (by decide)
        have h4 : (nextS s).rest = V / 26 ^ j := h4
        have hne : (nextS s).rest ≠ 0 := by
          intro z
          rw [h4] at z
          have : V / (8 * 26 ^ j) = 0 := by rw [Int.mul_comm, ← Int.ediv_ediv_of_nonneg hj0, z, Int.zero_ediv]
          omega
        have hf := fill_id hne
        have e2 : ((nextS s).nxt 8).rest = V / (8 * 26 ^ j) := by
          show (nextS s).fill.rest.fdiv 8 = _
          rw [hf, h4, Int.fdiv_eq_ediv_of_nonneg _ (by decide), Int.ediv_ediv_of_nonneg hj0, Int.mul_comm]
        have hne2 : ((nextS s).nxt 8).rest ≠ 0 := by rw [e2]; omega
        have hgot : ((nextS s).nxt 8).got 26 = i := by
          show ((nextS s).nxt 8).fill.rest.fmod 26 = _
          rw [fill_id hne2, e2, Int.fmod_eq_emod_of_nonneg _ (by decide)]
          exact hd j (by omega)
        refine ⟨1, not_in hno (by show (wordS (nextS s)).cps.toList.head? = _; rw [head_word, hgot]; rfl), fun j hj => by (obtain rfl : j = 0 := by omega); exact hw, fun j hj => ?_⟩
        cases j with
        | zero => exact Int.le_of_lt ht
        | succ j =>
          obtain rfl : j = 0 := by omega
          exact Int.le_of_eq h3
    · exfalso
      have h2' : (s.nxt 8).rest = V / 8 := by rw [h2, hb, Int.fdiv_eq_ediv_of_nonneg _ (by decide)]
      have h0 := hd 0 (by decide)
      rw [Int.pow_zero, Int.mul_one] at h0
      have hne : (s.nxt 8).rest ≠ 0 := by
        intro z
        rw [h2'] at z
        have : V / (8 * 26 ^ 9) = 0 := by rw [← Int.ediv_ediv_of_nonneg (by decide), z, Int.zero_ediv]
        omega
      have hgot : (s.nxt 8).got 26 = i := by
        show (s.nxt 8).fill.rest.fmod 26 = _
        rw [fill_id hne, h2', Int.fmod_eq_emod_of_nonneg _ (by decide)]
        exact h0
      exact not_in hno (by rw [head_word, hgot]; rfl) hw
theorem comes_new {found : List Str} (hl : found.length < 8) {s : DS} (hs : s.Ok) : ∃ m, wordS (itS m s) ∉ found ∧ (∀ j, j < m → wordS (itS j s) ∈ found) ∧ ∀ j, j ≤ m → (itS j s).turn ≤ s.turn + 9903519516461379889783524533 := by
  obtain ⟨i, hi, hno⟩ := free_ix 8 (found.map fun w => (w.cps.toList.head?.getD 0) - 97) (by rw [List.length_map]; exact hl)
  obtain ⟨b, b0, b1, b2⟩ := tri_at hi
  obtain ⟨T, t1, t2, t3⟩ := comes s.cells hs.c b s.turn
  obtain ⟨m, m1, m2, m3⟩ := way_new hno b0 b1 b2 s hs t1 t3
  exact ⟨m, m1, m2, fun j hj => Int.le_trans (m3 j hj) t2⟩
end K60

namespace K60
open PySem Ev
variable {F : Fs} {G : Gs} {o : Os} {k : Nat}
def condW : Ev.E := .cmp .lt (.bi .len (.cons (.var 2) .nil)) (.var 1)
theorem cond_ok {many : Nat} {found : List Str} {z y : Option D} {oo : Os} : denT F G condW [some (.ref 1), some (.int many), some (.lst (found.map .str)), z, y] oo = .ok (decide (found.length < many)) oo := by
  unfold condW denT
  rw [den.eq_12, den.eq_18]
  simp only [denEs, den.eq_5, look_0, look_s, of_some, bind_ok, dBi, List.length_map, drf, dCmp, Option.map_some, dTru]
  congr 1
  by_cases h : found.length < many
  · rw [decide_eq_true h, decide_eq_true (by omega)]
  · rw [decide_eq_false h, decide_eq_false (by omega)]
theorem turn_ok {n many : Nat} {s : DS} {found : List Str} {z : Option D} (hn : 64 ≤ n) (hn2 : n + 40 < 900000) (t0 : 0 ≤ s.turn) (t1 : s.turn + 20 < 2 ^ n) (hf : ∀ v ∈ found, IsW v) (hl : found.length < 8) :
    whB (sem G fns (k + 3)) G bodyW [some (.ref 1), some (.int many), some (.lst (found.map .str)), z, none] (Dr s) = .ok (.nx [some (.ref 1), some (.int many), some (.lst ((stepW found (wordS s) (altW (wordS s) found.length)).map .str)), some (.str (wordS s)), none]) (Dr (nextS s)) := by
  unfold whB bodyW
  rw [denSs, s1_ok hn hn2 t0 t1, bind_ok]
  simp only
  rw [denSs, s2_ok (wordS_isW s) hf hl, bind_ok]
  rfl
theorem nextS_turn (s : DS) : (nextS s).turn ≤ s.turn + 9 := by
  have h1 := nxt_turn s 8
  have h2 := takeL_turn (1 + (s.got 8).toNat) (s.nxt 8)
  have h3 := got8 s
  show (takeL _ _).2.turn ≤ _
  omega
/-- one more word -/
theorem one_more {n many : Nat} {found : List Str} (hn : 64 ≤ n) (hn2 : n + 40 < 900000) (hf : ∀ v ∈ found, IsW v) (hl : found.length < 8) (hm : found.length < many) {B : Int} (hB : B + 20 < 2 ^ n) :
    ∀ (m : Nat) (s : DS) (z : Option D), s.Ok → wordS (itS m s) ∉ found → (∀ j, j ≤ m → (itS j s).turn ≤ B) →
      ∃ x s' z', IsW x ∧ x ∉ found ∧ s'.Ok ∧ s'.cells = s.cells ∧ s'.turn ≤ B + 9 ∧
        whl (denT (sem G fns (k + 3)) G condW) (whB (sem G fns (k + 3)) G bodyW) [some (.ref 1), some (.int many), some (.lst (found.map .str)), z, none] (Dr s) =
        whl (denT (sem G fns (k + 3)) G condW) (whB (sem G fns (k + 3)) G bodyW) [some (.ref 1), some (.int many), some (.lst ((found ++ [x]).map .str)), z', none] (Dr s') := by
  intro m
  induction m with
  | zero =>
    intro s z hs hw hb
    have hb0 := hb 0 (Nat.le_refl _)
    have hb0 : s.turn ≤ B := hb0
    have hw : wordS s ∉ found := hw
    have e : stepW found (wordS s) (altW (wordS s) found.length) = found ++ [wordS s] := by unfold stepW; rw [if_pos hw]
    refine ⟨wordS s, nextS s, some (.str (wordS s)), wordS_isW s, hw, nextS_ok hs, nextS_cells s, by have := nextS_turn s; omega, ?_⟩
    rw [whl_turn, cond_ok, bind_ok, if_pos (decide_eq_true hm), turn_ok hn hn2 hs.t (by omega) hf hl, bind_ok, e]
  | succ m ih =>
    intro s z hs hw hb
    have hb0 := hb 0 (Nat.zero_le _)
    have hb0 : s.turn ≤ B := hb0
    by_cases hw0 : wordS s ∈ found
    · by_cases ha : altW (wordS s) found.length ∈ found
      · have e : stepW found (wordS s) (altW (wordS s) found.length) = found := by
          unfold stepW; rw [if_neg (fun z => z hw0), if_neg (fun z => z.1 ha), List.append_nil]
        obtain ⟨x, s', z', h1, h2, h3, h4, h5, h6⟩ := ih (nextS s) (some (.str (wordS s))) (nextS_ok hs) hw fun j hj => hb (j + 1) (by omega)
        refine ⟨x, s', z', h1, h2, h3, h4.trans (nextS_cells s), h5, ?_⟩
        rw [whl_turn, cond_ok, bind_ok, if_pos (decide_eq_true hm), turn_ok hn hn2 hs.t (by omega) hf hl, bind_ok, e]
        exact h6
      · have e : stepW found (wordS s) (altW (wordS s) found.length) = found ++ [altW (wordS s) found.length] := by
          unfold stepW; rw [if_neg (fun z => z hw0), if_pos ⟨ha, hl⟩]
        refine ⟨_, nextS s, some (.str (wordS s)), alt_isW (wordS_isW s) hl, ha, nextS_ok hs, nextS_cells s, by have := nextS_turn s; omega, ?_⟩
        rw [whl_turn, cond_ok, bind_ok, if_pos (decide_eq_true hm), turn_ok hn hn2 hs.t (by omega) hf hl, bind_ok, e]
    · have e : stepW found (wordS s) (altW (wordS s) found.length) = found ++ [wordS s] := by unfold stepW; rw [if_pos hw0]
      refine ⟨wordS s, nextS s, some (.str (wordS s)), wordS_isW s, hw0, nextS_ok hs, nextS_cells s, by have := nextS_turn s; omega, ?_⟩
      rw [whl_turn, cond_ok, bind_ok, if_pos (decide_eq_true hm), turn_ok hn hn2 hs.t (by omega) hf hl, bind_ok, e]
theorem words_loop {n many : Nat} (hn : 64 ≤ n) (hn2 : n + 40 < 900000) (hm8 : many ≤ 8) : ∀ (d : Nat) (found : List Str) (s : DS) (z : Option D), found.length + d = many → (∀ v ∈ found, IsW v) → found.Nodup → s.Ok → s.turn + (d * 10000000000000000000000000000 : Nat) + 20 < 2 ^ n →
    ∃ (ws : List Str) (s' : DS) (z' : Option D), ws.length = many ∧ (∀ v ∈ ws, IsW v) ∧ ws.Nodup ∧ s'.Ok ∧ s'.cells = s.cells ∧ s'.turn ≤ s.turn + (d * 10000000000000000000000000000 : Nat) ∧
      whl (denT (sem G fns (k + 3)) G condW) (whB (sem G fns (k + 3)) G bodyW) [some (.ref 1), some (.int many), some (.lst (found.map .str)), z, none] (Dr s) = .ok (.nx [some (.ref 1), some (.int many), some (.lst (ws.map .str)), z', none]) (Dr s')
  | 0, found, s, z, hd, hf, hnd, hs, ht => by
    refine ⟨found, s, z, by omega, hf, hnd, hs, rfl, by omega, ?_⟩
    rw [whl_turn, cond_ok, bind_ok, if_neg (by rw [decide_eq_false (by omega)]; decide)]
  | d + 1, found, s, z, hd, hf, hnd, hs, ht => by
    obtain ⟨m, m1, _, m3⟩ := comes_new (found := found) (by omega) hs
    obtain ⟨x, s', z', h1, h2, h3, h4, h5, h6⟩ := one_more (G := G) (k := k) (many := many) hn hn2 hf (by omega) (by omega) (B := s.turn + 9903519516461379889783524533) (by omega) m s z hs m1 m3
    obtain ⟨ws, s2, z2, g1, g2, g3, g4, g5, g6, g7⟩ := words_loop hn hn2 hm8 d (found ++ [x]) s' z' (by rw [List.length_append, List.length_singleton]; omega)
      (fun v hv => by
        rcases List.mem_append.mp hv with hv | hv
        · exact hf v hv
        · rw [List.mem_singleton.mp hv]; exact h1)
      (by
        rw [List.nodup_append]
        exact ⟨hnd, by simp, fun a ha b hb => by rw [List.mem_singleton.mp hb]; exact fun z => h2 (z ▸ ha)⟩) h3 (by omega)
    exact ⟨ws, s2, z2, g1, g2, g3, g4, g5.trans h4, by omega, by rw [h6]; exact g7⟩
end K60

/-! words: sorted -/
namespace K60
open PySem Ev
theorem le_str (a b : Str) : PySem.W.dataLe false encD (.str a) (.str b) = decide (a.cps.toList ≤ b.cps.toList) :=
  (show PySem.W.dataLe false encD (.str a) (.str b) = PySem.W.dataLe false (fun x : Str => PyData.str x) a b from rfl).trans (congrFun (congrFun (PySem.W.dataLe_str (fun x : Str => x)) a) b)
def srt (ws : List Str) : List Str := ws.mergeSort fun a b => decide (a.cps.toList ≤ b.cps.toList)
theorem sort_ok {ws : List Str} (hl : ws.length ≤ 8) : dBi .sorted [.lst (ws.map .str)] = some (.lst ((srt ws).map .str)) := by
  have h : sortOk (ws.map .str) = true := by
    unfold sortOk
    simp only [Bool.and_eq_true, Bool.or_eq_true, List.all_eq_true, decide_eq_true_eq, List.length_map]
    refine ⟨⟨⟨⟨fun d hd => ?_, fun d hd e he => ?_⟩, .inr fun d hd => ?_⟩, fun d hd => ?_⟩, by unfold line; omega⟩
    · obtain ⟨x, _, rfl⟩ := List.mem_map.mp hd; rfl
    · obtain ⟨x, _, rfl⟩ := List.mem_map.mp hd
      obtain ⟨y, _, rfl⟩ := List.mem_map.mp he
      rfl
    · obtain ⟨x, _, rfl⟩ := List.mem_map.mp hd; rfl
    · obtain ⟨x, _, rfl⟩ := List.mem_map.mp hd
      show PyData.depth (.str x) ≤ 60
      simp [PyData.depth]
  unfold dBi
  simp only
  rw [if_pos h]
  unfold srt
  rw [List.map_mergeSort (s := PySem.W.dataLe false encD) fun a _ b _ => (le_str a b).symm]
theorem srt_perm (ws : List Str) : (srt ws).Perm ws := List.mergeSort_perm _ _
theorem srt_up (ws : List Str) : (srt ws).Pairwise fun a b => a.cps.toList ≤ b.cps.toList := by
  refine List.Pairwise.imp (fun h => of_decide_eq_true h) (List.pairwise_mergeSort (le := fun a b : Str => decide (a.cps.toList ≤ b.cps.toList)) (fun a b c h1 h2 => ?_) (fun a b => ?_) ws)
  · exact decide_eq_true (List.le_trans (of_decide_eq_true h1) (of_decide_eq_true h2))
  · rw [Bool.or_eq_true, decide_eq_true_iff, decide_eq_true_iff]
    exact List.le_total _ _
end K60

/-! words: the def -/
namespace K60
open PySem Ev
variable {F : Fs} {G : Gs} {o : Os} {k : Nat}
def Up (ws : List Str) : Prop := ws.Pairwise fun a b => a.cps.toList < b.cps.toList
theorem up_of {l : List Str} (h : l.Pairwise fun a b => a.cps.toList ≤ b.cps.toList) (hn : l.Nodup) : Up l := by
  unfold Up
  induction l with
  | nil => exact .nil
  | cons a l ih =>
    rw [List.pairwise_cons] at h
    rw [List.nodup_cons] at hn
    refine List.pairwise_cons.mpr ⟨fun b hb => ?_, ih h.2 hn.2⟩
    have hle := h.1 b hb
    rcases Classical.em (a.cps.toList < b.cps.toList) with q | q
    · exact q
    · exact absurd (str_ext (List.le_antisymm hle (List.not_lt.mp q)) ▸ hb) hn.1
theorem s_words {n many : Nat} {s : DS} (hn : 64 ≤ n) (hn2 : n + 40 < 900000) (hm8 : many ≤ 8) (hs : s.Ok) (ht : s.turn + (many * 10000000000000000000000000000 : Nat) + 20 < 2 ^ n) :
    ∃ (ws : List Str) (s' : DS), sem G fns (k + 4) 3 [.ref 1, .int many] (Dr s) = .ok (.lst (ws.map .str)) (Dr s') ∧ ws.length = many ∧ (∀ v ∈ ws, IsW v) ∧ Up ws ∧ s'.Ok ∧ s'.cells = s.cells ∧ s'.turn ≤ s.turn + (many * 10000000000000000000000000000 : Nat) := by
  obtain ⟨ws, s', z', g1, g2, g3, g4, g5, g6, g7⟩ := words_loop (G := G) (k := k) hn hn2 hm8 many [] s none (by simp) (by simp) .nil hs ht
  refine ⟨srt ws, s', ?_, by rw [(srt_perm ws).length_eq]; exact g1, fun v hv => g2 v ((srt_perm ws).mem_iff.mp hv), up_of (srt_up ws) ((srt_perm ws).nodup_iff.mpr g3), g4, g5, g6⟩
  have hb : b__law_words = .cons (.asg (.one 2) (.lst .nil)) (.cons (.whl condW bodyW) (.cons (.ret (.bi .sorted (.cons (.var 2) .nil))) .nil)) := rfl
  have e1 : denS (sem G fns (k + 3)) G (.asg (.one 2) (.lst .nil)) [some (.ref 1), some (.int many), none, none, none] (Dr s) = .ok (.nx [some (.ref 1), some (.int many), some (.lst (([] : List Str).map .str)), none, none]) (Dr s) := rfl
  rw [sem_succ f__law_words rfl]
  unfold f__law_words
  rw [hb]
  simp only [runBody, List.length_cons, List.length_nil, List.map_cons, List.map_nil, List.replicate, List.cons_append, List.nil_append, if_true, Nat.reduceAdd, Nat.reduceSub]
  rw [denSs, e1, bind_ok]
  simp only
  rw [denSs, d_whl, g7, bind_ok]
  simp only
  rw [denSs, denS.eq_13, den.eq_18]
  simp only [denEs, den.eq_5, look_0, look_s, of_some, bind_ok, sort_ok (ws := ws) (by omega)]
end K60

/-! the state at the begin, numbers -/
namespace K60
open PySem Ev
variable {F : Fs} {G : Gs} {o : Os} {k : Nat}
def absI (c : Int) : Int := if c < 0 then -c else c
def begDS (ns : List Int) : DS := ⟨(ns.filter fun c => decide (1000000000000000000 ≤ absI c)).map fun c => absI c - 1000000000000000000, ns.map absI, 0, 0⟩
theorem pow18 : powOk 10 18 = true := by decide
theorem pow18v : (10 : Int) ^ (18 : Int).toNat = 1000000000000000000 := by decide

theorem great_loop {ρ : Ev.Env} (hρ : 2 < ρ.length) : ∀ ns : List Int, compLoop (compG F G (.bin .sub (.bi .abs (.cons (.var 2) .nil)) (.bin .pow (.int 10) (.int 18))) (.one 2) (.some (.cmp .ge (.bi .abs (.cons (.var 2) .nil)) (.bin .pow (.int 10) (.int 18)))) ρ) (ns.map .int) o = .ok (((ns.filter fun c => decide (1000000000000000000 ≤ absI c)).map fun c => absI c - 1000000000000000000).map .int) o
  | [] => rfl
  | c :: ns => by
    have hl : look ((wipeE ρ [2]).set 2 (some (.int c))) 2 = some (.int c) := by
      rw [show wipeE ρ [2] = ρ.set 2 none from rfl]
      unfold look
      rw [List.getElem?_set_self (by rw [List.length_set]; exact hρ)]
    have hd : ∀ i : Int, drf o (.int i) = .int i := fun _ => rfl
    have hf : compG F G (.bin .sub (.bi .abs (.cons (.var 2) .nil)) (.bin .pow (.int 10) (.int 18))) (.one 2) (.some (.cmp .ge (.bi .abs (.cons (.var 2) .nil)) (.bin .pow (.int 10) (.int 18)))) ρ (.int c) o = .ok (if 1000000000000000000 ≤ absI c then some (.int (absI c - 1000000000000000000)) else none) o := by
      unfold compG
      by_cases h : 1000000000000000000 ≤ absI c
      · simp only [Ev.T.own, bindT, of_some, bind_ok, denC, den.eq_12, den.eq_18, den.eq_9, den.eq_1, den.eq_5, denEs, hl, dBi, dBin, pow18, if_true, pow18v, hd, dCmp, Option.map_some, dTru, Res.calm, show (if c < 0 then -c else c) = absI c from rfl, h, decide_true]
      · simp only [Ev.T.own, bindT, of_some, bind_ok, denC, den.eq_12, den.eq_18, den.eq_9, den.eq_1, den.eq_5, denEs, hl, dBi, dBin, pow18, if_true, pow18v, hd, dCmp, Option.map_some, dTru, Res.calm, show (if c < 0 then -c else c) = absI c from rfl, h, decide_false, Bool.false_eq_true, if_false]
    rw [List.map_cons, compLoop, hf, bind_ok, great_loop hρ ns, bind_ok, List.filter_cons]
    by_cases h : 1000000000000000000 ≤ absI c
    · rw [if_pos h, if_pos (decide_eq_true h)]; rfl
    · rw [if_neg h, if_neg (by rw [decide_eq_false h]; decide)]
theorem cells_loop {ρ : Ev.Env} (hρ : 2 < ρ.length) : ∀ ns : List Int, compLoop (compG F G (.bi .abs (.cons (.var 2) .nil)) (.one 2) .none ρ) (ns.map .int) o = .ok ((ns.map absI).map .int) o
  | [] => rfl
  | c :: ns => by
    have hl : look ((wipeE ρ [2]).set 2 (some (.int c))) 2 = some (.int c) := by
      rw [show wipeE ρ [2] = ρ.set 2 none from rfl]
      unfold look
      rw [List.getElem?_set_self (by rw [List.length_set]; exact hρ)]
    have hf : compG F G (.bi .abs (.cons (.var 2) .nil)) (.one 2) .none ρ (.int c) o = .ok (some (.int (absI c))) o := by
      unfold compG
      simp only [Ev.T.own, bindT, of_some, bind_ok, denC, den.eq_18, den.eq_5, denEs, hl, dBi, if_true, Res.calm]
      rfl
    rw [List.map_cons, compLoop, hf, bind_ok, cells_loop hρ ns, bind_ok]
    rfl
theorem s_begun (ns : List Int) : sem G fns (k + 1) 1 [.scr (ns.map .int)] [] = .ok (.ref 1) (Dr (begDS ns)) := by
  rw [sem_succ f__law_begun rfl]
  unfold f__law_begun b__law_begun
  simp only [runBody, List.length_cons, List.length_nil, List.map_cons, List.map_nil, List.replicate, List.cons_append, List.nil_append, if_true, Nat.reduceAdd, Nat.reduceSub]
  have e1 : den (sem G fns k) G (.hp (.comp (.bin .sub (.bi .abs (.cons (.var 2) .nil)) (.bin .pow (.int 10) (.int 18))) (.one 2) (.seq (.var 0)) (.some (.cmp .ge (.bi .abs (.cons (.var 2) .nil)) (.bin .pow (.int 10) (.int 18)))))) [some (.scr (ns.map .int)), none, none] [] = .ok (.ref 0) [.lst ((begDS ns).great.map .int)] := by
    rw [den.eq_25, d_comp]
    simp only [denI, den.eq_5, look_0, of_some, bind_ok, dSeq, great_loop (ρ := [some (.scr (ns.map .int)), none, none]) (Nat.lt.base 2)]
    rfl
  have e2 : den (sem G fns k) G (.comp (.bi .abs (.cons (.var 2) .nil)) (.one 2) (.seq (.var 0)) .none) [some (.scr (ns.map .int)), some (.ref 0), none] [.lst ((begDS ns).great.map .int)] = .ok (.lst ((ns.map absI).map .int)) [.lst ((begDS ns).great.map .int)] := by
    rw [d_comp]
    simp only [denI, den.eq_5, look_0, of_some, bind_ok, dSeq, cells_loop (ρ := [some (.scr (ns.map .int)), some (.ref 0), none]) (Nat.lt.base 2)]
  rw [denSs, denS.eq_1, e1, bind_ok]
  simp only [bindT, of_some, bind_ok, List.set_cons_succ, List.set_cons_zero]
  rw [denSs, denS.eq_13, den.eq_23]
  simp only [den.eq_5, den.eq_1, look_0, look_s, of_some, bind_ok, e2]
  rfl
theorem beg_ok {ns : List Int} (h : ns.length ≤ 63) : (begDS ns).Ok := by
  refine ⟨by show (ns.map absI).length < 64; rw [List.length_map]; omega, Int.le_refl _, fun x hx => ?_, Int.le_refl _⟩
  obtain ⟨c, hc, rfl⟩ := List.mem_map.mp hx
  have := of_decide_eq_true (List.mem_filter.mp hc).2
  omega
end K60

/-! numbers drawn -/
namespace K60
open PySem Ev
variable {F : Fs} {G : Gs} {o : Os} {k : Nat}
/-- a state reached from s by few draws -/
structure Reach (s s' : DS) (c : Int) : Prop where
  ok : s'.Ok
  cells : s'.cells = s.cells
  turn : s'.turn ≤ s.turn + c
theorem reach_nxt {s : DS} (h : s.Ok) {r : Int} (hr : 0 < r) : Reach s (s.nxt r) 1 := ⟨nxt_ok h hr, fill_cells s, (nxt_turn s r).2⟩
theorem Reach.trans {a b c : DS} {x y : Int} (h : Reach a b x) (h' : Reach b c y) : Reach a c (x + y) := ⟨h'.ok, h'.cells.trans h.cells, by have := h.turn; have := h'.turn; omega⟩
theorem Reach.refl {s : DS} (h : s.Ok) : Reach s s 0 := ⟨h, rfl, by omega⟩
theorem draw_to {n : Nat} {s : DS} {room : Int} (hn : 64 ≤ n) (hn2 : n + 40 < 900000) (hs : s.Ok) (ht : s.turn + 1 < 2 ^ n) (hr : 0 < room) (hr2 : room < 2 ^ 64) :
    ∃ (g : Int) (s' : DS), sem G fns (k + 2) 4 [.ref 1, .int room] (Dr s) = .ok (.int g) (Dr s') ∧ 0 ≤ g ∧ g < room ∧ Reach s s' 1 :=
  ⟨s.got room, s.nxt room, s_draw (nat_lt (by have := hs.t; omega) (by exact_mod_cast ht)) hn hn2 hr hr2, (got_lt hr).1, (got_lt hr).2, reach_nxt hs hr⟩
theorem pick_to {n : Nat} {s : DS} {ds : List D} (hn : 64 ≤ n) (hn2 : n + 40 < 900000) (hs : s.Ok) (ht : s.turn + 1 < 2 ^ n) (hl : 0 < ds.length) (hl2 : ds.length < 1000) :
    ∃ (d : D) (s' : DS), sem G fns (k + 3) 6 [.ref 1, .lst ds] (Dr s) = .ok d (Dr s') ∧ d ∈ ds ∧ Reach s s' 1 := by
  obtain ⟨d, h1, h2⟩ := s_pick (G := G) (k := k) (s := s) (ds := ds) (nat_lt (b := n) (by have := hs.t; omega) (by exact_mod_cast ht)) hn hn2 hl (by omega)
  exact ⟨d, _, h2, List.mem_of_getElem? h1, reach_nxt hs (by omega)⟩

theorem s_number {n : Nat} {s : DS} {size : Int} (hn : 64 ≤ n) (hn2 : n + 40 < 900000) (hs : s.Ok) (ht : s.turn + 10 < 2 ^ n) (h1 : 1 ≤ size) (h2 : size ≤ 9) :
    ∃ (q : Rat) (s' : DS), sem G fns (k + 4) 13 [.ref 1, .int size] (Dr s) = .ok (Rq q) (Dr s') ∧ Sz 4 q ∧ Reach s s' 4 := by
  obtain ⟨g1, s1, e1, a1, b1, r1⟩ := draw_to (G := G) (k := k + 1) (room := size + 1) hn hn2 hs (by omega) (by omega) (by omega)
  obtain ⟨p, s2, e2, m2, r2⟩ := pick_to (G := G) (k := k) (ds := [.int 1, .int 1, .int 3, .int size]) hn hn2 r1.ok (by have := r1.turn; omega) (by simp) (by simp)
  obtain ⟨pi, rfl, p1, p2⟩ : ∃ pi : Int, p = .int pi ∧ 1 ≤ pi ∧ pi ≤ 9 := by
    simp only [List.mem_cons, List.not_mem_nil, or_false] at m2
    rcases m2 with rfl | rfl | rfl | rfl
    · exact ⟨1, rfl, by decide, by decide⟩
    · exact ⟨1, rfl, by decide, by decide⟩
    · exact ⟨3, rfl, by decide, by decide⟩
    · exact ⟨size, rfl, h1, h2⟩
  obtain ⟨g3, s3, e3, a3, b3, r3⟩ := draw_to (G := G) (k := k + 1) (room := pi) hn hn2 r2.ok (by have := r1.turn; have := r2.turn; omega) (by omega) (by omega)
  obtain ⟨g4, s4, e4, a4, b4, r4⟩ := draw_to (G := G) (k := k + 1) (room := 2) hn hn2 r3.ok (by have := r1.turn; have := r2.turn; have := r3.turn; omega) (by decide) (by decide)
  have hd : (1 + g3 : Int) ≠ 0 := by omega
  have hdb : (1 + g3 : Int).natAbs < 2 ^ 4 := by omega
  have hR : Reach s s4 4 := ((r1.trans r2).trans r3).trans r4
  have hdr : ∀ (i : Int) (oo : Os), drf oo (.int i) = .int i := fun _ _ => rfl
  by_cases h0 : g4 = 0
  · refine ⟨Rat.divInt g1 (1 + g3), s4, ?_, sz_divInt hd (by omega) hdb, hR⟩
    have eq := s_q (G := G) (o := Dr s4) (k := k + 2) (n := g1) hd (pow_mono (gcd_lt hd hdb) (by decide))
    rw [sem_succ f__law_number rfl]
    simp only [f__law_number, b__law_number, runBody, denSs, denS.eq_2, denS.eq_13, den.eq_1, den.eq_5, den.eq_8, den.eq_9, den.eq_12, den.eq_16, den.eq_17, denEs, bind_ok, of_some, look_0, look_s, List.length_cons, List.length_nil, List.map_cons, List.map_nil, List.replicate, List.cons_append, List.nil_append, if_true, dBin, List.set_cons_zero, List.set_cons_succ, Nat.reduceAdd, Nat.reduceSub, e1, e2, e3, e4, hdr, eq_int, h0, decide_true, Option.map_some, dTru, eq]
  · refine ⟨Rat.divInt (0 - g1) (1 + g3), s4, ?_, sz_divInt hd (by omega) hdb, hR⟩
    have eq := s_q (G := G) (o := Dr s4) (k := k + 2) (n := 0 - g1) hd (pow_mono (gcd_lt hd hdb) (by decide))
    rw [sem_succ f__law_number rfl]
    simp only [f__law_number, b__law_number, runBody, denSs, denS.eq_2, denS.eq_13, den.eq_1, den.eq_5, den.eq_8, den.eq_9, den.eq_12, den.eq_16, den.eq_17, denEs, bind_ok, of_some, look_0, look_s, List.length_cons, List.length_nil, List.map_cons, List.map_nil, List.replicate, List.cons_append, List.nil_append, if_true, dBin, List.set_cons_zero, List.set_cons_succ, Nat.reduceAdd, Nat.reduceSub, e1, e2, e3, e4, hdr, eq_int, h0, decide_false, Bool.false_eq_true, if_false, Option.map_some, dTru, eq]
theorem s_ld {n : Nat} {s : DS} {top : Int} (hn : 64 ≤ n) (hn2 : n + 40 < 900000) (hs : s.Ok) (ht : s.turn + 10 < 2 ^ n) (h1 : 1 ≤ top) (h2 : top ≤ 7) :
    ∃ (q : Rat) (s' : DS), sem G fns (k + 4) 40 [.ref 1, .int top] (Dr s) = .ok (Rq q) (Dr s') ∧ Sz 3 q ∧ 0 < q.num ∧ Reach s s' 2 := by
  obtain ⟨g1, s1, e1, a1, b1, r1⟩ := draw_to (G := G) (k := k + 1) (room := top) hn hn2 hs (by omega) (by omega) (by omega)
  obtain ⟨p, s2, e2, m2, r2⟩ := pick_to (G := G) (k := k) (ds := [.int 1, .int 1, .int 1, .int 2, .int 3]) hn hn2 r1.ok (by have := r1.turn; omega) (by decide) (by decide)
  obtain ⟨pi, rfl, p1, p2⟩ : ∃ pi : Int, p = .int pi ∧ 1 ≤ pi ∧ pi ≤ 3 := by
    simp only [List.mem_cons, List.not_mem_nil, or_false] at m2
    rcases m2 with rfl | rfl | rfl | rfl | rfl
    · exact ⟨1, rfl, by decide, by decide⟩
    · exact ⟨1, rfl, by decide, by decide⟩
    · exact ⟨1, rfl, by decide, by decide⟩
    · exact ⟨2, rfl, by decide, by decide⟩
    · exact ⟨3, rfl, by decide, by decide⟩
  have hd : pi ≠ 0 := by omega
  have hdb : pi.natAbs < 2 ^ 3 := by omega
  have eq := s_q (G := G) (o := Dr s2) (k := k + 2) (n := 1 + g1) hd (pow_mono (gcd_lt hd hdb) (by decide))
  refine ⟨Rat.divInt (1 + g1) pi, s2, ?_, sz_divInt hd (by omega) hdb, ?_, r1.trans r2⟩
  · rw [sem_succ f__law_ld_amount rfl]
    simp only [f__law_ld_amount, b__law_ld_amount, runBody, denSs, denS.eq_13, den.eq_1, den.eq_5, den.eq_8, den.eq_9, den.eq_17, denEs, bind_ok, of_some, look_0, look_s, List.length_cons, List.length_nil, List.map_cons, List.map_nil, List.replicate, List.cons_append, List.nil_append, if_true, dBin, Nat.reduceAdd, Nat.reduceSub, e1, e2, eq]
  · have hp : 0 < (Rat.divInt (1 + g1) pi).num := by
      rw [Rat.num_divInt, Int.sign_eq_one_of_pos (by omega), Int.one_mul]
      refine Int.ediv_pos_of_pos_of_dvd (by omega) (by omega) ?_
      rw [Int.gcd_comm]; exact Int.gcd_dvd_left _ _
    exact hp
end K60

/-! elimination: the plain side -/
namespace K60
open PySem Ev
theorem rq_inj {a b : Rat} (h : Rq a = Rq b) : a = b := by
  unfold Rq at h
  simp only [D.tup.injEq, List.cons.injEq, D.int.injEq, and_true] at h
  exact Rat.ext h.1 (by exact_mod_cast h.2)
theorem rq_pl (a : Rat) : pl 1 (Rq a) = true := rfl
theorem ne_q {a b : Rat} : dCmp .ne (Rq a) (Rq b) = some (!decide (a = b)) := by
  unfold dCmp
  simp only
  rw [deq_dec (n := 1) (m := 1) (rq_pl a) (rq_pl b) (by decide) (by decide)]
  by_cases h : a = b
  · subst h; simp
  · have : ¬ Rq a = Rq b := fun z => h (rq_inj z)
    simp [h, this]
theorem eq_q {a b : Rat} : dCmp .eq (Rq a) (Rq b) = some (decide (a = b)) := by
  unfold dCmp
  simp only
  rw [deq_dec (n := 1) (m := 1) (rq_pl a) (rq_pl b) (by decide) (by decide)]
  by_cases h : a = b
  · subst h; simp
  · have : ¬ Rq a = Rq b := fun z => h (rq_inj z)
    simp [h, this]
abbrev Row := List Rat
abbrev Mat := List Row
def ent (M : Mat) (i j : Nat) : Rat := (M.getD i []).getD j 0
def clearR (a : Nat) (head line : Row) : Row := List.zipWith (fun p o => p - line.getD a 0 * o) line head
/-- the rows at a and p changed -/
def swapR (M : Mat) (a p : Nat) : Mat := (M.set a (M.getD p [])).set p (M.getD a [])
/-- the first row from a on that is not 0 at a -/
def pivot (n a : Nat) (M : Mat) : Option Nat := ((List.range (n - a)).map (a + ·)).find? fun s => decide (ent M s a ≠ 0)
def stepJ (n a : Nat) (M : Mat) : Option Mat := (pivot n a M).map fun p =>
  let M1 := swapR M a p
  let head := (M1.getD a []).map (· / ent M1 a a)
  (M1.set a head).mapIdx fun s line => if s = a then line else clearR a head line
def jordan (n : Nat) : Nat → Mat → Option Mat
  | 0, M => some M
  | r + 1, M => (stepJ n (n - (r + 1)) M).bind (jordan n r)
end K60

namespace K60
open PySem Ev
variable {F : Fs} {G : Gs} {o : Os} {k : Nat}
def SzR (b : Nat) (l : Row) : Prop := ∀ q ∈ l, Sz b q
theorem idx_row {l : Row} {a : Nat} (h : a < l.length) : dIdx (.lst (l.map Rq)) (.int a) o = some (Rq (l.getD a 0)) := by
  have h' : (a : Int) < l.length := by omega
  simp [dIdx, L2.atI, L2.ixN, h', List.getD, h]
theorem sz_getD {l : Row} {b a : Nat} (h : SzR b l) (ha : a < l.length) : Sz b (l.getD a 0) := by
  have : l.getD a 0 = l[a] := by simp [List.getD, ha]
  rw [this]
  exact h _ (List.getElem_mem ha)
theorem clearR_zip (a : Nat) (head line : Row) : clearR a head line = (line.zip head).map fun p => p.1 - line.getD a 0 * p.2 := by
  unfold clearR
  rw [List.zip_eq_zipWith, List.map_zipWith]
theorem sz_clear {b c a : Nat} {head line : Row} (hl : SzR b line) (hh : SzR c head) (ha : a < line.length) : SzR (b + (b + c) + 1) (clearR a head line) := fun q hq => by
  rw [clearR_zip] at hq
  obtain ⟨p, hp, rfl⟩ := Iff.mp List.mem_map hq
  exact sz_sub (hl _ (List.of_mem_zip (a := p.1) (b := p.2) hp).1) (sz_mul (sz_getD hl ha) (hh _ (List.of_mem_zip (a := p.1) (b := p.2) hp).2))

theorem s_cleared {b c a : Nat} {head line : Row} (hl : SzR b line) (hh : SzR c head) (ha : a < line.length) (h : b + (b + c) ≤ 9000) : sem G fns (k + 3) 29 [.lst (line.map Rq), .lst (head.map Rq), .int a] o = .ok (.lst ((clearR a head line).map Rq)) o := by
  have hs := sz_getD hl ha
  rw [sem_succ f_cleared_of rfl]
  simp only [f_cleared_of, b_cleared_of, runBody, denSs, denS.eq_1, denS.eq_2, denS.eq_3, denS.eq_4, denS.eq_5, denS.eq_6, denS.eq_7, denS.eq_8, denS.eq_9, denS.eq_10, denS.eq_13, denS.eq_14, denS.eq_15, denS.eq_16, denS.eq_17, d_for, d_whl, den.eq_1, den.eq_2, den.eq_3, den.eq_4, den.eq_5, den.eq_6, den.eq_7, den.eq_8, den.eq_9, den.eq_10, den.eq_11, den.eq_12, den.eq_13, den.eq_14, den.eq_15, den.eq_16, den.eq_17, den.eq_18, den.eq_19, den.eq_20, den.eq_21, den.eq_23, den.eq_24, den.eq_25, den.eq_26, den.eq_27, d_comp, denT, denEs, denEO, denC, denI, bind_ok, of_some, look_0, look_s, List.length_cons, List.length_nil, List.map_cons, List.map_nil, List.replicate, List.cons_append, List.nil_append, if_true, dCmp, drf, dTru, dBi, dBin, dNeg, bindT, List.set_cons_zero, List.set_cons_succ, Option.map_some, rq_0, rq_1, Nat.reduceAdd, Nat.reduceSub, idx_row ha, dLs]
  rw [zip_map2 line head, comp_map (g := fun p : Rat × Rat => Rq (p.1 - line.getD a 0 * p.2)) (line.zip head) fun p hp => ?_]
  · simp only [runBody, denSs, denS.eq_1, denS.eq_2, denS.eq_3, denS.eq_4, denS.eq_5, denS.eq_6, denS.eq_7, denS.eq_8, denS.eq_9, denS.eq_10, denS.eq_13, denS.eq_14, denS.eq_15, denS.eq_16, denS.eq_17, d_for, d_whl, den.eq_1, den.eq_2, den.eq_3, den.eq_4, den.eq_5, den.eq_6, den.eq_7, den.eq_8, den.eq_9, den.eq_10, den.eq_11, den.eq_12, den.eq_13, den.eq_14, den.eq_15, den.eq_16, den.eq_17, den.eq_18, den.eq_19, den.eq_20, den.eq_21, den.eq_23, den.eq_24, den.eq_25, den.eq_26, den.eq_27, d_comp, denT, denEs, denEO, denC, denI, bind_ok, of_some, look_0, look_s, List.length_cons, List.length_nil, List.map_cons, List.map_nil, List.replicate, List.cons_append, List.nil_append, if_true, dCmp, drf, dTru, dBi, dBin, dNeg, bindT, List.set_cons_zero, List.set_cons_succ, Option.map_some, rq_0, rq_1, Nat.reduceAdd, Nat.reduceSub]
    rw [clearR_zip, List.map_map]
    rfl
  · obtain ⟨p1, p2⟩ := p
    have h1 := hl _ (List.of_mem_zip hp).1
    have h2 := hh _ (List.of_mem_zip hp).2
    have e1 := s_times (G := G) (o := o) (k := k) hs h2 (by omega)
    have e2 := s_minus (G := G) (o := o) (k := k) h1 (sz_mul hs h2) (by omega) (gcd_sub h1 (sz_mul hs h2) h)
    simp only [compG, Ev.T.own, wipeE, setAll, runBody, denSs, denS.eq_1, denS.eq_2, denS.eq_3, denS.eq_4, denS.eq_5, denS.eq_6, denS.eq_7, denS.eq_8, denS.eq_9, denS.eq_10, denS.eq_13, denS.eq_14, denS.eq_15, denS.eq_16, denS.eq_17, d_for, d_whl, den.eq_1, den.eq_2, den.eq_3, den.eq_4, den.eq_5, den.eq_6, den.eq_7, den.eq_8, den.eq_9, den.eq_10, den.eq_11, den.eq_12, den.eq_13, den.eq_14, den.eq_15, den.eq_16, den.eq_17, den.eq_18, den.eq_19, den.eq_20, den.eq_21, den.eq_23, den.eq_24, den.eq_25, den.eq_26, den.eq_27, d_comp, denT, denEs, denEO, denC, denI, bind_ok, of_some, look_0, look_s, List.length_cons, List.length_nil, List.map_cons, List.map_nil, List.replicate, List.cons_append, List.nil_append, if_true, dCmp, drf, dTru, dBi, dBin, dNeg, bindT, List.set_cons_zero, List.set_cons_succ, Option.map_some, rq_0, rq_1, Nat.reduceAdd, Nat.reduceSub, Res.calm, e1, e2]
end K60

namespace K60
open PySem Ev
variable {F : Fs} {G : Gs} {o : Os} {k : Nat}

theorem s_whole {i : Int} : sem G fns (k + 1) 22 [.int i] o = .ok (.bl true) o := by
  rw [sem_succ f_is_whole rfl]
  simp only [f_is_whole, b_is_whole, runBody, denSs, denS.eq_1, denS.eq_2, denS.eq_3, denS.eq_4, denS.eq_5, denS.eq_6, denS.eq_7, denS.eq_8, denS.eq_9, denS.eq_10, denS.eq_13, denS.eq_14, denS.eq_15, denS.eq_16, denS.eq_17, d_for, d_whl, den.eq_1, den.eq_2, den.eq_3, den.eq_4, den.eq_5, den.eq_6, den.eq_7, den.eq_8, den.eq_9, den.eq_10, den.eq_11, den.eq_12, den.eq_13, den.eq_14, den.eq_15, den.eq_16, den.eq_17, den.eq_18, den.eq_19, den.eq_20, den.eq_21, den.eq_23, den.eq_24, den.eq_25, den.eq_26, den.eq_27, d_comp, denT, denEs, denEO, denC, denI, bind_ok, of_some, look_0, look_s, List.length_cons, List.length_nil, List.map_cons, List.map_nil, List.replicate, List.cons_append, List.nil_append, if_true, dCmp, drf, dTru, dBi, dBin, dNeg, bindT, List.set_cons_zero, List.set_cons_succ, Option.map_some, rq_0, rq_1, Nat.reduceAdd, Nat.reduceSub, dIs, Bool.not_false]
theorem s_ratio {q : Rat} : sem G fns (k + 2) 21 [Rq q] o = .ok (.bl true) o := by
  have hp : decide ((0 : Int) < q.den) = true := decide_eq_true (by have := q.den_pos; omega)
  have hg : ((Int.gcd q.num q.den : Nat) : Int) = 1 := by
    have := q.reduced
    unfold Nat.Coprime at this
    unfold Int.gcd
    rw [Int.natAbs_natCast, this]; rfl
  have hd : ∀ (i : Int), drf o (.int i) = .int i := fun _ => rfl
  have ha : den (sem G fns (k + 1)) G (.bi .all (.cons (.comp (.call 22 (.cons (.var 1) .nil)) (.one 1) (.seq (.var 0)) .none) .nil)) [some (Rq q), none] o = .ok (.bl true) o := by
    have hc : compLoop (compG (sem G fns (k + 1)) G (.call 22 (.cons (.var 1) .nil)) (.one 1) .none [some (Rq q), none]) [.int q.num, .int q.den] o = .ok [.bl true, .bl true] o := by
      simp only [compLoop, compG, Ev.T.own, wipeE, runBody, denSs, denS.eq_1, denS.eq_2, denS.eq_3, denS.eq_4, denS.eq_5, denS.eq_6, denS.eq_7, denS.eq_8, denS.eq_9, denS.eq_10, denS.eq_13, denS.eq_14, denS.eq_15, denS.eq_16, denS.eq_17, d_for, d_whl, den.eq_1, den.eq_2, den.eq_3, den.eq_4, den.eq_5, den.eq_6, den.eq_7, den.eq_8, den.eq_9, den.eq_10, den.eq_11, den.eq_12, den.eq_13, den.eq_14, den.eq_15, den.eq_16, den.eq_17, den.eq_18, den.eq_19, den.eq_20, den.eq_21, den.eq_23, den.eq_24, den.eq_25, den.eq_26, den.eq_27, d_comp, denT, denEs, denEO, denC, denI, bind_ok, of_some, look_0, look_s, List.length_cons, List.length_nil, List.map_cons, List.map_nil, List.replicate, List.cons_append, List.nil_append, if_true, dCmp, drf, dTru, dBi, dBin, dNeg, bindT, List.set_cons_zero, List.set_cons_succ, Option.map_some, rq_0, rq_1, Nat.reduceAdd, Nat.reduceSub, Res.calm, s_whole]
    rw [den.eq_18]
    simp only [denEs, d_comp, denI, den.eq_5, look_0, of_some, bind_ok, Rq, dSeq]
    rw [show [some (D.tup [.int q.num, .int (q.den : Int)]), none] = [some (Rq q), none] from rfl, hc]
    rfl
  rw [sem_succ f_is_ratio rfl]
  unfold f_is_ratio b_is_ratio
  generalize (E.bi .all (.cons (.comp (.call 22 (.cons (.var 1) .nil)) (.one 1) (.seq (.var 0)) .none) .nil)) = A at ha ⊢
  have hi : dIs .tuple (Rq q) = some true := rfl
  have hlen : dBi .len [Rq q] = some (.int 2) := rfl
  have hgc : dBi .gcd [.int q.num, .int q.den] = some (.int 1) := by rw [← hg]; rfl
  have hgt : dCmp .gt (.int (q.den : Int)) (.int 0) = some true := by unfold dCmp; simp only [hp]
  simp only [runBody, List.length_cons, List.length_nil, List.map_cons, List.map_nil, List.replicate, List.cons_append, List.nil_append, if_true, Nat.reduceAdd, Nat.reduceSub, denSs, denS.eq_10, denS.eq_13, denT, den.eq_1, den.eq_5, den.eq_11, den.eq_12, den.eq_14, den.eq_15, den.eq_18, den.eq_19, den.eq_20, denEs, look_0, look_s, of_some, bind_ok, hi, hlen, hgc, hgt, hd, ha, ne_int, eq_int, decide_true, Option.map_some, dTru, Bool.not_true, Bool.not_false, Bool.false_eq_true, if_false, rq_0, rq_1]
theorem all_true (n : Nat) : dBi .all [.lst (List.replicate n (.bl true))] = some (.bl true) := by
  have h : blsOf (List.replicate n (.bl true)) = some (List.replicate n true) := by
    induction n with
    | zero => rfl
    | succ n ih => rw [List.replicate_succ, blsOf, ih]; rfl
  unfold dBi
  simp only [h, Option.map_some]
  congr 2
  simp
theorem s_are_ratios {qs : Row} : sem G fns (k + 3) 24 [.tup (qs.map Rq), .int qs.length] o = .ok (.bl true) o := by
  have hc : compLoop (compG (sem G fns (k + 2)) G (.call 21 (.cons (.var 2) .nil)) (.one 2) .none [some (.tup (qs.map Rq)), some (.int qs.length), none]) (qs.map Rq) o = .ok (qs.map fun _ => .bl true) o :=
    comp_map qs fun q _ => by simp only [compG, Ev.T.own, wipeE, runBody, denSs, denS.eq_1, denS.eq_2, denS.eq_3, denS.eq_4, denS.eq_5, denS.eq_6, denS.eq_7, denS.eq_8, denS.eq_9, denS.eq_10, denS.eq_13, denS.eq_14, denS.eq_15, denS.eq_16, denS.eq_17, d_for, d_whl, den.eq_1, den.eq_2, den.eq_3, den.eq_4, den.eq_5, den.eq_6, den.eq_7, den.eq_8, den.eq_9, den.eq_10, den.eq_11, den.eq_12, den.eq_13, den.eq_14, den.eq_15, den.eq_16, den.eq_17, den.eq_18, den.eq_19, den.eq_20, den.eq_21, den.eq_23, den.eq_24, den.eq_25, den.eq_26, den.eq_27, d_comp, denT, denEs, denEO, denC, denI, bind_ok, of_some, look_0, look_s, List.length_cons, List.length_nil, List.map_cons, List.map_nil, List.replicate, List.cons_append, List.nil_append, if_true, dCmp, drf, dTru, dBi, dBin, dNeg, bindT, List.set_cons_zero, List.set_cons_succ, Option.map_some, rq_0, rq_1, Nat.reduceAdd, Nat.reduceSub, Res.calm, s_ratio]
  have ha : den (sem G fns (k + 2)) G (.bi .all (.cons (.comp (.call 21 (.cons (.var 2) .nil)) (.one 2) (.seq (.var 0)) .none) .nil)) [some (.tup (qs.map Rq)), some (.int qs.length), none] o = .ok (.bl true) o := by
    rw [den.eq_18]
    simp only [denEs, d_comp, denI, den.eq_5, look_0, of_some, bind_ok, dSeq, hc]
    rw [show (qs.map fun _ => D.bl true) = List.replicate qs.length (.bl true) from List.map_const' .., all_true]
    rfl
  have hd : ∀ (i : Int), drf o (.int i) = .int i := fun _ => rfl
  rw [sem_succ f_are_ratios rfl]
  unfold f_are_ratios b_are_ratios
  generalize (E.bi .all (.cons (.comp (.call 21 (.cons (.var 2) .nil)) (.one 2) (.seq (.var 0)) .none) .nil)) = A at ha ⊢
  have hi : dIs .tuple (.tup (qs.map Rq)) = some true := rfl
  have hlen : dBi .len [.tup (qs.map Rq)] = some (.int qs.length) := by unfold dBi; simp only [List.length_map]
  simp only [runBody, List.length_cons, List.length_nil, List.map_cons, List.map_nil, List.replicate, List.cons_append, List.nil_append, if_true, Nat.reduceAdd, Nat.reduceSub, denSs, denS.eq_13, den.eq_1, den.eq_5, den.eq_12, den.eq_14, den.eq_18, den.eq_19, denEs, look_0, look_s, of_some, bind_ok, hi, hlen, hd, ha, eq_int, decide_true, Option.map_some, dTru]
end K60

namespace K60
open PySem Ev
variable {F : Fs} {G : Gs} {o : Os} {k : Nat}
def ABC : Str := "abcdefghijklmnopqrstuvwxyz"
theorem abc_in : ((List.range 26).all fun i => !(Builtin.Str.occurrences ABC ⟨#[97 + i]⟩ 0 ABC.length 1).isEmpty) = true := by decide +kernel
theorem letter_in {c : Nat} (h1 : 97 ≤ c) (h2 : c ≤ 122) : dIn (.str ⟨#[c]⟩) (.str ABC) = some true := by
  have h := List.all_eq_true.mp abc_in (c - 97) (List.mem_range.mpr (by omega))
  rw [show 97 + (c - 97) = c by omega] at h
  unfold dIn
  simp only [h]

theorem s_is_word {w : Str} (hw : IsW w) (hG : G 0 = some (.str ABC)) : sem G fns (k + 1) 19 [.str w] o = .ok (.bl true) o := by
  have hwl : w.length ≤ line := by rw [str_len]; unfold line; have := hw.2.1; omega
  have hd : ∀ (i : Int), drf o (.int i) = .int i := fun _ => rfl
  have hds : ∀ (x : Str), drf o (.str x) = .str x := fun _ => rfl
  have hin : ∀ c ∈ w.cps.toList, dCmp .in_ (.str ⟨#[c]⟩) (.str ABC) = some true := fun c hc => letter_in (hw.2.2 c hc).1 (hw.2.2 c hc).2
  have hc : compLoop (compG (sem G fns k) G (.cmp .in_ (.var 1) (.glb 0)) (.one 1) .none [some (.str w), none]) (w.cps.toList.map fun c => .str ⟨#[c]⟩) o = .ok (w.cps.toList.map fun _ => .bl true) o :=
    comp_map (e := fun c => D.str ⟨#[c]⟩) w.cps.toList fun c hc => by simp only [compG, Ev.T.own, wipeE, denC, bindT, of_some, bind_ok, List.set_cons_zero, List.set_cons_succ, den.eq_12, den.eq_5, den.eq_6, look_0, look_s, hG, hds, hin c hc, Option.map_some, Res.calm, if_true]
  have ha : den (sem G fns k) G (.bi .all (.cons (.comp (.cmp .in_ (.var 1) (.glb 0)) (.one 1) (.seq (.var 0)) .none) .nil)) [some (.str w), none] o = .ok (.bl true) o := by
    rw [den.eq_18]
    simp only [denEs, d_comp, denI, den.eq_5, look_0, of_some, bind_ok, dSeq, if_pos hwl, signs, hc]
    rw [show (w.cps.toList.map fun _ => D.bl true) = List.replicate w.cps.toList.length (.bl true) from List.map_const' .., all_true]
    rfl
  have h1 : dCmp .le (.int 1) (.int w.length) = some true := by unfold dCmp; simp only; rw [decide_eq_true (by rw [str_len]; have := hw.1; omega)]
  have h2 : dCmp .le (.int w.length) (.int 8) = some true := by unfold dCmp; simp only; rw [decide_eq_true (by rw [str_len]; have := hw.2.1; omega)]
  rw [sem_succ f_is_word rfl]
  unfold f_is_word b_is_word
  generalize (E.bi .all (.cons (.comp (.cmp .in_ (.var 1) (.glb 0)) (.one 1) (.seq (.var 0)) .none) .nil)) = A at ha ⊢
  have hi : dIs .str (.str w) = some true := rfl
  have hlen : dBi .len [.str w] = some (.int w.length) := by unfold dBi; simp only [if_pos hwl]
  simp only [runBody, List.length_cons, List.length_nil, List.map_cons, List.map_nil, List.replicate, List.cons_append, List.nil_append, if_true, Nat.reduceAdd, Nat.reduceSub, denSs, denS.eq_13, den.eq_1, den.eq_5, den.eq_13, den.eq_14, den.eq_18, den.eq_19, denEs, look_0, look_s, of_some, bind_ok, hi, hlen, hd, ha, h1, h2, Option.map_some, dTru]
end K60

namespace K60
open PySem Ev
variable {F : Fs} {G : Gs} {o : Os} {k : Nat}
theorem up_zip : ∀ {ws : List Str}, Up ws → ∀ p ∈ ws.zip (ws.drop 1), p.1.cps.toList < p.2.cps.toList
  | [], _, p, hp => by simp at hp
  | [a], _, p, hp => by simp at hp
  | a :: b :: ws, h, p, hp => by
    unfold Up at h
    rw [List.pairwise_cons] at h
    have e : (a :: b :: ws).zip ((a :: b :: ws).drop 1) = (a, b) :: (b :: ws).zip ((b :: ws).drop 1) := rfl
    rw [e] at hp
    rcases Iff.mp List.mem_cons hp with rfl | hp
    · exact h.1 b List.mem_cons_self
    · exact up_zip h.2 p hp
theorem cut_tail {α : Type} (l : List α) (h : 1 ≤ l.length) : cut l (some 1) none = l.drop 1 := by
  unfold cut HT.sIx
  have : min 1 l.length = 1 := by omega
  simp [this]
  refine List.take_of_length_le ?_
  simp

theorem s_are_names {ws : List Str} {most : Int} (hw : ∀ v ∈ ws, IsW v) (hu : Up ws) (h1 : 1 ≤ ws.length) (hm : (ws.length : Int) ≤ most) (hG : G 0 = some (.str ABC)) : sem G fns (k + 2) 18 [.tup (ws.map .str), .int most] o = .ok (.bl true) o := by
  have hd : ∀ (i : Int), drf o (.int i) = .int i := fun _ => rfl
  have hds : ∀ (x : Str), drf o (.str x) = .str x := fun _ => rfl
  have hc : compLoop (compG (sem G fns (k + 1)) G (.call 19 (.cons (.var 4) .nil)) (.one 4) .none [some (.tup (ws.map .str)), some (.int most), none, none, none]) (ws.map .str) o = .ok (ws.map fun _ => .bl true) o :=
    comp_map ws fun w hm => by simp only [compG, Ev.T.own, wipeE, runBody, denSs, denS.eq_1, denS.eq_2, denS.eq_3, denS.eq_4, denS.eq_5, denS.eq_6, denS.eq_7, denS.eq_8, denS.eq_9, denS.eq_10, denS.eq_13, denS.eq_14, denS.eq_15, denS.eq_16, denS.eq_17, d_for, d_whl, den.eq_1, den.eq_2, den.eq_3, den.eq_4, den.eq_5, den.eq_6, den.eq_7, den.eq_8, den.eq_9, den.eq_10, den.eq_11, den.eq_12, den.eq_13, den.eq_14, den.eq_15, den.eq_16, den.eq_17, den.eq_18, den.eq_19, den.eq_20, den.eq_21, den.eq_23, den.eq_24, den.eq_25, den.eq_26, den.eq_27, d_comp, denT, denEs, denEO, denC, denI, bind_ok, of_some, look_0, look_s, List.length_cons, List.length_nil, List.map_cons, List.map_nil, List.replicate, List.cons_append, List.nil_append, if_true, dCmp, drf, dTru, dBi, dBin, dNeg, bindT, List.set_cons_zero, List.set_cons_succ, Option.map_some, rq_0, rq_1, Nat.reduceAdd, Nat.reduceSub, Res.calm, s_is_word (hw w hm) hG]
  have ha : den (sem G fns (k + 1)) G (.bi .all (.cons (.comp (.call 19 (.cons (.var 4) .nil)) (.one 4) (.seq (.var 0)) .none) .nil)) [some (.tup (ws.map .str)), some (.int most), none, none, none] o = .ok (.bl true) o := by
    rw [den.eq_18]
    simp only [denEs, d_comp, denI, den.eq_5, look_0, of_some, bind_ok, dSeq, hc]
    rw [show (ws.map fun _ => D.bl true) = List.replicate ws.length (.bl true) from List.map_const' .., all_true]
    rfl
  have hlt : ∀ p ∈ ws.zip (ws.drop 1), dCmp .lt (.str p.1) (.str p.2) = some true := fun p hp => by unfold dCmp; simp only; rw [decide_eq_true (up_zip hu p hp)]
  have hc2 : compLoop (compG (sem G fns (k + 1)) G (.cmp .lt (.var 2) (.var 3)) (.many [2, 3]) .none [some (.tup (ws.map .str)), some (.int most), none, none, none]) ((ws.zip (ws.drop 1)).map fun p => .tup [.str p.1, .str p.2]) o = .ok ((ws.zip (ws.drop 1)).map fun _ => .bl true) o :=
    comp_map (e := fun p : Str × Str => D.tup [.str p.1, .str p.2]) (ws.zip (ws.drop 1)) fun p hp => by
      simp only [compG, Ev.T.own, wipeE, setAll, denC, bindT, of_some, bind_ok, List.length_cons, List.length_nil, if_true, List.set_cons_zero, List.set_cons_succ, den.eq_12, den.eq_5, look_0, look_s, hds, hlt p hp, Option.map_some, Res.calm]
  have ha2 : den (sem G fns (k + 1)) G (.bi .all (.cons (.comp (.cmp .lt (.var 2) (.var 3)) (.many [2, 3]) (.zip (.var 0) (.slc (.var 0) (.some (.int 1)) .none)) .none) .nil)) [some (.tup (ws.map .str)), some (.int most), none, none, none] o = .ok (.bl true) o := by
    rw [den.eq_18]
    simp only [denEs, d_comp, denI, den.eq_5, den.eq_21, den.eq_1, denEO, look_0, of_some, bind_ok, dSl, dLs]
    rw [cut_tail _ (by rw [List.length_map]; exact h1), ← List.map_drop, zip_map2 ws (ws.drop 1), hc2, bind_ok, bind_ok, bind_ok]
    rw [show ((ws.zip (ws.drop 1)).map fun _ => D.bl true) = List.replicate (ws.zip (ws.drop 1)).length (.bl true) from List.map_const' .., all_true]
    rfl
  have g1 : dCmp .le (.int 1) (.int ws.length) = some true := by unfold dCmp; simp only; rw [decide_eq_true (by omega)]
  have g2 : dCmp .le (.int ws.length) (.int most) = some true := by unfold dCmp; simp only; rw [decide_eq_true hm]
  rw [sem_succ f_are_names rfl]
  unfold f_are_names b_are_names
  generalize (E.bi .all (.cons (.comp (.call 19 (.cons (.var 4) .nil)) (.one 4) (.seq (.var 0)) .none) .nil)) = A at ha ⊢
  generalize (E.bi .all (.cons (.comp (.cmp .lt (.var 2) (.var 3)) (.many [2, 3]) (.zip (.var 0) (.slc (.var 0) (.some (.int 1)) .none)) .none) .nil)) = B at ha2 ⊢
  have hi : dIs .tuple (.tup (ws.map .str)) = some true := rfl
  have hlen : dBi .len [.tup (ws.map .str)] = some (.int ws.length) := by unfold dBi; simp only [List.length_map]
  simp only [runBody, List.length_cons, List.length_nil, List.map_cons, List.map_nil, List.replicate, List.cons_append, List.nil_append, if_true, Nat.reduceAdd, Nat.reduceSub, denSs, denS.eq_10, denS.eq_13, denT, den.eq_1, den.eq_5, den.eq_11, den.eq_13, den.eq_15, den.eq_18, den.eq_19, denEs, look_0, look_s, of_some, bind_ok, hi, hlen, hd, ha, ha2, g1, g2, Option.map_some, dTru, Bool.not_true, Bool.false_eq_true, if_false]
end K60

namespace K60
open PySem Ev
variable {F : Fs} {G : Gs} {o : Os} {k : Nat}

theorem s_are_parts {qs : Row} (h0 : ∀ q ∈ qs, 0 ≤ q.num) : sem G fns (k + 3) 20 [.tup (qs.map Rq), .int qs.length] o = .ok (.bl true) o := by
  have hd : ∀ (i : Int), drf o (.int i) = .int i := fun _ => rfl
  have hge : ∀ q ∈ qs, dCmp .ge (.int q.num) (.int 0) = some true := fun q hq => by unfold dCmp; simp only; rw [decide_eq_true (h0 q hq)]
  have hc : compLoop (compG (sem G fns (k + 2)) G (.and (.call 21 (.cons (.var 2) .nil)) (.cmp .ge (.idx (.var 2) (.int 0)) (.int 0))) (.one 2) .none [some (.tup (qs.map Rq)), some (.int qs.length), none]) (qs.map Rq) o = .ok (qs.map fun _ => .bl true) o :=
    comp_map qs fun q hq => by simp only [compG, Ev.T.own, wipeE, denC, bindT, of_some, bind_ok, List.set_cons_zero, List.set_cons_succ, den.eq_1, den.eq_5, den.eq_12, den.eq_14, den.eq_17, den.eq_20, denEs, look_0, look_s, s_ratio, dTru, rq_0, hd, hge q hq, Option.map_some, Res.calm, if_true]
  have ha : den (sem G fns (k + 2)) G (.bi .all (.cons (.comp (.and (.call 21 (.cons (.var 2) .nil)) (.cmp .ge (.idx (.var 2) (.int 0)) (.int 0))) (.one 2) (.seq (.var 0)) .none) .nil)) [some (.tup (qs.map Rq)), some (.int qs.length), none] o = .ok (.bl true) o := by
    rw [den.eq_18]
    simp only [denEs, d_comp, denI, den.eq_5, look_0, of_some, bind_ok, dSeq, hc]
    rw [show (qs.map fun _ => D.bl true) = List.replicate qs.length (.bl true) from List.map_const' .., all_true]
    rfl
  rw [sem_succ f_are_parts rfl]
  unfold f_are_parts b_are_parts
  generalize (E.bi .all (.cons (.comp (.and (.call 21 (.cons (.var 2) .nil)) (.cmp .ge (.idx (.var 2) (.int 0)) (.int 0))) (.one 2) (.seq (.var 0)) .none) .nil)) = A at ha ⊢
  have hi : dIs .tuple (.tup (qs.map Rq)) = some true := rfl
  have hlen : dBi .len [.tup (qs.map Rq)] = some (.int qs.length) := by unfold dBi; simp only [List.length_map]
  simp only [runBody, List.length_cons, List.length_nil, List.map_cons, List.map_nil, List.replicate, List.cons_append, List.nil_append, if_true, Nat.reduceAdd, Nat.reduceSub, denSs, denS.eq_10, denS.eq_13, denT, den.eq_1, den.eq_5, den.eq_11, den.eq_12, den.eq_15, den.eq_18, den.eq_19, denEs, look_0, look_s, of_some, bind_ok, hi, hlen, hd, ha, ne_int, decide_true, Option.map_some, dTru, Bool.not_true, Bool.false_eq_true, if_false]
end K60

/-! elimination, by columns -/
namespace K60
def swf (a p : Nat) (v : Nat → Rat) (s : Nat) : Rat := if s = p then v a else if s = a then v p else v s
def stp (a p : Nat) (col c : Nat → Rat) (s : Nat) : Rat :=
  if s = a then swf a p c a / swf a p col a else swf a p c s - swf a p col s * (swf a p c a / swf a p col a)
def pvt (n a : Nat) (col : Nat → Rat) : Option Nat := ((List.range (n - a)).map (a + ·)).find? fun s => decide (col s ≠ 0)
def elim (n : Nat) : Nat → (Nat → Nat → Rat) → Option ((Nat → Rat) → Nat → Rat)
  | 0, _ => some id
  | r + 1, L => (pvt n (n - (r + 1)) (L (n - (r + 1)))).bind fun p =>
    (elim n r fun j => stp (n - (r + 1)) p (L (n - (r + 1))) (L j)).map fun E c => E (stp (n - (r + 1)) p (L (n - (r + 1))) c)
theorem pvt_some {n a p : Nat} {col : Nat → Rat} (h : pvt n a col = some p) : a ≤ p ∧ p < n ∧ col p ≠ 0 := by
  unfold pvt at h
  have h1 := List.find?_some h
  have h2 := List.mem_of_find?_eq_some h
  obtain ⟨i, hi, rfl⟩ := List.mem_map.mp h2
  have := List.mem_range.mp hi
  exact ⟨by omega, by omega, by simpa using h1⟩
theorem stp_hom {a p : Nat} {col c : Nat → Rat} (f : Rat) : stp a p col (fun s => f * c s) = fun s => f * stp a p col c s := by
  funext s
  unfold stp swf
  split <;> split <;> (try split) <;> grind
theorem elim_hom {n : Nat} (f : Rat) : ∀ (r : Nat) (L : Nat → Nat → Rat) (E : (Nat → Rat) → Nat → Rat), elim n r L = some E → ∀ c : Nat → Rat, E (fun s => f * c s) = fun s => f * E c s
  | 0, L, E, h, c => by
    rw [elim] at h
    cases h
    rfl
  | r + 1, L, E, h, c => by
    rw [elim] at h
    obtain ⟨p, hp, h⟩ := Option.bind_eq_some_iff.mp h
    obtain ⟨E1, h1, rfl⟩ := Option.map_eq_some_iff.mp h
    simp only
    rw [stp_hom, elim_hom f r _ E1 h1]
def scl (t : Nat) (f : Rat) (c : Nat → Rat) (s : Nat) : Rat := if s = t then f * c s else c s
theorem pvt_scl {n a t : Nat} {f : Rat} {col : Nat → Rat} (hf : f ≠ 0) : pvt n a (scl t f col) = pvt n a col := by
  unfold pvt
  congr 1
  funext s
  unfold scl
  split
  · have : (f * col s = 0) ↔ col s = 0 := by grind
    simp [this]
  · rfl
theorem stp_at {a p : Nat} {f : Rat} {col c : Nat → Rat} (hf : f ≠ 0) (h0 : col p ≠ 0) : stp a p (scl p f col) (scl p f c) = stp a p col c := by
  funext s
  have hw : ∀ v : Nat → Rat, swf a p (scl p f v) a = f * swf a p v a := fun v => by
    unfold swf scl
    by_cases h : a = p <;> simp [h]
  have hs : ∀ v : Nat → Rat, s ≠ a → swf a p (scl p f v) s = swf a p v s := fun v hs => by
    unfold swf scl
    by_cases h : s = p
    · subst h
      have : ¬ a = s := fun z => hs z.symm
      simp [this]
    · simp [h, hs]
  have h1 : swf a p col a ≠ 0 := by
    unfold swf
    split
    · rename_i h; rw [h]; exact h0
    · simpa using h0
  unfold stp
  by_cases h : s = a
  · rw [if_pos h, if_pos h, hw, hw]
    grind
  · rw [if_neg h, if_neg h, hw, hw, hs _ h, hs _ h]
    grind
theorem stp_off {a p t : Nat} {f : Rat} {col c : Nat → Rat} (hta : a ≤ t) (hp : a ≤ p) (ht : t ≠ p) : stp a p (scl t f col) (scl t f c) = scl (if t = a then p else t) f (stp a p col c) := by
  funext s
  have hw : ∀ v : Nat → Rat, swf a p (scl t f v) = scl (if t = a then p else t) f (swf a p v) := fun v => by
    funext s
    unfold swf scl
    grind
  have hz : ∀ v : Nat → Rat, scl (if t = a then p else t) f v a = v a := fun v => by
    unfold scl
    grind
  unfold stp
  rw [hw, hw, hz, hz]
  unfold scl
  grind
theorem elim_same {n r : Nat} {L L' : Nat → Nat → Rat} (h : L = L') : elim n r L = elim n r L' := by rw [h]
theorem elim_scl {n : Nat} {f : Rat} (hf : f ≠ 0) : ∀ (r : Nat) (L : Nat → Nat → Rat) (E : (Nat → Rat) → Nat → Rat) (t : Nat), elim n r L = some E → n - r ≤ t → t < n → r ≤ n →
    ∃ E', elim n r (fun j => scl t f (L j)) = some E' ∧ ∀ c, E' (scl t f c) = E c
  | 0, L, E, t, h, h1, h2, h3 => by omega
  | r + 1, L, E, t, h, h1, h2, h3 => by
    rw [elim] at h
    obtain ⟨p, hp, h⟩ := Option.bind_eq_some_iff.mp h
    obtain ⟨E1, h4, rfl⟩ := Option.map_eq_some_iff.mp h
    obtain ⟨ha, hb, h0⟩ := pvt_some hp
    rw [elim, pvt_scl hf, hp, Option.bind_some]
    by_cases htp : t = p
    · subst htp
      refine ⟨_, by rw [elim_same (funext fun j => stp_at hf h0), h4]; rfl, fun c => ?_⟩
      simp only
      rw [stp_at hf h0]
    · obtain ⟨E', e1, e2⟩ := elim_scl hf r _ E1 (if t = n - (r + 1) then p else t) h4 (by split <;> omega) (by split <;> omega) (by omega)
      refine ⟨_, by rw [elim_same (funext fun j => stp_off h1 ha htp), e1]; rfl, fun c => ?_⟩
      simp only
      rw [stp_off h1 ha htp, e2]

/-! the same on lists of rows -/
def Rect (n w : Nat) (M : Mat) : Prop := M.length = n ∧ ∀ l ∈ M, l.length = w
def colf (M : Mat) (j s : Nat) : Rat := ent M s j
theorem getD_mem {α : Type} {l : List α} {i : Nat} {d : α} (h : i < l.length) : l.getD i d ∈ l := by
  rw [List.getD_eq_getElem?_getD, List.getElem?_eq_getElem h]; exact List.getElem_mem h
theorem rect_row {n w s : Nat} {M : Mat} (h : Rect n w M) (hs : s < n) : (M.getD s []).length = w := h.2 _ (getD_mem (by rw [h.1]; exact hs))
theorem ent_out {n w s j : Nat} {M : Mat} (h : Rect n w M) (hs : n ≤ s ∨ w ≤ j) : ent M s j = 0 := by
  unfold ent
  by_cases h1 : s < n
  · have h2 := rect_row h h1
    rw [List.getD_eq_getElem?_getD (l := List.getD _ _ _), List.getElem?_eq_none (by omega)]; rfl
  · rw [List.getD_eq_getElem?_getD (l := M), List.getElem?_eq_none (by rw [h.1]; omega)]; rfl
theorem swap_rect {n w a p : Nat} {M : Mat} (h : Rect n w M) (ha : a < n) (hp : p < n) : Rect n w (swapR M a p) := by
  refine ⟨by simp [swapR, h.1], fun l hl => ?_⟩
  unfold swapR at hl
  rcases List.mem_or_eq_of_mem_set hl with hl | rfl
  · rcases List.mem_or_eq_of_mem_set hl with hl | rfl
    · exact h.2 _ hl
    · exact rect_row h hp
  · exact rect_row h ha
theorem swap_ent {n w a p : Nat} {M : Mat} (h : Rect n w M) (ha : a < n) (hp : p < n) (s j : Nat) : ent (swapR M a p) s j = swf a p (colf M j) s := by
  have hl := h.1
  unfold ent swapR swf colf ent
  by_cases h1 : s = p
  · subst h1
    simp [List.getD_eq_getElem?_getD, List.getElem?_set, hl, hp, ha]
  · by_cases h2 : s = a
    · subst h2
      have : ¬ p = s := fun z => h1 z.symm
      simp [List.getD_eq_getElem?_getD, List.getElem?_set, hl, hp, ha, this, h1]
    · have h3 : ¬ p = s := fun z => h1 z.symm
      have h4 : ¬ a = s := fun z => h2 z.symm
      simp [List.getD_eq_getElem?_getD, List.getElem?_set, hl, hp, ha, h1, h2, h3, h4]
theorem clear_len {w a : Nat} {head line : Row} (h1 : head.length = w) (h2 : line.length = w) : (clearR a head line).length = w := by
  simp [clearR, h1, h2]
theorem clear_get {w a j : Nat} {head line : Row} (h1 : head.length = w) (h2 : line.length = w) : (clearR a head line).getD j 0 = line.getD j 0 - line.getD a 0 * head.getD j 0 := by
  unfold clearR
  by_cases hj : j < w
  · simp [List.getD_eq_getElem?_getD, List.getElem?_zipWith, h1, h2, hj]
  · simp [List.getD_eq_getElem?_getD, List.getElem?_zipWith, h1, h2, hj]
    grind
theorem pivot_eq {n a : Nat} {M : Mat} : pivot n a M = pvt n a (colf M a) := rfl
theorem step_rect {n w a : Nat} {M M' : Mat} (h : Rect n w M) (ha : a < n) (hM : stepJ n a M = some M') : Rect n w M' := by
  unfold stepJ at hM
  obtain ⟨p, hp, rfl⟩ := Option.map_eq_some_iff.mp hM
  obtain ⟨q1, q2, q3⟩ := pvt_some hp
  have hr := swap_rect h ha q2
  refine ⟨by simp [hr.1], fun l hl => ?_⟩
  have hh : (List.map (fun x => x / ent (swapR M a p) a a) ((swapR M a p).getD a [])).length = w := by
    rw [List.length_map]; exact rect_row hr ha
  obtain ⟨i, hi, rfl⟩ := List.mem_iff_getElem.mp hl
  rw [List.getElem_mapIdx]
  have hm : ((swapR M a p).set a (List.map (fun x => x / ent (swapR M a p) a a) ((swapR M a p).getD a [])))[i]'(by simpa using hi) ∈ ((swapR M a p).set a (List.map (fun x => x / ent (swapR M a p) a a) ((swapR M a p).getD a []))) := List.getElem_mem _
  have hw : (((swapR M a p).set a (List.map (fun x => x / ent (swapR M a p) a a) ((swapR M a p).getD a [])))[i]'(by simpa using hi)).length = w := by
    rcases List.mem_or_eq_of_mem_set hm with hl | hl
    · exact hr.2 _ hl
    · rw [hl]; exact hh
  split
  · exact hw
  · exact clear_len hh hw
theorem step_ent {n w a p : Nat} {M : Mat} (h : Rect n w M) (ha : a < n) (hp : p < n) (s j : Nat) :
    ent (((swapR M a p).set a (((swapR M a p).getD a []).map (· / ent (swapR M a p) a a))).mapIdx fun s line => if s = a then line else clearR a (((swapR M a p).getD a []).map (· / ent (swapR M a p) a a)) line) s j
     = stp a p (colf M a) (colf M j) s := by
  have hr := swap_rect h ha hp
  have hh : (((swapR M a p).getD a []).map (· / ent (swapR M a p) a a)).length = w := by
    rw [List.length_map]; exact rect_row hr ha
  have hg : ∀ j, (((swapR M a p).getD a []).map (· / ent (swapR M a p) a a)).getD j 0 = swf a p (colf M j) a / swf a p (colf M a) a := fun j => by
    rw [← swap_ent h ha hp, ← swap_ent h ha hp]
    unfold ent
    rw [List.getD_eq_getElem?_getD, List.getElem?_map, List.getD_eq_getElem?_getD (l := ((swapR M a p).getD a [])) (i := j)]
    cases ((swapR M a p).getD a [])[j]? with
    | none => simp; grind
    | some x => rfl
  generalize (((swapR M a p).getD a []).map (· / ent (swapR M a p) a a)) = head at *
  unfold stp
  by_cases hs : s < n
  · by_cases h1 : s = a
    · subst h1
      rw [if_pos rfl, ← hg]
      unfold ent
      rw [List.getD_eq_getElem?_getD (l := List.mapIdx _ _), List.getElem?_mapIdx, List.getElem?_set_self (by rw [hr.1]; exact ha)]
      simp
    · rw [if_neg h1, ← hg, ← swap_ent h ha hp, ← swap_ent h ha hp]
      have hl := rect_row hr hs
      unfold ent
      rw [List.getD_eq_getElem?_getD (l := List.mapIdx _ _), List.getElem?_mapIdx, List.getElem?_set_ne (fun z => h1 z.symm), List.getElem?_eq_getElem (by rw [hr.1]; exact hs)]
      simp only [Option.map_some, Option.getD_some, if_neg h1]
      have e : (swapR M a p).getD s [] = (swapR M a p)[s]'(by rw [hr.1]; exact hs) := by
        rw [List.getD_eq_getElem?_getD, List.getElem?_eq_getElem (by rw [hr.1]; exact hs)]; rfl
      rw [e] at hl ⊢
      exact clear_get hh hl
  · have h1 : ¬ s = a := by omega
    have h2 : ¬ s = p := by omega
    rw [if_neg h1]
    have e : ∀ j, swf a p (colf M j) s = 0 := fun j => by
      unfold swf; rw [if_neg h2, if_neg h1]; exact ent_out h (by omega)
    rw [e, e]
    have : ent (((swapR M a p).set a head).mapIdx fun s line => if s = a then line else clearR a head line) s j = 0 := by
      unfold ent
      rw [List.getD_eq_getElem?_getD (l := List.mapIdx _ _), List.getElem?_eq_none (by simp [hr.1]; omega)]; rfl
    rw [this]; grind
theorem jordan_elim {n w : Nat} : ∀ (r : Nat) (M : Mat), Rect n w M → r ≤ n →
    (jordan n r M = none ∧ elim n r (colf M) = none) ∨ ∃ M' E, jordan n r M = some M' ∧ elim n r (colf M) = some E ∧ Rect n w M' ∧ ∀ j, colf M' j = E (colf M j)
  | 0, M, h, _ => .inr ⟨M, id, rfl, rfl, h, fun _ => rfl⟩
  | r + 1, M, h, hr => by
    have hstep : stepJ n (n - (r + 1)) M = (pivot n (n - (r + 1)) M).map fun p => ((swapR M (n - (r + 1)) p).set (n - (r + 1)) (((swapR M (n - (r + 1)) p).getD (n - (r + 1)) []).map (· / ent (swapR M (n - (r + 1)) p) (n - (r + 1)) (n - (r + 1))))).mapIdx fun s line => if s = (n - (r + 1)) then line else clearR (n - (r + 1)) (((swapR M (n - (r + 1)) p).getD (n - (r + 1)) []).map (· / ent (swapR M (n - (r + 1)) p) (n - (r + 1)) (n - (r + 1)))) line := rfl
    rw [jordan, elim, ← pivot_eq]
    have ha : n - (r + 1) < n := by omega
    generalize n - (r + 1) = a at *
    cases hp : pivot n a M with
    | none =>
      rw [hstep, hp]
      exact .inl ⟨rfl, rfl⟩
    | some p =>
      obtain ⟨q1, q2, q3⟩ := pvt_some hp
      rw [hp, Option.map_some] at hstep
      have hR := step_rect h ha hstep
      have hc := step_ent h ha q2
      rw [hstep, Option.bind_some, Option.bind_some]
      generalize (List.mapIdx (fun s line => if s = a then line else clearR a (((swapR M a p).getD a []).map (· / ent (swapR M a p) a a)) line) ((swapR M a p).set a (((swapR M a p).getD a []).map (· / ent (swapR M a p) a a)))) = M1 at *
      have e : (fun j => stp a p (colf M a) (colf M j)) = colf M1 := by
        funext j s
        exact (hc s j).symm
      rw [e]
      rcases jordan_elim r M1 hR (by omega) with ⟨h1, h2⟩ | ⟨M', E, h1, h2, h3, h4⟩
      · exact .inl ⟨h1, by rw [h2]; rfl⟩
      · refine .inr ⟨M', _, h1, by rw [h2]; rfl, h3, fun j => ?_⟩
        rw [h4]
        exact congrArg E (congrFun e j).symm
end K60

namespace K60
open PySem Ev
variable {F : Fs} {G : Gs} {o : Os} {k : Nat}
theorem drf_int {i : Int} : drf o (.int i) = .int i := rfl
theorem drf_bl {i : Bool} : drf o (.bl i) = .bl i := rfl
theorem drf_tup {i : List D} : drf o (.tup i) = .tup i := rfl
theorem drf_lst {i : List D} : drf o (.lst i) = .lst i := rfl
theorem drf_str {i : Str} : drf o (.str i) = .str i := rfl
theorem drf_non : drf o .non = .non := rfl
theorem drf_q {q : Rat} : drf o (Rq q) = Rq q := rfl
abbrev DL (l : Row) : D := .lst (l.map Rq)
def DM (M : Mat) : D := .lst (M.map DL)
theorem ix_list {l : List D} {i : Nat} {d : D} (h : l[i]? = some d) : dIdx (.lst l) (.int i) o = some d := by
  obtain ⟨hi, rfl⟩ := List.getElem?_eq_some_iff.mp h
  have h' : (i : Int) < l.length := by omega
  simp [dIdx, L2.atI, L2.ixN, h', hi]
theorem ix_M {M : Mat} {i : Nat} (h : i < M.length) : dIdx (DM M) (.int i) o = some (DL (M.getD i [])) := by
  unfold DM
  refine ix_list ?_
  simp [List.getD, h]
theorem comp_filter {α : Type} {f : D → Os → Res (Option D)} {e g : α → D} {p : α → Bool} : ∀ (l : List α), (∀ a ∈ l, f (e a) o = .ok (if p a = true then some (g a) else none) o) → compLoop f (l.map e) o = .ok ((l.filter p).map g) o
  | [], _ => rfl
  | a :: l, h => by
    rw [List.map_cons, compLoop, h a List.mem_cons_self, bind_ok, comp_filter l fun b hb => h b (List.mem_cons_of_mem _ hb), bind_ok]
    by_cases hp : p a = true
    · rw [if_pos hp, List.filter_cons_of_pos hp]; rfl
    · rw [if_neg hp, List.filter_cons_of_neg hp]
theorem rng_ok {a n : Nat} (hn : n < 1000000) (ha : a ≤ n) : rngOk a n = true := by
  unfold rngOk line
  simp -implicitDefEqProofs only [decide_eq_true_eq, Bool.and_eq_true]
  omega
theorem rng_map (a n : Nat) : dRng a n = ((List.range (n - a)).map (a + ·)).map fun i : Nat => .int i := by
  unfold dRng
  have : ((n : Int) - (a : Int)).toNat = n - a := by omega
  rw [this, List.map_map]
  refine List.map_congr_left (fun i hi => ?_)
  simp
theorem enu_map {α : Type} {e : α → D} : ∀ (l : List α) (i : Nat), dEnu i (l.map e) = (l.zipIdx i).map fun p => .tup [.int p.2, e p.1]
  | [], _ => rfl
  | a :: l, i => by rw [List.map_cons, dEnu, enu_map l]; rfl
theorem isL_0 {ρ : Ev.Env} {i : Nat} {l : List D} (h : look ρ i = some (.lst l)) : isL ρ i = true := by
  unfold isL; rw [h]
theorem setAt_0 {ρ : Ev.Env} {i j : Nat} {l : List D} {d : D} (h : look ρ i = some (.lst l)) (hj : j < l.length) : setAt ρ i (.int j) d = some (ρ.set i (some (.lst (l.set j d)))) := by
  have h' : (j : Int) < l.length := by omega
  unfold setAt
  rw [h]
  simp [L2.ixN, h']
def invB : Ev.Ss := match b_inverse_of with
  | .cons _ (.cons _ (.cons (.for _ _ b) _)) => b
  | _ => .nil
theorem find_head {α : Type} {p : α → Bool} : ∀ l : List α, l.find? p = (l.filter p).head?
  | [] => rfl
  | a :: l => by
    by_cases h : p a = true
    · rw [List.find?_cons_of_pos h, List.filter_cons_of_pos h]; rfl
    · rw [List.find?_cons_of_neg h, List.filter_cons_of_neg h, find_head l]
theorem lst_ne (l : List Nat) : dCmp .eq (.lst (l.map fun i : Nat => .int i)) (.lst []) = some l.isEmpty := by
  unfold dCmp
  simp -implicitDefEqProofs only
  have hp : pl 1 (.lst (l.map fun i : Nat => .int i)) = true := by
    unfold pl
    induction l with
    | nil => rfl
    | cons a l ih => rw [List.map_cons, pls, ih]; rfl
  rw [deq_dec (n := 1) (m := 1) hp rfl (by decide) (by decide)]
  cases l <;> simp
def SzM (b : Nat) (M : Mat) : Prop := ∀ l ∈ M, SzR b l
theorem ent_getD {M : Mat} {i j : Nat} : ent M i j = (M.getD i []).getD j 0 := rfl
theorem getD_map {α β : Type} {f : α → β} {l : List α} {i : Nat} {d : α} : (l.map f)[i]? = (l[i]?).map f := List.getElem?_map
theorem DM_set {M : Mat} {i : Nat} {l : Row} : (M.map DL).set i (DL l) = (M.set i l).map DL := by rw [List.map_set]
end K60

namespace K60
open PySem Ev
variable {F : Fs} {G : Gs} {o : Os} {k : Nat}
theorem ss_nx {s : Ev.S} {ss : Ev.Ss} {ρ ρ' : Ev.Env} {o o' : Os} (h : denS F G s ρ o = .ok (.nx ρ') o') : denSs F G (.cons s ss) ρ o = denSs F G ss ρ' o' := by
  rw [denSs, h]; rfl
theorem ss_ret {s : Ev.S} {ss : Ev.Ss} {ρ : Ev.Env} {o o' : Os} {d : D} (h : denS F G s ρ o = .ok (.ret d) o') : denSs F G (.cons s ss) ρ o = .ok (.ret d) o' := by
  rw [denSs, h]; rfl
theorem ss_ct {s : Ev.S} {ss : Ev.Ss} {ρ ρ' : Ev.Env} {o o' : Os} (h : denS F G s ρ o = .ok (.ct ρ') o') : denSs F G (.cons s ss) ρ o = .ok (.ct ρ') o' := by
  rw [denSs, h]; rfl
theorem look_at {M : Mat} {s a : Nat} {n w : Nat} (hM : Rect n w M) (hs : s < n) (ha : a < w) : dIdx (DL (M.getD s [])) (.int a) o = some (Rq (ent M s a)) := by
  have := rect_row hM hs
  exact idx_row (l := M.getD s []) (a := a) (by omega)
theorem inv_spots {n w a : Nat} {M : Mat} (hM : Rect n w M) (ha : a < n) (hw : a < w) (hG : G 4 = some (Rq 0)) (r z4 z5 z6 z7 z8 z9 z10 : Option D) :
    compLoop (compG F G (.var 8) (.one 8) (.some (.cmp .ne (.idx (.idx (.var 2) (.var 8)) (.var 3)) (.glb 4))) [r, some (.int n), some (DM M), some (.int a), z4, z5, z6, z7, z8, z9, z10]) (dRng a n) o = .ok ((((List.range (n - a)).map (a + ·)).filter fun s => decide (ent M s a ≠ 0)).map fun i : Nat => .int i) o := by
  rw [rng_map]
  refine comp_filter _ fun s hs => ?_
  obtain ⟨i, hi, rfl⟩ := List.mem_map.mp hs
  have hi := List.mem_range.mp hi
  have hsn : a + i < n := by omega
  generalize a + i = s at *
  have e1 := ix_M (o := o) (M := M) (i := s) (by rw [hM.1]; exact hsn)
  have e2 := look_at (o := o) hM hsn hw
  simp -implicitDefEqProofs only [compG, runBody, denSs, denS.eq_1, denS.eq_2, denS.eq_3, denS.eq_4, denS.eq_5, denS.eq_6, denS.eq_7, denS.eq_8, denS.eq_9, denS.eq_10, denS.eq_13, denS.eq_14, denS.eq_15, denS.eq_16, denS.eq_17, d_for, d_whl, den.eq_1, den.eq_2, den.eq_3, den.eq_4, den.eq_5, den.eq_6, den.eq_7, den.eq_8, den.eq_9, den.eq_10, den.eq_11, den.eq_12, den.eq_13, den.eq_14, den.eq_15, den.eq_16, den.eq_17, den.eq_18, den.eq_19, den.eq_20, den.eq_21, den.eq_23, den.eq_24, den.eq_25, den.eq_26, den.eq_27, d_comp, denT, denEs, denEO, denC, denI, bind_ok, of_some, look_0, look_s, List.length_cons, List.length_nil, List.map_cons, List.map_nil, List.replicate, List.cons_append, List.nil_append, if_true, drf_int, drf_bl, drf_tup, drf_lst, drf_non, drf_str, drf_q, Ev.T.own, wipeE, setAll, dTru, dBi, dBin, dNeg, bindT, List.set_cons_zero, List.set_cons_succ, Option.map_some, rq_0, rq_1, Nat.reduceAdd, Nat.reduceSub, e1, e2, hG, Res.calm, ne_q]
  by_cases h : ent M s a = 0 <;> simp [h]
end K60

namespace K60
open PySem Ev
variable {F : Fs} {G : Gs} {o : Os} {k : Nat}
theorem sz_swap {b n w a p : Nat} {M : Mat} (h : SzM b M) (hM : Rect n w M) (ha : a < n) (hp : p < n) : SzM b (swapR M a p) := fun l hl => by
  unfold swapR at hl
  rcases List.mem_or_eq_of_mem_set hl with hl | rfl
  · rcases List.mem_or_eq_of_mem_set hl with hl | rfl
    · exact h _ hl
    · exact h _ (getD_mem (by rw [hM.1]; exact hp))
  · exact h _ (getD_mem (by rw [hM.1]; exact ha))
theorem inv_head {b : Nat} {l : Row} {q : Rat} (hl : SzR b l) (hq : Sz b q) (h0 : q ≠ 0) (hb : b + b ≤ 9000) (r z1 z2 z3 z4 z6 z7 z8 z9 z10 : Option D) :
    compLoop (compG (sem G fns (k + 2)) G (.call 27 (.cons (.var 9) (.cons (.var 5) .nil))) (.one 9) .none [r, z1, z2, z3, z4, some (Rq q), z6, z7, z8, z9, z10]) (l.map Rq) o = .ok ((l.map (· / q)).map Rq) o := by
  rw [comp_map (g := fun p : Rat => Rq (p / q)) l fun p hp => ?_]
  · rw [List.map_map]; rfl
  · have e1 := s_over (G := G) (o := o) (k := k) (hl p hp) hq hb h0
    simp -implicitDefEqProofs only [compG, runBody, denSs, denS.eq_1, denS.eq_2, denS.eq_3, denS.eq_4, denS.eq_5, denS.eq_6, denS.eq_7, denS.eq_8, denS.eq_9, denS.eq_10, denS.eq_13, denS.eq_14, denS.eq_15, denS.eq_16, denS.eq_17, d_for, d_whl, den.eq_1, den.eq_2, den.eq_3, den.eq_4, den.eq_5, den.eq_6, den.eq_7, den.eq_8, den.eq_9, den.eq_10, den.eq_11, den.eq_12, den.eq_13, den.eq_14, den.eq_15, den.eq_16, den.eq_17, den.eq_18, den.eq_19, den.eq_20, den.eq_21, den.eq_23, den.eq_24, den.eq_25, den.eq_26, den.eq_27, d_comp, denT, denEs, denEO, denC, denI, bind_ok, of_some, look_0, look_s, List.length_cons, List.length_nil, List.map_cons, List.map_nil, List.replicate, List.cons_append, List.nil_append, if_true, drf_int, drf_bl, drf_tup, drf_lst, drf_non, drf_str, drf_q, Ev.T.own, wipeE, setAll, dTru, dBi, dBin, dNeg, bindT, List.set_cons_zero, List.set_cons_succ, Option.map_some, rq_0, rq_1, Nat.reduceAdd, Nat.reduceSub, e1, Res.calm]
theorem inv_clear {b a n w : Nat} {M : Mat} {head : Row} (hM : Rect n w M) (hw : a < w) (hc : SzR (b + b) head) (hb : ∀ p ∈ M.zipIdx, p.2 ≠ a → SzR b p.1) (hs : b + (b + (b + b)) ≤ 9000) (r z1 z2 z4 z5 z7 z8 z9 z10 : Option D) :
    compLoop (compG (sem G fns (k + 3)) G (.ite (.cmp .eq (.var 8) (.var 3)) (.var 10) (.call 29 (.cons (.var 10) (.cons (.var 6) (.cons (.var 3) .nil))))) (.many [8, 10]) .none [r, z1, z2, some (.int a), z4, z5, some (DL head), z7, z8, z9, z10]) (dEnu 0 (M.map DL)) o = .ok ((M.mapIdx fun s line => if s = a then line else clearR a head line).map DL) o := by
  rw [enu_map, comp_map (g := fun p : Row × Nat => DL (if p.2 = a then p.1 else clearR a head p.1)) _ fun p hp => ?_]
  · rw [List.mapIdx_eq_zipIdx_map, List.map_map]; rfl
  · obtain ⟨l, s⟩ := p
    have hm : l ∈ M := by
      have := List.mem_zipIdx_iff_getElem?.mp hp
      exact List.mem_of_getElem? this
    by_cases h : s = a
    · subst h
      simp -implicitDefEqProofs only [compG, runBody, denSs, denS.eq_1, denS.eq_2, denS.eq_3, denS.eq_4, denS.eq_5, denS.eq_6, denS.eq_7, denS.eq_8, denS.eq_9, denS.eq_10, denS.eq_13, denS.eq_14, denS.eq_15, denS.eq_16, denS.eq_17, d_for, d_whl, den.eq_1, den.eq_2, den.eq_3, den.eq_4, den.eq_5, den.eq_6, den.eq_7, den.eq_8, den.eq_9, den.eq_10, den.eq_11, den.eq_12, den.eq_13, den.eq_14, den.eq_15, den.eq_16, den.eq_17, den.eq_18, den.eq_19, den.eq_20, den.eq_21, den.eq_23, den.eq_24, den.eq_25, den.eq_26, den.eq_27, d_comp, denT, denEs, denEO, denC, denI, bind_ok, of_some, look_0, look_s, List.length_cons, List.length_nil, List.map_cons, List.map_nil, List.replicate, List.cons_append, List.nil_append, if_true, drf_int, drf_bl, drf_tup, drf_lst, drf_non, drf_str, drf_q, Ev.T.own, wipeE, setAll, dTru, dBi, dBin, dNeg, bindT, List.set_cons_zero, List.set_cons_succ, Option.map_some, rq_0, rq_1, Nat.reduceAdd, Nat.reduceSub, Res.calm, eq_int, decide_true]
    · have h' : ¬ ((s : Int) = (a : Int)) := by omega
      have e1 := s_cleared (G := G) (o := o) (k := k) (a := a) (hb _ hp h) hc (by rw [hM.2 _ hm]; exact hw) (by omega)
      have hf : (false = true) = False := by simp
      simp -implicitDefEqProofs only [compG, runBody, denSs, denS.eq_1, denS.eq_2, denS.eq_3, denS.eq_4, denS.eq_5, denS.eq_6, denS.eq_7, denS.eq_8, denS.eq_9, denS.eq_10, denS.eq_13, denS.eq_14, denS.eq_15, denS.eq_16, denS.eq_17, d_for, d_whl, den.eq_1, den.eq_2, den.eq_3, den.eq_4, den.eq_5, den.eq_6, den.eq_7, den.eq_8, den.eq_9, den.eq_10, den.eq_11, den.eq_12, den.eq_13, den.eq_14, den.eq_15, den.eq_16, den.eq_17, den.eq_18, den.eq_19, den.eq_20, den.eq_21, den.eq_23, den.eq_24, den.eq_25, den.eq_26, den.eq_27, d_comp, denT, denEs, denEO, denC, denI, bind_ok, of_some, look_0, look_s, List.length_cons, List.length_nil, List.map_cons, List.map_nil, List.replicate, List.cons_append, List.nil_append, if_true, drf_int, drf_bl, drf_tup, drf_lst, drf_non, drf_str, drf_q, Ev.T.own, wipeE, setAll, dTru, dBi, dBin, dNeg, bindT, List.set_cons_zero, List.set_cons_succ, Option.map_some, rq_0, rq_1, Nat.reduceAdd, Nat.reduceSub, Res.calm, eq_int, h', decide_false, hf, if_false, e1, h]
end K60

namespace K60
open PySem Ev
variable {F : Fs} {G : Gs} {o : Os} {k : Nat}
theorem isL_M {ρ : Ev.Env} {i : Nat} {M : Mat} (h : look ρ i = some (DM M)) : isL ρ i = true := isL_0 h
theorem setAt_M {ρ : Ev.Env} {i j : Nat} {M : Mat} {l : Row} (h : look ρ i = some (DM M)) (hj : j < M.length) : setAt ρ i (.int j) (DL l) = some (ρ.set i (some (DM (M.set j l)))) := by
  rw [setAt_0 h (by simpa using hj), DM_set]; rfl
theorem swap_M {M : Mat} {a p : Nat} : (M.set a (M.getD p [])).set p (M.getD a []) = swapR M a p := rfl
theorem stepJ_eq {n a : Nat} {M : Mat} : stepJ n a M = (pivot n a M).map fun p => (((swapR M a p).set a (((swapR M a p).getD a []).map (· / ent (swapR M a p) a a))).mapIdx fun s line => if s = a then line else clearR a (((swapR M a p).getD a []).map (· / ent (swapR M a p) a a)) line) := rfl
theorem dls_M {M : Mat} : dLs (DM M) = some (M.map DL) := rfl
theorem seq_L {l : Row} : dSeq (DL l) = some (l.map Rq) := rfl
theorem set_getD {α : Type} {l : List α} {a : Nat} {x d : α} (h : a < l.length) : (l.set a x).getD a d = x := by simp [List.getD, h]
theorem nat_lst {l : List Nat} : dIdx (.lst (l.map fun i : Nat => .int i)) (.int 0) o = (l.head?.map fun i : Nat => .int i) := by
  cases l with
  | nil => rfl
  | cons a l => exact ix_list (i := 0) (by simp)
theorem inv_step {n w a b : Nat} {M : Mat} (hM : Rect n w M) (ha : a < n) (hn : n < 1000) (hw : a < w) (hb : SzM b M) (hs : 4 * b ≤ 9000) (hG : G 4 = some (Rq 0)) (r z3 z4 z5 z6 z7 z8 z9 z10 : Option D) :
    (stepJ n a M = none ∧ forG (sem G fns (k + 4)) G (.one 3) invB (.int a) [r, some (.int n), some (DM M), z3, z4, z5, z6, z7, z8, z9, z10] o = .ok (.ret .non) o) ∨
    ∃ M' y3 y4 y5 y6 y7 y8 y9 y10, stepJ n a M = some M' ∧ SzM (4 * b + 1) M' ∧ forG (sem G fns (k + 4)) G (.one 3) invB (.int a) [r, some (.int n), some (DM M), z3, z4, z5, z6, z7, z8, z9, z10] o = .ok (.nx [r, some (.int n), some (DM M'), y3, y4, y5, y6, y7, y8, y9, y10]) o := by
  have hrng := rng_ok (a := a) (n := n) (by omega) (by omega)
  have hsp := inv_spots (F := sem G fns (k + 4)) (o := o) hM ha hw hG r z4 z5 z6 z7 z8 z9 z10
  have hpv : pivot n a M = (((List.range (n - a)).map (a + ·)).filter fun s => decide (ent M s a ≠ 0)).head? := find_head _
  generalize (((List.range (n - a)).map (a + ·)).filter fun s => decide (ent M s a ≠ 0)) = S at hsp hpv
  have hlm : M.length = n := hM.1
  have h1 : denS (sem G fns (k + 4)) G (.asg (.one 4) (.comp (.var 8) (.one 8) (.rng2 (.var 3) (.var 1)) (.some (.cmp .ne (.idx (.idx (.var 2) (.var 8)) (.var 3)) (.glb 4))))) [r, some (.int n), some (DM M), some (.int a), z4, z5, z6, z7, z8, z9, z10] o = .ok (.nx [r, some (.int n), some (DM M), some (.int a), some (.lst (S.map fun i : Nat => .int i)), z5, z6, z7, z8, z9, z10]) o := by
    simp -implicitDefEqProofs only [runBody, denSs, denS.eq_1, denS.eq_2, denS.eq_3, denS.eq_4, denS.eq_5, denS.eq_6, denS.eq_7, denS.eq_8, denS.eq_9, denS.eq_10, denS.eq_13, denS.eq_14, denS.eq_15, denS.eq_16, denS.eq_17, d_for, d_whl, den.eq_1, den.eq_2, den.eq_3, den.eq_4, den.eq_5, den.eq_6, den.eq_7, den.eq_8, den.eq_9, den.eq_10, den.eq_11, den.eq_12, den.eq_13, den.eq_14, den.eq_15, den.eq_16, den.eq_17, den.eq_18, den.eq_19, den.eq_20, den.eq_21, den.eq_23, den.eq_24, den.eq_25, den.eq_26, den.eq_27, d_comp, denT, denEs, denEO, denC, denI, bind_ok, of_some, look_0, look_s, List.length_cons, List.length_nil, List.map_cons, List.map_nil, List.replicate, List.cons_append, List.nil_append, if_true, drf_int, drf_bl, drf_tup, drf_lst, drf_non, drf_str, drf_q, Ev.T.own, wipeE, setAll, dTru, dBi, dBin, dNeg, bindT, List.set_cons_zero, List.set_cons_succ, Option.map_some, rq_0, rq_1, Nat.reduceAdd, Nat.reduceSub, hrng, hsp]
  simp -implicitDefEqProofs only [forG, invB, b_inverse_of, bindT, of_some, bind_ok, List.set_cons_zero, List.set_cons_succ]
  rw [ss_nx h1]
  cases hS : S with
  | nil =>
    rw [hS] at hpv
    refine .inl ⟨by rw [stepJ_eq, hpv]; rfl, ?_⟩
    refine ss_ret ?_
    have e := lst_ne []
    simp -implicitDefEqProofs only [List.map_nil] at e
    simp -implicitDefEqProofs only [runBody, denSs, denS.eq_1, denS.eq_2, denS.eq_3, denS.eq_4, denS.eq_5, denS.eq_6, denS.eq_7, denS.eq_8, denS.eq_9, denS.eq_10, denS.eq_13, denS.eq_14, denS.eq_15, denS.eq_16, denS.eq_17, d_for, d_whl, den.eq_1, den.eq_2, den.eq_3, den.eq_4, den.eq_5, den.eq_6, den.eq_7, den.eq_8, den.eq_9, den.eq_10, den.eq_11, den.eq_12, den.eq_13, den.eq_14, den.eq_15, den.eq_16, den.eq_17, den.eq_18, den.eq_19, den.eq_20, den.eq_21, den.eq_23, den.eq_24, den.eq_25, den.eq_26, den.eq_27, d_comp, denT, denEs, denEO, denC, denI, bind_ok, of_some, look_0, look_s, List.length_cons, List.length_nil, List.map_cons, List.map_nil, List.replicate, List.cons_append, List.nil_append, if_true, drf_int, drf_bl, drf_tup, drf_lst, drf_non, drf_str, drf_q, Ev.T.own, wipeE, setAll, dTru, dBi, dBin, dNeg, bindT, List.set_cons_zero, List.set_cons_succ, Option.map_some, rq_0, rq_1, Nat.reduceAdd, Nat.reduceSub, e, List.isEmpty]
  | cons p S' =>
    have hp : pivot n a M = some p := by rw [hpv, hS]; rfl
    obtain ⟨q1, q2, q3⟩ := pvt_some hp
    have e0 : S.isEmpty = false := by rw [hS]; rfl
    have e1 := nat_lst (o := o) (l := S)
    rw [hS] at e1
    have hR := swap_rect hM ha q2
    have hzR := sz_swap hb hM ha q2
    have h0 : ent (swapR M a p) a a ≠ 0 := by
      rw [swap_ent hM ha q2]
      unfold swf
      by_cases h : a = p
      · subst h; rw [if_pos rfl]; exact q3
      · rw [if_neg h, if_pos rfl]; exact q3
    have e2 := ix_M (o := o) (M := M) (i := a) (by omega)
    have e3 := ix_M (o := o) (M := M) (i := p) (by omega)
    have hR1 := hR.1
    rw [← hS]
    have h2 : denS (sem G fns (k + 4)) G (.ite (.cmp .eq (.var 4) (.lst .nil)) (.cons (.ret .non) .nil) .nil) [r, some (.int n), some (DM M), some (.int a), some (.lst (S.map fun i : Nat => .int i)), z5, z6, z7, z8, z9, z10] o = .ok (.nx [r, some (.int n), some (DM M), some (.int a), some (.lst (S.map fun i : Nat => .int i)), z5, z6, z7, z8, z9, z10]) o := by
      have hf : (false = true) = False := by simp
      simp -implicitDefEqProofs only [runBody, denSs, denS.eq_1, denS.eq_2, denS.eq_3, denS.eq_4, denS.eq_5, denS.eq_6, denS.eq_7, denS.eq_8, denS.eq_9, denS.eq_10, denS.eq_13, denS.eq_14, denS.eq_15, denS.eq_16, denS.eq_17, d_for, d_whl, den.eq_1, den.eq_2, den.eq_3, den.eq_4, den.eq_5, den.eq_6, den.eq_7, den.eq_8, den.eq_9, den.eq_10, den.eq_11, den.eq_12, den.eq_13, den.eq_14, den.eq_15, den.eq_16, den.eq_17, den.eq_18, den.eq_19, den.eq_20, den.eq_21, den.eq_23, den.eq_24, den.eq_25, den.eq_26, den.eq_27, d_comp, denT, denEs, denEO, denC, denI, bind_ok, of_some, look_0, look_s, List.length_cons, List.length_nil, List.map_cons, List.map_nil, List.replicate, List.cons_append, List.nil_append, if_true, drf_int, drf_bl, drf_tup, drf_lst, drf_non, drf_str, drf_q, Ev.T.own, wipeE, setAll, dTru, dBi, dBin, dNeg, bindT, List.set_cons_zero, List.set_cons_succ, Option.map_some, rq_0, rq_1, Nat.reduceAdd, Nat.reduceSub, lst_ne, e0, hf, if_false]
    rw [ss_nx h2]
    have e1' : dIdx (.lst (S.map fun i : Nat => .int i)) (.int 0) o = some (.int p) := by rw [hS]; exact e1
    have l1 : M.length = n := hM.1
    have h3 : denS (sem G fns (k + 4)) G (.stoP 2 (.var 3) (.idx (.var 4) (.int 0)) (.idx (.var 2) (.idx (.var 4) (.int 0))) (.idx (.var 2) (.var 3))) [r, some (.int n), some (DM M), some (.int a), some (.lst (S.map fun i : Nat => .int i)), z5, z6, z7, z8, z9, z10] o = .ok (.nx [r, some (.int n), some (DM (swapR M a p)), some (.int a), some (.lst (S.map fun i : Nat => .int i)), z5, z6, z7, z8, z9, z10]) o := by
      have f1 := fun (M : Mat) => isL_M (ρ := [r, some (.int n), some (DM M), some (.int a), some (.lst (S.map fun i : Nat => .int i)), z5, z6, z7, z8, z9, z10]) (i := 2) (M := M) rfl
      have f2 := fun (M : Mat) (j : Nat) (l : Row) => setAt_M (ρ := [r, some (.int n), some (DM M), some (.int a), some (.lst (S.map fun i : Nat => .int i)), z5, z6, z7, z8, z9, z10]) (i := 2) (j := j) (l := l) (M := M) rfl
      have f3 := f2 M a (M.getD p []) (by omega)
      have f4 := f2 (M.set a (M.getD p [])) p (M.getD a []) (by rw [List.length_set]; omega)
      simp -implicitDefEqProofs only [List.set_cons_zero, List.set_cons_succ] at f3 f4
      simp -implicitDefEqProofs only [runBody, denSs, denS.eq_1, denS.eq_2, denS.eq_3, denS.eq_4, denS.eq_5, denS.eq_6, denS.eq_7, denS.eq_8, denS.eq_9, denS.eq_10, denS.eq_13, denS.eq_14, denS.eq_15, denS.eq_16, denS.eq_17, d_for, d_whl, den.eq_1, den.eq_2, den.eq_3, den.eq_4, den.eq_5, den.eq_6, den.eq_7, den.eq_8, den.eq_9, den.eq_10, den.eq_11, den.eq_12, den.eq_13, den.eq_14, den.eq_15, den.eq_16, den.eq_17, den.eq_18, den.eq_19, den.eq_20, den.eq_21, den.eq_23, den.eq_24, den.eq_25, den.eq_26, den.eq_27, d_comp, denT, denEs, denEO, denC, denI, bind_ok, of_some, look_0, look_s, List.length_cons, List.length_nil, List.map_cons, List.map_nil, List.replicate, List.cons_append, List.nil_append, if_true, drf_int, drf_bl, drf_tup, drf_lst, drf_non, drf_str, drf_q, Ev.T.own, wipeE, setAll, dTru, dBi, dBin, dNeg, bindT, List.set_cons_zero, List.set_cons_succ, Option.map_some, rq_0, rq_1, Nat.reduceAdd, Nat.reduceSub, e1', e2, e3, f1, f3, f4, swap_M]
    rw [ss_nx h3]
    have e4 := ix_M (o := o) (M := swapR M a p) (i := a) (by omega)
    have e5 := look_at (o := o) hR ha hw
    have h4 : denS (sem G fns (k + 4)) G (.asg (.one 5) (.idx (.idx (.var 2) (.var 3)) (.var 3))) [r, some (.int n), some (DM (swapR M a p)), some (.int a), some (.lst (S.map fun i : Nat => .int i)), z5, z6, z7, z8, z9, z10] o = .ok (.nx [r, some (.int n), some (DM (swapR M a p)), some (.int a), some (.lst (S.map fun i : Nat => .int i)), some (Rq (ent (swapR M a p) a a)), z6, z7, z8, z9, z10]) o := by
      simp -implicitDefEqProofs only [runBody, denSs, denS.eq_1, denS.eq_2, denS.eq_3, denS.eq_4, denS.eq_5, denS.eq_6, denS.eq_7, denS.eq_8, denS.eq_9, denS.eq_10, denS.eq_13, denS.eq_14, denS.eq_15, denS.eq_16, denS.eq_17, d_for, d_whl, den.eq_1, den.eq_2, den.eq_3, den.eq_4, den.eq_5, den.eq_6, den.eq_7, den.eq_8, den.eq_9, den.eq_10, den.eq_11, den.eq_12, den.eq_13, den.eq_14, den.eq_15, den.eq_16, den.eq_17, den.eq_18, den.eq_19, den.eq_20, den.eq_21, den.eq_23, den.eq_24, den.eq_25, den.eq_26, den.eq_27, d_comp, denT, denEs, denEO, denC, denI, bind_ok, of_some, look_0, look_s, List.length_cons, List.length_nil, List.map_cons, List.map_nil, List.replicate, List.cons_append, List.nil_append, if_true, drf_int, drf_bl, drf_tup, drf_lst, drf_non, drf_str, drf_q, Ev.T.own, wipeE, setAll, dTru, dBi, dBin, dNeg, bindT, List.set_cons_zero, List.set_cons_succ, Option.map_some, rq_0, rq_1, Nat.reduceAdd, Nat.reduceSub, e4, e5]
    rw [ss_nx h4]
    have hra := hzR _ (getD_mem (d := []) (by omega : a < (swapR M a p).length))
    have hla := rect_row hR ha
    have hqa : Sz b (ent (swapR M a p) a a) := sz_getD hra (by omega)
    have e6 := inv_head (k := k + 2) (G := G) (o := o) hra hqa h0 (by omega) r (some (.int n)) (some (DM (swapR M a p))) (some (.int a)) (some (.lst (S.map fun i : Nat => .int i))) z6 z7 z8 z9 z10
    have hh : SzR (b + b) (((swapR M a p).getD a []).map (· / ent (swapR M a p) a a)) := fun q hq => by
      obtain ⟨c, hc, rfl⟩ := List.mem_map.mp hq
      exact sz_div (hra _ hc) hqa h0
    have hhl : (((swapR M a p).getD a []).map (· / ent (swapR M a p) a a)).length = w := by rw [List.length_map]; exact hla
    have hst := stepJ_eq (n := n) (a := a) (M := M)
    rw [hp, Option.map_some] at hst
    generalize (((swapR M a p).getD a []).map (· / ent (swapR M a p) a a)) = head at *
    have h5 : denS (sem G fns (k + 4)) G (.sto 2 (.var 3) (.comp (.call 27 (.cons (.var 9) (.cons (.var 5) .nil))) (.one 9) (.seq (.idx (.var 2) (.var 3))) .none)) [r, some (.int n), some (DM (swapR M a p)), some (.int a), some (.lst (S.map fun i : Nat => .int i)), some (Rq (ent (swapR M a p) a a)), z6, z7, z8, z9, z10] o = .ok (.nx [r, some (.int n), some (DM ((swapR M a p).set a head)), some (.int a), some (.lst (S.map fun i : Nat => .int i)), some (Rq (ent (swapR M a p) a a)), z6, z7, z8, z9, z10]) o := by
      have f1 := isL_M (ρ := [r, some (.int n), some (DM (swapR M a p)), some (.int a), some (.lst (S.map fun i : Nat => .int i)), some (Rq (ent (swapR M a p) a a)), z6, z7, z8, z9, z10]) (i := 2) (M := (swapR M a p)) rfl
      have f2 := setAt_M (ρ := [r, some (.int n), some (DM (swapR M a p)), some (.int a), some (.lst (S.map fun i : Nat => .int i)), some (Rq (ent (swapR M a p) a a)), z6, z7, z8, z9, z10]) (i := 2) (j := a) (l := head) (M := swapR M a p) rfl (by omega)
      simp -implicitDefEqProofs only [List.set_cons_zero, List.set_cons_succ] at f2
      simp -implicitDefEqProofs only [runBody, denSs, denS.eq_1, denS.eq_2, denS.eq_3, denS.eq_4, denS.eq_5, denS.eq_6, denS.eq_7, denS.eq_8, denS.eq_9, denS.eq_10, denS.eq_13, denS.eq_14, denS.eq_15, denS.eq_16, denS.eq_17, d_for, d_whl, den.eq_1, den.eq_2, den.eq_3, den.eq_4, den.eq_5, den.eq_6, den.eq_7, den.eq_8, den.eq_9, den.eq_10, den.eq_11, den.eq_12, den.eq_13, den.eq_14, den.eq_15, den.eq_16, den.eq_17, den.eq_18, den.eq_19, den.eq_20, den.eq_21, den.eq_23, den.eq_24, den.eq_25, den.eq_26, den.eq_27, d_comp, denT, denEs, denEO, denC, denI, bind_ok, of_some, look_0, look_s, List.length_cons, List.length_nil, List.map_cons, List.map_nil, List.replicate, List.cons_append, List.nil_append, if_true, drf_int, drf_bl, drf_tup, drf_lst, drf_non, drf_str, drf_q, Ev.T.own, wipeE, setAll, dTru, dBi, dBin, dNeg, bindT, List.set_cons_zero, List.set_cons_succ, Option.map_some, rq_0, rq_1, Nat.reduceAdd, Nat.reduceSub, e4, seq_L, e6, f1, f2]
    rw [ss_nx h5]
    have e7 := ix_M (o := o) (M := (swapR M a p).set a head) (i := a) (by rw [List.length_set]; omega)
    rw [set_getD (by omega)] at e7
    have h6 : denS (sem G fns (k + 4)) G (.asg (.one 6) (.idx (.var 2) (.var 3))) [r, some (.int n), some (DM ((swapR M a p).set a head)), some (.int a), some (.lst (S.map fun i : Nat => .int i)), some (Rq (ent (swapR M a p) a a)), z6, z7, z8, z9, z10] o = .ok (.nx [r, some (.int n), some (DM ((swapR M a p).set a head)), some (.int a), some (.lst (S.map fun i : Nat => .int i)), some (Rq (ent (swapR M a p) a a)), some (DL head), z7, z8, z9, z10]) o := by
      simp -implicitDefEqProofs only [runBody, denSs, denS.eq_1, denS.eq_2, denS.eq_3, denS.eq_4, denS.eq_5, denS.eq_6, denS.eq_7, denS.eq_8, denS.eq_9, denS.eq_10, denS.eq_13, denS.eq_14, denS.eq_15, denS.eq_16, denS.eq_17, d_for, d_whl, den.eq_1, den.eq_2, den.eq_3, den.eq_4, den.eq_5, den.eq_6, den.eq_7, den.eq_8, den.eq_9, den.eq_10, den.eq_11, den.eq_12, den.eq_13, den.eq_14, den.eq_15, den.eq_16, den.eq_17, den.eq_18, den.eq_19, den.eq_20, den.eq_21, den.eq_23, den.eq_24, den.eq_25, den.eq_26, den.eq_27, d_comp, denT, denEs, denEO, denC, denI, bind_ok, of_some, look_0, look_s, List.length_cons, List.length_nil, List.map_cons, List.map_nil, List.replicate, List.cons_append, List.nil_append, if_true, drf_int, drf_bl, drf_tup, drf_lst, drf_non, drf_str, drf_q, Ev.T.own, wipeE, setAll, dTru, dBi, dBin, dNeg, bindT, List.set_cons_zero, List.set_cons_succ, Option.map_some, rq_0, rq_1, Nat.reduceAdd, Nat.reduceSub, e7]
    rw [ss_nx h6]
    have hR2 : Rect n w ((swapR M a p).set a head) := ⟨by rw [List.length_set]; exact hR.1, fun l hl => by
      rcases List.mem_or_eq_of_mem_set hl with hl | rfl
      · exact hR.2 _ hl
      · exact hhl⟩
    have hb2 : ∀ q ∈ ((swapR M a p).set a head).zipIdx, q.2 ≠ a → SzR b q.1 := fun q hq hqa => by
      have e := List.mem_zipIdx_iff_getElem?.mp hq
      rw [List.getElem?_set_ne (fun z => hqa z.symm)] at e
      exact hzR _ (List.mem_of_getElem? e)
    have e8 := inv_clear (k := k + 1) (G := G) (o := o) (head := head) hR2 hw hh hb2 (by omega) r (some (.int n)) (some (DM ((swapR M a p).set a head))) (some (.lst (S.map fun i : Nat => .int i))) (some (Rq (ent (swapR M a p) a a))) z7 z8 z9 z10
    have h7 : denS (sem G fns (k + 4)) G (.asg (.one 2) (.comp (.ite (.cmp .eq (.var 8) (.var 3)) (.var 10) (.call 29 (.cons (.var 10) (.cons (.var 6) (.cons (.var 3) .nil))))) (.many [8, 10]) (.enu (.var 2)) .none)) [r, some (.int n), some (DM ((swapR M a p).set a head)), some (.int a), some (.lst (S.map fun i : Nat => .int i)), some (Rq (ent (swapR M a p) a a)), some (DL head), z7, z8, z9, z10] o = .ok (.nx [r, some (.int n), some (DM (((swapR M a p).set a head).mapIdx fun s line => if s = a then line else clearR a head line)), some (.int a), some (.lst (S.map fun i : Nat => .int i)), some (Rq (ent (swapR M a p) a a)), some (DL head), z7, z8, z9, z10]) o := by
      simp -implicitDefEqProofs only [runBody, denSs, denS.eq_1, denS.eq_2, denS.eq_3, denS.eq_4, denS.eq_5, denS.eq_6, denS.eq_7, denS.eq_8, denS.eq_9, denS.eq_10, denS.eq_13, denS.eq_14, denS.eq_15, denS.eq_16, denS.eq_17, d_for, d_whl, den.eq_1, den.eq_2, den.eq_3, den.eq_4, den.eq_5, den.eq_6, den.eq_7, den.eq_8, den.eq_9, den.eq_10, den.eq_11, den.eq_12, den.eq_13, den.eq_14, den.eq_15, den.eq_16, den.eq_17, den.eq_18, den.eq_19, den.eq_20, den.eq_21, den.eq_23, den.eq_24, den.eq_25, den.eq_26, den.eq_27, d_comp, denT, denEs, denEO, denC, denI, bind_ok, of_some, look_0, look_s, List.length_cons, List.length_nil, List.map_cons, List.map_nil, List.replicate, List.cons_append, List.nil_append, if_true, drf_int, drf_bl, drf_tup, drf_lst, drf_non, drf_str, drf_q, Ev.T.own, wipeE, setAll, dTru, dBi, dBin, dNeg, bindT, List.set_cons_zero, List.set_cons_succ, Option.map_some, rq_0, rq_1, Nat.reduceAdd, Nat.reduceSub, dls_M, e8]
      rfl
    rw [ss_nx h7]
    refine .inr ⟨_, _, _, _, _, _, _, _, _, hst, fun l hl => ?_, rfl⟩
    obtain ⟨i, hi, rfl⟩ := List.mem_iff_getElem.mp hl
    rw [List.getElem_mapIdx]
    have hi' : i < ((swapR M a p).set a head).length := by simpa using hi
    have hm : (((swapR M a p).set a head)[i], i) ∈ ((swapR M a p).set a head).zipIdx := List.mem_zipIdx_iff_getElem?.mpr (List.getElem?_eq_getElem hi')
    split
    · rename_i h
      subst h
      intro q hq
      have : ((swapR M i p).set i head)[i] = head := List.getElem_set_self _
      rw [this] at hq
      exact sz_mono (hh _ hq) (by omega)
    · rename_i h
      have := sz_clear (a := a) (hb2 _ hm h) hh (by rw [hR2.2 _ (List.getElem_mem hi')]; exact hw)
      exact fun q hq => sz_mono (this q hq) (by omega)
end K60

namespace K60
open PySem Ev
variable {F : Fs} {G : Gs} {o : Os} {k : Nat}
def gro : Nat → Nat → Nat
  | 0, b => b
  | r + 1, b => gro r (4 * b + 1)
theorem gro_ge : ∀ (r b : Nat), b ≤ gro r b
  | 0, b => Nat.le_refl b
  | r + 1, b => by rw [gro]; have := gro_ge r (4 * b + 1); omega
theorem for_nx {f : D → Ev.Env → Os → Res Out} {x : D} {xs : List D} {ρ ρ' : Ev.Env} {o o' : Os} (h : f x ρ o = .ok (.nx ρ') o') : forLoop f (x :: xs) ρ o = forLoop f xs ρ' o' := by
  rw [forLoop, h]; rfl
theorem for_ct {f : D → Ev.Env → Os → Res Out} {x : D} {xs : List D} {ρ ρ' : Ev.Env} {o o' : Os} (h : f x ρ o = .ok (.ct ρ') o') : forLoop f (x :: xs) ρ o = forLoop f xs ρ' o' := by
  rw [forLoop, h]; rfl
theorem for_ret {f : D → Ev.Env → Os → Res Out} {x d : D} {xs : List D} {ρ : Ev.Env} {o o' : Os} (h : f x ρ o = .ok (.ret d) o') : forLoop f (x :: xs) ρ o = .ok (.ret d) o' := by
  rw [forLoop, h]; rfl
theorem rng_0 (n : Nat) : dRng 0 n = (List.range' 0 n).map fun i : Nat => .int i := by
  rw [show (0 : Int) = ((0 : Nat) : Int) from rfl, rng_map, ← List.range_eq_range']
  simp
theorem inv_loop {n w : Nat} {rr : Option D} (hG : G 4 = some (Rq 0)) (hn : n < 1000) (hnw : n ≤ w) : ∀ (r b : Nat) (M : Mat) (z3 z4 z5 z6 z7 z8 z9 z10 : Option D), Rect n w M → SzM b M → r ≤ n → gro r b ≤ 9000 →
    (jordan n r M = none ∧ forLoop (forG (sem G fns (k + 4)) G (.one 3) invB) ((List.range' (n - r) r).map fun i : Nat => .int i) [rr, some (.int n), some (DM M), z3, z4, z5, z6, z7, z8, z9, z10] o = .ok (.ret .non) o) ∨
    ∃ M' y3 y4 y5 y6 y7 y8 y9 y10, jordan n r M = some M' ∧ SzM (gro r b) M' ∧ Rect n w M' ∧ forLoop (forG (sem G fns (k + 4)) G (.one 3) invB) ((List.range' (n - r) r).map fun i : Nat => .int i) [rr, some (.int n), some (DM M), z3, z4, z5, z6, z7, z8, z9, z10] o = .ok (.nx [rr, some (.int n), some (DM M'), y3, y4, y5, y6, y7, y8, y9, y10]) o
  | 0, b, M, z3, z4, z5, z6, z7, z8, z9, z10, hM, hb, hr, hg => .inr ⟨M, z3, z4, z5, z6, z7, z8, z9, z10, rfl, hb, hM, rfl⟩
  | r + 1, b, M, z3, z4, z5, z6, z7, z8, z9, z10, hM, hb, hr, hg => by
    have e : n - r = n - (r + 1) + 1 := by omega
    rw [gro] at hg
    have h4 := gro_ge r (4 * b + 1)
    rw [List.range'_succ, List.map_cons, jordan, ← e]
    have ha : n - (r + 1) < n := by omega
    rcases inv_step (k := k) (o := o) (a := n - (r + 1)) hM ha hn (by omega) hb (by omega) hG rr z3 z4 z5 z6 z7 z8 z9 z10 with ⟨h1, h2⟩ | ⟨M1, y3, y4, y5, y6, y7, y8, y9, y10, h1, h2, h3⟩
    · exact .inl ⟨by rw [h1]; rfl, for_ret h2⟩
    · rw [for_nx h3, h1, Option.bind_some, gro]
      exact inv_loop hG hn hnw r (4 * b + 1) M1 y3 y4 y5 y6 y7 y8 y9 y10 (step_rect hM ha h1) h2 (by omega) hg
abbrev DT (l : Row) : D := .tup (l.map Rq)
def DMT (M : Mat) : D := .tup (M.map DT)
def eye (n i : Nat) : Row := (List.range n).map fun s => if s = i then 1 else 0
def augI (n : Nat) (A : Mat) : Mat := A.mapIdx fun i row => row ++ eye n i
theorem cut_from {α : Type} (l : List α) {n : Nat} (h : n ≤ l.length) : cut l (some (n : Int)) none = l.drop n := by
  unfold cut
  have e1 : HT.sIx l.length 0 (some (n : Int)) = n := by
    have h1 : ¬ ((n : Int) < 0) := Int.not_lt.mpr (Int.natCast_nonneg n)
    have h2 : min n l.length = n := by omega
    simp [HT.sIx, h1, h2]
  have e2 : HT.sIx l.length l.length none = l.length := by simp [HT.sIx]
  rw [e1, e2, List.take_of_length_le (by simp)]

theorem inv_eye {i n : Nat} (hn : n < 1000) (h1 : G 3 = some (Rq 1)) (h4 : G 4 = some (Rq 0)) (r z2 z4 z5 z6 z7 z8 z9 z10 : Option D) :
    compLoop (compG F G (.ite (.cmp .eq (.var 8) (.var 3)) (.glb 3) (.glb 4)) (.one 8) .none [r, some (.int n), z2, some (.int i), z4, z5, z6, z7, z8, z9, z10]) (dRng 0 n) o = .ok ((eye n i).map Rq) o := by
  unfold eye
  rw [rng_0, ← List.range_eq_range', comp_map (g := fun s : Nat => Rq (if s = i then 1 else 0)) _ fun s _ => ?_, List.map_map]
  · rfl
  · by_cases h : s = i
    · subst h
      simp -implicitDefEqProofs only [compG, runBody, denSs, denS.eq_1, denS.eq_2, denS.eq_3, denS.eq_4, denS.eq_5, denS.eq_6, denS.eq_7, denS.eq_8, denS.eq_9, denS.eq_10, denS.eq_13, denS.eq_14, denS.eq_15, denS.eq_16, denS.eq_17, d_for, d_whl, den.eq_1, den.eq_2, den.eq_3, den.eq_4, den.eq_5, den.eq_6, den.eq_7, den.eq_8, den.eq_9, den.eq_10, den.eq_11, den.eq_12, den.eq_13, den.eq_14, den.eq_15, den.eq_16, den.eq_17, den.eq_18, den.eq_19, den.eq_20, den.eq_21, den.eq_23, den.eq_24, den.eq_25, den.eq_26, den.eq_27, d_comp, denT, denEs, denEO, denC, denI, bind_ok, of_some, look_0, look_s, List.length_cons, List.length_nil, List.map_cons, List.map_nil, List.replicate, List.cons_append, List.nil_append, if_true, drf_int, drf_bl, drf_tup, drf_lst, drf_non, drf_str, drf_q, Ev.T.own, wipeE, setAll, dTru, dBi, dBin, dNeg, bindT, List.set_cons_zero, List.set_cons_succ, Option.map_some, rq_0, rq_1, Nat.reduceAdd, Nat.reduceSub, Res.calm, eq_int, decide_true, if_true, h1]
    · have h' : ¬ ((s : Int) = (i : Int)) := by omega
      have hf : (false = true) = False := by simp
      simp -implicitDefEqProofs only [compG, runBody, denSs, denS.eq_1, denS.eq_2, denS.eq_3, denS.eq_4, denS.eq_5, denS.eq_6, denS.eq_7, denS.eq_8, denS.eq_9, denS.eq_10, denS.eq_13, denS.eq_14, denS.eq_15, denS.eq_16, denS.eq_17, d_for, d_whl, den.eq_1, den.eq_2, den.eq_3, den.eq_4, den.eq_5, den.eq_6, den.eq_7, den.eq_8, den.eq_9, den.eq_10, den.eq_11, den.eq_12, den.eq_13, den.eq_14, den.eq_15, den.eq_16, den.eq_17, den.eq_18, den.eq_19, den.eq_20, den.eq_21, den.eq_23, den.eq_24, den.eq_25, den.eq_26, den.eq_27, d_comp, denT, denEs, denEO, denC, denI, bind_ok, of_some, look_0, look_s, List.length_cons, List.length_nil, List.map_cons, List.map_nil, List.replicate, List.cons_append, List.nil_append, if_true, drf_int, drf_bl, drf_tup, drf_lst, drf_non, drf_str, drf_q, Ev.T.own, wipeE, setAll, dTru, dBi, dBin, dNeg, bindT, List.set_cons_zero, List.set_cons_succ, Option.map_some, rq_0, rq_1, Nat.reduceAdd, Nat.reduceSub, Res.calm, eq_int, h', decide_false, hf, if_false, h4, h]
theorem ls_T {M : Mat} : dLs (DMT M) = some (M.map DT) := rfl
theorem add_L {x y : Row} (h : x.length + y.length < 1000) : dBin .add (DL x) (.lst (y.map Rq)) = some (DL (x ++ y)) := by
  have h1 : x.length + y.length ≤ line := by unfold line; omega
  simp [dBin, DL, h1]
theorem inv_aug {n : Nat} {A : Mat} (hA : Rect n n A) (hn : n < 300) (h1 : G 3 = some (Rq 1)) (h4 : G 4 = some (Rq 0)) (r z2 z3 z4 z5 z6 z7 z8 z9 z10 : Option D) :
    compLoop (compG F G (.bin .add (.bi .list (.cons (.var 7) .nil)) (.comp (.ite (.cmp .eq (.var 8) (.var 3)) (.glb 3) (.glb 4)) (.one 8) (.rng1 (.var 1)) .none)) (.many [3, 7]) .none [r, some (.int n), z2, z3, z4, z5, z6, z7, z8, z9, z10]) (dEnu 0 (A.map DT)) o = .ok ((augI n A).map DL) o := by
  rw [enu_map, comp_map (g := fun p : Row × Nat => DL (p.1 ++ eye n p.2)) _ fun p hp => ?_]
  · rw [augI, List.mapIdx_eq_zipIdx_map, List.map_map]; rfl
  · obtain ⟨l, i⟩ := p
    have hl : l.length = n := hA.2 _ (List.mem_of_getElem? (List.mem_zipIdx_iff_getElem?.mp hp))
    have hr : rngOk 0 n = true := rng_ok (a := 0) (n := n) (by omega) (by omega)
    have e1 := inv_eye (F := F) (o := o) (i := i) (n := n) (by omega) h1 h4 r z2 z4 z5 z6 (some (DT l)) z8 z9 z10
    have e2 := add_L (x := l) (y := eye n i) (by simp [eye]; omega)
    have e3 : dBi .list [DT l] = some (DL l) := rfl
    simp -implicitDefEqProofs only [compG, runBody, denSs, denS.eq_1, denS.eq_2, denS.eq_3, denS.eq_4, denS.eq_5, denS.eq_6, denS.eq_7, denS.eq_8, denS.eq_9, denS.eq_10, denS.eq_13, denS.eq_14, denS.eq_15, denS.eq_16, denS.eq_17, d_for, d_whl, den.eq_1, den.eq_2, den.eq_3, den.eq_4, den.eq_5, den.eq_6, den.eq_7, den.eq_8, den.eq_9, den.eq_10, den.eq_11, den.eq_12, den.eq_13, den.eq_14, den.eq_15, den.eq_16, den.eq_17, den.eq_18, den.eq_19, den.eq_20, den.eq_21, den.eq_23, den.eq_24, den.eq_25, den.eq_26, den.eq_27, d_comp, denT, denEs, denEO, denC, denI, bind_ok, of_some, look_0, look_s, List.length_cons, List.length_nil, List.map_cons, List.map_nil, List.replicate, List.cons_append, List.nil_append, if_true, drf_int, drf_bl, drf_tup, drf_lst, drf_non, drf_str, drf_q, Ev.T.own, wipeE, setAll, dTru, dNeg, bindT, List.set_cons_zero, List.set_cons_succ, Option.map_some, rq_0, rq_1, Nat.reduceAdd, Nat.reduceSub, Res.calm, hr, e1, e2, e3]

theorem inv_tail {n : Nat} {M : Mat} (hM : Rect n (n + n) M) (r z2 z3 z4 z5 z6 z7 z8 z9 z10 : Option D) :
    compLoop (compG F G (.bi .tuple (.cons (.slc (.var 10) (.some (.var 1)) .none) .nil)) (.one 10) .none [r, some (.int n), z2, z3, z4, z5, z6, z7, z8, z9, z10]) (M.map DL) o = .ok ((M.map (·.drop n)).map DT) o := by
  rw [comp_map (g := fun l : Row => DT (l.drop n)) _ fun l hl => ?_]
  · rw [List.map_map]; rfl
  · have e1 : dSl (DL l) (some (n : Int)) none = some (DL (l.drop n)) := by
      show some (D.lst (cut (l.map Rq) (some (n : Int)) none)) = _
      rw [cut_from _ (by rw [List.length_map, hM.2 _ hl]; omega), ← List.map_drop]
    have e2 : ∀ l, dBi .tuple [DL l] = some (DT l) := fun _ => rfl
    simp -implicitDefEqProofs only [compG, runBody, denSs, denS.eq_1, denS.eq_2, denS.eq_3, denS.eq_4, denS.eq_5, denS.eq_6, denS.eq_7, denS.eq_8, denS.eq_9, denS.eq_10, denS.eq_13, denS.eq_14, denS.eq_15, denS.eq_16, denS.eq_17, d_for, d_whl, den.eq_1, den.eq_2, den.eq_3, den.eq_4, den.eq_5, den.eq_6, den.eq_7, den.eq_8, den.eq_9, den.eq_10, den.eq_11, den.eq_12, den.eq_13, den.eq_14, den.eq_15, den.eq_16, den.eq_17, den.eq_18, den.eq_19, den.eq_20, den.eq_21, den.eq_23, den.eq_24, den.eq_25, den.eq_26, den.eq_27, d_comp, denT, denEs, denEO, denC, denI, bind_ok, of_some, look_0, look_s, List.length_cons, List.length_nil, List.map_cons, List.map_nil, List.replicate, List.cons_append, List.nil_append, if_true, drf_int, drf_bl, drf_tup, drf_lst, drf_non, drf_str, drf_q, Ev.T.own, wipeE, setAll, dTru, dNeg, bindT, List.set_cons_zero, List.set_cons_succ, Option.map_some, rq_0, rq_1, Nat.reduceAdd, Nat.reduceSub, Res.calm, e1, e2]
end K60

namespace K60
open PySem Ev
variable {F : Fs} {G : Gs} {o : Os} {k : Nat}
theorem sz_0 : Sz 1 (0 : Rat) := by unfold Sz; decide
theorem sz_1 : Sz 1 (1 : Rat) := by unfold Sz; decide
theorem aug_rect {n : Nat} {A : Mat} (hA : Rect n n A) : Rect n (n + n) (augI n A) := ⟨by simp [augI, hA.1], fun l hl => by
  obtain ⟨i, hi, rfl⟩ := List.mem_iff_getElem.mp hl
  unfold augI at hi ⊢
  rw [List.getElem_mapIdx, List.length_append, hA.2 _ (List.getElem_mem _)]
  simp [eye]⟩
theorem aug_sz {n b : Nat} {A : Mat} (hb : SzM b A) (h1 : 1 ≤ b) : SzM b (augI n A) := fun l hl => by
  obtain ⟨i, hi, rfl⟩ := List.mem_iff_getElem.mp hl
  unfold augI at hi ⊢
  rw [List.getElem_mapIdx]
  intro q hq
  rcases Iff.mp List.mem_append hq with hq | hq
  · exact hb _ (List.getElem_mem _) q hq
  · obtain ⟨s, _, rfl⟩ := List.mem_map.mp hq
    split
    · exact sz_mono sz_1 h1
    · exact sz_mono sz_0 h1
theorem s_inverse {n b : Nat} {A : Mat} (hA : Rect n n A) (hn : n < 300) (hb : SzM b A) (hb1 : 1 ≤ b) (hg : gro n b ≤ 9000) (h1 : G 3 = some (Rq 1)) (h4 : G 4 = some (Rq 0)) :
    (jordan n n (augI n A) = none ∧ sem G fns (k + 5) 26 [DMT A] o = .ok .non o) ∨
    ∃ M, jordan n n (augI n A) = some M ∧ SzM (gro n b) M ∧ Rect n (n + n) M ∧ sem G fns (k + 5) 26 [DMT A] o = .ok (DMT (M.map (·.drop n))) o := by
  rw [sem_succ f_inverse_of rfl]
  have hl1 : dBi .len [DMT A] = some (.int n) := by
    show some (D.int ((A.map DT).length : Nat)) = _
    rw [List.length_map, hA.1]
  have a1 : denS (sem G fns (k + 4)) G (.asg (.one 1) (.bi .len (.cons (.var 0) .nil))) [some (DMT A), none, none, none, none, none, none, none, none, none, none] o = .ok (.nx [some (DMT A), some (.int n), none, none, none, none, none, none, none, none, none]) o := by
    simp -implicitDefEqProofs only [runBody, denSs, denS.eq_1, denS.eq_2, denS.eq_3, denS.eq_4, denS.eq_5, denS.eq_6, denS.eq_7, denS.eq_8, denS.eq_9, denS.eq_10, denS.eq_13, denS.eq_14, denS.eq_15, denS.eq_16, denS.eq_17, d_for, d_whl, den.eq_1, den.eq_2, den.eq_3, den.eq_4, den.eq_5, den.eq_6, den.eq_7, den.eq_8, den.eq_9, den.eq_10, den.eq_11, den.eq_12, den.eq_13, den.eq_14, den.eq_15, den.eq_16, den.eq_17, den.eq_18, den.eq_19, den.eq_20, den.eq_21, den.eq_23, den.eq_24, den.eq_25, den.eq_26, den.eq_27, d_comp, denT, denEs, denEO, denC, denI, bind_ok, of_some, look_0, look_s, List.length_cons, List.length_nil, List.map_cons, List.map_nil, List.replicate, List.cons_append, List.nil_append, if_true, drf_int, drf_bl, drf_tup, drf_lst, drf_non, drf_str, drf_q, Ev.T.own, wipeE, setAll, dTru, dNeg, bindT, List.set_cons_zero, List.set_cons_succ, Option.map_some, rq_0, rq_1, Nat.reduceAdd, Nat.reduceSub, hl1]
  have e2 := inv_aug (F := sem G fns (k + 4)) (o := o) hA hn h1 h4 (some (DMT A)) none none none none none none none none none
  have a2 : denS (sem G fns (k + 4)) G (.asg (.one 2) (.comp (.bin .add (.bi .list (.cons (.var 7) .nil)) (.comp (.ite (.cmp .eq (.var 8) (.var 3)) (.glb 3) (.glb 4)) (.one 8) (.rng1 (.var 1)) .none)) (.many [3, 7]) (.enu (.var 0)) .none)) [some (DMT A), some (.int n), none, none, none, none, none, none, none, none, none] o = .ok (.nx [some (DMT A), some (.int n), some (DM (augI n A)), none, none, none, none, none, none, none, none]) o := by
    simp -implicitDefEqProofs only [runBody, denSs, denS.eq_1, denS.eq_2, denS.eq_3, denS.eq_4, denS.eq_5, denS.eq_6, denS.eq_7, denS.eq_8, denS.eq_9, denS.eq_10, denS.eq_13, denS.eq_14, denS.eq_15, denS.eq_16, denS.eq_17, d_for, d_whl, den.eq_1, den.eq_2, den.eq_3, den.eq_4, den.eq_5, den.eq_6, den.eq_7, den.eq_8, den.eq_9, den.eq_10, den.eq_11, den.eq_12, den.eq_13, den.eq_14, den.eq_15, den.eq_16, den.eq_17, den.eq_18, den.eq_19, den.eq_20, den.eq_21, den.eq_23, den.eq_24, den.eq_25, den.eq_26, den.eq_27, d_comp, denT, denEs, denEO, denC, denI, bind_ok, of_some, look_0, look_s, List.length_cons, List.length_nil, List.map_cons, List.map_nil, List.replicate, List.cons_append, List.nil_append, if_true, drf_int, drf_bl, drf_tup, drf_lst, drf_non, drf_str, drf_q, Ev.T.own, wipeE, setAll, dTru, dNeg, bindT, List.set_cons_zero, List.set_cons_succ, Option.map_some, rq_0, rq_1, Nat.reduceAdd, Nat.reduceSub, ls_T, e2]
    rfl
  have hr : rngOk 0 n = true := rng_ok (a := 0) (n := n) (by omega) (by omega)
  have a3 : ∀ r, forLoop (forG (sem G fns (k + 4)) G (.one 3) invB) ((List.range' 0 n).map fun i : Nat => .int i) [some (DMT A), some (.int n), some (DM (augI n A)), none, none, none, none, none, none, none, none] o = r → denS (sem G fns (k + 4)) G (.for (.one 3) (.rng1 (.var 1)) invB) [some (DMT A), some (.int n), some (DM (augI n A)), none, none, none, none, none, none, none, none] o = r := fun r h => by
    simp -implicitDefEqProofs only [runBody, denSs, denS.eq_1, denS.eq_2, denS.eq_3, denS.eq_4, denS.eq_5, denS.eq_6, denS.eq_7, denS.eq_8, denS.eq_9, denS.eq_10, denS.eq_13, denS.eq_14, denS.eq_15, denS.eq_16, denS.eq_17, d_for, d_whl, den.eq_1, den.eq_2, den.eq_3, den.eq_4, den.eq_5, den.eq_6, den.eq_7, den.eq_8, den.eq_9, den.eq_10, den.eq_11, den.eq_12, den.eq_13, den.eq_14, den.eq_15, den.eq_16, den.eq_17, den.eq_18, den.eq_19, den.eq_20, den.eq_21, den.eq_23, den.eq_24, den.eq_25, den.eq_26, den.eq_27, d_comp, denT, denEs, denEO, denC, denI, bind_ok, of_some, look_0, look_s, List.length_cons, List.length_nil, List.map_cons, List.map_nil, List.replicate, List.cons_append, List.nil_append, if_true, drf_int, drf_bl, drf_tup, drf_lst, drf_non, drf_str, drf_q, Ev.T.own, wipeE, setAll, dTru, dNeg, bindT, List.set_cons_zero, List.set_cons_succ, Option.map_some, rq_0, rq_1, Nat.reduceAdd, Nat.reduceSub, hr]
    rw [rng_0]
    exact h
  have hbody : f_inverse_of.body = .cons (.asg (.one 1) (.bi .len (.cons (.var 0) .nil))) (.cons (.asg (.one 2) (.comp (.bin .add (.bi .list (.cons (.var 7) .nil)) (.comp (.ite (.cmp .eq (.var 8) (.var 3)) (.glb 3) (.glb 4)) (.one 8) (.rng1 (.var 1)) .none)) (.many [3, 7]) (.enu (.var 0)) .none)) (.cons (.for (.one 3) (.rng1 (.var 1)) invB) (.cons (.ret (.bi .tuple (.cons (.comp (.bi .tuple (.cons (.slc (.var 10) (.some (.var 1)) .none) .nil)) (.one 10) (.own 2) .none) .nil))) .nil))) := rfl
  have hrun : ∀ r, (denSs (sem G fns (k + 4)) G f_inverse_of.body [some (DMT A), none, none, none, none, none, none, none, none, none, none] o) = r → runBody (sem G fns (k + 4)) G f_inverse_of [DMT A] o = r.bind fun r o => match r with
    | .nx _ => .ok .non o
    | .ct _ => .bad
    | .ret d => .ok d o := fun r h => by
      rw [← h]; rfl
  have h0 : n - n = 0 := by omega
  rcases inv_loop (k := k) (o := o) (n := n) (w := n + n) (rr := some (DMT A)) h4 (by omega) (by omega) n b (augI n A) none none none none none none none none (aug_rect hA) (aug_sz hb hb1) (by omega) hg with ⟨j1, j2⟩ | ⟨M, y3, y4, y5, y6, y7, y8, y9, y10, j1, j2, j3, j4⟩
  · rw [h0] at j2
    refine .inl ⟨j1, ?_⟩
    rw [hrun _ rfl, hbody, ss_nx a1, ss_nx a2, ss_ret (a3 _ j2)]
    rfl
  · rw [h0] at j4
    refine .inr ⟨M, j1, j2, j3, ?_⟩
    rw [hrun _ rfl, hbody, ss_nx a1, ss_nx a2, ss_nx (a3 _ j4)]
    have e5 := inv_tail (F := sem G fns (k + 4)) (G := G) (o := o) j3 (some (DMT A)) (some (DM M)) y3 y4 y5 y6 y7 y8 y9 y10
    have e6 : dBi .tuple [.lst ((M.map (·.drop n)).map DT)] = some (DMT (M.map (·.drop n))) := rfl
    have a4 : denS (sem G fns (k + 4)) G (.ret (.bi .tuple (.cons (.comp (.bi .tuple (.cons (.slc (.var 10) (.some (.var 1)) .none) .nil)) (.one 10) (.own 2) .none) .nil))) [some (DMT A), some (.int n), some (DM M), y3, y4, y5, y6, y7, y8, y9, y10] o = .ok (.ret (DMT (M.map (·.drop n)))) o := by
      have hM : DM M = .lst (M.map DL) := rfl
      rw [hM] at e5
      simp -implicitDefEqProofs only [runBody, denSs, denS.eq_1, denS.eq_2, denS.eq_3, denS.eq_4, denS.eq_5, denS.eq_6, denS.eq_7, denS.eq_8, denS.eq_9, denS.eq_10, denS.eq_13, denS.eq_14, denS.eq_15, denS.eq_16, denS.eq_17, d_for, d_whl, den.eq_1, den.eq_2, den.eq_3, den.eq_4, den.eq_5, den.eq_6, den.eq_7, den.eq_8, den.eq_9, den.eq_10, den.eq_11, den.eq_12, den.eq_13, den.eq_14, den.eq_15, den.eq_16, den.eq_17, den.eq_18, den.eq_19, den.eq_20, den.eq_21, den.eq_23, den.eq_24, den.eq_25, den.eq_26, den.eq_27, d_comp, denT, denEs, denEO, denC, denI, bind_ok, of_some, look_0, look_s, List.length_cons, List.length_nil, List.map_cons, List.map_nil, List.replicate, List.cons_append, List.nil_append, if_true, drf_int, drf_bl, drf_tup, drf_lst, drf_non, drf_str, drf_q, Ev.T.own, wipeE, setAll, dTru, dNeg, bindT, List.set_cons_zero, List.set_cons_succ, Option.map_some, rq_0, rq_1, Nat.reduceAdd, Nat.reduceSub, hM, e5, e6]
    rw [ss_ret a4]
    rfl
end K60

namespace K60
open PySem Ev
variable {F : Fs} {G : Gs} {o : Os} {k : Nat}
theorem ne_num (q : Rat) : dCmp .ne (.int q.num) (.int 0) = some (!decide (q = 0)) := by
  rw [ne_int]
  by_cases h : q = 0
  · subst h; rfl
  · have : ¬ q.num = 0 := fun z => h (Rat.num_eq_zero.mp z)
    simp [h, this]
theorem len_M {M : Mat} : dBi .len [DM M] = some (.int M.length) := by
  show some (D.int ((M.map DL).length : Nat)) = _
  rw [List.length_map]
theorem sol_spots {n w a : Nat} {M : Mat} (hM : Rect n w M) (ha : a < n) (hw : a < w) (r z1 z4 z5 z6 z7 z8 z9 z10 z11 : Option D) :
    compLoop (compG F G (.var 6) (.one 6) (.some (.cmp .ne (.idx (.idx (.idx (.var 2) (.var 6)) (.var 3)) (.int 0)) (.int 0))) [r, z1, some (DM M), some (.int a), z4, z5, z6, z7, z8, z9, z10, z11]) (dRng a n) o = .ok ((((List.range (n - a)).map (a + ·)).filter fun s => decide (ent M s a ≠ 0)).map fun i : Nat => .int i) o := by
  rw [rng_map]
  refine comp_filter _ fun s hs => ?_
  obtain ⟨i, hi, rfl⟩ := List.mem_map.mp hs
  have hi := List.mem_range.mp hi
  have hsn : a + i < n := by omega
  generalize a + i = s at *
  have e1 := ix_M (o := o) (M := M) (i := s) (by rw [hM.1]; exact hsn)
  have e2 := look_at (o := o) hM hsn hw
  simp -implicitDefEqProofs only [compG, runBody, denSs, denS.eq_1, denS.eq_2, denS.eq_3, denS.eq_4, denS.eq_5, denS.eq_6, denS.eq_7, denS.eq_8, denS.eq_9, denS.eq_10, denS.eq_13, denS.eq_14, denS.eq_15, denS.eq_16, denS.eq_17, d_for, d_whl, den.eq_1, den.eq_2, den.eq_3, den.eq_4, den.eq_5, den.eq_6, den.eq_7, den.eq_8, den.eq_9, den.eq_10, den.eq_11, den.eq_12, den.eq_13, den.eq_14, den.eq_15, den.eq_16, den.eq_17, den.eq_18, den.eq_19, den.eq_20, den.eq_21, den.eq_23, den.eq_24, den.eq_25, den.eq_26, den.eq_27, d_comp, denT, denEs, denEO, denC, denI, bind_ok, of_some, look_0, look_s, List.length_cons, List.length_nil, List.map_cons, List.map_nil, List.replicate, List.cons_append, List.nil_append, if_true, drf_int, drf_bl, drf_tup, drf_lst, drf_non, drf_str, drf_q, Ev.T.own, wipeE, setAll, dTru, dNeg, bindT, List.set_cons_zero, List.set_cons_succ, Option.map_some, rq_0, rq_1, Nat.reduceAdd, Nat.reduceSub, e1, e2, Res.calm, ne_num]
  by_cases h : ent M s a = 0 <;> simp [h]
theorem sol_head {b : Nat} {l : Row} {q : Rat} (hl : SzR b l) (hq : Sz b q) (h0 : q ≠ 0) (hb : b + b ≤ 9000) (r z1 z2 z3 z4 z6 z7 z8 z9 z10 z11 : Option D) :
    compLoop (compG (sem G fns (k + 2)) G (.call 11 (.cons (.var 10) (.cons (.var 5) .nil))) (.one 10) .none [r, z1, z2, z3, z4, some (Rq q), z6, z7, z8, z9, z10, z11]) (l.map Rq) o = .ok ((l.map (· / q)).map Rq) o := by
  rw [comp_map (g := fun p : Rat => Rq (p / q)) l fun p hp => ?_]
  · rw [List.map_map]; rfl
  · have e1 := s_law_over (G := G) (o := o) (k := k) (hl p hp) hq hb h0
    simp -implicitDefEqProofs only [compG, runBody, denSs, denS.eq_1, denS.eq_2, denS.eq_3, denS.eq_4, denS.eq_5, denS.eq_6, denS.eq_7, denS.eq_8, denS.eq_9, denS.eq_10, denS.eq_13, denS.eq_14, denS.eq_15, denS.eq_16, denS.eq_17, d_for, d_whl, den.eq_1, den.eq_2, den.eq_3, den.eq_4, den.eq_5, den.eq_6, den.eq_7, den.eq_8, den.eq_9, den.eq_10, den.eq_11, den.eq_12, den.eq_13, den.eq_14, den.eq_15, den.eq_16, den.eq_17, den.eq_18, den.eq_19, den.eq_20, den.eq_21, den.eq_23, den.eq_24, den.eq_25, den.eq_26, den.eq_27, d_comp, denT, denEs, denEO, denC, denI, bind_ok, of_some, look_0, look_s, List.length_cons, List.length_nil, List.map_cons, List.map_nil, List.replicate, List.cons_append, List.nil_append, if_true, drf_int, drf_bl, drf_tup, drf_lst, drf_non, drf_str, drf_q, Ev.T.own, wipeE, setAll, dTru, dNeg, bindT, List.set_cons_zero, List.set_cons_succ, Option.map_some, rq_0, rq_1, Nat.reduceAdd, Nat.reduceSub, e1, Res.calm]
theorem sol_clear {b c a : Nat} {head line : Row} (hl : SzR b line) (hh : SzR c head) (ha : a < line.length) (h : b + (b + c) ≤ 9000) (r z1 z2 z3 z4 z5 z6 z8 z9 z10 z11 : Option D) :
    compLoop (compG (sem G fns (k + 2)) G (.call 12 (.cons (.var 10) (.cons (.call 8 (.cons (.var 7) (.cons (.var 11) .nil))) .nil))) (.many [10, 11]) .none [r, z1, z2, z3, z4, z5, z6, some (Rq (line.getD a 0)), z8, z9, z10, z11]) (dZip (line.map Rq) (head.map Rq)) o = .ok ((clearR a head line).map Rq) o := by
  have hs := sz_getD hl ha
  rw [zip_map2 line head, comp_map (g := fun p : Rat × Rat => Rq (p.1 - line.getD a 0 * p.2)) (line.zip head) fun p hp => ?_]
  · rw [clearR_zip, List.map_map]
    rfl
  · obtain ⟨p1, p2⟩ := p
    have h1 := hl _ (List.of_mem_zip hp).1
    have h2 := hh _ (List.of_mem_zip hp).2
    have e1 := s_law_times (G := G) (o := o) (k := k) hs h2 (by omega)
    have e2 := s_law_minus (G := G) (o := o) (k := k) h1 (sz_mul hs h2) (by omega) (gcd_sub h1 (sz_mul hs h2) h)
    simp -implicitDefEqProofs only [compG, runBody, denSs, denS.eq_1, denS.eq_2, denS.eq_3, denS.eq_4, denS.eq_5, denS.eq_6, denS.eq_7, denS.eq_8, denS.eq_9, denS.eq_10, denS.eq_13, denS.eq_14, denS.eq_15, denS.eq_16, denS.eq_17, d_for, d_whl, den.eq_1, den.eq_2, den.eq_3, den.eq_4, den.eq_5, den.eq_6, den.eq_7, den.eq_8, den.eq_9, den.eq_10, den.eq_11, den.eq_12, den.eq_13, den.eq_14, den.eq_15, den.eq_16, den.eq_17, den.eq_18, den.eq_19, den.eq_20, den.eq_21, den.eq_23, den.eq_24, den.eq_25, den.eq_26, den.eq_27, d_comp, denT, denEs, denEO, denC, denI, bind_ok, of_some, look_0, look_s, List.length_cons, List.length_nil, List.map_cons, List.map_nil, List.replicate, List.cons_append, List.nil_append, if_true, drf_int, drf_bl, drf_tup, drf_lst, drf_non, drf_str, drf_q, Ev.T.own, wipeE, setAll, dTru, dNeg, bindT, List.set_cons_zero, List.set_cons_succ, Option.map_some, rq_0, rq_1, Nat.reduceAdd, Nat.reduceSub, Res.calm, e1, e2]
def upto (a : Nat) (head : Row) (i : Nat) (M : Mat) : Mat := M.mapIdx fun s line => if s < i ∧ s ≠ a then clearR a head line else line
theorem upto_len {a i : Nat} {head : Row} {M : Mat} : (upto a head i M).length = M.length := by simp [upto]
theorem upto_el {a i s : Nat} {head : Row} {M : Mat} (h : s < (upto a head i M).length) : (upto a head i M)[s] = if s < i ∧ s ≠ a then clearR a head (M[s]'(by rw [upto_len] at h; exact h)) else M[s]'(by rw [upto_len] at h; exact h) := by
  unfold upto at h ⊢
  rw [List.getElem_mapIdx]
theorem upto_get {a i s : Nat} {head : Row} {M : Mat} (h : s < M.length) (hi : i ≤ s ∨ s = a) : (upto a head i M).getD s [] = M.getD s [] := by
  have : ¬ (s < i ∧ s ≠ a) := by omega
  simp [upto, List.getD, h, this]
theorem upto_set {a i : Nat} {head : Row} {M : Mat} (hi : i < M.length) (h : i ≠ a) : (upto a head i M).set i (clearR a head (M.getD i [])) = upto a head (i + 1) M := by
  refine List.ext_getElem (by simp [upto]) fun s h1 h2 => ?_
  have hs : s < M.length := by simpa [upto] using h2
  rw [List.getElem_set]
  rw [upto_el, upto_el]
  by_cases e : i = s
  · subst e
    have : i < i + 1 ∧ i ≠ a := ⟨by omega, h⟩
    rw [if_pos rfl, if_pos this]
    simp [List.getD, hs]
  · rw [if_neg e]
    have : (s < i ∧ s ≠ a) ↔ (s < i + 1 ∧ s ≠ a) := by omega
    simp -implicitDefEqProofs only [this]
theorem clear_0 {a : Nat} {head line : Row} (h : head.length = line.length) (h0 : line.getD a 0 = 0) : clearR a head line = line := by
  unfold clearR
  rw [h0]
  refine List.ext_getElem (by simp [h]) fun s h1 h2 => ?_
  rw [List.getElem_zipWith]
  grind
theorem upto_id {a i : Nat} {head : Row} {M : Mat} (hi : i < M.length) (h : i = a ∨ clearR a head (M.getD i []) = M.getD i []) : upto a head i M = upto a head (i + 1) M := by
  refine List.ext_getElem (by simp [upto]) fun s h1 h2 => ?_
  have hs : s < M.length := by simpa [upto] using h2
  rw [upto_el, upto_el]
  by_cases e : s = i
  · subst e
    have h3 : ¬ (s < s ∧ s ≠ a) := by omega
    rw [if_neg h3]
    rcases h with h | h
    · have h4 : ¬ (s < s + 1 ∧ s ≠ a) := by omega
      rw [if_neg h4]
    · have e : M.getD s [] = M[s] := by simp [List.getD, hs]
      rw [e] at h
      rw [h]; split <;> rfl
  · have : (s < i ∧ s ≠ a) ↔ (s < i + 1 ∧ s ≠ a) := by omega
    simp -implicitDefEqProofs only [this]
theorem upto_0 {a : Nat} {head : Row} {M : Mat} : upto a head 0 M = M := by
  refine List.ext_getElem (by simp [upto]) fun s h1 h2 => ?_
  rw [upto_el]
  simp
theorem upto_all {a : Nat} {head : Row} {M : Mat} : upto a head M.length M = M.mapIdx fun s line => if s = a then line else clearR a head line := by
  refine List.ext_getElem (by simp [upto]) fun s h1 h2 => ?_
  have hs : s < M.length := by simpa [upto] using h1
  rw [upto_el, List.getElem_mapIdx]
  by_cases e : s = a
  · simp [e]
  · simp [e, hs]
end K60

namespace K60
open PySem Ev
variable {F : Fs} {G : Gs} {o : Os} {k : Nat}
def solB : Ev.Ss := match b__law_solved with
  | .cons _ (.cons (.for _ _ b) _) => b
  | _ => .nil
def solI : Ev.Ss := match solB with
  | .cons _ (.cons _ (.cons _ (.cons _ (.cons _ (.cons (.for _ _ b) _))))) => b
  | _ => .nil
theorem solI_eq : solI = (.cons (.asg (.one 7) (.idx (.idx (.var 2) (.var 6)) (.var 3))) (.cons (.ite (.and (.cmp .ne (.var 6) (.var 3)) (.cmp .ne (.idx (.var 7) (.int 0)) (.int 0))) (.cons (.sto 2 (.var 6) (.comp (.call 12 (.cons (.var 10) (.cons (.call 8 (.cons (.var 7) (.cons (.var 11) .nil))) .nil))) (.many [10, 11]) (.zip (.idx (.var 2) (.var 6)) (.idx (.var 2) (.var 3))) .none)) .nil) .nil) .nil)) := rfl
theorem forG_1 {i : Nat} {b : Ev.Ss} {x : D} {ρ : Ev.Env} : forG F G (.one i) b x ρ o = denSs F G b (ρ.set i (some x)) o := rfl
theorem sol_in1 {n w a b i : Nat} {M : Mat} (hM : Rect n w M) (ha : a < n) (hw : a < w) (hi : i < n) (hb : ∀ q ∈ M.zipIdx, q.2 ≠ a → SzR b q.1) (hc : SzR (b + b) (M.getD a [])) (hs : b + (b + (b + b)) ≤ 9000) (r z1 z4 z5 z6 z7 z8 z9 z10 z11 : Option D) :
    ∃ y7, forG (sem G fns (k + 2)) G (.one 6) solI (.int i) [r, z1, some (DM (upto a (M.getD a []) i M)), some (.int a), z4, z5, z6, z7, z8, z9, z10, z11] o = .ok (.nx [r, z1, some (DM (upto a (M.getD a []) (i + 1) M)), some (.int a), z4, z5, some (.int i), y7, z8, z9, z10, z11]) o := by
  have hl := hM.1
  have hil : i < M.length := by omega
  have hal : a < M.length := by omega
  have g1 := upto_get (a := a) (i := i) (s := i) (head := M.getD a []) hil (by omega)
  have g2 := upto_get (a := a) (i := i) (s := a) (head := M.getD a []) hal (by omega)
  have e1 := ix_M (o := o) (M := upto a (M.getD a []) i M) (i := i) (by rw [upto_len]; exact hil)
  have e2 := ix_M (o := o) (M := upto a (M.getD a []) i M) (i := a) (by rw [upto_len]; exact hal)
  rw [g1] at e1
  rw [g2] at e2
  have e3 := look_at (o := o) hM hi hw
  have hlr := rect_row hM hi
  have hla := rect_row hM ha
  refine ⟨some (Rq (ent M i a)), ?_⟩
  have a1 : denS (sem G fns (k + 2)) G (.asg (.one 7) (.idx (.idx (.var 2) (.var 6)) (.var 3))) [r, z1, some (DM (upto a (M.getD a []) i M)), some (.int a), z4, z5, some (.int i), z7, z8, z9, z10, z11] o = .ok (.nx [r, z1, some (DM (upto a (M.getD a []) i M)), some (.int a), z4, z5, some (.int i), some (Rq (ent M i a)), z8, z9, z10, z11]) o := by
    simp -implicitDefEqProofs only [runBody, denSs, denS.eq_1, denS.eq_2, denS.eq_3, denS.eq_4, denS.eq_5, denS.eq_6, denS.eq_7, denS.eq_8, denS.eq_9, denS.eq_10, denS.eq_13, denS.eq_14, denS.eq_15, denS.eq_16, denS.eq_17, d_for, d_whl, den.eq_1, den.eq_2, den.eq_3, den.eq_4, den.eq_5, den.eq_6, den.eq_7, den.eq_8, den.eq_9, den.eq_10, den.eq_11, den.eq_12, den.eq_13, den.eq_14, den.eq_15, den.eq_16, den.eq_17, den.eq_18, den.eq_19, den.eq_20, den.eq_21, den.eq_23, den.eq_24, den.eq_25, den.eq_26, den.eq_27, d_comp, denT, denEs, denEO, denC, denI, bind_ok, of_some, look_0, look_s, List.length_cons, List.length_nil, List.map_cons, List.map_nil, List.replicate, List.cons_append, List.nil_append, if_true, drf_int, drf_bl, drf_tup, drf_lst, drf_non, drf_str, drf_q, Ev.T.own, wipeE, setAll, dTru, dNeg, bindT, List.set_cons_zero, List.set_cons_succ, Option.map_some, rq_0, rq_1, Nat.reduceAdd, Nat.reduceSub, e1, e3]
  have hf : (false = true) = False := by simp
  rw [forG_1, solI_eq]
  simp -implicitDefEqProofs only [List.set_cons_zero, List.set_cons_succ]
  rw [ss_nx a1]
  by_cases c1 : i = a
  · have e4 := upto_id (a := a) (head := M.getD a []) hil (.inl c1)
    rw [e4]
    subst c1
    refine ss_nx ?_
    simp -implicitDefEqProofs only [runBody, denSs, denS.eq_1, denS.eq_2, denS.eq_3, denS.eq_4, denS.eq_5, denS.eq_6, denS.eq_7, denS.eq_8, denS.eq_9, denS.eq_10, denS.eq_13, denS.eq_14, denS.eq_15, denS.eq_16, denS.eq_17, d_for, d_whl, den.eq_1, den.eq_2, den.eq_3, den.eq_4, den.eq_5, den.eq_6, den.eq_7, den.eq_8, den.eq_9, den.eq_10, den.eq_11, den.eq_12, den.eq_13, den.eq_14, den.eq_15, den.eq_16, den.eq_17, den.eq_18, den.eq_19, den.eq_20, den.eq_21, den.eq_23, den.eq_24, den.eq_25, den.eq_26, den.eq_27, d_comp, denT, denEs, denEO, denC, denI, bind_ok, of_some, look_0, look_s, List.length_cons, List.length_nil, List.map_cons, List.map_nil, List.replicate, List.cons_append, List.nil_append, if_true, drf_int, drf_bl, drf_tup, drf_lst, drf_non, drf_str, drf_q, Ev.T.own, wipeE, setAll, dTru, dNeg, bindT, List.set_cons_zero, List.set_cons_succ, Option.map_some, rq_0, rq_1, Nat.reduceAdd, Nat.reduceSub, ne_int, decide_true, Bool.not_true, hf, if_false]
  · have c1' : ¬ ((i : Int) = (a : Int)) := by omega
    by_cases c2 : ent M i a = 0
    · have e4 := upto_id (a := a) (head := M.getD a []) hil (.inr (clear_0 (by omega) c2))
      rw [e4]
      refine ss_nx ?_
      have c2' : (ent M i a).num = 0 := by rw [c2]; rfl
      simp -implicitDefEqProofs only [runBody, denSs, denS.eq_1, denS.eq_2, denS.eq_3, denS.eq_4, denS.eq_5, denS.eq_6, denS.eq_7, denS.eq_8, denS.eq_9, denS.eq_10, denS.eq_13, denS.eq_14, denS.eq_15, denS.eq_16, denS.eq_17, d_for, d_whl, den.eq_1, den.eq_2, den.eq_3, den.eq_4, den.eq_5, den.eq_6, den.eq_7, den.eq_8, den.eq_9, den.eq_10, den.eq_11, den.eq_12, den.eq_13, den.eq_14, den.eq_15, den.eq_16, den.eq_17, den.eq_18, den.eq_19, den.eq_20, den.eq_21, den.eq_23, den.eq_24, den.eq_25, den.eq_26, den.eq_27, d_comp, denT, denEs, denEO, denC, denI, bind_ok, of_some, look_0, look_s, List.length_cons, List.length_nil, List.map_cons, List.map_nil, List.replicate, List.cons_append, List.nil_append, if_true, drf_int, drf_bl, drf_tup, drf_lst, drf_non, drf_str, drf_q, Ev.T.own, wipeE, setAll, dTru, dNeg, bindT, List.set_cons_zero, List.set_cons_succ, Option.map_some, rq_0, rq_1, Nat.reduceAdd, Nat.reduceSub, ne_int, c1', c2', decide_true, decide_false, Bool.not_false, Bool.not_true, hf, if_false]
    · have hm : (M.getD i [], i) ∈ M.zipIdx := by
        refine List.mem_zipIdx_iff_getElem?.mpr ?_
        simp [List.getD, hil]
      have e5 := sol_clear (k := k) (G := G) (o := o) (a := a) (hb _ hm c1) hc (by simp -implicitDefEqProofs only; omega) (by omega) r z1 (some (DM (upto a (M.getD a []) i M))) (some (.int a)) z4 z5 (some (.int i)) z8 z9 z10 z11
      simp -implicitDefEqProofs only at e5
      rw [← ent_getD] at e5
      have f1 := isL_M (ρ := [r, z1, some (DM (upto a (M.getD a []) i M)), some (.int a), z4, z5, some (.int i), some (Rq (ent M i a)), z8, z9, z10, z11]) (i := 2) (M := upto a (M.getD a []) i M) rfl
      have f2 := setAt_M (ρ := [r, z1, some (DM (upto a (M.getD a []) i M)), some (.int a), z4, z5, some (.int i), some (Rq (ent M i a)), z8, z9, z10, z11]) (i := 2) (j := i) (l := clearR a (M.getD a []) (M.getD i [])) (M := upto a (M.getD a []) i M) rfl (by rw [upto_len]; exact hil)
      rw [upto_set hil c1] at f2
      simp -implicitDefEqProofs only [List.set_cons_zero, List.set_cons_succ] at f2
      have h0 : dLs (DL (M.getD i [])) = some ((M.getD i []).map Rq) := rfl
      have h1 : dLs (DL (M.getD a [])) = some ((M.getD a []).map Rq) := rfl
      refine ss_nx ?_
      have c2' : ¬ (ent M i a).num = 0 := fun z => c2 (Rat.num_eq_zero.mp z)
      simp -implicitDefEqProofs only [runBody, denSs, denS.eq_1, denS.eq_2, denS.eq_3, denS.eq_4, denS.eq_5, denS.eq_6, denS.eq_7, denS.eq_8, denS.eq_9, denS.eq_10, denS.eq_13, denS.eq_14, denS.eq_15, denS.eq_16, denS.eq_17, d_for, d_whl, den.eq_1, den.eq_2, den.eq_3, den.eq_4, den.eq_5, den.eq_6, den.eq_7, den.eq_8, den.eq_9, den.eq_10, den.eq_11, den.eq_12, den.eq_13, den.eq_14, den.eq_15, den.eq_16, den.eq_17, den.eq_18, den.eq_19, den.eq_20, den.eq_21, den.eq_23, den.eq_24, den.eq_25, den.eq_26, den.eq_27, d_comp, denT, denEs, denEO, denC, denI, bind_ok, of_some, look_0, look_s, List.length_cons, List.length_nil, List.map_cons, List.map_nil, List.replicate, List.cons_append, List.nil_append, if_true, drf_int, drf_bl, drf_tup, drf_lst, drf_non, drf_str, drf_q, Ev.T.own, wipeE, setAll, dTru, dNeg, bindT, List.set_cons_zero, List.set_cons_succ, Option.map_some, rq_0, rq_1, Nat.reduceAdd, Nat.reduceSub, ne_int, c1', c2', decide_false, Bool.not_false, if_true, e1, e2, h0, h1, e5, f1, f2]
theorem sol_inner {n w a b : Nat} {M : Mat} (hM : Rect n w M) (ha : a < n) (hw : a < w) (hb : ∀ q ∈ M.zipIdx, q.2 ≠ a → SzR b q.1) (hc : SzR (b + b) (M.getD a [])) (hs : b + (b + (b + b)) ≤ 9000) (r z1 z4 z5 z8 z9 z10 z11 : Option D) : ∀ (i : Nat) (z6 z7 : Option D), i ≤ n →
    ∃ y6 y7, forLoop (forG (sem G fns (k + 2)) G (.one 6) solI) ((List.range' (n - i) i).map fun i : Nat => .int i) [r, z1, some (DM (upto a (M.getD a []) (n - i) M)), some (.int a), z4, z5, z6, z7, z8, z9, z10, z11] o = .ok (.nx [r, z1, some (DM (upto a (M.getD a []) n M)), some (.int a), z4, z5, y6, y7, z8, z9, z10, z11]) o
  | 0, z6, z7, _ => ⟨z6, z7, rfl⟩
  | i + 1, z6, z7, hi => by
    have e : n - i = n - (i + 1) + 1 := by omega
    rw [List.range'_succ, List.map_cons, ← e]
    obtain ⟨y7, h1⟩ := sol_in1 (k := k) (G := G) (o := o) (i := n - (i + 1)) hM ha hw (by omega) hb hc hs r z1 z4 z5 z6 z7 z8 z9 z10 z11
    rw [for_nx h1, ← e]
    exact sol_inner hM ha hw hb hc hs r z1 z4 z5 z8 z9 z10 z11 i _ _ (by omega)
end K60

namespace K60
open PySem Ev
variable {F : Fs} {G : Gs} {o : Os} {k : Nat}
theorem sol_step {n w a b : Nat} {M : Mat} (hM : Rect n w M) (ha : a < n) (hn : n < 1000) (hw : a < w) (hb : SzM b M) (hs : 4 * b ≤ 9000) (r z1 z3 z4 z5 z6 z7 z8 z9 z10 z11 : Option D) :
    (stepJ n a M = none ∧ forG (sem G fns (k + 2)) G (.one 3) solB (.int a) [r, z1, some (DM M), z3, z4, z5, z6, z7, z8, z9, z10, z11] o = .ok (.ret .non) o) ∨
    ∃ M' y3 y4 y5 y6 y7 y8 y9 y10 y11, stepJ n a M = some M' ∧ SzM (4 * b + 1) M' ∧ forG (sem G fns (k + 2)) G (.one 3) solB (.int a) [r, z1, some (DM M), z3, z4, z5, z6, z7, z8, z9, z10, z11] o = .ok (.nx [r, z1, some (DM M'), y3, y4, y5, y6, y7, y8, y9, y10, y11]) o := by
  have hrng := rng_ok (a := a) (n := n) (by omega) (by omega)
  have hsp := sol_spots (F := sem G fns (k + 2)) (G := G) (o := o) hM ha hw r z1 z4 z5 z6 z7 z8 z9 z10 z11
  have hpv : pivot n a M = (((List.range (n - a)).map (a + ·)).filter fun s => decide (ent M s a ≠ 0)).head? := find_head _
  generalize (((List.range (n - a)).map (a + ·)).filter fun s => decide (ent M s a ≠ 0)) = S at hsp hpv
  have hlm : M.length = n := hM.1
  have h1 : denS (sem G fns (k + 2)) G (.asg (.one 4) (.comp (.var 6) (.one 6) (.rng2 (.var 3) (.bi .len (.cons (.var 2) .nil))) (.some (.cmp .ne (.idx (.idx (.idx (.var 2) (.var 6)) (.var 3)) (.int 0)) (.int 0))))) [r, z1, some (DM M), some (.int a), z4, z5, z6, z7, z8, z9, z10, z11] o = .ok (.nx [r, z1, some (DM M), some (.int a), some (.lst (S.map fun i : Nat => .int i)), z5, z6, z7, z8, z9, z10, z11]) o := by
    simp -implicitDefEqProofs only [runBody, denSs, denS.eq_1, denS.eq_2, denS.eq_3, denS.eq_4, denS.eq_5, denS.eq_6, denS.eq_7, denS.eq_8, denS.eq_9, denS.eq_10, denS.eq_13, denS.eq_14, denS.eq_15, denS.eq_16, denS.eq_17, d_for, d_whl, den.eq_1, den.eq_2, den.eq_3, den.eq_4, den.eq_5, den.eq_6, den.eq_7, den.eq_8, den.eq_9, den.eq_10, den.eq_11, den.eq_12, den.eq_13, den.eq_14, den.eq_15, den.eq_16, den.eq_17, den.eq_18, den.eq_19, den.eq_20, den.eq_21, den.eq_23, den.eq_24, den.eq_25, den.eq_26, den.eq_27, d_comp, denT, denEs, denEO, denC, denI, bind_ok, of_some, look_0, look_s, List.length_cons, List.length_nil, List.map_cons, List.map_nil, List.replicate, List.cons_append, List.nil_append, if_true, drf_int, drf_bl, drf_tup, drf_lst, drf_non, drf_str, drf_q, Ev.T.own, wipeE, setAll, dTru, dNeg, bindT, List.set_cons_zero, List.set_cons_succ, Option.map_some, rq_0, rq_1, Nat.reduceAdd, Nat.reduceSub, len_M, hlm, hrng, hsp]
  simp -implicitDefEqProofs only [forG, solB, b__law_solved, bindT, of_some, bind_ok, List.set_cons_zero, List.set_cons_succ]
  rw [ss_nx h1]
  cases hS : S with
  | nil =>
    rw [hS] at hpv
    refine .inl ⟨by rw [stepJ_eq, hpv]; rfl, ?_⟩
    refine ss_ret ?_
    have e := lst_ne []
    simp -implicitDefEqProofs only [List.map_nil] at e
    simp -implicitDefEqProofs only [runBody, denSs, denS.eq_1, denS.eq_2, denS.eq_3, denS.eq_4, denS.eq_5, denS.eq_6, denS.eq_7, denS.eq_8, denS.eq_9, denS.eq_10, denS.eq_13, denS.eq_14, denS.eq_15, denS.eq_16, denS.eq_17, d_for, d_whl, den.eq_1, den.eq_2, den.eq_3, den.eq_4, den.eq_5, den.eq_6, den.eq_7, den.eq_8, den.eq_9, den.eq_10, den.eq_11, den.eq_12, den.eq_13, den.eq_14, den.eq_15, den.eq_16, den.eq_17, den.eq_18, den.eq_19, den.eq_20, den.eq_21, den.eq_23, den.eq_24, den.eq_25, den.eq_26, den.eq_27, d_comp, denT, denEs, denEO, denC, denI, bind_ok, of_some, look_0, look_s, List.length_cons, List.length_nil, List.map_cons, List.map_nil, List.replicate, List.cons_append, List.nil_append, if_true, drf_int, drf_bl, drf_tup, drf_lst, drf_non, drf_str, drf_q, Ev.T.own, wipeE, setAll, dTru, dBi, dBin, dNeg, bindT, List.set_cons_zero, List.set_cons_succ, Option.map_some, rq_0, rq_1, Nat.reduceAdd, Nat.reduceSub, e, List.isEmpty]
  | cons p S' =>
    have hp : pivot n a M = some p := by rw [hpv, hS]; rfl
    obtain ⟨q1, q2, q3⟩ := pvt_some hp
    have e0 : S.isEmpty = false := by rw [hS]; rfl
    have e1 := nat_lst (o := o) (l := S)
    rw [hS] at e1
    have hR := swap_rect hM ha q2
    have hzR := sz_swap hb hM ha q2
    have h0 : ent (swapR M a p) a a ≠ 0 := by
      rw [swap_ent hM ha q2]
      unfold swf
      by_cases h : a = p
      · subst h; rw [if_pos rfl]; exact q3
      · rw [if_neg h, if_pos rfl]; exact q3
    have e2 := ix_M (o := o) (M := M) (i := a) (by omega)
    have e3 := ix_M (o := o) (M := M) (i := p) (by omega)
    have hR1 := hR.1
    rw [← hS]
    have h2 : denS (sem G fns (k + 2)) G (.ite (.cmp .eq (.var 4) (.lst .nil)) (.cons (.ret .non) .nil) .nil) [r, z1, some (DM M), some (.int a), some (.lst (S.map fun i : Nat => .int i)), z5, z6, z7, z8, z9, z10, z11] o = .ok (.nx [r, z1, some (DM M), some (.int a), some (.lst (S.map fun i : Nat => .int i)), z5, z6, z7, z8, z9, z10, z11]) o := by
      have hf : (false = true) = False := by simp
      simp -implicitDefEqProofs only [runBody, denSs, denS.eq_1, denS.eq_2, denS.eq_3, denS.eq_4, denS.eq_5, denS.eq_6, denS.eq_7, denS.eq_8, denS.eq_9, denS.eq_10, denS.eq_13, denS.eq_14, denS.eq_15, denS.eq_16, denS.eq_17, d_for, d_whl, den.eq_1, den.eq_2, den.eq_3, den.eq_4, den.eq_5, den.eq_6, den.eq_7, den.eq_8, den.eq_9, den.eq_10, den.eq_11, den.eq_12, den.eq_13, den.eq_14, den.eq_15, den.eq_16, den.eq_17, den.eq_18, den.eq_19, den.eq_20, den.eq_21, den.eq_23, den.eq_24, den.eq_25, den.eq_26, den.eq_27, d_comp, denT, denEs, denEO, denC, denI, bind_ok, of_some, look_0, look_s, List.length_cons, List.length_nil, List.map_cons, List.map_nil, List.replicate, List.cons_append, List.nil_append, if_true, drf_int, drf_bl, drf_tup, drf_lst, drf_non, drf_str, drf_q, Ev.T.own, wipeE, setAll, dTru, dBi, dBin, dNeg, bindT, List.set_cons_zero, List.set_cons_succ, Option.map_some, rq_0, rq_1, Nat.reduceAdd, Nat.reduceSub, lst_ne, e0, hf, if_false]
    rw [ss_nx h2]
    have e1' : dIdx (.lst (S.map fun i : Nat => .int i)) (.int 0) o = some (.int p) := by rw [hS]; exact e1
    have l1 : M.length = n := hM.1
    have h3 : denS (sem G fns (k + 2)) G (.stoP 2 (.var 3) (.idx (.var 4) (.int 0)) (.idx (.var 2) (.idx (.var 4) (.int 0))) (.idx (.var 2) (.var 3))) [r, z1, some (DM M), some (.int a), some (.lst (S.map fun i : Nat => .int i)), z5, z6, z7, z8, z9, z10, z11] o = .ok (.nx [r, z1, some (DM (swapR M a p)), some (.int a), some (.lst (S.map fun i : Nat => .int i)), z5, z6, z7, z8, z9, z10, z11]) o := by
      have f1 := fun (M : Mat) => isL_M (ρ := [r, z1, some (DM M), some (.int a), some (.lst (S.map fun i : Nat => .int i)), z5, z6, z7, z8, z9, z10, z11]) (i := 2) (M := M) rfl
      have f2 := fun (M : Mat) (j : Nat) (l : Row) => setAt_M (ρ := [r, z1, some (DM M), some (.int a), some (.lst (S.map fun i : Nat => .int i)), z5, z6, z7, z8, z9, z10, z11]) (i := 2) (j := j) (l := l) (M := M) rfl
      have f3 := f2 M a (M.getD p []) (by omega)
      have f4 := f2 (M.set a (M.getD p [])) p (M.getD a []) (by rw [List.length_set]; omega)
      simp -implicitDefEqProofs only [List.set_cons_zero, List.set_cons_succ] at f3 f4
      simp -implicitDefEqProofs only [runBody, denSs, denS.eq_1, denS.eq_2, denS.eq_3, denS.eq_4, denS.eq_5, denS.eq_6, denS.eq_7, denS.eq_8, denS.eq_9, denS.eq_10, denS.eq_13, denS.eq_14, denS.eq_15, denS.eq_16, denS.eq_17, d_for, d_whl, den.eq_1, den.eq_2, den.eq_3, den.eq_4, den.eq_5, den.eq_6, den.eq_7, den.eq_8, den.eq_9, den.eq_10, den.eq_11, den.eq_12, den.eq_13, den.eq_14, den.eq_15, den.eq_16, den.eq_17, den.eq_18, den.eq_19, den.eq_20, den.eq_21, den.eq_23, den.eq_24, den.eq_25, den.eq_26, den.eq_27, d_comp, denT, denEs, denEO, denC, denI, bind_ok, of_some, look_0, look_s, List.length_cons, List.length_nil, List.map_cons, List.map_nil, List.replicate, List.cons_append, List.nil_append, if_true, drf_int, drf_bl, drf_tup, drf_lst, drf_non, drf_str, drf_q, Ev.T.own, wipeE, setAll, dTru, dBi, dBin, dNeg, bindT, List.set_cons_zero, List.set_cons_succ, Option.map_some, rq_0, rq_1, Nat.reduceAdd, Nat.reduceSub, e1', e2, e3, f1, f3, f4, swap_M]
    rw [ss_nx h3]
    have e4 := ix_M (o := o) (M := swapR M a p) (i := a) (by omega)
    have e5 := look_at (o := o) hR ha hw
    have h4 : denS (sem G fns (k + 2)) G (.asg (.one 5) (.idx (.idx (.var 2) (.var 3)) (.var 3))) [r, z1, some (DM (swapR M a p)), some (.int a), some (.lst (S.map fun i : Nat => .int i)), z5, z6, z7, z8, z9, z10, z11] o = .ok (.nx [r, z1, some (DM (swapR M a p)), some (.int a), some (.lst (S.map fun i : Nat => .int i)), some (Rq (ent (swapR M a p) a a)), z6, z7, z8, z9, z10, z11]) o := by
      simp -implicitDefEqProofs only [runBody, denSs, denS.eq_1, denS.eq_2, denS.eq_3, denS.eq_4, denS.eq_5, denS.eq_6, denS.eq_7, denS.eq_8, denS.eq_9, denS.eq_10, denS.eq_13, denS.eq_14, denS.eq_15, denS.eq_16, denS.eq_17, d_for, d_whl, den.eq_1, den.eq_2, den.eq_3, den.eq_4, den.eq_5, den.eq_6, den.eq_7, den.eq_8, den.eq_9, den.eq_10, den.eq_11, den.eq_12, den.eq_13, den.eq_14, den.eq_15, den.eq_16, den.eq_17, den.eq_18, den.eq_19, den.eq_20, den.eq_21, den.eq_23, den.eq_24, den.eq_25, den.eq_26, den.eq_27, d_comp, denT, denEs, denEO, denC, denI, bind_ok, of_some, look_0, look_s, List.length_cons, List.length_nil, List.map_cons, List.map_nil, List.replicate, List.cons_append, List.nil_append, if_true, drf_int, drf_bl, drf_tup, drf_lst, drf_non, drf_str, drf_q, Ev.T.own, wipeE, setAll, dTru, dBi, dBin, dNeg, bindT, List.set_cons_zero, List.set_cons_succ, Option.map_some, rq_0, rq_1, Nat.reduceAdd, Nat.reduceSub, e4, e5]
    rw [ss_nx h4]
    have hra := hzR _ (getD_mem (d := []) (by omega : a < (swapR M a p).length))
    have hla := rect_row hR ha
    have hqa : Sz b (ent (swapR M a p) a a) := sz_getD hra (by omega)
    have e6 := sol_head (k := k) (G := G) (o := o) hra hqa h0 (by omega) r z1 (some (DM (swapR M a p))) (some (.int a)) (some (.lst (S.map fun i : Nat => .int i))) z6 z7 z8 z9 z10 z11
    have hh : SzR (b + b) (((swapR M a p).getD a []).map (· / ent (swapR M a p) a a)) := fun q hq => by
      obtain ⟨c, hc, rfl⟩ := List.mem_map.mp hq
      exact sz_div (hra _ hc) hqa h0
    have hhl : (((swapR M a p).getD a []).map (· / ent (swapR M a p) a a)).length = w := by rw [List.length_map]; exact hla
    have hst := stepJ_eq (n := n) (a := a) (M := M)
    rw [hp, Option.map_some] at hst
    generalize (((swapR M a p).getD a []).map (· / ent (swapR M a p) a a)) = head at *
    have h5 : denS (sem G fns (k + 2)) G (.sto 2 (.var 3) (.comp (.call 11 (.cons (.var 10) (.cons (.var 5) .nil))) (.one 10) (.seq (.idx (.var 2) (.var 3))) .none)) [r, z1, some (DM (swapR M a p)), some (.int a), some (.lst (S.map fun i : Nat => .int i)), some (Rq (ent (swapR M a p) a a)), z6, z7, z8, z9, z10, z11] o = .ok (.nx [r, z1, some (DM ((swapR M a p).set a head)), some (.int a), some (.lst (S.map fun i : Nat => .int i)), some (Rq (ent (swapR M a p) a a)), z6, z7, z8, z9, z10, z11]) o := by
      have f1 := isL_M (ρ := [r, z1, some (DM (swapR M a p)), some (.int a), some (.lst (S.map fun i : Nat => .int i)), some (Rq (ent (swapR M a p) a a)), z6, z7, z8, z9, z10, z11]) (i := 2) (M := (swapR M a p)) rfl
      have f2 := setAt_M (ρ := [r, z1, some (DM (swapR M a p)), some (.int a), some (.lst (S.map fun i : Nat => .int i)), some (Rq (ent (swapR M a p) a a)), z6, z7, z8, z9, z10, z11]) (i := 2) (j := a) (l := head) (M := swapR M a p) rfl (by omega)
      simp -implicitDefEqProofs only [List.set_cons_zero, List.set_cons_succ] at f2
      simp -implicitDefEqProofs only [runBody, denSs, denS.eq_1, denS.eq_2, denS.eq_3, denS.eq_4, denS.eq_5, denS.eq_6, denS.eq_7, denS.eq_8, denS.eq_9, denS.eq_10, denS.eq_13, denS.eq_14, denS.eq_15, denS.eq_16, denS.eq_17, d_for, d_whl, den.eq_1, den.eq_2, den.eq_3, den.eq_4, den.eq_5, den.eq_6, den.eq_7, den.eq_8, den.eq_9, den.eq_10, den.eq_11, den.eq_12, den.eq_13, den.eq_14, den.eq_15, den.eq_16, den.eq_17, den.eq_18, den.eq_19, den.eq_20, den.eq_21, den.eq_23, den.eq_24, den.eq_25, den.eq_26, den.eq_27, d_comp, denT, denEs, denEO, denC, denI, bind_ok, of_some, look_0, look_s, List.length_cons, List.length_nil, List.map_cons, List.map_nil, List.replicate, List.cons_append, List.nil_append, if_true, drf_int, drf_bl, drf_tup, drf_lst, drf_non, drf_str, drf_q, Ev.T.own, wipeE, setAll, dTru, dBi, dBin, dNeg, bindT, List.set_cons_zero, List.set_cons_succ, Option.map_some, rq_0, rq_1, Nat.reduceAdd, Nat.reduceSub, e4, seq_L, e6, f1, f2]
    rw [ss_nx h5]
    have hR2 : Rect n w ((swapR M a p).set a head) := ⟨by rw [List.length_set]; exact hR.1, fun l hl => by
      rcases List.mem_or_eq_of_mem_set hl with hl | rfl
      · exact hR.2 _ hl
      · exact hhl⟩
    have hb2 : ∀ q ∈ ((swapR M a p).set a head).zipIdx, q.2 ≠ a → SzR b q.1 := fun q hq hqa => by
      have e := List.mem_zipIdx_iff_getElem?.mp hq
      rw [List.getElem?_set_ne (fun z => hqa z.symm)] at e
      exact hzR _ (List.mem_of_getElem? e)
    have hl2 := hR2.1
    have hga : ((swapR M a p).set a head).getD a [] = head := set_getD (by omega)
    obtain ⟨y6, y7, e8⟩ := sol_inner (k := k) (G := G) (o := o) hR2 ha hw hb2 (by rw [hga]; exact hh) (by omega) r z1 (some (.lst (S.map fun i : Nat => .int i))) (some (Rq (ent (swapR M a p) a a))) z8 z9 z10 z11 n z6 z7 (Nat.le_refl n)
    have h0n : n - n = 0 := by omega
    have hua := upto_all (a := a) (head := head) (M := (swapR M a p).set a head)
    rw [hl2] at hua
    rw [h0n, hga, upto_0, hua, ← rng_0] at e8
    have hr0 : rngOk 0 n = true := rng_ok (a := 0) (n := n) (by omega) (by omega)
    have h7 : denS (sem G fns (k + 2)) G (.for (.one 6) (.rng1 (.bi .len (.cons (.var 2) .nil))) solI) [r, z1, some (DM ((swapR M a p).set a head)), some (.int a), some (.lst (S.map fun i : Nat => .int i)), some (Rq (ent (swapR M a p) a a)), z6, z7, z8, z9, z10, z11] o = .ok (.nx [r, z1, some (DM (((swapR M a p).set a head).mapIdx fun s line => if s = a then line else clearR a head line)), some (.int a), some (.lst (S.map fun i : Nat => .int i)), some (Rq (ent (swapR M a p) a a)), y6, y7, z8, z9, z10, z11]) o := by
      simp -implicitDefEqProofs only [runBody, denSs, denS.eq_1, denS.eq_2, denS.eq_3, denS.eq_4, denS.eq_5, denS.eq_6, denS.eq_7, denS.eq_8, denS.eq_9, denS.eq_10, denS.eq_13, denS.eq_14, denS.eq_15, denS.eq_16, denS.eq_17, d_for, d_whl, den.eq_1, den.eq_2, den.eq_3, den.eq_4, den.eq_5, den.eq_6, den.eq_7, den.eq_8, den.eq_9, den.eq_10, den.eq_11, den.eq_12, den.eq_13, den.eq_14, den.eq_15, den.eq_16, den.eq_17, den.eq_18, den.eq_19, den.eq_20, den.eq_21, den.eq_23, den.eq_24, den.eq_25, den.eq_26, den.eq_27, d_comp, denT, denEs, denEO, denC, denI, bind_ok, of_some, look_0, look_s, List.length_cons, List.length_nil, List.map_cons, List.map_nil, List.replicate, List.cons_append, List.nil_append, if_true, drf_int, drf_bl, drf_tup, drf_lst, drf_non, drf_str, drf_q, Ev.T.own, wipeE, setAll, dTru, dNeg, bindT, List.set_cons_zero, List.set_cons_succ, Option.map_some, rq_0, rq_1, Nat.reduceAdd, Nat.reduceSub, len_M, hl2, hr0]
      exact e8
    rw [solI_eq] at h7
    rw [ss_nx h7]
    refine .inr ⟨_, _, _, _, _, _, _, _, _, _, hst, fun l hl => ?_, rfl⟩
    obtain ⟨i, hi, rfl⟩ := List.mem_iff_getElem.mp hl
    rw [List.getElem_mapIdx]
    have hi' : i < ((swapR M a p).set a head).length := by simpa using hi
    have hm : (((swapR M a p).set a head)[i], i) ∈ ((swapR M a p).set a head).zipIdx := List.mem_zipIdx_iff_getElem?.mpr (List.getElem?_eq_getElem hi')
    split
    · rename_i h
      subst h
      intro q hq
      have : ((swapR M i p).set i head)[i] = head := List.getElem_set_self _
      rw [this] at hq
      exact sz_mono (hh _ hq) (by omega)
    · rename_i h
      have := sz_clear (a := a) (hb2 _ hm h) hh (by rw [hR2.2 _ (List.getElem_mem hi')]; exact hw)
      exact fun q hq => sz_mono (this q hq) (by omega)
end K60

namespace K60
open PySem Ev
variable {F : Fs} {G : Gs} {o : Os} {k : Nat}
theorem sol_loop {n w : Nat} {rr z1 : Option D} (hn : n < 1000) (hnw : n ≤ w) : ∀ (r b : Nat) (M : Mat) (z3 z4 z5 z6 z7 z8 z9 z10 z11 : Option D), Rect n w M → SzM b M → r ≤ n → gro r b ≤ 9000 →
    (jordan n r M = none ∧ forLoop (forG (sem G fns (k + 2)) G (.one 3) solB) ((List.range' (n - r) r).map fun i : Nat => .int i) [rr, z1, some (DM M), z3, z4, z5, z6, z7, z8, z9, z10, z11] o = .ok (.ret .non) o) ∨
    ∃ M' y3 y4 y5 y6 y7 y8 y9 y10 y11, jordan n r M = some M' ∧ SzM (gro r b) M' ∧ Rect n w M' ∧ forLoop (forG (sem G fns (k + 2)) G (.one 3) solB) ((List.range' (n - r) r).map fun i : Nat => .int i) [rr, z1, some (DM M), z3, z4, z5, z6, z7, z8, z9, z10, z11] o = .ok (.nx [rr, z1, some (DM M'), y3, y4, y5, y6, y7, y8, y9, y10, y11]) o
  | 0, b, M, z3, z4, z5, z6, z7, z8, z9, z10, z11, hM, hb, hr, hg => .inr ⟨M, z3, z4, z5, z6, z7, z8, z9, z10, z11, rfl, hb, hM, rfl⟩
  | r + 1, b, M, z3, z4, z5, z6, z7, z8, z9, z10, z11, hM, hb, hr, hg => by
    have e : n - r = n - (r + 1) + 1 := by omega
    rw [gro] at hg
    have h4 := gro_ge r (4 * b + 1)
    rw [List.range'_succ, List.map_cons, jordan, ← e]
    have ha : n - (r + 1) < n := by omega
    rcases sol_step (k := k) (G := G) (o := o) (a := n - (r + 1)) hM ha hn (by omega) hb (by omega) rr z1 z3 z4 z5 z6 z7 z8 z9 z10 z11 with ⟨h1, h2⟩ | ⟨M1, y3, y4, y5, y6, y7, y8, y9, y10, y11, h1, h2, h3⟩
    · exact .inl ⟨by rw [h1]; rfl, for_ret h2⟩
    · rw [for_nx h3, h1, Option.bind_some, gro]
      exact sol_loop hn hnw r (4 * b + 1) M1 y3 y4 y5 y6 y7 y8 y9 y10 y11 (step_rect hM ha h1) h2 (by omega) hg
def augG (A : Mat) (g : Row) : Mat := (A.zip g).map fun p => p.1 ++ [p.2]
theorem augG_rect {n : Nat} {A : Mat} {g : Row} (hA : Rect n n A) (hg : g.length = n) : Rect n (n + 1) (augG A g) := ⟨by simp [augG, hA.1, hg], fun l hl => by
  obtain ⟨p, hp, rfl⟩ := Iff.mp List.mem_map hl
  have := hA.2 _ (List.of_mem_zip (a := p.1) (b := p.2) hp).1
  simp [this]⟩
theorem augG_sz {b : Nat} {A : Mat} {g : Row} (hb : SzM b A) (h1 : SzR b g) : SzM b (augG A g) := fun l hl => by
  obtain ⟨p, hp, rfl⟩ := Iff.mp List.mem_map hl
  have h := List.of_mem_zip (a := p.1) (b := p.2) hp
  intro q hq
  rcases Iff.mp List.mem_append hq with hq | hq
  · exact hb _ h.1 q hq
  · rw [List.mem_singleton.mp hq]; exact h1 _ h.2
theorem sol_aug {n : Nat} {A : Mat} {g : Row} (hA : Rect n n A) (hn : n < 300) (r z1 z2 z3 z4 z5 z6 z7 z8 z9 z10 z11 : Option D) :
    compLoop (compG F G (.bin .add (.bi .list (.cons (.var 8) .nil)) (.lst (.cons (.var 9) .nil))) (.many [8, 9]) .none [r, z1, z2, z3, z4, z5, z6, z7, z8, z9, z10, z11]) (dZip (A.map DT) (g.map Rq)) o = .ok ((augG A g).map DL) o := by
  rw [zip_map2, comp_map (g := fun p : Row × Rat => DL (p.1 ++ [p.2])) _ fun p hp => ?_]
  · rw [augG, List.map_map]; rfl
  · obtain ⟨l, q⟩ := p
    have hl : l.length = n := hA.2 _ (List.of_mem_zip hp).1
    have e2 := add_L (x := l) (y := [q]) (by simp; omega)
    simp -implicitDefEqProofs only [List.map_cons, List.map_nil] at e2
    have e3 : dBi .list [DT l] = some (DL l) := rfl
    simp -implicitDefEqProofs only [compG, runBody, denSs, denS.eq_1, denS.eq_2, denS.eq_3, denS.eq_4, denS.eq_5, denS.eq_6, denS.eq_7, denS.eq_8, denS.eq_9, denS.eq_10, denS.eq_13, denS.eq_14, denS.eq_15, denS.eq_16, denS.eq_17, d_for, d_whl, den.eq_1, den.eq_2, den.eq_3, den.eq_4, den.eq_5, den.eq_6, den.eq_7, den.eq_8, den.eq_9, den.eq_10, den.eq_11, den.eq_12, den.eq_13, den.eq_14, den.eq_15, den.eq_16, den.eq_17, den.eq_18, den.eq_19, den.eq_20, den.eq_21, den.eq_23, den.eq_24, den.eq_25, den.eq_26, den.eq_27, d_comp, denT, denEs, denEO, denC, denI, bind_ok, of_some, look_0, look_s, List.length_cons, List.length_nil, List.map_cons, List.map_nil, List.replicate, List.cons_append, List.nil_append, if_true, drf_int, drf_bl, drf_tup, drf_lst, drf_non, drf_str, drf_q, Ev.T.own, wipeE, setAll, dTru, dNeg, bindT, List.set_cons_zero, List.set_cons_succ, Option.map_some, rq_0, rq_1, Nat.reduceAdd, Nat.reduceSub, Res.calm, e2, e3]
theorem ix_last {n : Nat} {l : Row} (h : l.length = n + 1) : dIdx (DL l) (.int (-1)) o = some (Rq (l.getD n 0)) := by
  have h1 : ¬ ((0 : Int) ≤ -1) := by omega
  have h2 : ¬ (((-1 : Int) + ((n + 1 : Nat) : Int)) < 0) := by omega
  have h3 : ((-1 : Int) + ((n + 1 : Nat) : Int)).toNat = n := by omega
  simp [dIdx, L2.atI, L2.ixN, List.getD, h]
  have h4 : (1 : Int) ≤ n + 1 := by omega
  have h5 : (-1 + ((n : Int) + 1)).toNat = n := by omega
  rw [if_pos h4, h5]
  have hn : n < l.length := by omega
  simp [hn]

theorem sol_tail {n : Nat} {M : Mat} (hM : Rect n (n + 1) M) (r z1 z2 z3 z4 z5 z6 z7 z8 z9 z10 z11 : Option D) :
    compLoop (compG F G (.idx (.var 8) (.neg (.int 1))) (.one 8) .none [r, z1, z2, z3, z4, z5, z6, z7, z8, z9, z10, z11]) (M.map DL) o = .ok ((M.map fun l => l.getD n 0).map Rq) o := by
  rw [comp_map (g := fun l : Row => Rq (l.getD n 0)) _ fun l hl => ?_]
  · rw [List.map_map]; rfl
  · have e1 := ix_last (o := o) (hM.2 _ hl)
    simp -implicitDefEqProofs only [compG, runBody, denSs, denS.eq_1, denS.eq_2, denS.eq_3, denS.eq_4, denS.eq_5, denS.eq_6, denS.eq_7, denS.eq_8, denS.eq_9, denS.eq_10, denS.eq_13, denS.eq_14, denS.eq_15, denS.eq_16, denS.eq_17, d_for, d_whl, den.eq_1, den.eq_2, den.eq_3, den.eq_4, den.eq_5, den.eq_6, den.eq_7, den.eq_8, den.eq_9, den.eq_10, den.eq_11, den.eq_12, den.eq_13, den.eq_14, den.eq_15, den.eq_16, den.eq_17, den.eq_18, den.eq_19, den.eq_20, den.eq_21, den.eq_23, den.eq_24, den.eq_25, den.eq_26, den.eq_27, d_comp, denT, denEs, denEO, denC, denI, bind_ok, of_some, look_0, look_s, List.length_cons, List.length_nil, List.map_cons, List.map_nil, List.replicate, List.cons_append, List.nil_append, if_true, drf_int, drf_bl, drf_tup, drf_lst, drf_non, drf_str, drf_q, Ev.T.own, wipeE, setAll, dTru, dNeg, bindT, List.set_cons_zero, List.set_cons_succ, Option.map_some, rq_0, rq_1, Nat.reduceAdd, Nat.reduceSub, Res.calm, e1]
theorem s_solved {n b : Nat} {A : Mat} {g : Row} (hA : Rect n n A) (hgl : g.length = n) (hn : n < 300) (hb : SzM b A) (hb1 : SzR b g) (hg : gro n b ≤ 9000) :
    (jordan n n (augG A g) = none ∧ sem G fns (k + 3) 10 [DMT A, .lst (g.map Rq)] o = .ok .non o) ∨
    ∃ M, jordan n n (augG A g) = some M ∧ SzM (gro n b) M ∧ Rect n (n + 1) M ∧ sem G fns (k + 3) 10 [DMT A, .lst (g.map Rq)] o = .ok (DL (M.map fun l => l.getD n 0)) o := by
  rw [sem_succ f__law_solved rfl]
  have e2 := sol_aug (F := sem G fns (k + 2)) (G := G) (o := o) (g := g) hA hn (some (DMT A)) (some (.lst (g.map Rq))) none none none none none none none none none none
  have hls : dLs (.lst (g.map Rq)) = some (g.map Rq) := rfl
  have a2 : denS (sem G fns (k + 2)) G (.asg (.one 2) (.comp (.bin .add (.bi .list (.cons (.var 8) .nil)) (.lst (.cons (.var 9) .nil))) (.many [8, 9]) (.zip (.var 0) (.var 1)) .none)) [some (DMT A), some (.lst (g.map Rq)), none, none, none, none, none, none, none, none, none, none] o = .ok (.nx [some (DMT A), some (.lst (g.map Rq)), some (DM (augG A g)), none, none, none, none, none, none, none, none, none]) o := by
    simp -implicitDefEqProofs only [runBody, denSs, denS.eq_1, denS.eq_2, denS.eq_3, denS.eq_4, denS.eq_5, denS.eq_6, denS.eq_7, denS.eq_8, denS.eq_9, denS.eq_10, denS.eq_13, denS.eq_14, denS.eq_15, denS.eq_16, denS.eq_17, d_for, d_whl, den.eq_1, den.eq_2, den.eq_3, den.eq_4, den.eq_5, den.eq_6, den.eq_7, den.eq_8, den.eq_9, den.eq_10, den.eq_11, den.eq_12, den.eq_13, den.eq_14, den.eq_15, den.eq_16, den.eq_17, den.eq_18, den.eq_19, den.eq_20, den.eq_21, den.eq_23, den.eq_24, den.eq_25, den.eq_26, den.eq_27, d_comp, denT, denEs, denEO, denC, denI, bind_ok, of_some, look_0, look_s, List.length_cons, List.length_nil, List.map_cons, List.map_nil, List.replicate, List.cons_append, List.nil_append, if_true, drf_int, drf_bl, drf_tup, drf_lst, drf_non, drf_str, drf_q, Ev.T.own, wipeE, setAll, dTru, dNeg, bindT, List.set_cons_zero, List.set_cons_succ, Option.map_some, rq_0, rq_1, Nat.reduceAdd, Nat.reduceSub, ls_T, hls, e2]
    rfl
  have hR := augG_rect (g := g) hA hgl
  have hlR := hR.1
  have hr : rngOk 0 n = true := rng_ok (a := 0) (n := n) (by omega) (by omega)
  have a3 : ∀ r, forLoop (forG (sem G fns (k + 2)) G (.one 3) solB) ((List.range' 0 n).map fun i : Nat => .int i) [some (DMT A), some (.lst (g.map Rq)), some (DM (augG A g)), none, none, none, none, none, none, none, none, none] o = r → denS (sem G fns (k + 2)) G (.for (.one 3) (.rng1 (.bi .len (.cons (.var 2) .nil))) solB) [some (DMT A), some (.lst (g.map Rq)), some (DM (augG A g)), none, none, none, none, none, none, none, none, none] o = r := fun r h => by
    simp -implicitDefEqProofs only [runBody, denSs, denS.eq_1, denS.eq_2, denS.eq_3, denS.eq_4, denS.eq_5, denS.eq_6, denS.eq_7, denS.eq_8, denS.eq_9, denS.eq_10, denS.eq_13, denS.eq_14, denS.eq_15, denS.eq_16, denS.eq_17, d_for, d_whl, den.eq_1, den.eq_2, den.eq_3, den.eq_4, den.eq_5, den.eq_6, den.eq_7, den.eq_8, den.eq_9, den.eq_10, den.eq_11, den.eq_12, den.eq_13, den.eq_14, den.eq_15, den.eq_16, den.eq_17, den.eq_18, den.eq_19, den.eq_20, den.eq_21, den.eq_23, den.eq_24, den.eq_25, den.eq_26, den.eq_27, d_comp, denT, denEs, denEO, denC, denI, bind_ok, of_some, look_0, look_s, List.length_cons, List.length_nil, List.map_cons, List.map_nil, List.replicate, List.cons_append, List.nil_append, if_true, drf_int, drf_bl, drf_tup, drf_lst, drf_non, drf_str, drf_q, Ev.T.own, wipeE, setAll, dTru, dNeg, bindT, List.set_cons_zero, List.set_cons_succ, Option.map_some, rq_0, rq_1, Nat.reduceAdd, Nat.reduceSub, len_M, hlR, hr]
    rw [rng_0]
    exact h
  have hbody : f__law_solved.body = .cons (.asg (.one 2) (.comp (.bin .add (.bi .list (.cons (.var 8) .nil)) (.lst (.cons (.var 9) .nil))) (.many [8, 9]) (.zip (.var 0) (.var 1)) .none)) (.cons (.for (.one 3) (.rng1 (.bi .len (.cons (.var 2) .nil))) solB) (.cons (.ret (.comp (.idx (.var 8) (.neg (.int 1))) (.one 8) (.own 2) .none)) .nil)) := rfl
  have hrun : ∀ r, (denSs (sem G fns (k + 2)) G f__law_solved.body [some (DMT A), some (.lst (g.map Rq)), none, none, none, none, none, none, none, none, none, none] o) = r → runBody (sem G fns (k + 2)) G f__law_solved [DMT A, .lst (g.map Rq)] o = r.bind fun r o => match r with
    | .nx _ => .ok .non o
    | .ct _ => .bad
    | .ret d => .ok d o := fun r h => by
      rw [← h]; rfl
  have h0 : n - n = 0 := by omega
  rcases sol_loop (k := k) (G := G) (o := o) (n := n) (w := n + 1) (rr := some (DMT A)) (z1 := some (.lst (g.map Rq))) (by omega) (by omega) n b (augG A g) none none none none none none none none none hR (augG_sz hb hb1) (by omega) hg with ⟨j1, j2⟩ | ⟨M, y3, y4, y5, y6, y7, y8, y9, y10, y11, j1, j2, j3, j4⟩
  · rw [h0] at j2
    refine .inl ⟨j1, ?_⟩
    rw [hrun _ rfl, hbody, ss_nx a2, ss_ret (a3 _ j2)]
    rfl
  · rw [h0] at j4
    refine .inr ⟨M, j1, j2, j3, ?_⟩
    rw [hrun _ rfl, hbody, ss_nx a2, ss_nx (a3 _ j4)]
    have e5 := sol_tail (F := sem G fns (k + 2)) (G := G) (o := o) j3 (some (DMT A)) (some (.lst (g.map Rq))) (some (DM M)) y3 y4 y5 y6 y7 y8 y9 y10 y11
    have a4 : denS (sem G fns (k + 2)) G (.ret (.comp (.idx (.var 8) (.neg (.int 1))) (.one 8) (.own 2) .none)) [some (DMT A), some (.lst (g.map Rq)), some (DM M), y3, y4, y5, y6, y7, y8, y9, y10, y11] o = .ok (.ret (DL (M.map fun l => l.getD n 0))) o := by
      have hM : DM M = .lst (M.map DL) := rfl
      rw [hM] at e5
      simp -implicitDefEqProofs only [runBody, denSs, denS.eq_1, denS.eq_2, denS.eq_3, denS.eq_4, denS.eq_5, denS.eq_6, denS.eq_7, denS.eq_8, denS.eq_9, denS.eq_10, denS.eq_13, denS.eq_14, denS.eq_15, denS.eq_16, denS.eq_17, d_for, d_whl, den.eq_1, den.eq_2, den.eq_3, den.eq_4, den.eq_5, den.eq_6, den.eq_7, den.eq_8, den.eq_9, den.eq_10, den.eq_11, den.eq_12, den.eq_13, den.eq_14, den.eq_15, den.eq_16, den.eq_17, den.eq_18, den.eq_19, den.eq_20, den.eq_21, den.eq_23, den.eq_24, den.eq_25, den.eq_26, den.eq_27, d_comp, denT, denEs, denEO, denC, denI, bind_ok, of_some, look_0, look_s, List.length_cons, List.length_nil, List.map_cons, List.map_nil, List.replicate, List.cons_append, List.nil_append, if_true, drf_int, drf_bl, drf_tup, drf_lst, drf_non, drf_str, drf_q, Ev.T.own, wipeE, setAll, dTru, dNeg, bindT, List.set_cons_zero, List.set_cons_succ, Option.map_some, rq_0, rq_1, Nat.reduceAdd, Nat.reduceSub, hM, e5]
    rw [ss_ret a4]
    rfl
end K60

namespace K60
open PySem Ev
def unit (g s : Nat) : Rat := if s = g then 1 else 0
def invM (n : Nat) (E : (Nat → Rat) → Nat → Rat) : Mat := (List.range n).map fun k => (List.range n).map fun g => E (unit g) k
theorem elim_cong {n : Nat} : ∀ (r : Nat) (L L' : Nat → Nat → Rat), r ≤ n → (∀ j, j < n → L j = L' j) → elim n r L = elim n r L'
  | 0, _, _, _, _ => rfl
  | r + 1, L, L', hr, h => by
    have ha : n - (r + 1) < n := by omega
    rw [elim, elim, h _ ha]
    congr 1
    funext p
    rw [elim_cong r (fun j => stp (n - (r + 1)) p (L' (n - (r + 1))) (L j)) (fun j => stp (n - (r + 1)) p (L' (n - (r + 1))) (L' j)) (by omega) fun j hj => by rw [h j hj]]
theorem colf_augG {n j : Nat} {A : Mat} {g : Row} (hA : Rect n n A) (hg : g.length = n) (hj : j < n) : colf (augG A g) j = colf A j := by
  funext s
  by_cases hs : s < n
  · have h1 : s < A.length := by rw [hA.1]; exact hs
    have h2 : s < g.length := by omega
    have h3 : (A[s]).length = n := hA.2 _ (List.getElem_mem _)
    have h4 : j < (A[s] ++ [g[s]]).length := by rw [List.length_append]; omega
    have hz : (A.zip g)[s]? = some (A[s], g[s]) := by
      rw [List.getElem?_eq_getElem (by rw [List.length_zip]; omega), List.getElem_zip]
    simp [colf, ent, augG, List.getD, h1, hz]
    rw [List.getElem?_append_left (by omega)]
  · rw [colf, colf, ent_out (augG_rect hA hg) (.inl (by omega)), ent_out hA (.inl (by omega))]
theorem colf_goal {n : Nat} {A : Mat} {g : Row} (hA : Rect n n A) (hg : g.length = n) (s : Nat) : colf (augG A g) n s = g.getD s 0 := by
  by_cases hs : s < n
  · have h1 : s < A.length := by rw [hA.1]; exact hs
    have h2 : s < g.length := by omega
    have h3 : (A[s]).length = n := hA.2 _ (List.getElem_mem _)
    have hz : (A.zip g)[s]? = some (A[s], g[s]) := by
      rw [List.getElem?_eq_getElem (by rw [List.length_zip]; omega), List.getElem_zip]
    simp [colf, ent, augG, List.getD, hz, h2]
    rw [List.getElem?_append_right (by omega)]
    simp [h3]
  · rw [colf, ent_out (augG_rect hA hg) (.inl (by omega)), List.getD_eq_getElem?_getD, List.getElem?_eq_none (by omega)]; rfl
theorem eye_getD {n g : Nat} (hg : g < n) (s : Nat) : (eye n g).getD s 0 = unit g s := by
  unfold eye unit
  by_cases hs : s < n
  · simp [List.getD, hs]
  · have : ¬ s = g := by omega
    simp [List.getD, hs, this]
theorem rows_eq {n w : Nat} {M : Mat} (hM : Rect n w M) {α : Type} (f : Row → α) : M.map f = (List.range n).map fun s => f (M.getD s []) := by
  refine List.ext_getElem (by simp [hM.1]) fun i h1 h2 => ?_
  have hi : i < M.length := by simpa using h1
  simp [List.getD, hi]
theorem colf_augI {n j : Nat} {A : Mat} (hA : Rect n n A) (hj : j < n) : colf (augI n A) j = colf A j := by
  funext s
  by_cases hs : s < n
  · have h1 : s < A.length := by rw [hA.1]; exact hs
    have h3 : (A[s]).length = n := hA.2 _ (List.getElem_mem _)
    simp [colf, ent, augI, List.getD, h1]
    rw [List.getElem?_append_left (by omega)]
  · rw [colf, colf, ent_out (aug_rect hA) (.inl (by omega)), ent_out hA (.inl (by omega))]
theorem colf_unit {n g : Nat} {A : Mat} (hA : Rect n n A) (hg : g < n) : colf (augI n A) (n + g) = unit g := by
  funext s
  by_cases hs : s < n
  · have h1 : s < A.length := by rw [hA.1]; exact hs
    have h3 : (A[s]).length = n := hA.2 _ (List.getElem_mem _)
    simp [colf, ent, augI, List.getD, h1]
    rw [List.getElem?_append_right (by omega), h3]
    simp [eye, hg, unit, eq_comm]
  · rw [colf, ent_out (aug_rect hA) (.inl (by omega))]
    have : ¬ s = g := by omega
    simp [unit, this]
/-- one column of the inverse, as the law finds it -/
theorem known_col {n g : Nat} {A : Mat} (hA : Rect n n A) (hg : g < n) :
    (jordan n n (augG A (eye n g)) = none ↔ elim n n (colf A) = none) ∧ ∀ M E, jordan n n (augG A (eye n g)) = some M → elim n n (colf A) = some E → (M.map fun l => l.getD n 0) = (List.range n).map fun s => E (unit g) s := by
  have hl : (eye n g).length = n := by simp [eye]
  have hR := augG_rect hA hl
  have hc : elim n n (colf (augG A (eye n g))) = elim n n (colf A) := elim_cong n _ _ (Nat.le_refl n) fun j hj => colf_augG hA hl hj
  have hu : colf (augG A (eye n g)) n = unit g := by
    funext s
    rw [colf_goal hA hl, eye_getD hg]
  rcases jordan_elim n _ hR (Nat.le_refl n) with ⟨h1, h2⟩ | ⟨M', E', h1, h2, h3, h4⟩
  · rw [hc] at h2
    exact ⟨⟨fun _ => h2, fun _ => h1⟩, fun M E h => by rw [h1] at h; cases h⟩
  · rw [hc] at h2
    refine ⟨⟨fun h => (by rw [h1] at h; cases h), fun h => (by rw [h2] at h; cases h)⟩, fun M E h5 h6 => ?_⟩
    rw [h1] at h5
    cases h5
    rw [h2] at h6
    cases h6
    rw [rows_eq h3]
    refine List.map_congr_left fun s _ => ?_
    have := congrFun (h4 n) s
    rw [hu] at this
    exact this
/-- the inverse, as the program finds it -/
theorem inv_mat {n : Nat} {A : Mat} (hA : Rect n n A) :
    (jordan n n (augI n A) = none ↔ elim n n (colf A) = none) ∧ ∀ M E, jordan n n (augI n A) = some M → elim n n (colf A) = some E → M.map (·.drop n) = invM n E := by
  have hR := aug_rect hA
  have hc : elim n n (colf (augI n A)) = elim n n (colf A) := elim_cong n _ _ (Nat.le_refl n) fun j hj => colf_augI hA hj
  rcases jordan_elim n _ hR (Nat.le_refl n) with ⟨h1, h2⟩ | ⟨M', E', h1, h2, h3, h4⟩
  · rw [hc] at h2
    exact ⟨⟨fun _ => h2, fun _ => h1⟩, fun M E h => by rw [h1] at h; cases h⟩
  · rw [hc] at h2
    refine ⟨⟨fun h => (by rw [h1] at h; cases h), fun h => (by rw [h2] at h; cases h)⟩, fun M E h5 h6 => ?_⟩
    rw [h1] at h5
    cases h5
    rw [h2] at h6
    cases h6
    rw [rows_eq h3, invM]
    refine List.map_congr_left fun s hs => ?_
    have hs := List.mem_range.mp hs
    have hl := rect_row h3 hs
    refine List.ext_getElem (by simp -implicitDefEqProofs only [List.length_drop, List.length_map, List.length_range]; omega) fun g h5 h6 => ?_
    have hg : g < n := by simpa using h6
    have := congrFun (h4 (n + g)) s
    rw [colf_unit hA hg] at this
    rw [List.getElem_map, List.getElem_range, ← this, List.getElem_drop]
    unfold colf ent
    rw [List.getD_eq_getElem?_getD (l := List.getD _ _ _), List.getElem?_eq_getElem (by omega)]
    rfl
end K60

namespace K60
open PySem Ev
variable {F : Fs} {G : Gs} {o : Os} {k : Nat}
def inD (ws ns : List Str) (A : Mat) : D := .tup [.str "inputs", .tup (ws.map .str), .tup (ns.map .str), DMT A]
theorem ix_in1 {ws ns : List Str} {A : Mat} : dIdx (inD ws ns A) (.int 1) o = some (.tup (ws.map .str)) := rfl
theorem ix_in2 {ws ns : List Str} {A : Mat} : dIdx (inD ws ns A) (.int 2) o = some (.tup (ns.map .str)) := rfl
theorem ix_in3 {ws ns : List Str} {A : Mat} : dIdx (inD ws ns A) (.int 3) o = some (DMT A) := rfl
theorem len_T (l : List D) : dBi .len [.tup l] = some (.int l.length) := rfl
def knoB : Ev.Ss := match b__law_in_known with
  | .cons _ (.cons (.for _ _ b) _) => b
  | _ => .nil
theorem knoB_eq : knoB = (.cons (.asg (.one 3) (.call 10 (.cons (.idx (.var 0) (.int 3)) (.cons (.comp (.tup (.cons (.bi .int (.cons (.cmp .eq (.var 5) (.var 2)) .nil)) (.cons (.int 1) .nil))) (.one 5) (.rng1 (.bi .len (.cons (.idx (.var 0) (.int 2)) .nil))) .none) .nil)))) (.cons (.ite (.cmp .is (.var 3) .non) (.cons (.ret .non) .nil) .nil) (.cons (.app 1 (.var 3)) .nil))) := rfl
theorem kno_eye {at_ n : Nat} (r z1 z3 z4 z5 z6 : Option D) :
    compLoop (compG F G (.tup (.cons (.bi .int (.cons (.cmp .eq (.var 5) (.var 2)) .nil)) (.cons (.int 1) .nil))) (.one 5) .none [r, z1, some (.int at_), z3, z4, z5, z6]) (dRng 0 n) o = .ok ((eye n at_).map Rq) o := by
  unfold eye
  rw [rng_0, ← List.range_eq_range', comp_map (g := fun s : Nat => Rq (if s = at_ then 1 else 0)) _ fun s _ => ?_, List.map_map]
  · rfl
  · by_cases h : s = at_
    · subst h
      simp -implicitDefEqProofs only [compG, runBody, denSs, denS.eq_1, denS.eq_2, denS.eq_3, denS.eq_4, denS.eq_5, denS.eq_6, denS.eq_7, denS.eq_8, denS.eq_9, denS.eq_10, denS.eq_13, denS.eq_14, denS.eq_15, denS.eq_16, denS.eq_17, d_for, d_whl, den.eq_1, den.eq_2, den.eq_3, den.eq_4, den.eq_5, den.eq_6, den.eq_7, den.eq_8, den.eq_9, den.eq_10, den.eq_11, den.eq_12, den.eq_13, den.eq_14, den.eq_15, den.eq_16, den.eq_17, den.eq_18, den.eq_19, den.eq_20, den.eq_21, den.eq_23, den.eq_24, den.eq_25, den.eq_26, den.eq_27, d_comp, denT, denEs, denEO, denC, denI, bind_ok, of_some, look_0, look_s, List.length_cons, List.length_nil, List.map_cons, List.map_nil, List.replicate, List.cons_append, List.nil_append, if_true, drf_int, drf_bl, drf_tup, drf_lst, drf_non, drf_str, drf_q, Ev.T.own, wipeE, setAll, dTru, dBi, dBin, dNeg, bindT, List.set_cons_zero, List.set_cons_succ, Option.map_some, rq_0, rq_1, Nat.reduceAdd, Nat.reduceSub, Res.calm, eq_int, decide_true, if_true]
      rfl
    · have h' : ¬ ((s : Int) = (at_ : Int)) := by omega
      have hf : (false = true) = False := by simp
      simp -implicitDefEqProofs only [compG, runBody, denSs, denS.eq_1, denS.eq_2, denS.eq_3, denS.eq_4, denS.eq_5, denS.eq_6, denS.eq_7, denS.eq_8, denS.eq_9, denS.eq_10, denS.eq_13, denS.eq_14, denS.eq_15, denS.eq_16, denS.eq_17, d_for, d_whl, den.eq_1, den.eq_2, den.eq_3, den.eq_4, den.eq_5, den.eq_6, den.eq_7, den.eq_8, den.eq_9, den.eq_10, den.eq_11, den.eq_12, den.eq_13, den.eq_14, den.eq_15, den.eq_16, den.eq_17, den.eq_18, den.eq_19, den.eq_20, den.eq_21, den.eq_23, den.eq_24, den.eq_25, den.eq_26, den.eq_27, d_comp, denT, denEs, denEO, denC, denI, bind_ok, of_some, look_0, look_s, List.length_cons, List.length_nil, List.map_cons, List.map_nil, List.replicate, List.cons_append, List.nil_append, if_true, drf_int, drf_bl, drf_tup, drf_lst, drf_non, drf_str, drf_q, Ev.T.own, wipeE, setAll, dTru, dBi, dBin, dNeg, bindT, List.set_cons_zero, List.set_cons_succ, Option.map_some, rq_0, rq_1, Nat.reduceAdd, Nat.reduceSub, Res.calm, eq_int, h', decide_false, hf, if_false, h]
      rfl
theorem eye_sz {n g : Nat} : SzR 1 (eye n g) := fun q hq => by
  obtain ⟨s, _, rfl⟩ := List.mem_map.mp hq
  split
  · exact sz_1
  · exact sz_0
theorem is_non {d : D} : dCmp .is d .non = some (isNonD d) := rfl
theorem kno_1 {n b g : Nat} {ws ns : List Str} {A : Mat} {cs : List D} (hA : Rect n n A) (hns : ns.length = n) (hn : n < 300) (hg : g < n) (hcl : cs.length < 300) (hb : SzM b A) (h1 : 1 ≤ b) (hgr : gro n b ≤ 9000) (z2 z3 z4 z5 z6 : Option D) :
    (elim n n (colf A) = none ∧ forG (sem G fns (k + 3)) G (.one 2) knoB (.int g) [some (inD ws ns A), some (.lst cs), z2, z3, z4, z5, z6] o = .ok (.ret .non) o) ∨
    ∃ E y3, elim n n (colf A) = some E ∧ forG (sem G fns (k + 3)) G (.one 2) knoB (.int g) [some (inD ws ns A), some (.lst cs), z2, z3, z4, z5, z6] o = .ok (.nx [some (inD ws ns A), some (.lst (cs ++ [DL ((List.range n).map fun s => E (unit g) s)])), some (.int g), y3, z4, z5, z6]) o := by
  have hl : (eye n g).length = n := by simp [eye]
  have hr : rngOk 0 n = true := rng_ok (a := 0) (n := n) (by omega) (by omega)
  have e1 := kno_eye (F := sem G fns (k + 3)) (G := G) (o := o) (at_ := g) (n := n) (some (inD ws ns A)) (some (.lst cs)) z3 z4 z5 z6
  obtain ⟨c1, c2⟩ := known_col hA hg
  have hsz : SzR b (eye n g) := fun q hq => sz_mono (eye_sz q hq) h1
  rw [forG_1, knoB_eq]
  simp -implicitDefEqProofs only [List.set_cons_zero, List.set_cons_succ]
  rcases s_solved (k := k) (G := G) (o := o) hA hl hn hb hsz hgr with ⟨j1, j2⟩ | ⟨M, j1, j2, j3, j4⟩
  · refine .inl ⟨c1.mp j1, ?_⟩
    have a1 : denS (sem G fns (k + 3)) G (.asg (.one 3) (.call 10 (.cons (.idx (.var 0) (.int 3)) (.cons (.comp (.tup (.cons (.bi .int (.cons (.cmp .eq (.var 5) (.var 2)) .nil)) (.cons (.int 1) .nil))) (.one 5) (.rng1 (.bi .len (.cons (.idx (.var 0) (.int 2)) .nil))) .none) .nil)))) [some (inD ws ns A), some (.lst cs), some (.int g), z3, z4, z5, z6] o = .ok (.nx [some (inD ws ns A), some (.lst cs), some (.int g), some .non, z4, z5, z6]) o := by
      simp -implicitDefEqProofs only [runBody, denSs, denS.eq_1, denS.eq_2, denS.eq_3, denS.eq_4, denS.eq_5, denS.eq_6, denS.eq_7, denS.eq_8, denS.eq_9, denS.eq_10, denS.eq_13, denS.eq_14, denS.eq_15, denS.eq_16, denS.eq_17, d_for, d_whl, den.eq_1, den.eq_2, den.eq_3, den.eq_4, den.eq_5, den.eq_6, den.eq_7, den.eq_8, den.eq_9, den.eq_10, den.eq_11, den.eq_12, den.eq_13, den.eq_14, den.eq_15, den.eq_16, den.eq_17, den.eq_18, den.eq_19, den.eq_20, den.eq_21, den.eq_23, den.eq_24, den.eq_25, den.eq_26, den.eq_27, d_comp, denT, denEs, denEO, denC, denI, bind_ok, of_some, look_0, look_s, List.length_cons, List.length_nil, List.map_cons, List.map_nil, List.replicate, List.cons_append, List.nil_append, if_true, drf_int, drf_bl, drf_tup, drf_lst, drf_non, drf_str, drf_q, Ev.T.own, wipeE, setAll, dTru, dNeg, bindT, List.set_cons_zero, List.set_cons_succ, Option.map_some, rq_0, rq_1, Nat.reduceAdd, Nat.reduceSub, ix_in2, ix_in3, len_T, List.length_map, hns, hr, e1, j2]
    rw [ss_nx a1]
    refine ss_ret ?_
    simp -implicitDefEqProofs only [runBody, denSs, denS.eq_1, denS.eq_2, denS.eq_3, denS.eq_4, denS.eq_5, denS.eq_6, denS.eq_7, denS.eq_8, denS.eq_9, denS.eq_10, denS.eq_13, denS.eq_14, denS.eq_15, denS.eq_16, denS.eq_17, d_for, d_whl, den.eq_1, den.eq_2, den.eq_3, den.eq_4, den.eq_5, den.eq_6, den.eq_7, den.eq_8, den.eq_9, den.eq_10, den.eq_11, den.eq_12, den.eq_13, den.eq_14, den.eq_15, den.eq_16, den.eq_17, den.eq_18, den.eq_19, den.eq_20, den.eq_21, den.eq_23, den.eq_24, den.eq_25, den.eq_26, den.eq_27, d_comp, denT, denEs, denEO, denC, denI, bind_ok, of_some, look_0, look_s, List.length_cons, List.length_nil, List.map_cons, List.map_nil, List.replicate, List.cons_append, List.nil_append, if_true, drf_int, drf_bl, drf_tup, drf_lst, drf_non, drf_str, drf_q, Ev.T.own, wipeE, setAll, dTru, dNeg, bindT, List.set_cons_zero, List.set_cons_succ, Option.map_some, rq_0, rq_1, Nat.reduceAdd, Nat.reduceSub, is_non, isNonD]
  · cases hE : elim n n (colf A) with
    | none => rw [c1.mpr hE] at j1; cases j1
    | some E =>
      have e2 := c2 M E j1 hE
      rw [e2] at j4
      refine .inr ⟨E, some (DL ((List.range n).map fun s => E (unit g) s)), rfl, ?_⟩
      have a1 : denS (sem G fns (k + 3)) G (.asg (.one 3) (.call 10 (.cons (.idx (.var 0) (.int 3)) (.cons (.comp (.tup (.cons (.bi .int (.cons (.cmp .eq (.var 5) (.var 2)) .nil)) (.cons (.int 1) .nil))) (.one 5) (.rng1 (.bi .len (.cons (.idx (.var 0) (.int 2)) .nil))) .none) .nil)))) [some (inD ws ns A), some (.lst cs), some (.int g), z3, z4, z5, z6] o = .ok (.nx [some (inD ws ns A), some (.lst cs), some (.int g), some (DL ((List.range n).map fun s => E (unit g) s)), z4, z5, z6]) o := by
        simp -implicitDefEqProofs only [runBody, denSs, denS.eq_1, denS.eq_2, denS.eq_3, denS.eq_4, denS.eq_5, denS.eq_6, denS.eq_7, denS.eq_8, denS.eq_9, denS.eq_10, denS.eq_13, denS.eq_14, denS.eq_15, denS.eq_16, denS.eq_17, d_for, d_whl, den.eq_1, den.eq_2, den.eq_3, den.eq_4, den.eq_5, den.eq_6, den.eq_7, den.eq_8, den.eq_9, den.eq_10, den.eq_11, den.eq_12, den.eq_13, den.eq_14, den.eq_15, den.eq_16, den.eq_17, den.eq_18, den.eq_19, den.eq_20, den.eq_21, den.eq_23, den.eq_24, den.eq_25, den.eq_26, den.eq_27, d_comp, denT, denEs, denEO, denC, denI, bind_ok, of_some, look_0, look_s, List.length_cons, List.length_nil, List.map_cons, List.map_nil, List.replicate, List.cons_append, List.nil_append, if_true, drf_int, drf_bl, drf_tup, drf_lst, drf_non, drf_str, drf_q, Ev.T.own, wipeE, setAll, dTru, dNeg, bindT, List.set_cons_zero, List.set_cons_succ, Option.map_some, rq_0, rq_1, Nat.reduceAdd, Nat.reduceSub, ix_in2, ix_in3, len_T, List.length_map, hns, hr, e1, j4]
      have a2 : denS (sem G fns (k + 3)) G (.ite (.cmp .is (.var 3) .non) (.cons (.ret .non) .nil) .nil) [some (inD ws ns A), some (.lst cs), some (.int g), some (DL ((List.range n).map fun s => E (unit g) s)), z4, z5, z6] o = .ok (.nx [some (inD ws ns A), some (.lst cs), some (.int g), some (DL ((List.range n).map fun s => E (unit g) s)), z4, z5, z6]) o := by
        have hf : (false = true) = False := by simp
        simp -implicitDefEqProofs only [runBody, denSs, denS.eq_1, denS.eq_2, denS.eq_3, denS.eq_4, denS.eq_5, denS.eq_6, denS.eq_7, denS.eq_8, denS.eq_9, denS.eq_10, denS.eq_13, denS.eq_14, denS.eq_15, denS.eq_16, denS.eq_17, d_for, d_whl, den.eq_1, den.eq_2, den.eq_3, den.eq_4, den.eq_5, den.eq_6, den.eq_7, den.eq_8, den.eq_9, den.eq_10, den.eq_11, den.eq_12, den.eq_13, den.eq_14, den.eq_15, den.eq_16, den.eq_17, den.eq_18, den.eq_19, den.eq_20, den.eq_21, den.eq_23, den.eq_24, den.eq_25, den.eq_26, den.eq_27, d_comp, denT, denEs, denEO, denC, denI, bind_ok, of_some, look_0, look_s, List.length_cons, List.length_nil, List.map_cons, List.map_nil, List.replicate, List.cons_append, List.nil_append, if_true, drf_int, drf_bl, drf_tup, drf_lst, drf_non, drf_str, drf_q, Ev.T.own, wipeE, setAll, dTru, dNeg, bindT, List.set_cons_zero, List.set_cons_succ, Option.map_some, rq_0, rq_1, Nat.reduceAdd, Nat.reduceSub, is_non, isNonD, hf, if_false]
      have a3 : denS (sem G fns (k + 3)) G (.app 1 (.var 3)) [some (inD ws ns A), some (.lst cs), some (.int g), some (DL ((List.range n).map fun s => E (unit g) s)), z4, z5, z6] o = .ok (.nx [some (inD ws ns A), some (.lst (cs ++ [DL ((List.range n).map fun s => E (unit g) s)])), some (.int g), some (DL ((List.range n).map fun s => E (unit g) s)), z4, z5, z6]) o := by
        have hcl' : cs.length < line := by unfold line; omega
        simp -implicitDefEqProofs only [runBody, denSs, denS.eq_1, denS.eq_2, denS.eq_3, denS.eq_4, denS.eq_5, denS.eq_6, denS.eq_7, denS.eq_8, denS.eq_9, denS.eq_10, denS.eq_13, denS.eq_14, denS.eq_15, denS.eq_16, denS.eq_17, d_for, d_whl, den.eq_1, den.eq_2, den.eq_3, den.eq_4, den.eq_5, den.eq_6, den.eq_7, den.eq_8, den.eq_9, den.eq_10, den.eq_11, den.eq_12, den.eq_13, den.eq_14, den.eq_15, den.eq_16, den.eq_17, den.eq_18, den.eq_19, den.eq_20, den.eq_21, den.eq_23, den.eq_24, den.eq_25, den.eq_26, den.eq_27, d_comp, denT, denEs, denEO, denC, denI, bind_ok, of_some, look_0, look_s, List.length_cons, List.length_nil, List.map_cons, List.map_nil, List.replicate, List.cons_append, List.nil_append, if_true, drf_int, drf_bl, drf_tup, drf_lst, drf_non, drf_str, drf_q, Ev.T.own, wipeE, setAll, dTru, dNeg, bindT, List.set_cons_zero, List.set_cons_succ, Option.map_some, rq_0, rq_1, Nat.reduceAdd, Nat.reduceSub, hcl', if_true]
      rw [ss_nx a1, ss_nx a2, ss_nx a3]
      rfl

def col (n : Nat) (E : (Nat → Rat) → Nat → Rat) (g : Nat) : D := DL ((List.range n).map fun s => E (unit g) s)
theorem kno_loop {n b : Nat} {ws ns : List Str} {A : Mat} {E : (Nat → Rat) → Nat → Rat} (hA : Rect n n A) (hns : ns.length = n) (hn : n < 300) (hb : SzM b A) (h1 : 1 ≤ b) (hgr : gro n b ≤ 9000) (hE : elim n n (colf A) = some E) : ∀ (i : Nat) (z2 z3 z4 z5 z6 : Option D), i ≤ n →
    ∃ y2 y3, forLoop (forG (sem G fns (k + 3)) G (.one 2) knoB) ((List.range' (n - i) i).map fun i : Nat => .int i) [some (inD ws ns A), some (.lst ((List.range (n - i)).map (col n E))), z2, z3, z4, z5, z6] o = .ok (.nx [some (inD ws ns A), some (.lst ((List.range n).map (col n E))), y2, y3, z4, z5, z6]) o
  | 0, z2, z3, z4, z5, z6, _ => ⟨z2, z3, rfl⟩
  | i + 1, z2, z3, z4, z5, z6, hi => by
    have e : n - i = n - (i + 1) + 1 := by omega
    rw [List.range'_succ, List.map_cons, ← e]
    rcases kno_1 (k := k) (G := G) (o := o) (ws := ws) (g := n - (i + 1)) (cs := (List.range (n - (i + 1))).map (col n E)) hA hns hn (by omega) (by simp; omega) hb h1 hgr z2 z3 z4 z5 z6 with ⟨h2, h3⟩ | ⟨E', y3, h2, h3⟩
    · rw [hE] at h2; cases h2
    · rw [hE] at h2
      cases h2
      rw [for_nx h3]
      have e2 : (List.range (n - (i + 1))).map (col n E) ++ [DL ((List.range n).map fun s => E (unit (n - (i + 1))) s)] = (List.range (n - i)).map (col n E) := by
        rw [e, List.range_succ, List.map_append]; rfl
      rw [e2]
      exact kno_loop hA hns hn hb h1 hgr hE i _ _ _ _ _ (by omega)
theorem kno_row {n kk : Nat} {E : (Nat → Rat) → Nat → Rat} (hk : kk < n) (r z1 z2 z3 z5 z6 : Option D) :
    compLoop (compG F G (.idx (.var 6) (.var 4)) (.one 6) .none [r, z1, z2, z3, some (.int kk), z5, z6]) ((List.range n).map (col n E)) o = .ok (((List.range n).map fun g => E (unit g) kk).map Rq) o := by
  rw [comp_map (g := fun g : Nat => Rq (E (unit g) kk)) _ fun g _ => ?_, List.map_map]
  · rfl
  · have e1 : dIdx (col n E g) (.int kk) o = some (Rq (E (unit g) kk)) := by
      unfold col
      rw [DL, idx_row (by simpa using hk)]
      simp [List.getD, hk]
    simp -implicitDefEqProofs only [compG, runBody, denSs, denS.eq_1, denS.eq_2, denS.eq_3, denS.eq_4, denS.eq_5, denS.eq_6, denS.eq_7, denS.eq_8, denS.eq_9, denS.eq_10, denS.eq_13, denS.eq_14, denS.eq_15, denS.eq_16, denS.eq_17, d_for, d_whl, den.eq_1, den.eq_2, den.eq_3, den.eq_4, den.eq_5, den.eq_6, den.eq_7, den.eq_8, den.eq_9, den.eq_10, den.eq_11, den.eq_12, den.eq_13, den.eq_14, den.eq_15, den.eq_16, den.eq_17, den.eq_18, den.eq_19, den.eq_20, den.eq_21, den.eq_23, den.eq_24, den.eq_25, den.eq_26, den.eq_27, d_comp, denT, denEs, denEO, denC, denI, bind_ok, of_some, look_0, look_s, List.length_cons, List.length_nil, List.map_cons, List.map_nil, List.replicate, List.cons_append, List.nil_append, if_true, drf_int, drf_bl, drf_tup, drf_lst, drf_non, drf_str, drf_q, Ev.T.own, wipeE, setAll, dTru, dNeg, bindT, List.set_cons_zero, List.set_cons_succ, Option.map_some, rq_0, rq_1, Nat.reduceAdd, Nat.reduceSub, Res.calm, e1]
theorem kno_mat {n : Nat} {E : (Nat → Rat) → Nat → Rat} (r z2 z3 z4 z5 z6 : Option D) :
    compLoop (compG F G (.bi .tuple (.cons (.comp (.idx (.var 6) (.var 4)) (.one 6) (.own 1) .none) .nil)) (.one 4) .none [r, some (.lst ((List.range n).map (col n E))), z2, z3, z4, z5, z6]) (dRng 0 n) o = .ok ((invM n E).map DT) o := by
  unfold invM
  rw [rng_0, ← List.range_eq_range', comp_map (g := fun s : Nat => DT ((List.range n).map fun g => E (unit g) s)) _ fun s hs => ?_, List.map_map]
  · rfl
  · have e1 := kno_row (F := F) (G := G) (o := o) (E := E) (List.mem_range.mp hs) r (some (.lst ((List.range n).map (col n E)))) z2 z3 z5 z6
    have e2 : ∀ l : Row, dBi .tuple [.lst (l.map Rq)] = some (DT l) := fun _ => rfl
    simp -implicitDefEqProofs only [compG, runBody, denSs, denS.eq_1, denS.eq_2, denS.eq_3, denS.eq_4, denS.eq_5, denS.eq_6, denS.eq_7, denS.eq_8, denS.eq_9, denS.eq_10, denS.eq_13, denS.eq_14, denS.eq_15, denS.eq_16, denS.eq_17, d_for, d_whl, den.eq_1, den.eq_2, den.eq_3, den.eq_4, den.eq_5, den.eq_6, den.eq_7, den.eq_8, den.eq_9, den.eq_10, den.eq_11, den.eq_12, den.eq_13, den.eq_14, den.eq_15, den.eq_16, den.eq_17, den.eq_18, den.eq_19, den.eq_20, den.eq_21, den.eq_23, den.eq_24, den.eq_25, den.eq_26, den.eq_27, d_comp, denT, denEs, denEO, denC, denI, bind_ok, of_some, look_0, look_s, List.length_cons, List.length_nil, List.map_cons, List.map_nil, List.replicate, List.cons_append, List.nil_append, if_true, drf_int, drf_bl, drf_tup, drf_lst, drf_non, drf_str, drf_q, Ev.T.own, wipeE, setAll, dTru, dNeg, bindT, List.set_cons_zero, List.set_cons_succ, Option.map_some, rq_0, rq_1, Nat.reduceAdd, Nat.reduceSub, Res.calm, e1, e2]
theorem s_known {n b : Nat} {ws ns : List Str} {A : Mat} (hA : Rect n n A) (hws : ws.length = n) (hns : ns.length = n) (hn : n < 300) (hn0 : 0 < n) (hb : SzM b A) (h1 : 1 ≤ b) (hgr : gro n b ≤ 9000) :
    (elim n n (colf A) = none ∧ sem G fns (k + 4) 9 [inD ws ns A] o = .ok .non o) ∨
    ∃ E, elim n n (colf A) = some E ∧ sem G fns (k + 4) 9 [inD ws ns A] o = .ok (DMT (invM n E)) o := by
  rw [sem_succ f__law_in_known rfl]
  have hr : rngOk 0 n = true := rng_ok (a := 0) (n := n) (by omega) (by omega)
  have a1 : denS (sem G fns (k + 3)) G (.asg (.one 1) (.lst .nil)) [some (inD ws ns A), none, none, none, none, none, none] o = .ok (.nx [some (inD ws ns A), some (.lst []), none, none, none, none, none]) o := by
    simp -implicitDefEqProofs only [runBody, denSs, denS.eq_1, denS.eq_2, denS.eq_3, denS.eq_4, denS.eq_5, denS.eq_6, denS.eq_7, denS.eq_8, denS.eq_9, denS.eq_10, denS.eq_13, denS.eq_14, denS.eq_15, denS.eq_16, denS.eq_17, d_for, d_whl, den.eq_1, den.eq_2, den.eq_3, den.eq_4, den.eq_5, den.eq_6, den.eq_7, den.eq_8, den.eq_9, den.eq_10, den.eq_11, den.eq_12, den.eq_13, den.eq_14, den.eq_15, den.eq_16, den.eq_17, den.eq_18, den.eq_19, den.eq_20, den.eq_21, den.eq_23, den.eq_24, den.eq_25, den.eq_26, den.eq_27, d_comp, denT, denEs, denEO, denC, denI, bind_ok, of_some, look_0, look_s, List.length_cons, List.length_nil, List.map_cons, List.map_nil, List.replicate, List.cons_append, List.nil_append, if_true, drf_int, drf_bl, drf_tup, drf_lst, drf_non, drf_str, drf_q, Ev.T.own, wipeE, setAll, dTru, dNeg, bindT, List.set_cons_zero, List.set_cons_succ, Option.map_some, rq_0, rq_1, Nat.reduceAdd, Nat.reduceSub]
  have a3 : ∀ r, forLoop (forG (sem G fns (k + 3)) G (.one 2) knoB) ((List.range' 0 n).map fun i : Nat => .int i) [some (inD ws ns A), some (.lst []), none, none, none, none, none] o = r → denS (sem G fns (k + 3)) G (.for (.one 2) (.rng1 (.bi .len (.cons (.idx (.var 0) (.int 2)) .nil))) knoB) [some (inD ws ns A), some (.lst []), none, none, none, none, none] o = r := fun r h => by
    simp -implicitDefEqProofs only [runBody, denSs, denS.eq_1, denS.eq_2, denS.eq_3, denS.eq_4, denS.eq_5, denS.eq_6, denS.eq_7, denS.eq_8, denS.eq_9, denS.eq_10, denS.eq_13, denS.eq_14, denS.eq_15, denS.eq_16, denS.eq_17, d_for, d_whl, den.eq_1, den.eq_2, den.eq_3, den.eq_4, den.eq_5, den.eq_6, den.eq_7, den.eq_8, den.eq_9, den.eq_10, den.eq_11, den.eq_12, den.eq_13, den.eq_14, den.eq_15, den.eq_16, den.eq_17, den.eq_18, den.eq_19, den.eq_20, den.eq_21, den.eq_23, den.eq_24, den.eq_25, den.eq_26, den.eq_27, d_comp, denT, denEs, denEO, denC, denI, bind_ok, of_some, look_0, look_s, List.length_cons, List.length_nil, List.map_cons, List.map_nil, List.replicate, List.cons_append, List.nil_append, if_true, drf_int, drf_bl, drf_tup, drf_lst, drf_non, drf_str, drf_q, Ev.T.own, wipeE, setAll, dTru, dNeg, bindT, List.set_cons_zero, List.set_cons_succ, Option.map_some, rq_0, rq_1, Nat.reduceAdd, Nat.reduceSub, ix_in2, len_T, List.length_map, hns, hr]
    rw [rng_0]
    exact h
  have hbody : f__law_in_known.body = .cons (.asg (.one 1) (.lst .nil)) (.cons (.for (.one 2) (.rng1 (.bi .len (.cons (.idx (.var 0) (.int 2)) .nil))) knoB) (.cons (.ret (.bi .tuple (.cons (.comp (.bi .tuple (.cons (.comp (.idx (.var 6) (.var 4)) (.one 6) (.own 1) .none) .nil)) (.one 4) (.rng1 (.bi .len (.cons (.idx (.var 0) (.int 1)) .nil))) .none) .nil))) .nil)) := rfl
  have hrun : ∀ r, (denSs (sem G fns (k + 3)) G f__law_in_known.body [some (inD ws ns A), none, none, none, none, none, none] o) = r → runBody (sem G fns (k + 3)) G f__law_in_known [inD ws ns A] o = r.bind fun r o => match r with
    | .nx _ => .ok .non o
    | .ct _ => .bad
    | .ret d => .ok d o := fun r h => by
      rw [← h]; rfl
  cases hE : elim n n (colf A) with
  | none =>
    refine .inl ⟨rfl, ?_⟩
    rcases kno_1 (k := k) (G := G) (o := o) (ws := ws) (g := 0) (cs := []) hA hns hn hn0 (by simp) hb h1 hgr none none none none none with ⟨h2, h3⟩ | ⟨E', y3, h2, h3⟩
    · have hf : forLoop (forG (sem G fns (k + 3)) G (.one 2) knoB) ((List.range' 0 n).map fun i : Nat => .int i) [some (inD ws ns A), some (.lst []), none, none, none, none, none] o = .ok (.ret .non) o := by
        obtain ⟨m, rfl⟩ : ∃ r, n = r + 1 := ⟨n - 1, by omega⟩
        rw [List.range'_succ, List.map_cons]
        exact for_ret h3
      rw [hrun _ rfl, hbody, ss_nx a1, ss_ret (a3 _ hf)]
      rfl
    · rw [hE] at h2; cases h2
  | some E =>
    refine .inr ⟨E, rfl, ?_⟩
    obtain ⟨y2, y3, h3⟩ := kno_loop (k := k) (G := G) (o := o) (ws := ws) hA hns hn hb h1 hgr hE n none none none none none (Nat.le_refl n)
    have h0 : n - n = 0 := by omega
    rw [h0, List.range_zero, List.map_nil] at h3
    have e5 := kno_mat (F := sem G fns (k + 3)) (G := G) (o := o) (n := n) (E := E) (some (inD ws ns A)) y2 y3 none none none
    have e6 : dBi .tuple [.lst ((invM n E).map DT)] = some (DMT (invM n E)) := rfl
    have a4 : denS (sem G fns (k + 3)) G (.ret (.bi .tuple (.cons (.comp (.bi .tuple (.cons (.comp (.idx (.var 6) (.var 4)) (.one 6) (.own 1) .none) .nil)) (.one 4) (.rng1 (.bi .len (.cons (.idx (.var 0) (.int 1)) .nil))) .none) .nil))) [some (inD ws ns A), some (.lst ((List.range n).map (col n E))), y2, y3, none, none, none] o = .ok (.ret (DMT (invM n E))) o := by
      simp -implicitDefEqProofs only [runBody, denSs, denS.eq_1, denS.eq_2, denS.eq_3, denS.eq_4, denS.eq_5, denS.eq_6, denS.eq_7, denS.eq_8, denS.eq_9, denS.eq_10, denS.eq_13, denS.eq_14, denS.eq_15, denS.eq_16, denS.eq_17, d_for, d_whl, den.eq_1, den.eq_2, den.eq_3, den.eq_4, den.eq_5, den.eq_6, den.eq_7, den.eq_8, den.eq_9, den.eq_10, den.eq_11, den.eq_12, den.eq_13, den.eq_14, den.eq_15, den.eq_16, den.eq_17, den.eq_18, den.eq_19, den.eq_20, den.eq_21, den.eq_23, den.eq_24, den.eq_25, den.eq_26, den.eq_27, d_comp, denT, denEs, denEO, denC, denI, bind_ok, of_some, look_0, look_s, List.length_cons, List.length_nil, List.map_cons, List.map_nil, List.replicate, List.cons_append, List.nil_append, if_true, drf_int, drf_bl, drf_tup, drf_lst, drf_non, drf_str, drf_q, Ev.T.own, wipeE, setAll, dTru, dNeg, bindT, List.set_cons_zero, List.set_cons_succ, Option.map_some, rq_0, rq_1, Nat.reduceAdd, Nat.reduceSub, ix_in1, len_T, List.length_map, hws, hr, e5, e6]
    rw [hrun _ rfl, hbody, ss_nx a1, ss_nx (a3 _ h3), ss_ret a4]
    rfl
end K60

namespace K60
open PySem Ev
variable {F : Fs} {G : Gs} {o : Os} {k : Nat}
structure InOk (n : Nat) (ws ns : List Str) (A : Mat) : Prop where
  lw : ws.length = n
  ln : ns.length = n
  n1 : 1 ≤ n
  n4 : n ≤ 4
  ww : ∀ v ∈ ws, IsW v
  wn : ∀ v ∈ ns, IsW v
  uw : Up ws
  un : Up ns
  rA : Rect n n A
  ge : ∀ l ∈ A, ∀ q ∈ l, 0 ≤ q.num
  gt : ∀ l ∈ A, ∃ q ∈ l, 0 < q.num
structure GOk (G : Gs) : Prop where
  g0 : G 0 = some (.str ABC)
  g1 : G 1 = some (.int 6)
  g2 : G 2 = some (.int 4)
  g3 : G 3 = some (Rq 1)
  g4 : G 4 = some (Rq 0)
theorem bls_map {α : Type} (f : α → Bool) : ∀ l : List α, blsOf (l.map fun a => .bl (f a)) = some (l.map f)
  | [] => rfl
  | a :: l => by rw [List.map_cons, blsOf, bls_map f l]; rfl
theorem any_bls {α : Type} {f : α → Bool} {l : List α} : dBi .any [.lst (l.map fun a => .bl (f a))] = some (.bl (l.any f)) := by
  show (blsOf (l.map fun a => .bl (f a))).map (fun bs => D.bl (bs.any id)) = _
  rw [bls_map]
  simp
theorem all_bls {α : Type} {f : α → Bool} {l : List α} : dBi .all [.lst (l.map fun a => .bl (f a))] = some (.bl (l.all f)) := by
  show (blsOf (l.map fun a => .bl (f a))).map (fun bs => D.bl (bs.all id)) = _
  rw [bls_map]
  simp
theorem gt_int (i j : Int) : dCmp .gt (.int i) (.int j) = some (decide (j < i)) := rfl
theorem ne_str {x y : Str} (hx : PyData.strOk x = true) (hy : PyData.strOk y = true) : dCmp .ne (.str x) (.str y) = some (!decide (x = y)) := by
  unfold dCmp
  simp -implicitDefEqProofs only
  rw [deq_dec (n := 0) (m := 0) (by simpa [pl] using hx) (by simpa [pl] using hy) (by decide) (by decide)]
  simp
theorem seq_T {l : Row} : dSeq (DT l) = some (l.map Rq) := rfl
theorem seq_MT {A : Mat} : dSeq (DMT A) = some (A.map DT) := rfl
theorem len_MT {A : Mat} : dBi .len [DMT A] = some (.int A.length) := by
  show some (D.int ((A.map DT).length : Nat)) = _
  rw [List.length_map]
theorem row_pos {l : Row} (z0 z1 z2 : Option D) :
    compLoop (compG F G (.cmp .gt (.idx (.var 2) (.int 0)) (.int 0)) (.one 2) .none [z0, z1, z2]) (l.map Rq) o = .ok (l.map fun q => .bl (decide (0 < q.num))) o := by
  rw [comp_map (g := fun q : Rat => .bl (decide (0 < q.num))) _ fun q _ => ?_]
  simp -implicitDefEqProofs only [compG, runBody, denSs, denS.eq_1, denS.eq_2, denS.eq_3, denS.eq_4, denS.eq_5, denS.eq_6, denS.eq_7, denS.eq_8, denS.eq_9, denS.eq_10, denS.eq_13, denS.eq_14, denS.eq_15, denS.eq_16, denS.eq_17, d_for, d_whl, den.eq_1, den.eq_2, den.eq_3, den.eq_4, den.eq_5, den.eq_6, den.eq_7, den.eq_8, den.eq_9, den.eq_10, den.eq_11, den.eq_12, den.eq_13, den.eq_14, den.eq_15, den.eq_16, den.eq_17, den.eq_18, den.eq_19, den.eq_20, den.eq_21, den.eq_23, den.eq_24, den.eq_25, den.eq_26, den.eq_27, d_comp, denT, denEs, denEO, denC, denI, bind_ok, of_some, look_0, look_s, List.length_cons, List.length_nil, List.map_cons, List.map_nil, List.replicate, List.cons_append, List.nil_append, if_true, drf_int, drf_bl, drf_tup, drf_lst, drf_non, drf_str, drf_q, Ev.T.own, wipeE, setAll, dTru, dNeg, bindT, List.set_cons_zero, List.set_cons_succ, Option.map_some, rq_0, rq_1, Nat.reduceAdd, Nat.reduceSub, Res.calm, gt_int]
theorem s_is_inputs {n : Nat} {ws ns : List Str} {A : Mat} (hG : GOk G) (h : InOk n ws ns A) : sem G fns (k + 4) 17 [inD ws ns A] o = .ok (.bl true) o := by
  obtain ⟨g0, g1, g2, g3, g4⟩ := hG
  have e1 := s_are_names (k := k + 1) (G := G) (o := o) (most := 4) h.ww h.uw (by have := h.lw; have := h.n1; omega) (by have := h.lw; have := h.n4; omega) g0
  have e2 := s_are_names (k := k + 1) (G := G) (o := o) (most := 6) h.wn h.un (by have := h.ln; have := h.n1; omega) (by have := h.ln; have := h.n4; omega) g0
  have e3 : compLoop (compG (sem G fns (k + 3)) G (.and (.call 20 (.cons (.var 1) (.cons (.bi .len (.cons (.idx (.var 0) (.int 1)) .nil)) .nil))) (.bi .any (.cons (.comp (.cmp .gt (.idx (.var 2) (.int 0)) (.int 0)) (.one 2) (.seq (.var 1)) .none) .nil))) (.one 1) .none [some (inD ws ns A), none, none]) (A.map DT) o = .ok (A.map fun l => .bl true) o := by
    rw [comp_map (g := fun _ : Row => .bl true) _ fun l hl => ?_]
    have hlen : l.length = n := h.rA.2 _ hl
    have e1 := s_are_parts (k := k) (G := G) (o := o) (h.ge _ hl)
    rw [hlen] at e1
    have e4 := row_pos (F := sem G fns (k + 3)) (G := G) (o := o) (l := l) (some (inD ws ns A)) (some (DT l)) none
    have e5 : (l.any fun q => decide (0 < q.num)) = true := by
      obtain ⟨q, hq, h0⟩ := h.gt _ hl
      exact List.any_eq_true.mpr ⟨q, hq, by simpa using h0⟩
    simp -implicitDefEqProofs only [compG, runBody, denSs, denS.eq_1, denS.eq_2, denS.eq_3, denS.eq_4, denS.eq_5, denS.eq_6, denS.eq_7, denS.eq_8, denS.eq_9, denS.eq_10, denS.eq_13, denS.eq_14, denS.eq_15, denS.eq_16, denS.eq_17, d_for, d_whl, den.eq_1, den.eq_2, den.eq_3, den.eq_4, den.eq_5, den.eq_6, den.eq_7, den.eq_8, den.eq_9, den.eq_10, den.eq_11, den.eq_12, den.eq_13, den.eq_14, den.eq_15, den.eq_16, den.eq_17, den.eq_18, den.eq_19, den.eq_20, den.eq_21, den.eq_23, den.eq_24, den.eq_25, den.eq_26, den.eq_27, d_comp, denT, denEs, denEO, denC, denI, bind_ok, of_some, look_0, look_s, List.length_cons, List.length_nil, List.map_cons, List.map_nil, List.replicate, List.cons_append, List.nil_append, if_true, drf_int, drf_bl, drf_tup, drf_lst, drf_non, drf_str, drf_q, Ev.T.own, wipeE, setAll, dTru, dNeg, bindT, List.set_cons_zero, List.set_cons_succ, Option.map_some, rq_0, rq_1, Nat.reduceAdd, Nat.reduceSub, Res.calm, ix_in1, len_T, List.length_map, h.lw, e1, seq_T, e4, any_bls, e5]
  have e6 : dBi .all [.lst (A.map fun l : Row => .bl true)] = some (.bl true) := by
    rw [all_bls (f := fun _ : Row => true)]
    simp
  have hf : (false = true) = False := by simp
  have ht1 : dIs .tuple (inD ws ns A) = some true := rfl
  have hl1 : dBi .len [inD ws ns A] = some (.int 4) := rfl
  have h0 : dIdx (inD ws ns A) (.int 0) o = some (.str "inputs") := rfl
  have ht2 : dIs .str (.str "inputs") = some true := rfl
  have hs := ne_str (x := "inputs") (y := "inputs") (by decide +kernel) (by decide +kernel)
  have ht3 : dIs .tuple (DMT A) = some true := rfl
  have hlA := h.rA.1
  rw [sem_succ f_is_inputs rfl]
  simp -implicitDefEqProofs only [f_is_inputs, b_is_inputs, runBody, denSs, denS.eq_1, denS.eq_2, denS.eq_3, denS.eq_4, denS.eq_5, denS.eq_6, denS.eq_7, denS.eq_8, denS.eq_9, denS.eq_10, denS.eq_13, denS.eq_14, denS.eq_15, denS.eq_16, denS.eq_17, d_for, d_whl, den.eq_1, den.eq_2, den.eq_3, den.eq_4, den.eq_5, den.eq_6, den.eq_7, den.eq_8, den.eq_9, den.eq_10, den.eq_11, den.eq_12, den.eq_13, den.eq_14, den.eq_15, den.eq_16, den.eq_17, den.eq_18, den.eq_19, den.eq_20, den.eq_21, den.eq_23, den.eq_24, den.eq_25, den.eq_26, den.eq_27, d_comp, denT, denEs, denEO, denC, denI, bind_ok, of_some, look_0, look_s, List.length_cons, List.length_nil, List.map_cons, List.map_nil, List.replicate, List.cons_append, List.nil_append, if_true, drf_int, drf_bl, drf_tup, drf_lst, drf_non, drf_str, drf_q, Ev.T.own, wipeE, setAll, dTru, dNeg, bindT, List.set_cons_zero, List.set_cons_succ, Option.map_some, rq_0, rq_1, Nat.reduceAdd, Nat.reduceSub, ht1, hl1, h0, ht2, hs, ht3, ne_int, decide_true, Bool.not_true, hf, if_false, ix_in1, ix_in2, ix_in3, g1, g2, e1, e2, seq_MT, len_MT, len_T, List.length_map, hlA, h.ln, e3, e6]
theorem s_need_inputs {n : Nat} {ws ns : List Str} {A : Mat} (hG : GOk G) (h : InOk n ws ns A) : sem G fns (k + 5) 16 [inD ws ns A] o = .ok .non o := by
  have e1 := s_is_inputs (k := k) (o := o) hG h
  have hf : (false = true) = False := by simp
  rw [sem_succ f_need_inputs rfl]
  simp -implicitDefEqProofs only [f_need_inputs, b_need_inputs, runBody, denSs, denS.eq_1, denS.eq_2, denS.eq_3, denS.eq_4, denS.eq_5, denS.eq_6, denS.eq_7, denS.eq_8, denS.eq_9, denS.eq_10, denS.eq_13, denS.eq_14, denS.eq_15, denS.eq_16, denS.eq_17, d_for, d_whl, den.eq_1, den.eq_2, den.eq_3, den.eq_4, den.eq_5, den.eq_6, den.eq_7, den.eq_8, den.eq_9, den.eq_10, den.eq_11, den.eq_12, den.eq_13, den.eq_14, den.eq_15, den.eq_16, den.eq_17, den.eq_18, den.eq_19, den.eq_20, den.eq_21, den.eq_23, den.eq_24, den.eq_25, den.eq_26, den.eq_27, d_comp, denT, denEs, denEO, denC, denI, bind_ok, of_some, look_0, look_s, List.length_cons, List.length_nil, List.map_cons, List.map_nil, List.replicate, List.cons_append, List.nil_append, if_true, drf_int, drf_bl, drf_tup, drf_lst, drf_non, drf_str, drf_q, Ev.T.own, wipeE, setAll, dTru, dNeg, bindT, List.set_cons_zero, List.set_cons_succ, Option.map_some, rq_0, rq_1, Nat.reduceAdd, Nat.reduceSub, e1, Bool.not_true, hf, if_false]
theorem s_need_square {n : Nat} {ws ns : List Str} {A : Mat} (hG : GOk G) (h : InOk n ws ns A) : sem G fns (k + 6) 15 [inD ws ns A] o = .ok .non o := by
  have e1 := s_need_inputs (k := k) (o := o) hG h
  have hf : (false = true) = False := by simp
  rw [sem_succ f_need_square rfl]
  simp -implicitDefEqProofs only [f_need_square, b_need_square, runBody, denSs, denS.eq_1, denS.eq_2, denS.eq_3, denS.eq_4, denS.eq_5, denS.eq_6, denS.eq_7, denS.eq_8, denS.eq_9, denS.eq_10, denS.eq_13, denS.eq_14, denS.eq_15, denS.eq_16, denS.eq_17, d_for, d_whl, den.eq_1, den.eq_2, den.eq_3, den.eq_4, den.eq_5, den.eq_6, den.eq_7, den.eq_8, den.eq_9, den.eq_10, den.eq_11, den.eq_12, den.eq_13, den.eq_14, den.eq_15, den.eq_16, den.eq_17, den.eq_18, den.eq_19, den.eq_20, den.eq_21, den.eq_23, den.eq_24, den.eq_25, den.eq_26, den.eq_27, d_comp, denT, denEs, denEO, denC, denI, bind_ok, of_some, look_0, look_s, List.length_cons, List.length_nil, List.map_cons, List.map_nil, List.replicate, List.cons_append, List.nil_append, if_true, drf_int, drf_bl, drf_tup, drf_lst, drf_non, drf_str, drf_q, Ev.T.own, wipeE, setAll, dTru, dNeg, bindT, List.set_cons_zero, List.set_cons_succ, Option.map_some, rq_0, rq_1, Nat.reduceAdd, Nat.reduceSub, e1, ix_in1, ix_in2, len_T, List.length_map, h.ln, h.lw, ne_int, decide_true, Bool.not_true, hf, if_false]
end K60

namespace K60
open PySem Ev
variable {F : Fs} {G : Gs} {o : Os} {k : Nat}
def dotQ (a b : Row) : Rat := sumQ ((a.zip b).map fun p => p.1 * p.2) 0
theorem s_regular {n b : Nat} {ws ns : List Str} {A : Mat} {E : (Nat → Rat) → Nat → Rat} (hG : GOk G) (hA : Rect n n A) (hn : n < 300) (hb : SzM b A) (hb1 : 1 ≤ b) (hg : gro n b ≤ 9000) (hE : elim n n (colf A) = some E) :
    SzM (gro n b) (invM n E) ∧ sem G fns (k + 6) 25 [inD ws ns A] o = .ok (DMT (invM n E)) o := by
  obtain ⟨c1, c2⟩ := inv_mat hA
  rcases s_inverse (k := k) (o := o) hA hn hb hb1 hg hG.g3 hG.g4 with ⟨j1, j2⟩ | ⟨M, j1, j2, j3, j4⟩
  · rw [c1.mp j1] at hE; cases hE
  · have e := c2 M E j1 hE
    rw [e] at j4
    refine ⟨?_, ?_⟩
    · rw [← e]
      intro l hl
      obtain ⟨l', hl', rfl⟩ := List.mem_map.mp hl
      exact fun q hq => j2 _ hl' _ (List.mem_of_mem_drop hq)
    · have hf : (false = true) = False := by simp
      have hn : isNonD (DMT (invM n E)) = false := rfl
      have hd : drf o (DMT (invM n E)) = DMT (invM n E) := rfl
      rw [sem_succ f_need_regular rfl]
      simp -implicitDefEqProofs only [f_need_regular, b_need_regular, runBody, denSs, denS.eq_1, denS.eq_2, denS.eq_3, denS.eq_4, denS.eq_5, denS.eq_6, denS.eq_7, denS.eq_8, denS.eq_9, denS.eq_10, denS.eq_13, denS.eq_14, denS.eq_15, denS.eq_16, denS.eq_17, d_for, d_whl, den.eq_1, den.eq_2, den.eq_3, den.eq_4, den.eq_5, den.eq_6, den.eq_7, den.eq_8, den.eq_9, den.eq_10, den.eq_11, den.eq_12, den.eq_13, den.eq_14, den.eq_15, den.eq_16, den.eq_17, den.eq_18, den.eq_19, den.eq_20, den.eq_21, den.eq_23, den.eq_24, den.eq_25, den.eq_26, den.eq_27, d_comp, denT, denEs, denEO, denC, denI, bind_ok, of_some, look_0, look_s, List.length_cons, List.length_nil, List.map_cons, List.map_nil, List.replicate, List.cons_append, List.nil_append, if_true, drf_int, drf_bl, drf_tup, drf_lst, drf_non, drf_str, drf_q, Ev.T.own, wipeE, setAll, dTru, dNeg, bindT, List.set_cons_zero, List.set_cons_succ, Option.map_some, rq_0, rq_1, Nat.reduceAdd, Nat.reduceSub, ix_in3, j4, is_non, hd, hn, hf, if_false]
theorem s_turned {n b : Nat} {ws ns : List Str} {A : Mat} {E : (Nat → Rat) → Nat → Rat} (hG : GOk G) (h : InOk n ws ns A) (hb : SzM b A) (hb1 : 1 ≤ b) (hg : gro n b ≤ 9000) (hE : elim n n (colf A) = some E) :
    sem G fns (k + 7) 39 [inD ws ns A] o = .ok (DMT (invM n E)) o := by
  have e1 := s_need_square (k := k) (o := o) hG h
  have e2 := (s_regular (k := k) (o := o) (ws := ws) (ns := ns) hG h.rA (by have := h.n4; omega) hb hb1 hg hE).2
  rw [sem_succ f_turned_back rfl]
  simp -implicitDefEqProofs only [f_turned_back, b_turned_back, runBody, denSs, denS.eq_1, denS.eq_2, denS.eq_3, denS.eq_4, denS.eq_5, denS.eq_6, denS.eq_7, denS.eq_8, denS.eq_9, denS.eq_10, denS.eq_13, denS.eq_14, denS.eq_15, denS.eq_16, denS.eq_17, d_for, d_whl, den.eq_1, den.eq_2, den.eq_3, den.eq_4, den.eq_5, den.eq_6, den.eq_7, den.eq_8, den.eq_9, den.eq_10, den.eq_11, den.eq_12, den.eq_13, den.eq_14, den.eq_15, den.eq_16, den.eq_17, den.eq_18, den.eq_19, den.eq_20, den.eq_21, den.eq_23, den.eq_24, den.eq_25, den.eq_26, den.eq_27, d_comp, denT, denEs, denEO, denC, denI, bind_ok, of_some, look_0, look_s, List.length_cons, List.length_nil, List.map_cons, List.map_nil, List.replicate, List.cons_append, List.nil_append, if_true, drf_int, drf_bl, drf_tup, drf_lst, drf_non, drf_str, drf_q, Ev.T.own, wipeE, setAll, dTru, dNeg, bindT, List.set_cons_zero, List.set_cons_succ, Option.map_some, rq_0, rq_1, Nat.reduceAdd, Nat.reduceSub, e1, e2]
theorem s_dotQ {x y : Nat} {a b : Row} (hG : GOk G) (ha : SzR x a) (hb : SzR y b) (hl : a.length ≤ 10) (h2 : (x + y) + (x + y) ≤ 9000) {u v : D} (hu : dLs u = some (a.map Rq)) (hv : dLs v = some (b.map Rq)) : sem G fns (k + 4) 32 [u, v] o = .ok (Rq (dotQ a b)) o := by
  refine s_dot a b ha hb hG.g4 ?_ h2 hu hv
  have h1 : (a.zip b).length ≤ 10 := by rw [List.length_zip]; omega
  have h3 : (a.zip b).length * (x + y + 1) ≤ 10 * (x + y + 1) := Nat.mul_le_mul_right _ h1
  omega
theorem s_need_prices {ws ns : List Str} {A : Mat} {ps : Row} (hl : ps.length = ns.length) : sem G fns (k + 4) 23 [inD ws ns A, DT ps] o = .ok .non o := by
  have e1 := s_are_ratios (k := k) (G := G) (o := o) (qs := ps)
  rw [hl] at e1
  have hf : (false = true) = False := by simp
  rw [sem_succ f_need_any_prices rfl]
  simp -implicitDefEqProofs only [f_need_any_prices, b_need_any_prices, runBody, denSs, denS.eq_1, denS.eq_2, denS.eq_3, denS.eq_4, denS.eq_5, denS.eq_6, denS.eq_7, denS.eq_8, denS.eq_9, denS.eq_10, denS.eq_13, denS.eq_14, denS.eq_15, denS.eq_16, denS.eq_17, d_for, d_whl, den.eq_1, den.eq_2, den.eq_3, den.eq_4, den.eq_5, den.eq_6, den.eq_7, den.eq_8, den.eq_9, den.eq_10, den.eq_11, den.eq_12, den.eq_13, den.eq_14, den.eq_15, den.eq_16, den.eq_17, den.eq_18, den.eq_19, den.eq_20, den.eq_21, den.eq_23, den.eq_24, den.eq_25, den.eq_26, den.eq_27, d_comp, denT, denEs, denEO, denC, denI, bind_ok, of_some, look_0, look_s, List.length_cons, List.length_nil, List.map_cons, List.map_nil, List.replicate, List.cons_append, List.nil_append, if_true, drf_int, drf_bl, drf_tup, drf_lst, drf_non, drf_str, drf_q, Ev.T.own, wipeE, setAll, dTru, dNeg, bindT, List.set_cons_zero, List.set_cons_succ, Option.map_some, rq_0, rq_1, Nat.reduceAdd, Nat.reduceSub, ix_in2, len_T, List.length_map, e1, Bool.not_true, hf, if_false]
theorem inv_len {n : Nat} {E : (Nat → Rat) → Nat → Rat} : Rect n n (invM n E) := ⟨by simp [invM], fun l hl => by
  obtain ⟨i, _, rfl⟩ := List.mem_map.mp hl
  simp⟩
theorem s_rewards {n b y : Nat} {ws ns : List Str} {A : Mat} {E : (Nat → Rat) → Nat → Rat} {ps : Row} (hG : GOk G) (h : InOk n ws ns A) (hb : SzM b A) (hb1 : 1 ≤ b) (hg : gro n b + y + (gro n b + y) ≤ 9000) (hE : elim n n (colf A) = some E) (hl : ps.length = n) (hp : SzR y ps) :
    sem G fns (k + 7) 14 [inD ws ns A, DT ps] o = .ok (DT ((invM n E).map fun line => dotQ line ps)) o := by
  have e1 := s_need_square (k := k) (o := o) hG h
  obtain ⟨z, e2⟩ := s_regular (k := k) (o := o) (ws := ws) (ns := ns) hG h.rA (by have := h.n4; omega) hb hb1 (by omega) hE
  have e3 := s_need_prices (k := k + 2) (G := G) (o := o) (ws := ws) (ns := ns) (A := A) (ps := ps) (by have := h.ln; omega)
  have e4 : compLoop (compG (sem G fns (k + 6)) G (.call 32 (.cons (.var 2) (.cons (.var 1) .nil))) (.one 2) .none [some (inD ws ns A), some (DT ps), none]) ((invM n E).map DT) o = .ok (((invM n E).map fun line => dotQ line ps).map Rq) o := by
    rw [comp_map (g := fun l : Row => Rq (dotQ l ps)) _ fun l hl' => ?_]
    · rw [List.map_map]; rfl
    · have hll := inv_len.2 _ hl'
      have e5 := s_dotQ (k := k + 2) (o := o) hG (z _ hl') hp (by have := h.n4; omega) hg (u := DT l) (v := DT ps) rfl rfl
      simp -implicitDefEqProofs only [compG, runBody, denSs, denS.eq_1, denS.eq_2, denS.eq_3, denS.eq_4, denS.eq_5, denS.eq_6, denS.eq_7, denS.eq_8, denS.eq_9, denS.eq_10, denS.eq_13, denS.eq_14, denS.eq_15, denS.eq_16, denS.eq_17, d_for, d_whl, den.eq_1, den.eq_2, den.eq_3, den.eq_4, den.eq_5, den.eq_6, den.eq_7, den.eq_8, den.eq_9, den.eq_10, den.eq_11, den.eq_12, den.eq_13, den.eq_14, den.eq_15, den.eq_16, den.eq_17, den.eq_18, den.eq_19, den.eq_20, den.eq_21, den.eq_23, den.eq_24, den.eq_25, den.eq_26, den.eq_27, d_comp, denT, denEs, denEO, denC, denI, bind_ok, of_some, look_0, look_s, List.length_cons, List.length_nil, List.map_cons, List.map_nil, List.replicate, List.cons_append, List.nil_append, if_true, drf_int, drf_bl, drf_tup, drf_lst, drf_non, drf_str, drf_q, Ev.T.own, wipeE, setAll, dTru, dNeg, bindT, List.set_cons_zero, List.set_cons_succ, Option.map_some, rq_0, rq_1, Nat.reduceAdd, Nat.reduceSub, Res.calm, e5]
  have e6 : ∀ l : Row, dBi .tuple [.lst (l.map Rq)] = some (DT l) := fun _ => rfl
  rw [sem_succ f_rewards rfl]
  simp -implicitDefEqProofs only [f_rewards, b_rewards, runBody, denSs, denS.eq_1, denS.eq_2, denS.eq_3, denS.eq_4, denS.eq_5, denS.eq_6, denS.eq_7, denS.eq_8, denS.eq_9, denS.eq_10, denS.eq_13, denS.eq_14, denS.eq_15, denS.eq_16, denS.eq_17, d_for, d_whl, den.eq_1, den.eq_2, den.eq_3, den.eq_4, den.eq_5, den.eq_6, den.eq_7, den.eq_8, den.eq_9, den.eq_10, den.eq_11, den.eq_12, den.eq_13, den.eq_14, den.eq_15, den.eq_16, den.eq_17, den.eq_18, den.eq_19, den.eq_20, den.eq_21, den.eq_23, den.eq_24, den.eq_25, den.eq_26, den.eq_27, d_comp, denT, denEs, denEO, denC, denI, bind_ok, of_some, look_0, look_s, List.length_cons, List.length_nil, List.map_cons, List.map_nil, List.replicate, List.cons_append, List.nil_append, if_true, drf_int, drf_bl, drf_tup, drf_lst, drf_non, drf_str, drf_q, Ev.T.own, wipeE, setAll, dTru, dNeg, bindT, List.set_cons_zero, List.set_cons_succ, Option.map_some, rq_0, rq_1, Nat.reduceAdd, Nat.reduceSub, e1, e2, e3, seq_MT, e4, e6]
theorem am_col {n i : Nat} {M : Mat} (hM : Rect n n M) (hi : i < n) (z0 z1 z2 z4 : Option D) :
    compLoop (compG F G (.idx (.var 4) (.var 3)) (.one 4) .none [z0, z1, z2, some (.int i), z4]) (M.map DT) o = .ok ((M.map fun l => l.getD i 0).map Rq) o := by
  rw [comp_map (g := fun l : Row => Rq (l.getD i 0)) _ fun l hl => ?_]
  · rw [List.map_map]; rfl
  · have hl' := hM.2 _ hl
    have e1 : dIdx (DT l) (.int i) o = some (Rq (l.getD i 0)) := by
      have h' : i < l.length := by omega
      have h'' : (i : Int) < l.length := by omega
      simp [dIdx, L2.atI, L2.ixN, h', h'', List.getD]
    simp -implicitDefEqProofs only [compG, runBody, denSs, denS.eq_1, denS.eq_2, denS.eq_3, denS.eq_4, denS.eq_5, denS.eq_6, denS.eq_7, denS.eq_8, denS.eq_9, denS.eq_10, denS.eq_13, denS.eq_14, denS.eq_15, denS.eq_16, denS.eq_17, d_for, d_whl, den.eq_1, den.eq_2, den.eq_3, den.eq_4, den.eq_5, den.eq_6, den.eq_7, den.eq_8, den.eq_9, den.eq_10, den.eq_11, den.eq_12, den.eq_13, den.eq_14, den.eq_15, den.eq_16, den.eq_17, den.eq_18, den.eq_19, den.eq_20, den.eq_21, den.eq_23, den.eq_24, den.eq_25, den.eq_26, den.eq_27, d_comp, denT, denEs, denEO, denC, denI, bind_ok, of_some, look_0, look_s, List.length_cons, List.length_nil, List.map_cons, List.map_nil, List.replicate, List.cons_append, List.nil_append, if_true, drf_int, drf_bl, drf_tup, drf_lst, drf_non, drf_str, drf_q, Ev.T.own, wipeE, setAll, dTru, dNeg, bindT, List.set_cons_zero, List.set_cons_succ, Option.map_some, rq_0, rq_1, Nat.reduceAdd, Nat.reduceSub, Res.calm, e1]
theorem s_amounts {n b y : Nat} {ws ns : List Str} {A : Mat} {E : (Nat → Rat) → Nat → Rat} {ss : Row} (hG : GOk G) (h : InOk n ws ns A) (hb : SzM b A) (hb1 : 1 ≤ b) (hg : gro n b + y + (gro n b + y) ≤ 9000) (hE : elim n n (colf A) = some E) (hl : ss.length = n) (hp : SzR y ss) :
    sem G fns (k + 7) 35 [inD ws ns A, DT ss] o = .ok (DT ((List.range n).map fun i => dotQ ((invM n E).map fun l => l.getD i 0) ss)) o := by
  have e1 := s_need_square (k := k) (o := o) hG h
  obtain ⟨z, e2⟩ := s_regular (k := k) (o := o) (ws := ws) (ns := ns) hG h.rA (by have := h.n4; omega) hb hb1 (by omega) hE
  have e3 := s_are_ratios (k := k + 3) (G := G) (o := o) (qs := ss)
  rw [hl] at e3
  have e4 : compLoop (compG (sem G fns (k + 6)) G (.call 32 (.cons (.comp (.idx (.var 4) (.var 3)) (.one 4) (.seq (.var 2)) .none) (.cons (.var 1) .nil))) (.one 3) .none [some (inD ws ns A), some (DT ss), some (DMT (invM n E)), none, none]) (dRng 0 n) o = .ok (((List.range n).map fun i => dotQ ((invM n E).map fun l => l.getD i 0) ss).map Rq) o := by
    rw [rng_0, ← List.range_eq_range', comp_map (g := fun i : Nat => Rq (dotQ ((invM n E).map fun l => l.getD i 0) ss)) _ fun i hi => ?_]
    · rw [List.map_map]; rfl
    · have hi := List.mem_range.mp hi
      have e4 := am_col (F := sem G fns (k + 6)) (G := G) (o := o) (inv_len (n := n) (E := E)) hi (some (inD ws ns A)) (some (DT ss)) (some (DMT (invM n E))) none
      have hsz : SzR (gro n b) ((invM n E).map fun l => l.getD i 0) := fun q hq => by
        obtain ⟨l, hl', rfl⟩ := List.mem_map.mp hq
        exact sz_getD (z _ hl') (by rw [inv_len.2 _ hl']; exact hi)
      have e5 := s_dotQ (k := k + 2) (o := o) hG hsz hp (by rw [List.length_map, inv_len.1]; have := h.n4; omega) hg (u := .lst (((invM n E).map fun l => l.getD i 0).map Rq)) (v := DT ss) rfl rfl
      simp -implicitDefEqProofs only [compG, runBody, denSs, denS.eq_1, denS.eq_2, denS.eq_3, denS.eq_4, denS.eq_5, denS.eq_6, denS.eq_7, denS.eq_8, denS.eq_9, denS.eq_10, denS.eq_13, denS.eq_14, denS.eq_15, denS.eq_16, denS.eq_17, d_for, d_whl, den.eq_1, den.eq_2, den.eq_3, den.eq_4, den.eq_5, den.eq_6, den.eq_7, den.eq_8, den.eq_9, den.eq_10, den.eq_11, den.eq_12, den.eq_13, den.eq_14, den.eq_15, den.eq_16, den.eq_17, den.eq_18, den.eq_19, den.eq_20, den.eq_21, den.eq_23, den.eq_24, den.eq_25, den.eq_26, den.eq_27, d_comp, denT, denEs, denEO, denC, denI, bind_ok, of_some, look_0, look_s, List.length_cons, List.length_nil, List.map_cons, List.map_nil, List.replicate, List.cons_append, List.nil_append, if_true, drf_int, drf_bl, drf_tup, drf_lst, drf_non, drf_str, drf_q, Ev.T.own, wipeE, setAll, dTru, dNeg, bindT, List.set_cons_zero, List.set_cons_succ, Option.map_some, rq_0, rq_1, Nat.reduceAdd, Nat.reduceSub, Res.calm, seq_MT, e4, e5]
  have hr : rngOk 0 n = true := rng_ok (a := 0) (n := n) (by have := h.n4; omega) (by omega)
  have e6 : ∀ l : Row, dBi .tuple [.lst (l.map Rq)] = some (DT l) := fun _ => rfl
  have hf : (false = true) = False := by simp
  rw [sem_succ f_amounts rfl]
  simp -implicitDefEqProofs only [f_amounts, b_amounts, runBody, denSs, denS.eq_1, denS.eq_2, denS.eq_3, denS.eq_4, denS.eq_5, denS.eq_6, denS.eq_7, denS.eq_8, denS.eq_9, denS.eq_10, denS.eq_13, denS.eq_14, denS.eq_15, denS.eq_16, denS.eq_17, d_for, d_whl, den.eq_1, den.eq_2, den.eq_3, den.eq_4, den.eq_5, den.eq_6, den.eq_7, den.eq_8, den.eq_9, den.eq_10, den.eq_11, den.eq_12, den.eq_13, den.eq_14, den.eq_15, den.eq_16, den.eq_17, den.eq_18, den.eq_19, den.eq_20, den.eq_21, den.eq_23, den.eq_24, den.eq_25, den.eq_26, den.eq_27, d_comp, denT, denEs, denEO, denC, denI, bind_ok, of_some, look_0, look_s, List.length_cons, List.length_nil, List.map_cons, List.map_nil, List.replicate, List.cons_append, List.nil_append, if_true, drf_int, drf_bl, drf_tup, drf_lst, drf_non, drf_str, drf_q, Ev.T.own, wipeE, setAll, dTru, dNeg, bindT, List.set_cons_zero, List.set_cons_succ, Option.map_some, rq_0, rq_1, Nat.reduceAdd, Nat.reduceSub, ix_in1, ix_in2, len_T, List.length_map, h.lw, h.ln, e1, e2, e3, Bool.not_true, hf, if_false, hr, e4, e6]
end K60

namespace K60
open PySem Ev
variable {F : Fs} {G : Gs} {o : Os} {k : Nat}
theorem Reach.mono {a b : DS} {x y : Int} (h : Reach a b x) (hxy : x ≤ y) : Reach a b y := ⟨h.ok, h.cells, by have := h.turn; omega⟩
/-- a comprehension that draws -/
theorem comp_reach {α β : Type} {f : D → Os → Res (Option D)} {e : α → D} {g : β → D} {P : β → Prop} {c : Nat} {B : Int} (hf : ∀ (s : DS) (a : α), s.Ok → s.turn + c < B → ∃ b s', f (e a) (Dr s) = .ok (some (g b)) (Dr s') ∧ P b ∧ Reach s s' c) : ∀ (l : List α) (s : DS), s.Ok → s.turn + (c * l.length : Nat) < B →
    ∃ (bs : List β) (s' : DS), compLoop f (l.map e) (Dr s) = .ok (bs.map g) (Dr s') ∧ bs.length = l.length ∧ (∀ b ∈ bs, P b) ∧ Reach s s' (c * l.length : Nat)
  | [], s, hs, _ => ⟨[], s, rfl, rfl, by simp, Reach.refl hs⟩
  | a :: l, s, hs, hB => by
    have hc : c * (a :: l).length = c * l.length + c := by rw [List.length_cons, Nat.mul_succ]
    rw [hc] at hB
    obtain ⟨b, s1, h1, h2, h3⟩ := hf s a hs (by omega)
    obtain ⟨bs, s2, j1, j2, j3, j4⟩ := comp_reach hf l s1 h3.ok (by have := h3.turn; omega)
    refine ⟨b :: bs, s2, ?_, by simp [j2], fun x hx => ?_, (h3.trans j4).mono (by omega)⟩
    · rw [List.map_cons, compLoop, h1, bind_ok, j1, bind_ok]; rfl
    · rcases List.mem_cons.mp hx with rfl | hx
      · exact h2
      · exact j3 _ hx
theorem num_ge {n d : Int} (hn : 0 ≤ n) (hd : 0 < d) : 0 ≤ (Rat.divInt n d).num := by
  rw [Rat.num_divInt, Int.sign_eq_one_of_pos hd, Int.one_mul]
  exact Int.ediv_nonneg hn (by omega)
def entP (q : Rat) : Prop := Sz 3 q ∧ 0 ≤ q.num
theorem in_entry {nb : Nat} {thin : Int} (hn : 64 ≤ nb) (hn2 : nb + 40 < 900000) (z1 z2 z3 z4 z6 z7 z8 z9 : Option D) {s : DS} {w : Str} (hs : s.Ok) (ht : s.turn + (2 : Nat) < 2 ^ nb) :
    ∃ (q : Rat) (s' : DS), compG (sem G fns (k + 4)) G (.call 7 (.cons (.ite (.cmp .eq (.var 5) (.int 0)) (.call 4 (.cons (.var 0) (.cons (.int 6) .nil))) (.bin .add (.int 1) (.call 4 (.cons (.var 0) (.cons (.int 7) .nil))))) (.cons (.call 6 (.cons (.var 0) (.cons (.lst (.cons (.int 1) (.cons (.int 1) (.cons (.int 1) (.cons (.int 2) .nil))))) .nil))) .nil))) (.one 8) .none [some (.ref 1), z1, z2, z3, z4, some (.int thin), z6, z7, z8, z9] (.str w) (Dr s) = .ok (some (Rq q)) (Dr s') ∧ entP q ∧ Reach s s' (2 : Nat) := by
  have key : ∀ (room : Int), 0 < room → room ≤ 7 → ∃ (g pi : Int) (s1 s2 : DS), sem G fns (k + 4) 4 [.ref 1, .int room] (Dr s) = .ok (.int g) (Dr s1) ∧ sem G fns (k + 4) 6 [.ref 1, .lst [.int 1, .int 1, .int 1, .int 2]] (Dr s1) = .ok (.int pi) (Dr s2) ∧ 0 ≤ g ∧ g < room ∧ 1 ≤ pi ∧ pi ≤ 2 ∧ Reach s s2 (2 : Nat) := fun room h1 h2 => by
    obtain ⟨g1, s1, e1, a1, b1, r1⟩ := draw_to (G := G) (k := k + 2) (room := room) hn hn2 hs (by omega) h1 (by omega)
    obtain ⟨p, s2, e2, m2, r2⟩ := pick_to (G := G) (k := k + 1) (ds := [.int 1, .int 1, .int 1, .int 2]) hn hn2 r1.ok (by have := r1.turn; omega) (by decide) (by decide)
    obtain ⟨pi, rfl, p1, p2⟩ : ∃ pi : Int, p = .int pi ∧ 1 ≤ pi ∧ pi ≤ 2 := by
      simp -implicitDefEqProofs only [List.mem_cons, List.not_mem_nil, or_false] at m2
      rcases m2 with rfl | rfl | rfl | rfl
      · exact ⟨1, rfl, by decide, by decide⟩
      · exact ⟨1, rfl, by decide, by decide⟩
      · exact ⟨1, rfl, by decide, by decide⟩
      · exact ⟨2, rfl, by decide, by decide⟩
    exact ⟨g1, pi, s1, s2, e1, e2, a1, b1, p1, p2, r1.trans r2⟩
  by_cases h0 : thin = 0
  · obtain ⟨g, pi, s1, s2, e1, e2, a1, b1, p1, p2, r⟩ := key 6 (by decide) (by decide)
    have hd : pi ≠ 0 := by omega
    have hdb : pi.natAbs < 2 ^ 3 := by omega
    have eq := s_q (G := G) (o := Dr s2) (k := k + 3) (n := g) hd (pow_mono (gcd_lt hd hdb) (by decide))
    refine ⟨Rat.divInt g pi, s2, ?_, ⟨sz_divInt hd (by omega) hdb, num_ge a1 (by omega)⟩, r⟩
    subst h0
    simp -implicitDefEqProofs only [compG, runBody, denSs, denS.eq_1, denS.eq_2, denS.eq_3, denS.eq_4, denS.eq_5, denS.eq_6, denS.eq_7, denS.eq_8, denS.eq_9, denS.eq_10, denS.eq_13, denS.eq_14, denS.eq_15, denS.eq_16, denS.eq_17, d_for, d_whl, den.eq_1, den.eq_2, den.eq_3, den.eq_4, den.eq_5, den.eq_6, den.eq_7, den.eq_8, den.eq_9, den.eq_10, den.eq_11, den.eq_12, den.eq_13, den.eq_14, den.eq_15, den.eq_16, den.eq_17, den.eq_18, den.eq_19, den.eq_20, den.eq_21, den.eq_23, den.eq_24, den.eq_25, den.eq_26, den.eq_27, d_comp, denT, denEs, denEO, denC, denI, bind_ok, of_some, look_0, look_s, List.length_cons, List.length_nil, List.map_cons, List.map_nil, List.replicate, List.cons_append, List.nil_append, if_true, drf_int, drf_bl, drf_tup, drf_lst, drf_non, drf_str, drf_q, Ev.T.own, wipeE, setAll, dTru, dBi, dBin, dNeg, bindT, List.set_cons_zero, List.set_cons_succ, Option.map_some, rq_0, rq_1, Nat.reduceAdd, Nat.reduceSub, Res.calm, eq_int, decide_true, if_true, e1, e2, eq]
  · obtain ⟨g, pi, s1, s2, e1, e2, a1, b1, p1, p2, r⟩ := key 7 (by decide) (by decide)
    have hd : pi ≠ 0 := by omega
    have hdb : pi.natAbs < 2 ^ 3 := by omega
    have eq := s_q (G := G) (o := Dr s2) (k := k + 3) (n := 1 + g) hd (pow_mono (gcd_lt hd hdb) (by decide))
    have hf : (false = true) = False := by simp
    refine ⟨Rat.divInt (1 + g) pi, s2, ?_, ⟨sz_divInt hd (by omega) hdb, num_ge (by omega) (by omega)⟩, r⟩
    simp -implicitDefEqProofs only [compG, runBody, denSs, denS.eq_1, denS.eq_2, denS.eq_3, denS.eq_4, denS.eq_5, denS.eq_6, denS.eq_7, denS.eq_8, denS.eq_9, denS.eq_10, denS.eq_13, denS.eq_14, denS.eq_15, denS.eq_16, denS.eq_17, d_for, d_whl, den.eq_1, den.eq_2, den.eq_3, den.eq_4, den.eq_5, den.eq_6, den.eq_7, den.eq_8, den.eq_9, den.eq_10, den.eq_11, den.eq_12, den.eq_13, den.eq_14, den.eq_15, den.eq_16, den.eq_17, den.eq_18, den.eq_19, den.eq_20, den.eq_21, den.eq_23, den.eq_24, den.eq_25, den.eq_26, den.eq_27, d_comp, denT, denEs, denEO, denC, denI, bind_ok, of_some, look_0, look_s, List.length_cons, List.length_nil, List.map_cons, List.map_nil, List.replicate, List.cons_append, List.nil_append, if_true, drf_int, drf_bl, drf_tup, drf_lst, drf_non, drf_str, drf_q, Ev.T.own, wipeE, setAll, dTru, dBi, dBin, dNeg, bindT, List.set_cons_zero, List.set_cons_succ, Option.map_some, rq_0, rq_1, Nat.reduceAdd, Nat.reduceSub, Res.calm, eq_int, h0, decide_false, hf, if_false, e1, e2, eq]
end K60

namespace K60
open PySem Ev
variable {F : Fs} {G : Gs} {o : Os} {k : Nat}
def rowP (n : Nat) (l : Row) : Prop := l.length = n ∧ (∀ q ∈ l, entP q) ∧ ∃ q ∈ l, 0 < q.num
def inpB : Ev.Ss := match b__law_in_inputs with
  | .cons _ (.cons _ (.cons _ (.cons (.for _ _ b) _))) => b
  | _ => .nil
def inpE : Ev.E := (.call 7 (.cons (.ite (.cmp .eq (.var 5) (.int 0)) (.call 4 (.cons (.var 0) (.cons (.int 6) .nil))) (.bin .add (.int 1) (.call 4 (.cons (.var 0) (.cons (.int 7) .nil))))) (.cons (.call 6 (.cons (.var 0) (.cons (.lst (.cons (.int 1) (.cons (.int 1) (.cons (.int 1) (.cons (.int 2) .nil))))) .nil))) .nil)))
theorem inpB_eq : inpB = (.cons (.asg (.one 7) (.comp inpE (.one 8) (.seq (.var 2)) .none)) (.cons (.ite (.cmp .eq (.comp (.int 1) (.one 9) (.own 7) (.some (.cmp .gt (.idx (.var 9) (.int 0)) (.int 0)))) (.lst .nil)) (.cons (.sto 7 (.call 4 (.cons (.var 0) (.cons (.bi .len (.cons (.var 7) .nil)) .nil))) (.tup (.cons (.int 1) (.cons (.int 1) .nil)))) .nil) .nil) (.cons (.app 6 (.bi .tuple (.cons (.var 7) .nil))) .nil))) := rfl
theorem one_q : D.tup [.int 1, .int 1] = Rq 1 := rfl
theorem in_pos {l : Row} (z0 z1 z2 z3 z4 z5 z6 z7 z8 z9 : Option D) : compLoop (compG F G (.int 1) (.one 9) (.some (.cmp .gt (.idx (.var 9) (.int 0)) (.int 0))) [z0, z1, z2, z3, z4, z5, z6, z7, z8, z9]) (l.map Rq) o = .ok (((l.filter fun q => decide (0 < q.num)).map fun _ => (1 : Nat)).map fun i : Nat => .int i) o := by
  rw [comp_filter (g := fun _ : Rat => .int 1) (p := fun q : Rat => decide (0 < q.num)) _ fun q _ => ?_, List.map_map]
  · rfl
  · simp -implicitDefEqProofs only [compG, runBody, denSs, denS.eq_1, denS.eq_2, denS.eq_3, denS.eq_4, denS.eq_5, denS.eq_6, denS.eq_7, denS.eq_8, denS.eq_9, denS.eq_10, denS.eq_13, denS.eq_14, denS.eq_15, denS.eq_16, denS.eq_17, d_for, d_whl, den.eq_1, den.eq_2, den.eq_3, den.eq_4, den.eq_5, den.eq_6, den.eq_7, den.eq_8, den.eq_9, den.eq_10, den.eq_11, den.eq_12, den.eq_13, den.eq_14, den.eq_15, den.eq_16, den.eq_17, den.eq_18, den.eq_19, den.eq_20, den.eq_21, den.eq_23, den.eq_24, den.eq_25, den.eq_26, den.eq_27, d_comp, denT, denEs, denEO, denC, denI, bind_ok, of_some, look_0, look_s, List.length_cons, List.length_nil, List.map_cons, List.map_nil, List.replicate, List.cons_append, List.nil_append, if_true, drf_int, drf_bl, drf_tup, drf_lst, drf_non, drf_str, drf_q, Ev.T.own, wipeE, setAll, dTru, dNeg, bindT, List.set_cons_zero, List.set_cons_succ, Option.map_some, rq_0, rq_1, Nat.reduceAdd, Nat.reduceSub, Res.calm, gt_int]
    by_cases h : 0 < q.num <;> simp [h]
theorem seq_W {ws : List Str} : dSeq (.lst (ws.map .str)) = some (ws.map .str) := rfl
theorem len_L (l : List D) : dBi .len [.lst l] = some (.int l.length) := rfl
theorem in_row {nb n : Nat} {thin : Int} {ws : List Str} {M : Mat} (hn : 64 ≤ nb) (hn2 : nb + 40 < 900000) (hl : ws.length = n) (h1 : 1 ≤ n) (h4 : n ≤ 4) (hM : M.length < 100) (z1 z3 z4 z7 z8 z9 : Option D) {s : DS} {x : D} (hs : s.Ok) (ht : s.turn + (9 : Nat) < 2 ^ nb) :
    ∃ (l : Row) (y7 : Option D) (s' : DS), forG (sem G fns (k + 4)) G (.one 4) inpB x [some (.ref 1), z1, some (.lst (ws.map .str)), z3, z4, some (.int thin), some (.lst (M.map DT)), z7, z8, z9] (Dr s) = .ok (.nx [some (.ref 1), z1, some (.lst (ws.map .str)), z3, some x, some (.int thin), some (.lst ((M ++ [l]).map DT)), y7, z8, z9]) (Dr s') ∧ rowP n l ∧ Reach s s' (9 : Nat) := by
  obtain ⟨qs, s1, e1, e2, e3, r1⟩ := comp_reach (B := 2 ^ nb) (fun s a h1 h2 => in_entry (G := G) (k := k) (thin := thin) hn hn2 z1 (some (.lst (ws.map .str))) z3 (some x) (some (.lst (M.map DT))) z7 z8 z9 (s := s) (w := a) h1 h2) ws s hs (by omega)
  have hf : (false = true) = False := by simp
  have a1 : denS (sem G fns (k + 4)) G (.asg (.one 7) (.comp inpE (.one 8) (.seq (.var 2)) .none)) [some (.ref 1), z1, some (.lst (ws.map .str)), z3, some x, some (.int thin), some (.lst (M.map DT)), z7, z8, z9] (Dr s) = .ok (.nx [some (.ref 1), z1, some (.lst (ws.map .str)), z3, some x, some (.int thin), some (.lst (M.map DT)), some (DL qs), z8, z9]) (Dr s1) := by
    simp -implicitDefEqProofs only [runBody, denSs, denS.eq_1, denS.eq_2, denS.eq_3, denS.eq_4, denS.eq_5, denS.eq_6, denS.eq_7, denS.eq_8, denS.eq_9, denS.eq_10, denS.eq_13, denS.eq_14, denS.eq_15, denS.eq_16, denS.eq_17, d_for, d_whl, den.eq_1, den.eq_2, den.eq_3, den.eq_4, den.eq_5, den.eq_6, den.eq_7, den.eq_8, den.eq_9, den.eq_10, den.eq_11, den.eq_12, den.eq_13, den.eq_14, den.eq_15, den.eq_16, den.eq_17, den.eq_18, den.eq_19, den.eq_20, den.eq_21, den.eq_23, den.eq_24, den.eq_25, den.eq_26, den.eq_27, d_comp, denT, denEs, denEO, denC, denI, bind_ok, of_some, look_0, look_s, List.length_cons, List.length_nil, List.map_cons, List.map_nil, List.replicate, List.cons_append, List.nil_append, if_true, drf_int, drf_bl, drf_tup, drf_lst, drf_non, drf_str, drf_q, Ev.T.own, wipeE, setAll, dTru, dNeg, bindT, List.set_cons_zero, List.set_cons_succ, Option.map_some, rq_0, rq_1, Nat.reduceAdd, Nat.reduceSub, seq_W, inpE, e1]
  have e5 := in_pos (F := sem G fns (k + 4)) (G := G) (o := Dr s1) (l := qs) (some (.ref 1)) z1 (some (.lst (ws.map .str))) z3 (some x) (some (.int thin)) (some (.lst (M.map DT))) (some (DL qs)) z8 z9
  have hM' : M.length < line := by unfold line; omega
  have a3 : ∀ (l : Row) (o : Os), denS (sem G fns (k + 4)) G (.app 6 (.bi .tuple (.cons (.var 7) .nil))) [some (.ref 1), z1, some (.lst (ws.map .str)), z3, some x, some (.int thin), some (.lst (M.map DT)), some (DL l), z8, z9] o = .ok (.nx [some (.ref 1), z1, some (.lst (ws.map .str)), z3, some x, some (.int thin), some (.lst ((M ++ [l]).map DT)), some (DL l), z8, z9]) o := fun l o => by
    have e6 : ∀ l : Row, dBi .tuple [DL l] = some (DT l) := fun _ => rfl
    simp -implicitDefEqProofs only [runBody, denSs, denS.eq_1, denS.eq_2, denS.eq_3, denS.eq_4, denS.eq_5, denS.eq_6, denS.eq_7, denS.eq_8, denS.eq_9, denS.eq_10, denS.eq_13, denS.eq_14, denS.eq_15, denS.eq_16, denS.eq_17, d_for, d_whl, den.eq_1, den.eq_2, den.eq_3, den.eq_4, den.eq_5, den.eq_6, den.eq_7, den.eq_8, den.eq_9, den.eq_10, den.eq_11, den.eq_12, den.eq_13, den.eq_14, den.eq_15, den.eq_16, den.eq_17, den.eq_18, den.eq_19, den.eq_20, den.eq_21, den.eq_23, den.eq_24, den.eq_25, den.eq_26, den.eq_27, d_comp, denT, denEs, denEO, denC, denI, bind_ok, of_some, look_0, look_s, List.length_cons, List.length_nil, List.map_cons, List.map_nil, List.replicate, List.cons_append, List.nil_append, if_true, drf_int, drf_bl, drf_tup, drf_lst, drf_non, drf_str, drf_q, Ev.T.own, wipeE, setAll, dTru, dNeg, bindT, List.set_cons_zero, List.set_cons_succ, Option.map_some, rq_0, rq_1, Nat.reduceAdd, Nat.reduceSub, e6, List.length_map, hM', List.map_append, if_true]
  rw [forG_1, inpB_eq]
  simp -implicitDefEqProofs only [List.set_cons_zero, List.set_cons_succ]
  rw [ss_nx a1]
  have hlq : qs.length = n := by omega
  by_cases hp : (qs.filter fun q => decide (0 < q.num)).isEmpty = true
  · obtain ⟨g, s2, e7, g0, g1, r2⟩ := draw_to (G := G) (k := k + 2) (s := s1) (room := (qs.length : Nat)) hn hn2 r1.ok (by have := r1.turn; omega) (by omega) (by omega)
    obtain ⟨gn, rfl⟩ : ∃ gn : Nat, g = gn := ⟨g.toNat, by omega⟩
    have hgn : gn < qs.length := by omega
    have a2 : denS (sem G fns (k + 4)) G (.ite (.cmp .eq (.comp (.int 1) (.one 9) (.own 7) (.some (.cmp .gt (.idx (.var 9) (.int 0)) (.int 0)))) (.lst .nil)) (.cons (.sto 7 (.call 4 (.cons (.var 0) (.cons (.bi .len (.cons (.var 7) .nil)) .nil))) (.tup (.cons (.int 1) (.cons (.int 1) .nil)))) .nil) .nil) [some (.ref 1), z1, some (.lst (ws.map .str)), z3, some x, some (.int thin), some (.lst (M.map DT)), some (DL qs), z8, z9] (Dr s1) = .ok (.nx [some (.ref 1), z1, some (.lst (ws.map .str)), z3, some x, some (.int thin), some (.lst (M.map DT)), some (DL (qs.set gn 1)), z8, z9]) (Dr s2) := by
      have hi : ((qs.filter fun q => decide (0 < q.num)).map fun _ => (1 : Nat)).isEmpty = true := by simpa using hp
      have f1 := isL_0 (ρ := [some (.ref 1), z1, some (.lst (ws.map .str)), z3, some x, some (.int thin), some (.lst (M.map DT)), some (DL qs), z8, z9]) (i := 7) (l := qs.map Rq) rfl
      have f2 := setAt_0 (ρ := [some (.ref 1), z1, some (.lst (ws.map .str)), z3, some x, some (.int thin), some (.lst (M.map DT)), some (DL qs), z8, z9]) (i := 7) (l := qs.map Rq) (j := gn) (d := Rq 1) rfl (by simpa using hgn)
      rw [show (qs.map Rq).set gn (Rq 1) = (qs.set gn 1).map Rq by rw [List.map_set]] at f2
      simp -implicitDefEqProofs only [List.set_cons_zero, List.set_cons_succ] at f2
      simp -implicitDefEqProofs only [runBody, denSs, denS.eq_1, denS.eq_2, denS.eq_3, denS.eq_4, denS.eq_5, denS.eq_6, denS.eq_7, denS.eq_8, denS.eq_9, denS.eq_10, denS.eq_13, denS.eq_14, denS.eq_15, denS.eq_16, denS.eq_17, d_for, d_whl, den.eq_1, den.eq_2, den.eq_3, den.eq_4, den.eq_5, den.eq_6, den.eq_7, den.eq_8, den.eq_9, den.eq_10, den.eq_11, den.eq_12, den.eq_13, den.eq_14, den.eq_15, den.eq_16, den.eq_17, den.eq_18, den.eq_19, den.eq_20, den.eq_21, den.eq_23, den.eq_24, den.eq_25, den.eq_26, den.eq_27, d_comp, denT, denEs, denEO, denC, denI, bind_ok, of_some, look_0, look_s, List.length_cons, List.length_nil, List.map_cons, List.map_nil, List.replicate, List.cons_append, List.nil_append, if_true, drf_int, drf_bl, drf_tup, drf_lst, drf_non, drf_str, drf_q, Ev.T.own, wipeE, setAll, dTru, dNeg, bindT, List.set_cons_zero, List.set_cons_succ, Option.map_some, rq_0, rq_1, Nat.reduceAdd, Nat.reduceSub, e5, lst_ne, hi, if_true, len_L, List.length_map, e7, one_q, f1, f2]
    rw [ss_nx a2, ss_nx (a3 _ _)]
    refine ⟨qs.set gn 1, some (DL (qs.set gn 1)), s2, rfl, ⟨by simp [hlq], fun q hq => ?_, 1, ?_, by decide⟩, ((r1.trans r2).mono (by omega))⟩
    · rcases List.mem_or_eq_of_mem_set hq with hq | rfl
      · exact e3 _ hq
      · exact ⟨sz_mono sz_1 (by decide), by decide⟩
    · exact List.mem_iff_getElem.mpr ⟨gn, by simpa using hgn, List.getElem_set_self _⟩
  · have hp' : (qs.filter fun q => decide (0 < q.num)).isEmpty = false := by simpa using hp
    have a2 : denS (sem G fns (k + 4)) G (.ite (.cmp .eq (.comp (.int 1) (.one 9) (.own 7) (.some (.cmp .gt (.idx (.var 9) (.int 0)) (.int 0)))) (.lst .nil)) (.cons (.sto 7 (.call 4 (.cons (.var 0) (.cons (.bi .len (.cons (.var 7) .nil)) .nil))) (.tup (.cons (.int 1) (.cons (.int 1) .nil)))) .nil) .nil) [some (.ref 1), z1, some (.lst (ws.map .str)), z3, some x, some (.int thin), some (.lst (M.map DT)), some (DL qs), z8, z9] (Dr s1) = .ok (.nx [some (.ref 1), z1, some (.lst (ws.map .str)), z3, some x, some (.int thin), some (.lst (M.map DT)), some (DL qs), z8, z9]) (Dr s1) := by
      have hi : ((qs.filter fun q => decide (0 < q.num)).map fun _ => (1 : Nat)).isEmpty = false := by
        rw [← hp']; cases (qs.filter fun q => decide (0 < q.num)) <;> rfl
      simp -implicitDefEqProofs only [runBody, denSs, denS.eq_1, denS.eq_2, denS.eq_3, denS.eq_4, denS.eq_5, denS.eq_6, denS.eq_7, denS.eq_8, denS.eq_9, denS.eq_10, denS.eq_13, denS.eq_14, denS.eq_15, denS.eq_16, denS.eq_17, d_for, d_whl, den.eq_1, den.eq_2, den.eq_3, den.eq_4, den.eq_5, den.eq_6, den.eq_7, den.eq_8, den.eq_9, den.eq_10, den.eq_11, den.eq_12, den.eq_13, den.eq_14, den.eq_15, den.eq_16, den.eq_17, den.eq_18, den.eq_19, den.eq_20, den.eq_21, den.eq_23, den.eq_24, den.eq_25, den.eq_26, den.eq_27, d_comp, denT, denEs, denEO, denC, denI, bind_ok, of_some, look_0, look_s, List.length_cons, List.length_nil, List.map_cons, List.map_nil, List.replicate, List.cons_append, List.nil_append, if_true, drf_int, drf_bl, drf_tup, drf_lst, drf_non, drf_str, drf_q, Ev.T.own, wipeE, setAll, dTru, dNeg, bindT, List.set_cons_zero, List.set_cons_succ, Option.map_some, rq_0, rq_1, Nat.reduceAdd, Nat.reduceSub, e5, lst_ne, hi, hf, if_false]
    rw [ss_nx a2, ss_nx (a3 _ _)]
    refine ⟨qs, some (DL qs), s1, rfl, ⟨hlq, e3, ?_⟩, r1.mono (by omega)⟩
    cases hq : (qs.filter fun q => decide (0 < q.num)) with
    | nil => rw [hq] at hp'; cases hp'
    | cons q l =>
      have hm : q ∈ qs.filter fun q => decide (0 < q.num) := by rw [hq]; exact List.mem_cons_self
      have := List.mem_filter.mp hm
      exact ⟨q, this.1, by simpa using this.2⟩
end K60

namespace K60
open PySem Ev
variable {F : Fs} {G : Gs} {o : Os} {k : Nat}
theorem pos_num {q : Rat} : 0 < q.num ↔ 0 < q := by
  have h1 := @Rat.num_nonneg q
  have h2 := @Rat.num_eq_zero q
  constructor
  · intro h
    have h3 : 0 ≤ q := h1.mp (by omega)
    have h4 : q ≠ 0 := fun z => by have := h2.mpr z; omega
    grind
  · intro h
    have h3 : 0 ≤ q.num := h1.mpr (by grind)
    have h4 : q.num ≠ 0 := fun z => by have := h2.mp z; grind
    omega
theorem in_loop {nb n : Nat} {thin : Int} {ws : List Str} (hn : 64 ≤ nb) (hn2 : nb + 40 < 900000) (hl : ws.length = n) (h1 : 1 ≤ n) (h4 : n ≤ 4) (z1 z3 z8 z9 : Option D) : ∀ (names : List Str) (M : Mat) (z4 z7 : Option D) (s : DS), M.length + names.length < 100 → s.Ok → s.turn + (9 * names.length : Nat) < 2 ^ nb →
    ∃ (ls : Mat) (y4 y7 : Option D) (s' : DS), forLoop (forG (sem G fns (k + 4)) G (.one 4) inpB) (names.map .str) [some (.ref 1), z1, some (.lst (ws.map .str)), z3, z4, some (.int thin), some (.lst (M.map DT)), z7, z8, z9] (Dr s) = .ok (.nx [some (.ref 1), z1, some (.lst (ws.map .str)), z3, y4, some (.int thin), some (.lst ((M ++ ls).map DT)), y7, z8, z9]) (Dr s') ∧ ls.length = names.length ∧ (∀ l ∈ ls, rowP n l) ∧ Reach s s' (9 * names.length : Nat)
  | [], M, z4, z7, s, _, hs, _ => ⟨[], z4, z7, s, by rw [List.append_nil]; rfl, rfl, by simp, Reach.refl hs⟩
  | x :: names, M, z4, z7, s, hm, hs, ht => by
    rw [List.length_cons] at hm ht
    obtain ⟨l, y7, s1, e1, p1, r1⟩ := in_row (k := k) (G := G) (x := .str x) (thin := thin) hn hn2 hl h1 h4 (by omega : M.length < 100) z1 z3 z4 z7 z8 z9 hs (by omega)
    obtain ⟨ls, y4, y7, s2, e2, l2, p2, r2⟩ := in_loop hn hn2 hl h1 h4 z1 z3 z8 z9 names (M ++ [l]) (some (.str x)) y7 s1 (by simp; omega) r1.ok (by have := r1.turn; omega)
    refine ⟨l :: ls, y4, y7, s2, ?_, by simp [l2], fun q hq => ?_, (r1.trans r2).mono (by rw [List.length_cons]; omega)⟩
    · rw [List.map_cons, for_nx e1, e2, List.append_assoc]; rfl
    · rcases Iff.mp List.mem_cons hq with rfl | hq
      · exact p1
      · exact p2 _ hq
theorem two_q : D.tup [.int 2, .int 1] = Rq 2 := rfl
theorem sz_two {q : Rat} (h : Sz 3 q) : Sz 4 (2 * q) := by
  rw [← q_mul]
  obtain ⟨h1, h2⟩ := h
  refine sz_divInt ?_ ?_ ?_
  · have h3 : ((2 : Rat).den : Int) = 1 := rfl
    rw [h3, Int.one_mul]; exact den_ne q
  · have h3 : (2 : Rat).num = 2 := rfl
    rw [h3]; omega
  · have h3 : ((2 : Rat).den : Int) = 1 := rfl
    rw [h3]; omega
theorem in_double {l : Row} (hl : SzR 3 l) (z0 z1 z2 z3 z4 z5 z6 z7 z8 z9 : Option D) :
    compLoop (compG (sem G fns (k + 2)) G (.call 8 (.cons (.tup (.cons (.int 2) (.cons (.int 1) .nil))) (.cons (.var 9) .nil))) (.one 9) .none [z0, z1, z2, z3, z4, z5, z6, z7, z8, z9]) (l.map Rq) o = .ok ((l.map (2 * ·)).map Rq) o := by
  rw [comp_map (g := fun q : Rat => Rq (2 * q)) _ fun q hq => ?_, List.map_map]
  · rfl
  · have e1 := s_law_times (G := G) (o := o) (k := k) (a := 2) (b := q) (x := 2) (y := 3) (by unfold Sz; decide) (hl _ hq) (by decide)
    simp -implicitDefEqProofs only [compG, runBody, denSs, denS.eq_1, denS.eq_2, denS.eq_3, denS.eq_4, denS.eq_5, denS.eq_6, denS.eq_7, denS.eq_8, denS.eq_9, denS.eq_10, denS.eq_13, denS.eq_14, denS.eq_15, denS.eq_16, denS.eq_17, d_for, d_whl, den.eq_1, den.eq_2, den.eq_3, den.eq_4, den.eq_5, den.eq_6, den.eq_7, den.eq_8, den.eq_9, den.eq_10, den.eq_11, den.eq_12, den.eq_13, den.eq_14, den.eq_15, den.eq_16, den.eq_17, den.eq_18, den.eq_19, den.eq_20, den.eq_21, den.eq_23, den.eq_24, den.eq_25, den.eq_26, den.eq_27, d_comp, denT, denEs, denEO, denC, denI, bind_ok, of_some, look_0, look_s, List.length_cons, List.length_nil, List.map_cons, List.map_nil, List.replicate, List.cons_append, List.nil_append, if_true, drf_int, drf_bl, drf_tup, drf_lst, drf_non, drf_str, drf_q, Ev.T.own, wipeE, setAll, dTru, dNeg, bindT, List.set_cons_zero, List.set_cons_succ, Option.map_some, rq_0, rq_1, Nat.reduceAdd, Nat.reduceSub, Res.calm, two_q, e1]
theorem double_ok {n : Nat} {l : Row} (h : rowP n l) : (l.map (2 * ·)).length = n ∧ (∀ q ∈ l.map (2 * ·), Sz 4 q ∧ 0 ≤ q.num) ∧ ∃ q ∈ l.map (2 * ·), 0 < q.num := by
  obtain ⟨h1, h2, q, h3, h4⟩ := h
  refine ⟨by simp [h1], fun p hp => ?_, 2 * q, List.mem_map.mpr ⟨q, h3, rfl⟩, ?_⟩
  · obtain ⟨p', hp', rfl⟩ := List.mem_map.mp hp
    obtain ⟨j1, j2⟩ := h2 _ hp'
    refine ⟨sz_two j1, Rat.num_nonneg.mpr ?_⟩
    exact Rat.mul_nonneg (by decide) (Rat.num_nonneg.mp j2)
  · exact pos_num.mpr (Rat.mul_pos (by decide) (pos_num.mp h4))
end K60

namespace K60
open PySem Ev
variable {F : Fs} {G : Gs} {o : Os} {k : Nat}
theorem lt_gt (i j : Int) (h : j < i) : dCmp .gt (.int i) (.int j) = some true := by rw [gt_int]; simp [h]
theorem rows_ok {n : Nat} {ws ns : List Str} {A : Mat} (hw : ws.length = n) (hn : ns.length = n) (h1 : 1 ≤ n) (h4 : n ≤ 4) (ww : ∀ v ∈ ws, IsW v) (wn : ∀ v ∈ ns, IsW v) (uw : Up ws) (un : Up ns) (hl : A.length = n) (hA : ∀ l ∈ A, l.length = n ∧ (∀ q ∈ l, Sz 4 q ∧ 0 ≤ q.num) ∧ ∃ q ∈ l, 0 < q.num) : InOk n ws ns A ∧ SzM 4 A :=
  ⟨⟨hw, hn, h1, h4, ww, wn, uw, un, ⟨hl, fun l h => (hA l h).1⟩, fun l h q hq => ((hA l h).2.1 q hq).2, fun l h => (hA l h).2.2⟩, fun l h q hq => ((hA l h).2.1 q hq).1⟩
theorem row_ok4 {n : Nat} {l : Row} (h : rowP n l) : l.length = n ∧ (∀ q ∈ l, Sz 4 q ∧ 0 ≤ q.num) ∧ ∃ q ∈ l, 0 < q.num := ⟨h.1, fun q hq => ⟨sz_mono (h.2.1 q hq).1 (by decide), (h.2.1 q hq).2⟩, h.2.2⟩
theorem s_in_inputs {nb : Nat} {s : DS} (hn : 64 ≤ nb) (hn2 : nb + 40 < 900000) (hs : s.Ok) (ht : s.turn + 100000000000000000000000000000 < 2 ^ nb) :
    ∃ (n : Nat) (ws ns : List Str) (A : Mat) (s' : DS), sem G fns (k + 5) 2 [.ref 1, .bl true] (Dr s) = .ok (inD ws ns A) (Dr s') ∧ InOk n ws ns A ∧ SzM 4 A ∧ Reach s s' 100000000000000000000000000000 := by
  obtain ⟨g1, s1, e1, a1, b1, r1⟩ := draw_to (G := G) (k := k + 2) (s := s) (room := 4) hn hn2 hs (by omega) (by decide) (by decide)
  obtain ⟨n, hnn⟩ : ∃ n : Nat, (n : Int) = 1 + g1 := ⟨(1 + g1).toNat, by omega⟩
  have h1 : 1 ≤ n := by omega
  have h4 : n ≤ 4 := by omega
  have t1 := r1.turn
  obtain ⟨ws, s2, e2, lw, ww, uw, k2, c2, t2⟩ := s_words (G := G) (k := k) (many := n) hn hn2 (by omega) r1.ok (by omega)
  obtain ⟨ns, s3, e3, ln, wn, un, k3, c3, t3⟩ := s_words (G := G) (k := k) (many := n) hn hn2 (by omega) k2 (by omega)
  obtain ⟨thin, s4, e4, a4, b4, r4⟩ := draw_to (G := G) (k := k + 2) (s := s3) (room := 3) hn hn2 k3 (by omega) (by decide) (by decide)
  have t4 := r4.turn
  obtain ⟨ls, y4, y7, s5, e5, ll, pl, r5⟩ := in_loop (k := k) (G := G) (thin := thin) hn hn2 lw h1 h4 (some (.bl true)) (some (.lst (ns.map .str))) none none ns [] none none s4 (by simp; omega) r4.ok (by omega)
  have t5 := r5.turn
  rw [List.nil_append] at e5
  have hll : ls.length = n := by omega
  have hR : Reach s s5 (100000000000000000000000000000 - 1) := ⟨r5.ok, by rw [r5.cells, r4.cells, c3, c2, r1.cells], by omega⟩
  have x1 : denS (sem G fns (k + 4)) G (.asg (.one 2) (.call 3 (.cons (.var 0) (.cons (.bin .add (.int 1) (.call 4 (.cons (.var 0) (.cons (.int 4) .nil)))) .nil)))) [some (.ref 1), some (.bl true), none, none, none, none, none, none, none, none] (Dr s) = .ok (.nx [some (.ref 1), some (.bl true), some (.lst (ws.map .str)), none, none, none, none, none, none, none]) (Dr s2) := by
    simp -implicitDefEqProofs only [runBody, denSs, denS.eq_1, denS.eq_2, denS.eq_3, denS.eq_4, denS.eq_5, denS.eq_6, denS.eq_7, denS.eq_8, denS.eq_9, denS.eq_10, denS.eq_13, denS.eq_14, denS.eq_15, denS.eq_16, denS.eq_17, d_for, d_whl, den.eq_1, den.eq_2, den.eq_3, den.eq_4, den.eq_5, den.eq_6, den.eq_7, den.eq_8, den.eq_9, den.eq_10, den.eq_11, den.eq_12, den.eq_13, den.eq_14, den.eq_15, den.eq_16, den.eq_17, den.eq_18, den.eq_19, den.eq_20, den.eq_21, den.eq_23, den.eq_24, den.eq_25, den.eq_26, den.eq_27, d_comp, denT, denEs, denEO, denC, denI, bind_ok, of_some, look_0, look_s, List.length_cons, List.length_nil, List.map_cons, List.map_nil, List.replicate, List.cons_append, List.nil_append, if_true, drf_int, drf_bl, drf_tup, drf_lst, drf_non, drf_str, drf_q, Ev.T.own, wipeE, setAll, dTru, dBi, dBin, dNeg, bindT, List.set_cons_zero, List.set_cons_succ, Option.map_some, rq_0, rq_1, Nat.reduceAdd, Nat.reduceSub, e1, ← hnn, e2]
  have x2 : denS (sem G fns (k + 4)) G (.asg (.one 3) (.call 3 (.cons (.var 0) (.cons (.ite (.var 1) (.bi .len (.cons (.var 2) .nil)) (.bin .add (.int 1) (.call 4 (.cons (.var 0) (.cons (.int 6) .nil))))) .nil)))) [some (.ref 1), some (.bl true), some (.lst (ws.map .str)), none, none, none, none, none, none, none] (Dr s2) = .ok (.nx [some (.ref 1), some (.bl true), some (.lst (ws.map .str)), some (.lst (ns.map .str)), none, none, none, none, none, none]) (Dr s3) := by
    simp -implicitDefEqProofs only [runBody, denSs, denS.eq_1, denS.eq_2, denS.eq_3, denS.eq_4, denS.eq_5, denS.eq_6, denS.eq_7, denS.eq_8, denS.eq_9, denS.eq_10, denS.eq_13, denS.eq_14, denS.eq_15, denS.eq_16, denS.eq_17, d_for, d_whl, den.eq_1, den.eq_2, den.eq_3, den.eq_4, den.eq_5, den.eq_6, den.eq_7, den.eq_8, den.eq_9, den.eq_10, den.eq_11, den.eq_12, den.eq_13, den.eq_14, den.eq_15, den.eq_16, den.eq_17, den.eq_18, den.eq_19, den.eq_20, den.eq_21, den.eq_23, den.eq_24, den.eq_25, den.eq_26, den.eq_27, d_comp, denT, denEs, denEO, denC, denI, bind_ok, of_some, look_0, look_s, List.length_cons, List.length_nil, List.map_cons, List.map_nil, List.replicate, List.cons_append, List.nil_append, if_true, drf_int, drf_bl, drf_tup, drf_lst, drf_non, drf_str, drf_q, Ev.T.own, wipeE, setAll, dTru, dNeg, bindT, List.set_cons_zero, List.set_cons_succ, Option.map_some, rq_0, rq_1, Nat.reduceAdd, Nat.reduceSub, len_L, List.length_map, lw, e3]
  have x3 : denS (sem G fns (k + 4)) G (.par 5 6 (.call 4 (.cons (.var 0) (.cons (.int 3) .nil))) (.lst .nil)) [some (.ref 1), some (.bl true), some (.lst (ws.map .str)), some (.lst (ns.map .str)), none, none, none, none, none, none] (Dr s3) = .ok (.nx [some (.ref 1), some (.bl true), some (.lst (ws.map .str)), some (.lst (ns.map .str)), none, some (.int thin), some (.lst []), none, none, none]) (Dr s4) := by
    simp -implicitDefEqProofs only [runBody, denSs, denS.eq_1, denS.eq_2, denS.eq_3, denS.eq_4, denS.eq_5, denS.eq_6, denS.eq_7, denS.eq_8, denS.eq_9, denS.eq_10, denS.eq_13, denS.eq_14, denS.eq_15, denS.eq_16, denS.eq_17, d_for, d_whl, den.eq_1, den.eq_2, den.eq_3, den.eq_4, den.eq_5, den.eq_6, den.eq_7, den.eq_8, den.eq_9, den.eq_10, den.eq_11, den.eq_12, den.eq_13, den.eq_14, den.eq_15, den.eq_16, den.eq_17, den.eq_18, den.eq_19, den.eq_20, den.eq_21, den.eq_23, den.eq_24, den.eq_25, den.eq_26, den.eq_27, d_comp, denT, denEs, denEO, denC, denI, bind_ok, of_some, look_0, look_s, List.length_cons, List.length_nil, List.map_cons, List.map_nil, List.replicate, List.cons_append, List.nil_append, if_true, drf_int, drf_bl, drf_tup, drf_lst, drf_non, drf_str, drf_q, Ev.T.own, wipeE, setAll, dTru, dNeg, bindT, List.set_cons_zero, List.set_cons_succ, Option.map_some, rq_0, rq_1, Nat.reduceAdd, Nat.reduceSub, e4]
  have x4 : denS (sem G fns (k + 4)) G (.for (.one 4) (.seq (.var 3)) inpB) [some (.ref 1), some (.bl true), some (.lst (ws.map .str)), some (.lst (ns.map .str)), none, some (.int thin), some (.lst []), none, none, none] (Dr s4) = .ok (.nx [some (.ref 1), some (.bl true), some (.lst (ws.map .str)), some (.lst (ns.map .str)), y4, some (.int thin), some (.lst (ls.map DT)), y7, none, none]) (Dr s5) := by
    simp -implicitDefEqProofs only [runBody, denSs, denS.eq_1, denS.eq_2, denS.eq_3, denS.eq_4, denS.eq_5, denS.eq_6, denS.eq_7, denS.eq_8, denS.eq_9, denS.eq_10, denS.eq_13, denS.eq_14, denS.eq_15, denS.eq_16, denS.eq_17, d_for, d_whl, den.eq_1, den.eq_2, den.eq_3, den.eq_4, den.eq_5, den.eq_6, den.eq_7, den.eq_8, den.eq_9, den.eq_10, den.eq_11, den.eq_12, den.eq_13, den.eq_14, den.eq_15, den.eq_16, den.eq_17, den.eq_18, den.eq_19, den.eq_20, den.eq_21, den.eq_23, den.eq_24, den.eq_25, den.eq_26, den.eq_27, d_comp, denT, denEs, denEO, denC, denI, bind_ok, of_some, look_0, look_s, List.length_cons, List.length_nil, List.map_cons, List.map_nil, List.replicate, List.cons_append, List.nil_append, if_true, drf_int, drf_bl, drf_tup, drf_lst, drf_non, drf_str, drf_q, Ev.T.own, wipeE, setAll, dTru, dNeg, bindT, List.set_cons_zero, List.set_cons_succ, Option.map_some, rq_0, rq_1, Nat.reduceAdd, Nat.reduceSub, seq_W]
    exact e5
  have x6 : ∀ (A : Mat) (o : Os), denS (sem G fns (k + 4)) G (.ret (.tup (.cons (.str "inputs") (.cons (.bi .tuple (.cons (.var 2) .nil)) (.cons (.bi .tuple (.cons (.var 3) .nil)) (.cons (.bi .tuple (.cons (.var 6) .nil)) .nil)))))) [some (.ref 1), some (.bl true), some (.lst (ws.map .str)), some (.lst (ns.map .str)), y4, some (.int thin), some (.lst (A.map DT)), y7, none, none] o = .ok (.ret (inD ws ns A)) o := fun A o => by
    have e6 : ∀ l : List D, dBi .tuple [.lst l] = some (.tup l) := fun _ => rfl
    simp -implicitDefEqProofs only [runBody, denSs, denS.eq_1, denS.eq_2, denS.eq_3, denS.eq_4, denS.eq_5, denS.eq_6, denS.eq_7, denS.eq_8, denS.eq_9, denS.eq_10, denS.eq_13, denS.eq_14, denS.eq_15, denS.eq_16, denS.eq_17, d_for, d_whl, den.eq_1, den.eq_2, den.eq_3, den.eq_4, den.eq_5, den.eq_6, den.eq_7, den.eq_8, den.eq_9, den.eq_10, den.eq_11, den.eq_12, den.eq_13, den.eq_14, den.eq_15, den.eq_16, den.eq_17, den.eq_18, den.eq_19, den.eq_20, den.eq_21, den.eq_23, den.eq_24, den.eq_25, den.eq_26, den.eq_27, d_comp, denT, denEs, denEO, denC, denI, bind_ok, of_some, look_0, look_s, List.length_cons, List.length_nil, List.map_cons, List.map_nil, List.replicate, List.cons_append, List.nil_append, if_true, drf_int, drf_bl, drf_tup, drf_lst, drf_non, drf_str, drf_q, Ev.T.own, wipeE, setAll, dTru, dNeg, bindT, List.set_cons_zero, List.set_cons_succ, Option.map_some, rq_0, rq_1, Nat.reduceAdd, Nat.reduceSub, e6]
    rfl
  have hbody : f__law_in_inputs.body = .cons (.asg (.one 2) (.call 3 (.cons (.var 0) (.cons (.bin .add (.int 1) (.call 4 (.cons (.var 0) (.cons (.int 4) .nil)))) .nil)))) (.cons (.asg (.one 3) (.call 3 (.cons (.var 0) (.cons (.ite (.var 1) (.bi .len (.cons (.var 2) .nil)) (.bin .add (.int 1) (.call 4 (.cons (.var 0) (.cons (.int 6) .nil))))) .nil)))) (.cons (.par 5 6 (.call 4 (.cons (.var 0) (.cons (.int 3) .nil))) (.lst .nil)) (.cons (.for (.one 4) (.seq (.var 3)) inpB) (.cons (.ite (.and (.cmp .gt (.bi .len (.cons (.var 6) .nil)) (.int 1)) (.cmp .eq (.call 4 (.cons (.var 0) (.cons (.int 8) .nil))) (.int 0))) (.cons (.sto 6 (.int 0) (.bi .tuple (.cons (.comp (.call 8 (.cons (.tup (.cons (.int 2) (.cons (.int 1) .nil))) (.cons (.var 9) .nil))) (.one 9) (.seq (.idx (.var 6) (.int 1))) .none) .nil))) .nil) .nil) (.cons (.ret (.tup (.cons (.str "inputs") (.cons (.bi .tuple (.cons (.var 2) .nil)) (.cons (.bi .tuple (.cons (.var 3) .nil)) (.cons (.bi .tuple (.cons (.var 6) .nil)) .nil)))))) .nil))))) := rfl
  have hrun : ∀ r, (denSs (sem G fns (k + 4)) G f__law_in_inputs.body [some (.ref 1), some (.bl true), none, none, none, none, none, none, none, none] (Dr s)) = r → runBody (sem G fns (k + 4)) G f__law_in_inputs [.ref 1, .bl true] (Dr s) = r.bind fun r o => match r with
    | .nx _ => .ok .non o
    | .ct _ => .bad
    | .ret d => .ok d o := fun r h => by
      rw [← h]; rfl
  have hf : (false = true) = False := by simp
  rw [sem_succ f__law_in_inputs rfl, hrun _ rfl, hbody, ss_nx x1, ss_nx x2, ss_nx x3, ss_nx x4]
  by_cases c1 : 1 < n
  · have c1' : (1 : Int) < n := by omega
    obtain ⟨g, s6, e6, a6, b6, r6⟩ := draw_to (G := G) (k := k + 2) (s := s5) (room := 8) hn hn2 r5.ok (by omega) (by decide) (by decide)
    by_cases c2 : g = 0
    · have hm1 : ls.getD 1 [] ∈ ls := getD_mem (by omega)
      have p1 := pl _ hm1
      have e7 : dIdx (.lst (ls.map DT)) (.int 1) (Dr s6) = some (DT (ls.getD 1 [])) := ix_list (i := 1) (by
        have : 1 < ls.length := by omega
        simp [List.getD, this])
      have e8 := in_double (k := k + 2) (G := G) (o := Dr s6) (l := ls.getD 1 []) (fun q hq => (p1.2.1 q hq).1) (some (.ref 1)) (some (.bl true)) (some (.lst (ws.map .str))) (some (.lst (ns.map .str))) y4 (some (.int thin)) (some (.lst (ls.map DT))) y7 none none
      have f1 := isL_0 (ρ := [some (.ref 1), some (.bl true), some (.lst (ws.map .str)), some (.lst (ns.map .str)), y4, some (.int thin), some (.lst (ls.map DT)), y7, none, none]) (i := 6) (l := ls.map DT) rfl
      have f2 := setAt_0 (ρ := [some (.ref 1), some (.bl true), some (.lst (ws.map .str)), some (.lst (ns.map .str)), y4, some (.int thin), some (.lst (ls.map DT)), y7, none, none]) (i := 6) (l := ls.map DT) (j := 0) (d := DT ((ls.getD 1 []).map (2 * ·))) rfl (by simp; omega)
      rw [show (ls.map DT).set 0 (DT ((ls.getD 1 []).map (2 * ·))) = (ls.set 0 ((ls.getD 1 []).map (2 * ·))).map DT by rw [List.map_set]] at f2
      simp -implicitDefEqProofs only [List.set_cons_zero, List.set_cons_succ] at f2
      have hz0 : ((0 : Nat) : Int) = 0 := rfl
      rw [hz0] at f2
      have e9 : ∀ l : Row, dBi .tuple [.lst (l.map Rq)] = some (DT l) := fun _ => rfl
      have x5 : denS (sem G fns (k + 4)) G (.ite (.and (.cmp .gt (.bi .len (.cons (.var 6) .nil)) (.int 1)) (.cmp .eq (.call 4 (.cons (.var 0) (.cons (.int 8) .nil))) (.int 0))) (.cons (.sto 6 (.int 0) (.bi .tuple (.cons (.comp (.call 8 (.cons (.tup (.cons (.int 2) (.cons (.int 1) .nil))) (.cons (.var 9) .nil))) (.one 9) (.seq (.idx (.var 6) (.int 1))) .none) .nil))) .nil) .nil) [some (.ref 1), some (.bl true), some (.lst (ws.map .str)), some (.lst (ns.map .str)), y4, some (.int thin), some (.lst (ls.map DT)), y7, none, none] (Dr s5) = .ok (.nx [some (.ref 1), some (.bl true), some (.lst (ws.map .str)), some (.lst (ns.map .str)), y4, some (.int thin), some (.lst ((ls.set 0 ((ls.getD 1 []).map (2 * ·))).map DT)), y7, none, none]) (Dr s6) := by
        subst c2
        simp -implicitDefEqProofs only [runBody, denSs, denS.eq_1, denS.eq_2, denS.eq_3, denS.eq_4, denS.eq_5, denS.eq_6, denS.eq_7, denS.eq_8, denS.eq_9, denS.eq_10, denS.eq_13, denS.eq_14, denS.eq_15, denS.eq_16, denS.eq_17, d_for, d_whl, den.eq_1, den.eq_2, den.eq_3, den.eq_4, den.eq_5, den.eq_6, den.eq_7, den.eq_8, den.eq_9, den.eq_10, den.eq_11, den.eq_12, den.eq_13, den.eq_14, den.eq_15, den.eq_16, den.eq_17, den.eq_18, den.eq_19, den.eq_20, den.eq_21, den.eq_23, den.eq_24, den.eq_25, den.eq_26, den.eq_27, d_comp, denT, denEs, denEO, denC, denI, bind_ok, of_some, look_0, look_s, List.length_cons, List.length_nil, List.map_cons, List.map_nil, List.replicate, List.cons_append, List.nil_append, if_true, drf_int, drf_bl, drf_tup, drf_lst, drf_non, drf_str, drf_q, Ev.T.own, wipeE, setAll, dTru, dNeg, bindT, List.set_cons_zero, List.set_cons_succ, Option.map_some, rq_0, rq_1, Nat.reduceAdd, Nat.reduceSub, len_L, List.length_map, hll, lt_gt _ _ c1', e6, eq_int, decide_true, if_true, e7, seq_T, e8, e9, f1, f2]
      rw [ss_nx x5, ss_ret (x6 _ _)]
      have hok := rows_ok (A := ls.set 0 ((ls.getD 1 []).map (2 * ·))) lw ln h1 h4 ww wn uw un (by rw [List.length_set]; exact hll) fun l hl => by
        rcases List.mem_or_eq_of_mem_set hl with hl | rfl
        · exact row_ok4 (pl _ hl)
        · exact double_ok p1
      exact ⟨n, ws, ns, _, s6, rfl, hok.1, hok.2, (hR.trans r6).mono (by omega)⟩
    · have x5 : denS (sem G fns (k + 4)) G (.ite (.and (.cmp .gt (.bi .len (.cons (.var 6) .nil)) (.int 1)) (.cmp .eq (.call 4 (.cons (.var 0) (.cons (.int 8) .nil))) (.int 0))) (.cons (.sto 6 (.int 0) (.bi .tuple (.cons (.comp (.call 8 (.cons (.tup (.cons (.int 2) (.cons (.int 1) .nil))) (.cons (.var 9) .nil))) (.one 9) (.seq (.idx (.var 6) (.int 1))) .none) .nil))) .nil) .nil) [some (.ref 1), some (.bl true), some (.lst (ws.map .str)), some (.lst (ns.map .str)), y4, some (.int thin), some (.lst (ls.map DT)), y7, none, none] (Dr s5) = .ok (.nx [some (.ref 1), some (.bl true), some (.lst (ws.map .str)), some (.lst (ns.map .str)), y4, some (.int thin), some (.lst (ls.map DT)), y7, none, none]) (Dr s6) := by
        simp -implicitDefEqProofs only [runBody, denSs, denS.eq_1, denS.eq_2, denS.eq_3, denS.eq_4, denS.eq_5, denS.eq_6, denS.eq_7, denS.eq_8, denS.eq_9, denS.eq_10, denS.eq_13, denS.eq_14, denS.eq_15, denS.eq_16, denS.eq_17, d_for, d_whl, den.eq_1, den.eq_2, den.eq_3, den.eq_4, den.eq_5, den.eq_6, den.eq_7, den.eq_8, den.eq_9, den.eq_10, den.eq_11, den.eq_12, den.eq_13, den.eq_14, den.eq_15, den.eq_16, den.eq_17, den.eq_18, den.eq_19, den.eq_20, den.eq_21, den.eq_23, den.eq_24, den.eq_25, den.eq_26, den.eq_27, d_comp, denT, denEs, denEO, denC, denI, bind_ok, of_some, look_0, look_s, List.length_cons, List.length_nil, List.map_cons, List.map_nil, List.replicate, List.cons_append, List.nil_append, if_true, drf_int, drf_bl, drf_tup, drf_lst, drf_non, drf_str, drf_q, Ev.T.own, wipeE, setAll, dTru, dNeg, bindT, List.set_cons_zero, List.set_cons_succ, Option.map_some, rq_0, rq_1, Nat.reduceAdd, Nat.reduceSub, len_L, List.length_map, hll, lt_gt _ _ c1', e6, eq_int, c2, decide_false, if_true, hf, if_false]
      rw [ss_nx x5, ss_ret (x6 _ _)]
      have hok := rows_ok lw ln h1 h4 ww wn uw un hll fun l hl => row_ok4 (pl _ hl)
      exact ⟨n, ws, ns, _, s6, rfl, hok.1, hok.2, (hR.trans r6).mono (by omega)⟩
  · have c1' : dCmp .gt (.int (n : Nat)) (.int 1) = some false := by
      rw [gt_int]
      have : ¬ ((1 : Int) < n) := by omega
      simp [this]
    have x5 : denS (sem G fns (k + 4)) G (.ite (.and (.cmp .gt (.bi .len (.cons (.var 6) .nil)) (.int 1)) (.cmp .eq (.call 4 (.cons (.var 0) (.cons (.int 8) .nil))) (.int 0))) (.cons (.sto 6 (.int 0) (.bi .tuple (.cons (.comp (.call 8 (.cons (.tup (.cons (.int 2) (.cons (.int 1) .nil))) (.cons (.var 9) .nil))) (.one 9) (.seq (.idx (.var 6) (.int 1))) .none) .nil))) .nil) .nil) [some (.ref 1), some (.bl true), some (.lst (ws.map .str)), some (.lst (ns.map .str)), y4, some (.int thin), some (.lst (ls.map DT)), y7, none, none] (Dr s5) = .ok (.nx [some (.ref 1), some (.bl true), some (.lst (ws.map .str)), some (.lst (ns.map .str)), y4, some (.int thin), some (.lst (ls.map DT)), y7, none, none]) (Dr s5) := by
      simp -implicitDefEqProofs only [runBody, denSs, denS.eq_1, denS.eq_2, denS.eq_3, denS.eq_4, denS.eq_5, denS.eq_6, denS.eq_7, denS.eq_8, denS.eq_9, denS.eq_10, denS.eq_13, denS.eq_14, denS.eq_15, denS.eq_16, denS.eq_17, d_for, d_whl, den.eq_1, den.eq_2, den.eq_3, den.eq_4, den.eq_5, den.eq_6, den.eq_7, den.eq_8, den.eq_9, den.eq_10, den.eq_11, den.eq_12, den.eq_13, den.eq_14, den.eq_15, den.eq_16, den.eq_17, den.eq_18, den.eq_19, den.eq_20, den.eq_21, den.eq_23, den.eq_24, den.eq_25, den.eq_26, den.eq_27, d_comp, denT, denEs, denEO, denC, denI, bind_ok, of_some, look_0, look_s, List.length_cons, List.length_nil, List.map_cons, List.map_nil, List.replicate, List.cons_append, List.nil_append, if_true, drf_int, drf_bl, drf_tup, drf_lst, drf_non, drf_str, drf_q, Ev.T.own, wipeE, setAll, dTru, dNeg, bindT, List.set_cons_zero, List.set_cons_succ, Option.map_some, rq_0, rq_1, Nat.reduceAdd, Nat.reduceSub, len_L, List.length_map, hll, c1', hf, if_false]
    rw [ss_nx x5, ss_ret (x6 _ _)]
    have hok := rows_ok lw ln h1 h4 ww wn uw un hll fun l hl => row_ok4 (pl _ hl)
    exact ⟨n, ws, ns, _, s5, rfl, hok.1, hok.2, hR.mono (by omega)⟩
end K60

namespace K60
open PySem Ev
/-! sums -/
def sumN : Nat → (Nat → Rat) → Rat
  | 0, _ => 0
  | n + 1, f => sumN n f + f n
theorem sumN_cong {f g : Nat → Rat} : ∀ n : Nat, (∀ i, i < n → f i = g i) → sumN n f = sumN n g
  | 0, _ => rfl
  | n + 1, h => by rw [sumN, sumN, sumN_cong n fun i hi => h i (by omega), h n (by omega)]
theorem sumN_add {f g : Nat → Rat} : ∀ n : Nat, sumN n (fun i => f i + g i) = sumN n f + sumN n g
  | 0 => by simp -implicitDefEqProofs only [sumN]; grind
  | n + 1 => by simp -implicitDefEqProofs only [sumN]; rw [sumN_add n]; grind
theorem sumN_mul {f : Nat → Rat} (c : Rat) : ∀ n : Nat, sumN n (fun i => c * f i) = c * sumN n f
  | 0 => by simp -implicitDefEqProofs only [sumN]; grind
  | n + 1 => by simp -implicitDefEqProofs only [sumN]; rw [sumN_mul c n]; grind
theorem sumN_zero : ∀ n : Nat, sumN n (fun _ => 0) = 0
  | 0 => rfl
  | n + 1 => by rw [sumN, sumN_zero n]; grind
theorem sumN_swap {f : Nat → Nat → Rat} (m : Nat) : ∀ n : Nat, sumN n (fun i => sumN m fun j => f i j) = sumN m fun j => sumN n fun i => f i j
  | 0 => by simp -implicitDefEqProofs only [sumN]; rw [sumN_zero]
  | n + 1 => by simp -implicitDefEqProofs only [sumN]; rw [sumN_swap m n, sumN_add]
theorem sumN_at {c : Rat} {g : Nat} : ∀ n : Nat, sumN n (fun i => if i = g then c else 0) = if g < n then c else 0
  | 0 => rfl
  | n + 1 => by
    rw [sumN, sumN_at n]
    by_cases h : n = g
    · subst h; simp; grind
    · by_cases h2 : g < n
      · have : g < n + 1 := by omega
        simp [h, h2, this]; grind
      · have : ¬ g < n + 1 := by omega
        simp [h, h2, this]; grind
theorem sumQ_last : ∀ (l : List Rat) (a b : Rat), sumQ (l ++ [b]) a = sumQ l a + b
  | [], a, b => rfl
  | x :: l, a, b => sumQ_last l (a + x) b
theorem sumQ_range (f : Nat → Rat) : ∀ n : Nat, sumQ ((List.range n).map f) 0 = sumN n f
  | 0 => rfl
  | n + 1 => by rw [List.range_succ, List.map_append, List.map_singleton, sumQ_last, sumQ_range f n, sumN]
theorem dotQ_sum {n : Nat} {a b : Row} (ha : a.length = n) (hb : b.length = n) : dotQ a b = sumN n fun i => a.getD i 0 * b.getD i 0 := by
  rw [← sumQ_range, dotQ]
  congr 1
  refine List.ext_getElem (by simp [ha, hb]) fun i h1 h2 => ?_
  have hi : i < n := by simpa using h2
  have h3 : i < a.length := by omega
  have h4 : i < b.length := by omega
  simp [List.getD, h3, h4]
theorem getD_rng {n i : Nat} {f : Nat → Rat} (h : i < n) : ((List.range n).map f).getD i 0 = f i := by simp [List.getD, h]
theorem getD_set {l : Row} {g i : Nat} {c : Rat} (h : g < l.length) : (l.set g c).getD i 0 = if i = g then c else l.getD i 0 := by
  by_cases e : i = g
  · subst e; simp [List.getD, h]
  · have : ¬ g = i := fun z => e z.symm
    simp [List.getD, List.getElem?_set, e, this]
theorem invM_row {n kk : Nat} {E : (Nat → Rat) → Nat → Rat} (hk : kk < n) : (invM n E).getD kk [] = (List.range n).map fun g => E (unit g) kk := by simp [invM, List.getD, hk]
theorem invM_col {n g : Nat} {E : (Nat → Rat) → Nat → Rat} (hg : g < n) : ((invM n E).map fun l => l.getD g 0) = (List.range n).map fun kk => E (unit g) kk := by
  rw [rows_eq inv_len]
  refine List.map_congr_left fun kk hk => ?_
  rw [invM_row (List.mem_range.mp hk), getD_rng hg]
/-- what rewards tells -/
def toldQ (n : Nat) (E : (Nat → Rat) → Nat → Rat) (ps : Row) : Row := (List.range n).map fun kk => sumN n fun g => E (unit g) kk * ps.getD g 0
/-- what amounts tells -/
def manyQ (n : Nat) (E : (Nat → Rat) → Nat → Rat) (ss : Row) : Row := (List.range n).map fun g => sumN n fun kk => E (unit g) kk * ss.getD kk 0
theorem told_eq {n : Nat} {E : (Nat → Rat) → Nat → Rat} {ps : Row} (h : ps.length = n) : ((invM n E).map fun line => dotQ line ps) = toldQ n E ps := by
  rw [rows_eq inv_len, toldQ]
  refine List.map_congr_left fun kk hk => ?_
  have hk := List.mem_range.mp hk
  rw [invM_row hk, dotQ_sum (n := n) (by simp) h]
  exact sumN_cong n fun i hi => by rw [getD_rng hi]
theorem many_eq {n : Nat} {E : (Nat → Rat) → Nat → Rat} {ss : Row} (h : ss.length = n) : ((List.range n).map fun i => dotQ ((invM n E).map fun l => l.getD i 0) ss) = manyQ n E ss := by
  rw [manyQ]
  refine List.map_congr_left fun g hg => ?_
  have hg := List.mem_range.mp hg
  rw [invM_col hg, dotQ_sum (n := n) (by simp) h]
  exact sumN_cong n fun i hi => by rw [getD_rng hi]
theorem law_1 {n : Nat} {E : (Nat → Rat) → Nat → Rat} {ps ss : Row} (hp : ps.length = n) (hs : ss.length = n) : dotQ ps (manyQ n E ss) = dotQ (toldQ n E ps) ss := by
  rw [dotQ_sum (n := n) hp (by simp [manyQ]), dotQ_sum (n := n) (by simp [toldQ]) hs]
  have e1 : sumN n (fun i => ps.getD i 0 * (manyQ n E ss).getD i 0) = sumN n fun i => sumN n fun kk => E (unit i) kk * ss.getD kk 0 * ps.getD i 0 := sumN_cong n fun i hi => by
    rw [manyQ, getD_rng hi, ← sumN_mul]
    exact sumN_cong n fun j _ => by grind
  have e2 : sumN n (fun i => (toldQ n E ps).getD i 0 * ss.getD i 0) = sumN n fun i => sumN n fun g => E (unit g) i * ss.getD i 0 * ps.getD g 0 := sumN_cong n fun i hi => by
    rw [toldQ, getD_rng hi, show ∀ x y : Rat, x * y = y * x from fun x y => by grind, ← sumN_mul]
    exact sumN_cong n fun j _ => by grind
  rw [e1, e2, sumN_swap]
theorem sum_more {n g : Nat} {f : Nat → Rat} {l : Row} (hl : l.length = n) (hg : g < n) : (sumN n fun i => f i * (l.set g (l.getD g 0 + 1)).getD i 0) - (sumN n fun i => f i * l.getD i 0) = f g := by
  have e1 : sumN n (fun i => f i * (l.set g (l.getD g 0 + 1)).getD i 0) = sumN n fun i => f i * l.getD i 0 + if i = g then f g else 0 := sumN_cong n fun i _ => by
    rw [getD_set (by omega)]
    by_cases e : i = g
    · subst e; simp; grind
    · simp [e]
      grind
  rw [e1, sumN_add, sumN_at, if_pos hg]
  grind
theorem law_2 {n g kk : Nat} {E : (Nat → Rat) → Nat → Rat} {ps : Row} (hp : ps.length = n) (hg : g < n) (hk : kk < n) : (toldQ n E (ps.set g (ps.getD g 0 + 1))).getD kk 0 - (toldQ n E ps).getD kk 0 = E (unit g) kk := by
  rw [toldQ, toldQ, getD_rng hk, getD_rng hk, sum_more hp hg]
theorem law_3 {n g kk : Nat} {E : (Nat → Rat) → Nat → Rat} {ss : Row} (hs : ss.length = n) (hg : g < n) (hk : kk < n) : (manyQ n E (ss.set kk (ss.getD kk 0 + 1))).getD g 0 - (manyQ n E ss).getD g 0 = E (unit g) kk := by
  rw [manyQ, manyQ, getD_rng hg, getD_rng hg, sum_more (f := fun kk => E (unit g) kk) hs hk]
def mixQ (c : Rat) (a b : Row) : Row := (a.zip b).map fun p => p.1 + c * p.2
theorem mix_len {c : Rat} {a b : Row} {n : Nat} (ha : a.length = n) (hb : b.length = n) : (mixQ c a b).length = n := by simp [mixQ, ha, hb]
theorem mix_getD {c : Rat} {a b : Row} {n i : Nat} (ha : a.length = n) (hb : b.length = n) (hi : i < n) : (mixQ c a b).getD i 0 = a.getD i 0 + c * b.getD i 0 := by
  have h1 : i < a.length := by omega
  have h2 : i < b.length := by omega
  have hz : (a.zip b)[i]? = some (a[i], b[i]) := by
    rw [List.getElem?_eq_getElem (by rw [List.length_zip]; omega), List.getElem_zip]
  simp [mixQ, List.getD, h1, h2, hz]
theorem row_ext {n : Nat} {a b : Row} (ha : a.length = n) (hb : b.length = n) (h : ∀ i, i < n → a.getD i 0 = b.getD i 0) : a = b := by
  refine List.ext_getElem (by omega) fun i h1 h2 => ?_
  have := h i (by omega)
  simpa [List.getD, h1, h2] using this
theorem law_4 {n : Nat} {E : (Nat → Rat) → Nat → Rat} {ps ms : Row} (c : Rat) (hp : ps.length = n) (hm : ms.length = n) : toldQ n E (mixQ c ps ms) = mixQ c (toldQ n E ps) (toldQ n E ms) := by
  have l1 : ∀ ps, (toldQ n E ps).length = n := fun ps => by simp [toldQ]
  refine row_ext (l1 _) (mix_len (l1 _) (l1 _)) fun i hi => ?_
  rw [mix_getD (l1 _) (l1 _) hi, toldQ, toldQ, toldQ, getD_rng hi, getD_rng hi, getD_rng hi, ← sumN_mul, ← sumN_add]
  exact sumN_cong n fun j hj => by rw [mix_getD hp hm hj]; grind
end K60

namespace K60
open PySem Ev
def scaled (g : Nat) (f : Rat) (A : Mat) : Mat := A.mapIdx fun s row => if s = g then row.map (f * ·) else row
theorem scaled_rect {n g : Nat} {f : Rat} {A : Mat} (hA : Rect n n A) : Rect n n (scaled g f A) := ⟨by simp [scaled, hA.1], fun l hl => by
  obtain ⟨i, hi, rfl⟩ := List.mem_iff_getElem.mp hl
  unfold scaled at hi ⊢
  rw [List.getElem_mapIdx]
  split
  · rw [List.length_map]; exact hA.2 _ (List.getElem_mem _)
  · exact hA.2 _ (List.getElem_mem _)⟩
theorem scaled_colf {n g j : Nat} {f : Rat} {A : Mat} (hA : Rect n n A) : colf (scaled g f A) j = scl g f (colf A j) := by
  funext s
  unfold scl
  by_cases hs : s < n
  · have h1 : s < A.length := by rw [hA.1]; exact hs
    by_cases e : s = g
    · subst e
      simp [colf, ent, scaled, List.getD, h1]
      cases A[s][j]? with
      | none => simp
      | some x => simp
    · simp [colf, ent, scaled, List.getD, h1, e]
  · rw [colf, ent_out (scaled_rect hA) (.inl (by omega)), colf, ent_out hA (.inl (by omega))]
    split <;> grind
theorem scl_unit {g : Nat} {f : Rat} : scl g f (unit g) = fun s => f * unit g s := by
  funext s
  unfold scl unit
  split <;> grind
theorem scl_unit' {g j : Nat} {f : Rat} (h : j ≠ g) : scl g f (unit j) = unit j := by
  funext s
  unfold scl unit
  split
  · rename_i e
    have : ¬ s = j := by omega
    simp [this]
  · rfl
theorem scaled_elim {n g : Nat} {f : Rat} {A : Mat} {E : (Nat → Rat) → Nat → Rat} (hA : Rect n n A) (hf : f ≠ 0) (hg : g < n) (hE : elim n n (colf A) = some E) :
    ∃ E', elim n n (colf (scaled g f A)) = some E' ∧ ∀ j kk, E' (unit j) kk = if j = g then E (unit j) kk / f else E (unit j) kk := by
  obtain ⟨E', h1, h2⟩ := elim_scl hf n (colf A) E g hE (by omega) hg (Nat.le_refl n)
  have e : (fun j => scl g f (colf A j)) = colf (scaled g f A) := by
    funext j
    rw [scaled_colf hA]
  rw [e] at h1
  refine ⟨E', h1, fun j kk => ?_⟩
  by_cases hj : j = g
  · subst hj
    have h3 := h2 (unit j)
    rw [scl_unit, elim_hom f n _ E' h1] at h3
    have h4 := congrFun h3 kk
    rw [if_pos rfl, ← h4]
    grind
  · rw [if_neg hj, ← h2 (unit j), scl_unit' hj]
theorem law_5 {n g : Nat} {f : Rat} {E E' : (Nat → Rat) → Nat → Rat} {ps : Row} (hf : f ≠ 0) (hp : ps.length = n) (hg : g < n) (h : ∀ j kk, E' (unit j) kk = if j = g then E (unit j) kk / f else E (unit j) kk) : toldQ n E' (ps.set g (f * ps.getD g 0)) = toldQ n E ps := by
  refine List.map_congr_left fun kk _ => ?_
  refine sumN_cong n fun j _ => ?_
  rw [h, getD_set (by omega)]
  by_cases e : j = g
  · subst e; rw [if_pos rfl, if_pos rfl]; grind
  · rw [if_neg e, if_neg e]
def fewQ (g : Nat) (f : Rat) (l : Row) : Row := l.zipIdx.map fun p => if p.2 = g then p.1 / f else p.1
theorem law_6 {n g : Nat} {f : Rat} {E E' : (Nat → Rat) → Nat → Rat} {ss : Row} (hf : f ≠ 0) (h : ∀ j kk, E' (unit j) kk = if j = g then E (unit j) kk / f else E (unit j) kk) : manyQ n E' ss = fewQ g f (manyQ n E ss) := by
  have l1 : ∀ E, (manyQ n E ss).length = n := fun E => by simp [manyQ]
  refine row_ext (l1 _) (by simp [fewQ, l1]) fun i hi => ?_
  have h1 : i < (manyQ n E ss).length := by rw [l1]; exact hi
  have e1 : (fewQ g f (manyQ n E ss)).getD i 0 = if i = g then (manyQ n E ss).getD i 0 / f else (manyQ n E ss).getD i 0 := by
    simp [fewQ, List.getD, h1]
  rw [e1, manyQ, manyQ, getD_rng hi, getD_rng hi]
  by_cases e : i = g
  · subst e
    rw [if_pos rfl]
    have : sumN n (fun kk => E (unit i) kk * ss.getD kk 0) / f = (1 / f) * sumN n fun kk => E (unit i) kk * ss.getD kk 0 := by grind
    rw [this, ← sumN_mul]
    exact sumN_cong n fun j _ => by rw [h, if_pos rfl]; grind
  · rw [if_neg e]
    exact sumN_cong n fun j _ => by rw [h, if_neg e]
end K60

namespace K60
open PySem Ev
variable {F : Fs} {G : Gs} {o : Os} {k : Nat}
theorem num_comp {nb : Nat} {ρ : Ev.Env} (hn : 64 ≤ nb) (hn2 : nb + 40 < 900000) (hρ : ∀ x, look ((wipeE ρ [21]).set 21 (some x)) 1 = some (.ref 1)) (ws : List Str) (s : DS) (hs : s.Ok) (ht : s.turn + (10 * ws.length : Nat) < 2 ^ nb) :
    ∃ (qs : Row) (s' : DS), compLoop (compG (sem G fns (k + 4)) G (.call 13 (.cons (.var 1) (.cons (.int 9) .nil))) (.one 21) .none ρ) (ws.map .str) (Dr s) = .ok (qs.map Rq) (Dr s') ∧ qs.length = ws.length ∧ SzR 4 qs ∧ Reach s s' (10 * ws.length : Nat) := by
  obtain ⟨qs, s1, e1, e2, e3, r⟩ := comp_reach (c := 10) (B := 2 ^ nb) (e := .str) (g := Rq) (P := Sz 4) (f := compG (sem G fns (k + 4)) G (.call 13 (.cons (.var 1) (.cons (.int 9) .nil))) (.one 21) .none ρ) (fun s w h1 h2 => by
    obtain ⟨q, s1, e1, z1, r1⟩ := s_number (G := G) (k := k) (s := s) (size := 9) hn hn2 h1 (by omega) (by decide) (by decide)
    refine ⟨q, s1, ?_, z1, r1.mono (by omega)⟩
    simp -implicitDefEqProofs only [compG, Ev.T.own, bindT, of_some, bind_ok, denC, if_true, den.eq_17, denEs, den.eq_5, den.eq_1, hρ, e1, Res.calm]) ws s hs ht
  exact ⟨qs, s1, e1, e2, e3, r⟩
theorem pl_row (l : Row) : pl 2 (DT l) = true := by
  unfold pl
  induction l with
  | nil => rfl
  | cons q l ih => rw [List.map_cons, pls, ih]; rfl
theorem ne_row (l : Row) : dCmp .ne (DT l) (DT l) = some false := by
  unfold dCmp
  simp -implicitDefEqProofs only
  rw [deq_dec (pl_row l) (pl_row l) (by decide) (by decide)]
  simp
theorem ix_T {l : Row} {i : Nat} (h : i < l.length) : dIdx (DT l) (.int i) o = some (Rq (l.getD i 0)) := by
  have h'' : (i : Int) < l.length := by omega
  simp [dIdx, L2.atI, L2.ixN, h, h'', List.getD]
theorem ix_MT {M : Mat} {i : Nat} (h : i < M.length) : dIdx (DMT M) (.int i) o = some (DT (M.getD i [])) := by
  have h'' : (i : Int) < M.length := by omega
  simp [DMT, dIdx, L2.atI, L2.ixN, h, h'', List.getD]
theorem cut_to {α : Type} (l : List α) {n : Nat} (h : n ≤ l.length) : cut l none (some (n : Int)) = l.take n := by
  unfold cut
  have e1 : HT.sIx l.length 0 none = 0 := by simp [HT.sIx]
  have e2 : HT.sIx l.length l.length (some (n : Int)) = n := by
    have h1 : ¬ ((n : Int) < 0) := Int.not_lt.mpr (Int.natCast_nonneg n)
    have h2 : min n l.length = n := by omega
    simp [HT.sIx, h1, h2]
  rw [e1, e2]
  simp
theorem sl_to {l : Row} {n : Nat} (h : n ≤ l.length) : dSl (DT l) none (some (n : Int)) = some (DT (l.take n)) := by
  show some (D.tup (cut (l.map Rq) none (some (n : Int)))) = _
  rw [cut_to _ (by rw [List.length_map]; exact h), ← List.map_take]
theorem sl_from {l : Row} {n : Nat} (h : n + 1 ≤ l.length) : dSl (DT l) (some ((n : Int) + 1)) none = some (DT (l.drop (n + 1))) := by
  show some (D.tup (cut (l.map Rq) (some ((n + 1 : Nat) : Int)) none)) = _
  rw [cut_from _ (by rw [List.length_map]; exact h), ← List.map_drop]
theorem add_T {x y : Row} (h : x.length + y.length < 1000) : dBin .add (DT x) (DT y) = some (DT (x ++ y)) := by
  have h1 : x.length + y.length ≤ line := by unfold line; omega
  simp [dBin, DT, h1]
theorem one_T (q : Rat) : D.tup [Rq q] = DT [q] := rfl
theorem add_1 (i : Nat) : dBin .add (.int i) (.int 1) = some (.int ((i : Int) + 1)) := rfl
theorem set_T {l : Row} {i : Nat} {x : Rat} (h : i < l.length) : l.take i ++ [x] ++ l.drop (i + 1) = l.set i x := by
  rw [List.set_eq_take_append_cons_drop, if_pos h]
  simp
theorem ls_DT {l : Row} : dLs (DT l) = some (l.map Rq) := rfl
theorem tup_T (l : Row) : dBi .tuple [.lst (l.map Rq)] = some (DT l) := rfl
theorem mix_comp {a b : Row} {c : Rat} {x y z : Nat} (hc : Sz z c) (ha : SzR x a) (hb : SzR y b) (h : z + y + (z + y) ≤ 9000) (hx : x < 500000) {ρ : Ev.Env} (h19 : ∀ p q, look (setAll [22, 11] [Rq p, Rq q] (wipeE ρ [22, 11])) 19 = some (Rq c)) (h22 : ∀ p q, look (setAll [22, 11] [Rq p, Rq q] (wipeE ρ [22, 11])) 22 = some (Rq p)) (h11 : ∀ p q, look (setAll [22, 11] [Rq p, Rq q] (wipeE ρ [22, 11])) 11 = some (Rq q)) :
    compLoop (compG (sem G fns (k + 2)) G (.call 38 (.cons (.var 22) (.cons (.call 8 (.cons (.var 19) (.cons (.var 11) .nil))) .nil))) (.many [22, 11]) .none ρ) (dZip (a.map Rq) (b.map Rq)) o = .ok ((mixQ c a b).map Rq) o := by
  rw [zip_map2, comp_map (g := fun p : Rat × Rat => Rq (p.1 + c * p.2)) _ fun p hp => ?_]
  · rw [mixQ, List.map_map]; rfl
  · obtain ⟨p1, p2⟩ := p
    have h1 := ha _ (List.of_mem_zip hp).1
    have h2 := hb _ (List.of_mem_zip hp).2
    have e1 := s_law_times (G := G) (o := o) (k := k) hc h2 (by omega)
    have e2 := s_law_plus (G := G) (o := o) (k := k) h1 (sz_mul hc h2) (by omega) (gcd_add (sz_mul hc h2) h)
    simp -implicitDefEqProofs only [compG, Ev.T.own, bindT, List.length_cons, List.length_nil, if_true, of_some, bind_ok, denC, den.eq_17, denEs, den.eq_5, h19, h22, h11, e1, e2, Res.calm]
theorem few_comp {l : Row} {f : Rat} {g x : Nat} (hf : Sz 3 f) (h0 : f ≠ 0) (hl : SzR x l) (hx : x + 3 ≤ 9000) {ρ : Ev.Env} (h17 : ∀ p q, look (setAll [23, 25] [p, q] (wipeE ρ [23, 25])) 17 = some (.int g)) (h23 : ∀ p q, look (setAll [23, 25] [p, q] (wipeE ρ [23, 25])) 23 = some p) (h25 : ∀ p q, look (setAll [23, 25] [p, q] (wipeE ρ [23, 25])) 25 = some q) (h9 : ∀ p q, look (setAll [23, 25] [p, q] (wipeE ρ [23, 25])) 9 = some (Rq f)) :
    compLoop (compG (sem G fns (k + 2)) G (.ite (.cmp .eq (.var 23) (.var 17)) (.call 11 (.cons (.var 25) (.cons (.var 9) .nil))) (.var 25)) (.many [23, 25]) .none ρ) (dEnu 0 (l.map Rq)) o = .ok ((fewQ g f l).map Rq) o := by
  rw [enu_map, comp_map (g := fun p : Rat × Nat => Rq (if p.2 = g then p.1 / f else p.1)) _ fun p hp => ?_]
  · rw [fewQ, List.map_map]; rfl
  · obtain ⟨q, i⟩ := p
    have hq : q ∈ l := List.mem_of_getElem? (List.mem_zipIdx_iff_getElem?.mp hp)
    by_cases e : i = g
    · subst e
      have e1 := s_law_over (G := G) (o := o) (k := k) (hl _ hq) hf hx h0
      simp -implicitDefEqProofs only [compG, Ev.T.own, bindT, List.length_cons, List.length_nil, if_true, of_some, bind_ok, denC, den.eq_12, den.eq_16, den.eq_17, denEs, den.eq_5, h17, h23, h25, h9, e1, Res.calm, drf_int, eq_int, decide_true, Option.map_some, dTru]
    · have e' : ¬ ((i : Int) = g) := by omega
      have hf : (false = true) = False := by simp
      simp -implicitDefEqProofs only [compG, Ev.T.own, bindT, List.length_cons, List.length_nil, if_true, of_some, bind_ok, denC, den.eq_12, den.eq_16, den.eq_5, h17, h23, h25, Res.calm, drf_int, eq_int, e', decide_false, Option.map_some, dTru, hf, if_false, e]
theorem scaled_comp {A : Mat} {f : Rat} {g x : Nat} (hf : Sz 3 f) (hl : SzM x A) (hx : 3 + x ≤ 9000) {ρ : Ev.Env} (hρ : ρ.length = 26) (h17 : look ρ 17 = some (.int g)) (h9 : look ρ 9 = some (Rq f)) :
    compLoop (compG (sem G fns (k + 2)) G (.ite (.cmp .eq (.var 23) (.var 17)) (.bi .tuple (.cons (.comp (.call 8 (.cons (.var 9) (.cons (.var 25) .nil))) (.one 25) (.seq (.var 24)) .none) .nil)) (.var 24)) (.many [23, 24]) .none ρ) (dEnu 0 (A.map DT)) o = .ok ((scaled g f A).map DT) o := by
  obtain ⟨a0, a1, a2, a3, a4, a5, a6, a7, a8, a9, a10, a11, a12, a13, a14, a15, a16, a17, a18, a19, a20, a21, a22, a23, a24, a25, rfl⟩ : ∃ a0 a1 a2 a3 a4 a5 a6 a7 a8 a9 a10 a11 a12 a13 a14 a15 a16 a17 a18 a19 a20 a21 a22 a23 a24 a25, ρ = [a0, a1, a2, a3, a4, a5, a6, a7, a8, a9, a10, a11, a12, a13, a14, a15, a16, a17, a18, a19, a20, a21, a22, a23, a24, a25] := by
    match ρ, hρ with
    | [a0, a1, a2, a3, a4, a5, a6, a7, a8, a9, a10, a11, a12, a13, a14, a15, a16, a17, a18, a19, a20, a21, a22, a23, a24, a25], _ => exact ⟨_, _, _, _, _, _, _, _, _, _, _, _, _, _, _, _, _, _, _, _, _, _, _, _, _, _, rfl⟩
  simp -implicitDefEqProofs only [look_0, look_s] at h17 h9
  subst h17 h9
  rw [enu_map, comp_map (g := fun p : Row × Nat => DT (if p.2 = g then p.1.map (f * ·) else p.1)) _ fun p hp => ?_]
  · rw [scaled, List.mapIdx_eq_zipIdx_map, List.map_map]; rfl
  · obtain ⟨l, i⟩ := p
    have hq : l ∈ A := List.mem_of_getElem? (List.mem_zipIdx_iff_getElem?.mp hp)
    by_cases e : i = g
    · subst e
      have e0 : ∀ (r : Option D), compLoop (compG (sem G fns (k + 2)) G (.call 8 (.cons (.var 9) (.cons (.var 25) .nil))) (.one 25) .none [a0, a1, a2, a3, a4, a5, a6, a7, a8, some (Rq f), a10, a11, a12, a13, a14, a15, a16, some (.int i), a18, a19, a20, a21, a22, some (.int i), some (DT l), r]) (l.map Rq) o = .ok ((l.map (f * ·)).map Rq) o := fun r => by
        rw [comp_map (g := fun q : Rat => Rq (f * q)) _ fun q hq' => ?_, List.map_map]
        · rfl
        · have e1 := s_law_times (G := G) (o := o) (k := k) hf (hl _ hq _ hq') hx
          simp -implicitDefEqProofs only [compG, runBody, denSs, denS.eq_1, denS.eq_2, denS.eq_3, denS.eq_4, denS.eq_5, denS.eq_6, denS.eq_7, denS.eq_8, denS.eq_9, denS.eq_10, denS.eq_13, denS.eq_14, denS.eq_15, denS.eq_16, denS.eq_17, d_for, d_whl, den.eq_1, den.eq_2, den.eq_3, den.eq_4, den.eq_5, den.eq_6, den.eq_7, den.eq_8, den.eq_9, den.eq_10, den.eq_11, den.eq_12, den.eq_13, den.eq_14, den.eq_15, den.eq_16, den.eq_17, den.eq_18, den.eq_19, den.eq_20, den.eq_21, den.eq_23, den.eq_24, den.eq_25, den.eq_26, den.eq_27, d_comp, denT, denEs, denEO, denC, denI, bind_ok, of_some, look_0, look_s, List.length_cons, List.length_nil, List.map_cons, List.map_nil, List.replicate, List.cons_append, List.nil_append, if_true, drf_int, drf_bl, drf_tup, drf_lst, drf_non, drf_str, drf_q, Ev.T.own, wipeE, setAll, dTru, dNeg, bindT, List.set_cons_zero, List.set_cons_succ, Option.map_some, rq_0, rq_1, Nat.reduceAdd, Nat.reduceSub, Res.calm, e1]
      simp -implicitDefEqProofs only [compG, runBody, denSs, denS.eq_1, denS.eq_2, denS.eq_3, denS.eq_4, denS.eq_5, denS.eq_6, denS.eq_7, denS.eq_8, denS.eq_9, denS.eq_10, denS.eq_13, denS.eq_14, denS.eq_15, denS.eq_16, denS.eq_17, d_for, d_whl, den.eq_1, den.eq_2, den.eq_3, den.eq_4, den.eq_5, den.eq_6, den.eq_7, den.eq_8, den.eq_9, den.eq_10, den.eq_11, den.eq_12, den.eq_13, den.eq_14, den.eq_15, den.eq_16, den.eq_17, den.eq_18, den.eq_19, den.eq_20, den.eq_21, den.eq_23, den.eq_24, den.eq_25, den.eq_26, den.eq_27, d_comp, denT, denEs, denEO, denC, denI, bind_ok, of_some, look_0, look_s, List.length_cons, List.length_nil, List.map_cons, List.map_nil, List.replicate, List.cons_append, List.nil_append, if_true, drf_int, drf_bl, drf_tup, drf_lst, drf_non, drf_str, drf_q, Ev.T.own, wipeE, setAll, dTru, dNeg, bindT, List.set_cons_zero, List.set_cons_succ, Option.map_some, rq_0, rq_1, Nat.reduceAdd, Nat.reduceSub, Res.calm, eq_int, decide_true, if_true, seq_T, e0, tup_T]
    · have e' : ¬ ((i : Int) = g) := by omega
      have hf : (false = true) = False := by simp
      simp -implicitDefEqProofs only [compG, runBody, denSs, denS.eq_1, denS.eq_2, denS.eq_3, denS.eq_4, denS.eq_5, denS.eq_6, denS.eq_7, denS.eq_8, denS.eq_9, denS.eq_10, denS.eq_13, denS.eq_14, denS.eq_15, denS.eq_16, denS.eq_17, d_for, d_whl, den.eq_1, den.eq_2, den.eq_3, den.eq_4, den.eq_5, den.eq_6, den.eq_7, den.eq_8, den.eq_9, den.eq_10, den.eq_11, den.eq_12, den.eq_13, den.eq_14, den.eq_15, den.eq_16, den.eq_17, den.eq_18, den.eq_19, den.eq_20, den.eq_21, den.eq_23, den.eq_24, den.eq_25, den.eq_26, den.eq_27, d_comp, denT, denEs, denEO, denC, denI, bind_ok, of_some, look_0, look_s, List.length_cons, List.length_nil, List.map_cons, List.map_nil, List.replicate, List.cons_append, List.nil_append, if_true, drf_int, drf_bl, drf_tup, drf_lst, drf_non, drf_str, drf_q, Ev.T.own, wipeE, setAll, dTru, dNeg, bindT, List.set_cons_zero, List.set_cons_succ, Option.map_some, rq_0, rq_1, Nat.reduceAdd, Nat.reduceSub, Res.calm, eq_int, e', decide_false, hf, if_false, e]
end K60

namespace K60
open PySem Ev
variable {F : Fs} {G : Gs} {o : Os} {k : Nat}
theorem gro_4 {n : Nat} (h : n ≤ 4) : gro n 4 ≤ 1109 := by
  have : n = 0 ∨ n = 1 ∨ n = 2 ∨ n = 3 ∨ n = 4 := by omega
  rcases this with rfl | rfl | rfl | rfl | rfl <;> decide
theorem gro_7 {n : Nat} (h : n ≤ 4) : gro n 7 ≤ 1877 := by
  have : n = 0 ∨ n = 1 ∨ n = 2 ∨ n = 3 ∨ n = 4 := by omega
  rcases this with rfl | rfl | rfl | rfl | rfl <;> decide
theorem dot_sz {n x y : Nat} {a b : Row} (ha : a.length = n) (hn : n ≤ 4) (h1 : SzR x a) (h2 : SzR y b) : Sz (1 + 4 * (x + y + 1)) (dotQ a b) := by
  have h3 := sz_sum (y := x + y) ((a.zip b).map fun p => p.1 * p.2) 0 1 sz_0 fun q hq => by
    obtain ⟨p, hp, rfl⟩ := Iff.mp List.mem_map hq
    exact sz_mul (h1 _ (List.of_mem_zip (a := p.1) (b := p.2) hp).1) (h2 _ (List.of_mem_zip (a := p.1) (b := p.2) hp).2)
  refine sz_mono h3 ?_
  rw [List.length_map]
  have h4 : (a.zip b).length ≤ 4 := by rw [List.length_zip]; omega
  have := Nat.mul_le_mul_right (x + y + 1) h4
  omega
theorem told_sz {n x y : Nat} {E : (Nat → Rat) → Nat → Rat} {ps : Row} (hn : n ≤ 4) (hM : SzM x (invM n E)) (hl : ps.length = n) (hp : SzR y ps) : SzR (1 + 4 * (x + y + 1)) (toldQ n E ps) := by
  rw [← told_eq hl]
  intro q hq
  obtain ⟨l, h, rfl⟩ := List.mem_map.mp hq
  exact dot_sz (inv_len.2 _ h) hn (hM _ h) hp
theorem many_sz {n x y : Nat} {E : (Nat → Rat) → Nat → Rat} {ss : Row} (hn : n ≤ 4) (hM : SzM x (invM n E)) (hl : ss.length = n) (hp : SzR y ss) : SzR (1 + 4 * (x + y + 1)) (manyQ n E ss) := by
  rw [← many_eq hl]
  intro q hq
  obtain ⟨g, h, rfl⟩ := List.mem_map.mp hq
  have hg := List.mem_range.mp h
  refine dot_sz (n := n) (by rw [List.length_map, inv_len.1]) hn (fun q hq => ?_) hp
  obtain ⟨l, h, rfl⟩ := List.mem_map.mp hq
  exact sz_getD (hM _ h) (by rw [inv_len.2 _ h]; exact hg)
/-- regular inputs with their inverse -/
structure Reg (n b : Nat) (ws ns : List Str) (A : Mat) (E : (Nat → Rat) → Nat → Rat) : Prop where
  ok : InOk n ws ns A
  sz : SzM b A
  b1 : 1 ≤ b
  bg : gro n b ≤ 1877
  el : elim n n (colf A) = some E
theorem Reg.inv {n b : Nat} {ws ns : List Str} {A : Mat} {E : (Nat → Rat) → Nat → Rat} {G : Gs} (hG : GOk G) (h : Reg n b ws ns A E) : SzM (gro n b) (invM n E) :=
  (s_regular (k := 0) (o := []) (ws := ws) (ns := ns) hG h.ok.rA (by have := h.ok.n4; omega) h.sz h.b1 (by have := h.bg; omega) h.el).1
theorem r_rewards {n b y : Nat} {ws ns : List Str} {A : Mat} {E : (Nat → Rat) → Nat → Rat} {ps : Row} (hG : GOk G) (h : Reg n b ws ns A E) (hl : ps.length = n) (hp : SzR y ps) (hy : y ≤ 2000) : sem G fns (k + 7) 14 [inD ws ns A, DT ps] o = .ok (DT (toldQ n E ps)) o := by
  rw [s_rewards hG h.ok h.sz h.b1 (by have := h.bg; omega) h.el hl hp, told_eq hl]
theorem r_amounts {n b y : Nat} {ws ns : List Str} {A : Mat} {E : (Nat → Rat) → Nat → Rat} {ss : Row} (hG : GOk G) (h : Reg n b ws ns A E) (hl : ss.length = n) (hp : SzR y ss) (hy : y ≤ 2000) : sem G fns (k + 7) 35 [inD ws ns A, DT ss] o = .ok (DT (manyQ n E ss)) o := by
  rw [s_amounts hG h.ok h.sz h.b1 (by have := h.bg; omega) h.el hl hp, many_eq hl]
theorem r_turned {n b : Nat} {ws ns : List Str} {A : Mat} {E : (Nat → Rat) → Nat → Rat} (hG : GOk G) (h : Reg n b ws ns A E) : sem G fns (k + 7) 39 [inD ws ns A] o = .ok (DMT (invM n E)) o :=
  s_turned hG h.ok h.sz h.b1 (by have := h.bg; omega) h.el
theorem r_dot {x y n : Nat} {a b : Row} (hn : n ≤ 4) (hl : a.length = n) (ha : SzR x a) (hb : SzR y b) (h : (x + y) + (x + y) ≤ 9000) : sem G fns (k + 4) 36 [DT a, DT b] o = .ok (Rq (dotQ a b)) o := by
  refine s_law_dot a b ha hb ?_ h rfl rfl
  have h1 : (a.zip b).length ≤ 4 := by rw [List.length_zip]; omega
  have := Nat.mul_le_mul_right (x + y + 1) h1
  omega
theorem scaled_ok {n : Nat} {ws ns : List Str} {A : Mat} {g : Nat} {f : Rat} (h : InOk n ws ns A) (hf : 0 < f.num) : InOk n ws ns (scaled g f A) := by
  have hf' := pos_num.mp hf
  refine ⟨h.lw, h.ln, h.n1, h.n4, h.ww, h.wn, h.uw, h.un, scaled_rect h.rA, fun l hl q hq => ?_, fun l hl => ?_⟩
  · obtain ⟨i, hi, rfl⟩ := List.mem_iff_getElem.mp hl
    unfold scaled at hi hq
    rw [List.getElem_mapIdx] at hq
    have hm : A[i]'(by simpa using hi) ∈ A := List.getElem_mem _
    split at hq
    · obtain ⟨p, hp, rfl⟩ := List.mem_map.mp hq
      exact Rat.num_nonneg.mpr (Rat.mul_nonneg (by grind) (Rat.num_nonneg.mp (h.ge _ hm _ hp)))
    · exact h.ge _ hm _ hq
  · obtain ⟨i, hi, rfl⟩ := List.mem_iff_getElem.mp hl
    unfold scaled at hi ⊢
    rw [List.getElem_mapIdx]
    have hm : A[i]'(by simpa using hi) ∈ A := List.getElem_mem _
    obtain ⟨q, h1, h2⟩ := h.gt _ hm
    split
    · exact ⟨f * q, List.mem_map.mpr ⟨q, h1, rfl⟩, pos_num.mpr (Rat.mul_pos hf' (pos_num.mp h2))⟩
    · exact ⟨q, h1, h2⟩
theorem scaled_sz {b g : Nat} {f : Rat} {A : Mat} (h : SzM b A) (hf : Sz 3 f) : SzM (3 + b) (scaled g f A) := fun l hl q hq => by
  obtain ⟨i, hi, rfl⟩ := List.mem_iff_getElem.mp hl
  unfold scaled at hi hq
  rw [List.getElem_mapIdx] at hq
  have hm : A[i]'(by simpa using hi) ∈ A := List.getElem_mem _
  split at hq
  · obtain ⟨p, hp, rfl⟩ := List.mem_map.mp hq
    exact sz_mul hf (h _ hm _ hp)
  · exact sz_mono (h _ hm _ hq) (by omega)
theorem scaled_reg {n : Nat} {ws ns : List Str} {A : Mat} {E : (Nat → Rat) → Nat → Rat} {g : Nat} {f : Rat} (h : Reg n 4 ws ns A E) (hf : 0 < f.num) (hs : Sz 3 f) (hg : g < n) :
    ∃ E', Reg n 7 ws ns (scaled g f A) E' ∧ ∀ j kk, E' (unit j) kk = if j = g then E (unit j) kk / f else E (unit j) kk := by
  have h0 : f ≠ 0 := fun z => by rw [z] at hf; exact absurd hf (by decide)
  obtain ⟨E', h1, h2⟩ := scaled_elim h.ok.rA h0 hg h.el
  exact ⟨E', ⟨scaled_ok h.ok hf, scaled_sz h.sz hs, by omega, gro_7 h.ok.n4, h1⟩, h2⟩
theorem set_sz {x y g : Nat} {l : Row} {q : Rat} (hl : SzR x l) (hq : Sz y q) (hxy : x ≤ y) : SzR y (l.set g q) := fun p hp => by
  rcases List.mem_or_eq_of_mem_set hp with hp | rfl
  · exact sz_mono (hl _ hp) hxy
  · exact hq
theorem mix_sz {x y z : Nat} {a b : Row} {c : Rat} (ha : SzR x a) (hb : SzR y b) (hc : Sz z c) : SzR (x + (z + y) + 1) (mixQ c a b) := fun p hp => by
  obtain ⟨q, hq, rfl⟩ := Iff.mp List.mem_map hp
  exact sz_add (ha _ (List.of_mem_zip (a := q.1) (b := q.2) hq).1) (sz_mul hc (hb _ (List.of_mem_zip (a := q.1) (b := q.2) hq).2))
end K60

namespace K60
open PySem Ev
variable {F : Fs} {G : Gs} {o : Os} {k : Nat}
def lawB : Ev.Ss := match b_law with
  | .cons _ (.cons (.for _ _ b) _) => b
  | _ => .nil
theorem ne_same (q : Rat) : dCmp .ne (Rq q) (Rq q) = some false := by rw [ne_q]; simp
theorem seq_TS (ws : List Str) : dSeq (.tup (ws.map .str)) = some (ws.map .str) := rfl
theorem add_T1 {x : Row} {q : Rat} (h : x.length < 900) : dBin .add (DT x) (.tup [Rq q]) = some (DT (x ++ [q])) := add_T (y := [q]) (by simp; omega)
theorem tup_MT (M : Mat) : dBi .tuple [.lst (M.map DT)] = some (DMT M) := rfl
theorem drf_MT {M : Mat} : drf o (DMT M) = DMT M := rfl
theorem inv_ent {n g kk : Nat} {E : (Nat → Rat) → Nat → Rat} (hg : g < n) (hk : kk < n) : ((invM n E).getD kk []).getD g 0 = E (unit g) kk := by rw [invM_row hk, getD_rng hg]
theorem in_cut (ws ns : List Str) (A : Mat) : dSl (inD ws ns A) none (some 3) = some (.tup [.str "inputs", .tup (ws.map .str), .tup (ns.map .str)]) := rfl
theorem in_add (ws ns : List Str) (A : Mat) : dBin .add (.tup [.str "inputs", .tup (ws.map .str), .tup (ns.map .str)]) (.tup [DMT A]) = some (inD ws ns A) := rfl
theorem lawB_eq : lawB = (.cons (.asg (.one 3) (.call 2 (.cons (.var 1) (.cons (.bl true) .nil)))) (.cons (.asg (.one 4) (.call 9 (.cons (.var 3) .nil))) (.cons (.ite (.cmp .is (.var 4) .non) (.cons .cont .nil) .nil) (.cons (.par 13 14 (.bi .tuple (.cons (.comp (.call 13 (.cons (.var 1) (.cons (.int 9) .nil))) (.one 21) (.seq (.idx (.var 3) (.int 2))) .none) .nil)) (.bi .tuple (.cons (.comp (.call 13 (.cons (.var 1) (.cons (.int 9) .nil))) (.one 21) (.seq (.idx (.var 3) (.int 1))) .none) .nil))) (.cons (.par 15 16 (.call 14 (.cons (.var 3) (.cons (.var 13) .nil))) (.call 35 (.cons (.var 3) (.cons (.var 14) .nil)))) (.cons (.ite (.cmp .ne (.call 36 (.cons (.var 13) (.cons (.var 16) .nil))) (.call 36 (.cons (.var 15) (.cons (.var 14) .nil)))) (.cons (.ret (.bl false)) .nil) .nil) (.cons (.par 17 18 (.call 4 (.cons (.var 1) (.cons (.bi .len (.cons (.var 13) .nil)) .nil))) (.call 4 (.cons (.var 1) (.cons (.bi .len (.cons (.var 14) .nil)) .nil)))) (.cons (.asg (.one 5) (.bin .add (.bin .add (.slc (.var 13) .none (.some (.var 17))) (.tup (.cons (.call 38 (.cons (.idx (.var 13) (.var 17)) (.cons (.tup (.cons (.int 1) (.cons (.int 1) .nil))) .nil))) .nil))) (.slc (.var 13) (.some (.bin .add (.var 17) (.int 1))) .none))) (.cons (.asg (.one 6) (.bin .add (.bin .add (.slc (.var 14) .none (.some (.var 18))) (.tup (.cons (.call 38 (.cons (.idx (.var 14) (.var 18)) (.cons (.tup (.cons (.int 1) (.cons (.int 1) .nil))) .nil))) .nil))) (.slc (.var 14) (.some (.bin .add (.var 18) (.int 1))) .none))) (.cons (.asg (.one 7) (.call 12 (.cons (.idx (.call 14 (.cons (.var 3) (.cons (.var 5) .nil))) (.var 18)) (.cons (.idx (.var 15) (.var 18)) .nil)))) (.cons (.ite (.or (.cmp .ne (.var 7) (.idx (.idx (.var 4) (.var 18)) (.var 17))) (.or (.cmp .ne (.call 12 (.cons (.idx (.call 35 (.cons (.var 3) (.cons (.var 6) .nil))) (.var 17)) (.cons (.idx (.var 16) (.var 17)) .nil))) (.var 7)) (.cmp .ne (.idx (.idx (.call 39 (.cons (.var 3) .nil)) (.var 18)) (.var 17)) (.var 7)))) (.cons (.ret (.bl false)) .nil) .nil) (.cons (.par 19 20 (.call 13 (.cons (.var 1) (.cons (.int 5) .nil))) (.bi .tuple (.cons (.comp (.call 13 (.cons (.var 1) (.cons (.int 9) .nil))) (.one 21) (.seq (.idx (.var 3) (.int 2))) .none) .nil))) (.cons (.asg (.one 8) (.bi .tuple (.cons (.comp (.call 38 (.cons (.var 22) (.cons (.call 8 (.cons (.var 19) (.cons (.var 11) .nil))) .nil))) (.many [22, 11]) (.zip (.var 13) (.var 20)) .none) .nil))) (.cons (.ite (.cmp .ne (.call 14 (.cons (.var 3) (.cons (.var 8) .nil))) (.bi .tuple (.cons (.comp (.call 38 (.cons (.var 22) (.cons (.call 8 (.cons (.var 19) (.cons (.var 11) .nil))) .nil))) (.many [22, 11]) (.zip (.var 15) (.call 14 (.cons (.var 3) (.cons (.var 20) .nil)))) .none) .nil))) (.cons (.ret (.bl false)) .nil) .nil) (.cons (.asg (.one 9) (.call 40 (.cons (.var 1) (.cons (.int 5) .nil)))) (.cons (.asg (.one 10) (.bi .tuple (.cons (.comp (.ite (.cmp .eq (.var 23) (.var 17)) (.bi .tuple (.cons (.comp (.call 8 (.cons (.var 9) (.cons (.var 25) .nil))) (.one 25) (.seq (.var 24)) .none) .nil)) (.var 24)) (.many [23, 24]) (.enu (.idx (.var 3) (.int 3))) .none) .nil))) (.cons (.asg (.one 11) (.bin .add (.slc (.var 3) .none (.some (.int 3))) (.tup (.cons (.var 10) .nil)))) (.cons (.asg (.one 5) (.bin .add (.bin .add (.slc (.var 13) .none (.some (.var 17))) (.tup (.cons (.call 8 (.cons (.var 9) (.cons (.idx (.var 13) (.var 17)) .nil))) .nil))) (.slc (.var 13) (.some (.bin .add (.var 17) (.int 1))) .none))) (.cons (.asg (.one 12) (.bi .tuple (.cons (.comp (.ite (.cmp .eq (.var 23) (.var 17)) (.call 11 (.cons (.var 25) (.cons (.var 9) .nil))) (.var 25)) (.many [23, 25]) (.enu (.var 16)) .none) .nil))) (.cons (.ite (.or (.cmp .ne (.call 14 (.cons (.var 11) (.cons (.var 5) .nil))) (.var 15)) (.cmp .ne (.call 35 (.cons (.var 11) (.cons (.var 14) .nil))) (.var 12))) (.cons (.ret (.bl false)) .nil) .nil) .nil)))))))))))))))))))) := rfl
theorem law_turn {nb : Nat} (hn : 64 ≤ nb) (hn2 : nb + 40 < 900000) (hG : GOk G) (x : D) (z0 z2 z3 z4 z5 z6 z7 z8 z9 z10 z11 z12 z13 z14 z15 z16 z17 z18 z19 z20 z21 z22 z23 z24 z25 : Option D) {s : DS} (hs : s.Ok) (ht : s.turn + 100000000000000000000000001000 < 2 ^ nb) :
    ∃ (y2 y3 y4 y5 y6 y7 y8 y9 y10 y11 y12 y13 y14 y15 y16 y17 y18 y19 y20 y21 y22 y23 y24 y25 : Option D) (s' : DS), (forG (sem G fns (k + 7)) G (.one 2) lawB x [z0, some (.ref 1), z2, z3, z4, z5, z6, z7, z8, z9, z10, z11, z12, z13, z14, z15, z16, z17, z18, z19, z20, z21, z22, z23, z24, z25] (Dr s) = .ok (.nx [z0, some (.ref 1), y2, y3, y4, y5, y6, y7, y8, y9, y10, y11, y12, y13, y14, y15, y16, y17, y18, y19, y20, y21, y22, y23, y24, y25]) (Dr s') ∨ forG (sem G fns (k + 7)) G (.one 2) lawB x [z0, some (.ref 1), z2, z3, z4, z5, z6, z7, z8, z9, z10, z11, z12, z13, z14, z15, z16, z17, z18, z19, z20, z21, z22, z23, z24, z25] (Dr s) = .ok (.ct [z0, some (.ref 1), y2, y3, y4, y5, y6, y7, y8, y9, y10, y11, y12, y13, y14, y15, y16, y17, y18, y19, y20, y21, y22, y23, y24, y25]) (Dr s')) ∧ Reach s s' 100000000000000000000000001000 := by
  obtain ⟨n, ws, ns, A, s1, e0, ok, szA, r1⟩ := s_in_inputs (G := G) (k := k + 2) hn hn2 hs (by omega)
  have t1 := r1.turn
  have hf : (false = true) = False := by simp
  have n1 := ok.n1
  have n4 := ok.n4
  have x0 : denS (sem G fns (k + 7)) G (.asg (.one 3) (.call 2 (.cons (.var 1) (.cons (.bl true) .nil)))) [z0, some (.ref 1), some x, z3, z4, z5, z6, z7, z8, z9, z10, z11, z12, z13, z14, z15, z16, z17, z18, z19, z20, z21, z22, z23, z24, z25] (Dr s) = .ok (.nx [z0, some (.ref 1), some x, some (inD ws ns A), z4, z5, z6, z7, z8, z9, z10, z11, z12, z13, z14, z15, z16, z17, z18, z19, z20, z21, z22, z23, z24, z25]) (Dr s1) := by
    simp -implicitDefEqProofs only [runBody, denSs, denS.eq_1, denS.eq_2, denS.eq_3, denS.eq_4, denS.eq_5, denS.eq_6, denS.eq_7, denS.eq_8, denS.eq_9, denS.eq_10, denS.eq_13, denS.eq_14, denS.eq_15, denS.eq_16, denS.eq_17, d_for, d_whl, den.eq_1, den.eq_2, den.eq_3, den.eq_4, den.eq_5, den.eq_6, den.eq_7, den.eq_8, den.eq_9, den.eq_10, den.eq_11, den.eq_12, den.eq_13, den.eq_14, den.eq_15, den.eq_16, den.eq_17, den.eq_18, den.eq_19, den.eq_20, den.eq_21, den.eq_23, den.eq_24, den.eq_25, den.eq_26, den.eq_27, d_comp, denT, denEs, denEO, denC, denI, bind_ok, of_some, look_0, look_s, List.length_cons, List.length_nil, List.map_cons, List.map_nil, List.replicate, List.cons_append, List.nil_append, if_true, drf_int, drf_bl, drf_tup, drf_lst, drf_non, drf_str, drf_q, Ev.T.own, wipeE, setAll, dTru, dNeg, bindT, List.set_cons_zero, List.set_cons_succ, Option.map_some, rq_0, rq_1, Nat.reduceAdd, Nat.reduceSub, e0]
  rw [forG_1, lawB_eq]
  simp -implicitDefEqProofs only [List.set_cons_zero, List.set_cons_succ]
  rw [ss_nx x0]
  rcases s_known (k := k + 3) (G := G) (o := Dr s1) (ws := ws) (ns := ns) ok.rA ok.lw ok.ln (by omega) (by omega) szA (by omega) (by have := gro_4 n4; omega) with ⟨hE, kn⟩ | ⟨E, hE, kn⟩
  · have x1 : denS (sem G fns (k + 7)) G (.asg (.one 4) (.call 9 (.cons (.var 3) .nil))) [z0, some (.ref 1), some x, some (inD ws ns A), z4, z5, z6, z7, z8, z9, z10, z11, z12, z13, z14, z15, z16, z17, z18, z19, z20, z21, z22, z23, z24, z25] (Dr s1) = .ok (.nx [z0, some (.ref 1), some x, some (inD ws ns A), some .non, z5, z6, z7, z8, z9, z10, z11, z12, z13, z14, z15, z16, z17, z18, z19, z20, z21, z22, z23, z24, z25]) (Dr s1) := by
      simp -implicitDefEqProofs only [runBody, denSs, denS.eq_1, denS.eq_2, denS.eq_3, denS.eq_4, denS.eq_5, denS.eq_6, denS.eq_7, denS.eq_8, denS.eq_9, denS.eq_10, denS.eq_13, denS.eq_14, denS.eq_15, denS.eq_16, denS.eq_17, d_for, d_whl, den.eq_1, den.eq_2, den.eq_3, den.eq_4, den.eq_5, den.eq_6, den.eq_7, den.eq_8, den.eq_9, den.eq_10, den.eq_11, den.eq_12, den.eq_13, den.eq_14, den.eq_15, den.eq_16, den.eq_17, den.eq_18, den.eq_19, den.eq_20, den.eq_21, den.eq_23, den.eq_24, den.eq_25, den.eq_26, den.eq_27, d_comp, denT, denEs, denEO, denC, denI, bind_ok, of_some, look_0, look_s, List.length_cons, List.length_nil, List.map_cons, List.map_nil, List.replicate, List.cons_append, List.nil_append, if_true, drf_int, drf_bl, drf_tup, drf_lst, drf_non, drf_str, drf_q, Ev.T.own, wipeE, setAll, dTru, dNeg, bindT, List.set_cons_zero, List.set_cons_succ, Option.map_some, rq_0, rq_1, Nat.reduceAdd, Nat.reduceSub, kn]
    have x2 : denS (sem G fns (k + 7)) G (.ite (.cmp .is (.var 4) .non) (.cons .cont .nil) .nil) [z0, some (.ref 1), some x, some (inD ws ns A), some .non, z5, z6, z7, z8, z9, z10, z11, z12, z13, z14, z15, z16, z17, z18, z19, z20, z21, z22, z23, z24, z25] (Dr s1) = .ok (.ct [z0, some (.ref 1), some x, some (inD ws ns A), some .non, z5, z6, z7, z8, z9, z10, z11, z12, z13, z14, z15, z16, z17, z18, z19, z20, z21, z22, z23, z24, z25]) (Dr s1) := by
      simp -implicitDefEqProofs only [runBody, denSs, denS.eq_1, denS.eq_2, denS.eq_3, denS.eq_4, denS.eq_5, denS.eq_6, denS.eq_7, denS.eq_8, denS.eq_9, denS.eq_10, denS.eq_13, denS.eq_14, denS.eq_15, denS.eq_16, denS.eq_17, d_for, d_whl, den.eq_1, den.eq_2, den.eq_3, den.eq_4, den.eq_5, den.eq_6, den.eq_7, den.eq_8, den.eq_9, den.eq_10, den.eq_11, den.eq_12, den.eq_13, den.eq_14, den.eq_15, den.eq_16, den.eq_17, den.eq_18, den.eq_19, den.eq_20, den.eq_21, den.eq_23, den.eq_24, den.eq_25, den.eq_26, den.eq_27, d_comp, denT, denEs, denEO, denC, denI, bind_ok, of_some, look_0, look_s, List.length_cons, List.length_nil, List.map_cons, List.map_nil, List.replicate, List.cons_append, List.nil_append, if_true, drf_int, drf_bl, drf_tup, drf_lst, drf_non, drf_str, drf_q, Ev.T.own, wipeE, setAll, dTru, dNeg, bindT, List.set_cons_zero, List.set_cons_succ, Option.map_some, rq_0, rq_1, Nat.reduceAdd, Nat.reduceSub, is_non, isNonD, if_true]
    rw [ss_nx x1, ss_ct x2]
    exact ⟨_, _, _, _, _, _, _, _, _, _, _, _, _, _, _, _, _, _, _, _, _, _, _, _, s1, .inr rfl, r1.mono (by omega)⟩
  · have x1 : denS (sem G fns (k + 7)) G (.asg (.one 4) (.call 9 (.cons (.var 3) .nil))) [z0, some (.ref 1), some x, some (inD ws ns A), z4, z5, z6, z7, z8, z9, z10, z11, z12, z13, z14, z15, z16, z17, z18, z19, z20, z21, z22, z23, z24, z25] (Dr s1) = .ok (.nx [z0, some (.ref 1), some x, some (inD ws ns A), some (DMT (invM n E)), z5, z6, z7, z8, z9, z10, z11, z12, z13, z14, z15, z16, z17, z18, z19, z20, z21, z22, z23, z24, z25]) (Dr s1) := by
      simp -implicitDefEqProofs only [runBody, denSs, denS.eq_1, denS.eq_2, denS.eq_3, denS.eq_4, denS.eq_5, denS.eq_6, denS.eq_7, denS.eq_8, denS.eq_9, denS.eq_10, denS.eq_13, denS.eq_14, denS.eq_15, denS.eq_16, denS.eq_17, d_for, d_whl, den.eq_1, den.eq_2, den.eq_3, den.eq_4, den.eq_5, den.eq_6, den.eq_7, den.eq_8, den.eq_9, den.eq_10, den.eq_11, den.eq_12, den.eq_13, den.eq_14, den.eq_15, den.eq_16, den.eq_17, den.eq_18, den.eq_19, den.eq_20, den.eq_21, den.eq_23, den.eq_24, den.eq_25, den.eq_26, den.eq_27, d_comp, denT, denEs, denEO, denC, denI, bind_ok, of_some, look_0, look_s, List.length_cons, List.length_nil, List.map_cons, List.map_nil, List.replicate, List.cons_append, List.nil_append, if_true, drf_int, drf_bl, drf_tup, drf_lst, drf_non, drf_str, drf_q, Ev.T.own, wipeE, setAll, dTru, dNeg, bindT, List.set_cons_zero, List.set_cons_succ, Option.map_some, rq_0, rq_1, Nat.reduceAdd, Nat.reduceSub, kn]
    have x2 : denS (sem G fns (k + 7)) G (.ite (.cmp .is (.var 4) .non) (.cons .cont .nil) .nil) [z0, some (.ref 1), some x, some (inD ws ns A), some (DMT (invM n E)), z5, z6, z7, z8, z9, z10, z11, z12, z13, z14, z15, z16, z17, z18, z19, z20, z21, z22, z23, z24, z25] (Dr s1) = .ok (.nx [z0, some (.ref 1), some x, some (inD ws ns A), some (DMT (invM n E)), z5, z6, z7, z8, z9, z10, z11, z12, z13, z14, z15, z16, z17, z18, z19, z20, z21, z22, z23, z24, z25]) (Dr s1) := by
      have hnon : isNonD (DMT (invM n E)) = false := rfl
      simp -implicitDefEqProofs only [runBody, denSs, denS.eq_1, denS.eq_2, denS.eq_3, denS.eq_4, denS.eq_5, denS.eq_6, denS.eq_7, denS.eq_8, denS.eq_9, denS.eq_10, denS.eq_13, denS.eq_14, denS.eq_15, denS.eq_16, denS.eq_17, d_for, d_whl, den.eq_1, den.eq_2, den.eq_3, den.eq_4, den.eq_5, den.eq_6, den.eq_7, den.eq_8, den.eq_9, den.eq_10, den.eq_11, den.eq_12, den.eq_13, den.eq_14, den.eq_15, den.eq_16, den.eq_17, den.eq_18, den.eq_19, den.eq_20, den.eq_21, den.eq_23, den.eq_24, den.eq_25, den.eq_26, den.eq_27, d_comp, denT, denEs, denEO, denC, denI, bind_ok, of_some, look_0, look_s, List.length_cons, List.length_nil, List.map_cons, List.map_nil, List.replicate, List.cons_append, List.nil_append, if_true, drf_int, drf_bl, drf_tup, drf_lst, drf_non, drf_str, drf_q, Ev.T.own, wipeE, setAll, dTru, dNeg, bindT, List.set_cons_zero, List.set_cons_succ, Option.map_some, rq_0, rq_1, Nat.reduceAdd, Nat.reduceSub, is_non, drf_MT, hnon, hf, if_false]
    have reg : Reg n 4 ws ns A E := ⟨ok, szA, by omega, by have := gro_4 n4; omega, hE⟩
    have szI : SzM 1109 (invM n E) := fun l hl q hq => sz_mono (reg.inv hG l hl q hq) (gro_4 n4)
    have lw := ok.lw
    have ln := ok.ln
    obtain ⟨ps, s2, e3, lps, zps, r2⟩ := num_comp (k := k + 3) (G := G) (ρ := [z0, some (.ref 1), some x, some (inD ws ns A), some (DMT (invM n E)), z5, z6, z7, z8, z9, z10, z11, z12, z13, z14, z15, z16, z17, z18, z19, z20, z21, z22, z23, z24, z25]) hn hn2 (fun _ => rfl) ns s1 r1.ok (by rw [ln]; omega)
    have t2 := r2.turn
    rw [ln] at lps t2
    obtain ⟨ss, s3, e4, lss, zss, r3⟩ := num_comp (k := k + 3) (G := G) (ρ := [z0, some (.ref 1), some x, some (inD ws ns A), some (DMT (invM n E)), z5, z6, z7, z8, z9, z10, z11, z12, z13, z14, z15, z16, z17, z18, z19, z20, z21, z22, z23, z24, z25]) hn hn2 (fun _ => rfl) ws s2 r2.ok (by rw [lw]; omega)
    have t3 := r3.turn
    rw [lw] at lss t3
    have x3 : denS (sem G fns (k + 7)) G (.par 13 14 (.bi .tuple (.cons (.comp (.call 13 (.cons (.var 1) (.cons (.int 9) .nil))) (.one 21) (.seq (.idx (.var 3) (.int 2))) .none) .nil)) (.bi .tuple (.cons (.comp (.call 13 (.cons (.var 1) (.cons (.int 9) .nil))) (.one 21) (.seq (.idx (.var 3) (.int 1))) .none) .nil))) [z0, some (.ref 1), some x, some (inD ws ns A), some (DMT (invM n E)), z5, z6, z7, z8, z9, z10, z11, z12, z13, z14, z15, z16, z17, z18, z19, z20, z21, z22, z23, z24, z25] (Dr s1) = .ok (.nx [z0, some (.ref 1), some x, some (inD ws ns A), some (DMT (invM n E)), z5, z6, z7, z8, z9, z10, z11, z12, some (DT ps), some (DT ss), z15, z16, z17, z18, z19, z20, z21, z22, z23, z24, z25]) (Dr s3) := by
      simp -implicitDefEqProofs only [runBody, denSs, denS.eq_1, denS.eq_2, denS.eq_3, denS.eq_4, denS.eq_5, denS.eq_6, denS.eq_7, denS.eq_8, denS.eq_9, denS.eq_10, denS.eq_13, denS.eq_14, denS.eq_15, denS.eq_16, denS.eq_17, d_for, d_whl, den.eq_1, den.eq_2, den.eq_3, den.eq_4, den.eq_5, den.eq_6, den.eq_7, den.eq_8, den.eq_9, den.eq_10, den.eq_11, den.eq_12, den.eq_13, den.eq_14, den.eq_15, den.eq_16, den.eq_17, den.eq_18, den.eq_19, den.eq_20, den.eq_21, den.eq_23, den.eq_24, den.eq_25, den.eq_26, den.eq_27, d_comp, denT, denEs, denEO, denC, denI, bind_ok, of_some, look_0, look_s, List.length_cons, List.length_nil, List.map_cons, List.map_nil, List.replicate, List.cons_append, List.nil_append, if_true, drf_int, drf_bl, drf_tup, drf_lst, drf_non, drf_str, drf_q, Ev.T.own, wipeE, setAll, dTru, dNeg, bindT, List.set_cons_zero, List.set_cons_succ, Option.map_some, rq_0, rq_1, Nat.reduceAdd, Nat.reduceSub, ix_in1, ix_in2, seq_TS, e3, e4, tup_T]
    have rw1 := r_rewards (k := k) (o := Dr s3) hG reg lps zps (by omega)
    have am1 := r_amounts (k := k) (o := Dr s3) hG reg lss zss (by omega)
    have ltq : ∀ ps, (toldQ n E ps).length = n := fun ps => by simp [toldQ]
    have lmq : ∀ ps, (manyQ n E ps).length = n := fun ps => by simp [manyQ]
    have x4 : denS (sem G fns (k + 7)) G (.par 15 16 (.call 14 (.cons (.var 3) (.cons (.var 13) .nil))) (.call 35 (.cons (.var 3) (.cons (.var 14) .nil)))) [z0, some (.ref 1), some x, some (inD ws ns A), some (DMT (invM n E)), z5, z6, z7, z8, z9, z10, z11, z12, some (DT ps), some (DT ss), z15, z16, z17, z18, z19, z20, z21, z22, z23, z24, z25] (Dr s3) = .ok (.nx [z0, some (.ref 1), some x, some (inD ws ns A), some (DMT (invM n E)), z5, z6, z7, z8, z9, z10, z11, z12, some (DT ps), some (DT ss), some (DT (toldQ n E ps)), some (DT (manyQ n E ss)), z17, z18, z19, z20, z21, z22, z23, z24, z25]) (Dr s3) := by
      simp -implicitDefEqProofs only [runBody, denSs, denS.eq_1, denS.eq_2, denS.eq_3, denS.eq_4, denS.eq_5, denS.eq_6, denS.eq_7, denS.eq_8, denS.eq_9, denS.eq_10, denS.eq_13, denS.eq_14, denS.eq_15, denS.eq_16, denS.eq_17, d_for, d_whl, den.eq_1, den.eq_2, den.eq_3, den.eq_4, den.eq_5, den.eq_6, den.eq_7, den.eq_8, den.eq_9, den.eq_10, den.eq_11, den.eq_12, den.eq_13, den.eq_14, den.eq_15, den.eq_16, den.eq_17, den.eq_18, den.eq_19, den.eq_20, den.eq_21, den.eq_23, den.eq_24, den.eq_25, den.eq_26, den.eq_27, d_comp, denT, denEs, denEO, denC, denI, bind_ok, of_some, look_0, look_s, List.length_cons, List.length_nil, List.map_cons, List.map_nil, List.replicate, List.cons_append, List.nil_append, if_true, drf_int, drf_bl, drf_tup, drf_lst, drf_non, drf_str, drf_q, Ev.T.own, wipeE, setAll, dTru, dNeg, bindT, List.set_cons_zero, List.set_cons_succ, Option.map_some, rq_0, rq_1, Nat.reduceAdd, Nat.reduceSub, rw1, am1]
    have zt := told_sz n4 szI lps zps
    have zm := many_sz n4 szI lss zss
    have d1 := r_dot (k := k + 3) (G := G) (o := Dr s3) n4 lps zps zm (by omega)
    have d2 := r_dot (k := k + 3) (G := G) (o := Dr s3) n4 (ltq ps) zt zss (by omega)
    rw [law_1 lps lss] at d1
    have x5 : denS (sem G fns (k + 7)) G (.ite (.cmp .ne (.call 36 (.cons (.var 13) (.cons (.var 16) .nil))) (.call 36 (.cons (.var 15) (.cons (.var 14) .nil)))) (.cons (.ret (.bl false)) .nil) .nil) [z0, some (.ref 1), some x, some (inD ws ns A), some (DMT (invM n E)), z5, z6, z7, z8, z9, z10, z11, z12, some (DT ps), some (DT ss), some (DT (toldQ n E ps)), some (DT (manyQ n E ss)), z17, z18, z19, z20, z21, z22, z23, z24, z25] (Dr s3) = .ok (.nx [z0, some (.ref 1), some x, some (inD ws ns A), some (DMT (invM n E)), z5, z6, z7, z8, z9, z10, z11, z12, some (DT ps), some (DT ss), some (DT (toldQ n E ps)), some (DT (manyQ n E ss)), z17, z18, z19, z20, z21, z22, z23, z24, z25]) (Dr s3) := by
      simp -implicitDefEqProofs only [runBody, denSs, denS.eq_1, denS.eq_2, denS.eq_3, denS.eq_4, denS.eq_5, denS.eq_6, denS.eq_7, denS.eq_8, denS.eq_9, denS.eq_10, denS.eq_13, denS.eq_14, denS.eq_15, denS.eq_16, denS.eq_17, d_for, d_whl, den.eq_1, den.eq_2, den.eq_3, den.eq_4, den.eq_5, den.eq_6, den.eq_7, den.eq_8, den.eq_9, den.eq_10, den.eq_11, den.eq_12, den.eq_13, den.eq_14, den.eq_15, den.eq_16, den.eq_17, den.eq_18, den.eq_19, den.eq_20, den.eq_21, den.eq_23, den.eq_24, den.eq_25, den.eq_26, den.eq_27, d_comp, denT, denEs, denEO, denC, denI, bind_ok, of_some, look_0, look_s, List.length_cons, List.length_nil, List.map_cons, List.map_nil, List.replicate, List.cons_append, List.nil_append, if_true, drf_int, drf_bl, drf_tup, drf_lst, drf_non, drf_str, drf_q, Ev.T.own, wipeE, setAll, dTru, dNeg, bindT, List.set_cons_zero, List.set_cons_succ, Option.map_some, rq_0, rq_1, Nat.reduceAdd, Nat.reduceSub, d1, d2, ne_same, hf, if_false]
    obtain ⟨gi, s4, e5, g0, g1, r4⟩ := draw_to (G := G) (k := k + 5) (s := s3) (room := (n : Nat)) hn hn2 r3.ok (by omega) (by omega) (by omega)
    obtain ⟨g, rfl⟩ : ∃ g : Nat, gi = g := ⟨gi.toNat, by omega⟩
    have t4 := r4.turn
    have hg : g < n := by omega
    obtain ⟨ki, s5, e6, k0, k1, r5⟩ := draw_to (G := G) (k := k + 5) (s := s4) (room := (n : Nat)) hn hn2 r4.ok (by omega) (by omega) (by omega)
    obtain ⟨kk, rfl⟩ : ∃ kk : Nat, ki = kk := ⟨ki.toNat, by omega⟩
    have t5 := r5.turn
    have hk : kk < n := by omega
    have x6 : denS (sem G fns (k + 7)) G (.par 17 18 (.call 4 (.cons (.var 1) (.cons (.bi .len (.cons (.var 13) .nil)) .nil))) (.call 4 (.cons (.var 1) (.cons (.bi .len (.cons (.var 14) .nil)) .nil)))) [z0, some (.ref 1), some x, some (inD ws ns A), some (DMT (invM n E)), z5, z6, z7, z8, z9, z10, z11, z12, some (DT ps), some (DT ss), some (DT (toldQ n E ps)), some (DT (manyQ n E ss)), z17, z18, z19, z20, z21, z22, z23, z24, z25] (Dr s3) = .ok (.nx [z0, some (.ref 1), some x, some (inD ws ns A), some (DMT (invM n E)), z5, z6, z7, z8, z9, z10, z11, z12, some (DT ps), some (DT ss), some (DT (toldQ n E ps)), some (DT (manyQ n E ss)), some (.int g), some (.int kk), z19, z20, z21, z22, z23, z24, z25]) (Dr s5) := by
      simp -implicitDefEqProofs only [runBody, denSs, denS.eq_1, denS.eq_2, denS.eq_3, denS.eq_4, denS.eq_5, denS.eq_6, denS.eq_7, denS.eq_8, denS.eq_9, denS.eq_10, denS.eq_13, denS.eq_14, denS.eq_15, denS.eq_16, denS.eq_17, d_for, d_whl, den.eq_1, den.eq_2, den.eq_3, den.eq_4, den.eq_5, den.eq_6, den.eq_7, den.eq_8, den.eq_9, den.eq_10, den.eq_11, den.eq_12, den.eq_13, den.eq_14, den.eq_15, den.eq_16, den.eq_17, den.eq_18, den.eq_19, den.eq_20, den.eq_21, den.eq_23, den.eq_24, den.eq_25, den.eq_26, den.eq_27, d_comp, denT, denEs, denEO, denC, denI, bind_ok, of_some, look_0, look_s, List.length_cons, List.length_nil, List.map_cons, List.map_nil, List.replicate, List.cons_append, List.nil_append, if_true, drf_int, drf_bl, drf_tup, drf_lst, drf_non, drf_str, drf_q, Ev.T.own, wipeE, setAll, dTru, dNeg, bindT, List.set_cons_zero, List.set_cons_succ, Option.map_some, rq_0, rq_1, Nat.reduceAdd, Nat.reduceSub, len_T, List.length_map, lps, lss, e5, e6]
    have zpg : Sz 4 (ps.getD g 0) := sz_getD zps (by omega)
    have zsk : Sz 4 (ss.getD kk 0) := sz_getD zss (by omega)
    have p1 := s_law_plus (G := G) (o := Dr s5) (k := k + 5) zpg sz_1 (by omega) (gcd_add sz_1 (by omega))
    have p2 := s_law_plus (G := G) (o := Dr s5) (k := k + 5) zsk sz_1 (by omega) (gcd_add sz_1 (by omega))
    have i1 : dIdx (DT ps) (.int g) (Dr s5) = _ := ix_T (by omega)
    have i2 : dIdx (DT ss) (.int kk) (Dr s5) = _ := ix_T (by omega)
    have c1 := sl_to (l := ps) (n := g) (by omega)
    have c2 := sl_from (l := ps) (n := g) (by omega)
    have c3 := sl_to (l := ss) (n := kk) (by omega)
    have c4 := sl_from (l := ss) (n := kk) (by omega)
    have a1 := add_T1 (x := ps.take g) (q := ps.getD g 0 + 1) (by rw [List.length_take]; omega)
    have a2 := add_T (x := ps.take g ++ [ps.getD g 0 + 1]) (y := ps.drop (g + 1)) (by simp -implicitDefEqProofs only [List.length_append, List.length_take, List.length_drop, List.length_cons, List.length_nil]; omega)
    have a3 := add_T1 (x := ss.take kk) (q := ss.getD kk 0 + 1) (by rw [List.length_take]; omega)
    have a4 := add_T (x := ss.take kk ++ [ss.getD kk 0 + 1]) (y := ss.drop (kk + 1)) (by simp -implicitDefEqProofs only [List.length_append, List.length_take, List.length_drop, List.length_cons, List.length_nil]; omega)
    rw [set_T (by omega)] at a2 a4
    have x7 : denS (sem G fns (k + 7)) G (.asg (.one 5) (.bin .add (.bin .add (.slc (.var 13) .none (.some (.var 17))) (.tup (.cons (.call 38 (.cons (.idx (.var 13) (.var 17)) (.cons (.tup (.cons (.int 1) (.cons (.int 1) .nil))) .nil))) .nil))) (.slc (.var 13) (.some (.bin .add (.var 17) (.int 1))) .none))) [z0, some (.ref 1), some x, some (inD ws ns A), some (DMT (invM n E)), z5, z6, z7, z8, z9, z10, z11, z12, some (DT ps), some (DT ss), some (DT (toldQ n E ps)), some (DT (manyQ n E ss)), some (.int g), some (.int kk), z19, z20, z21, z22, z23, z24, z25] (Dr s5) = .ok (.nx [z0, some (.ref 1), some x, some (inD ws ns A), some (DMT (invM n E)), some (DT (ps.set g (ps.getD g 0 + 1))), z6, z7, z8, z9, z10, z11, z12, some (DT ps), some (DT ss), some (DT (toldQ n E ps)), some (DT (manyQ n E ss)), some (.int g), some (.int kk), z19, z20, z21, z22, z23, z24, z25]) (Dr s5) := by
      simp -implicitDefEqProofs only [runBody, denSs, denS.eq_1, denS.eq_2, denS.eq_3, denS.eq_4, denS.eq_5, denS.eq_6, denS.eq_7, denS.eq_8, denS.eq_9, denS.eq_10, denS.eq_13, denS.eq_14, denS.eq_15, denS.eq_16, denS.eq_17, d_for, d_whl, den.eq_1, den.eq_2, den.eq_3, den.eq_4, den.eq_5, den.eq_6, den.eq_7, den.eq_8, den.eq_9, den.eq_10, den.eq_11, den.eq_12, den.eq_13, den.eq_14, den.eq_15, den.eq_16, den.eq_17, den.eq_18, den.eq_19, den.eq_20, den.eq_21, den.eq_23, den.eq_24, den.eq_25, den.eq_26, den.eq_27, d_comp, denT, denEs, denEO, denC, denI, bind_ok, of_some, look_0, look_s, List.length_cons, List.length_nil, List.map_cons, List.map_nil, List.replicate, List.cons_append, List.nil_append, if_true, drf_int, drf_bl, drf_tup, drf_lst, drf_non, drf_str, drf_q, Ev.T.own, wipeE, setAll, dTru, dNeg, bindT, List.set_cons_zero, List.set_cons_succ, Option.map_some, rq_0, rq_1, Nat.reduceAdd, Nat.reduceSub, c1, c2, i1, one_q, p1, add_1, a1, a2]
    have x8 : denS (sem G fns (k + 7)) G (.asg (.one 6) (.bin .add (.bin .add (.slc (.var 14) .none (.some (.var 18))) (.tup (.cons (.call 38 (.cons (.idx (.var 14) (.var 18)) (.cons (.tup (.cons (.int 1) (.cons (.int 1) .nil))) .nil))) .nil))) (.slc (.var 14) (.some (.bin .add (.var 18) (.int 1))) .none))) [z0, some (.ref 1), some x, some (inD ws ns A), some (DMT (invM n E)), some (DT (ps.set g (ps.getD g 0 + 1))), z6, z7, z8, z9, z10, z11, z12, some (DT ps), some (DT ss), some (DT (toldQ n E ps)), some (DT (manyQ n E ss)), some (.int g), some (.int kk), z19, z20, z21, z22, z23, z24, z25] (Dr s5) = .ok (.nx [z0, some (.ref 1), some x, some (inD ws ns A), some (DMT (invM n E)), some (DT (ps.set g (ps.getD g 0 + 1))), some (DT (ss.set kk (ss.getD kk 0 + 1))), z7, z8, z9, z10, z11, z12, some (DT ps), some (DT ss), some (DT (toldQ n E ps)), some (DT (manyQ n E ss)), some (.int g), some (.int kk), z19, z20, z21, z22, z23, z24, z25]) (Dr s5) := by
      simp -implicitDefEqProofs only [runBody, denSs, denS.eq_1, denS.eq_2, denS.eq_3, denS.eq_4, denS.eq_5, denS.eq_6, denS.eq_7, denS.eq_8, denS.eq_9, denS.eq_10, denS.eq_13, denS.eq_14, denS.eq_15, denS.eq_16, denS.eq_17, d_for, d_whl, den.eq_1, den.eq_2, den.eq_3, den.eq_4, den.eq_5, den.eq_6, den.eq_7, den.eq_8, den.eq_9, den.eq_10, den.eq_11, den.eq_12, den.eq_13, den.eq_14, den.eq_15, den.eq_16, den.eq_17, den.eq_18, den.eq_19, den.eq_20, den.eq_21, den.eq_23, den.eq_24, den.eq_25, den.eq_26, den.eq_27, d_comp, denT, denEs, denEO, denC, denI, bind_ok, of_some, look_0, look_s, List.length_cons, List.length_nil, List.map_cons, List.map_nil, List.replicate, List.cons_append, List.nil_append, if_true, drf_int, drf_bl, drf_tup, drf_lst, drf_non, drf_str, drf_q, Ev.T.own, wipeE, setAll, dTru, dNeg, bindT, List.set_cons_zero, List.set_cons_succ, Option.map_some, rq_0, rq_1, Nat.reduceAdd, Nat.reduceSub, c3, c4, i2, one_q, p2, add_1, a3, a4]
    have zd : SzR 6 (ps.set g (ps.getD g 0 + 1)) := set_sz zps (sz_add zpg sz_1) (by omega)
    have zw : SzR 6 (ss.set kk (ss.getD kk 0 + 1)) := set_sz zss (sz_add zsk sz_1) (by omega)
    have ld : (ps.set g (ps.getD g 0 + 1)).length = n := by rw [List.length_set]; exact lps
    have lwd : (ss.set kk (ss.getD kk 0 + 1)).length = n := by rw [List.length_set]; exact lss
    have rw2 := r_rewards (k := k) (o := Dr s5) hG reg ld zd (by omega)
    have am2 := r_amounts (k := k) (o := Dr s5) hG reg lwd zw (by omega)
    have zt2 := told_sz n4 szI ld zd
    have zm2 := many_sz n4 szI lwd zw
    have i3 : dIdx (DT (toldQ n E (ps.set g (ps.getD g 0 + 1)))) (.int kk) (Dr s5) = _ := ix_T (by rw [ltq]; exact hk)
    have i4 : dIdx (DT (toldQ n E ps)) (.int kk) (Dr s5) = _ := ix_T (by rw [ltq]; exact hk)
    have i5 : dIdx (DT (manyQ n E (ss.set kk (ss.getD kk 0 + 1)))) (.int g) (Dr s5) = _ := ix_T (by rw [lmq]; exact hg)
    have i6 : dIdx (DT (manyQ n E ss)) (.int g) (Dr s5) = _ := ix_T (by rw [lmq]; exact hg)
    have zz1 : Sz _ ((toldQ n E (ps.set g (ps.getD g 0 + 1))).getD kk 0) := sz_getD zt2 (by rw [ltq]; exact hk)
    have zz2 : Sz _ ((toldQ n E ps).getD kk 0) := sz_getD zt (by rw [ltq]; exact hk)
    have zz3 : Sz _ ((manyQ n E (ss.set kk (ss.getD kk 0 + 1))).getD g 0) := sz_getD zm2 (by rw [lmq]; exact hg)
    have zz4 : Sz _ ((manyQ n E ss).getD g 0) := sz_getD zm (by rw [lmq]; exact hg)
    have m1 := s_law_minus (G := G) (o := Dr s5) (k := k + 5) zz1 zz2 (by omega) (gcd_sub zz1 zz2 (by omega))
    have m2 := s_law_minus (G := G) (o := Dr s5) (k := k + 5) zz3 zz4 (by omega) (gcd_sub zz3 zz4 (by omega))
    rw [law_2 lps hg hk] at m1
    rw [law_3 lss hg hk] at m2
    have x9 : denS (sem G fns (k + 7)) G (.asg (.one 7) (.call 12 (.cons (.idx (.call 14 (.cons (.var 3) (.cons (.var 5) .nil))) (.var 18)) (.cons (.idx (.var 15) (.var 18)) .nil)))) [z0, some (.ref 1), some x, some (inD ws ns A), some (DMT (invM n E)), some (DT (ps.set g (ps.getD g 0 + 1))), some (DT (ss.set kk (ss.getD kk 0 + 1))), z7, z8, z9, z10, z11, z12, some (DT ps), some (DT ss), some (DT (toldQ n E ps)), some (DT (manyQ n E ss)), some (.int g), some (.int kk), z19, z20, z21, z22, z23, z24, z25] (Dr s5) = .ok (.nx [z0, some (.ref 1), some x, some (inD ws ns A), some (DMT (invM n E)), some (DT (ps.set g (ps.getD g 0 + 1))), some (DT (ss.set kk (ss.getD kk 0 + 1))), some (Rq (E (unit g) kk)), z8, z9, z10, z11, z12, some (DT ps), some (DT ss), some (DT (toldQ n E ps)), some (DT (manyQ n E ss)), some (.int g), some (.int kk), z19, z20, z21, z22, z23, z24, z25]) (Dr s5) := by
      simp -implicitDefEqProofs only [runBody, denSs, denS.eq_1, denS.eq_2, denS.eq_3, denS.eq_4, denS.eq_5, denS.eq_6, denS.eq_7, denS.eq_8, denS.eq_9, denS.eq_10, denS.eq_13, denS.eq_14, denS.eq_15, denS.eq_16, denS.eq_17, d_for, d_whl, den.eq_1, den.eq_2, den.eq_3, den.eq_4, den.eq_5, den.eq_6, den.eq_7, den.eq_8, den.eq_9, den.eq_10, den.eq_11, den.eq_12, den.eq_13, den.eq_14, den.eq_15, den.eq_16, den.eq_17, den.eq_18, den.eq_19, den.eq_20, den.eq_21, den.eq_23, den.eq_24, den.eq_25, den.eq_26, den.eq_27, d_comp, denT, denEs, denEO, denC, denI, bind_ok, of_some, look_0, look_s, List.length_cons, List.length_nil, List.map_cons, List.map_nil, List.replicate, List.cons_append, List.nil_append, if_true, drf_int, drf_bl, drf_tup, drf_lst, drf_non, drf_str, drf_q, Ev.T.own, wipeE, setAll, dTru, dNeg, bindT, List.set_cons_zero, List.set_cons_succ, Option.map_some, rq_0, rq_1, Nat.reduceAdd, Nat.reduceSub, rw2, i3, i4, m1]
    have i7 : dIdx (DMT (invM n E)) (.int kk) (Dr s5) = _ := ix_MT (by rw [inv_len.1]; exact hk)
    have i8 : dIdx (DT ((invM n E).getD kk [])) (.int g) (Dr s5) = _ := ix_T (by rw [rect_row inv_len hk]; exact hg)
    rw [inv_ent hg hk] at i8
    have tb := r_turned (k := k) (o := Dr s5) hG reg
    have x10 : denS (sem G fns (k + 7)) G (.ite (.or (.cmp .ne (.var 7) (.idx (.idx (.var 4) (.var 18)) (.var 17))) (.or (.cmp .ne (.call 12 (.cons (.idx (.call 35 (.cons (.var 3) (.cons (.var 6) .nil))) (.var 17)) (.cons (.idx (.var 16) (.var 17)) .nil))) (.var 7)) (.cmp .ne (.idx (.idx (.call 39 (.cons (.var 3) .nil)) (.var 18)) (.var 17)) (.var 7)))) (.cons (.ret (.bl false)) .nil) .nil) [z0, some (.ref 1), some x, some (inD ws ns A), some (DMT (invM n E)), some (DT (ps.set g (ps.getD g 0 + 1))), some (DT (ss.set kk (ss.getD kk 0 + 1))), some (Rq (E (unit g) kk)), z8, z9, z10, z11, z12, some (DT ps), some (DT ss), some (DT (toldQ n E ps)), some (DT (manyQ n E ss)), some (.int g), some (.int kk), z19, z20, z21, z22, z23, z24, z25] (Dr s5) = .ok (.nx [z0, some (.ref 1), some x, some (inD ws ns A), some (DMT (invM n E)), some (DT (ps.set g (ps.getD g 0 + 1))), some (DT (ss.set kk (ss.getD kk 0 + 1))), some (Rq (E (unit g) kk)), z8, z9, z10, z11, z12, some (DT ps), some (DT ss), some (DT (toldQ n E ps)), some (DT (manyQ n E ss)), some (.int g), some (.int kk), z19, z20, z21, z22, z23, z24, z25]) (Dr s5) := by
      simp -implicitDefEqProofs only [runBody, denSs, denS.eq_1, denS.eq_2, denS.eq_3, denS.eq_4, denS.eq_5, denS.eq_6, denS.eq_7, denS.eq_8, denS.eq_9, denS.eq_10, denS.eq_13, denS.eq_14, denS.eq_15, denS.eq_16, denS.eq_17, d_for, d_whl, den.eq_1, den.eq_2, den.eq_3, den.eq_4, den.eq_5, den.eq_6, den.eq_7, den.eq_8, den.eq_9, den.eq_10, den.eq_11, den.eq_12, den.eq_13, den.eq_14, den.eq_15, den.eq_16, den.eq_17, den.eq_18, den.eq_19, den.eq_20, den.eq_21, den.eq_23, den.eq_24, den.eq_25, den.eq_26, den.eq_27, d_comp, denT, denEs, denEO, denC, denI, bind_ok, of_some, look_0, look_s, List.length_cons, List.length_nil, List.map_cons, List.map_nil, List.replicate, List.cons_append, List.nil_append, if_true, drf_int, drf_bl, drf_tup, drf_lst, drf_non, drf_str, drf_q, Ev.T.own, wipeE, setAll, dTru, dNeg, bindT, List.set_cons_zero, List.set_cons_succ, Option.map_some, rq_0, rq_1, Nat.reduceAdd, Nat.reduceSub, i7, i8, ne_same, hf, if_false, am2, i5, i6, m2, tb]
    obtain ⟨c, s6, e7, zc, r6⟩ := s_number (G := G) (k := k + 3) (s := s5) (size := 5) hn hn2 r5.ok (by omega) (by decide) (by decide)
    have t6 := r6.turn
    obtain ⟨ms, s7, e8, lms, zms, r7⟩ := num_comp (k := k + 3) (G := G) (ρ := [z0, some (.ref 1), some x, some (inD ws ns A), some (DMT (invM n E)), some (DT (ps.set g (ps.getD g 0 + 1))), some (DT (ss.set kk (ss.getD kk 0 + 1))), some (Rq (E (unit g) kk)), z8, z9, z10, z11, z12, some (DT ps), some (DT ss), some (DT (toldQ n E ps)), some (DT (manyQ n E ss)), some (.int g), some (.int kk), z19, z20, z21, z22, z23, z24, z25]) hn hn2 (fun _ => rfl) ns s6 r6.ok (by rw [ln]; omega)
    have t7 := r7.turn
    rw [ln] at lms t7
    have x11 : denS (sem G fns (k + 7)) G (.par 19 20 (.call 13 (.cons (.var 1) (.cons (.int 5) .nil))) (.bi .tuple (.cons (.comp (.call 13 (.cons (.var 1) (.cons (.int 9) .nil))) (.one 21) (.seq (.idx (.var 3) (.int 2))) .none) .nil))) [z0, some (.ref 1), some x, some (inD ws ns A), some (DMT (invM n E)), some (DT (ps.set g (ps.getD g 0 + 1))), some (DT (ss.set kk (ss.getD kk 0 + 1))), some (Rq (E (unit g) kk)), z8, z9, z10, z11, z12, some (DT ps), some (DT ss), some (DT (toldQ n E ps)), some (DT (manyQ n E ss)), some (.int g), some (.int kk), z19, z20, z21, z22, z23, z24, z25] (Dr s5) = .ok (.nx [z0, some (.ref 1), some x, some (inD ws ns A), some (DMT (invM n E)), some (DT (ps.set g (ps.getD g 0 + 1))), some (DT (ss.set kk (ss.getD kk 0 + 1))), some (Rq (E (unit g) kk)), z8, z9, z10, z11, z12, some (DT ps), some (DT ss), some (DT (toldQ n E ps)), some (DT (manyQ n E ss)), some (.int g), some (.int kk), some (Rq c), some (DT ms), z21, z22, z23, z24, z25]) (Dr s7) := by
      simp -implicitDefEqProofs only [runBody, denSs, denS.eq_1, denS.eq_2, denS.eq_3, denS.eq_4, denS.eq_5, denS.eq_6, denS.eq_7, denS.eq_8, denS.eq_9, denS.eq_10, denS.eq_13, denS.eq_14, denS.eq_15, denS.eq_16, denS.eq_17, d_for, d_whl, den.eq_1, den.eq_2, den.eq_3, den.eq_4, den.eq_5, den.eq_6, den.eq_7, den.eq_8, den.eq_9, den.eq_10, den.eq_11, den.eq_12, den.eq_13, den.eq_14, den.eq_15, den.eq_16, den.eq_17, den.eq_18, den.eq_19, den.eq_20, den.eq_21, den.eq_23, den.eq_24, den.eq_25, den.eq_26, den.eq_27, d_comp, denT, denEs, denEO, denC, denI, bind_ok, of_some, look_0, look_s, List.length_cons, List.length_nil, List.map_cons, List.map_nil, List.replicate, List.cons_append, List.nil_append, if_true, drf_int, drf_bl, drf_tup, drf_lst, drf_non, drf_str, drf_q, Ev.T.own, wipeE, setAll, dTru, dNeg, bindT, List.set_cons_zero, List.set_cons_succ, Option.map_some, rq_0, rq_1, Nat.reduceAdd, Nat.reduceSub, e7, ix_in2, seq_TS, e8, tup_T]
    have mc := mix_comp (k := k + 5) (G := G) (o := Dr s7) zc zps zms (by omega) (by omega) (ρ := [z0, some (.ref 1), some x, some (inD ws ns A), some (DMT (invM n E)), some (DT (ps.set g (ps.getD g 0 + 1))), some (DT (ss.set kk (ss.getD kk 0 + 1))), some (Rq (E (unit g) kk)), z8, z9, z10, z11, z12, some (DT ps), some (DT ss), some (DT (toldQ n E ps)), some (DT (manyQ n E ss)), some (.int g), some (.int kk), some (Rq c), some (DT ms), z21, z22, z23, z24, z25]) (fun _ _ => rfl) (fun _ _ => rfl) (fun _ _ => rfl)
    have x12 : denS (sem G fns (k + 7)) G (.asg (.one 8) (.bi .tuple (.cons (.comp (.call 38 (.cons (.var 22) (.cons (.call 8 (.cons (.var 19) (.cons (.var 11) .nil))) .nil))) (.many [22, 11]) (.zip (.var 13) (.var 20)) .none) .nil))) [z0, some (.ref 1), some x, some (inD ws ns A), some (DMT (invM n E)), some (DT (ps.set g (ps.getD g 0 + 1))), some (DT (ss.set kk (ss.getD kk 0 + 1))), some (Rq (E (unit g) kk)), z8, z9, z10, z11, z12, some (DT ps), some (DT ss), some (DT (toldQ n E ps)), some (DT (manyQ n E ss)), some (.int g), some (.int kk), some (Rq c), some (DT ms), z21, z22, z23, z24, z25] (Dr s7) = .ok (.nx [z0, some (.ref 1), some x, some (inD ws ns A), some (DMT (invM n E)), some (DT (ps.set g (ps.getD g 0 + 1))), some (DT (ss.set kk (ss.getD kk 0 + 1))), some (Rq (E (unit g) kk)), some (DT (mixQ c ps ms)), z9, z10, z11, z12, some (DT ps), some (DT ss), some (DT (toldQ n E ps)), some (DT (manyQ n E ss)), some (.int g), some (.int kk), some (Rq c), some (DT ms), z21, z22, z23, z24, z25]) (Dr s7) := by
      simp -implicitDefEqProofs only [runBody, denSs, denS.eq_1, denS.eq_2, denS.eq_3, denS.eq_4, denS.eq_5, denS.eq_6, denS.eq_7, denS.eq_8, denS.eq_9, denS.eq_10, denS.eq_13, denS.eq_14, denS.eq_15, denS.eq_16, denS.eq_17, d_for, d_whl, den.eq_1, den.eq_2, den.eq_3, den.eq_4, den.eq_5, den.eq_6, den.eq_7, den.eq_8, den.eq_9, den.eq_10, den.eq_11, den.eq_12, den.eq_13, den.eq_14, den.eq_15, den.eq_16, den.eq_17, den.eq_18, den.eq_19, den.eq_20, den.eq_21, den.eq_23, den.eq_24, den.eq_25, den.eq_26, den.eq_27, d_comp, denT, denEs, denEO, denC, denI, bind_ok, of_some, look_0, look_s, List.length_cons, List.length_nil, List.map_cons, List.map_nil, List.replicate, List.cons_append, List.nil_append, if_true, drf_int, drf_bl, drf_tup, drf_lst, drf_non, drf_str, drf_q, Ev.T.own, wipeE, setAll, dTru, dNeg, bindT, List.set_cons_zero, List.set_cons_succ, Option.map_some, rq_0, rq_1, Nat.reduceAdd, Nat.reduceSub, ls_DT, mc, tup_T]
    have zb := mix_sz zps zms zc
    have lb := mix_len (c := c) lps lms
    have rw3 := r_rewards (k := k) (o := Dr s7) hG reg lb zb (by omega)
    have rw4 := r_rewards (k := k) (o := Dr s7) hG reg lms zms (by omega)
    have zt4 := told_sz n4 szI lms zms
    rw [law_4 c lps lms] at rw3
    have mc2 := mix_comp (k := k + 5) (G := G) (o := Dr s7) zc zt zt4 (by omega) (by omega) (ρ := [z0, some (.ref 1), some x, some (inD ws ns A), some (DMT (invM n E)), some (DT (ps.set g (ps.getD g 0 + 1))), some (DT (ss.set kk (ss.getD kk 0 + 1))), some (Rq (E (unit g) kk)), some (DT (mixQ c ps ms)), z9, z10, z11, z12, some (DT ps), some (DT ss), some (DT (toldQ n E ps)), some (DT (manyQ n E ss)), some (.int g), some (.int kk), some (Rq c), some (DT ms), z21, z22, z23, z24, z25]) (fun _ _ => rfl) (fun _ _ => rfl) (fun _ _ => rfl)
    have x13 : denS (sem G fns (k + 7)) G (.ite (.cmp .ne (.call 14 (.cons (.var 3) (.cons (.var 8) .nil))) (.bi .tuple (.cons (.comp (.call 38 (.cons (.var 22) (.cons (.call 8 (.cons (.var 19) (.cons (.var 11) .nil))) .nil))) (.many [22, 11]) (.zip (.var 15) (.call 14 (.cons (.var 3) (.cons (.var 20) .nil)))) .none) .nil))) (.cons (.ret (.bl false)) .nil) .nil) [z0, some (.ref 1), some x, some (inD ws ns A), some (DMT (invM n E)), some (DT (ps.set g (ps.getD g 0 + 1))), some (DT (ss.set kk (ss.getD kk 0 + 1))), some (Rq (E (unit g) kk)), some (DT (mixQ c ps ms)), z9, z10, z11, z12, some (DT ps), some (DT ss), some (DT (toldQ n E ps)), some (DT (manyQ n E ss)), some (.int g), some (.int kk), some (Rq c), some (DT ms), z21, z22, z23, z24, z25] (Dr s7) = .ok (.nx [z0, some (.ref 1), some x, some (inD ws ns A), some (DMT (invM n E)), some (DT (ps.set g (ps.getD g 0 + 1))), some (DT (ss.set kk (ss.getD kk 0 + 1))), some (Rq (E (unit g) kk)), some (DT (mixQ c ps ms)), z9, z10, z11, z12, some (DT ps), some (DT ss), some (DT (toldQ n E ps)), some (DT (manyQ n E ss)), some (.int g), some (.int kk), some (Rq c), some (DT ms), z21, z22, z23, z24, z25]) (Dr s7) := by
      simp -implicitDefEqProofs only [runBody, denSs, denS.eq_1, denS.eq_2, denS.eq_3, denS.eq_4, denS.eq_5, denS.eq_6, denS.eq_7, denS.eq_8, denS.eq_9, denS.eq_10, denS.eq_13, denS.eq_14, denS.eq_15, denS.eq_16, denS.eq_17, d_for, d_whl, den.eq_1, den.eq_2, den.eq_3, den.eq_4, den.eq_5, den.eq_6, den.eq_7, den.eq_8, den.eq_9, den.eq_10, den.eq_11, den.eq_12, den.eq_13, den.eq_14, den.eq_15, den.eq_16, den.eq_17, den.eq_18, den.eq_19, den.eq_20, den.eq_21, den.eq_23, den.eq_24, den.eq_25, den.eq_26, den.eq_27, d_comp, denT, denEs, denEO, denC, denI, bind_ok, of_some, look_0, look_s, List.length_cons, List.length_nil, List.map_cons, List.map_nil, List.replicate, List.cons_append, List.nil_append, if_true, drf_int, drf_bl, drf_tup, drf_lst, drf_non, drf_str, drf_q, Ev.T.own, wipeE, setAll, dTru, dNeg, bindT, List.set_cons_zero, List.set_cons_succ, Option.map_some, rq_0, rq_1, Nat.reduceAdd, Nat.reduceSub, rw3, ls_DT, rw4, mc2, tup_T, ne_row, hf, if_false]
    obtain ⟨f, s8, e9, zf, f0, r8⟩ := s_ld (G := G) (k := k + 3) (s := s7) (top := 5) hn hn2 r7.ok (by omega) (by decide) (by decide)
    have t8 := r8.turn
    have hf0 : f ≠ 0 := fun z => by rw [z] at f0; exact absurd f0 (by decide)
    have x14 : denS (sem G fns (k + 7)) G (.asg (.one 9) (.call 40 (.cons (.var 1) (.cons (.int 5) .nil)))) [z0, some (.ref 1), some x, some (inD ws ns A), some (DMT (invM n E)), some (DT (ps.set g (ps.getD g 0 + 1))), some (DT (ss.set kk (ss.getD kk 0 + 1))), some (Rq (E (unit g) kk)), some (DT (mixQ c ps ms)), z9, z10, z11, z12, some (DT ps), some (DT ss), some (DT (toldQ n E ps)), some (DT (manyQ n E ss)), some (.int g), some (.int kk), some (Rq c), some (DT ms), z21, z22, z23, z24, z25] (Dr s7) = .ok (.nx [z0, some (.ref 1), some x, some (inD ws ns A), some (DMT (invM n E)), some (DT (ps.set g (ps.getD g 0 + 1))), some (DT (ss.set kk (ss.getD kk 0 + 1))), some (Rq (E (unit g) kk)), some (DT (mixQ c ps ms)), some (Rq f), z10, z11, z12, some (DT ps), some (DT ss), some (DT (toldQ n E ps)), some (DT (manyQ n E ss)), some (.int g), some (.int kk), some (Rq c), some (DT ms), z21, z22, z23, z24, z25]) (Dr s8) := by
      simp -implicitDefEqProofs only [runBody, denSs, denS.eq_1, denS.eq_2, denS.eq_3, denS.eq_4, denS.eq_5, denS.eq_6, denS.eq_7, denS.eq_8, denS.eq_9, denS.eq_10, denS.eq_13, denS.eq_14, denS.eq_15, denS.eq_16, denS.eq_17, d_for, d_whl, den.eq_1, den.eq_2, den.eq_3, den.eq_4, den.eq_5, den.eq_6, den.eq_7, den.eq_8, den.eq_9, den.eq_10, den.eq_11, den.eq_12, den.eq_13, den.eq_14, den.eq_15, den.eq_16, den.eq_17, den.eq_18, den.eq_19, den.eq_20, den.eq_21, den.eq_23, den.eq_24, den.eq_25, den.eq_26, den.eq_27, d_comp, denT, denEs, denEO, denC, denI, bind_ok, of_some, look_0, look_s, List.length_cons, List.length_nil, List.map_cons, List.map_nil, List.replicate, List.cons_append, List.nil_append, if_true, drf_int, drf_bl, drf_tup, drf_lst, drf_non, drf_str, drf_q, Ev.T.own, wipeE, setAll, dTru, dNeg, bindT, List.set_cons_zero, List.set_cons_succ, Option.map_some, rq_0, rq_1, Nat.reduceAdd, Nat.reduceSub, e9]
    have sc := scaled_comp (k := k + 5) (G := G) (o := Dr s8) (g := g) zf szA (by omega) (ρ := [z0, some (.ref 1), some x, some (inD ws ns A), some (DMT (invM n E)), some (DT (ps.set g (ps.getD g 0 + 1))), some (DT (ss.set kk (ss.getD kk 0 + 1))), some (Rq (E (unit g) kk)), some (DT (mixQ c ps ms)), some (Rq f), z10, z11, z12, some (DT ps), some (DT ss), some (DT (toldQ n E ps)), some (DT (manyQ n E ss)), some (.int g), some (.int kk), some (Rq c), some (DT ms), z21, z22, z23, z24, z25]) rfl rfl rfl
    have x15 : denS (sem G fns (k + 7)) G (.asg (.one 10) (.bi .tuple (.cons (.comp (.ite (.cmp .eq (.var 23) (.var 17)) (.bi .tuple (.cons (.comp (.call 8 (.cons (.var 9) (.cons (.var 25) .nil))) (.one 25) (.seq (.var 24)) .none) .nil)) (.var 24)) (.many [23, 24]) (.enu (.idx (.var 3) (.int 3))) .none) .nil))) [z0, some (.ref 1), some x, some (inD ws ns A), some (DMT (invM n E)), some (DT (ps.set g (ps.getD g 0 + 1))), some (DT (ss.set kk (ss.getD kk 0 + 1))), some (Rq (E (unit g) kk)), some (DT (mixQ c ps ms)), some (Rq f), z10, z11, z12, some (DT ps), some (DT ss), some (DT (toldQ n E ps)), some (DT (manyQ n E ss)), some (.int g), some (.int kk), some (Rq c), some (DT ms), z21, z22, z23, z24, z25] (Dr s8) = .ok (.nx [z0, some (.ref 1), some x, some (inD ws ns A), some (DMT (invM n E)), some (DT (ps.set g (ps.getD g 0 + 1))), some (DT (ss.set kk (ss.getD kk 0 + 1))), some (Rq (E (unit g) kk)), some (DT (mixQ c ps ms)), some (Rq f), some (DMT (scaled g f A)), z11, z12, some (DT ps), some (DT ss), some (DT (toldQ n E ps)), some (DT (manyQ n E ss)), some (.int g), some (.int kk), some (Rq c), some (DT ms), z21, z22, z23, z24, z25]) (Dr s8) := by
      simp -implicitDefEqProofs only [runBody, denSs, denS.eq_1, denS.eq_2, denS.eq_3, denS.eq_4, denS.eq_5, denS.eq_6, denS.eq_7, denS.eq_8, denS.eq_9, denS.eq_10, denS.eq_13, denS.eq_14, denS.eq_15, denS.eq_16, denS.eq_17, d_for, d_whl, den.eq_1, den.eq_2, den.eq_3, den.eq_4, den.eq_5, den.eq_6, den.eq_7, den.eq_8, den.eq_9, den.eq_10, den.eq_11, den.eq_12, den.eq_13, den.eq_14, den.eq_15, den.eq_16, den.eq_17, den.eq_18, den.eq_19, den.eq_20, den.eq_21, den.eq_23, den.eq_24, den.eq_25, den.eq_26, den.eq_27, d_comp, denT, denEs, denEO, denC, denI, bind_ok, of_some, look_0, look_s, List.length_cons, List.length_nil, List.map_cons, List.map_nil, List.replicate, List.cons_append, List.nil_append, if_true, drf_int, drf_bl, drf_tup, drf_lst, drf_non, drf_str, drf_q, Ev.T.own, wipeE, setAll, dTru, dNeg, bindT, List.set_cons_zero, List.set_cons_succ, Option.map_some, rq_0, rq_1, Nat.reduceAdd, Nat.reduceSub, ix_in3, ls_T, sc, tup_MT]
    have x16 : denS (sem G fns (k + 7)) G (.asg (.one 11) (.bin .add (.slc (.var 3) .none (.some (.int 3))) (.tup (.cons (.var 10) .nil)))) [z0, some (.ref 1), some x, some (inD ws ns A), some (DMT (invM n E)), some (DT (ps.set g (ps.getD g 0 + 1))), some (DT (ss.set kk (ss.getD kk 0 + 1))), some (Rq (E (unit g) kk)), some (DT (mixQ c ps ms)), some (Rq f), some (DMT (scaled g f A)), z11, z12, some (DT ps), some (DT ss), some (DT (toldQ n E ps)), some (DT (manyQ n E ss)), some (.int g), some (.int kk), some (Rq c), some (DT ms), z21, z22, z23, z24, z25] (Dr s8) = .ok (.nx [z0, some (.ref 1), some x, some (inD ws ns A), some (DMT (invM n E)), some (DT (ps.set g (ps.getD g 0 + 1))), some (DT (ss.set kk (ss.getD kk 0 + 1))), some (Rq (E (unit g) kk)), some (DT (mixQ c ps ms)), some (Rq f), some (DMT (scaled g f A)), some (inD ws ns (scaled g f A)), z12, some (DT ps), some (DT ss), some (DT (toldQ n E ps)), some (DT (manyQ n E ss)), some (.int g), some (.int kk), some (Rq c), some (DT ms), z21, z22, z23, z24, z25]) (Dr s8) := by
      simp -implicitDefEqProofs only [runBody, denSs, denS.eq_1, denS.eq_2, denS.eq_3, denS.eq_4, denS.eq_5, denS.eq_6, denS.eq_7, denS.eq_8, denS.eq_9, denS.eq_10, denS.eq_13, denS.eq_14, denS.eq_15, denS.eq_16, denS.eq_17, d_for, d_whl, den.eq_1, den.eq_2, den.eq_3, den.eq_4, den.eq_5, den.eq_6, den.eq_7, den.eq_8, den.eq_9, den.eq_10, den.eq_11, den.eq_12, den.eq_13, den.eq_14, den.eq_15, den.eq_16, den.eq_17, den.eq_18, den.eq_19, den.eq_20, den.eq_21, den.eq_23, den.eq_24, den.eq_25, den.eq_26, den.eq_27, d_comp, denT, denEs, denEO, denC, denI, bind_ok, of_some, look_0, look_s, List.length_cons, List.length_nil, List.map_cons, List.map_nil, List.replicate, List.cons_append, List.nil_append, if_true, drf_int, drf_bl, drf_tup, drf_lst, drf_non, drf_str, drf_q, Ev.T.own, wipeE, setAll, dTru, dNeg, bindT, List.set_cons_zero, List.set_cons_succ, Option.map_some, rq_0, rq_1, Nat.reduceAdd, Nat.reduceSub, in_cut, in_add]
    have q1 := s_law_times (G := G) (o := Dr s8) (k := k + 5) zf zpg (by omega)
    have i9 : dIdx (DT ps) (.int g) (Dr s8) = _ := ix_T (by omega)
    have a5 := add_T1 (x := ps.take g) (q := f * ps.getD g 0) (by rw [List.length_take]; omega)
    have a6 := add_T (x := ps.take g ++ [f * ps.getD g 0]) (y := ps.drop (g + 1)) (by simp -implicitDefEqProofs only [List.length_append, List.length_take, List.length_drop, List.length_cons, List.length_nil]; omega)
    rw [set_T (by omega)] at a6
    have x17 : denS (sem G fns (k + 7)) G (.asg (.one 5) (.bin .add (.bin .add (.slc (.var 13) .none (.some (.var 17))) (.tup (.cons (.call 8 (.cons (.var 9) (.cons (.idx (.var 13) (.var 17)) .nil))) .nil))) (.slc (.var 13) (.some (.bin .add (.var 17) (.int 1))) .none))) [z0, some (.ref 1), some x, some (inD ws ns A), some (DMT (invM n E)), some (DT (ps.set g (ps.getD g 0 + 1))), some (DT (ss.set kk (ss.getD kk 0 + 1))), some (Rq (E (unit g) kk)), some (DT (mixQ c ps ms)), some (Rq f), some (DMT (scaled g f A)), some (inD ws ns (scaled g f A)), z12, some (DT ps), some (DT ss), some (DT (toldQ n E ps)), some (DT (manyQ n E ss)), some (.int g), some (.int kk), some (Rq c), some (DT ms), z21, z22, z23, z24, z25] (Dr s8) = .ok (.nx [z0, some (.ref 1), some x, some (inD ws ns A), some (DMT (invM n E)), some (DT (ps.set g (f * ps.getD g 0))), some (DT (ss.set kk (ss.getD kk 0 + 1))), some (Rq (E (unit g) kk)), some (DT (mixQ c ps ms)), some (Rq f), some (DMT (scaled g f A)), some (inD ws ns (scaled g f A)), z12, some (DT ps), some (DT ss), some (DT (toldQ n E ps)), some (DT (manyQ n E ss)), some (.int g), some (.int kk), some (Rq c), some (DT ms), z21, z22, z23, z24, z25]) (Dr s8) := by
      simp -implicitDefEqProofs only [runBody, denSs, denS.eq_1, denS.eq_2, denS.eq_3, denS.eq_4, denS.eq_5, denS.eq_6, denS.eq_7, denS.eq_8, denS.eq_9, denS.eq_10, denS.eq_13, denS.eq_14, denS.eq_15, denS.eq_16, denS.eq_17, d_for, d_whl, den.eq_1, den.eq_2, den.eq_3, den.eq_4, den.eq_5, den.eq_6, den.eq_7, den.eq_8, den.eq_9, den.eq_10, den.eq_11, den.eq_12, den.eq_13, den.eq_14, den.eq_15, den.eq_16, den.eq_17, den.eq_18, den.eq_19, den.eq_20, den.eq_21, den.eq_23, den.eq_24, den.eq_25, den.eq_26, den.eq_27, d_comp, denT, denEs, denEO, denC, denI, bind_ok, of_some, look_0, look_s, List.length_cons, List.length_nil, List.map_cons, List.map_nil, List.replicate, List.cons_append, List.nil_append, if_true, drf_int, drf_bl, drf_tup, drf_lst, drf_non, drf_str, drf_q, Ev.T.own, wipeE, setAll, dTru, dNeg, bindT, List.set_cons_zero, List.set_cons_succ, Option.map_some, rq_0, rq_1, Nat.reduceAdd, Nat.reduceSub, c1, c2, i9, q1, add_1, a5, a6]
    have fc := few_comp (k := k + 5) (G := G) (o := Dr s8) (g := g) zf hf0 zm (by omega) (ρ := [z0, some (.ref 1), some x, some (inD ws ns A), some (DMT (invM n E)), some (DT (ps.set g (f * ps.getD g 0))), some (DT (ss.set kk (ss.getD kk 0 + 1))), some (Rq (E (unit g) kk)), some (DT (mixQ c ps ms)), some (Rq f), some (DMT (scaled g f A)), some (inD ws ns (scaled g f A)), z12, some (DT ps), some (DT ss), some (DT (toldQ n E ps)), some (DT (manyQ n E ss)), some (.int g), some (.int kk), some (Rq c), some (DT ms), z21, z22, z23, z24, z25]) (fun _ _ => rfl) (fun _ _ => rfl) (fun _ _ => rfl) (fun _ _ => rfl)
    have x18 : denS (sem G fns (k + 7)) G (.asg (.one 12) (.bi .tuple (.cons (.comp (.ite (.cmp .eq (.var 23) (.var 17)) (.call 11 (.cons (.var 25) (.cons (.var 9) .nil))) (.var 25)) (.many [23, 25]) (.enu (.var 16)) .none) .nil))) [z0, some (.ref 1), some x, some (inD ws ns A), some (DMT (invM n E)), some (DT (ps.set g (f * ps.getD g 0))), some (DT (ss.set kk (ss.getD kk 0 + 1))), some (Rq (E (unit g) kk)), some (DT (mixQ c ps ms)), some (Rq f), some (DMT (scaled g f A)), some (inD ws ns (scaled g f A)), z12, some (DT ps), some (DT ss), some (DT (toldQ n E ps)), some (DT (manyQ n E ss)), some (.int g), some (.int kk), some (Rq c), some (DT ms), z21, z22, z23, z24, z25] (Dr s8) = .ok (.nx [z0, some (.ref 1), some x, some (inD ws ns A), some (DMT (invM n E)), some (DT (ps.set g (f * ps.getD g 0))), some (DT (ss.set kk (ss.getD kk 0 + 1))), some (Rq (E (unit g) kk)), some (DT (mixQ c ps ms)), some (Rq f), some (DMT (scaled g f A)), some (inD ws ns (scaled g f A)), some (DT (fewQ g f (manyQ n E ss))), some (DT ps), some (DT ss), some (DT (toldQ n E ps)), some (DT (manyQ n E ss)), some (.int g), some (.int kk), some (Rq c), some (DT ms), z21, z22, z23, z24, z25]) (Dr s8) := by
      simp -implicitDefEqProofs only [runBody, denSs, denS.eq_1, denS.eq_2, denS.eq_3, denS.eq_4, denS.eq_5, denS.eq_6, denS.eq_7, denS.eq_8, denS.eq_9, denS.eq_10, denS.eq_13, denS.eq_14, denS.eq_15, denS.eq_16, denS.eq_17, d_for, d_whl, den.eq_1, den.eq_2, den.eq_3, den.eq_4, den.eq_5, den.eq_6, den.eq_7, den.eq_8, den.eq_9, den.eq_10, den.eq_11, den.eq_12, den.eq_13, den.eq_14, den.eq_15, den.eq_16, den.eq_17, den.eq_18, den.eq_19, den.eq_20, den.eq_21, den.eq_23, den.eq_24, den.eq_25, den.eq_26, den.eq_27, d_comp, denT, denEs, denEO, denC, denI, bind_ok, of_some, look_0, look_s, List.length_cons, List.length_nil, List.map_cons, List.map_nil, List.replicate, List.cons_append, List.nil_append, if_true, drf_int, drf_bl, drf_tup, drf_lst, drf_non, drf_str, drf_q, Ev.T.own, wipeE, setAll, dTru, dNeg, bindT, List.set_cons_zero, List.set_cons_succ, Option.map_some, rq_0, rq_1, Nat.reduceAdd, Nat.reduceSub, ls_DT, fc, tup_T]
    obtain ⟨E', reg', hE'⟩ := scaled_reg reg f0 zf hg
    have zd2 : SzR 7 (ps.set g (f * ps.getD g 0)) := set_sz zps (sz_mul zf zpg) (by omega)
    have ld2 : (ps.set g (f * ps.getD g 0)).length = n := by rw [List.length_set]; exact lps
    have rw5 := r_rewards (k := k) (o := Dr s8) hG reg' ld2 zd2 (by omega)
    have am5 := r_amounts (k := k) (o := Dr s8) hG reg' lss zss (by omega)
    rw [law_5 hf0 lps hg hE'] at rw5
    rw [law_6 hf0 hE'] at am5
    have x19 : denS (sem G fns (k + 7)) G (.ite (.or (.cmp .ne (.call 14 (.cons (.var 11) (.cons (.var 5) .nil))) (.var 15)) (.cmp .ne (.call 35 (.cons (.var 11) (.cons (.var 14) .nil))) (.var 12))) (.cons (.ret (.bl false)) .nil) .nil) [z0, some (.ref 1), some x, some (inD ws ns A), some (DMT (invM n E)), some (DT (ps.set g (f * ps.getD g 0))), some (DT (ss.set kk (ss.getD kk 0 + 1))), some (Rq (E (unit g) kk)), some (DT (mixQ c ps ms)), some (Rq f), some (DMT (scaled g f A)), some (inD ws ns (scaled g f A)), some (DT (fewQ g f (manyQ n E ss))), some (DT ps), some (DT ss), some (DT (toldQ n E ps)), some (DT (manyQ n E ss)), some (.int g), some (.int kk), some (Rq c), some (DT ms), z21, z22, z23, z24, z25] (Dr s8) = .ok (.nx [z0, some (.ref 1), some x, some (inD ws ns A), some (DMT (invM n E)), some (DT (ps.set g (f * ps.getD g 0))), some (DT (ss.set kk (ss.getD kk 0 + 1))), some (Rq (E (unit g) kk)), some (DT (mixQ c ps ms)), some (Rq f), some (DMT (scaled g f A)), some (inD ws ns (scaled g f A)), some (DT (fewQ g f (manyQ n E ss))), some (DT ps), some (DT ss), some (DT (toldQ n E ps)), some (DT (manyQ n E ss)), some (.int g), some (.int kk), some (Rq c), some (DT ms), z21, z22, z23, z24, z25]) (Dr s8) := by
      simp -implicitDefEqProofs only [runBody, denSs, denS.eq_1, denS.eq_2, denS.eq_3, denS.eq_4, denS.eq_5, denS.eq_6, denS.eq_7, denS.eq_8, denS.eq_9, denS.eq_10, denS.eq_13, denS.eq_14, denS.eq_15, denS.eq_16, denS.eq_17, d_for, d_whl, den.eq_1, den.eq_2, den.eq_3, den.eq_4, den.eq_5, den.eq_6, den.eq_7, den.eq_8, den.eq_9, den.eq_10, den.eq_11, den.eq_12, den.eq_13, den.eq_14, den.eq_15, den.eq_16, den.eq_17, den.eq_18, den.eq_19, den.eq_20, den.eq_21, den.eq_23, den.eq_24, den.eq_25, den.eq_26, den.eq_27, d_comp, denT, denEs, denEO, denC, denI, bind_ok, of_some, look_0, look_s, List.length_cons, List.length_nil, List.map_cons, List.map_nil, List.replicate, List.cons_append, List.nil_append, if_true, drf_int, drf_bl, drf_tup, drf_lst, drf_non, drf_str, drf_q, Ev.T.own, wipeE, setAll, dTru, dNeg, bindT, List.set_cons_zero, List.set_cons_succ, Option.map_some, rq_0, rq_1, Nat.reduceAdd, Nat.reduceSub, rw5, am5, ne_row, hf, if_false]
    rw [ss_nx x1, ss_nx x2, ss_nx x3, ss_nx x4, ss_nx x5, ss_nx x6, ss_nx x7, ss_nx x8, ss_nx x9, ss_nx x10, ss_nx x11, ss_nx x12, ss_nx x13, ss_nx x14, ss_nx x15, ss_nx x16, ss_nx x17, ss_nx x18, ss_nx x19]
    exact ⟨_, _, _, _, _, _, _, _, _, _, _, _, _, _, _, _, _, _, _, _, _, _, _, _, s8, .inl rfl, (r1.trans (r2.trans (r3.trans (r4.trans (r5.trans (r6.trans (r7.trans r8))))))).mono (by rw [ln, lw]; omega)⟩
end K60

namespace K60
open PySem Ev
variable {F : Fs} {G : Gs} {o : Os} {k : Nat}
theorem law_turns {nb : Nat} {z0 : Option D} (hn : 64 ≤ nb) (hn2 : nb + 40 < 900000) (hG : GOk G) : ∀ (l : List D) (s : DS) (z2 z3 z4 z5 z6 z7 z8 z9 z10 z11 z12 z13 z14 z15 z16 z17 z18 z19 z20 z21 z22 z23 z24 z25 : Option D), s.Ok → s.turn + (100000000000000000000000001000 * l.length : Nat) < 2 ^ nb →
    ∃ (y2 y3 y4 y5 y6 y7 y8 y9 y10 y11 y12 y13 y14 y15 y16 y17 y18 y19 y20 y21 y22 y23 y24 y25 : Option D) (s' : DS), forLoop (forG (sem G fns (k + 7)) G (.one 2) lawB) l [z0, some (.ref 1), z2, z3, z4, z5, z6, z7, z8, z9, z10, z11, z12, z13, z14, z15, z16, z17, z18, z19, z20, z21, z22, z23, z24, z25] (Dr s) = .ok (.nx [z0, some (.ref 1), y2, y3, y4, y5, y6, y7, y8, y9, y10, y11, y12, y13, y14, y15, y16, y17, y18, y19, y20, y21, y22, y23, y24, y25]) (Dr s')
  | [], s, z2, z3, z4, z5, z6, z7, z8, z9, z10, z11, z12, z13, z14, z15, z16, z17, z18, z19, z20, z21, z22, z23, z24, z25, _, _ => ⟨z2, z3, z4, z5, z6, z7, z8, z9, z10, z11, z12, z13, z14, z15, z16, z17, z18, z19, z20, z21, z22, z23, z24, z25, s, rfl⟩
  | x :: l, s, z2, z3, z4, z5, z6, z7, z8, z9, z10, z11, z12, z13, z14, z15, z16, z17, z18, z19, z20, z21, z22, z23, z24, z25, hs, ht => by
    rw [List.length_cons] at ht
    obtain ⟨y2, y3, y4, y5, y6, y7, y8, y9, y10, y11, y12, y13, y14, y15, y16, y17, y18, y19, y20, y21, y22, y23, y24, y25, s1, h, r⟩ := law_turn (k := k) (nb := nb) hn hn2 hG x z0 z2 z3 z4 z5 z6 z7 z8 z9 z10 z11 z12 z13 z14 z15 z16 z17 z18 z19 z20 z21 z22 z23 z24 z25 hs (by omega)
    have tr := r.turn
    obtain ⟨x2, x3, x4, x5, x6, x7, x8, x9, x10, x11, x12, x13, x14, x15, x16, x17, x18, x19, x20, x21, x22, x23, x24, x25, s2, h2⟩ := law_turns (z0 := z0) hn hn2 hG l s1 y2 y3 y4 y5 y6 y7 y8 y9 y10 y11 y12 y13 y14 y15 y16 y17 y18 y19 y20 y21 y22 y23 y24 y25 r.ok (by omega)
    rcases h with h | h
    · exact ⟨x2, x3, x4, x5, x6, x7, x8, x9, x10, x11, x12, x13, x14, x15, x16, x17, x18, x19, x20, x21, x22, x23, x24, x25, s2, by rw [for_nx h]; exact h2⟩
    · exact ⟨x2, x3, x4, x5, x6, x7, x8, x9, x10, x11, x12, x13, x14, x15, x16, x17, x18, x19, x20, x21, x22, x23, x24, x25, s2, by rw [for_ct h]; exact h2⟩
theorem k60_pure {ns : List Int} (hG : GOk G) (h : ns.length ≤ 63) : ∃ o', sem G fns (k + 8) 0 [.scr (ns.map .int)] [] = .ok (.bl true) o' := by
  have e1 := s_begun (G := G) (k := k + 6) ns
  have hs := beg_ok h
  have ht : (begDS ns).turn = 0 := rfl
  have a1 : denS (sem G fns (k + 7)) G (.asg (.one 1) (.call 1 (.cons (.var 0) .nil))) [some (.scr (ns.map .int)), none, none, none, none, none, none, none, none, none, none, none, none, none, none, none, none, none, none, none, none, none, none, none, none, none] [] = .ok (.nx [some (.scr (ns.map .int)), some (.ref 1), none, none, none, none, none, none, none, none, none, none, none, none, none, none, none, none, none, none, none, none, none, none, none, none]) (Dr (begDS ns)) := by
    simp -implicitDefEqProofs only [runBody, denSs, denS.eq_1, denS.eq_2, denS.eq_3, denS.eq_4, denS.eq_5, denS.eq_6, denS.eq_7, denS.eq_8, denS.eq_9, denS.eq_10, denS.eq_13, denS.eq_14, denS.eq_15, denS.eq_16, denS.eq_17, d_for, d_whl, den.eq_1, den.eq_2, den.eq_3, den.eq_4, den.eq_5, den.eq_6, den.eq_7, den.eq_8, den.eq_9, den.eq_10, den.eq_11, den.eq_12, den.eq_13, den.eq_14, den.eq_15, den.eq_16, den.eq_17, den.eq_18, den.eq_19, den.eq_20, den.eq_21, den.eq_23, den.eq_24, den.eq_25, den.eq_26, den.eq_27, d_comp, denT, denEs, denEO, denC, denI, bind_ok, of_some, look_0, look_s, List.length_cons, List.length_nil, List.map_cons, List.map_nil, List.replicate, List.cons_append, List.nil_append, if_true, drf_int, drf_bl, drf_tup, drf_lst, drf_non, drf_str, drf_q, Ev.T.own, wipeE, setAll, dTru, dNeg, bindT, List.set_cons_zero, List.set_cons_succ, Option.map_some, rq_0, rq_1, Nat.reduceAdd, Nat.reduceSub, e1]
  obtain ⟨m, hm, hm2⟩ : ∃ m : Nat, m ≤ 6 ∧ dBi .min [.int ns.length, .int 6] = some (.int m) := by
    by_cases c : (6 : Int) < ns.length
    · exact ⟨6, by omega, by show some (D.int (if (6 : Int) < ns.length then 6 else ns.length)) = _; rw [if_pos c]; rfl⟩
    · exact ⟨ns.length, by omega, by show some (D.int (if (6 : Int) < ns.length then 6 else ns.length)) = _; rw [if_neg c]⟩
  have hl : dBi .len [.scr (ns.map .int)] = some (.int ns.length) := by
    show some (D.int ((ns.map D.int).length : Nat)) = _
    rw [List.length_map]
  have hb : dBin .add (.int 5) (.int m) = some (.int ((5 + m : Nat) : Int)) := by
    show some (D.int (5 + (m : Int))) = _
    rw [show (5 + (m : Int)) = ((5 + m : Nat) : Int) by omega]
  have hr : rngOk 0 ((5 + m : Nat) : Int) = true := rng_ok (a := 0) (n := 5 + m) (by omega) (by omega)
  obtain ⟨y2, y3, y4, y5, y6, y7, y8, y9, y10, y11, y12, y13, y14, y15, y16, y17, y18, y19, y20, y21, y22, y23, y24, y25, s2, h2⟩ := law_turns (k := k) (nb := 200) (z0 := some (.scr (ns.map .int))) (by decide) (by decide) hG (dRng 0 ((5 + m : Nat) : Int)) (begDS ns) none none none none none none none none none none none none none none none none none none none none none none none none hs (by
    rw [rng_0, List.length_map, List.length_range', ht]
    omega)
  have a2 : denS (sem G fns (k + 7)) G (.for (.one 2) (.rng1 (.bin .add (.int 5) (.bi .min (.cons (.bi .len (.cons (.var 0) .nil)) (.cons (.int 6) .nil))))) lawB) [some (.scr (ns.map .int)), some (.ref 1), none, none, none, none, none, none, none, none, none, none, none, none, none, none, none, none, none, none, none, none, none, none, none, none] (Dr (begDS ns)) = .ok (.nx [some (.scr (ns.map .int)), some (.ref 1), y2, y3, y4, y5, y6, y7, y8, y9, y10, y11, y12, y13, y14, y15, y16, y17, y18, y19, y20, y21, y22, y23, y24, y25]) (Dr s2) := by
    simp -implicitDefEqProofs only [runBody, denSs, denS.eq_1, denS.eq_2, denS.eq_3, denS.eq_4, denS.eq_5, denS.eq_6, denS.eq_7, denS.eq_8, denS.eq_9, denS.eq_10, denS.eq_13, denS.eq_14, denS.eq_15, denS.eq_16, denS.eq_17, d_for, d_whl, den.eq_1, den.eq_2, den.eq_3, den.eq_4, den.eq_5, den.eq_6, den.eq_7, den.eq_8, den.eq_9, den.eq_10, den.eq_11, den.eq_12, den.eq_13, den.eq_14, den.eq_15, den.eq_16, den.eq_17, den.eq_18, den.eq_19, den.eq_20, den.eq_21, den.eq_23, den.eq_24, den.eq_25, den.eq_26, den.eq_27, d_comp, denT, denEs, denEO, denC, denI, bind_ok, of_some, look_0, look_s, List.length_cons, List.length_nil, List.map_cons, List.map_nil, List.replicate, List.cons_append, List.nil_append, if_true, drf_int, drf_bl, drf_tup, drf_lst, drf_non, drf_str, drf_q, Ev.T.own, wipeE, setAll, dTru, dNeg, bindT, List.set_cons_zero, List.set_cons_succ, Option.map_some, rq_0, rq_1, Nat.reduceAdd, Nat.reduceSub, hl, hm2, hb, hr, if_true]
    exact h2
  have hbody : f_law.body = .cons (.asg (.one 1) (.call 1 (.cons (.var 0) .nil))) (.cons (.for (.one 2) (.rng1 (.bin .add (.int 5) (.bi .min (.cons (.bi .len (.cons (.var 0) .nil)) (.cons (.int 6) .nil))))) lawB) (.cons (.ret (.bl true)) .nil)) := rfl
  have hrun : ∀ r, (denSs (sem G fns (k + 7)) G f_law.body [some (.scr (ns.map .int)), none, none, none, none, none, none, none, none, none, none, none, none, none, none, none, none, none, none, none, none, none, none, none, none, none] []) = r → runBody (sem G fns (k + 7)) G f_law [.scr (ns.map .int)] [] = r.bind fun r o => match r with
    | .nx _ => .ok .non o
    | .ct _ => .bad
    | .ret d => .ok d o := fun r h => by
      rw [← h]; rfl
  refine ⟨Dr s2, ?_⟩
  rw [sem_succ f_law rfl, hrun _ rfl, hbody, ss_nx a1, ss_nx a2]
  rfl
end K60

namespace K60
open PySem PySem.Spec PyProof.Rows L2 Ev
def top (i : Nat) : Stmt := PySem.Challenge.pw_goodsbygoods_k60_whole_rewards_and_amoun.main.body.getD i (.Pass ⟨0, 0, 0, 0⟩)
def defs : List Ev.Dd := [⟨f_law, top 59⟩, ⟨f__law_begun, top 42⟩, ⟨f__law_in_inputs, top 57⟩, ⟨f__law_words, top 52⟩, ⟨f__law_draw, top 44⟩, ⟨f__law_blended, top 43⟩, ⟨f__law_pick, top 45⟩, ⟨f__law_q, top 46⟩, ⟨f__law_times, top 49⟩, ⟨f__law_in_known, top 58⟩, ⟨f__law_solved, top 55⟩, ⟨f__law_over, top 50⟩, ⟨f__law_minus, top 48⟩, ⟨f__law_number, top 53⟩, ⟨f_rewards, top 39⟩, ⟨f_need_square, top 32⟩, ⟨f_need_inputs, top 31⟩, ⟨f_is_inputs, top 30⟩, ⟨f_are_names, top 23⟩, ⟨f_is_word, top 21⟩, ⟨f_are_parts, top 24⟩, ⟨f_is_ratio, top 12⟩, ⟨f_is_whole, top 11⟩, ⟨f_need_any_prices, top 38⟩, ⟨f_are_ratios, top 33⟩, ⟨f_need_regular, top 36⟩, ⟨f_inverse_of, top 35⟩, ⟨f_over, top 17⟩, ⟨f_lowest, top 13⟩, ⟨f_cleared_of, top 34⟩, ⟨f_minus, top 15⟩, ⟨f_times, top 16⟩, ⟨f_dot, top 26⟩, ⟨f_total, top 18⟩, ⟨f_plus, top 14⟩, ⟨f_amounts, top 40⟩, ⟨f__law_dot, top 54⟩, ⟨f__law_sum, top 51⟩, ⟨f__law_plus, top 47⟩, ⟨f_turned_back, top 37⟩, ⟨f__law_ld_amount, top 56⟩]
abbrev TB : Ev.Tab := Ev.tabE defs gl true

theorem chk_all : (defs.all fun d => chkFn TB d) = true := by decide +kernel
theorem bd_law : BindsOk ⟨f_law, top 59⟩ := fun _ _ _ _ _ _ us hl => match us, hl with | [_], _ => rfl
theorem bd__law_begun : BindsOk ⟨f__law_begun, top 42⟩ := fun _ _ _ _ _ _ us hl => match us, hl with | [_], _ => rfl
theorem bd__law_in_inputs : BindsOk ⟨f__law_in_inputs, top 57⟩ := fun _ _ _ _ _ _ us hl => match us, hl with | [_, _], _ => rfl
theorem bd__law_words : BindsOk ⟨f__law_words, top 52⟩ := fun _ _ _ _ _ _ us hl => match us, hl with | [_, _], _ => rfl
theorem bd__law_draw : BindsOk ⟨f__law_draw, top 44⟩ := fun _ _ _ _ _ _ us hl => match us, hl with | [_, _], _ => rfl
theorem bd__law_blended : BindsOk ⟨f__law_blended, top 43⟩ := fun _ _ _ _ _ _ us hl => match us, hl with | [_], _ => rfl
theorem bd__law_pick : BindsOk ⟨f__law_pick, top 45⟩ := fun _ _ _ _ _ _ us hl => match us, hl with | [_, _], _ => rfl
theorem bd__law_q : BindsOk ⟨f__law_q, top 46⟩ := fun _ _ _ _ _ _ us hl => match us, hl with | [_, _], _ => rfl
theorem bd__law_times : BindsOk ⟨f__law_times, top 49⟩ := fun _ _ _ _ _ _ us hl => match us, hl with | [_, _], _ => rfl
theorem bd__law_in_known : BindsOk ⟨f__law_in_known, top 58⟩ := fun _ _ _ _ _ _ us hl => match us, hl with | [_], _ => rfl
theorem bd__law_solved : BindsOk ⟨f__law_solved, top 55⟩ := fun _ _ _ _ _ _ us hl => match us, hl with | [_, _], _ => rfl
theorem bd__law_over : BindsOk ⟨f__law_over, top 50⟩ := fun _ _ _ _ _ _ us hl => match us, hl with | [_, _], _ => rfl
theorem bd__law_minus : BindsOk ⟨f__law_minus, top 48⟩ := fun _ _ _ _ _ _ us hl => match us, hl with | [_, _], _ => rfl
theorem bd__law_number : BindsOk ⟨f__law_number, top 53⟩ := fun _ _ _ _ _ _ us hl => match us, hl with | [_, _], _ => rfl
theorem bd_rewards : BindsOk ⟨f_rewards, top 39⟩ := fun _ _ _ _ _ _ us hl => match us, hl with | [_, _], _ => rfl
theorem bd_need_square : BindsOk ⟨f_need_square, top 32⟩ := fun _ _ _ _ _ _ us hl => match us, hl with | [_], _ => rfl
theorem bd_need_inputs : BindsOk ⟨f_need_inputs, top 31⟩ := fun _ _ _ _ _ _ us hl => match us, hl with | [_], _ => rfl
theorem bd_is_inputs : BindsOk ⟨f_is_inputs, top 30⟩ := fun _ _ _ _ _ _ us hl => match us, hl with | [_], _ => rfl
theorem bd_are_names : BindsOk ⟨f_are_names, top 23⟩ := fun _ _ _ _ _ _ us hl => match us, hl with | [_, _], _ => rfl
theorem bd_is_word : BindsOk ⟨f_is_word, top 21⟩ := fun _ _ _ _ _ _ us hl => match us, hl with | [_], _ => rfl
theorem bd_are_parts : BindsOk ⟨f_are_parts, top 24⟩ := fun _ _ _ _ _ _ us hl => match us, hl with | [_, _], _ => rfl
theorem bd_is_ratio : BindsOk ⟨f_is_ratio, top 12⟩ := fun _ _ _ _ _ _ us hl => match us, hl with | [_], _ => rfl
theorem bd_is_whole : BindsOk ⟨f_is_whole, top 11⟩ := fun _ _ _ _ _ _ us hl => match us, hl with | [_], _ => rfl
theorem bd_need_any_prices : BindsOk ⟨f_need_any_prices, top 38⟩ := fun _ _ _ _ _ _ us hl => match us, hl with | [_, _], _ => rfl
theorem bd_are_ratios : BindsOk ⟨f_are_ratios, top 33⟩ := fun _ _ _ _ _ _ us hl => match us, hl with | [_, _], _ => rfl
theorem bd_need_regular : BindsOk ⟨f_need_regular, top 36⟩ := fun _ _ _ _ _ _ us hl => match us, hl with | [_], _ => rfl
theorem bd_inverse_of : BindsOk ⟨f_inverse_of, top 35⟩ := fun _ _ _ _ _ _ us hl => match us, hl with | [_], _ => rfl
theorem bd_over : BindsOk ⟨f_over, top 17⟩ := fun _ _ _ _ _ _ us hl => match us, hl with | [_, _], _ => rfl
theorem bd_lowest : BindsOk ⟨f_lowest, top 13⟩ := fun _ _ _ _ _ _ us hl => match us, hl with | [_, _], _ => rfl
theorem bd_cleared_of : BindsOk ⟨f_cleared_of, top 34⟩ := fun _ _ _ _ _ _ us hl => match us, hl with | [_, _, _], _ => rfl
theorem bd_minus : BindsOk ⟨f_minus, top 15⟩ := fun _ _ _ _ _ _ us hl => match us, hl with | [_, _], _ => rfl
theorem bd_times : BindsOk ⟨f_times, top 16⟩ := fun _ _ _ _ _ _ us hl => match us, hl with | [_, _], _ => rfl
theorem bd_dot : BindsOk ⟨f_dot, top 26⟩ := fun _ _ _ _ _ _ us hl => match us, hl with | [_, _], _ => rfl
theorem bd_total : BindsOk ⟨f_total, top 18⟩ := fun _ _ _ _ _ _ us hl => match us, hl with | [_], _ => rfl
theorem bd_plus : BindsOk ⟨f_plus, top 14⟩ := fun _ _ _ _ _ _ us hl => match us, hl with | [_, _], _ => rfl
theorem bd_amounts : BindsOk ⟨f_amounts, top 40⟩ := fun _ _ _ _ _ _ us hl => match us, hl with | [_, _], _ => rfl
theorem bd__law_dot : BindsOk ⟨f__law_dot, top 54⟩ := fun _ _ _ _ _ _ us hl => match us, hl with | [_, _], _ => rfl
theorem bd__law_sum : BindsOk ⟨f__law_sum, top 51⟩ := fun _ _ _ _ _ _ us hl => match us, hl with | [_], _ => rfl
theorem bd__law_plus : BindsOk ⟨f__law_plus, top 47⟩ := fun _ _ _ _ _ _ us hl => match us, hl with | [_, _], _ => rfl
theorem bd_turned_back : BindsOk ⟨f_turned_back, top 37⟩ := fun _ _ _ _ _ _ us hl => match us, hl with | [_], _ => rfl
theorem bd__law_ld_amount : BindsOk ⟨f__law_ld_amount, top 56⟩ := fun _ _ _ _ _ _ us hl => match us, hl with | [_, _], _ => rfl
theorem bds : ∀ d ∈ defs, BindsOk d := fun d hd => by
  unfold defs at hd
  rcases List.mem_cons.mp hd with rfl | hd; · exact bd_law
  rcases List.mem_cons.mp hd with rfl | hd; · exact bd__law_begun
  rcases List.mem_cons.mp hd with rfl | hd; · exact bd__law_in_inputs
  rcases List.mem_cons.mp hd with rfl | hd; · exact bd__law_words
  rcases List.mem_cons.mp hd with rfl | hd; · exact bd__law_draw
  rcases List.mem_cons.mp hd with rfl | hd; · exact bd__law_blended
  rcases List.mem_cons.mp hd with rfl | hd; · exact bd__law_pick
  rcases List.mem_cons.mp hd with rfl | hd; · exact bd__law_q
  rcases List.mem_cons.mp hd with rfl | hd; · exact bd__law_times
  rcases List.mem_cons.mp hd with rfl | hd; · exact bd__law_in_known
  rcases List.mem_cons.mp hd with rfl | hd; · exact bd__law_solved
  rcases List.mem_cons.mp hd with rfl | hd; · exact bd__law_over
  rcases List.mem_cons.mp hd with rfl | hd; · exact bd__law_minus
  rcases List.mem_cons.mp hd with rfl | hd; · exact bd__law_number
  rcases List.mem_cons.mp hd with rfl | hd; · exact bd_rewards
  rcases List.mem_cons.mp hd with rfl | hd; · exact bd_need_square
  rcases List.mem_cons.mp hd with rfl | hd; · exact bd_need_inputs
  rcases List.mem_cons.mp hd with rfl | hd; · exact bd_is_inputs
  rcases List.mem_cons.mp hd with rfl | hd; · exact bd_are_names
  rcases List.mem_cons.mp hd with rfl | hd; · exact bd_is_word
  rcases List.mem_cons.mp hd with rfl | hd; · exact bd_are_parts
  rcases List.mem_cons.mp hd with rfl | hd; · exact bd_is_ratio
  rcases List.mem_cons.mp hd with rfl | hd; · exact bd_is_whole
  rcases List.mem_cons.mp hd with rfl | hd; · exact bd_need_any_prices
  rcases List.mem_cons.mp hd with rfl | hd; · exact bd_are_ratios
  rcases List.mem_cons.mp hd with rfl | hd; · exact bd_need_regular
  rcases List.mem_cons.mp hd with rfl | hd; · exact bd_inverse_of
  rcases List.mem_cons.mp hd with rfl | hd; · exact bd_over
  rcases List.mem_cons.mp hd with rfl | hd; · exact bd_lowest
  rcases List.mem_cons.mp hd with rfl | hd; · exact bd_cleared_of
  rcases List.mem_cons.mp hd with rfl | hd; · exact bd_minus
  rcases List.mem_cons.mp hd with rfl | hd; · exact bd_times
  rcases List.mem_cons.mp hd with rfl | hd; · exact bd_dot
  rcases List.mem_cons.mp hd with rfl | hd; · exact bd_total
  rcases List.mem_cons.mp hd with rfl | hd; · exact bd_plus
  rcases List.mem_cons.mp hd with rfl | hd; · exact bd_amounts
  rcases List.mem_cons.mp hd with rfl | hd; · exact bd__law_dot
  rcases List.mem_cons.mp hd with rfl | hd; · exact bd__law_sum
  rcases List.mem_cons.mp hd with rfl | hd; · exact bd__law_plus
  rcases List.mem_cons.mp hd with rfl | hd; · exact bd_turned_back
  rcases List.mem_cons.mp hd with rfl | hd; · exact bd__law_ld_amount
  cases hd
def fa : List He.Fa := faE defs
def fnD : List He.DefD := defs.map mkD
abbrev Rw : PySem.W.OpenRow := PySem.W.OpenLaw.row PySem.Challenge.rw_goodsbygoods_k60_whole_rewards_and_amoun
abbrev hk : PySem.W.Hook := hookE 4 fa fnD gl true
def ob (s : PySem.W.SharedT) : AlE := obsE 4 fa fnD gl true (HandSHeadRun.getT s)
theorem ob_eq (s : PySem.W.SharedT) : ob s = hk.obs s.abs := obsE_eq (HandSHeadRun.getT_eq s)
abbrev qv : Program := PySem.W.view (PySem.W.OpenLaw.row PySem.Challenge.rw_goodsbygoods_k60_whole_rewards_and_amoun).prog [0, 59]
abbrev lo : List PySem.Str := (["GoodsError", "BadPrices", "BadStocks", "BadInputs", "NotSquare", "NotRegular", "ZERO", "ONE", "is_whole", "is_ratio", "lowest", "plus", "minus", "times", "over", "total", "LETTERS", "is_word", "are_names", "are_parts", "dot", "MOST_KINDS", "MOST_GOODS", "is_inputs", "need_inputs", "need_square", "are_ratios", "cleared_of", "inverse_of", "need_regular", "turned_back", "need_any_prices", "rewards", "amounts", "_law_begun", "_law_blended", "_law_draw", "_law_pick", "_law_q", "_law_plus", "_law_minus", "_law_times", "_law_over", "_law_sum", "_law_words", "_law_number", "_law_dot", "_law_solved", "_law_ld_amount", "_law_in_inputs", "_law_in_known"] : List String).map PySem.Str.ofString
theorem run (w : World) : HandSHeadRun.RunEqI Rw qv hk ob 3000 lo w := by
  unfold HandSHeadRun.RunEqI
  kernel_rfl

theorem head (hp : ∀ ns : List Int, ns.length ≤ 63 → ∃ o', sem (gsE gl) (defs.map (·.fn)) 12 0 [.scr (ns.map .int)] [] = .ok (.bl true) o') : PySem.Challenge.rw_goodsbygoods_k60_whole_rewards_and_amoun.Holds := by
  w_on; o_law
  refine HandSHeadRun.head_imp (r := Rw) (q := qv) (H := hk) (ob := ob) (M := 3000) (loose := lo) (d := HandSHeadRun.topDef Rw.prog 59) (kwd := []) ob_eq run
    (by kernel_rfl) (by kernel_rfl) (by kernel_rfl) (by rfl) (by first | assumption | decide +kernel) (by decide +kernel) ⟨rfl, rfl, rfl, rfl, rfl, by decide +kernel⟩ ?hw ?hc
  case hw => w_witness2
  case hc =>
    refine L2.walk_ofE (l := PySem.Challenge.rw_goodsbygoods_k60_whole_rewards_and_amoun) (n := 63) (k := 12) (x := "script") (CX := L2.CX0) rfl (by decide) (by kernel_rfl) ⟨rfl, by decide, by decide⟩ ?F (fun _ _ _ _ z => z)
    intro w mg fa h Y G hmg0
    obtain ⟨K, KX, c, c2⟩ := Y
    have known : mg ("law" : PySem.Str) = some (.ref fa) := by
      have e : (HandSHeadRun.topDef Rw.prog 59).name = ("law" : PySem.Str) := by kernel_rfl
      rw [← e]
      exact hmg0
    obtain ⟨fd, hF, hb⟩ := law_in (P := (PySem.Challenge.rw_goodsbygoods_k60_whole_rewards_and_amoun).prog) (w := w) (k := 12) (i := 0) (here_of KX G c c2 chk_all bds) (fn := f_law) rfl rfl rfl known (x := "script") rfl
    refine ⟨K, fd, _, KX, hb, fun H a ns hl _ hS => ?_, fun base _ _ => hF base⟩
    obtain ⟨o', e⟩ := hp ns hl
    exact law_sp hS (fun _ _ _ => trivial) e

end K60

theorem PySem.Challenge.cw_goodsbygoods_k60_whole_rewards_and_amoun_holds : PySem.Challenge.rw_goodsbygoods_k60_whole_rewards_and_amoun.Holds :=
  K60.head fun ns h => by
    obtain ⟨o', e⟩ := K60.k60_pure (G := Ev.gsE K60.gl) (k := 4) (ns := ns) ⟨rfl, rfl, rfl, rfl, rfl⟩ h
    exact ⟨o', e⟩
